import PyProof.Rows.All
import Wide.All
import OpenK.AllK
import Wide.FinOn
import KE.KStateDown
import HandS.ForMost
import HandS.IsInst
import HandS.DictComp
import KE.KDictKeyed
import HandS.Wide
import HandS.Gcd
import HandS.Style
import HandS.Flow
import HandS.TupAny
import HandS.Conv
import HandS.Comp
import HandS.HeadHook2
import HandS.HeadEnd
import HandS.Head0
import HandS.Head1
import HandS.Head2
import HandS.HeadHook1
import HandS.Head3
import HandS.Deep
import KE.DataMinMax
import HandS.TupMul
import KE.KTupSum
import KE.SortData
import HandS.SetFor
import HandS.Strs
import HandS.TupSets
import HandS.TryOnly
import KE.DataCmp
import KE.KRevSl
import HandS.Flt
import KE.KDictDisplayH
import KE.KDictSum
import HandS.Iter
import PySem.Challenge.RW_shocksknown_k20_whole_histories_and_canc
set_option Elab.async false
set_option linter.all false
set_option maxRecDepth 100000
set_option maxHeartbeats 0
set_option exponentiation.threshold 500
set_option synthInstance.maxSize 5000
set_option synthInstance.maxHeartbeats 0
namespace PF
open PySem PySem.Spec PyProof.Rows L2
/-- data as the proofs see it: ref n is the n-th changeable list of the state; lst: a list that nobody changes any more; kst: a list that stood before (the script) -/
inductive D where
  | non | bl (b : Bool) | int (i : Int) | str (x : Str) | tup (xs : List D) | lst (xs : List D) | kst (xs : List D) | ref (n : Nat) | dct (ks vs : List D)
inductive MO where
  | lst (xs : List D) | dct (ks vs : List D) | lck (o : Obj) (ks vs : List D)
/-! keys of a dict -/
mutual
def dKey : D → Option NestedKey
  | .non => some .none
  | .bl b => some (.num (if b = true then 1 else 0))
  | .int i => some (.num i)
  | .tup xs => (dKeys xs).map .tup
  | _ => none
def dKeys : List D → Option (List NestedKey)
  | [] => some []
  | d :: ds => (dKey d).bind fun k => (dKeys ds).map (k :: ·)
end
abbrev Mem := List MO
abbrev Rho := List (Option D)
structure Wo where
  as : List Addr
  bad : Addr → Prop
  H : Hp
abbrev LINE : Nat := 16777216
theorem line_eq : sizeLine = LINE := sizeLine_eq
section
variable (K : PySem.W.Frag) (W : Wo)
def FzL (a : Addr) (vs : List V) : Prop := (W.H a = some (.lst vs) ∧ ¬ W.bad a) ∧ vs.length ≤ LINE
def FzK (a : Addr) (vs : List V) : Prop := (((∃ o, W.H a = some (.frz o (.lst vs))) ∧ ¬ W.bad a) ∨ SqL K (fun _ => none) a vs) ∧ vs.length ≤ LINE
/-- the dict's own object -/
def dxo (a : Addr) (o : Obj) : HO := .ext fun h => h.get? a = some o
/-- entries: their keys, as data, as values, and what stands there -/
def EnL : List NestedKey → List V → List V → List DictEntry → Prop
  | [], kv, vv, es => kv = [] ∧ vv = [] ∧ es = []
  | k :: ks, kv, vv, es => ∃ x xs y ys e es', kv = x :: xs ∧ vv = y :: ys ∧ es = e :: es' ∧ RelV x e.key ∧ RelV y e.val ∧ (∀ w : World, e.hash = k.hash w) ∧ EnL ks xs ys es'
def D.isI : D → Bool
  | .int _ => true
  | _ => false
def D.isT : D → Bool
  | .tup _ => true
  | _ => false
/-- what is known of a dict's object -/
structure DEnt (a : Addr) (o : Obj) (ks : List D) (kv vv : List V) : Prop where
  ex : o.ExactDict
  sm : (a == sysModules) = false
  ln : ks.length ≤ LINE
  one : ks.all D.isI = true ∨ ks.all D.isT = true
  en : ∃ nks es ep, dKeys ks = some nks ∧ nks.Nodup ∧ (∀ k ∈ nks, k.depth ≤ 8) ∧ o.data = .dict es ep ∧ EnL nks kv vv es.toList
def FzT (a : Addr) (vs : List V) : Prop := ((W.H a = some (.tup vs) ∧ ¬ W.bad a) ∨ SqT K (fun _ => none) a vs) ∧ vs.length ≤ LINE
mutual
def Rp : D → V → Prop
  | .non, v => v = .non
  | .bl b, v => v = .bl b
  | .int i, v => v = .int i
  | .str x, v => v = .str x
  | .tup ds, v => ∃ a vs, v = .ref a ∧ FzT K W a vs ∧ RpL ds vs
  | .lst ds, v => ∃ a vs, v = .ref a ∧ FzL W a vs ∧ RpL ds vs
  | .kst ds, v => ∃ a vs, v = .ref a ∧ FzK K W a vs ∧ RpL ds vs
  | .ref n, v => ∃ a, W.as[n]? = some a ∧ v = .ref a
  | .dct ks vs, v => ∃ a o kv vv, v = .ref a ∧ (W.H a = some (dxo a o) ∧ ¬ W.bad a) ∧ DEnt a o ks kv vv ∧ RpL ks kv ∧ RpL vs vv
def RpL : List D → List V → Prop
  | [], vs => vs = []
  | d :: ds, vs => ∃ v r, vs = v :: r ∧ Rp d v ∧ RpL ds r
end
def MoOk (a : Addr) : MO → Prop
  | .lst ds => ∃ vs, (W.H a = some (.lst vs) ∧ vs.length ≤ LINE) ∧ RpL K W ds vs
  | .dct ks vs => ∃ o kv vv, W.H a = some (dxo a o) ∧ DEnt a o ks kv vv ∧ RpL K W ks kv ∧ RpL K W vs vv
  | .lck o ks vs => ∃ kv vv, W.H a = some (dxo a o) ∧ DEnt a o ks kv vv ∧ RpL K W ks kv ∧ RpL K W vs vv
structure SR (M : Mem) : Prop where
  len : W.as.length = M.length
  nd : W.as.Nodup
  sub : ∀ a ∈ W.as, W.bad a
  bt : ∀ a, W.bad a → ∃ o, W.H a = some o
  obj : ∀ (n : Nat) (a : Addr) (mo : MO), W.as[n]? = some a → M[n]? = some mo → MoOk K W a mo
structure Sl (ρ : Rho) (σ : L2.St) : Prop where
  len : ρ.length = σ.length
  at_ : ∀ (i : Nat) (d : D), ρ[i]? = some (some d) → ∃ v, σ[i]? = some (some v) ∧ Rp K W d v
end
/-- one state behind another -/
structure Ext (W W' : Wo) : Prop where
  as : ∃ new, W'.as = W.as ++ new ∧ ∀ a ∈ new, W.H a = none
  bad : ∀ a, W.bad a → W'.bad a
  new : ∀ a, W'.bad a → W.bad a ∨ W.H a = none
  keep : ∀ a o, a ∉ W.as → W.H a = some o → W'.H a = some o
  live : ∀ a o, W.H a = some o → ∃ o', W'.H a = some o'
theorem Ext.refl (W : Wo) : Ext W W := ⟨⟨[], by simp, fun _ h => by simp at h⟩, fun _ h => h, fun _ h => .inl h, fun _ _ _ h => h, fun _ o h => ⟨o, h⟩⟩
theorem none_of_live {W W' : Wo} (e : Ext W W') {a : Addr} (h : W'.H a = none) : W.H a = none := by
  cases q : W.H a with
  | none => rfl
  | some o => obtain ⟨o', h'⟩ := e.live a o q; rw [h] at h'; cases h'
theorem Ext.trans {W W1 W2 : Wo} (e : Ext W W1) (e' : Ext W1 W2) : Ext W W2 := by
  obtain ⟨n1, h1, f1⟩ := e.as
  obtain ⟨n2, h2, f2⟩ := e'.as
  refine ⟨⟨n1 ++ n2, by rw [h2, h1, List.append_assoc], fun a ha => ?_⟩, fun a h => e'.bad a (e.bad a h), fun a h => ?_, fun a o ha h => ?_, fun a o h => ?_⟩
  · rcases List.mem_append.mp ha with h | h
    · exact f1 a h
    · exact none_of_live e (f2 a h)
  · rcases e'.new a h with h | h
    · exact e.new a h
    · exact .inr (none_of_live e h)
  · refine e'.keep a o (fun z => ?_) (e.keep a o ha h)
    rw [h1] at z
    rcases List.mem_append.mp z with z | z
    · exact ha z
    · rw [f1 a z] at h; cases h
  · obtain ⟨o', h'⟩ := e.live a o h
    exact e'.live a o' h'
section
variable {K : PySem.W.Frag} {W W' : Wo}
theorem Ext.frz {a : Addr} {u : HO} (e : Ext W W') (hs : ∀ a ∈ W.as, W.bad a) (h : W.H a = some u ∧ ¬ W.bad a) : W'.H a = some u ∧ ¬ W'.bad a := by
  obtain ⟨h, nb⟩ := h
  have na : a ∉ W.as := fun z => nb (hs a z)
  refine ⟨e.keep a _ na h, fun z => ?_⟩
  rcases e.new a z with z | z
  · exact nb z
  · rw [h] at z; cases z
mutual
theorem Rp.ext (e : Ext W W') (hs : ∀ a ∈ W.as, W.bad a) : ∀ (d : D) (v : V), Rp K W d v → Rp K W' d v
  | .non, _, h => h
  | .bl _, _, h => h
  | .int _, _, h => h
  | .str _, _, h => h
  | .tup ds, v, h => by
    obtain ⟨a, vs, e1, f, r⟩ := h
    exact ⟨a, vs, e1, ⟨f.1.imp (fun q => e.frz hs q) fun q => q, f.2⟩, RpL.ext e hs ds vs r⟩
  | .lst ds, v, h => by
    obtain ⟨a, vs, e1, f, r⟩ := h
    exact ⟨a, vs, e1, ⟨e.frz hs f.1, f.2⟩, RpL.ext e hs ds vs r⟩
  | .kst ds, v, h => by
    obtain ⟨a, vs, e1, f, r⟩ := h
    refine ⟨a, vs, e1, ⟨f.1.imp (fun q => ?_) fun q => q, f.2⟩, RpL.ext e hs ds vs r⟩
    obtain ⟨⟨o, q⟩, nb⟩ := q
    obtain ⟨q', nb'⟩ := e.frz hs ⟨q, nb⟩
    exact ⟨⟨o, q'⟩, nb'⟩
  | .ref n, v, h => by
    obtain ⟨a, h1, h2⟩ := h
    obtain ⟨new, h3, _⟩ := e.as
    refine ⟨a, ?_, h2⟩
    rw [h3]
    exact (List.getElem?_append_left (List.getElem?_eq_some_iff.mp h1).1).trans h1
  | .dct ks vs, v, h => by
    obtain ⟨a, o, kv, vv, e1, f, d, r1, r2⟩ := h
    exact ⟨a, o, kv, vv, e1, e.frz hs f, d, RpL.ext e hs ks kv r1, RpL.ext e hs vs vv r2⟩
theorem RpL.ext (e : Ext W W') (hs : ∀ a ∈ W.as, W.bad a) : ∀ (ds : List D) (vs : List V), RpL K W ds vs → RpL K W' ds vs
  | [], _, h => h
  | d :: ds, vs, h => by
    obtain ⟨v, r, e1, h1, h2⟩ := h
    exact ⟨v, r, e1, Rp.ext e hs d v h1, RpL.ext e hs ds r h2⟩
end
theorem Sl.ext {ρ : Rho} {σ : L2.St} (e : Ext W W') (hs : ∀ a ∈ W.as, W.bad a) (h : Sl K W ρ σ) : Sl K W' ρ σ :=
  ⟨h.len, fun i d hd => let ⟨v, h1, h2⟩ := h.at_ i d hd; ⟨v, h1, h2.ext e hs⟩⟩
theorem RpL.len : ∀ {ds : List D} {vs : List V}, RpL K W ds vs → ds.length = vs.length
  | [], _, h => by cases (show _ = _ from h); rfl
  | _ :: _, _, h => by
    obtain ⟨v, r, rfl, _, h2⟩ := h
    simp [RpL.len h2]
theorem RpL.get : ∀ {ds : List D} {vs : List V} {i : Nat} {d : D}, RpL K W ds vs → ds[i]? = some d → ∃ v, vs[i]? = some v ∧ Rp K W d v
  | [], _, _, _, _, h => by simp at h
  | x :: _, _, 0, d, h, e => by
    obtain ⟨v, r, rfl, h1, _⟩ := h
    simp at e; subst e
    exact ⟨v, rfl, h1⟩
  | _ :: _, _, i + 1, d, h, e => by
    obtain ⟨v, r, rfl, _, h2⟩ := h
    obtain ⟨u, a, b⟩ := RpL.get (i := i) (d := d) h2 (by simpa using e)
    exact ⟨u, by simpa using a, b⟩
theorem RpL.append : ∀ {ds es : List D} {vs us : List V}, RpL K W ds vs → RpL K W es us → RpL K W (ds ++ es) (vs ++ us)
  | [], _, _, _, h, h' => by cases (show _ = _ from h); exact h'
  | _ :: _, _, _, _, h, h' => by
    obtain ⟨v, r, rfl, h1, h2⟩ := h
    exact ⟨v, r ++ _, rfl, h1, RpL.append h2 h'⟩
theorem RpL.one {d : D} {v : V} (h : Rp K W d v) : RpL K W [d] [v] := ⟨v, [], rfl, h, rfl⟩
theorem RpL.take : ∀ {ds : List D} {vs : List V} (n : Nat), RpL K W ds vs → RpL K W (ds.take n) (vs.take n)
  | _, _, 0, _ => rfl
  | [], _, _ + 1, h => by cases (show _ = _ from h); rfl
  | _ :: _, _, n + 1, h => by
    obtain ⟨v, r, rfl, h1, h2⟩ := h
    exact ⟨v, _, rfl, h1, RpL.take n h2⟩
theorem RpL.drop : ∀ {ds : List D} {vs : List V} (n : Nat), RpL K W ds vs → RpL K W (ds.drop n) (vs.drop n)
  | _, _, 0, h => h
  | [], _, _ + 1, h => by cases (show _ = _ from h); rfl
  | _ :: _, _, n + 1, h => by
    obtain ⟨v, r, rfl, h1, h2⟩ := h
    exact RpL.drop n h2
theorem RpL.set : ∀ {ds : List D} {vs : List V} {d : D} {v : V} (n : Nat), RpL K W ds vs → Rp K W d v → RpL K W (ds.set n d) (vs.set n v)
  | [], _, _, _, _, h, _ => by cases (show _ = _ from h); exact rfl
  | _ :: _, _, _, _, 0, h, q => by
    obtain ⟨v, r, rfl, h1, h2⟩ := h
    exact ⟨_, _, rfl, q, h2⟩
  | _ :: _, _, _, _, n + 1, h, q => by
    obtain ⟨v, r, rfl, h1, h2⟩ := h
    exact ⟨_, _, rfl, h1, RpL.set n h2 q⟩
theorem RpL.reverse : ∀ {ds : List D} {vs : List V}, RpL K W ds vs → RpL K W ds.reverse vs.reverse
  | [], _, h => by cases (show _ = _ from h); exact rfl
  | d :: ds, _, h => by
    obtain ⟨v, r, rfl, h1, h2⟩ := h
    rw [List.reverse_cons, List.reverse_cons]
    exact (RpL.reverse h2).append (.one h1)
end
/-! ### what a piece of code computes -/
inductive Out where
  | nx (ρ : Rho) | ret (d : D) | bk (ρ : Rho) | ct (ρ : Rho)
abbrev FE := Rho → Mem → Option (D × Mem)
abbrev FT := Rho → Mem → Option (Bool × Mem)
abbrev FA := Rho → Mem → Option (List D × Mem)
abbrev FS := Rho → Mem → Option (Out × Mem)
def liftE (K : PySem.W.Frag) (f : FE) : TE := fun σ H Q => ∃ W ρ M, W.H = H ∧ SR K W M ∧ Sl K W ρ σ ∧ ∃ d M', f ρ M = some (d, M') ∧
  ∀ W' v, Ext W W' → SR K W' M' → Rp K W' d v → Q v W'.H
def liftT (K : PySem.W.Frag) (f : FT) : TT := fun σ H Q => ∃ W ρ M, W.H = H ∧ SR K W M ∧ Sl K W ρ σ ∧ ∃ d M', f ρ M = some (d, M') ∧
  ∀ W', Ext W W' → SR K W' M' → Q d W'.H
def liftA (K : PySem.W.Frag) (f : FA) : TA := fun σ H Q => ∃ W ρ M, W.H = H ∧ SR K W M ∧ Sl K W ρ σ ∧ ∃ d M', f ρ M = some (d, M') ∧
  ∀ W' v, Ext W W' → SR K W' M' → RpL K W' d v → Q v W'.H
/-- a new list comes last, nothing else knows it -/
def liftN (K : PySem.W.Frag) (f : FA) : TE := fun σ H Q => ∃ W ρ M, W.H = H ∧ SR K W M ∧ Sl K W ρ σ ∧ ∃ d M', f ρ M = some (d, M') ∧
  ∀ W' p vs, Ext W W' → SR K W' M' → W'.H p = none → RpL K W' d vs → vs.length ≤ LINE → Q (.ref p) (upd W'.H p (.lst vs))
def liftS (K : PySem.W.Frag) (f : FS) : TS := fun E σ H => ∃ W ρ M, W.H = H ∧ SR K W M ∧ Sl K W ρ σ ∧ ∃ o M', f ρ M = some (o, M') ∧
  match o with
  | .nx ρ' => ∀ W' σ', Ext W W' → SR K W' M' → Sl K W' ρ' σ' → E.nx σ' W'.H
  | .bk ρ' => ∀ W' σ', Ext W W' → SR K W' M' → Sl K W' ρ' σ' → E.bk σ' W'.H
  | .ct ρ' => ∀ W' σ', Ext W W' → SR K W' M' → Sl K W' ρ' σ' → E.ct σ' W'.H
  | .ret d => ∀ W' v, Ext W W' → SR K W' M' → Rp K W' d v → E.rt v W'.H
/-! ### weakening -/
section
variable {X : Cx}
theorem pe_weak {e : Expr} {t t' : TE} (h : PE X e t) (i : ∀ σ H Q, t' σ H Q → t σ H Q) : PE X e t' := ⟨fun pins s σ H Q I q => h.run pins s σ H Q I (i σ H Q q)⟩
theorem pt_weak {e : Expr} {t t' : TT} (h : PT X e t) (i : ∀ σ H Q, t' σ H Q → t σ H Q) : PT X e t' := ⟨fun pins s σ H Q I q => h.run pins s σ H Q I (i σ H Q q)⟩
theorem pw_weak {e : Expr} {t t' : TT} (h : PW X e t) (i : ∀ σ H Q, t' σ H Q → t σ H Q) : PW X e t' := ⟨fun wh pins s σ H Q I q => h.run wh pins s σ H Q I (i σ H Q q)⟩
theorem pa_weak {e : List Expr} {t t' : TA} (h : PA X e t) (i : ∀ σ H Q, t' σ H Q → t σ H Q) : PA X e t' := ⟨fun pos pins s σ H Q I q => h.run pos pins s σ H Q I (i σ H Q q)⟩
theorem ps_weak {e : Stmt} {t t' : TS} (h : PS X e t) (i : ∀ σ H Q, t' σ H Q → t σ H Q) : PS X e t' := ⟨fun pins s σ H D I q => h.run pins s σ H D I (i D σ H q)⟩
theorem pss_weak {e : List Stmt} {t t' : TS} (h : PSs X e t) (i : ∀ σ H Q, t' σ H Q → t σ H Q) : PSs X e t' := ⟨fun pins s σ H D I q => h.run pins s σ H D I (i D σ H q)⟩
abbrev PFE (X : Cx) (e : Expr) (f : FE) : Prop := PE X e (liftE X.K f)
abbrev PFN (X : Cx) (e : Expr) (f : FA) : Prop := PE X e (liftN X.K f)
abbrev PFT (X : Cx) (e : Expr) (f : FT) : Prop := PT X e (liftT X.K f)
abbrev PFW (X : Cx) (e : Expr) (f : FT) : Prop := PW X e (liftT X.K f)
abbrev PFA (X : Cx) (e : List Expr) (f : FA) : Prop := PA X e (liftA X.K f)
abbrev PFS (X : Cx) (e : Stmt) (f : FS) : Prop := PS X e (liftS X.K f)
abbrev PFSs (X : Cx) (e : List Stmt) (f : FS) : Prop := PSs X e (liftS X.K f)
end
end PF
namespace PF
open PySem PySem.Spec PyProof.Rows L2
/-! ### the state's steps -/
section
variable {K : PySem.W.Frag} {W W' : Wo} {M : Mem}
def Wo.put (W : Wo) (p : Addr) (o : HO) : Wo := { W with H := upd W.H p o }
theorem Ext.put {p : Addr} {o : HO} (hp : W.H p = none) : Ext W (W.put p o) :=
  ⟨⟨[], by simp [Wo.put], fun _ h => by simp at h⟩, fun _ h => h, fun _ h => .inl h, fun a u _ h => (upd_ne (ne_of_none h hp)).trans h, fun a u h => ⟨u, (upd_ne (ne_of_none h hp)).trans h⟩⟩
theorem MoOk.ext {a : Addr} {mo : MO} (e : Ext W W') (hs : ∀ a ∈ W.as, W.bad a) (h : MoOk K W a mo) (ha : W'.H a = W.H a) : MoOk K W' a mo := by
  cases mo with
  | lst ds => obtain ⟨vs, h1, h2⟩ := h; exact ⟨vs, ⟨ha.trans h1.1, h1.2⟩, h2.ext e hs⟩
  | dct ks vs => obtain ⟨o, kv, vv, h1, h2, h3, h4⟩ := h; exact ⟨o, kv, vv, ha.trans h1, h2, h3.ext e hs, h4.ext e hs⟩
  | lck o ks vs => obtain ⟨kv, vv, h1, h2, h3, h4⟩ := h; exact ⟨kv, vv, ha.trans h1, h2, h3.ext e hs, h4.ext e hs⟩
theorem MoOk.there {a : Addr} {mo : MO} (h : MoOk K W a mo) : ∃ o, W.H a = some o := by
  cases mo with
  | lst ds => obtain ⟨vs, h1, h2⟩ := h; exact ⟨_, h1.1⟩
  | dct ks vs => obtain ⟨o, kv, vv, h1, h2, h3, h4⟩ := h; exact ⟨_, h1⟩
  | lck o ks vs => obtain ⟨kv, vv, h1, h2, h3, h4⟩ := h; exact ⟨_, h1⟩
theorem SR.at_ (sr : SR K W M) {n : Nat} {a : Addr} (h : W.as[n]? = some a) : ∃ mo, M[n]? = some mo ∧ MoOk K W a mo := by
  have hn : n < M.length := by rw [← sr.len]; exact (List.getElem?_eq_some_iff.mp h).1
  exact ⟨M[n], by simp [hn], sr.obj n a _ h (by simp [hn])⟩
theorem SR.addr (sr : SR K W M) {n : Nat} {mo : MO} (h : M[n]? = some mo) : ∃ a, W.as[n]? = some a ∧ MoOk K W a mo := by
  have hn : n < W.as.length := by rw [sr.len]; exact (List.getElem?_eq_some_iff.mp h).1
  exact ⟨W.as[n], by simp [hn], sr.obj n _ mo (by simp [hn]) h⟩
theorem SR.put {p : Addr} {o : HO} (sr : SR K W M) (hp : W.H p = none) : SR K (W.put p o) M := by
  refine ⟨sr.len, sr.nd, sr.sub, fun a h => ?_, fun n a mo h1 h2 => ?_⟩
  · obtain ⟨o, q⟩ := sr.bt a h
    exact (Ext.put hp).live a o q
  · have m := sr.obj n a mo h1 h2
    obtain ⟨o', q⟩ := m.there
    exact m.ext (Ext.put hp) sr.sub (upd_ne (ne_of_none q hp))
theorem SR.nb {p : Addr} (sr : SR K W M) (hp : W.H p = none) : ¬ W.bad p := fun z => by
  obtain ⟨o, q⟩ := sr.bt p z
  rw [hp] at q; cases q
theorem Rp.newTup {p : Addr} {ds : List D} {vs : List V} (sr : SR K W M) (hp : W.H p = none) (h : RpL K W ds vs) (hl : vs.length ≤ LINE) : Rp K (W.put p (.tup vs)) (.tup ds) (.ref p) :=
  ⟨p, vs, rfl, ⟨.inl ⟨upd_same, sr.nb hp⟩, hl⟩, h.ext (Ext.put hp) sr.sub⟩
theorem Rp.newLst {p : Addr} {ds : List D} {vs : List V} (sr : SR K W M) (hp : W.H p = none) (h : RpL K W ds vs) (hl : vs.length ≤ LINE) : Rp K (W.put p (.lst vs)) (.lst ds) (.ref p) :=
  ⟨p, vs, rfl, ⟨⟨upd_same, sr.nb hp⟩, hl⟩, h.ext (Ext.put hp) sr.sub⟩
/-- a new changeable list -/
def Wo.mk2 (W : Wo) (p : Addr) (o : HO) : Wo := ⟨W.as ++ [p], fun a => W.bad a ∨ a = p, upd W.H p o⟩
theorem Ext.mk2 {p : Addr} {o : HO} (hp : W.H p = none) : Ext W (W.mk2 p o) := by
  refine ⟨⟨[p], rfl, fun a h => ?_⟩, fun _ h => .inl h, fun a h => ?_, fun a u _ h => (upd_ne (ne_of_none h hp)).trans h, fun a u h => ⟨u, (upd_ne (ne_of_none h hp)).trans h⟩⟩
  · have e : a = p := by simpa using h
    rw [e]; exact hp
  · rcases h with h | h
    · exact .inl h
    · rw [h]; exact .inr hp
theorem SR.mk2g {p : Addr} {o : HO} {mo0 : MO} (sr : SR K W M) (hp : W.H p = none) (h : MoOk K (W.mk2 p o) p mo0) : SR K (W.mk2 p o) (M ++ [mo0]) := by
  have npa : p ∉ W.as := fun z => sr.nb hp (sr.sub p z)
  have E := Ext.mk2 (W := W) (o := o) hp
  refine ⟨by simp [Wo.mk2, sr.len], ?_, fun a h => ?_, fun a h => ?_, fun n a mo h1 h2 => ?_⟩
  · show (W.as ++ [p]).Nodup
    rw [List.nodup_append]
    refine ⟨sr.nd, by simp, fun a ha b hb => ?_⟩
    have e : b = p := by simpa using hb
    rw [e]; rintro rfl; exact npa ha
  · rcases List.mem_append.mp h with h | h
    · exact .inl (sr.sub a h)
    · exact .inr (by simpa using h)
  · rcases h with h | h
    · obtain ⟨o, q⟩ := sr.bt a h
      exact E.live a o q
    · rw [h]; exact ⟨_, upd_same⟩
  · have h1' : (W.as ++ [p])[n]? = some a := h1
    by_cases hn : n < W.as.length
    · rw [List.getElem?_append_left hn] at h1'
      rw [List.getElem?_append_left (by rw [← sr.len]; exact hn)] at h2
      have m := sr.obj n a mo h1' h2
      obtain ⟨o', q⟩ := m.there
      exact m.ext E sr.sub (upd_ne (ne_of_none q hp))
    · have e : n = W.as.length := by
        have := (List.getElem?_eq_some_iff.mp h1').1
        simp at this; omega
      subst e
      have ea : p = a := by simpa using h1'
      have em : mo0 = mo := by
        rw [sr.len] at h2
        simpa using h2
      subst ea em
      exact h
theorem SR.mk2 {p : Addr} {ds : List D} {vs : List V} (sr : SR K W M) (hp : W.H p = none) (h : RpL K W ds vs) (hl : vs.length ≤ LINE) : SR K (W.mk2 p (.lst vs)) (M ++ [.lst ds]) :=
  sr.mk2g hp ⟨vs, ⟨upd_same, hl⟩, h.ext (Ext.mk2 hp) sr.sub⟩
theorem Rp.mk2 {p : Addr} {o : HO} (sr : SR K W M) : Rp K (W.mk2 p o) (.ref M.length) (.ref p) := ⟨p, by show (W.as ++ [p])[M.length]? = _; rw [← sr.len]; simp, rfl⟩
/-- a changeable list is written -/
theorem Ext.wr {a : Addr} {o : HO} (ha : a ∈ W.as) : Ext W (W.put a o) := by
  refine ⟨⟨[], by simp [Wo.put], fun _ h => by simp at h⟩, fun _ h => h, fun _ h => .inl h, fun b u hb h => (upd_ne fun z => hb (by rw [z]; exact ha)).trans h, fun b u h => ?_⟩
  by_cases hb : b = a
  · subst hb; exact ⟨_, upd_same⟩
  · exact ⟨u, (upd_ne hb).trans h⟩
theorem SR.wrg {n : Nat} {a : Addr} {u : HO} {mo0 : MO} (sr : SR K W M) (hn : W.as[n]? = some a) (h : MoOk K (W.put a u) a mo0) : SR K (W.put a u) (M.set n mo0) := by
  have ha : a ∈ W.as := List.mem_of_getElem? hn
  have E := Ext.wr (W := W) (o := u) ha
  refine ⟨by rw [List.length_set]; exact sr.len, sr.nd, sr.sub, fun b hb => ?_, fun m b mo h1 h2 => ?_⟩
  · obtain ⟨o, q⟩ := sr.bt b hb
    exact E.live b o q
  · have h1' : W.as[m]? = some b := h1
    by_cases e : m = n
    · subst e
      rw [hn] at h1'; cases h1'
      have hm : m < M.length := by rw [← sr.len]; exact (List.getElem?_eq_some_iff.mp hn).1
      rw [List.getElem?_set_self hm] at h2
      cases h2
      exact h
    · rw [List.getElem?_set_ne (Ne.symm e)] at h2
      refine (sr.obj m b mo h1' h2).ext E sr.sub (upd_ne fun z => e ?_)
      subst z
      obtain ⟨q1, q2⟩ := List.getElem?_eq_some_iff.mp h1'
      obtain ⟨q3, q4⟩ := List.getElem?_eq_some_iff.mp hn
      exact (List.getElem_inj sr.nd).mp (q2.trans q4.symm)
theorem SR.wr {n : Nat} {a : Addr} {ds : List D} {vs : List V} (sr : SR K W M) (hn : W.as[n]? = some a) (h : RpL K W ds vs) (hl : vs.length ≤ LINE) : SR K (W.put a (.lst vs)) (M.set n (.lst ds)) :=
  sr.wrg hn ⟨vs, ⟨upd_same, hl⟩, h.ext (Ext.wr (List.mem_of_getElem? hn)) sr.sub⟩
end
/-! ### lists and tuples, read -/
def lsOf : D → Mem → Option (List D)
  | .lst xs, _ => some xs
  | .kst xs, _ => some xs
  | .ref n, M => match M[n]? with | some (.lst xs) => some xs | _ => none
  | _, _ => none
def sqOf : D → Mem → Option (List D)
  | .tup xs, _ => some xs
  | d, M => lsOf d M
section
variable {K : PySem.W.Frag} {W W' : Wo} {M : Mem} {d : D} {v : V} {xs : List D}
theorem SqL.any {H : Hp} {a : Addr} {vs : List V} (h : SqL K (fun _ => none) a vs) : SqL K H a vs := by
  rcases h with (h | ⟨o, h⟩) | h
  · cases (show (none : Option HO) = _ from h)
  · cases (show (none : Option HO) = _ from h)
  · exact .inr h
theorem SqT.any {H : Hp} {a : Addr} {vs : List V} (h : SqT K (fun _ => none) a vs) : SqT K H a vs := by
  rcases h with (h | ⟨o, h⟩) | h
  · cases (show (none : Option HO) = _ from h)
  · cases (show (none : Option HO) = _ from h)
  · exact .inr h
theorem ls_sq (sr : SR K W M) (h : Rp K W d v) (e : lsOf d M = some xs) : ∃ a vs, v = .ref a ∧ SqL K W.H a vs ∧ RpL K W xs vs := by
  cases d with
  | lst ds =>
    cases e
    obtain ⟨a, vs, e1, f, r⟩ := h
    exact ⟨a, vs, e1, .of f.1.1, r⟩
  | kst ds =>
    cases e
    obtain ⟨a, vs, e1, f, r⟩ := h
    refine ⟨a, vs, e1, ?_, r⟩
    rcases f.1 with ⟨⟨o, f⟩, _⟩ | f
    · exact .inl (.inr ⟨o, f⟩)
    · exact SqL.any f
  | ref n =>
    obtain ⟨a, h1, e1⟩ := h
    obtain ⟨mo, h2, m⟩ := sr.at_ h1
    have e' : (match M[n]? with | some (.lst xs) => some xs | _ => none) = some xs := e
    rw [h2] at e'
    cases mo with
    | lst ds =>
      cases e'
      obtain ⟨vs, q1, q2⟩ := m
      exact ⟨a, vs, e1, .of q1.1, q2⟩
    | dct _ _ => cases e'
    | lck _ _ _ => cases e'
  | _ => cases e
theorem ls_len (sr : SR K W M) (h : Rp K W d v) (e : lsOf d M = some xs) : xs.length ≤ LINE := by
  cases d with
  | lst ds =>
    cases e
    obtain ⟨a, vs, e1, f, r⟩ := h
    rw [r.len]; exact f.2
  | kst ds =>
    cases e
    obtain ⟨a, vs, e1, f, r⟩ := h
    rw [r.len]; exact f.2
  | ref n =>
    obtain ⟨a, h1, e1⟩ := h
    obtain ⟨mo, h2, m⟩ := sr.at_ h1
    have e' : (match M[n]? with | some (.lst xs) => some xs | _ => none) = some xs := e
    rw [h2] at e'
    cases mo with
    | lst ds =>
      cases e'
      obtain ⟨vs, q1, q2⟩ := m
      rw [q2.len]; exact q1.2
    | dct _ _ => cases e'
    | lck _ _ _ => cases e'
  | _ => cases e
theorem tp_sq (h : Rp K W (.tup xs) v) : ∃ a vs, v = .ref a ∧ SqT K W.H a vs ∧ RpL K W xs vs := by
  obtain ⟨a, vs, e1, f, r⟩ := h
  refine ⟨a, vs, e1, ?_, r⟩
  rcases f.1 with ⟨f, _⟩ | f
  · exact .of f
  · exact SqT.any f
theorem sq_len (sr : SR K W M) (h : Rp K W d v) (e : sqOf d M = some xs) : xs.length ≤ LINE := by
  cases d with
  | tup ds =>
    cases e
    obtain ⟨a, vs, e1, f, r⟩ := h
    rw [r.len]; exact f.2
  | lst ds => exact ls_len sr h e
  | kst ds => exact ls_len sr h e
  | ref n => exact ls_len sr h e
  | _ => cases e
theorem sq_sq (sr : SR K W M) (h : Rp K W d v) (e : sqOf d M = some xs) : ∃ a vs, v = .ref a ∧ (SqL K W.H a vs ∨ SqT K W.H a vs) ∧ RpL K W xs vs := by
  have l : lsOf d M = some xs → ∃ a vs, v = .ref a ∧ (SqL K W.H a vs ∨ SqT K W.H a vs) ∧ RpL K W xs vs := fun e => by
    obtain ⟨a, vs, h1, h2, h3⟩ := ls_sq sr h e
    exact ⟨a, vs, h1, .inl h2, h3⟩
  cases d with
  | tup ds =>
    cases e
    obtain ⟨a, vs, h1, h2, h3⟩ := tp_sq h
    exact ⟨a, vs, h1, .inr h2, h3⟩
  | _ => exact l e
end
/-! ### names, constants, two-place operations -/
def fVar (i : Nat) : FE := fun ρ M => match ρ[i]? with | some (some d) => some (d, M) | _ => none
def fC (d : D) : FE := fun _ M => some (d, M)
abbrev G1 := D → Mem → Option D
abbrev G2 := D → D → Mem → Option D
abbrev G2B := D → D → Mem → Option Bool
def f1 (g : G1) (fa : FE) : FE := fun ρ M => (fa ρ M).bind fun a => (g a.1 a.2).bind fun d => some (d, a.2)
def f2 (g : G2) (fa fb : FE) : FE := fun ρ M => (fa ρ M).bind fun a => (fb ρ a.2).bind fun b => (g a.1 b.1 b.2).bind fun d => some (d, b.2)
def gB (g : G2B) : G2 := fun x y M => (g x y M).map .bl
def f2T (g : G2B) (fa fb : FE) : FT := fun ρ M => (fa ρ M).bind fun a => (fb ρ a.2).bind fun b => (g a.1 b.1 b.2).bind fun d => some (d, b.2)
/-- the operation's reading follows from what it computes -/
def Op1 (K : PySem.W.Frag) (r : V → Hp → VK → Prop) (g : G1) : Prop := ∀ (W : Wo) (M : Mem) (x d : D) (v : V) (Q : VK), SR K W M → Rp K W x v → g x M = some d →
  (∀ W' v', Ext W W' → SR K W' M → Rp K W' d v' → Q v' W'.H) → r v W.H Q
def Op2 (K : PySem.W.Frag) (r : R2) (g : G2) : Prop := ∀ (W : Wo) (M : Mem) (x y d : D) (v u : V) (Q : VK), SR K W M → Rp K W x v → Rp K W y u → g x y M = some d →
  (∀ W' v', Ext W W' → SR K W' M → Rp K W' d v' → Q v' W'.H) → r v u W.H Q
section
variable {K : PySem.W.Frag}
theorem lift1 {r : V → Hp → VK → Prop} {g : G1} {fa : FE} (op : Op1 K r g) : ∀ σ H Q, liftE K (f1 g fa) σ H Q → tUn r (liftE K fa) σ H Q := by
  rintro σ H Q ⟨W, ρ, M, rfl, sr, sl, d, M', hf, k⟩
  obtain ⟨⟨x, M1⟩, hx, hf⟩ := Option.bind_eq_some_iff.mp hf
  obtain ⟨d', hg, hf⟩ := Option.bind_eq_some_iff.mp hf
  cases hf
  exact ⟨W, ρ, M, rfl, sr, sl, x, M1, hx, fun W1 v e1 s1 r1 => op W1 _ x d v Q s1 r1 hg fun W2 v' e2 s2 r2 => k W2 v' (e1.trans e2) s2 r2⟩
theorem lift2 {r : R2} {g : G2} {fa fb : FE} (op : Op2 K r g) : ∀ σ H Q, liftE K (f2 g fa fb) σ H Q → tOp r (liftE K fa) (liftE K fb) σ H Q := by
  rintro σ H Q ⟨W, ρ, M, rfl, sr, sl, d, M', hf, k⟩
  obtain ⟨⟨x, M1⟩, hx, hf⟩ := Option.bind_eq_some_iff.mp hf
  obtain ⟨⟨y, M2⟩, hy, hf⟩ := Option.bind_eq_some_iff.mp hf
  obtain ⟨d', hg, hf⟩ := Option.bind_eq_some_iff.mp hf
  cases hf
  exact ⟨W, ρ, M, rfl, sr, sl, x, M1, hx, fun W1 v e1 s1 r1 => ⟨W1, ρ, M1, rfl, s1, sl.ext e1 sr.sub, y, M2, hy, fun W2 u e2 s2 r2 =>
    op W2 _ x y d v u Q s2 (r1.ext e2 s1.sub) r2 hg fun W3 v' e3 s3 r3 => k W3 v' ((e1.trans e2).trans e3) s3 r3⟩⟩
theorem lift2T {r : R2} {g : G2B} {fa fb : FE} (op : Op2 K r (gB g)) : ∀ σ H Q, liftT K (f2T g fa fb) σ H Q → tTest (tOp r (liftE K fa) (liftE K fb)) σ H Q := by
  rintro σ H Q ⟨W, ρ, M, rfl, sr, sl, d, M', hf, k⟩
  obtain ⟨⟨x, M1⟩, hx, hf⟩ := Option.bind_eq_some_iff.mp hf
  obtain ⟨⟨y, M2⟩, hy, hf⟩ := Option.bind_eq_some_iff.mp hf
  obtain ⟨d', hg, hf⟩ := Option.bind_eq_some_iff.mp hf
  cases hf
  exact ⟨W, ρ, M, rfl, sr, sl, x, M1, hx, fun W1 v e1 s1 r1 => ⟨W1, ρ, M1, rfl, s1, sl.ext e1 sr.sub, y, M2, hy, fun W2 u e2 s2 r2 =>
    op W2 _ x y (.bl d) v u _ s2 (r1.ext e2 s1.sub) r2 (by rw [gB, hg]; rfl) fun W3 v' e3 s3 r3 => ⟨d, r3, k W3 ((e1.trans e2).trans e3) s3⟩⟩⟩
theorem Op2.or {r r' : R2} {g g' : G2} (h : Op2 K r g) (h' : Op2 K r' g') : Op2 K (fun x y H Q => r x y H Q ∨ r' x y H Q) (fun x y M => (g x y M).orElse fun _ => g' x y M) := by
  intro W M x y d v u Q sr rx ry hg k
  cases q : g x y M with
  | some z =>
    simp only [q, Option.orElse_some, Option.some.injEq] at hg
    subst hg
    exact .inl (h W M x y z v u Q sr rx ry q k)
  | none =>
    simp only [q, Option.orElse_none] at hg
    exact .inr (h' W M x y d v u Q sr rx ry hg k)
theorem Op2.sum {r r' : R2} {g : G2} (h : ∀ (W : Wo) (M : Mem) (x y d : D) (v u : V) (Q : VK), SR K W M → Rp K W x v → Rp K W y u → g x y M = some d →
  (∀ W' v', Ext W W' → SR K W' M → Rp K W' d v' → Q v' W'.H) → r v u W.H Q ∨ r' v u W.H Q) : Op2 K (fun x y H Q => r x y H Q ∨ r' x y H Q) g := h
end
section
variable {X : Cx} {a b c : Expr} {fa fb fc : FE} {pos : Pos}
theorem pf_var (i : Nat) {x : Str} {pos : Pos} (hN : X.N[i]? = some x := by rfl) (hv : Vis X.env.scope x := by first | exact Or.inl rfl | exact Or.inr (Or.inl rfl) | exact Or.inr (Or.inr rfl)) (hd : (x == ("__debug__" : Str)) = false := by decide)
    (hcd : (x == ("__classdict__" : Str)) = false := by decide) : PFE X (.Name x pos) (fVar i) := pe_weak (pe_var hN hv hd hcd) fun σ H Q ⟨W, ρ, M, hW, sr, sl, d, M', hf, k⟩ => by
  subst hW
  unfold fVar at hf
  split at hf
  · rename_i d' hd'
    cases hf
    obtain ⟨v, h1, h2⟩ := sl.at_ i _ hd'
    exact ⟨v, h1, k W v (.refl W) sr h2⟩
  · cases hf
theorem pf_c {d : D} {v : V} {e : Expr} (h : PE X e (tC v)) (r : ∀ W, Rp X.K W d v) : PFE X e (fC d) := pe_weak h fun σ H Q ⟨W, ρ, M, hW, sr, sl, d, M', hf, k⟩ => by
  subst hW
  cases hf
  exact k W v (.refl W) sr (r W)
theorem pf_int {i : Int} {j pos} : PFE X (.Constant (.int i) j pos) (fC (.int i)) := pf_c pe_int fun _ => rfl
theorem pf_bl {i : Bool} {j pos} : PFE X (.Constant (.bool i) j pos) (fC (.bl i)) := pf_c pe_bl fun _ => rfl
theorem pf_non {j pos} : PFE X (.Constant .none j pos) (fC .non) := pf_c pe_non fun _ => rfl
theorem pf_str {i : Str} {j pos} : PFE X (.Constant (.str i) j pos) (fC (.str i)) := pf_c pe_str fun _ => rfl
theorem pf_un {op : UnaryOp} {r : V → Hp → VK → Prop} {g : G1} (ho : UnR X (unaryOp op) r) (o : Op1 X.K r g) (ha : PFE X a fa) : PFE X (.UnaryOp op a pos) (f1 g fa) := pe_weak (pe_un ho ha) (lift1 o)
theorem pf_bin {op : Operator} {r : R2} {g : G2} (ho : OpR X (binaryOp op) r) (o : Op2 X.K r g) (ha : PFE X a fa) (hb : PFE X b fb) : PFE X (.BinOp a op b pos) (f2 g fa fb) := pe_weak (pe_op ho ha hb) (lift2 o)
theorem pf_cmp {op : CmpOp} {r : R2} {g : G2B} (ho : OpR X (compareOp op) r) (o : Op2 X.K r (gB g)) (ha : PFE X a fa) (hb : PFE X b fb) (hm : behindInMarks op b = false) : PFE X (.Compare a [op] [b] pos) (f2 (gB g) fa fb) := pe_weak (pe_cmpR ho ha hb hm) (lift2 o)
theorem pft_cmp {op : CmpOp} {r : R2} {g : G2B} (ho : OpR X (compareOp op) r) (o : Op2 X.K r (gB g)) (ha : PFE X a fa) (hb : PFE X b fb) (hm : behindInMarks op b = false) : PFT X (.Compare a [op] [b] pos) (f2T g fa fb) := pt_weak (pt_cmpR ho ha hb hm) (lift2T o)
theorem pf_ix {r : R2} {g : G2} (hr : IxR X r) (o : Op2 X.K r g) (ha : PFE X a fa) (hb : PFE X b fb) (hs : PlainIx b) : PFE X (.Subscript a b pos) (f2 g fa fb) := pe_weak (pe_ix hr ha hb hs) (lift2 o)
end
end PF
namespace PF
open PySem PySem.Spec PyProof.Rows L2
/-! ### arithmetic -/
/-- lists that are tracked as they are -/
def ltOf : D → Mem → Option (List D)
  | .lst xs, _ => some xs
  | .ref n, M => match M[n]? with | some (.lst xs) => some xs | _ => none
  | _, _ => none
theorem lt_sq {K : PySem.W.Frag} {W : Wo} {M : Mem} {d : D} {v : V} {xs : List D} (sr : SR K W M) (h : Rp K W d v) (e : ltOf d M = some xs) : ∃ a vs, v = .ref a ∧ W.H a = some (.lst vs) ∧ RpL K W xs vs := by
  cases d with
  | lst ds =>
    cases e
    obtain ⟨a, vs, e1, f, r⟩ := h
    exact ⟨a, vs, e1, f.1.1, r⟩
  | ref n =>
    obtain ⟨a, h1, e1⟩ := h
    obtain ⟨mo, h2, m⟩ := sr.at_ h1
    have e' : (match M[n]? with | some (.lst xs) => some xs | _ => none) = some xs := e
    rw [h2] at e'
    cases mo with
    | lst ds =>
      cases e'
      obtain ⟨vs, q1, q2⟩ := m
      exact ⟨a, vs, e1, q1.1, q2⟩
    | dct _ _ => cases e'
    | lck _ _ _ => cases e'
  | _ => cases e
def gAdd : G2 := fun x y M => match x, y with
  | .int i, .int j => some (.int (i + j))
  | .str a, .str b => if a.length + b.length ≤ LINE then some (.str (a ++ b)) else none
  | .tup a, .tup b => if a.length + b.length ≤ LINE then some (.tup (a ++ b)) else none
  | x, y => match ltOf x M, ltOf y M with
    | some a, some b => if a.length + b.length ≤ LINE then some (.lst (a ++ b)) else none
    | _, _ => none
def rAddA (K : PySem.W.Frag) : R2 := fun x y H Q => rI0 (fun i j => .int (i + j)) x y H Q ∨ (∃ i j, x = .str i ∧ y = .str j ∧ i.length + j.length ≤ sizeLine ∧ Q (.str (i ++ j)) H) ∨ rCatA K x y H Q ∨ rCat x y H Q
theorem op_addA {X : Cx} : OpR X (binaryOp .Add) (rAddA X.K) := op_add.or (op_add_str.or (op_catA.or op_cat))
theorem o_add {K : PySem.W.Frag} : Op2 K (rAddA K) gAdd := by
  intro W M x y d v u Q sr rx ry hg k
  have lists : (match ltOf x M, ltOf y M with
    | some a, some b => if a.length + b.length ≤ LINE then some (D.lst (a ++ b)) else none
    | _, _ => none) = some d → rCat v u W.H Q := fun e => by
    split at e
    · rename_i a b ha hb
      split at e
      · rename_i hl
        cases e
        obtain ⟨p, vs, rfl, h1, r1⟩ := lt_sq sr rx ha
        obtain ⟨q, us, rfl, h2, r2⟩ := lt_sq sr ry hb
        exact ⟨p, q, vs, us, rfl, rfl, h1, h2, by rw [line_eq, ← r1.len, ← r2.len]; exact hl, fun t nt => k _ _ (Ext.put nt) (sr.put nt) (.newLst sr nt (r1.append r2) (by rw [List.length_append, ← r1.len, ← r2.len]; exact hl))⟩
      · cases e
    · cases e
  unfold gAdd at hg
  split at hg
  · cases hg
    cases rx; cases ry
    exact .inl ⟨_, _, rfl, rfl, k W _ (.refl W) sr rfl⟩
  · split at hg
    · rename_i hl
      cases hg
      cases rx; cases ry
      exact .inr (.inl ⟨_, _, rfl, rfl, by rw [line_eq]; exact hl, k W _ (.refl W) sr rfl⟩)
    · cases hg
  · split at hg
    · rename_i a b hl
      cases hg
      obtain ⟨p, vs, rfl, h1, r1⟩ := tp_sq rx
      obtain ⟨q, us, rfl, h2, r2⟩ := tp_sq ry
      refine .inr (.inr (.inl ⟨p, q, vs, us, rfl, rfl, h1, h2, by rw [line_eq, ← r1.len, ← r2.len]; exact hl, fun e => ?_, fun _ e => ?_, fun _ _ t nt => k _ _ (Ext.put nt) (sr.put nt) (.newTup sr nt (r1.append r2) (by rw [List.length_append, ← r1.len, ← r2.len]; exact hl))⟩))
      · subst e
        have : a = [] := List.eq_nil_of_length_eq_zero r1.len
        subst this
        exact k W _ (.refl W) sr ry
      · subst e
        have : b = [] := List.eq_nil_of_length_eq_zero r2.len
        subst this
        exact k W _ (.refl W) sr (by rw [List.append_nil]; exact rx)
    · cases hg
  · exact .inr (.inr (.inr (lists hg)))
def rInts (f : Int → Int → Int) : G2 := fun x y _ => match x, y with | .int i, .int j => some (.int (f i j)) | _, _ => none
def gInts (c : Int → Int → Bool) (f : Int → Int → Int) : G2 := fun x y _ => match x, y with | .int i, .int j => if c i j then some (.int (f i j)) else none | _, _ => none
theorem o_ints0 {K : PySem.W.Frag} {f : Int → Int → Int} : Op2 K (rI0 fun i j => .int (f i j)) (rInts f) := by
  intro W M x y d v u Q sr rx ry hg k
  unfold rInts at hg
  split at hg
  · cases hg
    cases rx; cases ry
    exact ⟨_, _, rfl, rfl, k W _ (.refl W) sr rfl⟩
  · cases hg
theorem o_ints {K : PySem.W.Frag} {C : Int → Int → Prop} {c : Int → Int → Bool} {f : Int → Int → Int} (hc : ∀ i j, c i j = true → C i j) : Op2 K (rI C fun i j => .int (f i j)) (gInts c f) := by
  intro W M x y d v u Q sr rx ry hg k
  unfold gInts at hg
  split at hg
  · split at hg
    · rename_i h
      cases hg
      cases rx; cases ry
      exact ⟨_, _, rfl, rfl, hc _ _ h, k W _ (.refl W) sr rfl⟩
    · cases hg
  · cases hg
def gSub : G2 := rInts fun i j => i - j
def okMul (i j : Int) : Bool := decide (i.natAbs < 18446744073709551616) || (decide (j.natAbs < 18446744073709551616) || decide (i.natAbs.log2 + j.natAbs.log2 < 1000000))
def okDiv (j : Int) : Bool := decide (j ≠ 0) && decide (j.natAbs.log2 < 9000)
def okPow (i j : Int) : Bool := decide (0 ≤ j) && (decide (j ≤ 1000000) && decide (i.natAbs < 18446744073709551616))
def gMul : G2 := fun x y M => match x, y with
  | .int i, .int j => if okMul i j then some (.int (i * j)) else none
  | x, .int j => match ltOf x M with
    | some xs => if decide (-(9223372036854775808) ≤ j) && (decide (j < 9223372036854775808) && decide (xs.length * j.toNat ≤ LINE)) then some (.lst (List.replicate j.toNat xs).flatten) else none
    | none => none
  | _, _ => none
def gFdiv : G2 := gInts (fun _ j => okDiv j) Int.fdiv
def gMod : G2 := gInts (fun _ j => decide (j ≠ 0)) Int.fmod
def gPow : G2 := gInts okPow fun i j => i ^ j.toNat
theorem op_fdivA {X : Cx} : OpR X (binaryOp .FloorDiv) (rI (fun _ j => j ≠ 0 ∧ j.natAbs.log2 < 9000) fun i j => .int (i.fdiv j)) := opI fun _ _ _ _ _ _ _ hc q => floordiv_int hc.1 q (.inl (PyProof.noPylong_of_log2 hc.2))
theorem o_sub {K : PySem.W.Frag} : Op2 K (rI0 fun i j => .int (i - j)) gSub := o_ints0
theorem RpL.rep {K : PySem.W.Frag} {W : Wo} {xs : List D} {vs : List V} (h : RpL K W xs vs) : ∀ n : Nat, RpL K W (List.replicate n xs).flatten (List.replicate n vs).flatten
  | 0 => rfl
  | n + 1 => by
    rw [List.replicate_succ, List.replicate_succ, List.flatten_cons, List.flatten_cons]
    exact h.append (RpL.rep h n)
theorem okMul_ok {i j : Int} (h : okMul i j = true) : IntMulOk i j := by
  unfold okMul at h
  simp only [Bool.or_eq_true, decide_eq_true_eq] at h
  rcases h with h | h | h
  · exact CMul.ok (.inl ⟨by omega, by omega⟩)
  · exact CMul.ok (.inr ⟨by omega, by omega⟩)
  · exact CMulW.ok h
def rMulA : R2 := fun x y H Q => rI IntMulOk (fun i j => .int (i * j)) x y H Q ∨ rRep x y H Q
theorem op_mulA {X : Cx} : OpR X (binaryOp .Mult) rMulA := OpR.or (opI fun _ _ _ _ _ _ _ hc q => mul_int q hc) op_rep
theorem o_mul {K : PySem.W.Frag} : Op2 K rMulA gMul := by
  intro W M x y d v u Q sr rx ry hg k
  unfold gMul at hg
  split at hg
  · split at hg
    · rename_i h
      cases hg
      cases rx; cases ry
      exact .inl ⟨_, _, rfl, rfl, okMul_ok h, k W _ (.refl W) sr rfl⟩
    · cases hg
  · split at hg
    · rename_i xs hx
      split at hg
      · rename_i h
        cases hg
        simp only [Bool.and_eq_true, decide_eq_true_eq] at h
        obtain ⟨p, vs, rfl, h1, r1⟩ := lt_sq sr rx hx
        cases ry
        exact .inr ⟨p, _, vs, rfl, rfl, h1, h.1, h.2.1, by rw [line_eq, ← r1.len]; exact h.2.2, fun t nt => k _ _ (Ext.put nt) (sr.put nt) (.newLst sr nt (r1.rep _) (by rw [← (r1.rep _).len, PyProof.Rows.lm_len_rep_flat, Nat.mul_comm]; exact h.2.2))⟩
      · cases hg
    · cases hg
  · cases hg
theorem o_fdiv {K : PySem.W.Frag} : Op2 K (rI (fun _ j => j ≠ 0 ∧ j.natAbs.log2 < 9000) fun i j => .int (i.fdiv j)) gFdiv := o_ints fun i j h => by
  unfold okDiv at h
  simp only [Bool.and_eq_true, decide_eq_true_eq] at h
  exact h
theorem o_mod {K : PySem.W.Frag} : Op2 K (rI (fun _ j => j ≠ 0) fun i j => .int (i.fmod j)) gMod := o_ints fun i j h => of_decide_eq_true h
theorem o_pow {K : PySem.W.Frag} : Op2 K (rI CPow fun i j => .int (i ^ j.toNat)) gPow := o_ints fun i j h => by
  unfold okPow at h
  simp only [Bool.and_eq_true, decide_eq_true_eq] at h
  exact ⟨h.1, h.2.1, h.2.2⟩
def gNeg : G1 := fun x _ => match x with | .int i => some (.int (-i)) | _ => none
theorem o_neg {K : PySem.W.Frag} : Op1 K (rU fun i => .int (-i)) gNeg := by
  intro W M x d v Q sr rx hg k
  unfold gNeg at hg
  split at hg
  · cases hg
    cases rx
    exact ⟨_, rfl, k W _ (.refl W) sr rfl⟩
  · cases hg
/-! ### comparisons -/
def gCmp (c : Int → Int → Bool) : G2B := fun x y _ => match x, y with | .int i, .int j => some (c i j) | _, _ => none
theorem o_cmp {K : PySem.W.Frag} {c : Int → Int → Bool} : Op2 K (rI0 fun i j => .bl (c i j)) (gB (gCmp c)) := by
  intro W M x y d v u Q sr rx ry hg k
  unfold gB gCmp at hg
  split at hg
  · cases hg
    cases rx; cases ry
    exact ⟨_, _, rfl, rfl, k W _ (.refl W) sr rfl⟩
  · cases hg
/-! Python's == -/
mutual
def D.py : D → PyData
  | .non => .none
  | .bl b => .bool b
  | .int i => .int i
  | .str x => .str x
  | .tup xs => .tuple (D.pys xs)
  | .lst xs => .list (D.pys xs)
  | .kst xs => .list (D.pys xs)
  | .ref _ => .none
  | .dct _ _ => .list []
def D.pys : List D → List PyData
  | [] => []
  | x :: xs => x.py :: D.pys xs
end
mutual
/-- without references, at most n deep -/
def D.dp : Nat → D → Bool
  | _, .non => true
  | _, .bl _ => true
  | _, .int _ => true
  | _, .str x => PyData.strOk x
  | n, .tup xs => decide (0 < n) && D.dps (n - 1) xs
  | n, .lst xs => decide (0 < n) && D.dps (n - 1) xs
  | n, .kst xs => decide (0 < n) && D.dps (n - 1) xs
  | _, .ref _ => false
  | _, .dct _ _ => false
def D.dps : Nat → List D → Bool
  | _, [] => true
  | n, x :: xs => D.dp n x && D.dps n xs
end
/-- a list that is referred to, as a list -/
def D.val (d : D) (M : Mem) : Option D := match d with
  | .ref n => match M[n]? with | some (.lst xs) => some (.lst xs) | _ => none
  | d => some d
def gEq : G2B := fun x y M => match x.val M, y.val M with
  | some a, some b => if a.dp 60 && b.dp 60 then some (PyData.eqv a.py b.py) else none
  | _, _ => none
def gNe : G2B := fun x y M => (gEq x y M).map (! ·)
section
variable {K : PySem.W.Frag} {W : Wo} {M : Mem}
mutual
theorem dp_Dp : ∀ (n : Nat) (d : D) (v : V), d.dp n = true → Rp K W d v → Dp K W.H v d.py
  | _, .non, v, _, h => by cases (show _ = _ from h); exact .non
  | _, .bl b, v, _, h => by cases (show _ = _ from h); exact .bl b
  | _, .int b, v, _, h => by cases (show _ = _ from h); exact .int b
  | _, .str b, v, _, h => by cases (show _ = _ from h); exact .str b
  | n, .tup xs, v, hd, h => by
    obtain ⟨a, vs, e, h1, r⟩ := tp_sq h
    subst e
    rw [D.dp, Bool.and_eq_true] at hd
    rw [D.py]
    exact .tup h1 (dp_Dps (n - 1) xs vs hd.2 r)
  | n, .lst xs, v, hd, h => by
    obtain ⟨a, vs, e, f, r⟩ := h
    subst e
    rw [D.dp, Bool.and_eq_true] at hd
    rw [D.py]
    exact .lst (.of f.1.1) (dp_Dps (n - 1) xs vs hd.2 r)
  | n, .kst xs, v, hd, h => by
    obtain ⟨a, vs, e, f, r⟩ := h
    subst e
    rw [D.dp, Bool.and_eq_true] at hd
    rw [D.py]
    refine .lst ?_ (dp_Dps (n - 1) xs vs hd.2 r)
    rcases f.1 with ⟨⟨o, f⟩, _⟩ | f
    · exact .inl (.inr ⟨o, f⟩)
    · exact SqL.any f
  | _, .ref _, _, hd, _ => by rw [D.dp] at hd; cases hd
  | _, .dct _ _, _, hd, _ => by rw [D.dp] at hd; cases hd
theorem dp_Dps : ∀ (n : Nat) (ds : List D) (vs : List V), D.dps n ds = true → RpL K W ds vs → DpAll K W.H vs (D.pys ds)
  | _, [], vs, _, h => by cases (show _ = _ from h); rw [D.pys]; exact .nil
  | n, d :: ds, vs, hd, h => by
    obtain ⟨v, r, e, h1, h2⟩ := h
    subst e
    rw [D.dps, Bool.and_eq_true] at hd
    rw [D.pys]
    exact .cons (dp_Dp n d v hd.1 h1) (dp_Dps n ds r hd.2 h2)
end
mutual
theorem dp_can : ∀ (n : Nat) (d : D), d.dp n = true → d.py.canLay0 = true ∧ d.py.depth ≤ n
  | n, .non, _ => by rw [D.py]; exact ⟨by simp [PyData.canLay0], by simp [PyData.depth]⟩
  | n, .bl _, _ => by rw [D.py]; exact ⟨by simp [PyData.canLay0], by simp [PyData.depth]⟩
  | n, .int _, _ => by rw [D.py]; exact ⟨by simp [PyData.canLay0], by simp [PyData.depth]⟩
  | n, .str _, h => by rw [D.py]; rw [D.dp] at h; exact ⟨by simpa [PyData.canLay0] using h, by simp [PyData.depth]⟩
  | n, .tup xs, h => by
    rw [D.dp, Bool.and_eq_true, decide_eq_true_eq] at h
    obtain ⟨h1, h2⟩ := dps_can (n - 1) xs h.2
    rw [D.py]
    exact ⟨by simpa [PyData.canLay0] using h1, by simp only [PyData.depth]; omega⟩
  | n, .lst xs, h => by
    rw [D.dp, Bool.and_eq_true, decide_eq_true_eq] at h
    obtain ⟨h1, h2⟩ := dps_can (n - 1) xs h.2
    rw [D.py]
    exact ⟨by simpa [PyData.canLay0] using h1, by simp only [PyData.depth]; omega⟩
  | n, .kst xs, h => by
    rw [D.dp, Bool.and_eq_true, decide_eq_true_eq] at h
    obtain ⟨h1, h2⟩ := dps_can (n - 1) xs h.2
    rw [D.py]
    exact ⟨by simpa [PyData.canLay0] using h1, by simp only [PyData.depth]; omega⟩
  | _, .ref _, h => by rw [D.dp] at h; cases h
  | _, .dct _ _, h => by rw [D.dp] at h; cases h
theorem dps_can : ∀ (n : Nat) (ds : List D), D.dps n ds = true → PyData.canLayAll0 (D.pys ds) = true ∧ PyData.depthAll (D.pys ds) ≤ n
  | n, [], _ => by rw [D.pys]; exact ⟨by simp [PyData.canLayAll0], by simp [PyData.depthAll]⟩
  | n, d :: ds, h => by
    rw [D.dps, Bool.and_eq_true] at h
    obtain ⟨h1, h2⟩ := dp_can n d h.1
    obtain ⟨h3, h4⟩ := dps_can n ds h.2
    rw [D.pys]
    exact ⟨by simp [PyData.canLayAll0, h1, h3], by simp only [PyData.depthAll]; omega⟩
end
theorem val_Rp {d d' : D} {v : V} (sr : SR K W M) (h : Rp K W d v) (e : d.val M = some d') (hp : d'.dp 60 = true) : Dp K W.H v d'.py := by
  cases d with
  | ref n =>
    obtain ⟨a, h1, e1⟩ := h
    obtain ⟨mo, h2, m⟩ := sr.at_ h1
    have e' : (match M[n]? with | some (.lst xs) => some (D.lst xs) | _ => none) = some d' := e
    rw [h2] at e'
    cases mo with
    | lst ds =>
      cases e'
      obtain ⟨vs, q1, q2⟩ := m
      subst e1
      rw [D.dp, Bool.and_eq_true] at hp
      rw [D.py]
      exact .lst (.of q1.1) (dp_Dps _ ds vs hp.2 q2)
    | dct _ _ => cases e'
    | lck _ _ _ => cases e'
  | _ => cases e; exact dp_Dp 60 _ v hp h
theorem shaped_of {d : D} (h : d.dp 60 = true) : SeqAt.shaped d.py = true := by
  obtain ⟨h1, h2⟩ := dp_can 60 d h
  unfold SeqAt.shaped
  rw [h1, decide_eq_true (Nat.le_trans h2 (by decide))]
  rfl
theorem o_eq : Op2 K (rEqD K) (gB gEq) := by
  intro W M x y d v u Q sr rx ry hg k
  unfold gB gEq at hg
  split at hg
  · rename_i a b ha hb
    split at hg
    · rename_i h
      cases hg
      rw [Bool.and_eq_true] at h
      exact ⟨_, _, val_Rp sr rx ha h.1, val_Rp sr ry hb h.2, shaped_of h.1, shaped_of h.2, k W _ (.refl W) sr rfl⟩
    · cases hg
  · cases hg
theorem o_ne : Op2 K (rNeD K) (gB gNe) := by
  intro W M x y d v u Q sr rx ry hg k
  unfold gB gNe gEq at hg
  split at hg
  · rename_i a b ha hb
    split at hg
    · rename_i h
      cases hg
      rw [Bool.and_eq_true] at h
      exact ⟨_, _, val_Rp sr rx ha h.1, val_Rp sr ry hb h.2, shaped_of h.1, shaped_of h.2, k W _ (.refl W) sr rfl⟩
    · cases hg
  · cases hg
/-- is None; is True, is False of a bool -/
def isNn : D → Bool
  | .non => true
  | _ => false
def gIs : G2B := fun x y _ => match y with
  | .non => some (isNn x)
  | .bl b => match x with | .bl a => some (decide (a = b)) | _ => none
  | _ => none
def gIsNot : G2B := fun x y M => (gIs x y M).map (! ·)
theorem isNon_rel {d : D} {v : V} (h : Rp K W d v) : decide (v = .non) = isNn d := by
  cases d with
  | non => cases (show _ = _ from h); rfl
  | bl _ => cases (show _ = _ from h); rfl
  | int _ => cases (show _ = _ from h); rfl
  | str _ => cases (show _ = _ from h); rfl
  | tup _ => obtain ⟨a, vs, e, _⟩ := h; subst e; rfl
  | lst _ => obtain ⟨a, vs, e, _⟩ := h; subst e; rfl
  | kst _ => obtain ⟨a, vs, e, _⟩ := h; subst e; rfl
  | ref _ => obtain ⟨a, _, e⟩ := h; subst e; rfl
  | dct _ _ => obtain ⟨a, o, kv, vv, e, _⟩ := h; subst e; rfl
end
def rIsA : R2 := fun x y H Q => (y = .non ∧ Q (.bl (decide (x = .non))) H) ∨ rIsB x y H Q
def rIsNotA : R2 := fun x y H Q => (y = .non ∧ Q (.bl (!decide (x = .non))) H) ∨ rNotB x y H Q
theorem op_isA {X : Cx} : OpR X (compareOp .Is) rIsA := op_isN.or op_isBl
theorem op_isNotA {X : Cx} : OpR X (compareOp .IsNot) rIsNotA := op_notN.or op_notBl
theorem o_is {K : PySem.W.Frag} : Op2 K rIsA (gB gIs) := by
  intro W M x y d v u Q sr rx ry hg k
  unfold gB gIs at hg
  split at hg
  · cases hg
    cases (show _ = _ from ry)
    exact .inl ⟨rfl, k W _ (.refl W) sr (by rw [isNon_rel rx]; rfl)⟩
  · split at hg
    · cases hg
      cases (show _ = _ from ry); cases (show _ = _ from rx)
      exact .inr ⟨_, _, rfl, rfl, k W _ (.refl W) sr rfl⟩
    · cases hg
  · cases hg
theorem o_isNot {K : PySem.W.Frag} : Op2 K rIsNotA (gB gIsNot) := by
  intro W M x y d v u Q sr rx ry hg k
  unfold gB gIsNot gIs at hg
  split at hg
  · cases hg
    cases (show _ = _ from ry)
    exact .inl ⟨rfl, k W _ (.refl W) sr (by rw [isNon_rel rx]; rfl)⟩
  · split at hg
    · cases hg
      cases (show _ = _ from ry); cases (show _ = _ from rx)
      exact .inr ⟨_, _, rfl, rfl, k W _ (.refl W) sr rfl⟩
    · cases hg
  · cases hg
/-! ### subscripts -/
def ixD (xs : List D) (i : Int) : Option D := atI xs i
def gIx : G2 := fun x y M => match y with
  | .int i => match x with
    | .str z => if z.length ≤ LINE then (atI z.cps.toList i).map fun c => .str ⟨#[c]⟩ else none
    | x => (sqOf x M).bind fun xs => atI xs i
  | _ => none
theorem RpL.atI {K : PySem.W.Frag} {W : Wo} {xs : List D} {vs : List V} {i : Int} {d : D} (h : RpL K W xs vs) (e : atI xs i = some d) : ∃ v, L2.atI vs i = some v ∧ Rp K W d v := by
  unfold L2.atI at e ⊢
  rw [← h.len]
  obtain ⟨j, hj, e⟩ := Option.bind_eq_some_iff.mp e
  obtain ⟨v, h1, h2⟩ := h.get e
  exact ⟨v, by rw [hj]; exact h1, h2⟩
theorem o_ix {K : PySem.W.Frag} : Op2 K (rIx K) gIx := by
  intro W M x y d v u Q sr rx ry hg k
  unfold gIx at hg
  split at hg
  · cases (show _ = _ from ry)
    split at hg
    · split at hg
      · rename_i h
        cases (show _ = _ from rx)
        obtain ⟨c, hc, hg⟩ := Option.map_eq_some_iff.mp hg
        subst hg
        exact .inr (.inr ⟨_, _, c, rfl, rfl, by rw [line_eq]; exact h, hc, k W _ (.refl W) sr rfl⟩)
      · cases hg
    · obtain ⟨xs, hx, hg⟩ := Option.bind_eq_some_iff.mp hg
      obtain ⟨p, vs, rfl, h1, r1⟩ := sq_sq sr rx hx
      obtain ⟨z, h2, r2⟩ := r1.atI hg
      rcases h1 with h1 | h1
      · exact .inl ⟨p, vs, _, z, rfl, rfl, h1, h2, k W _ (.refl W) sr r2⟩
      · exact .inr (.inl ⟨p, vs, _, z, rfl, rfl, h1, h2, k W _ (.refl W) sr r2⟩)
  · cases hg
end PF
namespace PF
open PySem PySem.Spec PyProof.Rows L2
/-! ### truth, and, or, not -/
def gTru (d : D) (M : Mem) : Option Bool := match d with
  | .non => some false
  | .bl b => some b
  | .int i => some (i != 0)
  | .str x => if x.length ≤ LINE then some ((x.length : Int) != 0) else none
  | d => (sqOf d M).map fun xs => !xs.isEmpty
section
variable {K : PySem.W.Frag} {W : Wo} {M : Mem}
theorem RpL.emp {xs : List D} {vs : List V} (h : RpL K W xs vs) : (!xs.isEmpty) = !vs.isEmpty := by
  cases xs with
  | nil => cases (show _ = _ from h); rfl
  | cons d ds => obtain ⟨v, r, e, _⟩ := h; subst e; rfl
theorem tru_of {d : D} {v : V} {k : Bool} (sr : SR K W M) (h : Rp K W d v) (e : gTru d M = some k) : TruV K v W.H k := by
  have seq : (sqOf d M).map (fun xs => !xs.isEmpty) = some k → TruV K v W.H k := fun e => by
    obtain ⟨xs, hx, e⟩ := Option.map_eq_some_iff.mp e
    obtain ⟨a, vs, e1, h1, r⟩ := sq_sq sr h hx
    subst e1
    rcases h1 with h1 | h1
    · exact .inl ⟨vs, h1, by rw [← e]; exact r.emp⟩
    · exact .inr (.inl ⟨vs, h1, by rw [← e]; exact r.emp⟩)
  cases d with
  | non => cases (show _ = _ from h); cases e; exact rfl
  | bl b => cases (show _ = _ from h); cases e; exact rfl
  | int i => cases (show _ = _ from h); cases e; exact rfl
  | str x =>
    cases (show _ = _ from h)
    have e' : (if x.length ≤ LINE then some ((x.length : Int) != 0) else none) = some k := e
    split at e'
    · rename_i hl
      cases e'
      exact ⟨by rw [line_eq]; exact hl, rfl⟩
    · cases e'
  | _ => exact seq e
end
def fTru (fa : FE) : FT := fun ρ M => (fa ρ M).bind fun a => (gTru a.1 a.2).bind fun k => some (k, a.2)
def fNot (fa : FT) : FT := fun ρ M => (fa ρ M).bind fun a => some (!a.1, a.2)
def fAnd (fa fb : FT) : FT := fun ρ M => (fa ρ M).bind fun a => if a.1 = true then fb ρ a.2 else some (false, a.2)
def fOr (fa fb : FT) : FT := fun ρ M => (fa ρ M).bind fun a => if a.1 = true then some (true, a.2) else fb ρ a.2
def fAndV (fa fb : FE) : FE := fun ρ M => (fa ρ M).bind fun a => (gTru a.1 a.2).bind fun k => if k = true then fb ρ a.2 else some a
def fOrV (fa fb : FE) : FE := fun ρ M => (fa ρ M).bind fun a => (gTru a.1 a.2).bind fun k => if k = true then some a else fb ρ a.2
def fNotV (fa : FE) : FE := fun ρ M => (fa ρ M).bind fun a => (gTru a.1 a.2).bind fun k => some (.bl (!k), a.2)
def fIfE (fc : FT) (fa fb : FE) : FE := fun ρ M => (fc ρ M).bind fun c => if c.1 = true then fa ρ c.2 else fb ρ c.2
def fChain (g g' : G2B) (fa fb fc : FE) : FE := fun ρ M => (fa ρ M).bind fun a => (fb ρ a.2).bind fun b => (g a.1 b.1 b.2).bind fun k =>
  if k = true then (fc ρ b.2).bind fun c => (g' b.1 c.1 c.2).bind fun z => some (.bl z, c.2) else some (.bl false, b.2)
def fChainT (g g' : G2B) (fa fb fc : FE) : FT := fun ρ M => (fa ρ M).bind fun a => (fb ρ a.2).bind fun b => (g a.1 b.1 b.2).bind fun k =>
  if k = true then (fc ρ b.2).bind fun c => (g' b.1 c.1 c.2).bind fun z => some (z, c.2) else some (false, b.2)
section
variable {X : Cx} {a b c : Expr} {rest : List Expr} {fa fb fc : FE} {ta tb : FT} {pos : Pos}
theorem pft_tru (ha : PFE X a fa) (he : ∀ whole, isTrue a X.env whole = (do let v ← whole; standAt a.pos; holding [v] (truthy v)) := by intro _; rfl) : PFT X a (fTru fa) := pt_weak (pt_truth ha he) fun σ H Q => by
  rintro ⟨W, ρ, M, rfl, sr, sl, d, M', hf, k⟩
  obtain ⟨⟨x, M1⟩, hx, hf⟩ := Option.bind_eq_some_iff.mp hf
  obtain ⟨t, ht, hf⟩ := Option.bind_eq_some_iff.mp hf
  cases hf
  exact ⟨W, ρ, M, rfl, sr, sl, x, _, hx, fun W1 v e1 s1 r1 => ⟨_, tru_of s1 r1 ht, k W1 e1 s1⟩⟩
theorem pft_not (ha : PFT X a ta) : PFT X (.UnaryOp .Not a pos) (fNot ta) := pt_weak (pt_not ha) fun σ H Q => by
  rintro ⟨W, ρ, M, rfl, sr, sl, d, M', hf, k⟩
  obtain ⟨⟨x, M1⟩, hx, hf⟩ := Option.bind_eq_some_iff.mp hf
  cases hf
  exact ⟨W, ρ, M, rfl, sr, sl, x, _, hx, fun W1 e1 s1 => k W1 e1 s1⟩
theorem pfw_and1 (ha : PFT X a ta) : PFW X (.BoolOp .And [a] pos) ta := pw_and1 ha
theorem pfw_or1 (ha : PFT X a ta) : PFW X (.BoolOp .Or [a] pos) ta := pw_or1 ha
theorem pfw_and (ha : PFT X a ta) (hb : PFW X (.BoolOp .And (b :: rest) pos) tb) : PFW X (.BoolOp .And (a :: b :: rest) pos) (fAnd ta tb) := pw_weak (pw_and ha hb) fun σ H Q => by
  rintro ⟨W, ρ, M, rfl, sr, sl, d, M', hf, k⟩
  obtain ⟨⟨x, M1⟩, hx, hf⟩ := Option.bind_eq_some_iff.mp hf
  refine ⟨W, ρ, M, rfl, sr, sl, x, M1, hx, fun W1 e1 s1 => ?_⟩
  cases x with
  | true =>
    rw [if_pos rfl] at hf ⊢
    exact ⟨W1, ρ, M1, rfl, s1, sl.ext e1 sr.sub, d, M', hf, fun W2 e2 s2 => k W2 (e1.trans e2) s2⟩
  | false =>
    rw [if_neg Bool.false_ne_true] at hf ⊢
    cases hf
    exact k W1 e1 s1
theorem pfw_or (ha : PFT X a ta) (hb : PFW X (.BoolOp .Or (b :: rest) pos) tb) : PFW X (.BoolOp .Or (a :: b :: rest) pos) (fOr ta tb) := pw_weak (pw_or ha hb) fun σ H Q => by
  rintro ⟨W, ρ, M, rfl, sr, sl, d, M', hf, k⟩
  obtain ⟨⟨x, M1⟩, hx, hf⟩ := Option.bind_eq_some_iff.mp hf
  refine ⟨W, ρ, M, rfl, sr, sl, x, M1, hx, fun W1 e1 s1 => ?_⟩
  cases x with
  | false =>
    rw [if_neg Bool.false_ne_true] at hf ⊢
    exact ⟨W1, ρ, M1, rfl, s1, sl.ext e1 sr.sub, d, M', hf, fun W2 e2 s2 => k W2 (e1.trans e2) s2⟩
  | true =>
    rw [if_pos rfl] at hf ⊢
    cases hf
    exact k W1 e1 s1
theorem pf_one {op} (h : PFE X a fa) : PFE X (.BoolOp op [a] pos) fa := pe_one h
theorem pf_and (ha : PFE X a fa) (hb : PFE X (.BoolOp .And (b :: rest) pos) fb) : PFE X (.BoolOp .And (a :: b :: rest) pos) (fAndV fa fb) := pe_weak (pe_andT ha hb) fun σ H Q => by
  rintro ⟨W, ρ, M, rfl, sr, sl, d, M', hf, k⟩
  obtain ⟨⟨x, M1⟩, hx, hf⟩ := Option.bind_eq_some_iff.mp hf
  obtain ⟨t, ht, hf⟩ := Option.bind_eq_some_iff.mp hf
  refine ⟨W, ρ, M, rfl, sr, sl, x, M1, hx, fun W1 v e1 s1 r1 => ⟨t, tru_of s1 r1 ht, ?_⟩⟩
  cases t with
  | true =>
    rw [if_pos rfl] at hf ⊢
    exact ⟨W1, ρ, M1, rfl, s1, sl.ext e1 sr.sub, d, M', hf, fun W2 v e2 s2 r2 => k W2 v (e1.trans e2) s2 r2⟩
  | false =>
    rw [if_neg Bool.false_ne_true] at hf ⊢
    cases hf
    exact k W1 v e1 s1 r1
theorem pf_or (ha : PFE X a fa) (hb : PFE X (.BoolOp .Or (b :: rest) pos) fb) : PFE X (.BoolOp .Or (a :: b :: rest) pos) (fOrV fa fb) := pe_weak (pe_orT ha hb) fun σ H Q => by
  rintro ⟨W, ρ, M, rfl, sr, sl, d, M', hf, k⟩
  obtain ⟨⟨x, M1⟩, hx, hf⟩ := Option.bind_eq_some_iff.mp hf
  obtain ⟨t, ht, hf⟩ := Option.bind_eq_some_iff.mp hf
  refine ⟨W, ρ, M, rfl, sr, sl, x, M1, hx, fun W1 v e1 s1 r1 => ⟨t, tru_of s1 r1 ht, ?_⟩⟩
  cases t with
  | false =>
    rw [if_neg Bool.false_ne_true] at hf ⊢
    exact ⟨W1, ρ, M1, rfl, s1, sl.ext e1 sr.sub, d, M', hf, fun W2 v e2 s2 r2 => k W2 v (e1.trans e2) s2 r2⟩
  | true =>
    rw [if_pos rfl] at hf ⊢
    cases hf
    exact k W1 v e1 s1 r1
theorem pf_not (ha : PFE X a fa) : PFE X (.UnaryOp .Not a pos) (fNotV fa) := pe_weak (pe_notT ha) fun σ H Q => by
  rintro ⟨W, ρ, M, rfl, sr, sl, d, M', hf, k⟩
  obtain ⟨⟨x, M1⟩, hx, hf⟩ := Option.bind_eq_some_iff.mp hf
  obtain ⟨t, ht, hf⟩ := Option.bind_eq_some_iff.mp hf
  cases hf
  exact ⟨W, ρ, M, rfl, sr, sl, x, _, hx, fun W1 v e1 s1 r1 => ⟨t, tru_of s1 r1 ht, k W1 _ e1 s1 rfl⟩⟩
theorem pf_if (hc : PFT X c ta) (ha : PFE X a fa) (hb : PFE X b fb) : PFE X (.IfExp c a b pos) (fIfE ta fa fb) := pe_weak (pe_ifExp hc ha hb) fun σ H Q => by
  rintro ⟨W, ρ, M, rfl, sr, sl, d, M', hf, k⟩
  obtain ⟨⟨x, M1⟩, hx, hf⟩ := Option.bind_eq_some_iff.mp hf
  refine ⟨W, ρ, M, rfl, sr, sl, x, M1, hx, fun W1 e1 s1 => ?_⟩
  cases x with
  | false =>
    rw [if_neg Bool.false_ne_true] at hf ⊢
    exact ⟨W1, ρ, M1, rfl, s1, sl.ext e1 sr.sub, d, M', hf, fun W2 v e2 s2 r2 => k W2 v (e1.trans e2) s2 r2⟩
  | true =>
    rw [if_pos rfl] at hf ⊢
    exact ⟨W1, ρ, M1, rfl, s1, sl.ext e1 sr.sub, d, M', hf, fun W2 v e2 s2 r2 => k W2 v (e1.trans e2) s2 r2⟩
theorem pf_chain {op op' : CmpOp} {r r' : R2} {g g' : G2B} (ho : OpR X (compareOp op) r) (o : Op2 X.K r (gB g)) (ho' : OpR X (compareOp op') r') (o' : Op2 X.K r' (gB g')) (ha : PFE X a fa) (hb : PFE X b fb) (hc : PFE X c fc)
    (hm : lastMarks [op, op'] [b, c] = false := by with_unfolding_all rfl) : PFE X (.Compare a [op, op'] [b, c] pos) (fChain g g' fa fb fc) := pe_weak (pe_chain ho ho' ha hb hc hm) fun σ H Q => by
  rintro ⟨W, ρ, M, rfl, sr, sl, d, M', hf, k⟩
  obtain ⟨⟨x, M1⟩, hx, hf⟩ := Option.bind_eq_some_iff.mp hf
  obtain ⟨⟨y, M2⟩, hy, hf⟩ := Option.bind_eq_some_iff.mp hf
  obtain ⟨t, ht, hf⟩ := Option.bind_eq_some_iff.mp hf
  refine ⟨W, ρ, M, rfl, sr, sl, x, M1, hx, fun W1 v e1 s1 r1 => ⟨W1, ρ, M1, rfl, s1, sl.ext e1 sr.sub, y, M2, hy, fun W2 u e2 s2 r2 => ?_⟩⟩
  refine o W2 M2 x y (.bl t) v u _ s2 (r1.ext e2 s1.sub) r2 (by rw [gB, ht]; rfl) fun W3 z e3 s3 r3 => ⟨t, r3, ?_⟩
  cases t with
  | false =>
    rw [if_neg Bool.false_ne_true] at hf ⊢
    cases hf
    exact k W3 _ ((e1.trans e2).trans e3) s3 rfl
  | true =>
    rw [if_pos rfl] at hf ⊢
    obtain ⟨⟨z', M3⟩, hz, hf⟩ := Option.bind_eq_some_iff.mp hf
    obtain ⟨t', ht', hf⟩ := Option.bind_eq_some_iff.mp hf
    cases hf
    exact ⟨W3, ρ, M2, rfl, s3, sl.ext ((e1.trans e2).trans e3) sr.sub, z', _, hz, fun W4 q e4 s4 r4 => o' W4 _ y z' (.bl t') u q _ s4 (r2.ext (e3.trans e4) s2.sub) r4 (by rw [gB, ht']; rfl) fun W5 q' e5 s5 r5 => k W5 q' (((e1.trans e2).trans e3).trans (e4.trans e5)) s5 r5⟩
theorem pft_chain {op op' : CmpOp} {r r' : R2} {g g' : G2B} (ho : OpR X (compareOp op) r) (o : Op2 X.K r (gB g)) (ho' : OpR X (compareOp op') r') (o' : Op2 X.K r' (gB g')) (ha : PFE X a fa) (hb : PFE X b fb) (hc : PFE X c fc)
    (hm : lastMarks [op, op'] [b, c] = false := by with_unfolding_all rfl) : PFT X (.Compare a [op, op'] [b, c] pos) (fChainT g g' fa fb fc) := pt_weak (pt_chain ho ho' ha hb hc hm) fun σ H Q => by
  rintro ⟨W, ρ, M, rfl, sr, sl, d, M', hf, k⟩
  obtain ⟨⟨x, M1⟩, hx, hf⟩ := Option.bind_eq_some_iff.mp hf
  obtain ⟨⟨y, M2⟩, hy, hf⟩ := Option.bind_eq_some_iff.mp hf
  obtain ⟨t, ht, hf⟩ := Option.bind_eq_some_iff.mp hf
  refine ⟨W, ρ, M, rfl, sr, sl, x, M1, hx, fun W1 v e1 s1 r1 => ⟨W1, ρ, M1, rfl, s1, sl.ext e1 sr.sub, y, M2, hy, fun W2 u e2 s2 r2 => ?_⟩⟩
  refine o W2 M2 x y (.bl t) v u _ s2 (r1.ext e2 s1.sub) r2 (by rw [gB, ht]; rfl) fun W3 z e3 s3 r3 => ⟨t, r3, ?_⟩
  cases t with
  | false =>
    rw [if_neg Bool.false_ne_true] at hf ⊢
    cases hf
    exact ⟨false, rfl, k W3 ((e1.trans e2).trans e3) s3⟩
  | true =>
    rw [if_pos rfl] at hf ⊢
    obtain ⟨⟨z', M3⟩, hz, hf⟩ := Option.bind_eq_some_iff.mp hf
    obtain ⟨t', ht', hf⟩ := Option.bind_eq_some_iff.mp hf
    cases hf
    exact ⟨W3, ρ, M2, rfl, s3, sl.ext ((e1.trans e2).trans e3) sr.sub, z', _, hz, fun W4 q e4 s4 r4 => o' W4 _ y z' (.bl _) u q _ s4 (r2.ext (e3.trans e4) s2.sub) r4 (by rw [gB, ht']; rfl) fun W5 q' e5 s5 r5 => ⟨_, r5, k W5 (((e1.trans e2).trans e3).trans (e4.trans e5)) s5⟩⟩
end
/-! ### argument lists, displays, slices -/
def fNil : FA := fun _ M => some ([], M)
def fCons (fa : FE) (fr : FA) : FA := fun ρ M => (fa ρ M).bind fun a => (fr ρ a.2).bind fun r => some (a.1 :: r.1, r.2)
def fTup (f : FA) : FE := fun ρ M => (f ρ M).bind fun a => if a.1.length ≤ LINE then some (.tup a.1, a.2) else none
def fLstD (f : FA) : FA := fun ρ M => (f ρ M).bind fun a => if a.1.length ≤ LINE then some a else none
def fFz (f : FA) : FE := fun ρ M => (f ρ M).bind fun a => some (.lst a.1, a.2)
def fMut (f : FA) : FE := fun ρ M => (f ρ M).bind fun a => some (.ref a.2.length, a.2 ++ [.lst a.1])
abbrev FO := Rho → Mem → Option (Option Int × Mem)
def liftO (K : PySem.W.Frag) (f : FO) : TO := fun σ H Q => ∃ W ρ M, W.H = H ∧ SR K W M ∧ Sl K W ρ σ ∧ ∃ d M', f ρ M = some (d, M') ∧ ∀ W', Ext W W' → SR K W' M' → Q d W'.H
abbrev PFO (X : Cx) (e : Option Expr) (f : FO) : Prop := PO X e (liftO X.K f)
def fNoPart : FO := fun _ M => some (none, M)
def fPart (fa : FE) : FO := fun ρ M => (fa ρ M).bind fun a => match a.1 with | .int i => some (some i, a.2) | _ => none
def cutD (xs : List D) (lo hi : Option Int) : List D := (xs.drop (HT.sIx xs.length 0 lo)).take (HT.sIx xs.length xs.length hi - HT.sIx xs.length 0 lo)
def gSlice (x : D) (lo hi : Option Int) (M : Mem) : Option D := match x with
  | .tup xs => some (.tup (cutD xs lo hi))
  | x => (lsOf x M).map fun xs => .lst (cutD xs lo hi)
def fSlice (fa : FE) (fl fh : FO) : FE := fun ρ M => (fa ρ M).bind fun a => (fl ρ a.2).bind fun l => (fh ρ l.2).bind fun h => (gSlice a.1 l.1 h.1 h.2).bind fun d => some (d, h.2)
def fSliceN (fa : FE) (fl fh : FO) : FA := fun ρ M => (fa ρ M).bind fun a => (fl ρ a.2).bind fun l => (fh ρ l.2).bind fun h => (lsOf a.1 h.2).bind fun d => some (cutD d l.1 h.1, h.2)
section
variable {X : Cx} {a b c : Expr} {es : List Expr} {fa fb fc : FE} {f : FA} {pos : Pos}
theorem pfa_nil : PFA X [] fNil := pa_weak pa_nil fun σ H Q => by
  rintro ⟨W, ρ, M, rfl, sr, sl, d, M', hf, k⟩
  cases hf
  exact k W [] (.refl W) sr rfl
theorem pfa_cons (ha : PFE X a fa) (hr : PFA X es f) (hs : starEach (a :: es) X.env = (false, eval a X.env) :: starEach es X.env := by rfl) : PFA X (a :: es) (fCons fa f) := pa_weak (pa_cons ha hr hs) fun σ H Q => by
  rintro ⟨W, ρ, M, rfl, sr, sl, d, M', hf, k⟩
  obtain ⟨⟨x, M1⟩, hx, hf⟩ := Option.bind_eq_some_iff.mp hf
  obtain ⟨⟨r, M2⟩, hr, hf⟩ := Option.bind_eq_some_iff.mp hf
  cases hf
  exact ⟨W, ρ, M, rfl, sr, sl, x, M1, hx, fun W1 v e1 s1 r1 => ⟨W1, ρ, M1, rfl, s1, sl.ext e1 sr.sub, r, _, hr, fun W2 vs e2 s2 r2 => k W2 (v :: vs) (e1.trans e2) s2 ⟨v, vs, rfl, r1.ext e2 s1.sub, r2⟩⟩⟩
theorem pf_tup {x1} (h : PFA X es f) : PFE X (.Tuple es x1 pos) (fTup f) := pe_weak (pe_tup h) fun σ H Q => by
  rintro ⟨W, ρ, M, rfl, sr, sl, d, M', hf, k⟩
  obtain ⟨⟨x, M1⟩, hx, hf⟩ := Option.bind_eq_some_iff.mp hf
  split at hf
  · rename_i hl
    cases hf
    exact ⟨W, ρ, M, rfl, sr, sl, x, _, hx, fun W1 vs e1 s1 r1 => ⟨by rw [line_eq, ← r1.len]; exact hl, fun p hp => k _ _ (e1.trans (Ext.put hp)) (s1.put hp) (.newTup s1 hp r1 (by rw [← r1.len]; exact hl))⟩⟩
  · cases hf
theorem pfn_lst (h : PFA X es f) : PFN X (.List es pos) (fLstD f) := pe_weak (pe_lst h) fun σ H Q => by
  rintro ⟨W, ρ, M, rfl, sr, sl, d, M', hf, k⟩
  obtain ⟨⟨x, M1⟩, hx, hf⟩ := Option.bind_eq_some_iff.mp hf
  split at hf
  · rename_i hl
    cases hf
    exact ⟨W, ρ, M, rfl, sr, sl, d, _, hx, fun W1 vs e1 s1 r1 => ⟨by rw [line_eq, ← r1.len]; exact hl, fun p hp => k W1 p vs e1 s1 hp r1 (by rw [← r1.len]; exact hl)⟩⟩
  · cases hf
theorem pf_fz (h : PFN X a f) : PFE X a (fFz f) := pe_weak h fun σ H Q => by
  rintro ⟨W, ρ, M, rfl, sr, sl, d, M', hf, k⟩
  obtain ⟨⟨x, M1⟩, hx, hf⟩ := Option.bind_eq_some_iff.mp hf
  cases hf
  exact ⟨W, ρ, M, rfl, sr, sl, x, _, hx, fun W1 p vs e1 s1 hp r1 hl => k _ _ (e1.trans (Ext.put hp)) (s1.put hp) (.newLst s1 hp r1 hl)⟩
theorem pf_mut (h : PFN X a f) : PFE X a (fMut f) := pe_weak h fun σ H Q => by
  rintro ⟨W, ρ, M, rfl, sr, sl, d, M', hf, k⟩
  obtain ⟨⟨x, M1⟩, hx, hf⟩ := Option.bind_eq_some_iff.mp hf
  cases hf
  exact ⟨W, ρ, M, rfl, sr, sl, x, _, hx, fun W1 p vs e1 s1 hp r1 hl => k _ _ (e1.trans (Ext.mk2 hp)) (s1.mk2 hp r1 hl) (.mk2 s1)⟩
theorem po_weak {e : Option Expr} {t t' : TO} (h : PO X e t) (i : ∀ σ H Q, t' σ H Q → t σ H Q) : PO X e t' := ⟨fun pins s σ H Q I q => h.run pins s σ H Q I (i σ H Q q)⟩
theorem pfo_none : PFO X none fNoPart := po_weak po_none fun σ H Q => by
  rintro ⟨W, ρ, M, rfl, sr, sl, d, M', hf, k⟩
  cases hf
  exact k W (.refl W) sr
theorem pfo_some (ha : PFE X a fa) : PFO X (some a) (fPart fa) := po_weak (po_some ha) fun σ H Q => by
  rintro ⟨W, ρ, M, rfl, sr, sl, d, M', hf, k⟩
  obtain ⟨⟨x, M1⟩, hx, hf⟩ := Option.bind_eq_some_iff.mp hf
  dsimp only at hf
  split at hf
  · cases hf
    exact ⟨W, ρ, M, rfl, sr, sl, _, _, hx, fun W1 v e1 s1 r1 => ⟨_, r1, k W1 e1 s1⟩⟩
  · cases hf
theorem RpL.cut {K : PySem.W.Frag} {W : Wo} {xs : List D} {vs : List V} (h : RpL K W xs vs) (lo hi : Option Int) : RpL K W (cutD xs lo hi) (cutV vs lo hi) := by
  unfold cutD cutV
  rw [h.len]
  exact (h.drop _).take _
theorem cut_len (vs : List V) (lo hi : Option Int) (h : vs.length ≤ LINE) : (cutV vs lo hi).length ≤ LINE := Nat.le_trans (cutV_length vs lo hi) h
def rSlice (K : PySem.W.Frag) : V → Option Int → Option Int → Hp → VK → Prop := fun x lo hi H Q => rSlA K x lo hi H Q ∨ rSlL K x lo hi H Q
theorem sl_any : SlR X (rSlice X.K) := sl_tupA.or sl_list
theorem pf_slice {lo hi : Option Expr} {fl fh : FO} {p2 : Pos} (ha : PFE X a fa) (hl : PFO X lo fl) (hh : PFO X hi fh) : PFE X (.Subscript a (.Slice lo hi none p2) pos) (fSlice fa fl fh) := pe_weak (pe_slice sl_any ha hl hh) fun σ H Q => by
  rintro ⟨W, ρ, M, rfl, sr, sl, d, M', hf, k⟩
  obtain ⟨⟨x, M1⟩, hx, hf⟩ := Option.bind_eq_some_iff.mp hf
  obtain ⟨⟨l, M2⟩, hl, hf⟩ := Option.bind_eq_some_iff.mp hf
  obtain ⟨⟨h, M3⟩, hh, hf⟩ := Option.bind_eq_some_iff.mp hf
  obtain ⟨d', hd, hf⟩ := Option.bind_eq_some_iff.mp hf
  cases hf
  refine ⟨W, ρ, M, rfl, sr, sl, x, M1, hx, fun W1 v e1 s1 r1 => ⟨W1, ρ, M1, rfl, s1, sl.ext e1 sr.sub, l, M2, hl, fun W2 e2 s2 => ⟨W2, ρ, M2, rfl, s2, sl.ext (e1.trans e2) sr.sub, h, _, hh, fun W3 e3 s3 => ?_⟩⟩⟩
  have r3 := r1.ext (e2.trans e3) s1.sub
  have e123 := e1.trans (e2.trans e3)
  have lists : (lsOf x M3).map (fun xs => D.lst (cutD xs l h)) = some d → rSlice X.K v l h W3.H Q := fun e => by
    obtain ⟨xs, hx, e⟩ := Option.map_eq_some_iff.mp e
    subst e
    obtain ⟨p, vs, rfl, h1, q1⟩ := ls_sq s3 r3 hx
    exact .inr ⟨p, vs, rfl, h1, fun t nt => k _ _ (e123.trans (Ext.put nt)) (s3.put nt) (.newLst s3 nt (q1.cut l h) (cut_len _ _ _ (by rw [← q1.len]; exact ls_len s3 r3 hx)))⟩
  cases x with
  | tup xs =>
    cases hd
    obtain ⟨p, vs, rfl, h1, q1⟩ := tp_sq r3
    refine .inl ⟨p, vs, rfl, h1, fun e => ?_, fun _ t nt => k _ _ (e123.trans (Ext.put nt)) (s3.put nt) (.newTup s3 nt (q1.cut l h) (cut_len _ _ _ (by rw [← q1.len]; exact sq_len s3 r3 rfl)))⟩
    have ec : cutD xs l h = xs := by
      unfold cutD
      rw [q1.len, e.1, e.2, ← q1.len]
      simp
    exact k W3 _ e123 s3 (by rw [ec]; exact r3)
  | _ => exact lists hd
theorem pfn_slice {lo hi : Option Expr} {fl fh : FO} {p2 : Pos} (ha : PFE X a fa) (hl : PFO X lo fl) (hh : PFO X hi fh) : PFN X (.Subscript a (.Slice lo hi none p2) pos) (fSliceN fa fl fh) := pe_weak (pe_slice sl_list ha hl hh) fun σ H Q => by
  rintro ⟨W, ρ, M, rfl, sr, sl, d, M', hf, k⟩
  obtain ⟨⟨x, M1⟩, hx, hf⟩ := Option.bind_eq_some_iff.mp hf
  obtain ⟨⟨l, M2⟩, hl, hf⟩ := Option.bind_eq_some_iff.mp hf
  obtain ⟨⟨h, M3⟩, hh, hf⟩ := Option.bind_eq_some_iff.mp hf
  obtain ⟨d', hd, hf⟩ := Option.bind_eq_some_iff.mp hf
  cases hf
  refine ⟨W, ρ, M, rfl, sr, sl, x, M1, hx, fun W1 v e1 s1 r1 => ⟨W1, ρ, M1, rfl, s1, sl.ext e1 sr.sub, l, M2, hl, fun W2 e2 s2 => ⟨W2, ρ, M2, rfl, s2, sl.ext (e1.trans e2) sr.sub, h, _, hh, fun W3 e3 s3 => ?_⟩⟩⟩
  have r3 := r1.ext (e2.trans e3) s1.sub
  have hl := ls_len s3 r3 hd
  obtain ⟨p, vs, rfl, h1, q1⟩ := ls_sq s3 r3 hd
  exact ⟨p, vs, rfl, h1, fun t nt => k W3 t _ (e1.trans (e2.trans e3)) s3 nt (q1.cut l h) (cut_len _ _ _ (by rw [← q1.len]; exact hl))⟩
/-- xs[::-1] of a list -/
def fRevN (fa : FE) : FA := fun ρ M => (fa ρ M).bind fun a => (lsOf a.1 a.2).bind fun xs => some (xs.reverse, a.2)
theorem pfn_rev {k : Nat} {p1 p2 p3 pos : Pos} (ha : PFE X a fa) : PFN X (.Subscript a (.Slice none none (some (.UnaryOp .USub (.Constant (.int 1) k p1) p2)) p3) pos) (fRevN fa) := pe_weak (pe_revL ha) fun σ H Q => by
  rintro ⟨W, ρ, M, rfl, sr, sl, d, M', hf, k⟩
  obtain ⟨⟨x, M1⟩, hx, hf⟩ := Option.bind_eq_some_iff.mp hf
  obtain ⟨xs, hl, hf⟩ := Option.bind_eq_some_iff.mp hf
  cases hf
  refine ⟨W, ρ, M, rfl, sr, sl, x, _, hx, fun W1 v e1 s1 r1 => ?_⟩
  have hz := ls_len s1 r1 hl
  obtain ⟨p, vs, rfl, h1, q1⟩ := ls_sq s1 r1 hl
  exact ⟨p, vs, rfl, h1, fun t nt => k W1 t _ e1 s1 nt q1.reverse (by rw [List.length_reverse, ← q1.len]; exact hz)⟩
end
end PF
namespace PF
open PySem PySem.Spec PyProof.Rows L2
noncomputable section
/-! ### equality of data, as a Bool -/
mutual
def D.beq : D → D → Bool
  | .non, .non => true
  | .bl a, .bl b => a == b
  | .int a, .int b => a == b
  | .str a, .str b => decide (a = b)
  | .tup a, .tup b => D.beqs a b
  | .lst a, .lst b => D.beqs a b
  | .kst a, .kst b => D.beqs a b
  | .ref a, .ref b => a == b
  | .dct a b, .dct c d => D.beqs a c && D.beqs b d
  | _, _ => false
def D.beqs : List D → List D → Bool
  | [], [] => true
  | a :: as, b :: bs => D.beq a b && D.beqs as bs
  | _, _ => false
end
mutual
theorem D.beq_refl : ∀ a : D, D.beq a a = true
  | .non => by simp [D.beq]
  | .bl _ => by simp [D.beq]
  | .int _ => by simp [D.beq]
  | .str _ => by simp [D.beq]
  | .ref _ => by simp [D.beq]
  | .tup xs => by rw [D.beq]; exact D.beqs_refl xs
  | .lst xs => by rw [D.beq]; exact D.beqs_refl xs
  | .kst xs => by rw [D.beq]; exact D.beqs_refl xs
  | .dct a b => by rw [D.beq, D.beqs_refl a, D.beqs_refl b]; rfl
theorem D.beqs_refl : ∀ a : List D, D.beqs a a = true
  | [] => by simp [D.beqs]
  | x :: xs => by rw [D.beqs, D.beq_refl x, D.beqs_refl xs]; rfl
end
mutual
theorem D.eq_of_beq : ∀ a b : D, D.beq a b = true → a = b
  | .non, b, h => by cases b <;> simp [D.beq] at h ⊢
  | .bl _, b, h => by cases b <;> simp [D.beq] at h ⊢ <;> exact h
  | .int _, b, h => by cases b <;> simp [D.beq] at h ⊢ <;> exact h
  | .str _, b, h => by cases b <;> simp [D.beq] at h ⊢ <;> exact h
  | .ref _, b, h => by cases b <;> simp [D.beq] at h ⊢ <;> exact h
  | .tup xs, b, h => by
    cases b with
    | tup ys => rw [D.beq] at h; rw [D.eqs_of_beqs xs ys h]
    | _ => simp [D.beq] at h
  | .lst xs, b, h => by
    cases b with
    | lst ys => rw [D.beq] at h; rw [D.eqs_of_beqs xs ys h]
    | _ => simp [D.beq] at h
  | .kst xs, b, h => by
    cases b with
    | kst ys => rw [D.beq] at h; rw [D.eqs_of_beqs xs ys h]
    | _ => simp [D.beq] at h
  | .dct x1 x2, b, h => by
    cases b with
    | dct y1 y2 => rw [D.beq, Bool.and_eq_true] at h; rw [D.eqs_of_beqs x1 y1 h.1, D.eqs_of_beqs x2 y2 h.2]
    | _ => simp [D.beq] at h
theorem D.eqs_of_beqs : ∀ a b : List D, D.beqs a b = true → a = b
  | [], [], _ => rfl
  | [], _ :: _, h => by simp [D.beqs] at h
  | _ :: _, [], h => by simp [D.beqs] at h
  | x :: xs, y :: ys, h => by
    rw [D.beqs, Bool.and_eq_true] at h
    rw [D.eq_of_beq x y h.1, D.eqs_of_beqs xs ys h.2]
end
/-! ### what statements compute, wanted at an end -/
def OutK (K : PySem.W.Frag) (E : Ends) (W : Wo) (M' : Mem) : Out → Prop
  | .nx ρ' => ∀ W' σ', Ext W W' → SR K W' M' → Sl K W' ρ' σ' → E.nx σ' W'.H
  | .bk ρ' => ∀ W' σ', Ext W W' → SR K W' M' → Sl K W' ρ' σ' → E.bk σ' W'.H
  | .ct ρ' => ∀ W' σ', Ext W W' → SR K W' M' → Sl K W' ρ' σ' → E.ct σ' W'.H
  | .ret d => ∀ W' v, Ext W W' → SR K W' M' → Rp K W' d v → E.rt v W'.H
theorem OutK.ext {K : PySem.W.Frag} {E : Ends} {W W1 : Wo} {M' : Mem} {o : Out} (e : Ext W W1) (h : OutK K E W M' o) : OutK K E W1 M' o := by
  cases o with
  | nx ρ => exact fun W' σ' e' => h W' σ' (e.trans e')
  | bk ρ => exact fun W' σ' e' => h W' σ' (e.trans e')
  | ct ρ => exact fun W' σ' e' => h W' σ' (e.trans e')
  | ret d => exact fun W' v e' => h W' v (e.trans e')
theorem liftS_iff {K : PySem.W.Frag} {f : FS} {E : Ends} {σ : L2.St} {H : Hp} : liftS K f E σ H ↔ ∃ W ρ M, W.H = H ∧ SR K W M ∧ Sl K W ρ σ ∧ ∃ o M', f ρ M = some (o, M') ∧ OutK K E W M' o := by
  constructor
  · rintro ⟨W, ρ, M, h1, h2, h3, o, M', hf, k⟩
    refine ⟨W, ρ, M, h1, h2, h3, o, M', hf, ?_⟩
    cases o <;> exact k
  · rintro ⟨W, ρ, M, h1, h2, h3, o, M', hf, k⟩
    refine ⟨W, ρ, M, h1, h2, h3, o, M', hf, ?_⟩
    cases o <;> exact k
theorem sl_set {K : PySem.W.Frag} {W : Wo} {ρ : Rho} {σ : L2.St} {i : Nat} {d : D} {v : V} (h : Sl K W ρ σ) (r : Rp K W d v) : Sl K W (ρ.set i (some d)) (σ.set i (some v)) := by
  refine ⟨by rw [List.length_set, List.length_set]; exact h.len, fun j e hj => ?_⟩
  by_cases hji : j = i
  · subst hji
    have hl : j < ρ.length := by
      have := (List.getElem?_eq_some_iff.mp hj).1
      rw [List.length_set] at this; exact this
    rw [List.getElem?_set_self hl] at hj
    cases hj
    exact ⟨v, by rw [List.getElem?_set_self (by rw [← h.len]; exact hl)], r⟩
  · rw [List.getElem?_set_ne (Ne.symm hji)] at hj ⊢
    exact h.at_ j e hj
/-! ### targets -/
abbrev FG := D → Rho → Option Rho
abbrev FGs := List D → Rho → Option Rho
/-- vs: the slots that the target may change -/
def liftG (K : PySem.W.Frag) (vs : List Nat) (t : FG) : TG := fun v σ H Q => ∃ W ρ M d, W.H = H ∧ SR K W M ∧ Sl K W ρ σ ∧ Rp K W d v ∧ ∃ ρ', t d ρ = some ρ' ∧ ∀ W' σ', Ext W W' → SR K W' M → Sl K W' ρ' σ' → wipe σ' vs = wipe σ vs → Q σ' W'.H
def liftGs (K : PySem.W.Frag) (vs : List Nat) (t : FGs) : TGs := fun v σ H Q => ∃ W ρ M d, W.H = H ∧ SR K W M ∧ Sl K W ρ σ ∧ RpL K W d v ∧ ∃ ρ', t d ρ = some ρ' ∧ ∀ W' σ', Ext W W' → SR K W' M → Sl K W' ρ' σ' → wipe σ' vs = wipe σ vs → Q σ' W'.H
abbrev PFG (X : Cx) (vs : List Nat) (e : Expr) (t : FG) : Prop := PG X e (liftG X.K vs t)
abbrev PFGs (X : Cx) (vs : List Nat) (e : List Expr) (t : FGs) : Prop := PGs X e (liftGs X.K vs t)
def tN (i : Nat) : FG := fun d ρ => some (ρ.set i (some d))
def tT (n : Nat) (t : FGs) : FG := fun d ρ => match d with | .tup xs => if xs.length = n then t xs ρ else none | _ => none
def tsN : FGs := fun ds ρ => match ds with | [] => some ρ | _ => none
def tsC (t : FG) (u : FGs) : FGs := fun ds ρ => match ds with | d :: r => (t d ρ).bind fun ρ' => u r ρ' | [] => none
theorem wipe_set_in {i : Nat} {v : Option V} : ∀ {vs : List Nat} {σ : L2.St}, i ∈ vs → wipe (σ.set i v) vs = wipe σ vs
  | [], _, h => by simp at h
  | w :: vs, σ, h => by
    unfold wipe
    by_cases hw : i ∈ vs
    · rw [wipe_set_in hw]
    · have e : i = w := by
        rcases List.mem_cons.mp h with e | h
        · exact e
        · exact absurd h hw
      subst e
      have out : ∀ (ws : List Nat) (σ : L2.St), i ∉ ws → wipe (σ.set i v) ws = (wipe σ ws).set i v := by
        intro ws
        induction ws with
        | nil => intro σ _; rfl
        | cons z zs ih =>
          intro σ hz
          unfold wipe
          rw [ih σ fun q => hz (List.mem_cons_of_mem _ q), List.set_comm _ _ (fun q => hz (by rw [q]; exact List.mem_cons_self))]
      rw [out vs σ hw, List.set_set]
section
variable {X : Cx} {pos : Pos} {vs : List Nat}
theorem pg_weak {e : Expr} {t t' : TG} (h : PG X e t) (i : ∀ v σ H Q, t' v σ H Q → t v σ H Q) : PG X e t' := ⟨fun pins s σ H v u Q I r q => h.run pins s σ H v u Q I r (i v σ H Q q)⟩
theorem pgs_weak {e : List Expr} {t t' : TGs} (h : PGs X e t) (i : ∀ v σ H Q, t' v σ H Q → t v σ H Q) : PGs X e t' := ⟨fun pins s σ H v u Q I r q => h.run pins s σ H v u Q I r (i v σ H Q q)⟩
theorem pfg_name {i : Nat} {x : Str} (hN : X.N.Nodup) (hi : X.N[i]? = some x) (hx : Loc X.env.scope x) (hv : i ∈ vs := by decide) (hf : X.fn x = true ∨ X.env.scope.names.lookup x = some .local := by first | exact .inl rfl | exact .inr rfl | assumption) : PFG X vs (.Name x pos) (tN i) := pg_weak (pg_name hN hi hx hf) fun v σ H Q => by
  rintro ⟨W, ρ, M, d, rfl, sr, sl, r, ρ', ht, k⟩
  cases ht
  exact k W _ (.refl W) sr (sl_set sl r) (wipe_set_in hv)
theorem pfgs_nil : PFGs X vs [] tsN := pgs_weak pgs_nil fun v σ H Q => by
  rintro ⟨W, ρ, M, d, rfl, sr, sl, r, ρ', ht, k⟩
  unfold tsN at ht
  split at ht
  · cases ht
    cases (show _ = _ from r)
    exact ⟨rfl, k W _ (.refl W) sr sl rfl⟩
  · cases ht
theorem pfgs_cons {e : Expr} {es : List Expr} {t : FG} {u : FGs} (h1 : PFG X vs e t) (h2 : PFGs X vs es u) (hs : (assignEach (e :: es) X.env).map (·.2) = assign e X.env :: (assignEach es X.env).map (·.2) := by rfl) : PFGs X vs (e :: es) (tsC t u) := pgs_weak (pgs_cons h1 h2 hs) fun v σ H Q => by
  rintro ⟨W, ρ, M, d, rfl, sr, sl, r, ρ', ht, k⟩
  unfold tsC at ht
  split at ht
  · obtain ⟨ρ1, h1, h2⟩ := Option.bind_eq_some_iff.mp ht
    obtain ⟨v1, vr, rfl, q1, q2⟩ := r
    exact ⟨v1, vr, rfl, W, ρ, M, _, rfl, sr, sl, q1, ρ1, h1, fun W1 σ1 e1 s1 l1 w1 => ⟨W1, ρ1, M, _, rfl, s1, l1, q2.ext e1 sr.sub, ρ', h2, fun W2 σ2 e2 s2 l2 w2 => k W2 σ2 (e1.trans e2) s2 l2 (w2.trans w1)⟩⟩
  · cases ht
theorem pfg_tup {es : List Expr} {k : Nat} {t : FGs} {n : Nat} (hc : X.calm = true) (h : PFGs X vs es t) (hn : (assignEach es X.env).length = n := by rfl) (hst : (assignEach es X.env).findIdx? (·.1) = none := by rfl) : PFG X vs (.Tuple es k pos) (tT n t) := pg_weak (pg_tup hc h hn hst) fun v σ H Q => by
  rintro ⟨W, ρ, M, d, rfl, sr, sl, r, ρ', ht, k⟩
  unfold tT at ht
  split at ht
  · split at ht
    · rename_i hl
      obtain ⟨a, vs, rfl, h1, q1⟩ := tp_sq r
      exact ⟨a, vs, rfl, h1, by rw [← q1.len]; exact hl, W, ρ, M, _, rfl, sr, sl, q1, ρ', ht, k⟩
    · cases ht
  · cases ht
end
/-! ### statements -/
def sNext : FS := fun ρ M => some (.nx ρ, M)
def sSeq (f g : FS) : FS := fun ρ M => (f ρ M).bind fun o => match o.1 with | .nx ρ' => g ρ' o.2 | _ => some o
def sBreak : FS := fun ρ M => some (.bk ρ, M)
def sCont : FS := fun ρ M => some (.ct ρ, M)
def sDrop (f : FE) : FS := fun ρ M => (f ρ M).bind fun a => some (.nx ρ, a.2)
def sRet (f : FE) : FS := fun ρ M => (f ρ M).bind fun a => some (.ret a.1, a.2)
def sRetN : FS := fun _ M => some (.ret .non, M)
def sIf (c : FT) (f g : FS) : FS := fun ρ M => (c ρ M).bind fun a => if a.1 = true then f ρ a.2 else g ρ a.2
def sSet (i : Nat) (f : FE) : FS := fun ρ M => (f ρ M).bind fun a => some (.nx (ρ.set i (some a.1)), a.2)
def sAsg (f : FE) (t : FG) : FS := fun ρ M => (f ρ M).bind fun a => (t a.1 ρ).bind fun ρ' => some (.nx ρ', a.2)
def sPar (i j : Nat) (f : FA) : FS := fun ρ M => (f ρ M).bind fun a => match a.1 with | [x, y] => some (.nx ((ρ.set i (some x)).set j (some y)), a.2) | _ => none
def sPar3 (i j l : Nat) (f : FA) : FS := fun ρ M => (f ρ M).bind fun a => match a.1 with | [x, y, z] => some (.nx (((ρ.set i (some x)).set j (some y)).set l (some z)), a.2) | _ => none
abbrev G2M := D → D → Mem → Option (D × Mem)
def sAug (i : Nat) (g : G2M) (f : FE) : FS := fun ρ M => match ρ[i]? with | some (some x) => (f ρ M).bind fun a => (g x a.1 a.2).bind fun z => some (.nx (ρ.set i (some z.1)), z.2) | _ => none
def Op2M (K : PySem.W.Frag) (r : R2) (g : G2M) : Prop := ∀ (W : Wo) (M M' : Mem) (x y d : D) (v u : V) (Q : VK), SR K W M → Rp K W x v → Rp K W y u → g x y M = some (d, M') →
  (∀ W' v', Ext W W' → SR K W' M' → Rp K W' d v' → Q v' W'.H) → r v u W.H Q
section
variable {X : Cx} {st : Stmt} {rest : List Stmt} {f g : FS} {e : Expr} {fe : FE} {pos : Pos}
theorem pfs_nil : PFSs X [] sNext := pss_weak pss_nil fun E σ H => by
  rw [liftS_iff]
  rintro ⟨W, ρ, M, rfl, sr, sl, o, M', hf, k⟩
  cases hf
  exact k W σ (.refl W) sr sl
theorem pfs_cons (h1 : PFS X st f) (h2 : PFSs X rest g) : PFSs X (st :: rest) (sSeq f g) := pss_weak (pss_cons h1 h2) fun E σ H => by
  rw [liftS_iff]
  rintro ⟨W, ρ, M, rfl, sr, sl, o, M', hf, k⟩
  obtain ⟨⟨o1, M1⟩, h1, hf⟩ := Option.bind_eq_some_iff.mp hf
  show liftS X.K f _ σ W.H
  rw [liftS_iff]
  refine ⟨W, ρ, M, rfl, sr, sl, o1, M1, h1, ?_⟩
  cases o1 with
  | nx ρ1 =>
    intro W1 σ1 e1 s1 l1
    exact liftS_iff.mpr ⟨W1, ρ1, M1, rfl, s1, l1, o, M', hf, k.ext e1⟩
  | ret d => cases hf; exact k
  | bk d => cases hf; exact k
  | ct d => cases hf; exact k
theorem pfs_one (h1 : PFS X st f) : PFSs X [st] f := pss_one h1
theorem pfs_pass : PFS X (.Pass pos) sNext := ps_weak ps_pass fun E σ H => by
  rw [liftS_iff]
  rintro ⟨W, ρ, M, rfl, sr, sl, o, M', hf, k⟩
  cases hf
  exact k W σ (.refl W) sr sl
theorem pfs_break : PFS X (.Break pos) sBreak := ps_weak ps_break fun E σ H => by
  rw [liftS_iff]
  rintro ⟨W, ρ, M, rfl, sr, sl, o, M', hf, k⟩
  cases hf
  exact k W σ (.refl W) sr sl
theorem pfs_continue : PFS X (.Continue pos) sCont := ps_weak ps_continue fun E σ H => by
  rw [liftS_iff]
  rintro ⟨W, ρ, M, rfl, sr, sl, o, M', hf, k⟩
  cases hf
  exact k W σ (.refl W) sr sl
theorem pfs_doc {x j pos pos'} : PFS X (.Expr (.Constant (.str x) j pos) pos') sNext := ps_weak ps_doc fun E σ H => by
  rw [liftS_iff]
  rintro ⟨W, ρ, M, rfl, sr, sl, o, M', hf, k⟩
  cases hf
  exact k W σ (.refl W) sr sl
theorem pfs_expr (he : PFE X e fe) (hs : swapsWith e none pos.line X.env = pure false := by rfl) : PFS X (.Expr e pos) (sDrop fe) := ps_weak (ps_expr he hs) fun E σ H => by
  rw [liftS_iff]
  rintro ⟨W, ρ, M, rfl, sr, sl, o, M', hf, k⟩
  obtain ⟨⟨x, M1⟩, hx, hf⟩ := Option.bind_eq_some_iff.mp hf
  cases hf
  exact ⟨W, ρ, M, rfl, sr, sl, x, _, hx, fun W1 v e1 s1 r1 => k W1 σ e1 s1 (sl.ext e1 sr.sub)⟩
theorem pfs_ret (he : PFE X e fe) : PFS X (.Return (some e) pos) (sRet fe) := ps_weak (ps_ret he) fun E σ H => by
  rw [liftS_iff]
  rintro ⟨W, ρ, M, rfl, sr, sl, o, M', hf, k⟩
  obtain ⟨⟨x, M1⟩, hx, hf⟩ := Option.bind_eq_some_iff.mp hf
  cases hf
  exact ⟨W, ρ, M, rfl, sr, sl, x, _, hx, fun W1 v e1 s1 r1 => k W1 v e1 s1 r1⟩
theorem pfs_retN : PFS X (.Return none pos) sRetN := ps_weak ps_retN fun E σ H => by
  rw [liftS_iff]
  rintro ⟨W, ρ, M, rfl, sr, sl, o, M', hf, k⟩
  cases hf
  exact k W .non (.refl W) sr rfl
theorem pfs_if {c : Expr} {a b : List Stmt} {fc : FT} (hc : PFT X c fc) (ha : PFSs X a f) (hb : PFSs X b g) : PFS X (.If c a b pos) (sIf fc f g) := ps_weak (ps_if hc ha hb) fun E σ H => by
  rw [liftS_iff]
  rintro ⟨W, ρ, M, rfl, sr, sl, o, M', hf, k⟩
  obtain ⟨⟨x, M1⟩, hx, hf⟩ := Option.bind_eq_some_iff.mp hf
  refine ⟨W, ρ, M, rfl, sr, sl, x, M1, hx, fun W1 e1 s1 => ?_⟩
  cases x with
  | true =>
    rw [if_pos rfl] at hf ⊢
    exact liftS_iff.mpr ⟨W1, ρ, M1, rfl, s1, sl.ext e1 sr.sub, o, M', hf, k.ext e1⟩
  | false =>
    rw [if_neg Bool.false_ne_true] at hf ⊢
    exact liftS_iff.mpr ⟨W1, ρ, M1, rfl, s1, sl.ext e1 sr.sub, o, M', hf, k.ext e1⟩
theorem pfs_set {i : Nat} {x : Str} {pos' : Pos} (hN : X.N.Nodup) (hi : X.N[i]? = some x) (hx : Loc X.env.scope x) (he : PFE X e fe) (hs : swapsWith e (some (.Name x pos')) pos.line X.env = pure false := by rfl) (hf : X.fn x = true ∨ X.env.scope.names.lookup x = some .local := by first | exact .inl rfl | exact .inr rfl | assumption) :
    PFS X (.Assign [.Name x pos'] e pos) (sSet i fe) := ps_weak (ps_set hN hi hx he hs hf) fun E σ H => by
  rw [liftS_iff]
  rintro ⟨W, ρ, M, rfl, sr, sl, o, M', hf, k⟩
  obtain ⟨⟨x, M1⟩, hx, hf⟩ := Option.bind_eq_some_iff.mp hf
  cases hf
  exact ⟨W, ρ, M, rfl, sr, sl, x, _, hx, fun W1 v e1 s1 r1 => k W1 _ e1 s1 (sl_set (sl.ext e1 sr.sub) r1)⟩
theorem pfs_asg {tg : Expr} {t : FG} {vs : List Nat} (he : PFE X e fe) (hg : PFG X vs tg t) (hs : swapsWithSole [tg] e pos.line X.env = pure false := by rfl) (hw : swappedStores [tg] e X.env = pure none := by rfl)
    (h1 : (assignEach [tg] X.env).map (·.2) = [assign tg X.env] := by rfl) : PFS X (.Assign [tg] e pos) (sAsg fe t) := ps_weak (ps_asg he hg hs hw h1) fun E σ H => by
  rw [liftS_iff]
  rintro ⟨W, ρ, M, rfl, sr, sl, o, M', hf, k⟩
  obtain ⟨⟨x, M1⟩, hx, hf⟩ := Option.bind_eq_some_iff.mp hf
  obtain ⟨ρ', ht, hf⟩ := Option.bind_eq_some_iff.mp hf
  cases hf
  exact ⟨W, ρ, M, rfl, sr, sl, x, _, hx, fun W1 v e1 s1 r1 => ⟨W1, ρ, _, x, rfl, s1, sl.ext e1 sr.sub, r1, ρ', ht, fun W2 σ2 e2 s2 l2 _ => k W2 σ2 (e1.trans e2) s2 l2⟩⟩
theorem pfs_par {i j : Nat} {x y : Str} {a b : Expr} {fa : FA} {px py pt : Pos} {kt k2 pt2} (hc : X.calm = true) (hN : X.N.Nodup) (hi : X.N[i]? = some x) (hj : X.N[j]? = some y) (hij : i ≠ j)
    (hx : X.env.scope.names.lookup x = some .local) (hy : X.env.scope.names.lookup y = some .local) (ha : PFA X [a, b] fa)
    (hw : swappedStores [.Tuple [.Name x px, .Name y py] kt pt] (.Tuple [a, b] k2 pt2) X.env = pure (some [x, y]))
    (hs : swapsWithSole [.Tuple [.Name x px, .Name y py] kt pt] (.Tuple [a, b] k2 pt2) pos.line X.env = pure false := by rfl) :
    PFS X (.Assign [.Tuple [.Name x px, .Name y py] kt pt] (.Tuple [a, b] k2 pt2) pos) (sPar i j fa) := ps_weak (ps_par hc hN hi hj hij hx hy ha hw hs) fun E σ H => by
  rw [liftS_iff]
  rintro ⟨W, ρ, M, rfl, sr, sl, o, M', hf, k⟩
  obtain ⟨⟨x, M1⟩, hx, hf⟩ := Option.bind_eq_some_iff.mp hf
  dsimp only at hf
  split at hf
  · cases hf
    refine ⟨W, ρ, M, rfl, sr, sl, _, _, hx, fun W1 v e1 s1 r1 => ?_⟩
    obtain ⟨v1, r, rfl, q1, v2, r', rfl, q2, q3⟩ := r1
    cases (show _ = _ from q3)
    exact ⟨v1, v2, rfl, k W1 _ e1 s1 (sl_set (sl_set (sl.ext e1 sr.sub) q1) q2)⟩
  · cases hf
theorem pfs_par3 {i j l : Nat} {x y z : Str} {a b c : Expr} {fa : FA} {px py pz pt : Pos} {kt k2 pt2} (hc : X.calm = true) (hN : X.N.Nodup) (hi : X.N[i]? = some x) (hj : X.N[j]? = some y) (hl : X.N[l]? = some z) (hij : i ≠ j) (hil : i ≠ l) (hjl : j ≠ l)
    (hx : X.env.scope.names.lookup x = some .local) (hy : X.env.scope.names.lookup y = some .local) (hz : X.env.scope.names.lookup z = some .local) (ha : PFA X [a, b, c] fa)
    (hw : swappedStores [.Tuple [.Name x px, .Name y py, .Name z pz] kt pt] (.Tuple [a, b, c] k2 pt2) X.env = pure (some [x, y, z]))
    (hs : swapsWithSole [.Tuple [.Name x px, .Name y py, .Name z pz] kt pt] (.Tuple [a, b, c] k2 pt2) pos.line X.env = pure false := by rfl) :
    PFS X (.Assign [.Tuple [.Name x px, .Name y py, .Name z pz] kt pt] (.Tuple [a, b, c] k2 pt2) pos) (sPar3 i j l fa) := ps_weak (ps_par3 hc hN hi hj hl hij hil hjl hx hy hz ha hw hs) fun E σ H => by
  rw [liftS_iff]
  rintro ⟨W, ρ, M, rfl, sr, sl, o, M', hf, k⟩
  obtain ⟨⟨x, M1⟩, hx, hf⟩ := Option.bind_eq_some_iff.mp hf
  dsimp only at hf
  split at hf
  · cases hf
    refine ⟨W, ρ, M, rfl, sr, sl, _, _, hx, fun W1 v e1 s1 r1 => ?_⟩
    obtain ⟨v1, r, rfl, q1, v2, r', rfl, q2, v3, r'', rfl, q3, q4⟩ := r1
    cases (show _ = _ from q4)
    exact ⟨v1, v2, v3, rfl, k W1 _ e1 s1 (sl_set (sl_set (sl_set (sl.ext e1 sr.sub) q1) q2) q3)⟩
  · cases hf
theorem pfs_aug {i : Nat} {x : Str} {op : Operator} {r : R2} {gm : G2M} {pos' : Pos} (hN : X.N.Nodup) (hi : X.N[i]? = some x) (hx : Loc X.env.scope x) (he : PFE X e fe) (ho : OpR X (inplaceOp op) r) (o : Op2M X.K r gm) (hf : X.fn x = true ∨ X.env.scope.names.lookup x = some .local := by first | exact .inl rfl | exact .inr rfl | assumption) :
    PFS X (.AugAssign (.Name x pos') op e pos) (sAug i gm fe) := ps_weak (ps_aug (ti := r) hN hi hx he ho hf) fun E σ H => by
  rw [liftS_iff]
  rintro ⟨W, ρ, M, rfl, sr, sl, o', M', hf, k⟩
  unfold sAug at hf
  split at hf
  · rename_i d hd
    obtain ⟨⟨y, M1⟩, hy, hf⟩ := Option.bind_eq_some_iff.mp hf
    obtain ⟨⟨z, M2⟩, hz, hf⟩ := Option.bind_eq_some_iff.mp hf
    cases hf
    obtain ⟨v, h1, h2⟩ := sl.at_ i d hd
    exact ⟨v, h1, W, ρ, M, rfl, sr, sl, y, M1, hy, fun W1 u e1 s1 r1 => o W1 M1 _ d y z v u _ s1 (h2.ext e1 sr.sub) r1 hz fun W2 w e2 s2 r2 => k W2 _ (e1.trans e2) s2 (sl_set (sl.ext (e1.trans e2) sr.sub) r2)⟩
  · cases hf
end
/-! ### while -/
def sWhileN (fc : FT) (fb : FS) : Nat → FS
  | 0, _, _ => none
  | n + 1, ρ, M => (fc ρ M).bind fun c => if c.1 = true then (fb ρ c.2).bind fun o => match o.1 with
      | .nx ρ' => sWhileN fc fb n ρ' o.2
      | .ct ρ' => sWhileN fc fb n ρ' o.2
      | .bk ρ' => some (.nx ρ', o.2)
      | .ret d => some (.ret d, o.2)
    else some (.nx ρ, c.2)
def fuel (ρ : Rho) (M : Mem) : Nat := ρ.foldl (fun n d => n + match d with | some (.int i) => i.natAbs | _ => 0) 1000000
def sWhile (fc : FT) (fb : FS) : FS := fun ρ M => sWhileN fc fb (fuel ρ M) ρ M
theorem pfs_while {X : Cx} {pos : Pos} {c : Expr} {body : List Stmt} {fc : FT} {fb : FS} (hp : PassesOwn (model X.prog X.w) X.A X.env X.xe) (hc : PFT X c fc) (hb : PFSs X body fb) : PFS X (.While c body [] pos) (sWhile fc fb) := ps_weak (ps_while hp hc hb) fun E σ H => by
  rw [liftS_iff]
  rintro ⟨W, ρ, M, rfl, sr, sl, o, M', hf, k⟩
  refine ⟨fun n σ' H' => ∃ W1 ρ1 M1, W1.H = H' ∧ Ext W W1 ∧ SR X.K W1 M1 ∧ Sl X.K W1 ρ1 σ' ∧ sWhileN fc fb n ρ1 M1 = some (o, M'), ⟨_, W, ρ, M, rfl, .refl W, sr, sl, hf⟩, ?_⟩
  rintro n σ1 H1 ⟨W1, ρ1, M1, rfl, e1, s1, l1, hw⟩
  cases n with
  | zero => cases hw
  | succ n =>
    obtain ⟨⟨b, M2⟩, hcx, hw⟩ := Option.bind_eq_some_iff.mp hw
    refine ⟨W1, ρ1, M1, rfl, s1, l1, b, M2, hcx, fun W2 e2 s2 => ?_⟩
    cases b with
    | false =>
      rw [if_neg Bool.false_ne_true] at hw ⊢
      cases hw
      exact k W2 σ1 (e1.trans e2) s2 (l1.ext e2 s1.sub)
    | true =>
      rw [if_pos rfl] at hw ⊢
      obtain ⟨⟨o3, M3⟩, ho, hw⟩ := Option.bind_eq_some_iff.mp hw
      refine ⟨fun σ' H' => ∃ W3 ρ3, W3.H = H' ∧ Ext W W3 ∧ SR X.K W3 M3 ∧ Sl X.K W3 ρ3 σ' ∧ sWhileN fc fb n ρ3 M3 = some (o, M'), ?_, liftS_iff.mpr ⟨W2, ρ1, M2, rfl, s2, l1.ext e2 s1.sub, o3, M3, ho, ?_⟩⟩
      · rintro σ' H' ⟨W3, ρ3, h1, h2, h3, h4, h5⟩
        exact ⟨n, Nat.lt_succ_self n, W3, ρ3, M3, h1, h2, h3, h4, h5⟩
      · cases o3 with
        | nx ρ3 => exact fun W3 σ3 e3 s3 l3 => ⟨W3, ρ3, rfl, (e1.trans e2).trans e3, s3, l3, hw⟩
        | ct ρ3 => exact fun W3 σ3 e3 s3 l3 => ⟨W3, ρ3, rfl, (e1.trans e2).trans e3, s3, l3, hw⟩
        | bk ρ3 => cases hw; exact fun W3 σ3 e3 s3 l3 => k W3 σ3 ((e1.trans e2).trans e3) s3 l3
        | ret d => cases hw; exact fun W3 v e3 s3 r3 => k W3 v ((e1.trans e2).trans e3) s3 r3
/-! ### for -/
/-- the items, and the changeable list that they are read from, if it is one -/
abbrev KK := Option (Nat ⊕ (Nat × MO))
abbrev FI := Rho → Mem → Option ((List D × KK) × Mem)
open Classical in
noncomputable def chkM (n : Nat) (mo : MO) (M : Mem) : Bool := decide (M[n]? = some mo)
noncomputable def chk (k : KK) (xs : List D) (M : Mem) : Bool := match k with
  | none => true
  | some (.inl n) => match M[n]? with | some (.lst ys) => D.beqs ys xs | _ => false
  | some (.inr p) => chkM p.1 p.2 M
def JOk (K : PySem.W.Frag) (W : Wo) (J : It) (xs : List D) (k : KK) : Prop := xs.length ≤ LINE ∧ ∀ W' M', Ext W W' → SR K W' M' → chk k xs M' = true → ∀ i,
  (∀ d, xs[i]? = some d → J.go i W'.H ∧ ∀ x H', J.yld i W'.H x H' → H' = W'.H ∧ Rp K W' d x) ∧ (xs.length ≤ i → J.stop i W'.H)
def liftI (K : PySem.W.Frag) (f : FI) : TI := fun σ H R => ∃ W ρ M, W.H = H ∧ SR K W M ∧ Sl K W ρ σ ∧ ∃ xs k M', f ρ M = some ((xs, k), M') ∧
  ∀ W' J, Ext W W' → SR K W' M' → JOk K W' J xs k → R J W'.H
abbrev PFI (X : Cx) (tg e : Expr) (f : FI) : Prop := PI X tg e (liftI X.K f)
def sLoop (c : Mem → Bool) (step : D → FS) : List D → FS
  | [], ρ, M => if c M = true then some (.nx ρ, M) else none
  | d :: ds, ρ, M => if c M = true then (step d ρ M).bind fun o => match o.1 with
      | .nx ρ' => sLoop c step ds ρ' o.2
      | .ct ρ' => sLoop c step ds ρ' o.2
      | .bk ρ' => some (.nx ρ', o.2)
      | .ret d => some (.ret d, o.2)
    else none
def sStep (t : FG) (fb : FS) (d : D) : FS := fun ρ M => (t d ρ).bind fun ρ' => fb ρ' M
def sFor (fi : FI) (t : FG) (fb : FS) : FS := fun ρ M => (fi ρ M).bind fun a => sLoop (chk a.1.2 a.1.1) (sStep t fb) a.1.1 ρ a.2
theorem pfs_for {X : Cx} {pos : Pos} {tg iter : Expr} {body : List Stmt} {fi : FI} {t : FG} {vs : List Nat} {fb : FS} (hp : PassesOwn (model X.prog X.w) X.A X.env X.xe) (hc : X.calm = true) (hi : PFI X tg iter fi) (hg : PFG X vs tg t) (hb : PFSs X body fb)
    (hs : ∀ x, foldedSetIterable iter X.env x = pure x := by intro _; rfl) : PFS X (.For tg iter body [] pos) (sFor fi t fb) := ps_weak (ps_for hp hc hi hg hb hs) fun E σ H => by
  rw [liftS_iff]
  rintro ⟨W, ρ, M, rfl, sr, sl, o, M', hf, k⟩
  obtain ⟨⟨⟨xs, kk⟩, M1⟩, hi, hf⟩ := Option.bind_eq_some_iff.mp hf
  refine ⟨W, ρ, M, rfl, sr, sl, xs, kk, M1, hi, fun W1 J e1 s1 jo => ?_⟩
  refine ⟨fun i m σ' H' => ∃ W2 ρ2 M2, W2.H = H' ∧ Ext W1 W2 ∧ SR X.K W2 M2 ∧ Sl X.K W2 ρ2 σ' ∧ i ≤ xs.length ∧ m = xs.length - i ∧ sLoop (chk kk xs) (sStep t fb) (xs.drop i) ρ2 M2 = some (o, M'), ⟨xs.length, W1, ρ, M1, rfl, .refl W1, s1, sl.ext e1 sr.sub, Nat.zero_le _, rfl, hf⟩, ?_⟩
  rintro i m σ2 H2 ⟨W2, ρ2, Mt, rfl, e2, s2, l2, hil, rfl, hw⟩
  by_cases hlt : i < xs.length
  · right
    have hd : xs.drop i = xs[i] :: xs.drop (i + 1) := List.drop_eq_getElem_cons hlt
    rw [hd] at hw
    unfold sLoop at hw
    split at hw
    · rename_i hck
      obtain ⟨⟨o3, M3⟩, ho, hw⟩ := Option.bind_eq_some_iff.mp hw
      obtain ⟨hgo, hy⟩ := (jo.2 W2 Mt e2 s2 hck i).1 xs[i] (by simp [hlt])
      refine ⟨hgo, fun σ' H' => ∃ W3 ρ3, W3.H = H' ∧ Ext W1 W3 ∧ SR X.K W3 M3 ∧ Sl X.K W3 ρ3 σ' ∧ sLoop (chk kk xs) (sStep t fb) (xs.drop (i + 1)) ρ3 M3 = some (o, M'), ?_, fun x H' hx => ?_⟩
      · rintro σ' H' ⟨W3, ρ3, h1, h2, h3, h4, h5⟩
        exact ⟨xs.length - (i + 1), by omega, W3, ρ3, M3, h1, h2, h3, h4, hlt, rfl, h5⟩
      · obtain ⟨rfl, rx⟩ := hy x H' hx
        obtain ⟨ρ3, ht, ho⟩ := Option.bind_eq_some_iff.mp ho
        refine ⟨W2, ρ2, Mt, xs[i], rfl, s2, l2, rx, ρ3, ht, fun W3 σ3 e3 s3 l3 _ => liftS_iff.mpr ⟨W3, ρ3, Mt, rfl, s3, l3, o3, M3, ho, ?_⟩⟩
        cases o3 with
        | nx ρ4 => exact fun W4 σ4 e4 s4 l4 => ⟨W4, ρ4, rfl, e2.trans (e3.trans e4), s4, l4, hw⟩
        | ct ρ4 => exact fun W4 σ4 e4 s4 l4 => ⟨W4, ρ4, rfl, e2.trans (e3.trans e4), s4, l4, hw⟩
        | bk ρ4 => cases hw; exact fun W4 σ4 e4 s4 l4 => k W4 σ4 (e1.trans (e2.trans (e3.trans e4))) s4 l4
        | ret d => cases hw; exact fun W4 v e4 s4 r4 => k W4 v (e1.trans (e2.trans (e3.trans e4))) s4 r4
    · cases hw
  · left
    have e : i = xs.length := by omega
    subst e
    rw [List.drop_length] at hw
    unfold sLoop at hw
    split at hw
    · rename_i hck
      cases hw
      exact ⟨(jo.2 W2 _ e2 s2 hck xs.length).2 (Nat.le_refl _), k W2 σ2 (e1.trans e2) s2 l2⟩
    · cases hw
/-! ### what a for walks -/
def fiSq (fa : FE) : FI := fun ρ M => (fa ρ M).bind fun a => match a.1 with
  | .ref n => (lsOf a.1 a.2).bind fun xs => some ((xs, some (.inl n)), a.2)
  | d => (sqOf d a.2).bind fun xs => some ((xs, none), a.2)
def rgD (lo : Int) (n : Nat) : List D := (List.range n).map fun (i : Nat) => D.int (lo + i)
def okR (i j : Int) : Bool := Nat.ble i.natAbs 1000000000 && (Nat.ble j.natAbs 1000000000 && Nat.ble (j - i).toNat 16777216)
theorem okR_ok {i j : Int} (h : okR i j = true) : (-(4611686018427387904) ≤ i ∧ i < 4611686018427387904) ∧ (-(4611686018427387904) ≤ j ∧ j < 4611686018427387904) ∧ j - i ≤ 16777216 := by
  unfold okR at h
  rw [Bool.and_eq_true, Bool.and_eq_true] at h
  have h1 := Nat.le_of_ble_eq_true h.1
  have h2 := Nat.le_of_ble_eq_true h.2.1
  have h3 := Nat.le_of_ble_eq_true h.2.2
  omega
def fiRg1 (f : FA) : FI := fun ρ M => (f ρ M).bind fun a => match a.1 with | [.int j] => if okR 0 j then some ((rgD 0 j.toNat, none), a.2) else none | _ => none
def fiRg2 (f : FA) : FI := fun ρ M => (f ρ M).bind fun a => match a.1 with | [.int i, .int j] => if okR i j then some ((rgD i (j - i).toNat, none), a.2) else none | _ => none
section
variable {X : Cx} {tg a : Expr} {fa : FE}
theorem pi_weak {e : Expr} {t t' : TI} (h : PI X tg e t) (i : ∀ σ H Q, t' σ H Q → t σ H Q) : PI X tg e t' := ⟨fun pins s σ H Q I q => h.run pins s σ H Q I (i σ H Q q)⟩
def iSeq (K : PySem.W.Frag) (tl : TE) : TI := fun σ H R => tl σ H fun x H1 => ∃ a, x = .ref a ∧ (((∃ xs, SqL K H1 a xs) ∧ R (Itl K a) H1) ∨ ((∃ xs, SqT K H1 a xs) ∧ R (Itt K a) H1))
/-- a list or a tuple is walked -/
theorem pi_seq {l : Expr} {tl : TE} (hl : PE X l tl) : PI X tg l (iSeq X.K tl) := by
  refine ⟨fun pins s σ H R I h => ?_⟩
  refine thn (hl.run pins s σ H _ I h) fun vv s1 ⟨x, H1, I1, r1, p, ex, q⟩ => ?_
  subst ex
  cases r1
  have fresh : ∀ b ∈ [s1.heap.objs.size], FpOk X pins H1 b := fun b hb => by
    obtain rfl : b = s1.heap.objs.size := by simpa using hb
    exact I1.fpOk (Nat.le_refl _) (I1.hok.fresh (Nat.le_refl _))
  rcases q with ⟨⟨xs, hq⟩, q⟩ | ⟨⟨xs, hq⟩, q⟩
  · obtain ⟨its, rv, pl, _⟩ := I1.list hq
    exact wpAny_pyIter_list pl.isList ⟨s1.heap.objs.size, [s1.heap.objs.size], _, _, H1, rfl, I1.kept (t' := s1.toks) fun b u eb => Heap.get?_push_of_some _ eb, turn_list p _, ⟨_, Heap.get?_push_size _ rfl, rfl, rfl⟩, fresh, q⟩
  · obtain ⟨its, rv, pt, _⟩ := I1.tuple hq
    exact wpAny_pyIter_tuple (show s1.heap.IsTuple p its.toArray from pt) ⟨s1.heap.objs.size, [s1.heap.objs.size], _, _, H1, rfl, I1.kept (t' := s1.toks) fun b u eb => Heap.get?_push_of_some _ eb, turn_tuple p _, ⟨_, Heap.get?_push_size _ rfl, rfl, rfl⟩, fresh, q⟩
theorem jok_of {K : PySem.W.Frag} {W : Wo} {J : It} {xs : List D} {kk : KK} (hz : xs.length ≤ LINE) (h : ∀ W' M', Ext W W' → SR K W' M' → chk kk xs M' = true → ∃ vs, RpL K W' xs vs ∧ (∀ i x, vs[i]? = some x → J.go i W'.H ∧ ∀ y H', J.yld i W'.H y H' → H' = W'.H ∧ y = x) ∧ ∀ i, vs.length ≤ i → J.stop i W'.H) : JOk K W J xs kk := by
  refine ⟨hz, fun W' M' e s c i => ?_⟩
  obtain ⟨vs, r, h1, h2⟩ := h W' M' e s c
  refine ⟨fun d hd => ?_, fun hl => h2 i (by rw [← r.len]; exact hl)⟩
  obtain ⟨v, hv, rv⟩ := r.get hd
  obtain ⟨g, y⟩ := h1 i v hv
  exact ⟨g, fun x H' hx => ⟨(y x H' hx).1, by rw [(y x H' hx).2]; exact rv⟩⟩
theorem walk_l {K : PySem.W.Frag} {H : Hp} {p : Addr} {vs : List V} (h : SqL K H p vs) : (∀ i x, vs[i]? = some x → (Itl K p).go i H ∧ ∀ y H', (Itl K p).yld i H y H' → H' = H ∧ y = x) ∧ ∀ i, vs.length ≤ i → (Itl K p).stop i H :=
  ⟨fun i x hx => ⟨⟨vs, x, h, hx⟩, fun y H' q => ⟨q.1, Option.some.inj ((q.2 vs h).symm.trans hx)⟩⟩, fun i hi => ⟨vs, h, hi⟩⟩
theorem walk_t {K : PySem.W.Frag} {H : Hp} {p : Addr} {vs : List V} (h : SqT K H p vs) : (∀ i x, vs[i]? = some x → (Itt K p).go i H ∧ ∀ y H', (Itt K p).yld i H y H' → H' = H ∧ y = x) ∧ ∀ i, vs.length ≤ i → (Itt K p).stop i H :=
  ⟨fun i x hx => ⟨⟨vs, x, h, hx⟩, fun y H' q => ⟨q.1, Option.some.inj ((q.2 vs h).symm.trans hx)⟩⟩, fun i hi => ⟨vs, h, hi⟩⟩
theorem jok_sq {K : PySem.W.Frag} {W : Wo} {M : Mem} {d : D} {v : V} {xs : List D} (sr : SR K W M) (h : Rp K W d v) (hn : ∀ n, d ≠ .ref n) (e : sqOf d M = some xs) :
    ∃ p, v = .ref p ∧ (((∃ vs, SqL K W.H p vs) ∧ JOk K W (Itl K p) xs none) ∨ ((∃ vs, SqT K W.H p vs) ∧ JOk K W (Itt K p) xs none)) := by
  obtain ⟨p, vs, rfl, h1, r⟩ := sq_sq sr h e
  refine ⟨p, rfl, ?_⟩
  cases d with
  | tup ds =>
    have hz := sq_len sr h e
    cases e
    obtain ⟨p', vs', e', q, r'⟩ := tp_sq h
    cases e'
    refine .inr ⟨⟨_, q⟩, jok_of hz fun W' M' ex s _ => ?_⟩
    obtain ⟨p2, vs2, e2, q2, r2⟩ := tp_sq (h.ext ex sr.sub)
    cases e2
    exact ⟨vs2, r2, walk_t q2⟩
  | ref n => exact absurd rfl (hn n)
  | lst ds =>
    have e' : lsOf (.lst ds) M = some xs := e
    obtain ⟨p', vs', e2, q, r'⟩ := ls_sq sr h e'
    cases e2
    refine .inl ⟨⟨_, q⟩, jok_of (sq_len sr h e) fun W' M' ex s _ => ?_⟩
    obtain ⟨p2, vs2, e2, q2, r2⟩ := ls_sq s (h.ext ex sr.sub) (show lsOf (.lst ds) M' = some xs from e')
    cases e2
    exact ⟨vs2, r2, walk_l q2⟩
  | kst ds =>
    have e' : lsOf (.kst ds) M = some xs := e
    obtain ⟨p', vs', e2, q, r'⟩ := ls_sq sr h e'
    cases e2
    refine .inl ⟨⟨_, q⟩, jok_of (sq_len sr h e) fun W' M' ex s _ => ?_⟩
    obtain ⟨p2, vs2, e2, q2, r2⟩ := ls_sq s (h.ext ex sr.sub) (show lsOf (.kst ds) M' = some xs from e')
    cases e2
    exact ⟨vs2, r2, walk_l q2⟩
  | _ => cases e
theorem pfi_sq (ha : PFE X a fa) : PFI X tg a (fiSq fa) := pi_weak (pi_seq ha) fun σ H R => by
  rintro ⟨W, ρ, M, rfl, sr, sl, xs, kk, M', hf, k⟩
  obtain ⟨⟨x, M1⟩, hx, hf⟩ := Option.bind_eq_some_iff.mp hf
  refine ⟨W, ρ, M, rfl, sr, sl, x, M1, hx, fun W1 v e1 s1 r1 => ?_⟩
  have other : (∀ n, x ≠ .ref n) → (sqOf x M1).bind (fun xs => some ((xs, (none : KK)), M1)) = some ((xs, kk), M') → ∃ p, v = .ref p ∧ (((∃ xs, SqL X.K W1.H p xs) ∧ R (Itl X.K p) W1.H) ∨ ((∃ xs, SqT X.K W1.H p xs) ∧ R (Itt X.K p) W1.H)) := fun hn e => by
    obtain ⟨ys, hy, e⟩ := Option.bind_eq_some_iff.mp e
    cases e
    obtain ⟨p, rfl, q⟩ := jok_sq s1 r1 hn hy
    exact ⟨p, rfl, q.imp (fun z => ⟨z.1, k W1 _ e1 s1 z.2⟩) fun z => ⟨z.1, k W1 _ e1 s1 z.2⟩⟩
  cases x with
  | ref n =>
    obtain ⟨ys, hy, hf⟩ := Option.bind_eq_some_iff.mp hf
    cases hf
    obtain ⟨p, vs, rfl, q, r⟩ := ls_sq s1 r1 hy
    refine ⟨p, rfl, .inl ⟨⟨_, q⟩, k W1 _ e1 s1 (jok_of (ls_len s1 r1 hy) fun W' M' ex s c => ?_)⟩⟩
    unfold chk at c
    dsimp only at c
    split at c
    · rename_i zs hz
      have ez := D.eqs_of_beqs _ _ c
      subst ez
      obtain ⟨p2, vs2, e2, q2, r2⟩ := ls_sq s (r1.ext ex s1.sub) (show lsOf (.ref n) M' = some zs by simp only [lsOf, hz])
      cases e2
      exact ⟨vs2, r2, walk_l q2⟩
    · cases c
  | tup _ => exact other (fun n z => nomatch z) hf
  | lst _ => exact other (fun n z => nomatch z) hf
  | kst _ => exact other (fun n z => nomatch z) hf
  | non => exact other (fun n z => nomatch z) hf
  | bl _ => exact other (fun n z => nomatch z) hf
  | int _ => exact other (fun n z => nomatch z) hf
  | str _ => exact other (fun n z => nomatch z) hf
  | dct _ _ => exact other (fun n z => nomatch z) hf
theorem jok_rg {K : PySem.W.Frag} {W : Wo} {lo : Int} {n : Nat} (hn : n ≤ LINE) : JOk K W (Itr lo n) (rgD lo n) none := by
  have hl : (rgD lo n).length = n := by unfold rgD; simp
  refine ⟨by rw [hl]; exact hn, fun W' M' e s c i => ?_⟩
  refine ⟨fun d hd => ?_, fun h => by rw [hl] at h; exact h⟩
  have hi : i < n := by rw [← hl]; exact (List.getElem?_eq_some_iff.mp hd).1
  have hd' : d = D.int (lo + i) := by
    unfold rgD at hd
    rw [List.getElem?_map, List.getElem?_range hi] at hd
    cases hd; rfl
  subst hd'
  exact ⟨hi, fun x H' hx => ⟨hx.1, hx.2⟩⟩
theorem pfi_rg1 {f : FA} {p pos : Pos} (hg : Gl X "range") (hm : X.mg "range" = none) (ha : PFA X [a] f) (hs : starEach [a] X.env = [(false, eval a X.env)] := by rfl) : PFI X tg (.Call (.Name "range" p) [a] [] pos) (fiRg1 f) := pi_weak (pi_range1 hg hm ha hs) fun σ H R => by
  rintro ⟨W, ρ, M, rfl, sr, sl, xs, kk, M', hf, k⟩
  obtain ⟨⟨x, M1⟩, hx, hf⟩ := Option.bind_eq_some_iff.mp hf
  dsimp only at hf
  split at hf
  · split at hf
    · rename_i hr
      cases hf
      replace hr := okR_ok hr
      refine ⟨W, ρ, M, rfl, sr, sl, _, _, hx, fun W1 v e1 s1 r1 => ?_⟩
      obtain ⟨v1, r, rfl, q1, q2⟩ := r1
      cases (show _ = _ from q1); cases (show _ = _ from q2)
      exact ⟨_, rfl, hr.2.1.1, hr.2.1.2, k W1 _ e1 s1 (jok_rg (by show _ ≤ 16777216; omega))⟩
    · cases hf
  · cases hf
theorem pfi_rg2 {b : Expr} {f : FA} {p pos : Pos} (hg : Gl X "range") (hm : X.mg "range" = none) (ha : PFA X [a, b] f) (hs : starEach [a, b] X.env = [(false, eval a X.env), (false, eval b X.env)] := by rfl) (hs2 : starEach [b] X.env = [(false, eval b X.env)] := by rfl) :
    PFI X tg (.Call (.Name "range" p) [a, b] [] pos) (fiRg2 f) := pi_weak (pi_range2 hg hm ha hs hs2) fun σ H R => by
  rintro ⟨W, ρ, M, rfl, sr, sl, xs, kk, M', hf, k⟩
  obtain ⟨⟨x, M1⟩, hx, hf⟩ := Option.bind_eq_some_iff.mp hf
  dsimp only at hf
  split at hf
  · split at hf
    · rename_i hr
      cases hf
      replace hr := okR_ok hr
      refine ⟨W, ρ, M, rfl, sr, sl, _, _, hx, fun W1 v e1 s1 r1 => ?_⟩
      obtain ⟨v1, r, rfl, q1, v2, r', rfl, q2, q3⟩ := r1
      cases (show _ = _ from q1); cases (show _ = _ from q2); cases (show _ = _ from q3)
      exact ⟨_, _, rfl, ⟨hr.1.1, hr.1.2, hr.2.1.1, hr.2.1.2⟩, k W1 _ e1 s1 (jok_rg (by show _ ≤ 16777216; omega))⟩
    · cases hf
  · cases hf
end
end
end PF
namespace PF
open PySem PySem.Spec PyProof.Rows L2
noncomputable section
/-! ### list comprehensions -/
/-- the state without the list that grows -/
def Wo.minus (W : Wo) (p : Addr) : Wo := ⟨W.as, fun a => W.bad a ∧ a ≠ p, fun a => if a = p then none else W.H a⟩
def Wo.plus (W : Wo) (p : Addr) (o : HO) : Wo := ⟨W.as, fun a => W.bad a ∨ a = p, upd W.H p o⟩
section
variable {K : PySem.W.Frag} {W W' W3 : Wo} {M : Mem} {p : Addr} {o : HO}
theorem minus_H {a : Addr} (h : a ≠ p) : (W.minus p).H a = W.H a := if_neg h
theorem minus_self : (W.minus p).H p = none := if_pos rfl
mutual
theorem Rp.minus (hb : W.bad p) (hn : p ∉ W.as) : ∀ (d : D) (v : V), Rp K W d v → Rp K (W.minus p) d v
  | .non, _, h => h
  | .bl _, _, h => h
  | .int _, _, h => h
  | .str _, _, h => h
  | .tup ds, v, h => by
    obtain ⟨a, vs, e1, f, r⟩ := h
    refine ⟨a, vs, e1, ⟨f.1.imp (fun q => ?_) fun q => q, f.2⟩, RpL.minus hb hn ds vs r⟩
    exact ⟨(minus_H fun z => q.2 (by rw [z]; exact hb)).trans q.1, fun z => q.2 z.1⟩
  | .lst ds, v, h => by
    obtain ⟨a, vs, e1, f, r⟩ := h
    exact ⟨a, vs, e1, ⟨⟨(minus_H fun z => f.1.2 (by rw [z]; exact hb)).trans f.1.1, fun z => f.1.2 z.1⟩, f.2⟩, RpL.minus hb hn ds vs r⟩
  | .kst ds, v, h => by
    obtain ⟨a, vs, e1, f, r⟩ := h
    refine ⟨a, vs, e1, ⟨f.1.imp (fun q => ?_) fun q => q, f.2⟩, RpL.minus hb hn ds vs r⟩
    obtain ⟨⟨o, q1⟩, q2⟩ := q
    exact ⟨⟨o, (minus_H fun z => q2 (by rw [z]; exact hb)).trans q1⟩, fun z => q2 z.1⟩
  | .ref n, v, h => h
  | .dct ks vs, v, h => by
    obtain ⟨a, o, kv, vv, e1, f, d, r1, r2⟩ := h
    exact ⟨a, o, kv, vv, e1, ⟨(minus_H fun z => f.2 (by rw [z]; exact hb)).trans f.1, fun z => f.2 z.1⟩, d, RpL.minus hb hn ks kv r1, RpL.minus hb hn vs vv r2⟩
theorem RpL.minus (hb : W.bad p) (hn : p ∉ W.as) : ∀ (ds : List D) (vs : List V), RpL K W ds vs → RpL K (W.minus p) ds vs
  | [], _, h => h
  | d :: ds, vs, h => by
    obtain ⟨v, r, e1, h1, h2⟩ := h
    exact ⟨v, r, e1, Rp.minus hb hn d v h1, RpL.minus hb hn ds r h2⟩
end
theorem SR.minus (hb : W.bad p) (hn : p ∉ W.as) (sr : SR K W M) : SR K (W.minus p) M := by
  have ne : ∀ a, a ∈ W.as → a ≠ p := fun a h z => hn (by rw [← z]; exact h)
  refine ⟨sr.len, sr.nd, fun a h => ⟨sr.sub a h, ne a h⟩, fun a h => ?_, fun n a mo h1 h2 => ?_⟩
  · obtain ⟨o, q⟩ := sr.bt a h.1
    exact ⟨o, (minus_H h.2).trans q⟩
  · have m := sr.obj n a mo h1 h2
    have na := ne a (List.mem_of_getElem? h1)
    cases mo with
    | lst ds =>
      obtain ⟨vs, q1, q2⟩ := m
      exact ⟨vs, ⟨(minus_H na).trans q1.1, q1.2⟩, q2.minus hb hn⟩
    | dct ks vs =>
      obtain ⟨o, kv, vv, q1, q2, q3, q4⟩ := m
      exact ⟨o, kv, vv, (minus_H na).trans q1, q2, q3.minus hb hn, q4.minus hb hn⟩
    | lck o ks vs =>
      obtain ⟨kv, vv, q1, q2, q3, q4⟩ := m
      exact ⟨kv, vv, (minus_H na).trans q1, q2, q3.minus hb hn, q4.minus hb hn⟩
theorem Ext.plus (hp : W.H p = none) : Ext W (W.plus p o) := by
  refine ⟨⟨[], by simp [Wo.plus], fun _ h => by simp at h⟩, fun _ h => .inl h, fun a h => ?_, fun a u _ h => (upd_ne (ne_of_none h hp)).trans h, fun a u h => ⟨u, (upd_ne (ne_of_none h hp)).trans h⟩⟩
  rcases h with h | h
  · exact .inl h
  · rw [h]; exact .inr hp
theorem SR.plus (sr : SR K W M) (hp : W.H p = none) : SR K (W.plus p o) M := by
  have E := Ext.plus (W := W) (o := o) hp
  refine ⟨sr.len, sr.nd, fun a h => .inl (sr.sub a h), fun a h => ?_, fun n a mo h1 h2 => ?_⟩
  · rcases h with h | h
    · obtain ⟨u, q⟩ := sr.bt a h
      exact E.live a u q
    · rw [h]; exact ⟨o, upd_same⟩
  · have m := sr.obj n a mo h1 h2
    obtain ⟨o', q⟩ := m.there
    exact m.ext E sr.sub (upd_ne (ne_of_none q hp))
/-- behind a step from W with the list at p: W without it, and the list as it was -/
theorem Ext.unplus (sr : SR K W M) (hp : W.H p = none) (e : Ext (W.plus p o) W3) : Ext W (W3.minus p) ∧ W3.bad p ∧ p ∉ W3.as ∧ W3.H p = some o := by
  have npa : p ∉ W.as := fun z => sr.nb hp (sr.sub p z)
  have h3 : W3.H p = some o := e.keep p o npa upd_same
  have hb : W3.bad p := e.bad p (.inr rfl)
  obtain ⟨new, ea, fr⟩ := e.as
  have frW : ∀ a ∈ new, W.H a = none ∧ a ≠ p := fun a ha => by
    have q : upd W.H p o a = none := fr a ha
    by_cases z : a = p
    · rw [z, upd_same] at q; cases q
    · rw [upd_ne z] at q; exact ⟨q, z⟩
  refine ⟨⟨⟨new, ea, fun a ha => (frW a ha).1⟩, fun a h => ⟨e.bad a (.inl h), fun z => sr.nb hp (by rw [← z]; exact h)⟩, fun a h => ?_, fun a u ha hu => ?_, fun a u hu => ?_⟩, hb, fun z => ?_, h3⟩
  · rcases e.new a h.1 with q | q
    · rcases q with q | q
      · exact .inl q
      · exact absurd q h.2
    · have q' : upd W.H p o a = none := q
      rw [upd_ne h.2] at q'
      exact .inr q'
  · have na : a ≠ p := ne_of_none hu hp
    exact (minus_H na).trans (e.keep a u ha ((upd_ne na).trans hu))
  · have na : a ≠ p := ne_of_none hu hp
    obtain ⟨u', q⟩ := e.live a u ((upd_ne na).trans hu)
    exact ⟨u', (minus_H na).trans q⟩
  · have z' : p ∈ W.as ++ new := by
      have q := z
      rw [ea] at q
      exact q
    rcases List.mem_append.mp z' with z | z
    · exact npa z
    · exact (frW p z).2 rfl
end
def wipeR (ρ : Rho) : List Nat → Rho
  | [] => ρ
  | v :: vs => (wipeR ρ vs).set v none
theorem wipeR_len (ρ : Rho) : ∀ vs : List Nat, (wipeR ρ vs).length = ρ.length
  | [] => rfl
  | v :: vs => by unfold wipeR; rw [List.length_set, wipeR_len ρ vs]
theorem Sl.wipe {K : PySem.W.Frag} {W : Wo} {ρ : Rho} {σ : L2.St} (h : Sl K W ρ σ) : ∀ vs : List Nat, Sl K W (wipeR ρ vs) (L2.wipe σ vs)
  | [] => h
  | v :: vs => by
    have ih := Sl.wipe h vs
    refine ⟨by unfold wipeR L2.wipe; rw [List.length_set, List.length_set]; exact ih.len, fun i d hi => ?_⟩
    unfold wipeR at hi
    unfold L2.wipe
    by_cases e : v = i
    · subst e
      by_cases hl : v < (wipeR ρ vs).length
      · rw [List.getElem?_set_self hl] at hi; cases hi
      · rw [List.getElem?_eq_none (by rw [List.length_set]; omega)] at hi; cases hi
    · rw [List.getElem?_set_ne e] at hi ⊢
      exact ih.at_ i d hi
theorem wipe_idem (σ : L2.St) (vs : List Nat) : L2.wipe (L2.wipe σ vs) vs = L2.wipe σ vs := by
  have at_ : ∀ (vs ws : List Nat) (σ : L2.St) (i : Nat), i ∈ vs → (L2.wipe σ vs)[i]? = (if i < σ.length then some none else none) := by
    intro vs
    induction vs with
    | nil => intro ws σ i h; simp at h
    | cons v vs ih =>
      intro ws σ i h
      unfold L2.wipe
      by_cases e : v = i
      · subst e
        by_cases hl : v < σ.length
        · rw [List.getElem?_set_self (by rw [wipe_length]; exact hl), if_pos hl]
        · rw [List.getElem?_eq_none (by rw [List.length_set, wipe_length]; omega), if_neg hl]
      · rw [List.getElem?_set_ne e]
        rcases List.mem_cons.mp h with q | q
        · exact absurd q.symm e
        · exact ih ws σ i q
  apply List.ext_getElem?
  intro i
  by_cases h : i ∈ vs
  · rw [at_ vs [] _ i h, at_ vs [] _ i h, wipe_length]
  · rw [wipe_out h, wipe_out h]
def lcLoop (c : Mem → Bool) (t : FG) (ft : FT) (fe : FE) (ρ : Rho) : List D → List D → Mem → Option (List D × Mem)
  | [], acc, M => if c M = true then some (acc, M) else none
  | d :: ds, acc, M => if c M = true then (t d ρ).bind fun ρ' => (ft ρ' M).bind fun b =>
      if b.1 = true then (fe ρ' b.2).bind fun y => lcLoop c t ft fe ρ ds (acc ++ [y.1]) y.2 else lcLoop c t ft fe ρ ds acc b.2
    else none
/-- [elt for t in fi if ft] -/
def fLC (vs : List Nat) (fi : FI) (t : FG) (ft : FT) (fe : FE) : FA := fun ρ M => (fi ρ M).bind fun a => lcLoop (chk a.1.2 a.1.1) t ft fe (wipeR ρ vs) a.1.1 [] a.2
def fYes : FT := fun _ M => some (true, M)
abbrev PFTs (X : Cx) (ifs : List Expr) (f : FT) : Prop := PTs X ifs (liftT X.K f)
theorem pts_weak {X : Cx} {e : List Expr} {t t' : TT} (h : PTs X e t) (i : ∀ σ H Q, t' σ H Q → t σ H Q) : PTs X e t' := ⟨fun pins s σ H Q I q => h.run pins s σ H Q I (i σ H Q q)⟩
theorem pfts_nil {X : Cx} : PFTs X [] fYes := pts_weak pts_nil fun σ H Q => by
  rintro ⟨W, ρ, M, rfl, sr, sl, d, M', hf, k⟩
  cases hf
  exact k W (.refl W) sr
theorem pfts_one {X : Cx} {c : Expr} {f : FT} (h : PFT X c f) : PFTs X [c] f := pts_one h
theorem lc_lift {K : PySem.W.Frag} {fi : FI} {t : FG} {ft : FT} {fe : FE} {vs : List Nat} : ∀ σ H Q, liftN K (fLC vs fi t ft fe) σ H Q → tLc (liftI K fi) (liftG K vs t) (liftT K ft) (liftE K fe) vs σ H Q := by
  rintro σ H Q ⟨W, ρ, M, rfl, sr, sl, out, M', hf, k⟩
  obtain ⟨⟨⟨xs, kk⟩, M1⟩, hi, hf⟩ := Option.bind_eq_some_iff.mp hf
  refine ⟨W, ρ, M, rfl, sr, sl, xs, kk, M1, hi, fun W1 J e1 s1 jo D hD => ?_⟩
  -- the loop: W2 is the state without the growing list
  refine ⟨fun i m H' => ∃ W2 Mt acc ws, H' = upd W2.H D (.lst ws) ∧ W2.H D = none ∧ Ext W1 W2 ∧ SR K W2 Mt ∧ RpL K W2 acc ws ∧ ws.length ≤ i ∧ i ≤ xs.length ∧ m = xs.length - i ∧
    lcLoop (chk kk xs) t ft fe (wipeR ρ vs) (xs.drop i) acc Mt = some (out, M'), ⟨xs.length, W1, M1, [], [], rfl, hD, .refl W1, s1, rfl, Nat.le_refl _, Nat.zero_le _, rfl, hf⟩, ?_⟩
  rintro i m H' ⟨W2, Mt, acc, ws, rfl, hD2, e2, s2, racc, hws, hil, rfl, hw⟩
  have eP : Ext W2 (W2.plus D (.lst ws)) := Ext.plus hD2
  have sP : SR K (W2.plus D (.lst ws)) Mt := s2.plus hD2
  by_cases hlt : i < xs.length
  · right
    have hd : xs.drop i = xs[i] :: xs.drop (i + 1) := List.drop_eq_getElem_cons hlt
    rw [hd] at hw
    unfold lcLoop at hw
    split at hw
    · rename_i hck
      obtain ⟨ρ', ht, hw⟩ := Option.bind_eq_some_iff.mp hw
      obtain ⟨⟨b, M3⟩, hb, hw⟩ := Option.bind_eq_some_iff.mp hw
      obtain ⟨hgo, hy⟩ := (jo.2 _ Mt (e2.trans eP) sP hck i).1 xs[i] (by simp [hlt])
      refine ⟨hgo, fun H' => ∃ W4 Mt acc ws, H' = upd W4.H D (.lst ws) ∧ W4.H D = none ∧ Ext W1 W4 ∧ SR K W4 Mt ∧ RpL K W4 acc ws ∧ ws.length ≤ i + 1 ∧
        lcLoop (chk kk xs) t ft fe (wipeR ρ vs) (xs.drop (i + 1)) acc Mt = some (out, M'), ?_, fun x H' hx => ?_⟩
      · rintro H' ⟨W4, Mt', acc', ws', h1, h2, h3, h4, h5, h6, h7⟩
        exact ⟨xs.length - (i + 1), by omega, W4, Mt', acc', ws', h1, h2, h3, h4, h5, h6, hlt, rfl, h7⟩
      · obtain ⟨rfl, rx⟩ := hy x H' hx
        have slW : Sl K (W2.plus D (.lst ws)) (wipeR ρ vs) (L2.wipe σ vs) := (sl.ext (e1.trans (e2.trans eP)) sr.sub).wipe vs
        refine ⟨_, wipeR ρ vs, Mt, xs[i], rfl, sP, slW, rx, ρ', ht, fun W3 σ3 e3 s3 l3 w3 => ⟨by rw [w3, wipe_idem], ?_⟩⟩
        refine ⟨W3, ρ', Mt, rfl, s3, l3, b, M3, hb, fun W4 e4 s4 => ?_⟩
        cases b with
        | false =>
          rw [if_neg Bool.false_ne_true] at hw ⊢
          obtain ⟨e5, b5, n5, h5⟩ := Ext.unplus s2 hD2 (e3.trans e4)
          refine ⟨W4.minus D, M3, acc, ws, ?_, minus_self, e2.trans e5, s4.minus b5 n5, (racc.ext e5 s2.sub), by omega, hw⟩
          funext a
          by_cases z : a = D
          · subst z; rw [upd_same]; exact h5
          · rw [upd_ne z]; exact (minus_H z).symm
        | true =>
          rw [if_pos rfl] at hw ⊢
          obtain ⟨⟨y, M5⟩, hye, hw⟩ := Option.bind_eq_some_iff.mp hw
          refine ⟨W4, ρ', M3, rfl, s4, l3.ext e4 s3.sub, y, M5, hye, fun W5 v e5 s5 r5 => ?_⟩
          obtain ⟨e6, b6, n6, h6⟩ := Ext.unplus s2 hD2 ((e3.trans e4).trans e5)
          have hz : ws.length < LINE := by have := jo.1; omega
          refine ⟨ws, h6, by rw [line_eq]; exact hz, W5.minus D, M5, acc ++ [y], ws ++ [v], ?_, minus_self, e2.trans e6, s5.minus b6 n6, (racc.ext e6 s2.sub).append (.one (r5.minus b6 n6)), by rw [List.length_append, List.length_singleton]; omega, hw⟩
          funext a
          by_cases z : a = D
          · subst z; rw [upd_same, upd_same]
          · rw [upd_ne z, upd_ne z]; exact (minus_H z).symm
    · cases hw
  · left
    have e : i = xs.length := by omega
    subst e
    rw [List.drop_length] at hw
    unfold lcLoop at hw
    split at hw
    · rename_i hck
      cases hw
      refine ⟨(jo.2 _ _ (e2.trans eP) sP hck xs.length).2 (Nat.le_refl _), ?_⟩
      exact k W2 D ws (e1.trans e2) s2 hD2 racc (by have := jo.1; omega)
    · cases hw
section
variable {X : Cx} {elt tg iter : Expr} {ifs : List Expr} {scope : Scope} {own : List (Str × Nat)} {pos : Pos} {fi : FI} {t : FG} {ft : FT} {fe : FE}
theorem pfn_lc (hc : X.calm = true) (hN : X.N.Nodup) (hi : PFI X tg iter fi) (ok : BlkOk X.N X.env.scope scope own)
    (hg : ∀ (s : Shared) (H : Hp) (C : Addr) (cl : List (Str × Addr)) (fp : List Addr), PFG (X.blk s H scope (compEnvC scope cl C X.env) fp) (own.map (·.2)) tg t) (ht : ∀ (s : Shared) (H : Hp) (C : Addr) (cl : List (Str × Addr)) (fp : List Addr), PFTs (X.blk s H scope (compEnvC scope cl C X.env) fp) ifs ft)
    (he : ∀ (s : Shared) (H : Hp) (C : Addr) (cl : List (Str × Addr)) (fp : List Addr), PFE (X.blk s H scope (compEnvC scope cl C X.env) fp) elt fe) (hs : ∀ x, foldedSetIterable iter X.env x = pure x := by intro _; rfl) :
    PFN X (.ListComp elt [⟨tg, iter, ifs, 0⟩] scope pos) (fLC (own.map (·.2)) fi t ft fe) := pe_weak (pe_lc hc hN hi ok hg ht he hs) lc_lift
theorem set_fz {K : PySem.W.Frag} {i : Nat} {f : FA} : ∀ E σ H, liftS K (sSet i (fFz f)) E σ H → liftN K f σ H fun x H1 => gName i x σ H1 E.nx := fun E σ H => by
  rw [liftS_iff]
  rintro ⟨W, ρ, M, rfl, sr, sl, o, M', hf, k⟩
  obtain ⟨⟨x, M1⟩, hx, hf⟩ := Option.bind_eq_some_iff.mp hf
  obtain ⟨⟨y, M2⟩, hy, hx⟩ := Option.bind_eq_some_iff.mp hx
  cases hx; cases hf
  exact ⟨W, ρ, M, rfl, sr, sl, y, _, hy, fun W1 p vs e1 s1 hp r1 hl => k _ _ (e1.trans (Ext.put hp)) (s1.put hp) (sl_set (sl.ext (e1.trans (Ext.put hp)) sr.sub) (.newLst s1 hp r1 hl))⟩
theorem set_mut {K : PySem.W.Frag} {i : Nat} {f : FA} : ∀ E σ H, liftS K (sSet i (fMut f)) E σ H → liftN K f σ H fun x H1 => gName i x σ H1 E.nx := fun E σ H => by
  rw [liftS_iff]
  rintro ⟨W, ρ, M, rfl, sr, sl, o, M', hf, k⟩
  obtain ⟨⟨x, M1⟩, hx, hf⟩ := Option.bind_eq_some_iff.mp hf
  obtain ⟨⟨y, M2⟩, hy, hx⟩ := Option.bind_eq_some_iff.mp hx
  cases hx; cases hf
  exact ⟨W, ρ, M, rfl, sr, sl, y, _, hy, fun W1 p vs e1 s1 hp r1 hl => k _ _ (e1.trans (Ext.mk2 hp)) (s1.mk2 hp r1 hl) (sl_set (sl.ext (e1.trans (Ext.mk2 hp)) sr.sub) (.mk2 s1))⟩
theorem pfs_setLcF {i : Nat} {y : Str} {py spos : Pos} (hc : X.calm = true) (hN : X.N.Nodup) (hy : X.N[i]? = some y) (hyl : X.env.scope.names.lookup y = some .local)
    (hsw : swapsWith (.ListComp elt [⟨tg, iter, ifs, 0⟩] scope pos) (some (.Name y py)) spos.line X.env = pure true) (hi : PFI X tg iter fi) (ok : BlkOk X.N X.env.scope scope own)
    (hg : ∀ (s : Shared) (H : Hp) (C : Addr) (cl : List (Str × Addr)) (fp : List Addr), PFG (X.blk s H scope (compEnvC scope cl C X.env) fp) (own.map (·.2)) tg t) (ht : ∀ (s : Shared) (H : Hp) (C : Addr) (cl : List (Str × Addr)) (fp : List Addr), PFTs (X.blk s H scope (compEnvC scope cl C X.env) fp) ifs ft)
    (he : ∀ (s : Shared) (H : Hp) (C : Addr) (cl : List (Str × Addr)) (fp : List Addr), PFE (X.blk s H scope (compEnvC scope cl C X.env) fp) elt fe) (hs : ∀ x, foldedSetIterable iter X.env x = pure x := by intro _; rfl) :
    PFS X (.Assign [.Name y py] (.ListComp elt [⟨tg, iter, ifs, 0⟩] scope pos) spos) (sSet i (fFz (fLC (own.map (·.2)) fi t ft fe))) := ps_weak (ps_setLc hc hN hy hyl hsw hi ok hg ht he hs) fun E σ H h => lc_lift _ _ _ (set_fz E σ H h)
theorem pfs_setLcM {i : Nat} {y : Str} {py spos : Pos} (hc : X.calm = true) (hN : X.N.Nodup) (hy : X.N[i]? = some y) (hyl : X.env.scope.names.lookup y = some .local)
    (hsw : swapsWith (.ListComp elt [⟨tg, iter, ifs, 0⟩] scope pos) (some (.Name y py)) spos.line X.env = pure true) (hi : PFI X tg iter fi) (ok : BlkOk X.N X.env.scope scope own)
    (hg : ∀ (s : Shared) (H : Hp) (C : Addr) (cl : List (Str × Addr)) (fp : List Addr), PFG (X.blk s H scope (compEnvC scope cl C X.env) fp) (own.map (·.2)) tg t) (ht : ∀ (s : Shared) (H : Hp) (C : Addr) (cl : List (Str × Addr)) (fp : List Addr), PFTs (X.blk s H scope (compEnvC scope cl C X.env) fp) ifs ft)
    (he : ∀ (s : Shared) (H : Hp) (C : Addr) (cl : List (Str × Addr)) (fp : List Addr), PFE (X.blk s H scope (compEnvC scope cl C X.env) fp) elt fe) (hs : ∀ x, foldedSetIterable iter X.env x = pure x := by intro _; rfl) :
    PFS X (.Assign [.Name y py] (.ListComp elt [⟨tg, iter, ifs, 0⟩] scope pos) spos) (sSet i (fMut (fLC (own.map (·.2)) fi t ft fe))) := ps_weak (ps_setLc hc hN hy hyl hsw hi ok hg ht he hs) fun E σ H h => lc_lift _ _ _ (set_mut E σ H h)
end
end
end PF
namespace PF
open PySem PySem.Spec PyProof.Rows L2
/-! ### data without references; without lists -/
mutual
def D.nr : D → Bool
  | .ref _ => false
  | .tup xs => D.nrs xs
  | .lst xs => D.nrs xs
  | .kst xs => D.nrs xs
  | .dct ks vs => D.nrs ks && D.nrs vs
  | _ => true
def D.nrs : List D → Bool
  | [] => true
  | x :: xs => D.nr x && D.nrs xs
end
mutual
def D.nl : D → Bool
  | .ref _ => false
  | .tup xs => D.nls xs
  | .lst _ => false
  | .kst _ => false
  | .dct _ _ => false
  | _ => true
def D.nls : List D → Bool
  | [] => true
  | x :: xs => D.nl x && D.nls xs
end
section
variable {K : PySem.W.Frag} {W W' : Wo}
mutual
theorem Rp.nr (hH : W'.H = W.H) (hb : ∀ a, W'.bad a → W.bad a) : ∀ (d : D) (v : V), d.nr = true → Rp K W d v → Rp K W' d v
  | .non, _, _, h => h
  | .bl _, _, _, h => h
  | .int _, _, _, h => h
  | .str _, _, _, h => h
  | .ref _, _, hn, _ => by rw [D.nr] at hn; cases hn
  | .tup ds, v, hn, h => by
    rw [D.nr] at hn
    obtain ⟨a, vs, e1, f, r⟩ := h
    exact ⟨a, vs, e1, ⟨f.1.imp (fun q => ⟨by rw [hH]; exact q.1, fun z => q.2 (hb a z)⟩) fun q => q, f.2⟩, RpL.nr hH hb ds vs hn r⟩
  | .lst ds, v, hn, h => by
    rw [D.nr] at hn
    obtain ⟨a, vs, e1, f, r⟩ := h
    exact ⟨a, vs, e1, ⟨⟨by rw [hH]; exact f.1.1, fun z => f.1.2 (hb a z)⟩, f.2⟩, RpL.nr hH hb ds vs hn r⟩
  | .kst ds, v, hn, h => by
    rw [D.nr] at hn
    obtain ⟨a, vs, e1, f, r⟩ := h
    refine ⟨a, vs, e1, ⟨f.1.imp (fun q => ?_) fun q => q, f.2⟩, RpL.nr hH hb ds vs hn r⟩
    obtain ⟨⟨o, q1⟩, q2⟩ := q
    exact ⟨⟨o, by rw [hH]; exact q1⟩, fun z => q2 (hb a z)⟩
  | .dct ks vs, v, hn, h => by
    rw [D.nr, Bool.and_eq_true] at hn
    obtain ⟨a, o, kv, vv, e1, f, d, r1, r2⟩ := h
    exact ⟨a, o, kv, vv, e1, ⟨by rw [hH]; exact f.1, fun z => f.2 (hb a z)⟩, d, RpL.nr hH hb ks kv hn.1 r1, RpL.nr hH hb vs vv hn.2 r2⟩
theorem RpL.nr (hH : W'.H = W.H) (hb : ∀ a, W'.bad a → W.bad a) : ∀ (ds : List D) (vs : List V), D.nrs ds = true → RpL K W ds vs → RpL K W' ds vs
  | [], _, _, h => h
  | d :: ds, vs, hn, h => by
    rw [D.nrs, Bool.and_eq_true] at hn
    obtain ⟨v, r, e1, h1, h2⟩ := h
    exact ⟨v, r, e1, Rp.nr hH hb d v hn.1 h1, RpL.nr hH hb ds r hn.2 h2⟩
end
/-- tuples alone: what is wrongly shut away is a list -/
def LstAt (H : Hp) (a : Addr) : Prop := ∃ o, H a = some o ∧ ∀ vs, o ≠ .tup vs
mutual
theorem Rp.nl (hH : W'.H = W.H) (hb : ∀ a, W'.bad a → W.bad a ∨ LstAt W.H a) : ∀ (d : D) (v : V), d.nl = true → Rp K W d v → Rp K W' d v
  | .non, _, _, h => h
  | .bl _, _, _, h => h
  | .int _, _, _, h => h
  | .str _, _, _, h => h
  | .ref _, _, hn, _ => by rw [D.nl] at hn; cases hn
  | .lst _, _, hn, _ => by rw [D.nl] at hn; cases hn
  | .kst _, _, hn, _ => by rw [D.nl] at hn; cases hn
  | .dct _ _, _, hn, _ => by rw [D.nl] at hn; cases hn
  | .tup ds, v, hn, h => by
    rw [D.nl] at hn
    obtain ⟨a, vs, e1, f, r⟩ := h
    refine ⟨a, vs, e1, ⟨f.1.imp (fun q => ⟨by rw [hH]; exact q.1, fun z => ?_⟩) fun q => q, f.2⟩, RpL.nl hH hb ds vs hn r⟩
    rcases hb a z with z | ⟨us, z, zn⟩
    · exact q.2 z
    · rw [q.1] at z; cases z; exact zn _ rfl
theorem RpL.nl (hH : W'.H = W.H) (hb : ∀ a, W'.bad a → W.bad a ∨ LstAt W.H a) : ∀ (ds : List D) (vs : List V), D.nls ds = true → RpL K W ds vs → RpL K W' ds vs
  | [], _, _, h => h
  | d :: ds, vs, hn, h => by
    rw [D.nls, Bool.and_eq_true] at hn
    obtain ⟨v, r, e1, h1, h2⟩ := h
    exact ⟨v, r, e1, Rp.nl hH hb d v hn.1 h1, RpL.nl hH hb ds r hn.2 h2⟩
end
end
/-! ### a def's promise by a function on data -/
abbrev FnC := List D → Mem → Option (D × Mem)
def spOf (K : PySem.W.Frag) (c : FnC) (n : Nat) : Sp := fun vs H Q _ => vs.length = n ∧ ∃ W M ds, W.H = H ∧ SR K W M ∧ RpL K W ds vs ∧ ∃ d M', c ds M = some (d, M') ∧
  ∀ W' v, Ext W W' → SR K W' M' → Rp K W' d v → Q v W'.H
def MO.nr : MO → Bool
  | .lst xs => D.nrs xs
  | .dct ks vs => D.nrs ks && D.nrs vs
  | .lck _ ks vs => D.nrs ks && D.nrs vs
/-- frozen -/
def MO.fz : MO → D
  | .lst xs => .lst xs
  | .dct ks vs => .dct ks vs
  | .lck _ ks vs => .dct ks vs
def MO.nl : MO → Bool
  | .lst xs => D.nls xs
  | .dct ks vs => D.nls ks && D.nls vs
  | .lck _ ks vs => D.nls ks && D.nls vs
def Mem.nr : Mem → Bool
  | [] => true
  | m :: ms => m.nr && Mem.nr ms
/-- what is handed back; mu: a new list stays changeable -/
def fin (mu : Bool) (k : Nat) (d : D) (M : Mem) : Option (D × Mem) :=
  if Mem.nr (M.take k) = true then (match d with
    | .ref j => if j < k then none else match M[j]? with
      | some mo => if mo.nr = true then (if mu = true then some (.ref k, M.take k ++ [mo]) else some (mo.fz, M.take k)) else none
      | none => none
    | d => if d.nr = true then some (d, M.take k) else none) else none
def startR (n : Nat) (ds : List D) : Rho := ds.map some ++ List.replicate (n - ds.length) none
def runFn (mu : Bool) (n : Nat) (f : FS) : FnC := fun ds M => (f (startR n ds) M).bind fun o => match o.1 with
  | .ret d => fin mu M.length d o.2
  | .nx _ => fin mu M.length .non o.2
  | _ => none
section
variable {K : PySem.W.Frag} {W W' : Wo} {M M' : Mem}
theorem sl_start {ds : List D} {vs : List V} {N : List Str} (h : RpL K W ds vs) : Sl K W (startR N.length ds) (L2.start N vs) := by
  have hl := h.len
  refine ⟨by unfold startR L2.start; simp [hl], fun i d hi => ?_⟩
  unfold startR at hi
  unfold L2.start
  by_cases hlt : i < ds.length
  · rw [List.getElem?_append_left (by rw [List.length_map]; exact hlt), List.getElem?_map, List.getElem?_eq_getElem hlt] at hi
    have e : ds[i] = d := by simpa using hi
    obtain ⟨v, h1, h2⟩ := h.get (i := i) (d := d) (by rw [List.getElem?_eq_getElem hlt, e])
    refine ⟨v, ?_, h2⟩
    rw [List.getElem?_append_left (by rw [List.length_map, ← hl]; exact hlt), List.getElem?_map, h1]
    rfl
  · rw [List.getElem?_append_right (by rw [List.length_map]; omega)] at hi
    have := List.mem_of_getElem? hi
    simp at this
theorem Mem.nr_at : ∀ {M : Mem} {n : Nat} {mo : MO}, Mem.nr M = true → M[n]? = some mo → mo.nr = true
  | [], _, _, _, h => by simp at h
  | m :: ms, 0, mo, hn, h => by
    rw [Mem.nr, Bool.and_eq_true] at hn
    simp at h; subst h; exact hn.1
  | m :: ms, n + 1, mo, hn, h => by
    rw [Mem.nr, Bool.and_eq_true] at hn
    exact Mem.nr_at hn.2 (by simpa using h)
theorem MoOk.nr {a : Addr} {mo : MO} (hH : W'.H = W.H) (hb : ∀ a, W'.bad a → W.bad a) (hn : mo.nr = true) (h : MoOk K W a mo) : MoOk K W' a mo := by
  cases mo with
  | lst xs =>
    obtain ⟨vs, h1, h2⟩ := h
    exact ⟨vs, ⟨by rw [hH]; exact h1.1, h1.2⟩, h2.nr hH hb _ _ hn⟩
  | dct ks vs =>
    obtain ⟨o, kv, vv, h1, h2, h3, h4⟩ := h
    rw [MO.nr, Bool.and_eq_true] at hn
    exact ⟨o, kv, vv, by rw [hH]; exact h1, h2, h3.nr hH hb _ _ hn.1, h4.nr hH hb _ _ hn.2⟩
  | lck o ks vs =>
    obtain ⟨kv, vv, h1, h2, h3, h4⟩ := h
    rw [MO.nr, Bool.and_eq_true] at hn
    exact ⟨kv, vv, by rw [hH]; exact h1, h2, h3.nr hH hb _ _ hn.1, h4.nr hH hb _ _ hn.2⟩
theorem MoOk.nl {a : Addr} {mo : MO} (hH : W'.H = W.H) (hb : ∀ a, W'.bad a → W.bad a ∨ LstAt W.H a) (hn : mo.nl = true) (h : MoOk K W a mo) : MoOk K W' a mo := by
  cases mo with
  | lst xs =>
    obtain ⟨vs, h1, h2⟩ := h
    exact ⟨vs, ⟨by rw [hH]; exact h1.1, h1.2⟩, h2.nl hH hb _ _ hn⟩
  | dct ks vs =>
    obtain ⟨o, kv, vv, h1, h2, h3, h4⟩ := h
    rw [MO.nl, Bool.and_eq_true] at hn
    exact ⟨o, kv, vv, by rw [hH]; exact h1, h2, h3.nl hH hb _ _ hn.1, h4.nl hH hb _ _ hn.2⟩
  | lck o ks vs =>
    obtain ⟨kv, vv, h1, h2, h3, h4⟩ := h
    rw [MO.nl, Bool.and_eq_true] at hn
    exact ⟨kv, vv, by rw [hH]; exact h1, h2, h3.nl hH hb _ _ hn.1, h4.nl hH hb _ _ hn.2⟩
/-- a list or a dict that nobody changes any more -/
theorem MoOk.fz {a : Addr} {mo : MO} (nb : ¬ W.bad a) (h : MoOk K W a mo) : Rp K W mo.fz (.ref a) := by
  cases mo with
  | lst xs =>
    obtain ⟨vs, h1, h2⟩ := h
    exact ⟨a, vs, rfl, ⟨⟨h1.1, nb⟩, h1.2⟩, h2⟩
  | dct ks vs =>
    obtain ⟨o, kv, vv, h1, h2, h3, h4⟩ := h
    exact ⟨a, o, kv, vv, rfl, ⟨h1, nb⟩, h2, h3, h4⟩
  | lck o ks vs =>
    obtain ⟨kv, vv, h1, h2, h3, h4⟩ := h
    exact ⟨a, o, kv, vv, rfl, ⟨h1, nb⟩, h2, h3, h4⟩
theorem MoOk.lstAt {a : Addr} {mo : MO} (h : MoOk K W a mo) : LstAt W.H a := by
  cases mo with
  | lst xs => obtain ⟨vs, h1, h2⟩ := h; exact ⟨_, h1.1, fun _ z => nomatch z⟩
  | dct ks vs => obtain ⟨o, kv, vv, h1, _⟩ := h; exact ⟨_, h1, fun _ z => nomatch z⟩
  | lck o ks vs => obtain ⟨kv, vv, h1, _⟩ := h; exact ⟨_, h1, fun _ z => nomatch z⟩
theorem take_as {new : List Addr} (e : W'.as = W.as ++ new) (hl : W.as.length = M.length) : W'.as.take M.length = W.as := by
  rw [e, ← hl, List.take_left]
/-- the state when a def has come back, but for its own lists -/
theorem fin_ok {mu : Bool} {d d' : D} {v : V} {M2 : Mem} (sr : SR K W M) (ex : Ext W W') (s : SR K W' M') (r : Rp K W' d v) (e : fin mu M.length d M' = some (d', M2)) :
    ∃ W2, W2.H = W'.H ∧ Ext W W2 ∧ SR K W2 M2 ∧ Rp K W2 d' v := by
  obtain ⟨new, ea, fr⟩ := ex.as
  have hl := sr.len
  have hat : ∀ n a, W.as[n]? = some a → W'.as[n]? = some a := fun n a h => by
    rw [ea]; exact (List.getElem?_append_left (List.getElem?_eq_some_iff.mp h).1).trans h
  unfold fin at e
  split at e
  · rename_i hnr
    -- the plain end
    have plain : ∀ bad' : Addr → Prop, (∀ a, bad' a → W'.bad a) → (∀ a, W.bad a → bad' a) → SR K ⟨W.as, bad', W'.H⟩ (M'.take M.length) ∧ Ext W ⟨W.as, bad', W'.H⟩ := fun bad' hb1 hb2 => by
      refine ⟨⟨?_, sr.nd, fun a h => hb2 a (sr.sub a h), fun a h => s.bt a (hb1 a h), fun n a mo h1 h2 => ?_⟩, ⟨⟨[], by simp, fun _ h => by simp at h⟩, hb2, fun a h => ex.new a (hb1 a h), ex.keep, ex.live⟩⟩
      · rw [List.length_take, ← s.len, ea, List.length_append]
        show W.as.length = _
        omega
      · have hn : n < M.length := by rw [← hl]; exact (List.getElem?_eq_some_iff.mp h1).1
        have h2' : M'[n]? = some mo := by rw [List.getElem?_take_of_lt hn] at h2; exact h2
        exact MoOk.nr (W := W') (W' := ⟨W.as, bad', W'.H⟩) rfl hb1 (Mem.nr_at hnr h2) (s.obj n a mo (hat n a h1) h2')
    have other : (∀ j, d ≠ .ref j) → (if d.nr = true then some (d, M'.take M.length) else none) = some (d', M2) → ∃ W2, W2.H = W'.H ∧ Ext W W2 ∧ SR K W2 M2 ∧ Rp K W2 d' v := fun _ e => by
      split at e
      · rename_i hn
        cases e
        obtain ⟨p1, p2⟩ := plain W'.bad (fun _ h => h) ex.bad
        exact ⟨⟨W.as, W'.bad, W'.H⟩, rfl, p2, p1, Rp.nr (W := W') (W' := ⟨W.as, W'.bad, W'.H⟩) rfl (fun _ h => h) _ _ hn r⟩
      · cases e
    cases d with
    | ref j =>
      dsimp only at e
      split at e
      · cases e
      · rename_i hj
        split at e
        · rename_i mo0 hx
          split at e
          · rename_i hn
            obtain ⟨a, h1, e1⟩ := r
            have q1 := s.obj j a _ h1 hx
            have haN : a ∈ new := by
              rw [ea, List.getElem?_append_right (by omega)] at h1
              exact List.mem_of_getElem? h1
            have hWa : W.H a = none := fr a haN
            have nb : ¬ W.bad a := sr.nb hWa
            split at e
            · cases e
              obtain ⟨p1, p2⟩ := plain W'.bad (fun _ h => h) ex.bad
              have naW : a ∉ W.as := fun z => nb (sr.sub a z)
              refine ⟨⟨W.as ++ [a], W'.bad, W'.H⟩, rfl, ⟨⟨[a], rfl, fun b hb => by rw [show b = a by simpa using hb]; exact hWa⟩, ex.bad, ex.new, ex.keep, ex.live⟩, ?_, ⟨a, ?_, e1⟩⟩
              · refine ⟨?_, ?_, fun b hb => ?_, s.bt, fun n b mo h1' h2' => ?_⟩
                · have := p1.len
                  simp only [List.length_append, List.length_singleton]
                  show W.as.length + 1 = _
                  rw [show W.as.length = (M'.take M.length).length from this]
                · show (W.as ++ [a]).Nodup
                  rw [List.nodup_append]
                  refine ⟨sr.nd, by simp, fun b hb c hc => ?_⟩
                  rw [show c = a by simpa using hc]
                  rintro rfl; exact naW hb
                · rcases List.mem_append.mp hb with hb | hb
                  · exact ex.bad b (sr.sub b hb)
                  · rw [show b = a by simpa using hb]; exact s.sub a (List.mem_of_getElem? h1)
                · have h1'' : (W.as ++ [a])[n]? = some b := h1'
                  have hk : (M'.take M.length).length = W.as.length := p1.len.symm
                  by_cases hlt : n < W.as.length
                  · rw [List.getElem?_append_left hlt] at h1''
                    rw [List.getElem?_append_left (by rw [hk]; exact hlt)] at h2'
                    exact MoOk.nr (W := ⟨W.as, W'.bad, W'.H⟩) (W' := ⟨W.as ++ [a], W'.bad, W'.H⟩) rfl (fun _ h => h) (Mem.nr_at hnr h2') (p1.obj n b mo h1'' h2')
                  · have en : n = W.as.length := by
                      have := (List.getElem?_eq_some_iff.mp h1'').1
                      simp at this; omega
                    subst en
                    have eb : a = b := by simpa using h1''
                    have em : mo0 = mo := by
                      rw [← hk] at h2'
                      simpa using h2'
                    subst eb em
                    exact MoOk.nr (W := W') (W' := ⟨W.as ++ [a], W'.bad, W'.H⟩) rfl (fun _ h => h) hn q1
              · show (W.as ++ [a])[M.length]? = some a
                rw [← hl]; simp
            · cases e
              obtain ⟨p1, p2⟩ := plain (fun b => W'.bad b ∧ b ≠ a) (fun _ h => h.1) fun b hb => ⟨ex.bad b hb, fun z => nb (by rw [← z]; exact hb)⟩
              refine ⟨⟨W.as, fun b => W'.bad b ∧ b ≠ a, W'.H⟩, rfl, p2, p1, ?_⟩
              rw [e1]
              exact (MoOk.nr (W := W') (W' := ⟨W.as, fun b => W'.bad b ∧ b ≠ a, W'.H⟩) rfl (fun _ h => h.1) hn q1).fz fun z => z.2 rfl
          · cases e
        · cases e
    | non => exact other (fun _ z => nomatch z) e
    | bl _ => exact other (fun _ z => nomatch z) e
    | int _ => exact other (fun _ z => nomatch z) e
    | str _ => exact other (fun _ z => nomatch z) e
    | tup _ => exact other (fun _ z => nomatch z) e
    | lst _ => exact other (fun _ z => nomatch z) e
    | kst _ => exact other (fun _ z => nomatch z) e
    | dct _ _ => exact other (fun _ z => nomatch z) e
  · cases e
end
/-- THE RULE for a def: what its body computes, from its arguments to what is handed back -/
theorem fn_ok {P : Program} {w : World} {K : PySem.W.Frag} {mg : Str → Option Value} {base : Heap} {x qual : Str} {params : Arguments} {body : List Stmt} {scope : Scope} {f : Addr} {fd : FuncData} {N ps : List Str} {k : Nat} {mu : Bool} {g : FS}
    (F : FunD K x qual params body scope [] [] f fd) (S : FnScope N ps scope)
    (hb : ∀ (cdv : Value) (A : Around) (outer : List Env) (s : Shared) (H : Hp) (E : XK), Room k (A.deeper (envOfC qual scope s.heap.objs.size f cdv)) →
      PFSs (cxOf CX0 P w K mg base N qual scope f cdv A outer s H E).nox body g) : FnOk P w K mg base CX0 (k + 1) f fd ps (spOf K (runFn mu N.length g) ps.length) := by
  refine F.ok S (fun vs H Q E h => h.1) fun cdv A outer s H vs Q E hr h => ⟨_, (hb cdv A outer s H E hr).nox, ?_⟩
  obtain ⟨_, W, M, ds, rfl, sr, r, d, M', hc, k⟩ := h
  obtain ⟨⟨o, M1⟩, hg, hc⟩ := Option.bind_eq_some_iff.mp hc
  refine liftS_iff.mpr ⟨W, _, M, rfl, sr, sl_start r, o, M1, hg, ?_⟩
  cases o with
  | ret d1 =>
    intro W1 v e1 s1 r1
    obtain ⟨W2, hH, e2, s2, r2⟩ := fin_ok sr e1 s1 r1 hc
    show Q v W1.H
    rw [← hH]
    exact k W2 v e2 s2 r2
  | nx ρ1 =>
    intro W1 σ1 e1 s1 l1
    obtain ⟨W2, hH, e2, s2, r2⟩ := fin_ok (d := .non) (v := .non) sr e1 s1 rfl hc
    show Q .non W1.H
    rw [← hH]
    exact k W2 .non e2 s2 r2
  | bk ρ1 => cases hc
  | ct ρ1 => cases hc
/-- another function that says the same (where it says something) -/
theorem fn_as {P : Program} {w : World} {K : PySem.W.Frag} {mg : Str → Option Value} {base : Heap} {f : Addr} {fd : FuncData} {ps : List Str} {k n : Nat} {c c' : FnC} (F : FnOk P w K mg base CX0 k f fd ps (spOf K c n))
    (h : ∀ ds M r, c' ds M = some r → c ds M = some r) : FnOk P w K mg base CX0 k f fd ps (spOf K c' n) := F.imp fun vs H Q E ⟨hl, W, M, ds, h1, h2, h3, d, M', hc, k⟩ => ⟨hl, W, M, ds, h1, h2, h3, d, M', h ds M _ hc, k⟩
/-! ### the call of a def -/
/-- an argument that is only read: a changeable list stands as a list -/
def argP (M : Mem) : D → Option D
  | .ref n => match M[n]? with | some mo => if mo.nr = true then some mo.fz else none | none => none
  | d => if d.nr = true then some d else none
def argsP (M : Mem) : List D → Option (List D)
  | [] => some []
  | d :: ds => (argP M d).bind fun e => (argsP M ds).bind fun es => some (e :: es)
def D.isRef : D → Bool
  | .ref _ => true
  | _ => false
def anyRef : List D → Bool
  | [] => false
  | d :: ds => d.isRef || anyRef ds
/-- nothing is changed by the callee -/
def callP (c : FnC) (ds : List D) (M : Mem) : Option (D × Mem) := (argsP M ds).bind fun es => (c es []).bind fun r => match r.2 with
  | [] => if anyRef ds && !r.1.nl then none else some (r.1, M)
  | [mo] => match r.1 with
    | .ref 0 => if anyRef ds && !mo.nl then none else if mo.nr = true then some (.ref M.length, M ++ [mo]) else none
    | _ => none
  | _ => none
def fCall (c : FnC) (fa : FA) : FE := fun ρ M => (fa ρ M).bind fun a => callP c a.1 a.2
section
variable {K : PySem.W.Frag} {W : Wo} {M : Mem}
/-- the state as a callee sees it that changes nothing: the lists that are handed in are free -/
def Wo.lend (W : Wo) (as : List Addr) (free : Addr → Prop) : Wo := ⟨as, fun a => W.bad a ∧ ¬ free a, W.H⟩
theorem args_ok {as : List Addr} {free : Addr → Prop} (sr : SR K W M) : ∀ {ds es : List D} {vs : List V}, argsP M ds = some es → RpL K W ds vs → (∀ n a, D.ref n ∈ ds → W.as[n]? = some a → free a) →
    RpL K (W.lend as free) es vs
  | [], es, vs, e, r, _ => by cases e; exact r
  | d :: ds, es, vs, e, r, hf => by
    obtain ⟨d', hd, e⟩ := Option.bind_eq_some_iff.mp e
    obtain ⟨es', hes, e⟩ := Option.bind_eq_some_iff.mp e
    cases e
    obtain ⟨v, vr, rfl, r1, r2⟩ := r
    refine ⟨v, vr, rfl, ?_, args_ok sr hes r2 fun n a hm ha => hf n a (List.mem_cons_of_mem _ hm) ha⟩
    have other : (if d.nr = true then some d else none) = some d' → Rp K (W.lend as free) d' v := fun q => by
      split at q
      · rename_i hn
        cases q
        exact Rp.nr (W := W) (W' := W.lend as free) rfl (fun _ z => z.1) _ _ hn r1
      · cases q
    cases d with
    | ref n =>
      obtain ⟨a, h1, e1⟩ := r1
      obtain ⟨mo, hmo, m⟩ := sr.at_ h1
      simp only [argP, hmo] at hd
      split at hd
      · rename_i hn
        cases hd
        rw [e1]
        exact (MoOk.nr (W := W) (W' := W.lend as free) rfl (fun _ z => z.1) hn m).fz fun z => z.2 (hf n a List.mem_cons_self h1)
      · cases hd
    | non => exact other hd
    | bl _ => exact other hd
    | int _ => exact other hd
    | str _ => exact other hd
    | tup _ => exact other hd
    | lst _ => exact other hd
    | kst _ => exact other hd
    | dct _ _ => exact other hd
theorem noRef : ∀ {ds : List D}, anyRef ds = false → ∀ n, D.ref n ∉ ds
  | [], _, _ => by simp
  | d :: ds, h, n => by
    rw [anyRef, Bool.or_eq_false_iff] at h
    intro z
    rcases List.mem_cons.mp z with z | z
    · rw [← z] at h; exact absurd h.1 (by simp [D.isRef])
    · exact noRef h.2 n z
/-- which lists are handed in -/
def Lent (W : Wo) (ds : List D) (a : Addr) : Prop := ∃ n, D.ref n ∈ ds ∧ W.as[n]? = some a
theorem lent_lst (sr : SR K W M) {ds : List D} {a : Addr} (h : Lent W ds a) : LstAt W.H a ∧ a ∈ W.as := by
  obtain ⟨n, _, h2⟩ := h
  obtain ⟨mo, _, m⟩ := sr.at_ h2
  exact ⟨m.lstAt, List.mem_of_getElem? h2⟩
theorem callP_ok {c : FnC} {n : Nat} {ds : List D} {vs : List V} {d : D} {M' : Mem} {Q : VK} {E : XK} (sr : SR K W M) (r : RpL K W ds vs) (hn : vs.length = n) (e : callP c ds M = some (d, M'))
    (k : ∀ W' v, Ext W W' → SR K W' M' → Rp K W' d v → Q v W'.H) : spOf K c n vs W.H Q E := by
  obtain ⟨es, he, e⟩ := Option.bind_eq_some_iff.mp e
  obtain ⟨⟨d1, M1⟩, hc, e⟩ := Option.bind_eq_some_iff.mp e
  have sL : SR K (W.lend [] (Lent W ds)) [] := ⟨rfl, List.nodup_nil, fun a h => by simp [Wo.lend] at h, fun a h => sr.bt a h.1, fun n a mo h => by simp [Wo.lend] at h⟩
  refine ⟨hn, W.lend [] (Lent W ds), [], es, rfl, sL, args_ok sr he r fun n a h1 h2 => ⟨n, h1, h2⟩, d1, M1, hc, fun W1 v e1 s1 r1 => ?_⟩
  have keepAll : ∀ a o, W.H a = some o → W1.H a = some o := fun a o h => e1.keep a o (by simp [Wo.lend]) h
  have newb : ∀ a, W1.bad a → W.bad a ∨ W.H a = none := fun a h => (e1.new a h).imp (fun z => z.1) fun z => z
  -- the caller's state behind it
  have sr2 : ∀ (as' : List Addr), (∀ a ∈ as', W.H a = none ∧ W1.bad a) → Ext W ⟨W.as ++ as', fun a => W.bad a ∨ W1.bad a, W1.H⟩ := fun as' h =>
    ⟨⟨as', rfl, fun a ha => (h a ha).1⟩, fun a z => .inl z, fun a z => z.elim .inl (newb a), fun a o _ q => keepAll a o q, fun a o q => ⟨o, keepAll a o q⟩⟩
  have old : ∀ {W2 : Wo}, W2.H = W1.H → Ext W W2 → ∀ n a mo, W.as[n]? = some a → M[n]? = some mo → MoOk K W2 a mo := fun hH ex n a mo h1 h2 => by
    have m := sr.obj n a mo h1 h2
    obtain ⟨o, q⟩ := m.there
    exact m.ext ex sr.sub (by rw [hH, keepAll a o q, q])
  have badLst : ∀ a, (W.bad a ∨ W1.bad a) → W1.bad a ∨ (Lent W ds a ∧ LstAt W1.H a) := fun a z => by
    rcases z with z | z
    · by_cases q : Lent W ds a
      · obtain ⟨us, q2, q3⟩ := (lent_lst sr q).1
        exact .inr ⟨q, us, keepAll a _ q2, q3⟩
      · exact .inl (e1.bad a ⟨z, q⟩)
    · exact .inl z
  have badLst' : ∀ a, (W.bad a ∨ W1.bad a) → W1.bad a ∨ LstAt W1.H a := fun a z => (badLst a z).imp (fun q => q) fun q => q.2
  have noB : anyRef ds = false → ∀ a, (W.bad a ∨ W1.bad a) → W1.bad a := fun hr a z => by
    rcases badLst a z with q | ⟨⟨n, q, _⟩, _⟩
    · exact q
    · exact absurd q (noRef hr n)
  have toW2 : ∀ (as' : List Addr) (d : D) (v : V), d.nr = true → (anyRef ds && !d.nl) = false → Rp K W1 d v → Rp K ⟨W.as ++ as', fun a => W.bad a ∨ W1.bad a, W1.H⟩ d v := fun as' d v hnr h r => by
    cases hr : anyRef ds with
    | false => exact Rp.nr (W := W1) (W' := ⟨W.as ++ as', fun a => W.bad a ∨ W1.bad a, W1.H⟩) rfl (noB hr) _ _ hnr r
    | true => exact Rp.nl (W := W1) (W' := ⟨W.as ++ as', fun a => W.bad a ∨ W1.bad a, W1.H⟩) rfl badLst' _ _ (by rw [hr] at h; simpa using h) r
  have as1 : W1.as.length = M1.length := s1.len
  dsimp only at e
  split at e
  · -- nothing new
    have e0 : W1.as = [] := List.eq_nil_of_length_eq_zero as1
    split at e
    · cases e
    · rename_i h
      cases e
      have hnr : ∀ (d : D) (v : V), Rp K W1 d v → d.nr = true := by
        have both : (∀ (d : D) (v : V), Rp K W1 d v → d.nr = true) ∧ True := by
          refine ⟨fun d => ?_, trivial⟩
          refine D.rec (motive_1 := fun d => ∀ v, Rp K W1 d v → d.nr = true) (motive_2 := fun ds => ∀ vs, RpL K W1 ds vs → D.nrs ds = true) ?_ ?_ ?_ ?_ ?_ ?_ ?_ ?_ ?_ ?_ ?_ d
          · intro v _; rw [D.nr] <;> simp
          · intro b v _; rw [D.nr] <;> simp
          · intro i v _; rw [D.nr] <;> simp
          · intro x v _; rw [D.nr] <;> simp
          · intro xs ih v h; obtain ⟨a, vs, _, _, r⟩ := h; rw [D.nr]; exact ih vs r
          · intro xs ih v h; obtain ⟨a, vs, _, _, r⟩ := h; rw [D.nr]; exact ih vs r
          · intro xs ih v h; obtain ⟨a, vs, _, _, r⟩ := h; rw [D.nr]; exact ih vs r
          · intro n v h; obtain ⟨a, q, _⟩ := h; rw [e0] at q; simp at q
          · intro ks us i1 i2 v h; obtain ⟨a, o, kv, vv, _, _, _, r1, r2⟩ := h; rw [D.nr, i1 kv r1, i2 vv r2]; rfl
          · intro vs _; rw [D.nrs]
          · intro d ds i1 i2 vs h; obtain ⟨v, r, _, h1, h2⟩ := h; rw [D.nrs, i1 v h1, i2 r h2]; rfl
        exact both.1
      have ex := sr2 [] fun a h => by simp at h
      rw [List.append_nil] at ex
      have rd := toW2 [] d v (hnr d v r1) (by simpa using h) r1
      rw [List.append_nil] at rd
      exact k ⟨W.as, fun a => W.bad a ∨ W1.bad a, W1.H⟩ v ex ⟨sr.len, sr.nd, fun a q => .inl (sr.sub a q), fun a q => q.elim (fun z => let ⟨o, hq⟩ := sr.bt a z; ⟨o, keepAll a o hq⟩) (s1.bt a), fun n a mo h1 h2 => old (W2 := ⟨W.as, fun a => W.bad a ∨ W1.bad a, W1.H⟩) rfl ex n a mo h1 h2⟩ rd
  · -- a new list
    rename_i mo0
    split at e
    · rename_i hd
      split at e
      · cases e
      · rename_i h
        split at e
        · rename_i hnr
          cases e
          obtain ⟨p, hp, ev⟩ := r1
          have e1' : W1.as = [p] := by
            have hl : W1.as.length = 1 := as1
            match hW : W1.as, hl with
            | [q], _ => rw [hW] at hp; simp at hp; rw [hp]
          have q1 := s1.obj 0 p mo0 hp rfl
          have hpn : W.H p = none := by
            obtain ⟨new, ea, fr⟩ := e1.as
            refine fr p ?_
            have ea' : W1.as = new := by rw [ea]; rfl
            rw [← ea', e1']; simp
          have pb : W1.bad p := s1.sub p (by rw [e1']; simp)
          have npW : p ∉ W.as := fun z => sr.nb hpn (sr.sub p z)
          have ex := sr2 [p] fun a h => by rw [show a = p by simpa using h]; exact ⟨hpn, pb⟩
          have rxs : MoOk K ⟨W.as ++ [p], fun a => W.bad a ∨ W1.bad a, W1.H⟩ p mo0 := by
            cases hr : anyRef ds with
            | false => exact MoOk.nr (W := W1) (W' := ⟨W.as ++ [p], fun a => W.bad a ∨ W1.bad a, W1.H⟩) rfl (noB hr) hnr q1
            | true => exact MoOk.nl (W := W1) (W' := ⟨W.as ++ [p], fun a => W.bad a ∨ W1.bad a, W1.H⟩) rfl badLst' (by rw [hr] at h; simpa using h) q1
          refine k ⟨W.as ++ [p], fun a => W.bad a ∨ W1.bad a, W1.H⟩ v ex ⟨by simp [sr.len], ?_, fun a q => ?_, fun a q => q.elim (fun z => let ⟨o, hq⟩ := sr.bt a z; ⟨o, keepAll a o hq⟩) (s1.bt a), fun n a mo h1 h2 => ?_⟩ ⟨p, by show (W.as ++ [p])[M.length]? = some p; rw [← sr.len]; simp, ev⟩
          · show (W.as ++ [p]).Nodup
            rw [List.nodup_append]
            refine ⟨sr.nd, by simp, fun a ha b hb => ?_⟩
            rw [show b = p by simpa using hb]
            rintro rfl; exact npW ha
          · rcases List.mem_append.mp q with q | q
            · exact .inl (sr.sub a q)
            · rw [show a = p by simpa using q]; exact .inr pb
          · have h1' : (W.as ++ [p])[n]? = some a := h1
            by_cases hlt : n < W.as.length
            · rw [List.getElem?_append_left hlt] at h1'
              rw [List.getElem?_append_left (by rw [← sr.len]; exact hlt)] at h2
              exact old (W2 := ⟨W.as ++ [p], fun a => W.bad a ∨ W1.bad a, W1.H⟩) rfl ex n a mo h1' h2
            · have en : n = W.as.length := by
                have := (List.getElem?_eq_some_iff.mp h1').1
                simp at this; omega
              subst en
              have eb : p = a := by simpa using h1'
              have em : mo0 = mo := by
                rw [sr.len] at h2
                simpa using h2
              subst eb em
              exact rxs
        · cases e
    · cases e
  · cases e
end
section
variable {X : Cx} {k n : Nat} {f : Addr} {fd : FuncData} {ps : List Str} {c : FnC} {x : Str} {p pos : Pos} {e : Expr} {es : List Expr} {fa : FA}
theorem pf_call (F : FnOk X.prog X.w X.K X.mg X.base CX0 k f fd ps (spOf X.K c n)) (hr : Room k X.A) (hg : Gl X x) (hm : X.mg x = some (.ref f)) (hk : PySem.W.keepIn X.K (.ref f) = true) (hb : Binds X.K fd ps []) (ha : PFA X (e :: es) fa) (hn : n = es.length + 1 := by rfl)
    (hlen : ∀ ρ M r, fa ρ M = some r → r.1.length = es.length + 1) (hdb : (x == ("__debug__" : Str)) = false := by decide) (he : starEach (e :: es) X.env = (false, eval e X.env) :: starEach es X.env := by rfl) (hpl : (backTo pos (starEach es X.env)).any (·.1) = false := by rfl) :
    PFE X (.Call (.Name x p) (e :: es) [] pos) (fCall c fa) := pe_weak (pe_call F hr hg hm hk hb .nil pass0 ha hdb he hpl) fun σ H Q => by
  rintro ⟨W, ρ, M, rfl, sr, sl, d, M', hf, k⟩
  obtain ⟨⟨ds, M1⟩, hx, hf⟩ := Option.bind_eq_some_iff.mp hf
  refine ⟨W, ρ, M, rfl, sr, sl, ds, M1, hx, fun W1 vs e1 s1 r1 => ?_⟩
  show spOf X.K c n (vs ++ []) W1.H Q E0
  rw [List.append_nil]
  exact callP_ok s1 r1 (by rw [← r1.len, hn]; exact hlen _ _ _ hx) hf fun W2 v e2 s2 r2 => k W2 v (e1.trans e2) s2 r2
theorem pf_call0 (F : FnOk X.prog X.w X.K X.mg X.base CX0 k f fd ps (spOf X.K c 0)) (hr : Room k X.A) (hg : Gl X x) (hm : X.mg x = some (.ref f)) (hk : PySem.W.keepIn X.K (.ref f) = true) (hb : Binds X.K fd ps []) (hdb : (x == ("__debug__" : Str)) = false := by decide) :
    PFE X (.Call (.Name x p) [] [] pos) (fCall c fNil) := pe_weak (pe_call0 F hr hg hm hk hb .nil pass0 hdb) fun σ H Q => by
  rintro ⟨W, ρ, M, rfl, sr, sl, d, M', hf, k⟩
  show spOf X.K c 0 ([] ++ []) W.H Q E0
  exact callP_ok (ds := []) sr rfl rfl hf fun W2 v e2 s2 r2 => k W2 v e2 s2 r2
end
theorem len_nil : ∀ ρ M (r : List D × Mem), fNil ρ M = some r → r.1.length = 0 := fun ρ M r h => by cases h; rfl
theorem len_cons {fa : FE} {f : FA} {n : Nat} (h : ∀ ρ M r, f ρ M = some r → r.1.length = n) : ∀ ρ M (r : List D × Mem), fCons fa f ρ M = some r → r.1.length = n + 1 := fun ρ M r e => by
  obtain ⟨a, ha, e⟩ := Option.bind_eq_some_iff.mp e
  obtain ⟨b, hb, e⟩ := Option.bind_eq_some_iff.mp e
  cases e
  simp [h _ _ _ hb]
end PF
namespace PF
open PySem PySem.Spec PyProof.Rows L2
/-! ### a call that changes one list -/
def refIn (n : Nat) : List D → Bool
  | [] => false
  | .ref m :: ds => decide (m = n) || refIn n ds
  | _ :: ds => refIn n ds
theorem refIn_no {n : Nat} : ∀ {ds : List D}, refIn n ds = false → D.ref n ∉ ds
  | [], _ => by simp
  | d :: ds, h => by
    intro z
    rcases List.mem_cons.mp z with z | z
    · subst z
      simp [refIn] at h
    · refine refIn_no (ds := ds) ?_ z
      cases d with
      | ref m => rw [refIn, Bool.or_eq_false_iff] at h; exact h.2
      | _ => exact h
def callS (i : Nat) (c : FnC) (ds : List D) (M : Mem) : Option (D × Mem) := match ds[i]? with
  | some (.ref n) => match M[n]? with
    | some mo => if mo.nr && !refIn n (ds.set i .non) then (argsP M (ds.set i .non)).bind fun es => (c (es.set i (.ref 0)) [mo]).bind fun r => match r.2 with
        | [.lst xs] => if (D.nrs xs && r.1.nr) && !(anyRef (ds.set i .non) && !(r.1.nl && D.nls xs)) then some (r.1, M.set n (.lst xs)) else none
        | _ => none
      else none
    | none => none
  | _ => none
def fCallS (i : Nat) (c : FnC) (fa : FA) : FE := fun ρ M => (fa ρ M).bind fun a => callS i c a.1 a.2
section
variable {K : PySem.W.Frag} {W : Wo} {M : Mem}
theorem callS_ok {i : Nat} {c : FnC} {n : Nat} {ds : List D} {vs : List V} {d : D} {M' : Mem} {Q : VK} {E : XK} (sr : SR K W M) (r : RpL K W ds vs) (hn : vs.length = n) (e : callS i c ds M = some (d, M'))
    (k : ∀ W' v, Ext W W' → SR K W' M' → Rp K W' d v → Q v W'.H) : spOf K c n vs W.H Q E := by
  unfold callS at e
  split at e
  · rename_i m hm
    split at e
    · rename_i mo hmo
      split at e
      · rename_i hc0
        rw [Bool.and_eq_true, Bool.not_eq_true'] at hc0
        obtain ⟨hnr, hri⟩ := hc0
        obtain ⟨es, he, e⟩ := Option.bind_eq_some_iff.mp e
        obtain ⟨⟨d1, M1⟩, hc, e⟩ := Option.bind_eq_some_iff.mp e
        obtain ⟨a, ha, mok⟩ := sr.addr hmo
        obtain ⟨vi, hvi, ri⟩ := r.get hm
        obtain ⟨a', ha', ev⟩ := ri
        obtain rfl : a = a' := Option.some.inj (ha.symm.trans ha')
        have haW : a ∈ W.as := List.mem_of_getElem? ha
        have nl : ¬ Lent W (ds.set i .non) a := fun ⟨j, h1, h2⟩ => by
          obtain ⟨q1, q2⟩ := List.getElem?_eq_some_iff.mp h2
          obtain ⟨q3, q4⟩ := List.getElem?_eq_some_iff.mp ha
          have : j = m := (List.getElem_inj sr.nd).mp (q2.trans q4.symm)
          subst this
          exact refIn_no hri h1
        have sL : SR K (W.lend [a] (Lent W (ds.set i .non))) [mo] := by
          refine ⟨rfl, by simp [Wo.lend], fun b h => ?_, fun b h => sr.bt b h.1, fun j b mo' h1 h2 => ?_⟩
          · rw [show b = a by simpa [Wo.lend] using h]
            exact ⟨sr.sub a haW, nl⟩
          · cases j with
            | zero =>
              have eb : a = b := by simpa [Wo.lend] using h1
              have em : mo = mo' := by simpa using h2
              subst eb em
              exact MoOk.nr (W := W) (W' := W.lend [a] (Lent W (ds.set i .non))) rfl (fun _ z => z.1) hnr mok
            | succ j => simp at h2
        have r' : RpL K W (ds.set i .non) (vs.set i .non) := r.set i rfl
        have rE := args_ok (as := [a]) sr he r' (free := Lent W (ds.set i .non)) fun j b h1 h2 => ⟨j, h1, h2⟩
        have rE2 : RpL K (W.lend [a] (Lent W (ds.set i .non))) (es.set i (.ref 0)) vs := by
          have q := rE.set (d := .ref 0) (v := .ref a) i ⟨a, rfl, rfl⟩
          rw [List.set_set] at q
          have ev' : vs.set i (.ref a) = vs := by
            rw [← ev]
            obtain ⟨h1, h2⟩ := List.getElem?_eq_some_iff.mp hvi
            rw [← h2]; exact List.set_getElem_self h1
          rw [ev'] at q
          exact q
        refine ⟨hn, W.lend [a] (Lent W (ds.set i .non)), [mo], _, rfl, sL, rE2, d1, M1, hc, fun W1 v e1 s1 r1 => ?_⟩
        have keepAll : ∀ b o, b ≠ a → W.H b = some o → W1.H b = some o := fun b o hb h => e1.keep b o (by simpa [Wo.lend] using hb) h
        dsimp only at e
        split at e
        · rename_i xs
          split at e
          · rename_i hcond
            rw [Bool.and_eq_true, Bool.and_eq_true, Bool.not_eq_true'] at hcond
            obtain ⟨⟨hxs, hd⟩, hl⟩ := hcond
            cases e
            obtain ⟨new, ea, fr⟩ := e1.as
            have enew : new = [] := by
              have h1 := s1.len
              rw [ea] at h1
              simp [Wo.lend] at h1
              exact h1
            subst enew
            have ea1 : W1.as = [a] := by rw [ea]; rfl
            obtain ⟨us, q1, q2⟩ := s1.obj 0 a (.lst xs) (by rw [ea1]; rfl) rfl
            have ex : Ext W ⟨W.as, fun b => W.bad b ∨ W1.bad b, W1.H⟩ := by
              refine ⟨⟨[], by simp, fun _ h => by simp at h⟩, fun b h => .inl h, fun b h => h.elim .inl fun z => (e1.new b z).imp (fun q => q.1) fun q => q, fun b o hb h => keepAll b o (fun z => hb (by rw [z]; exact haW)) h, fun b o h => ?_⟩
              by_cases z : b = a
              · subst z; exact ⟨_, q1.1⟩
              · exact ⟨o, keepAll b o z h⟩
            have badLst : ∀ b, (W.bad b ∨ W1.bad b) → W1.bad b ∨ (Lent W (ds.set i .non) b ∧ LstAt W1.H b) := fun b z => by
              rcases z with z | z
              · by_cases q : Lent W (ds.set i .non) b
                · have nb : b ≠ a := fun z => nl (by rw [← z]; exact q)
                  obtain ⟨us, q2, q3⟩ := (lent_lst sr q).1
                  exact .inr ⟨q, us, keepAll b _ nb q2, q3⟩
                · exact .inl (e1.bad b ⟨z, q⟩)
              · exact .inl z
            have noB : anyRef (ds.set i .non) = false → ∀ b, (W.bad b ∨ W1.bad b) → W1.bad b := fun hr b z => by
              rcases badLst b z with q | ⟨⟨j, q, _⟩, _⟩
              · exact q
              · exact absurd q (noRef hr j)
            have toD : ∀ (d : D) (v : V), d.nr = true → (anyRef (ds.set i .non) = true → d.nl = true) → Rp K W1 d v → Rp K ⟨W.as, fun b => W.bad b ∨ W1.bad b, W1.H⟩ d v := fun d v h1 h2 r => by
              cases hr : anyRef (ds.set i .non) with
              | false => exact Rp.nr (W := W1) (W' := ⟨W.as, fun b => W.bad b ∨ W1.bad b, W1.H⟩) rfl (noB hr) _ _ h1 r
              | true => exact Rp.nl (W := W1) (W' := ⟨W.as, fun b => W.bad b ∨ W1.bad b, W1.H⟩) rfl (fun b z => (badLst b z).imp (fun q => q) fun q => q.2) _ _ (h2 hr) r
            have toL : RpL K ⟨W.as, fun b => W.bad b ∨ W1.bad b, W1.H⟩ xs us := by
              cases hr : anyRef (ds.set i .non) with
              | false => exact RpL.nr (W := W1) (W' := ⟨W.as, fun b => W.bad b ∨ W1.bad b, W1.H⟩) rfl (noB hr) _ _ hxs q2
              | true =>
                rw [hr, Bool.true_and, Bool.not_eq_false', Bool.and_eq_true] at hl
                exact RpL.nl (W := W1) (W' := ⟨W.as, fun b => W.bad b ∨ W1.bad b, W1.H⟩) rfl (fun b z => (badLst b z).imp (fun q => q) fun q => q.2) _ _ hl.2 q2
            refine k ⟨W.as, fun b => W.bad b ∨ W1.bad b, W1.H⟩ v ex ⟨by rw [List.length_set]; exact sr.len, sr.nd, fun b h => .inl (sr.sub b h), fun b h => h.elim (fun z => let ⟨o, q⟩ := sr.bt b z; ex.live b o q) (s1.bt b), fun j b mo' h1 h2 => ?_⟩ (toD _ _ hd (fun hr => ?_) r1)
            · have h1' : W.as[j]? = some b := h1
              by_cases z : j = m
              · subst z
                obtain rfl : a = b := Option.some.inj (ha.symm.trans h1')
                have hl : j < M.length := by rw [← sr.len]; exact (List.getElem?_eq_some_iff.mp ha).1
                rw [List.getElem?_set_self hl] at h2
                cases h2
                exact ⟨us, q1, toL⟩
              · rw [List.getElem?_set_ne (Ne.symm z)] at h2
                have nb : b ≠ a := fun q => z (by
                  subst q
                  obtain ⟨q1, q2⟩ := List.getElem?_eq_some_iff.mp h1'
                  obtain ⟨q3, q4⟩ := List.getElem?_eq_some_iff.mp ha
                  exact (List.getElem_inj sr.nd).mp (q2.trans q4.symm))
                have mk := sr.obj j b mo' h1' h2
                obtain ⟨o, q⟩ := mk.there
                exact mk.ext ex sr.sub (by rw [q]; exact keepAll b o nb q)
            · rw [hr, Bool.true_and, Bool.not_eq_false', Bool.and_eq_true] at hl
              exact hl.1
          · cases e
        · cases e
      · cases e
    · cases e
  · cases e
end
section
variable {X : Cx} {k n : Nat} {f : Addr} {fd : FuncData} {ps : List Str} {c : FnC} {x : Str} {p pos : Pos} {e : Expr} {es : List Expr} {fa : FA}
theorem pf_callS (i : Nat) (F : FnOk X.prog X.w X.K X.mg X.base CX0 k f fd ps (spOf X.K c n)) (hr : Room k X.A) (hg : Gl X x) (hm : X.mg x = some (.ref f)) (hk : PySem.W.keepIn X.K (.ref f) = true) (hb : Binds X.K fd ps []) (ha : PFA X (e :: es) fa) (hn : n = es.length + 1 := by rfl)
    (hlen : ∀ ρ M r, fa ρ M = some r → r.1.length = es.length + 1) (hdb : (x == ("__debug__" : Str)) = false := by decide) (he : starEach (e :: es) X.env = (false, eval e X.env) :: starEach es X.env := by rfl) (hpl : (backTo pos (starEach es X.env)).any (·.1) = false := by rfl) :
    PFE X (.Call (.Name x p) (e :: es) [] pos) (fCallS i c fa) := pe_weak (pe_call F hr hg hm hk hb .nil pass0 ha hdb he hpl) fun σ H Q => by
  rintro ⟨W, ρ, M, rfl, sr, sl, d, M', hf, k⟩
  obtain ⟨⟨ds, M1⟩, hx, hf⟩ := Option.bind_eq_some_iff.mp hf
  refine ⟨W, ρ, M, rfl, sr, sl, ds, M1, hx, fun W1 vs e1 s1 r1 => ?_⟩
  show spOf X.K c n (vs ++ []) W1.H Q E0
  rw [List.append_nil]
  exact callS_ok s1 r1 (by rw [← r1.len, hn]; exact hlen _ _ _ hx) hf fun W2 v e2 s2 r2 => k W2 v (e1.trans e2) s2 r2
end
/-! ### calls of built-ins -/
abbrev GN := List D → Mem → Option D
def fB (g : GN) (fa : FA) : FE := fun ρ M => (fa ρ M).bind fun a => (g a.1 a.2).bind fun d => some (d, a.2)
def OpN (K : PySem.W.Frag) (r : List V → Hp → VK → Prop) (g : GN) : Prop := ∀ (W : Wo) (M : Mem) (ds : List D) (d : D) (vs : List V) (Q : VK), SR K W M → RpL K W ds vs → g ds M = some d →
  (∀ W' v', Ext W W' → SR K W' M → Rp K W' d v' → Q v' W'.H) → r vs W.H Q
/-- .. that make a new list -/
abbrev GNN := List D → Mem → Option (List D)
def fBN (g : GNN) (fa : FA) : FA := fun ρ M => (fa ρ M).bind fun a => (g a.1 a.2).bind fun d => some (d, a.2)
def OpNN (K : PySem.W.Frag) (r : List V → Hp → VK → Prop) (g : GNN) : Prop := ∀ (W : Wo) (M : Mem) (ds xs : List D) (vs : List V) (Q : VK), SR K W M → RpL K W ds vs → g ds M = some xs →
  (∀ p us, W.H p = none → RpL K W xs us → us.length ≤ LINE → Q (.ref p) (upd W.H p (.lst us))) → r vs W.H Q
section
variable {X : Cx} {e : Expr} {es : List Expr} {fa : FA} {x : Str} {p pos : Pos} {r : List V → Hp → VK → Prop} {g : GN} {gn : GNN} {id T : String}
theorem lB (o : OpN X.K r g) : ∀ σ H Q, liftE X.K (fB g fa) σ H Q → tCB r (liftA X.K fa) σ H Q := by
  rintro σ H Q ⟨W, ρ, M, rfl, sr, sl, d, M', hf, k⟩
  obtain ⟨⟨ds, M1⟩, hx, hf⟩ := Option.bind_eq_some_iff.mp hf
  obtain ⟨d', hg, hf⟩ := Option.bind_eq_some_iff.mp hf
  cases hf
  exact ⟨W, ρ, M, rfl, sr, sl, ds, _, hx, fun W1 vs e1 s1 r1 => o W1 _ ds d vs Q s1 r1 hg fun W2 v e2 s2 r2 => k W2 v (e1.trans e2) s2 r2⟩
theorem lBN (o : OpNN X.K r gn) : ∀ σ H Q, liftN X.K (fBN gn fa) σ H Q → tCB r (liftA X.K fa) σ H Q := by
  rintro σ H Q ⟨W, ρ, M, rfl, sr, sl, d, M', hf, k⟩
  obtain ⟨⟨ds, M1⟩, hx, hf⟩ := Option.bind_eq_some_iff.mp hf
  obtain ⟨d', hg, hf⟩ := Option.bind_eq_some_iff.mp hf
  cases hf
  exact ⟨W, ρ, M, rfl, sr, sl, ds, _, hx, fun W1 vs e1 s1 r1 => o W1 _ ds d vs Q s1 r1 hg fun q us hq ru hl => k W1 q us e1 s1 hq ru hl⟩
theorem pf_b (hc : CallR X (.builtin id) r) (o : OpN X.K r g) (hg : Gl X x) (hm : X.mg x = none) (hv : bootBuiltins x = some (.builtin id)) (ha : PFA X (e :: es) fa) (hn : x ≠ "__name__" := by decide) (hdb : (x == ("__debug__" : Str)) = false := by decide)
    (he : starEach (e :: es) X.env = (false, eval e X.env) :: starEach es X.env := by rfl) (hpl : (backTo pos (starEach es X.env)).any (·.1) = false := by rfl) : PFE X (.Call (.Name x p) (e :: es) [] pos) (fB g fa) := pe_weak (pe_callB hc hg hm hv ha hn hdb he hpl) (lB o)
theorem pf_ty (hc : CallR X (.type T) r) (o : OpN X.K r g) (hg : Gl X x) (hm : X.mg x = none) (hv : bootBuiltins x = some (.type T)) (ha : PFA X (e :: es) fa) (hn : x ≠ "__name__" := by decide) (hdb : (x == ("__debug__" : Str)) = false := by decide)
    (he : starEach (e :: es) X.env = (false, eval e X.env) :: starEach es X.env := by rfl) (hpl : (backTo pos (starEach es X.env)).any (·.1) = false := by rfl) : PFE X (.Call (.Name x p) (e :: es) [] pos) (fB g fa) := pe_weak (pe_callTy hc hg hm hv ha hn hdb he hpl) (lB o)
theorem pfn_b (hc : CallR X (.builtin id) r) (o : OpNN X.K r gn) (hg : Gl X x) (hm : X.mg x = none) (hv : bootBuiltins x = some (.builtin id)) (ha : PFA X (e :: es) fa) (hn : x ≠ "__name__" := by decide) (hdb : (x == ("__debug__" : Str)) = false := by decide)
    (he : starEach (e :: es) X.env = (false, eval e X.env) :: starEach es X.env := by rfl) (hpl : (backTo pos (starEach es X.env)).any (·.1) = false := by rfl) : PFN X (.Call (.Name x p) (e :: es) [] pos) (fBN gn fa) := pe_weak (pe_callB hc hg hm hv ha hn hdb he hpl) (lBN o)
theorem pfn_ty (hc : CallR X (.type T) r) (o : OpNN X.K r gn) (hg : Gl X x) (hm : X.mg x = none) (hv : bootBuiltins x = some (.type T)) (ha : PFA X (e :: es) fa) (hn : x ≠ "__name__" := by decide) (hdb : (x == ("__debug__" : Str)) = false := by decide)
    (he : starEach (e :: es) X.env = (false, eval e X.env) :: starEach es X.env := by rfl) (hpl : (backTo pos (starEach es X.env)).any (·.1) = false := by rfl) : PFN X (.Call (.Name x p) (e :: es) [] pos) (fBN gn fa) := pe_weak (pe_callTy hc hg hm hv ha hn hdb he hpl) (lBN o)
/-- a built-in function that the module has under a name (math.gcd) -/
theorem pf_bfun (hc : CallR X (.builtin id) r) (o : OpN X.K r g) (hg : Gl X x) (hm : X.mg x = some (.builtin id)) (ha : PFA X (e :: es) fa) (hdb : (x == ("__debug__" : Str)) = false := by decide)
    (he : starEach (e :: es) X.env = (false, eval e X.env) :: starEach es X.env := by rfl) (hpl : (backTo pos (starEach es X.env)).any (·.1) = false := by rfl) : PFE X (.Call (.Name x p) (e :: es) [] pos) (fB g fa) := pe_weak (pe_callBfun hc hg hm ha hdb he hpl) (lB o)
end
section
variable {K : PySem.W.Frag}
theorem rl1 {W : Wo} {d : D} {vs : List V} (h : RpL K W [d] vs) : ∃ v, vs = [v] ∧ Rp K W d v := by
  obtain ⟨v, r, rfl, h1, h2⟩ := h
  cases (show _ = _ from h2)
  exact ⟨v, rfl, h1⟩
theorem rl2 {W : Wo} {d e : D} {vs : List V} (h : RpL K W [d, e] vs) : ∃ v u, vs = [v, u] ∧ Rp K W d v ∧ Rp K W e u := by
  obtain ⟨v, r, rfl, h1, h2⟩ := h
  obtain ⟨u, rfl, h3⟩ := rl1 h2
  exact ⟨v, u, rfl, h1, h3⟩
def gLen : GN := fun ds M => match ds with
  | [.str x] => if x.length ≤ LINE then some (.int x.length) else none
  | [d] => (sqOf d M).map fun xs => .int xs.length
  | _ => none
theorem o_len : OpN K (fun xs H Q => ∃ x n, xs = [x] ∧ LenV K x H n ∧ Q (.int n) H) gLen := by
  intro W M ds d vs Q sr r hg k
  unfold gLen at hg
  split at hg
  · split at hg
    · rename_i h
      cases hg
      obtain ⟨v, rfl, r1⟩ := rl1 r
      cases (show _ = _ from r1)
      exact ⟨_, _, rfl, ⟨by rw [line_eq]; exact h, rfl⟩, k W _ (.refl W) sr rfl⟩
    · cases hg
  · obtain ⟨xs, hx, hg⟩ := Option.map_eq_some_iff.mp hg
    subst hg
    obtain ⟨v, rfl, r1⟩ := rl1 r
    obtain ⟨p, us, rfl, h1, r2⟩ := sq_sq sr r1 hx
    refine ⟨_, us.length, rfl, h1.imp (fun z => ⟨us, z, rfl⟩) fun z => ⟨us, z, rfl⟩, k W _ (.refl W) sr ?_⟩
    rw [r2.len]; exact rfl
  · cases hg
def gInt : GN := fun ds _ => match ds with
  | [.int i] => some (.int i)
  | [.bl b] => some (.int (if b then 1 else 0))
  | _ => none
theorem o_int : OpN K (fun xs H Q => (∃ i, xs = [.int i] ∧ Q (.int i) H) ∨ ∃ k, xs = [.bl k] ∧ Q (.int (if k then 1 else 0)) H) gInt := by
  intro W M ds d vs Q sr r hg k
  unfold gInt at hg
  split at hg
  · cases hg
    obtain ⟨v, rfl, r1⟩ := rl1 r
    cases (show _ = _ from r1)
    exact .inl ⟨_, rfl, k W _ (.refl W) sr rfl⟩
  · cases hg
    obtain ⟨v, rfl, r1⟩ := rl1 r
    cases (show _ = _ from r1)
    exact .inr ⟨_, rfl, k W _ (.refl W) sr rfl⟩
  · cases hg
def gI1 (f : Int → Int) : GN := fun ds _ => match ds with | [.int i] => some (.int (f i)) | _ => none
def gI2 (f : Int → Int → Int) : GN := fun ds _ => match ds with | [.int i, .int j] => some (.int (f i j)) | _ => none
theorem o_i1 {f : Int → Int} : OpN K (fun xs H Q => ∃ i, xs = [.int i] ∧ Q (.int (f i)) H) (gI1 f) := by
  intro W M ds d vs Q sr r hg k
  unfold gI1 at hg
  split at hg
  · cases hg
    obtain ⟨v, rfl, r1⟩ := rl1 r
    cases (show _ = _ from r1)
    exact ⟨_, rfl, k W _ (.refl W) sr rfl⟩
  · cases hg
theorem o_i2 {f : Int → Int → Int} : OpN K (fun xs H Q => ∃ i j, xs = [.int i, .int j] ∧ Q (.int (f i j)) H) (gI2 f) := by
  intro W M ds d vs Q sr r hg k
  unfold gI2 at hg
  split at hg
  · cases hg
    obtain ⟨v, u, rfl, r1, r2⟩ := rl2 r
    cases (show _ = _ from r1); cases (show _ = _ from r2)
    exact ⟨_, _, rfl, k W _ (.refl W) sr rfl⟩
  · cases hg
def gAbs : GN := gI1 fun i => if i < 0 then -i else i
def gMax2 : GN := gI2 fun i j => if j > i then j else i
def gMin2 : GN := gI2 fun i j => if j < i then j else i
def gGcd : GN := gI2 fun a b => ((Nat.gcd a.natAbs b.natAbs : Nat) : Int)
def gTuple : GN := fun ds M => match ds with
  | [d] => (sqOf d M).map .tup
  | _ => none
theorem o_tuple : OpN K (fun xs H Q => ∃ p ys, xs = [.ref p] ∧ ((SqL K H p ys ∧ ∀ l, H l = none → Q (.ref l) (upd H l (.tup ys))) ∨ (SqT K H p ys ∧ Q (.ref p) H))) gTuple := by
  intro W M ds d vs Q sr r hg k
  unfold gTuple at hg
  split at hg
  · rename_i d0
    obtain ⟨xs, hx, hg⟩ := Option.map_eq_some_iff.mp hg
    subst hg
    obtain ⟨v, rfl, r1⟩ := rl1 r
    have hl := sq_len sr r1 hx
    have lists : lsOf d0 M = some xs → ∃ p ys, [v] = [V.ref p] ∧ ((SqL K W.H p ys ∧ ∀ l, W.H l = none → Q (.ref l) (upd W.H l (.tup ys))) ∨ (SqT K W.H p ys ∧ Q (.ref p) W.H)) := fun e => by
      obtain ⟨p, us, rfl, h1, r2⟩ := ls_sq sr r1 e
      exact ⟨p, us, rfl, .inl ⟨h1, fun l nl => k _ _ (Ext.put nl) (sr.put nl) (.newTup sr nl r2 (by rw [← r2.len]; exact hl))⟩⟩
    cases d0 with
    | tup ys =>
      cases hx
      obtain ⟨p, us, rfl, h1, r2⟩ := tp_sq r1
      exact ⟨p, us, rfl, .inr ⟨h1, k W _ (.refl W) sr r1⟩⟩
    | _ => exact lists hx
  · cases hg
def gList : GNN := fun ds M => match ds with
  | [d] => sqOf d M
  | _ => none
theorem o_list : OpNN K (fun xs H Q => ∃ p ys, xs = [.ref p] ∧ (SqL K H p ys ∨ SqT K H p ys) ∧ ∀ l, H l = none → Q (.ref l) (upd H l (.lst ys))) gList := by
  intro W M ds xs vs Q sr r hg k
  unfold gList at hg
  split at hg
  · obtain ⟨v, rfl, r1⟩ := rl1 r
    have hl := sq_len sr r1 hg
    obtain ⟨p, us, rfl, h1, r2⟩ := sq_sq sr r1 hg
    exact ⟨p, us, rfl, h1, fun l nl => k l us nl r2 (by rw [← r2.len]; exact hl)⟩
  · cases hg
end
/-! isinstance of one built-in class -/
inductive Ty where
  | non | bl | int | str | tup | lst
  deriving DecidableEq
def Ty.nm : Ty → String
  | .non => "NoneType" | .bl => "bool" | .int => "int" | .str => "str" | .tup => "tuple" | .lst => "list"
def tyOf : D → Ty
  | .non => .non | .bl _ => .bl | .int _ => .int | .str _ => .str | .tup _ => .tup | .lst _ => .lst | .kst _ => .lst | .ref _ => .lst | .dct _ _ => .non
/-- no dict -/
def noDct : D → Mem → Bool
  | .dct _ _, _ => false
  | .ref n, M => match M[n]? with | some (.dct _ _) => false | some (.lck _ _ _) => false | _ => true
  | _, _ => true
def isi (t T : Ty) : Bool := decide (t = T) || (decide (t = .bl) && decide (T = .int))
theorem kit_tab : ∀ t T : Ty, T ≠ .non → kitB t.nm T.nm = some (isi t T) := by
  intro t T h
  cases T with
  | non => exact absurd rfl h
  | _ => cases t <;> decide +kernel
section
variable {K : PySem.W.Frag} {W : Wo} {M : Mem}
theorem tyX_of {d : D} {v : V} (sr : SR K W M) (h : Rp K W d v) (hn : noDct d M = true) : TyX K W.H v (.type (tyOf d).nm) := by
  have kl : ∀ {a : Addr} {vs : List V}, SqL K (fun _ => none) a vs → TyX K W.H (.ref a) (.type "list") := fun h => by
    rcases h with (h | ⟨o, h⟩) | ⟨o, its, n, h1, h2, _⟩
    · cases (show (none : Option HO) = _ from h)
    · cases (show (none : Option HO) = _ from h)
    · exact .kList h1 h2
  cases d with
  | non => cases (show _ = _ from h); exact .base .non
  | bl b => cases (show _ = _ from h); exact .base (.bl b)
  | int i => cases (show _ = _ from h); exact .base (.int i)
  | str x => cases (show _ = _ from h); exact .base (.str x)
  | tup xs =>
    obtain ⟨a, vs, rfl, f, _⟩ := h
    rcases f.1 with f | f
    · exact .base (.tup f.1)
    · rcases f with (f | ⟨o, f⟩) | ⟨o, its, n, h1, h2, _⟩
      · cases (show (none : Option HO) = _ from f)
      · cases (show (none : Option HO) = _ from f)
      · exact .kTuple h1 h2
  | lst xs =>
    obtain ⟨a, vs, rfl, f, _⟩ := h
    exact .base (.lst f.1.1)
  | kst xs =>
    obtain ⟨a, vs, rfl, f, _⟩ := h
    rcases f.1 with ⟨⟨o, f⟩, _⟩ | f
    · exact .base (.frz f)
    · exact kl f
  | ref n =>
    obtain ⟨a, h1, rfl⟩ := h
    obtain ⟨mo, e2, m⟩ := sr.at_ h1
    cases mo with
    | lst xs => obtain ⟨vs, q, _⟩ := m; exact .base (.lst q.1)
    | dct _ _ => simp only [noDct, e2] at hn; cases hn
    | lck _ _ _ => simp only [noDct, e2] at hn; cases hn
  | dct _ _ => cases hn
end
def fIsi (T : Ty) (fa : FE) : FE := fun ρ M => (fa ρ M).bind fun a => if noDct a.1 a.2 = true then some (.bl (isi (tyOf a.1) T), a.2) else none
theorem pf_isi {X : Cx} {e : Expr} {fa : FE} {y : Str} {p q pos : Pos} (T : Ty) (hT : T ≠ .non) (hg : Gl X "isinstance") (hm : X.mg "isinstance" = none) (ha : PFE X e fa) (hgT : Gl X y) (hmT : X.mg y = none) (hvT : bootBuiltins y = some (.type T.nm)) (hy : y ≠ "__name__" := by decide) (hdy : (y == ("__debug__" : Str)) = false := by decide)
    (he : starEach [e, .Name y q] X.env = (false, eval e X.env) :: starEach [.Name y q] X.env := by rfl) (hpl : (backTo pos (starEach [.Name y q] X.env)).any (·.1) = false := by rfl) (hs1 : starEach [.Name y q] X.env = (false, eval (.Name y q) X.env) :: starEach [] X.env := by rfl) :
    PFE X (.Call (.Name "isinstance" p) [e, .Name y q] [] pos) (fIsi T fa) :=
  pe_weak (pe_callB call_isi hg hm boot_isinstance (pa_cons ha (pa_cons (pe_bltn (v := .ty T.nm) hgT hmT hvT rfl hy hdy) pa_nil hs1) he) (by decide) (by decide) he hpl) fun σ H Q => by
    rintro ⟨W, ρ, M, rfl, sr, sl, d, M', hf, k⟩
    obtain ⟨⟨x, M1⟩, hx, hf⟩ := Option.bind_eq_some_iff.mp hf
    dsimp only at hf
    split at hf
    case isFalse => cases hf
    rename_i hnd
    cases hf
    exact ⟨W, ρ, M, rfl, sr, sl, x, _, hx, fun W1 v e1 s1 r1 => ⟨v, .ty T.nm, .type (tyOf x).nm, .type T.nm, _, rfl, .ty _, tyX_of s1 r1 hnd, kit_ty (kit_tab _ _ hT), k W1 _ e1 s1 rfl⟩⟩
/-! ### methods -/
abbrev GM := D → List D → Mem → Option (D × Mem)
def tyOk (T : String) (d : D) (M : Mem) : Bool := if T = "list" then (lsOf d M).isSome else if T = "str" then (match d with | .str _ => true | _ => false) else false
def fM (T : String) (g : GM) (fo : FE) (fa : FA) : FE := fun ρ M => (fo ρ M).bind fun o => if tyOk T o.1 o.2 = true then (fa ρ o.2).bind fun a => g o.1 a.1 a.2 else none
def OpM (K : PySem.W.Frag) (r : V → List V → Hp → VK → Prop) (g : GM) : Prop := ∀ (W : Wo) (M M' : Mem) (x d : D) (ds : List D) (v : V) (vs : List V) (Q : VK), SR K W M → Rp K W x v → RpL K W ds vs → g x ds M = some (d, M') →
  (∀ W' v', Ext W W' → SR K W' M' → Rp K W' d v' → Q v' W'.H) → r v vs W.H Q
section
variable {K : PySem.W.Frag} {W : Wo} {M : Mem}
theorem tyV_of {T : String} {d : D} {v : V} (sr : SR K W M) (h : Rp K W d v) (e : tyOk T d M = true) : tyV K T v W.H := by
  unfold tyOk at e
  split at e
  · rename_i hT
    subst hT
    obtain ⟨xs, hx⟩ := Option.isSome_iff_exists.mp e
    obtain ⟨p, vs, rfl, h1, _⟩ := ls_sq sr h hx
    exact .inl ⟨rfl, vs, h1⟩
  · split at e
    · rename_i hT
      subst hT
      split at e
      · cases (show _ = _ from h); exact rfl
      · cases e
    · cases e
end
section
variable {X : Cx} {o e : Expr} {es : List Expr} {fo : FE} {fa : FA} {name : Str} {apos cpos : Pos} {T id : String} {r : V → List V → Hp → VK → Prop} {g : GM}
theorem pf_m0 (pa : PlainAttrs T) (slot : Slot T name id) (hty : typeOf (.builtin id) = pure (.type "method_descriptor")) (hm : MtR X id r) (op : OpM X.K r g) (ho : PFE X o fo)
    (hbase : attributeBase o name X.env (eval o X.env) = eval o X.env := by rfl) (hline : (apos.endLine == cpos.line) = true := by rfl) : PFE X (.Call (.Attribute o name apos) [] [] cpos) (fM T g fo fNil) := pe_weak (pe_bm0 pa slot hty hm ho hbase hline) fun σ H Q => by
  rintro ⟨W, ρ, M, rfl, sr, sl, d, M', hf, k⟩
  obtain ⟨⟨x, M1⟩, hx, hf⟩ := Option.bind_eq_some_iff.mp hf
  split at hf
  · rename_i ht
    exact ⟨W, ρ, M, rfl, sr, sl, x, M1, hx, fun W1 v e1 s1 r1 => ⟨tyV_of s1 r1 ht, op W1 M1 M' x d [] v [] Q s1 r1 rfl hf fun W2 u e2 s2 r2 => k W2 u (e1.trans e2) s2 r2⟩⟩
  · cases hf
theorem pf_m (pa : PlainAttrs T) (slot : Slot T name id) (hty : typeOf (.builtin id) = pure (.type "method_descriptor")) (hm : MtR X id r) (op : OpM X.K r g) (ho : PFE X o fo) (ha : PFA X (e :: es) fa)
    (hbase : attributeBase o name X.env (eval o X.env) = eval o X.env := by rfl)
    (hfew : ((backTo cpos (starEach (e :: es) X.env)).all (fun x => !x.1) && (backToKw cpos (keywordEach [] X.env)).all (fun x => x.1.isSome)
      && decide ((e :: es).length + ([] : List Keyword).length + (if ([] : List Keyword).isEmpty then 0 else 1) < 30)) = true := by rfl)
    (hline : (apos.endLine == cpos.line) = true := by rfl) (hs : starEach (e :: es) X.env = (false, eval e X.env) :: starEach es X.env := by rfl) (hplain : (backTo cpos (starEach es X.env)).any (·.1) = false := by rfl) :
    PFE X (.Call (.Attribute o name apos) (e :: es) [] cpos) (fM T g fo fa) := pe_weak (pe_bm pa slot hty hm ho ha hbase hfew hline hs hplain) fun σ H Q => by
  rintro ⟨W, ρ, M, rfl, sr, sl, d, M', hf, k⟩
  obtain ⟨⟨x, M1⟩, hx, hf⟩ := Option.bind_eq_some_iff.mp hf
  split at hf
  · rename_i ht
    obtain ⟨⟨ds, M2⟩, hd, hf⟩ := Option.bind_eq_some_iff.mp hf
    exact ⟨W, ρ, M, rfl, sr, sl, x, M1, hx, fun W1 v e1 s1 r1 => ⟨tyV_of s1 r1 ht, W1, ρ, M1, rfl, s1, sl.ext e1 sr.sub, ds, M2, hd, fun W2 vs e2 s2 r2 => op W2 M2 M' x d ds v vs Q s2 (r1.ext e2 s1.sub) r2 hf fun W3 u e3 s3 r3 => k W3 u ((e1.trans e2).trans e3) s3 r3⟩⟩
  · cases hf
end
/-- a changeable list, as it stands -/
def mlOf (d : D) (M : Mem) : Option (Nat × List D) := match d with
  | .ref n => match M[n]? with | some (.lst xs) => some (n, xs) | _ => none
  | _ => none
def gAppend : GM := fun x ds M => match ds with
  | [d] => (mlOf x M).bind fun l => if l.2.length < LINE then some (.non, M.set l.1 (.lst (l.2 ++ [d]))) else none
  | _ => none
def gPop : GM := fun x ds M => match ds with
  | [] => (mlOf x M).bind fun l => (l.2[l.2.length - 1]?).bind fun d => some (d, M.set l.1 (.lst l.2.dropLast))
  | _ => none
def gReverse : GM := fun x ds M => match ds with
  | [] => (mlOf x M).bind fun l => some (.non, M.set l.1 (.lst l.2.reverse))
  | _ => none
section
variable {K : PySem.W.Frag} {W : Wo} {M : Mem}
theorem ml_ok {x : D} {v : V} {n : Nat} {xs : List D} (sr : SR K W M) (h : Rp K W x v) (e : mlOf x M = some (n, xs)) : ∃ a vs, v = .ref a ∧ W.as[n]? = some a ∧ W.H a = some (.lst vs) ∧ RpL K W xs vs ∧ vs.length ≤ LINE := by
  cases x with
  | ref m =>
    obtain ⟨a, h1, e1⟩ := h
    obtain ⟨mo, h2, q⟩ := sr.at_ h1
    cases mo with
    | lst ys =>
      have e' : (match M[m]? with | some (.lst xs) => some (m, xs) | _ => none) = some (n, xs) := e
      rw [h2] at e'
      cases e'
      obtain ⟨vs, q1, q2⟩ := q
      exact ⟨a, vs, e1, h1, q1.1, q2, q1.2⟩
    | dct _ _ =>
      have e' : (match M[m]? with | some (.lst xs) => some (m, xs) | _ => none) = some (n, xs) := e
      rw [h2] at e'
      cases e'
    | lck _ _ _ =>
      have e' : (match M[m]? with | some (.lst xs) => some (m, xs) | _ => none) = some (n, xs) := e
      rw [h2] at e'
      cases e'
  | _ => cases e
theorem o_append : OpM K rAppend gAppend := by
  intro W M M' x d ds v vs Q sr rx r hg k
  unfold gAppend at hg
  split at hg
  · obtain ⟨⟨n, xs⟩, hl, hg⟩ := Option.bind_eq_some_iff.mp hg
    split at hg
    · rename_i hz
      cases hg
      obtain ⟨u, rfl, r1⟩ := rl1 r
      obtain ⟨a, ws, rfl, ha, hH, rw_, hlen⟩ := ml_ok sr rx hl
      refine ⟨a, ws, u, rfl, rfl, hH, by rw [line_eq, ← rw_.len]; exact hz, ?_⟩
      exact k _ _ (Ext.wr (List.mem_of_getElem? ha)) (sr.wr ha (rw_.append (.one r1)) (by
        rw [List.length_append, List.length_singleton, ← rw_.len]; exact hz)) rfl
    · cases hg
  · cases hg
theorem RpL.dropLast {xs : List D} {vs : List V} (h : RpL K W xs vs) : RpL K W xs.dropLast vs.dropLast := by
  rw [List.dropLast_eq_take, List.dropLast_eq_take, h.len]
  exact h.take _
theorem o_pop : OpM K rPop gPop := by
  intro W M M' x d ds v vs Q sr rx r hg k
  unfold gPop at hg
  split at hg
  · obtain ⟨⟨n, xs⟩, hl, hg⟩ := Option.bind_eq_some_iff.mp hg
    obtain ⟨y, hy, hg⟩ := Option.bind_eq_some_iff.mp hg
    cases hg
    cases (show _ = _ from r)
    obtain ⟨a, ws, rfl, ha, hH, rw_, hlen⟩ := ml_ok sr rx hl
    obtain ⟨z, hz, rz⟩ := rw_.get hy
    have e := Ext.wr (W := W) (o := .lst ws.dropLast) (List.mem_of_getElem? ha)
    exact ⟨a, ws, z, rfl, rfl, hH, by rw [← rw_.len]; exact hz, k _ _ e (sr.wr ha rw_.dropLast (by rw [List.length_dropLast]; omega)) (rz.ext e sr.sub)⟩
  · cases hg
theorem o_reverse : OpM K rReverse gReverse := by
  intro W M M' x d ds v vs Q sr rx r hg k
  unfold gReverse at hg
  split at hg
  · obtain ⟨⟨n, xs⟩, hl, hg⟩ := Option.bind_eq_some_iff.mp hg
    cases hg
    cases (show _ = _ from r)
    obtain ⟨a, ws, rfl, ha, hH, rw_, hlen⟩ := ml_ok sr rx hl
    exact ⟨a, ws, rfl, rfl, hH, k _ _ (Ext.wr (List.mem_of_getElem? ha)) (sr.wr ha rw_.reverse (by rw [List.length_reverse]; exact hlen)) rfl⟩
  · cases hg
end
/-- xs[i] = e -/
def sSetIx (fe fo fi : FE) : FS := fun ρ M => (fe ρ M).bind fun v => (fo ρ v.2).bind fun o => (fi ρ o.2).bind fun i => match i.1 with
  | .int k => (mlOf o.1 i.2).bind fun l => (ixN l.2.length k).bind fun j => some (.nx ρ, i.2.set l.1 (.lst (l.2.set j v.1)))
  | _ => none
theorem pfs_setIx {X : Cx} {e o i : Expr} {fe fo fi : FE} {p pos : Pos} (he : PFE X e fe) (ho : PFE X o fo) (hi : PFE X i fi)
    (ha : ∀ v, assign (.Subscript o i p) X.env v = (do
      let ov ← holding [v] (eval o X.env)
      let iv ← holding [v, ov] (eval i X.env)
      standAt p
      holding [v, ov, iv] (setItem ov iv v)
      release [v, ov, iv] []) := by intro _; rfl)
    (hs : swapsWithSole [.Subscript o i p] e pos.line X.env = pure false := by rfl) (hw : swappedStores [.Subscript o i p] e X.env = pure none := by rfl)
    (h1 : (assignEach [.Subscript o i p] X.env).map (·.2) = [assign (.Subscript o i p) X.env] := by rfl) : PFS X (.Assign [.Subscript o i p] e pos) (sSetIx fe fo fi) :=
  ps_weak (ps_asg he (pg_sub ho hi set_list ha) hs hw h1) fun E σ H => by
    rw [liftS_iff]
    rintro ⟨W, ρ, M, rfl, sr, sl, o', M', hf, k⟩
    obtain ⟨⟨v, M1⟩, hv, hf⟩ := Option.bind_eq_some_iff.mp hf
    obtain ⟨⟨x, M2⟩, hx, hf⟩ := Option.bind_eq_some_iff.mp hf
    obtain ⟨⟨y, M3⟩, hy, hf⟩ := Option.bind_eq_some_iff.mp hf
    dsimp only at hf
    split at hf
    · obtain ⟨⟨n, xs⟩, hl, hf⟩ := Option.bind_eq_some_iff.mp hf
      obtain ⟨j, hj, hf⟩ := Option.bind_eq_some_iff.mp hf
      cases hf
      refine ⟨W, ρ, M, rfl, sr, sl, v, M1, hv, fun W1 vv e1 s1 r1 => ⟨W1, ρ, M1, rfl, s1, sl.ext e1 sr.sub, x, M2, hx, fun W2 ov e2 s2 r2 => ⟨W2, ρ, M2, rfl, s2, sl.ext (e1.trans e2) sr.sub, _, M3, hy, fun W3 iv e3 s3 r3 => ?_⟩⟩⟩
      cases (show _ = _ from r3)
      obtain ⟨a, ws, rfl, ha, hH, rw_, hlen⟩ := ml_ok s3 (r2.ext e3 s2.sub) hl
      have e4 := Ext.wr (W := W3) (o := .lst (ws.set j vv)) (List.mem_of_getElem? ha)
      have e14 := ((e1.trans e2).trans e3).trans e4
      exact ⟨a, ws, _, j, rfl, rfl, hH, by rw [← rw_.len]; exact hj, k _ σ e14 (s3.wr ha (rw_.set j (r1.ext (e2.trans e3) s1.sub)) (by rw [List.length_set]; exact hlen)) (sl.ext e14 sr.sub)⟩
    · cases hf
end PF
namespace PF
open PySem PySem.Spec PyProof.Rows L2
/-- a def of the module that keeps what c says -/
structure Cal (P : Program) (w : World) (K : PySem.W.Frag) (mg : Str → Option Value) (base : Heap) (k : Nat) (x : Str) (c : FnC) (n : Nat) : Prop where
  ex : ∃ (f : Addr) (fd : FuncData) (ps : List Str), mg x = some (.ref f) ∧ PySem.W.keepIn K (.ref f) = true ∧ L2.Binds K fd ps [] ∧ FnOk P w K mg base CX0 k f fd ps (spOf K c n)
section
variable {P : Program} {w : World} {K : PySem.W.Frag} {mg : Str → Option Value} {base : Heap} {k n : Nat} {x : Str} {c c' : FnC} {f : Addr} {fd : FuncData} {ps : List Str}
theorem cal_of (g : mg x = some (.ref f)) (hk : PySem.W.keepIn K (.ref f) = true) (b : L2.Binds K fd ps []) (F : FnOk P w K mg base CX0 k f fd ps (spOf K c n)) : Cal P w K mg base k x c n := ⟨f, fd, ps, g, hk, b, F⟩
theorem cal_none {qual : Str} {params : Arguments} {body : List Stmt} {scope : Scope} (g : mg x = some (.ref f)) (hk : PySem.W.keepIn K (.ref f) = true) (b : L2.Binds K fd ps []) (F : FunD K x qual params body scope [] [] f fd) (h : ∀ ds M, c ds M = none) : Cal P w K mg base k x c n :=
  ⟨f, fd, ps, g, hk, b, ⟨fun vs H Q E ⟨_, W, M, ds, _, _, _, d, M', e, _⟩ => (by rw [h] at e; cases e), fun A outer s H args us vs Q E _ _ _ _ ⟨_, W, M, ds, _, _, _, d, M', e, _⟩ => (by rw [h] at e; cases e)⟩⟩
/-- another function that says the same where it says something -/
theorem Cal.as (C : Cal P w K mg base k x c n) (h : ∀ ds M r, c' ds M = some r → c ds M = some r) : Cal P w K mg base k x c' n :=
  let ⟨f, fd, ps, g, hk, b, F⟩ := C.ex
  ⟨f, fd, ps, g, hk, b, fn_as F h⟩
theorem Cal.mono {k' : Nat} (C : Cal P w K mg base k x c n) (h : k ≤ k') : Cal P w K mg base k' x c n :=
  let ⟨f, fd, ps, g, hk, b, F⟩ := C.ex
  ⟨f, fd, ps, g, hk, b, F.mono h⟩
end
section
variable {X : Cx} {k n : Nat} {c : FnC} {x : Str} {p pos : Pos} {e : Expr} {es : List Expr} {fa : FA}
theorem pf_callC (C : Cal X.prog X.w X.K X.mg X.base k x c (es.length + 1)) (hr : Room k X.A) (hg : Gl X x) (ha : PFA X (e :: es) fa)
    (hlen : ∀ ρ M r, fa ρ M = some r → r.1.length = es.length + 1) (hdb : (x == ("__debug__" : Str)) = false := by decide) (he : starEach (e :: es) X.env = (false, eval e X.env) :: starEach es X.env := by rfl) (hpl : (backTo pos (starEach es X.env)).any (·.1) = false := by rfl) :
    PFE X (.Call (.Name x p) (e :: es) [] pos) (fCall c fa) :=
  let ⟨_, _, _, g, hk, b, F⟩ := C.ex
  pf_call F hr hg g hk b ha rfl hlen hdb he hpl
theorem pf_callCS (i : Nat) (C : Cal X.prog X.w X.K X.mg X.base k x c (es.length + 1)) (hr : Room k X.A) (hg : Gl X x) (ha : PFA X (e :: es) fa)
    (hlen : ∀ ρ M r, fa ρ M = some r → r.1.length = es.length + 1) (hdb : (x == ("__debug__" : Str)) = false := by decide) (he : starEach (e :: es) X.env = (false, eval e X.env) :: starEach es X.env := by rfl) (hpl : (backTo pos (starEach es X.env)).any (·.1) = false := by rfl) :
    PFE X (.Call (.Name x p) (e :: es) [] pos) (fCallS i c fa) :=
  let ⟨_, _, _, g, hk, b, F⟩ := C.ex
  pf_callS i F hr hg g hk b ha rfl hlen hdb he hpl
end
/-- the built-ins are the built-ins -/
structure Bn (mg : Str → Option Value) : Prop where
  len : mg "len" = none
  int : mg "int" = none
  abs : mg "abs" = none
  tuple : mg "tuple" = none
  list : mg "list" = none
  range : mg "range" = none
  isinstance : mg "isinstance" = none
  bool : mg "bool" = none
  str : mg "str" = none
  min : mg "min" = none
  max : mg "max" = none
  sum : mg "sum" = none
  sorted : mg "sorted" = none
  any : mg "any" = none
  all : mg "all" = none
  set : mg "set" = none
  dict : mg "dict" = none
  type : mg "type" = none
def bnNames : List Str := ["len", "int", "abs", "tuple", "list", "range", "isinstance", "bool", "str", "min", "max", "sum", "sorted", "any", "all", "set", "dict", "type"]
theorem bn_of {mg : Str → Option Value} (h : ∀ (i : Nat) (x : Str), bnNames[i]? = some x → mg x = none) : Bn mg :=
  ⟨h 0 _ rfl, h 1 _ rfl, h 2 _ rfl, h 3 _ rfl, h 4 _ rfl, h 5 _ rfl, h 6 _ rfl, h 7 _ rfl, h 8 _ rfl, h 9 _ rfl, h 10 _ rfl, h 11 _ rfl, h 12 _ rfl, h 13 _ rfl, h 14 _ rfl, h 15 _ rfl, h 16 _ rfl, h 17 _ rfl⟩
/-- the law's own promise, from what it computes of the script -/
def spLaw (K : PySem.W.Frag) : Sp := fun vs H Q _ => ∃ (a : Addr) (ns : List Int), vs = [.ref a] ∧ SqL K H a (ns.map V.int) ∧ Only H ∧ ns.length ≤ 63 ∧ ∀ H', Q (.bl true) H'
theorem rp_ints {K : PySem.W.Frag} {W : Wo} : ∀ ns : List Int, RpL K W (ns.map D.int) (ns.map V.int)
  | [] => rfl
  | n :: ns => ⟨.int n, _, rfl, rfl, rp_ints ns⟩
theorem law_sp {K : PySem.W.Frag} {c : FnC} (h : ∀ ns : List Int, ns.length ≤ 63 → c [.kst (ns.map .int)] [] = some (.bl true, [])) : ∀ vs H Q E, spLaw K vs H Q E → spOf K c 1 vs H Q E := by
  rintro vs H Q E ⟨a, ns, rfl, hS, hO, hl, q⟩
  refine ⟨rfl, ⟨[], fun _ => False, H⟩, [], [.kst (ns.map .int)], rfl, ⟨rfl, List.nodup_nil, fun _ z => by simp at z, fun _ z => z.elim, fun n a mo z => by simp at z⟩, ⟨_, _, rfl, ⟨a, ns.map V.int, rfl, ⟨?_, by rw [List.length_map]; show ns.length ≤ 16777216; omega⟩, rp_ints ns⟩, rfl⟩, .bl true, [], h ns hl, fun W' v _ _ r => ?_⟩
  · rcases hS with (hS | ⟨o, hS⟩) | hS
    · rcases hO a with z | ⟨o, xs, z⟩
      · rw [hS] at z; cases z
      · rw [hS] at z; cases z
    · exact .inl ⟨⟨o, hS⟩, fun z => z⟩
    · exact .inr (.inr hS)
  · cases (show _ = _ from r)
    exact q W'.H
end PF
namespace PF
open PySem PySem.Spec PyProof.Rows L2
/-- names that stand for built-in functions of modules -/
def impB (im : List (Str × String)) (K : PySem.W.Frag) : Bool := im.all fun q => He.eqO (PySem.W.nsIn K mainGlobals q.1) (some (some (.builtin q.2)))
def seeX (im : List (Str × String)) (fa : List He.Fa) (fn : List He.DefD) (K : PySem.W.Frag) : Bool × He.AlD := (impB im K, He.obsD fa fn K)
def obX (n : Nat) (im : List (Str × String)) (fa : List He.Fa) (fn : List He.DefD) (g : Addr → Option Obj) : Bool × He.AlD := seeX im fa fn (He.frG g (He.asD g n))
def SaysX (im : List (Str × String)) (fa : List He.Fa) (fn : List He.DefD) (K : PySem.W.Frag) : Prop := seeX im fa fn K = (true, He.valD fn)
def hkX (n : Nat) (im : List (Str × String)) (fa : List He.Fa) (fn : List He.DefD) : PySem.W.Hook where
  α := Bool × He.AlD
  obs := fun t => obX n im fa fn t.heap.get?
  val := fun _ => (true, He.valD fn)
  says := fun _ h => ∃ K : PySem.W.Frag, K.In h ∧ SaysX im fa fn K
  of := fun _ _ e => ⟨_, He.frG_in, e⟩
  keeps := fun _ _ _ ⟨K, hK, c⟩ k => ⟨K, PySem.W.Frag.In.keeps hK k, c⟩
theorem obX_eq {n : Nat} {im : List (Str × String)} {fa : List He.Fa} {fn : List He.DefD} {g : Addr → Option Obj} {s : Shared} (h : ∀ a, g a = s.heap.get? a) : obX n im fa fn g = (hkX n im fa fn).obs s := by
  rw [show g = s.heap.get? from funext h]; rfl
section
variable {im : List (Str × String)} {fa : List He.Fa} {fn : List He.DefD} {K : PySem.W.Frag}
theorem SaysX.d (c : SaysX im fa fn K) : He.SaysD fa fn K := congrArg (fun z : Bool × He.AlD => z.2) c
theorem SaysX.imp (c : SaysX im fa fn K) {h : Heap} {mg : Str → Option Value} (X : K.In h) (G : h.Ns mainGlobals mg) (i : Nat) {x : Str} {b : String} (e : im[i]? = some (x, b)) : mg x = some (.builtin b) := by
  have c1 : impB im K = true := congrArg (fun z : Bool × He.AlD => z.1) c
  exact PySem.W.mg_of X G (He.eqO_ok (List.all_eq_true.mp c1 _ (List.mem_of_getElem? e)))
end
/-- the function objects, from names -/
theorem fun_at {h : Heap} {mg : Str → Option Value} {K : PySem.W.Frag} (X : K.In h) (G : h.Ns mainGlobals mg) {im : List (Str × String)} {fa : List He.Fa} {fn : List He.DefD} (c : SaysX im fa fn K) (i : Nat) {x : Str} (e : fa[i]? = some (He.Fa.glo x)) : mg x = some (.ref (He.ga K x)) := He.glo_ok X G (c.d.fact i e)
theorem bn_at {h : Heap} {mg : Str → Option Value} {K : PySem.W.Frag} (X : K.In h) (G : h.Ns mainGlobals mg) {im : List (Str × String)} {fa : List He.Fa} {fn : List He.DefD} (c : SaysX im fa fn K) (e : ∀ (i : Nat) (x : Str), bnNames[i]? = some x → fa[i]? = some (He.Fa.free x)) : Bn mg :=
  bn_of fun i x q => He.free_ok X G (c.d.fact i (e i x q))
end PF
namespace PF
open PySem PySem.Spec PyProof.Rows L2
/-! xs.pop(i) -/
def gPop1 : GM := fun x ds M => match ds with
  | [.int i] => (mlOf x M).bind fun l => (ixN l.2.length i).bind fun k => (l.2[k]?).bind fun d => some (d, M.set l.1 (.lst (l.2.eraseIdx k)))
  | _ => none
section
variable {K : PySem.W.Frag} {W : Wo} {M : Mem}
theorem RpL.eraseIdx {xs : List D} {vs : List V} (h : RpL K W xs vs) (k : Nat) : RpL K W (xs.eraseIdx k) (vs.eraseIdx k) := by
  rw [List.eraseIdx_eq_take_drop_succ, List.eraseIdx_eq_take_drop_succ]
  exact (h.take k).append (h.drop (k + 1))
theorem o_pop1 : OpM K rPopAt gPop1 := by
  intro W M M' x d ds v vs Q sr rx r hg k
  unfold gPop1 at hg
  split at hg
  · rename_i i
    obtain ⟨⟨n, xs⟩, hl, hg⟩ := Option.bind_eq_some_iff.mp hg
    obtain ⟨j, hj, hg⟩ := Option.bind_eq_some_iff.mp hg
    obtain ⟨y, hy, hg⟩ := Option.bind_eq_some_iff.mp hg
    cases hg
    obtain ⟨u, rfl, r1⟩ := rl1 r
    cases (show _ = _ from r1)
    obtain ⟨a, ws, rfl, ha, hH, rw_, hlen⟩ := ml_ok sr rx hl
    obtain ⟨z, hz, rz⟩ := rw_.get hy
    obtain ⟨q1, q2, q3, q4⟩ := ixN_seq hj
    have hL : ws.length ≤ 16777216 := hlen
    have el : xs.length = ws.length := rw_.len
    have q3' : -(ws.length : Int) ≤ i := by rw [← el]; exact q3
    have q4' : i < (ws.length : Int) := by rw [← el]; exact q4
    have e := Ext.wr (W := W) (o := .lst (ws.eraseIdx j)) (List.mem_of_getElem? ha)
    refine ⟨a, ws, _, j, z, rfl, rfl, hH, by omega, by omega, by rw [← el]; exact q1, hz, ?_⟩
    exact k _ _ e (sr.wr ha (rw_.eraseIdx j) (Nat.le_trans (List.length_eraseIdx_le ws j) hlen)) (rz.ext e sr.sub)
  · cases hg
end
/-! a + b of lists, as a new list -/
def gCat : D → D → Mem → Option (List D) := fun x y M => match ltOf x M, ltOf y M with
  | some a, some b => if a.length + b.length ≤ LINE then some (a ++ b) else none
  | _, _ => none
def f2N (g : D → D → Mem → Option (List D)) (fa fb : FE) : FA := fun ρ M => (fa ρ M).bind fun a => (fb ρ a.2).bind fun b => (g a.1 b.1 b.2).bind fun d => some (d, b.2)
theorem pfn_cat {X : Cx} {a b : Expr} {fa fb : FE} {pos : Pos} (ha : PFE X a fa) (hb : PFE X b fb) : PFN X (.BinOp a .Add b pos) (f2N gCat fa fb) := pe_weak (pe_op op_cat ha hb) fun σ H Q => by
  rintro ⟨W, ρ, M, rfl, sr, sl, d, M', hf, k⟩
  obtain ⟨⟨x, M1⟩, hx, hf⟩ := Option.bind_eq_some_iff.mp hf
  obtain ⟨⟨y, M2⟩, hy, hf⟩ := Option.bind_eq_some_iff.mp hf
  obtain ⟨z, hz, hf⟩ := Option.bind_eq_some_iff.mp hf
  cases hf
  refine ⟨W, ρ, M, rfl, sr, sl, x, M1, hx, fun W1 v e1 s1 r1 => ⟨W1, ρ, M1, rfl, s1, sl.ext e1 sr.sub, y, _, hy, fun W2 u e2 s2 r2 => ?_⟩⟩
  unfold gCat at hz
  split at hz
  · rename_i p q hp hq
    split at hz
    · rename_i hl
      cases hz
      obtain ⟨p1, vs, rfl, h1, t1⟩ := lt_sq s2 (r1.ext e2 s1.sub) hp
      obtain ⟨q1, us, rfl, h2, t2⟩ := lt_sq s2 r2 hq
      exact ⟨p1, q1, vs, us, rfl, rfl, h1, h2, by rw [line_eq, ← t1.len, ← t2.len]; exact hl, fun t nt => k W2 t _ (e1.trans e2) s2 nt (t1.append t2) (by rw [List.length_append, ← t1.len, ← t2.len]; exact hl)⟩
    · cases hz
  · cases hz
end PF
namespace PF
open PySem PySem.Spec PyProof.Rows L2
/-! sums -/
def intsOf : List D → Option (List Int)
  | [] => some []
  | .int i :: r => (intsOf r).map (i :: ·)
  | _ => none
theorem intsOf_ok {K : PySem.W.Frag} {W : Wo} : ∀ {xs : List D} {ns : List Int} {vs : List V}, intsOf xs = some ns → RpL K W xs vs → vs = ns.map V.int
  | [], ns, vs, e, r => by
    cases (show some [] = some ns from e)
    cases (show _ = _ from r); rfl
  | .int i :: xs, ns, vs, e, r => by
    obtain ⟨ms, h1, rfl⟩ := Option.map_eq_some_iff.mp (show (intsOf xs).map (i :: ·) = some ns from e)
    obtain ⟨v, us, rfl, r1, r2⟩ := r
    cases (show _ = _ from r1)
    rw [intsOf_ok h1 r2]; rfl
  | .non :: _, _, _, e, _ => nomatch (show (none : Option (List Int)) = some _ from e)
  | .bl _ :: _, _, _, e, _ => nomatch (show (none : Option (List Int)) = some _ from e)
  | .str _ :: _, _, _, e, _ => nomatch (show (none : Option (List Int)) = some _ from e)
  | .tup _ :: _, _, _, e, _ => nomatch (show (none : Option (List Int)) = some _ from e)
  | .lst _ :: _, _, _, e, _ => nomatch (show (none : Option (List Int)) = some _ from e)
  | .kst _ :: _, _, _, e, _ => nomatch (show (none : Option (List Int)) = some _ from e)
  | .ref _ :: _, _, _, e, _ => nomatch (show (none : Option (List Int)) = some _ from e)
  | .dct _ _ :: _, _, _, e, _ => nomatch (show (none : Option (List Int)) = some _ from e)
def gSum : GN := fun ds M => match ds with
  | [d] => (lsOf d M).bind fun xs => (intsOf xs).map fun ns => .int ns.sum
  | _ => none
theorem o_sum {K : PySem.W.Frag} : OpN K (rSum K) gSum := by
  intro W M ds d vs Q sr r hg k
  unfold gSum at hg
  split at hg
  · obtain ⟨xs, hx, hg⟩ := Option.bind_eq_some_iff.mp hg
    obtain ⟨ns, hn, hg⟩ := Option.map_eq_some_iff.mp hg
    subst hg
    obtain ⟨v, rfl, r1⟩ := rl1 r
    obtain ⟨p, us, rfl, h1, r2⟩ := ls_sq sr r1 hx
    refine ⟨p, ns, rfl, ?_, k W _ (.refl W) sr rfl⟩
    rw [← intsOf_ok hn r2]
    exact h1
  · cases hg
/-! x += y of ints -/
def gIAdd : G2M := fun x y M => match x, y with
  | .int i, .int j => some (.int (i + j), M)
  | _, _ => none
theorem o_iadd {K : PySem.W.Frag} : Op2M K (rI0 fun i j => .int (i + j)) gIAdd := by
  intro W M M' x y d v u Q sr rx ry hg k
  unfold gIAdd at hg
  split at hg
  · cases hg
    cases (show _ = _ from rx); cases (show _ = _ from ry)
    exact ⟨_, _, rfl, rfl, k W _ (.refl W) sr rfl⟩
  · cases hg
/-! the least and the greatest of a list of alike data -/
def rMinDt (K : PySem.W.Frag) : List V → Hp → VK → Prop := fun vs H Q => ∃ (a : Addr) (ys : List V) (d : PyData) (ds : List PyData), vs = [V.ref a] ∧ (SqL K H a ys ∨ SqT K H a ys) ∧ DpAll K H ys (d :: ds) ∧ PyData.canLayAll0 (d :: ds) = true ∧ PySem.W.AlikeAll (d :: ds) ∧ PyData.depthAll (d :: ds) ≤ 60 ∧
  ∀ (i : Nat) (v : V), ys[i]? = some v → (d :: ds)[i]? = some (PySem.W.minD d ds) → Q v H
theorem cr_minDt {X : Cx} (hc : X.calm = true) (hu : X.A.units + 64 < cLine) : CallR X (.builtin "min") (rMinDt X.K) := by
  intro pins s σ H vs us Q I r h
  obtain ⟨a, ys, d, ds, rfl, hs, hd, hl0, hal, hdp, q⟩ := h
  rcases hs with hs | hs
  · obtain ⟨its, rv, hl, _⟩ := I.list hs
    rw [Vals.ref1 r]
    obtain ⟨as, hr⟩ := Dp.readsAll I (d :: ds) ys its hd rv
    refine PySem.W.min_list_data (I.ok.hd hc) hl.isList hr hal (by omega) fun i v h' tk bs hv hrd hk => ?_
    have hv' : its[i]? = some v := by simpa using hv
    have hlen := rv.length
    have hi : i < ys.length := by
      have := (List.getElem?_eq_some_iff.mp hv').1
      omega
    obtain ⟨u, hu1, ry⟩ := rv.get (List.getElem?_eq_getElem hi)
    have euv : u = v := Option.some.inj (hu1.symm.trans hv')
    subst euv
    refine ⟨ys[i], H, I.kept hk, ry, q i _ (List.getElem?_eq_getElem hi) ?_⟩
    obtain ⟨bs2, r2, hlt, hmem, _⟩ := PySem.W.readsAll_at hr i u hv'
    have r3 := PySem.W.reads_keeps hk r2
    have can : ∀ (l : List PyData) (z : PyData), PyData.canLayAll0 l = true → z ∈ l → z.canLay0 = true := by
      intro l
      induction l with
      | nil => intro z _ hz; cases hz
      | cons x l ih =>
        intro z hc hz
        have hc' : (x.canLay0 && PyData.canLayAll0 l) = true := by simpa [PyData.canLayAll0] using hc
        rw [Bool.and_eq_true] at hc'
        rcases List.mem_cons.mp hz with rfl | hz
        · exact hc'.1
        · exact ih z hc'.2 hz
    have c1 := can _ _ hl0 hmem
    have e2 := SeqAt.readOf_eq c1 r3
    have hmm : PySem.W.minD d ds ∈ d :: ds := by
      have : ∀ (l : List PyData) (x : PyData), l.foldl (fun a y => if PySem.W.dataLt y a then y else a) x = x ∨ l.foldl (fun a y => if PySem.W.dataLt y a then y else a) x ∈ l := by
        intro l
        induction l with
        | nil => intro x; exact .inl rfl
        | cons y l ih =>
          intro x
          rw [List.foldl_cons]
          rcases ih (if PySem.W.dataLt y x then y else x) with h | h
          · split at h
            · exact .inr (by rw [if_pos (by assumption), h]; exact List.mem_cons_self)
            · rw [if_neg (by assumption)]; exact .inl h
          · exact .inr (List.mem_cons_of_mem _ h)
      unfold PySem.W.minD
      rcases this ds d with h | h
      · rw [h]; exact List.mem_cons_self
      · exact List.mem_cons_of_mem _ h
    have e3 := SeqAt.readOf_eq (can _ _ hl0 hmm) hrd
    rw [e2] at e3
    rw [← e3, List.getElem?_eq_getElem hlt]
    rw [List.getD_eq_getElem?_getD, List.getElem?_eq_getElem hlt]
    rfl
  · obtain ⟨its, rv, hl, _⟩ := I.tuple hs
    rw [Vals.ref1 r]
    obtain ⟨as, hr⟩ := Dp.readsAll I (d :: ds) ys its hd rv
    refine PySem.W.min_tuple_data (I.ok.hd hc) hl hr hal (by omega) fun i v h' tk bs hv hrd hk => ?_
    have hv' : its[i]? = some v := by simpa using hv
    have hlen := rv.length
    have hi : i < ys.length := by
      have := (List.getElem?_eq_some_iff.mp hv').1
      omega
    obtain ⟨u, hu1, ry⟩ := rv.get (List.getElem?_eq_getElem hi)
    have euv : u = v := Option.some.inj (hu1.symm.trans hv')
    subst euv
    refine ⟨ys[i], H, I.kept hk, ry, q i _ (List.getElem?_eq_getElem hi) ?_⟩
    obtain ⟨bs2, r2, hlt, hmem, _⟩ := PySem.W.readsAll_at hr i u hv'
    have r3 := PySem.W.reads_keeps hk r2
    have can : ∀ (l : List PyData) (z : PyData), PyData.canLayAll0 l = true → z ∈ l → z.canLay0 = true := by
      intro l
      induction l with
      | nil => intro z _ hz; cases hz
      | cons x l ih =>
        intro z hc hz
        have hc' : (x.canLay0 && PyData.canLayAll0 l) = true := by simpa [PyData.canLayAll0] using hc
        rw [Bool.and_eq_true] at hc'
        rcases List.mem_cons.mp hz with rfl | hz
        · exact hc'.1
        · exact ih z hc'.2 hz
    have c1 := can _ _ hl0 hmem
    have e2 := SeqAt.readOf_eq c1 r3
    have hmm : PySem.W.minD d ds ∈ d :: ds := by
      have : ∀ (l : List PyData) (x : PyData), l.foldl (fun a y => if PySem.W.dataLt y a then y else a) x = x ∨ l.foldl (fun a y => if PySem.W.dataLt y a then y else a) x ∈ l := by
        intro l
        induction l with
        | nil => intro x; exact .inl rfl
        | cons y l ih =>
          intro x
          rw [List.foldl_cons]
          rcases ih (if PySem.W.dataLt y x then y else x) with h | h
          · split at h
            · exact .inr (by rw [if_pos (by assumption), h]; exact List.mem_cons_self)
            · rw [if_neg (by assumption)]; exact .inl h
          · exact .inr (List.mem_cons_of_mem _ h)
      unfold PySem.W.minD
      rcases this ds d with h | h
      · rw [h]; exact List.mem_cons_self
      · exact List.mem_cons_of_mem _ h
    have e3 := SeqAt.readOf_eq (can _ _ hl0 hmm) hrd
    rw [e2] at e3
    rw [← e3, List.getElem?_eq_getElem hlt]
    rw [List.getD_eq_getElem?_getD, List.getElem?_eq_getElem hlt]
    rfl
mutual
theorem py_inj : ∀ (a b : D), a.nl = true → b.nl = true → a.py = b.py → a = b
  | .non, b, _, hb, e => by cases b <;> simp [D.py, D.nl] at e hb ⊢
  | .bl x, b, _, hb, e => by cases b <;> simp [D.py, D.nl] at e hb ⊢; exact e
  | .int x, b, _, hb, e => by cases b <;> simp [D.py, D.nl] at e hb ⊢; exact e
  | .str x, b, _, hb, e => by cases b <;> simp [D.py, D.nl] at e hb ⊢; exact e
  | .tup xs, b, ha, hb, e => by
    cases b with
    | tup ys =>
      rw [D.nl] at ha hb
      rw [D.py, D.py] at e
      rw [pys_inj xs ys ha hb (by injection e)]
    | _ => simp [D.py, D.nl] at e hb
  | .lst _, _, ha, _, _ => by simp [D.nl] at ha
  | .kst _, _, ha, _, _ => by simp [D.nl] at ha
  | .ref _, _, ha, _, _ => by simp [D.nl] at ha
  | .dct _ _, _, ha, _, _ => by simp [D.nl] at ha
theorem pys_inj : ∀ (a b : List D), D.nls a = true → D.nls b = true → D.pys a = D.pys b → a = b
  | [], [], _, _, _ => rfl
  | [], y :: ys, _, _, e => by simp [D.pys] at e
  | x :: xs, [], _, _, e => by simp [D.pys] at e
  | x :: xs, y :: ys, ha, hb, e => by
    rw [D.nls, Bool.and_eq_true] at ha hb
    rw [D.pys, D.pys] at e
    injection e with e1 e2
    rw [py_inj x y ha.1 hb.1 e1, pys_inj xs ys ha.2 hb.2 e2]
end
theorem pys_at : ∀ {xs : List D} {i : Nat} {z : PyData}, (D.pys xs)[i]? = some z → ∃ d, xs[i]? = some d ∧ d.py = z
  | [], i, z, h => by simp [D.pys] at h
  | x :: xs, 0, z, h => by rw [D.pys] at h; simp at h; exact ⟨x, rfl, h⟩
  | x :: xs, i + 1, z, h => by
    rw [D.pys] at h
    obtain ⟨d, h1, h2⟩ := pys_at (xs := xs) (i := i) (by simpa using h)
    exact ⟨d, by simpa using h1, h2⟩
theorem pys_mem : ∀ {xs : List D} {z : PyData}, z ∈ D.pys xs → ∃ d, d ∈ xs ∧ d.py = z
  | [], z, h => by simp [D.pys] at h
  | x :: xs, z, h => by
    rw [D.pys] at h
    rcases List.mem_cons.mp h with rfl | h
    · exact ⟨x, by simp, rfl⟩
    · obtain ⟨d, h1, h2⟩ := pys_mem h
      exact ⟨d, List.mem_cons_of_mem _ h1, h2⟩
theorem nls_at : ∀ {xs : List D} {d : D}, D.nls xs = true → d ∈ xs → d.nl = true
  | x :: xs, d, h, hd => by
    rw [D.nls, Bool.and_eq_true] at h
    rcases List.mem_cons.mp hd with rfl | hd
    · exact h.1
    · exact nls_at h.2 hd
/-- min of x :: xs -/
def minDd (x : D) (xs : List D) : D := xs.foldl (fun a y => if PySem.W.dataLt y.py a.py = true then y else a) x
def okAl (l : List D) : Bool := (D.nls l && D.dps 59 l) && ((l.all fun a => l.all fun b => PySem.W.alike a.py b.py) && l.all fun a => !isNn a)
theorem minDd_py : ∀ (xs : List D) (x : D), (minDd x xs).py = PySem.W.minD x.py (D.pys xs)
  | [], x => by rw [D.pys]; rfl
  | y :: xs, x => by
    rw [D.pys]
    show (minDd (if PySem.W.dataLt y.py x.py = true then y else x) xs).py = PySem.W.minD (if PySem.W.dataLt y.py x.py then y.py else x.py) (D.pys xs)
    rw [minDd_py xs]
    split <;> rfl
theorem minDd_mem : ∀ (xs : List D) (x : D), minDd x xs ∈ x :: xs
  | [], x => by simp [minDd]
  | y :: xs, x => by
    show minDd (if PySem.W.dataLt y.py x.py = true then y else x) xs ∈ _
    have := minDd_mem xs (if PySem.W.dataLt y.py x.py = true then y else x)
    rcases List.mem_cons.mp this with h | h
    · rw [h]; split <;> simp
    · exact List.mem_cons_of_mem _ (List.mem_cons_of_mem _ h)
def gMin1 : GN := fun ds M => match ds with
  | [d] => (sqOf d M).bind fun l => match l with
    | x :: xs => if okAl (x :: xs) = true then some (minDd x xs) else none
    | [] => none
  | _ => none
theorem o_min1 {K : PySem.W.Frag} : OpN K (rMinDt K) gMin1 := by
  intro W M ds d vs Q sr r hg k
  unfold gMin1 at hg
  split at hg
  · obtain ⟨l, hx, hg⟩ := Option.bind_eq_some_iff.mp hg
    split at hg
    · rename_i x xs
      split at hg
      · rename_i ok
        cases hg
        unfold okAl at ok
        rw [Bool.and_eq_true, Bool.and_eq_true, Bool.and_eq_true] at ok
        obtain ⟨⟨o1, o2⟩, o3, o4⟩ := ok
        obtain ⟨v, rfl, r1⟩ := rl1 r
        obtain ⟨p, us, rfl, h1, r2⟩ := sq_sq sr r1 hx
        have hdp := dp_Dps 59 (x :: xs) us o2 r2
        obtain ⟨q1, q2⟩ := dps_can 59 (x :: xs) o2
        rw [D.pys] at hdp q1 q2
        refine ⟨p, us, x.py, D.pys xs, rfl, h1, hdp, q1, ⟨fun a ha b hb => ?_, fun a ha => ?_⟩, by omega, fun i v hv hi => ?_⟩
        · obtain ⟨a0, ha0, rfl⟩ := pys_mem (xs := x :: xs) (by rw [D.pys]; exact ha)
          obtain ⟨b0, hb0, rfl⟩ := pys_mem (xs := x :: xs) (by rw [D.pys]; exact hb)
          exact List.all_eq_true.mp (List.all_eq_true.mp o3 a0 ha0) b0 hb0
        · obtain ⟨a0, ha0, rfl⟩ := pys_mem (xs := x :: xs) (by rw [D.pys]; exact ha)
          have h4 := List.all_eq_true.mp o4 a0 ha0
          have h5 := nls_at o1 ha0
          cases a0 <;> simp [isNn, D.py, D.nl] at h4 h5 ⊢
        · obtain ⟨z, hz, hzp⟩ := pys_at (xs := x :: xs) (i := i) (by rw [D.pys]; exact hi)
          have hm := minDd_mem xs x
          have e : z = minDd x xs := py_inj _ _ (nls_at o1 (List.mem_of_getElem? hz)) (nls_at o1 hm) (by rw [hzp, minDd_py])
          obtain ⟨v', hv', rz⟩ := r2.get hz
          have : v' = v := Option.some.inj (hv'.symm.trans hv)
          subst this
          rw [← e] at k
          exact k W v' (.refl W) sr rz
      · cases hg
    · cases hg
  · cases hg
/-! xs.index(y) -/
def findI {α : Type} (p : α → Bool) : List α → Option Nat
  | [] => none
  | x :: xs => if p x = true then some 0 else (findI p xs).map (· + 1)
def gIndex : GM := fun x ds M => match ds with
  | [.int y] => match x with
    | .lst xs => (intsOf xs).bind fun ns => (findI (fun z => decide (z = y)) ns).map fun (j : Nat) => (.int (j : Int), M)
    | _ => none
  | _ => none
theorem findI_ok {α : Type} {p : α → Bool} : ∀ {xs : List α} {j : Nat}, findI p xs = some j → ∃ z, xs[j]? = some z ∧ p z = true ∧ ∀ m z', m < j → xs[m]? = some z' → p z' = false
  | [], j, h => by cases h
  | x :: xs, j, h => by
    rw [findI] at h
    split at h
    · rename_i hp
      cases h
      exact ⟨x, rfl, hp, fun m z' hm => absurd hm (Nat.not_lt_zero _)⟩
    · rename_i hp
      obtain ⟨i, hi, rfl⟩ := Option.map_eq_some_iff.mp h
      obtain ⟨z, h1, h2, h3⟩ := findI_ok hi
      refine ⟨z, by simpa using h1, h2, fun m z' hm hz => ?_⟩
      cases m with
      | zero => simp at hz; subst hz; simpa using hp
      | succ m => exact h3 m z' (by omega) (by simpa using hz)
theorem pys_get : ∀ {xs : List D} {i : Nat} {d : D}, xs[i]? = some d → (D.pys xs)[i]? = some d.py
  | [], i, d, h => by simp at h
  | x :: xs, 0, d, h => by simp at h; subst h; rw [D.pys]; rfl
  | x :: xs, i + 1, d, h => by rw [D.pys]; simpa using pys_get (xs := xs) (i := i) (by simpa using h)
theorem o_index {K : PySem.W.Frag} : OpM K (rIndex K) gIndex := by
  intro W M M' x d ds v vs Q sr rx r hg k
  unfold gIndex at hg
  split at hg
  · rename_i y
    split at hg
    · rename_i xs
      obtain ⟨ns, hn, hg⟩ := Option.bind_eq_some_iff.mp hg
      obtain ⟨j, hj, hg⟩ := Option.map_eq_some_iff.mp hg
      cases hg
      obtain ⟨u, rfl, r1⟩ := rl1 r
      cases (show _ = _ from r1)
      obtain ⟨z, h1, h2, h3⟩ := findI_ok hj
      obtain ⟨a, us, rfl, h4, r2⟩ := ls_sq sr rx (xs := xs) rfl
      have eus := intsOf_ok hn r2
      subst eus
      refine ⟨a, _, .int y, j, .int z, rfl, rfl, h4, rfl, ?_, ?_, ?_, fun m z' hm hz => ?_, k W _ (.refl W) sr rfl⟩
      · rw [List.all_map]
        exact List.all_eq_true.mpr fun _ _ => rfl
      · rw [List.getElem?_map, h1]; rfl
      · have : z = y := of_decide_eq_true h2
        subst this
        simp [eqV]
      · rw [List.getElem?_map] at hz
        obtain ⟨i, hi, rfl⟩ := Option.map_eq_some_iff.mp hz
        have := h3 m i hm hi
        have hne : i ≠ y := of_decide_eq_false this
        simp [eqV, hne]
    · cases hg
  · cases hg
end PF
namespace PF
open PySem PySem.Spec PyProof.Rows L2 HT
/-! t += u of tuples -/
theorem noI_tup : typeLookup (.type "tuple") (dunderI "add") = pure none := by
  rw [typeLookup_type]
  rw [builtinLookup_eq_fast]
  kernel_rfl
section
variable {prog : Program} {w : World} {A : Around} {E : Value → Shared → Prop} {s : Shared}
theorem icat {t b : Addr} {vs ws : List Value} {Q : Value → Shared → Prop} (ht : IsTup s.heap t vs.toArray) (hb : IsTup s.heap b ws.toArray) (h0 : vs = [] → Q (.ref b) s)
    (h1 : vs ≠ [] → ws = [] → Q (.ref t) s) (h2 : vs ≠ [] → ws ≠ [] → Q (.ref s.heap.objs.size) { s with heap := s.heap.push { cls := .type "tuple", data := .seq (vs ++ ws).toArray } })
    (hz : vs.length + ws.length ≤ sizeLine) : wpAny (model prog w) A (inplaceOp .Add (.ref t) (.ref b)) Q E s := by
  obtain ⟨⟨c1, d1, x1, s1⟩, o1, hc1, n1, hd1⟩ := id ht
  obtain ⟨⟨c2, d2, x2, s2⟩, o2, hc2, n2, hd2⟩ := id hb
  simp only at hc1 hd1 hc2 hd2
  subst hc1 hd1 hc2 hd2
  refine wpAny_inplaceOp_concat ⟨_, o1, rfl⟩ ⟨_, o2, rfl⟩ noI_tup
    noFill_tuple_add seq_tuple_add ?_
  by_cases hv : vs = []
  · subst hv
    exact call_meets PySem.F.slot_tuple_add ⟨_, o1, rfl⟩ PySem.F.entry_tuple_add
      (PySem.F.args_tuple_add_2 _ _) (tuple_addW0 t b _ ws.toArray n1 n2 d1 d2 s1 s2 (by simp)) ⟨o1, o2, h0 rfl⟩
  · by_cases hw : ws = []
    · exact call_meets PySem.F.slot_tuple_add ⟨_, o1, rfl⟩ PySem.F.entry_tuple_add
        (PySem.F.args_tuple_add_2 _ _) (tuple_addW1 t b vs.toArray ws.toArray n1 n2 d1 d2 s1 s2 (by simpa using hv) (by simp [hw])) ⟨o1, o2, h1 hv hw⟩
    · refine call_meets PySem.F.slot_tuple_add ⟨_, o1, rfl⟩ PySem.F.entry_tuple_add
        (PySem.F.args_tuple_add_2 _ _) (tuple_addW2 t b vs.toArray ws.toArray n1 n2 d1 d2 s1 s2 (by simpa using hv) (by simpa using hw) (by simpa using hz)) ⟨o1, o2, ?_⟩
      have e : vs.toArray ++ ws.toArray = (vs ++ ws).toArray := by simp
      rw [e]
      exact h2 hv hw
end
theorem iop_catA {X : Cx} : OpR X (inplaceOp .Add) (rCatA X.K) := by
  intro pins s σ H x y v u Q I rx ry h
  obtain ⟨a, b, xs, ys, rfl, rfl, ha, hb, hz, q0, q1, q2⟩ := h
  cases rx
  cases ry
  obtain ⟨its, r1, p1, _⟩ := I.tuple ha
  obtain ⟨its2, r2, p2, _⟩ := I.tuple hb
  refine icat p1 p2 (fun z => ⟨.ref b, H, I, rfl, q0 (r1.nil_iff.mp z)⟩) (fun z z2 => ⟨.ref a, H, I, rfl, q1 (fun e => z (r1.nil_iff.mpr e)) (r2.nil_iff.mp z2)⟩) (fun z z2 => ?_) (by rw [← r1.length, ← r2.length]; exact hz)
  refine ⟨.ref s.heap.objs.size, _, I.laid (t' := s.toks) (o := .tup (xs ++ ys)) (fun b ob q => Heap.get?_push_of_some _ q) (Nat.le_refl _) ?_, rfl,
    q2 (fun e => z (r1.nil_iff.mpr e)) (fun e => z2 (r2.nil_iff.mpr e)) _ (I.hok.fresh (Nat.le_refl _))⟩
  exact ⟨by rw [List.length_append]; exact hz, _, r1.append r2,
    IsTup.new _ _⟩
end PF
namespace PF
open PySem PySem.Spec PyProof.Rows L2 HT
/-! x += y: ints, tuples -/
def gIAddA : G2M := fun x y M => match x, y with
  | .int i, .int j => some (.int (i + j), M)
  | .tup a, .tup b => if a.length + b.length ≤ LINE then some (.tup (a ++ b), M) else none
  | _, _ => none
def rIAddA (K : PySem.W.Frag) : R2 := fun x y H Q => rI0 (fun i j => .int (i + j)) x y H Q ∨ rCatA K x y H Q
theorem iop_addA {X : Cx} : OpR X (inplaceOp .Add) (rIAddA X.K) := iop_add.or iop_catA
theorem o_iaddA {K : PySem.W.Frag} : Op2M K (rIAddA K) gIAddA := by
  intro W M M' x y d v u Q sr rx ry hg k
  unfold gIAddA at hg
  split at hg
  · cases hg
    cases (show _ = _ from rx); cases (show _ = _ from ry)
    exact .inl ⟨_, _, rfl, rfl, k W _ (.refl W) sr rfl⟩
  · split at hg
    · rename_i a b hl
      cases hg
      obtain ⟨p, vs, rfl, h1, r1⟩ := tp_sq rx
      obtain ⟨q, us, rfl, h2, r2⟩ := tp_sq ry
      refine .inr ⟨p, q, vs, us, rfl, rfl, h1, h2, by rw [line_eq, ← r1.len, ← r2.len]; exact hl, fun e => ?_, fun _ e => ?_, fun _ _ t nt => ?_⟩
      · subst e
        have : a = [] := List.eq_nil_of_length_eq_zero r1.len
        subst this
        exact k W _ (.refl W) sr ry
      · subst e
        have : b = [] := List.eq_nil_of_length_eq_zero r2.len
        subst this
        exact k W _ (.refl W) sr (by rw [List.append_nil]; exact rx)
      · exact k _ _ (Ext.put nt) (sr.put nt) (.newTup sr nt (r1.append r2) (by rw [List.length_append, ← r1.len, ← r2.len]; exact hl))
    · cases hg
  · cases hg
/-! x in a list, a tuple of ints -/
def gIn : G2B := fun x y M => match x with
  | .int i => (sqOf y M).bind fun xs => (intsOf xs).map fun ns => ns.any fun n => decide (n = i)
  | _ => none
def gNotIn : G2B := fun x y M => (gIn x y M).map (! ·)
section
variable {K : PySem.W.Frag} {W : Wo} {M : Mem}
theorem in_ok {x y : D} {v u : V} {t : Bool} (sr : SR K W M) (rx : Rp K W x v) (ry : Rp K W y u) (h : gIn x y M = some t) :
    ∃ p xs, u = .ref p ∧ (SqL K W.H p xs ∨ SqT K W.H p xs) ∧ flatV v = true ∧ xs.all flatV = true ∧ inV v xs = t := by
  unfold gIn at h
  split at h
  · rename_i i
    cases (show _ = _ from rx)
    obtain ⟨xs, hx, h⟩ := Option.bind_eq_some_iff.mp h
    obtain ⟨ns, hn, h⟩ := Option.map_eq_some_iff.mp h
    subst h
    obtain ⟨p, us, rfl, h1, r2⟩ := sq_sq sr ry hx
    have e := intsOf_ok hn r2
    subst e
    refine ⟨p, _, rfl, h1, rfl, ?_, ?_⟩
    · rw [List.all_map]
      exact List.all_eq_true.mpr fun _ _ => rfl
    · unfold inV
      rw [List.any_map]
      congr 1
  · cases h
theorem o_in : Op2 K (rIn K false) (gB gIn) := by
  intro W M x y d v u Q sr rx ry hg k
  obtain ⟨t, ht, rfl⟩ := Option.map_eq_some_iff.mp hg
  obtain ⟨p, xs, rfl, h1, h2, h3, h4⟩ := in_ok sr rx ry ht
  exact ⟨p, xs, rfl, h1, h2, h3, by
    rw [if_neg Bool.false_ne_true, h4]
    exact k W _ (.refl W) sr rfl⟩
theorem o_notIn : Op2 K (rIn K true) (gB gNotIn) := by
  intro W M x y d v u Q sr rx ry hg k
  obtain ⟨t, ht, rfl⟩ := Option.map_eq_some_iff.mp hg
  obtain ⟨t', ht', rfl⟩ := Option.map_eq_some_iff.mp ht
  obtain ⟨p, xs, rfl, h1, h2, h3, h4⟩ := in_ok sr rx ry ht'
  exact ⟨p, xs, rfl, h1, h2, h3, by
    rw [if_pos rfl, h4]
    exact k W _ (.refl W) sr rfl⟩
end
/-! t * 1 of a tuple is the tuple itself -/
theorem mul_one (l : Addr) (items : Array Value) (n : Nat) (dd : Option Addr) (sl : Array (Option Value)) (u : Tok) :
    Meets (Builtin.«tuple.__mul__» ⟨[.ref l, .int 1 u], []⟩) (fun _ R s => s.heap.get? l = some { cls := .type "tuple", dict := dd, data := .seq items n, slots := sl } ∧ R (.ok (.ret (Value.ref l))) s) :=
  .of_wp fun prog w A R s h => by
    obtain ⟨hp, g, d, tk, os⟩ := s
    obtain ⟨hl, h⟩ := h
    have f1 := AutoSeq1.idx_int
    have c1 : (items.isEmpty || (1 : Int) == 1) = true := by simp
    wp_walk using wpAny_loadPart' hl
    repeat (first
      | (refine wpAny_ite_false (decide_eq_false (by decide)) ?_; wp_walk using wpAny_loadPart' hl)
      | (refine wpAny_ite_true (decide_eq_true (by rw [c1])) ?_; wp_walk using wpAny_loadPart' hl))
    exact ⟨_, rfl, h⟩
def rRep1 (K : PySem.W.Frag) : R2 := fun x y H Q => ∃ l xs, x = .ref l ∧ y = .int 1 ∧ SqT K H l xs ∧ Q (.ref l) H
theorem op_rep1 {X : Cx} : OpR X (binaryOp .Mult) (rRep1 X.K) := by
  intro pins s σ H x y v u Q I rx ry h
  obtain ⟨l, xs, rfl, rfl, hT, q⟩ := h
  cases rx
  obtain ⟨t, rfl⟩ := ry
  obtain ⟨its, r, ⟨⟨c1, d1, x1, s1⟩, ho, hc, n, hd⟩, hs⟩ := I.tuple hT
  simp only at hc hd
  subst hc hd
  exact wpAny_binaryOp_repeat_ref (T := "tuple") (U := "int") (by decide) ⟨_, ho, rfl⟩ (fun s' => typeIs_int s' 1 t)
    noFill_tuple_mul F.fills_int_mul F.slot_int_rmul repeat_tuple F.slot_int_index.lookup
    (call_meets F.slot_int_rmul (typeIs_int s 1 t) F.entry_int_rmul
      (F.args_int_rmul_2 _ _) (int_rmul_tuple 1 t l its.toArray n d1 s1)
      ⟨ho, rfl, ⟨_, ho, rfl⟩, call_meets F.slot_tuple_mul ⟨_, ho, rfl⟩
        F.entry_tuple_mul (F.args_tuple_mul_2 _ _) (mul_one l its.toArray n d1 s1 t) ⟨ho, ⟨.ref l, H, I, rfl, q⟩⟩⟩)
def rRepA (K : PySem.W.Frag) : R2 := fun x y H Q => rRep1 K x y H Q ∨ rRepT K x y H Q
theorem op_repTA {X : Cx} : OpR X (binaryOp .Mult) (rRepA X.K) := op_rep1.or op_repT
def gRepT : G2 := fun x y M => match x, y with
  | .tup xs, .int j => if j = 1 then some (.tup xs) else if (!xs.isEmpty && decide (2 ≤ j)) && (decide (j ≤ 1000) && decide (xs.length ≤ 1000)) then some (.tup (List.replicate j.toNat xs).flatten) else none
  | _, _ => none
theorem o_repT {K : PySem.W.Frag} : Op2 K (rRepA K) gRepT := by
  intro W M x y d v u Q sr rx ry hg k
  unfold gRepT at hg
  split at hg
  · rename_i xs j
    cases (show _ = _ from ry)
    obtain ⟨p, vs, rfl, h1, r1⟩ := tp_sq rx
    split at hg
    · rename_i hj
      cases hg
      subst hj
      exact .inl ⟨p, vs, rfl, rfl, h1, k W _ (.refl W) sr rx⟩
    · split at hg
      · rename_i h
        cases hg
        simp only [Bool.and_eq_true, decide_eq_true_eq] at h
        obtain ⟨⟨h2, h3⟩, h4, h5⟩ := h
        have hl := r1.len
        have hne : vs ≠ [] := by
          rintro rfl
          have : xs = [] := List.eq_nil_of_length_eq_zero hl
          subst this
          cases h2
        refine .inr ⟨p, j, vs, rfl, rfl, h1, hne, h3, h4, by omega, fun t nt => ?_⟩
        refine k _ _ (Ext.put nt) (sr.put nt) (.newTup sr nt (r1.rep _) ?_)
        rw [PyProof.Rows.lm_len_rep_flat]
        have a1 : j.toNat * vs.length ≤ 1000 * 1000 := Nat.mul_le_mul (by omega) (by omega)
        show _ ≤ 16777216
        omega
      · cases hg
  · cases hg
end PF
namespace PF
open PySem PySem.Spec PyProof.Rows L2
/-! the greatest of a list of alike data -/
def rMaxDt (K : PySem.W.Frag) : List V → Hp → VK → Prop := fun vs H Q => ∃ (a : Addr) (ys : List V) (d : PyData) (ds : List PyData), vs = [V.ref a] ∧ (SqL K H a ys ∨ SqT K H a ys) ∧ DpAll K H ys (d :: ds) ∧ PyData.canLayAll0 (d :: ds) = true ∧ PySem.W.AlikeAll (d :: ds) ∧ PyData.depthAll (d :: ds) ≤ 60 ∧
  ∀ (i : Nat) (v : V), ys[i]? = some v → (d :: ds)[i]? = some (PySem.W.maxD d ds) → Q v H
theorem cr_maxDt {X : Cx} (hc : X.calm = true) (hu : X.A.units + 64 < cLine) : CallR X (.builtin "max") (rMaxDt X.K) := by
  intro pins s σ H vs us Q I r h
  obtain ⟨a, ys, d, ds, rfl, hs, hd, hl0, hal, hdp, q⟩ := h
  rcases hs with hs | hs
  · obtain ⟨its, rv, hl, _⟩ := I.list hs
    rw [Vals.ref1 r]
    obtain ⟨as, hr⟩ := Dp.readsAll I (d :: ds) ys its hd rv
    refine PySem.W.max_list_data (I.ok.hd hc) hl.isList hr hal (by omega) fun i v h' tk bs hv hrd hk => ?_
    have hv' : its[i]? = some v := by simpa using hv
    have hlen := rv.length
    have hi : i < ys.length := by
      have := (List.getElem?_eq_some_iff.mp hv').1
      omega
    obtain ⟨u, hu1, ry⟩ := rv.get (List.getElem?_eq_getElem hi)
    have euv : u = v := Option.some.inj (hu1.symm.trans hv')
    subst euv
    refine ⟨ys[i], H, I.kept hk, ry, q i _ (List.getElem?_eq_getElem hi) ?_⟩
    obtain ⟨bs2, r2, hlt, hmem, _⟩ := PySem.W.readsAll_at hr i u hv'
    have r3 := PySem.W.reads_keeps hk r2
    have can : ∀ (l : List PyData) (z : PyData), PyData.canLayAll0 l = true → z ∈ l → z.canLay0 = true := by
      intro l
      induction l with
      | nil => intro z _ hz; cases hz
      | cons x l ih =>
        intro z hc hz
        have hc' : (x.canLay0 && PyData.canLayAll0 l) = true := by simpa [PyData.canLayAll0] using hc
        rw [Bool.and_eq_true] at hc'
        rcases List.mem_cons.mp hz with rfl | hz
        · exact hc'.1
        · exact ih z hc'.2 hz
    have c1 := can _ _ hl0 hmem
    have e2 := SeqAt.readOf_eq c1 r3
    have hmm : PySem.W.maxD d ds ∈ d :: ds := by
      have : ∀ (l : List PyData) (x : PyData), l.foldl (fun a y => if PySem.W.dataLt a y then y else a) x = x ∨ l.foldl (fun a y => if PySem.W.dataLt a y then y else a) x ∈ l := by
        intro l
        induction l with
        | nil => intro x; exact .inl rfl
        | cons y l ih =>
          intro x
          rw [List.foldl_cons]
          rcases ih (if PySem.W.dataLt x y then y else x) with h | h
          · split at h
            · exact .inr (by rw [if_pos (by assumption), h]; exact List.mem_cons_self)
            · rw [if_neg (by assumption)]; exact .inl h
          · exact .inr (List.mem_cons_of_mem _ h)
      unfold PySem.W.maxD
      rcases this ds d with h | h
      · rw [h]; exact List.mem_cons_self
      · exact List.mem_cons_of_mem _ h
    have e3 := SeqAt.readOf_eq (can _ _ hl0 hmm) hrd
    rw [e2] at e3
    rw [← e3, List.getElem?_eq_getElem hlt]
    rw [List.getD_eq_getElem?_getD, List.getElem?_eq_getElem hlt]
    rfl
  · obtain ⟨its, rv, hl, _⟩ := I.tuple hs
    rw [Vals.ref1 r]
    obtain ⟨as, hr⟩ := Dp.readsAll I (d :: ds) ys its hd rv
    refine PySem.W.max_tuple_data (I.ok.hd hc) hl hr hal (by omega) fun i v h' tk bs hv hrd hk => ?_
    have hv' : its[i]? = some v := by simpa using hv
    have hlen := rv.length
    have hi : i < ys.length := by
      have := (List.getElem?_eq_some_iff.mp hv').1
      omega
    obtain ⟨u, hu1, ry⟩ := rv.get (List.getElem?_eq_getElem hi)
    have euv : u = v := Option.some.inj (hu1.symm.trans hv')
    subst euv
    refine ⟨ys[i], H, I.kept hk, ry, q i _ (List.getElem?_eq_getElem hi) ?_⟩
    obtain ⟨bs2, r2, hlt, hmem, _⟩ := PySem.W.readsAll_at hr i u hv'
    have r3 := PySem.W.reads_keeps hk r2
    have can : ∀ (l : List PyData) (z : PyData), PyData.canLayAll0 l = true → z ∈ l → z.canLay0 = true := by
      intro l
      induction l with
      | nil => intro z _ hz; cases hz
      | cons x l ih =>
        intro z hc hz
        have hc' : (x.canLay0 && PyData.canLayAll0 l) = true := by simpa [PyData.canLayAll0] using hc
        rw [Bool.and_eq_true] at hc'
        rcases List.mem_cons.mp hz with rfl | hz
        · exact hc'.1
        · exact ih z hc'.2 hz
    have c1 := can _ _ hl0 hmem
    have e2 := SeqAt.readOf_eq c1 r3
    have hmm : PySem.W.maxD d ds ∈ d :: ds := by
      have : ∀ (l : List PyData) (x : PyData), l.foldl (fun a y => if PySem.W.dataLt a y then y else a) x = x ∨ l.foldl (fun a y => if PySem.W.dataLt a y then y else a) x ∈ l := by
        intro l
        induction l with
        | nil => intro x; exact .inl rfl
        | cons y l ih =>
          intro x
          rw [List.foldl_cons]
          rcases ih (if PySem.W.dataLt x y then y else x) with h | h
          · split at h
            · exact .inr (by rw [if_pos (by assumption), h]; exact List.mem_cons_self)
            · rw [if_neg (by assumption)]; exact .inl h
          · exact .inr (List.mem_cons_of_mem _ h)
      unfold PySem.W.maxD
      rcases this ds d with h | h
      · rw [h]; exact List.mem_cons_self
      · exact List.mem_cons_of_mem _ h
    have e3 := SeqAt.readOf_eq (can _ _ hl0 hmm) hrd
    rw [e2] at e3
    rw [← e3, List.getElem?_eq_getElem hlt]
    rw [List.getD_eq_getElem?_getD, List.getElem?_eq_getElem hlt]
    rfl
/-- max of x :: xs -/
def maxDd (x : D) (xs : List D) : D := xs.foldl (fun a y => if PySem.W.dataLt a.py y.py = true then y else a) x
theorem maxDd_py : ∀ (xs : List D) (x : D), (maxDd x xs).py = PySem.W.maxD x.py (D.pys xs)
  | [], x => by rw [D.pys]; rfl
  | y :: xs, x => by
    rw [D.pys]
    show (maxDd (if PySem.W.dataLt x.py y.py = true then y else x) xs).py = PySem.W.maxD (if PySem.W.dataLt x.py y.py then y.py else x.py) (D.pys xs)
    rw [maxDd_py xs]
    split <;> rfl
theorem maxDd_mem : ∀ (xs : List D) (x : D), maxDd x xs ∈ x :: xs
  | [], x => by simp [maxDd]
  | y :: xs, x => by
    show maxDd (if PySem.W.dataLt x.py y.py = true then y else x) xs ∈ _
    have := maxDd_mem xs (if PySem.W.dataLt x.py y.py = true then y else x)
    rcases List.mem_cons.mp this with h | h
    · rw [h]; split <;> simp
    · exact List.mem_cons_of_mem _ (List.mem_cons_of_mem _ h)
def gMax1 : GN := fun ds M => match ds with
  | [d] => (sqOf d M).bind fun l => match l with
    | x :: xs => if okAl (x :: xs) = true then some (maxDd x xs) else none
    | [] => none
  | _ => none
theorem o_max1 {K : PySem.W.Frag} : OpN K (rMaxDt K) gMax1 := by
  intro W M ds d vs Q sr r hg k
  unfold gMax1 at hg
  split at hg
  · obtain ⟨l, hx, hg⟩ := Option.bind_eq_some_iff.mp hg
    split at hg
    · rename_i x xs
      split at hg
      · rename_i ok
        cases hg
        unfold okAl at ok
        rw [Bool.and_eq_true, Bool.and_eq_true, Bool.and_eq_true] at ok
        obtain ⟨⟨o1, o2⟩, o3, o4⟩ := ok
        obtain ⟨v, rfl, r1⟩ := rl1 r
        obtain ⟨p, us, rfl, h1, r2⟩ := sq_sq sr r1 hx
        have hdp := dp_Dps 59 (x :: xs) us o2 r2
        obtain ⟨q1, q2⟩ := dps_can 59 (x :: xs) o2
        rw [D.pys] at hdp q1 q2
        refine ⟨p, us, x.py, D.pys xs, rfl, h1, hdp, q1, ⟨fun a ha b hb => ?_, fun a ha => ?_⟩, by omega, fun i v hv hi => ?_⟩
        · obtain ⟨a0, ha0, rfl⟩ := pys_mem (xs := x :: xs) (by rw [D.pys]; exact ha)
          obtain ⟨b0, hb0, rfl⟩ := pys_mem (xs := x :: xs) (by rw [D.pys]; exact hb)
          exact List.all_eq_true.mp (List.all_eq_true.mp o3 a0 ha0) b0 hb0
        · obtain ⟨a0, ha0, rfl⟩ := pys_mem (xs := x :: xs) (by rw [D.pys]; exact ha)
          have h4 := List.all_eq_true.mp o4 a0 ha0
          have h5 := nls_at o1 ha0
          cases a0 <;> simp [isNn, D.py, D.nl] at h4 h5 ⊢
        · obtain ⟨z, hz, hzp⟩ := pys_at (xs := x :: xs) (i := i) (by rw [D.pys]; exact hi)
          have hm := maxDd_mem xs x
          have e : z = maxDd x xs := py_inj _ _ (nls_at o1 (List.mem_of_getElem? hz)) (nls_at o1 hm) (by rw [hzp, maxDd_py])
          obtain ⟨v', hv', rz⟩ := r2.get hz
          have : v' = v := Option.some.inj (hv'.symm.trans hv)
          subst this
          rw [← e] at k
          exact k W v' (.refl W) sr rz
      · cases hg
    · cases hg
  · cases hg
/-! any, all of bools -/
def blsOf : List D → Option (List Bool)
  | [] => some []
  | .bl b :: r => (blsOf r).map (b :: ·)
  | _ => none
theorem blsOf_ok {K : PySem.W.Frag} {W : Wo} : ∀ {xs : List D} {bs : List Bool} {vs : List V}, blsOf xs = some bs → RpL K W xs vs → vs = bs.map V.bl
  | [], bs, vs, e, r => by
    cases (show some [] = some bs from e)
    cases (show _ = _ from r); rfl
  | .bl b :: xs, bs, vs, e, r => by
    obtain ⟨ms, h1, rfl⟩ := Option.map_eq_some_iff.mp (show (blsOf xs).map (b :: ·) = some bs from e)
    obtain ⟨v, us, rfl, r1, r2⟩ := r
    cases (show _ = _ from r1)
    rw [blsOf_ok h1 r2]; rfl
  | .non :: _, _, _, e, _ => nomatch (show (none : Option (List Bool)) = some _ from e)
  | .int _ :: _, _, _, e, _ => nomatch (show (none : Option (List Bool)) = some _ from e)
  | .str _ :: _, _, _, e, _ => nomatch (show (none : Option (List Bool)) = some _ from e)
  | .tup _ :: _, _, _, e, _ => nomatch (show (none : Option (List Bool)) = some _ from e)
  | .lst _ :: _, _, _, e, _ => nomatch (show (none : Option (List Bool)) = some _ from e)
  | .kst _ :: _, _, _, e, _ => nomatch (show (none : Option (List Bool)) = some _ from e)
  | .ref _ :: _, _, _, e, _ => nomatch (show (none : Option (List Bool)) = some _ from e)
  | .dct _ _ :: _, _, _, e, _ => nomatch (show (none : Option (List Bool)) = some _ from e)
def gBls (f : List Bool → Bool) : GN := fun ds M => match ds with
  | [d] => (lsOf d M).bind fun xs => (blsOf xs).map fun bs => .bl (f bs)
  | _ => none
theorem o_bls {K : PySem.W.Frag} {f : List Bool → Bool} : OpN K (fun vs H Q => ∃ (a : Addr) (bs : List Bool), vs = [V.ref a] ∧ SqL K H a (bs.map V.bl) ∧ Q (.bl (f bs)) H) (gBls f) := by
  intro W M ds d vs Q sr r hg k
  unfold gBls at hg
  split at hg
  · obtain ⟨xs, hx, hg⟩ := Option.bind_eq_some_iff.mp hg
    obtain ⟨ns, hn, hg⟩ := Option.map_eq_some_iff.mp hg
    subst hg
    obtain ⟨v, rfl, r1⟩ := rl1 r
    obtain ⟨p, us, rfl, h1, r2⟩ := ls_sq sr r1 hx
    refine ⟨p, ns, rfl, ?_, k W _ (.refl W) sr rfl⟩
    rw [← blsOf_ok hn r2]
    exact h1
  · cases hg
def gAny : GN := gBls fun bs => bs.any id
def gAll : GN := gBls fun bs => bs.all id
theorem o_any {K : PySem.W.Frag} : OpN K (rAny K) gAny := o_bls
theorem o_all {K : PySem.W.Frag} : OpN K (rAll K) gAll := o_bls
end PF
namespace PF
open PySem PySem.Spec PyProof.Rows L2
/-! x in a list, a tuple of data (at most 60 deep) -/
def rInX (K : PySem.W.Frag) (neg : Bool) : R2 := fun x y H Q => ∃ (d e : PyData) (ds : List PyData), Dp K H x d ∧ Dp K H y e ∧ (e = .list ds ∨ e = .tuple ds) ∧ d.canLay0 = true ∧ PyData.canLayAll0 ds = true ∧ d.depth ≤ 60 ∧
  Q (.bl (if neg = true then !(ds.any fun z => PyData.eqv z d) else ds.any fun z => PyData.eqv z d)) H
theorem op_inX {X : Cx} (hu : X.A.units + 64 < cLine) : OpR X (compareOp .In) (rInX X.K false) := by
  intro pins s σ H x y v u Q I rx ry h
  obtain ⟨d, e, ds, hd, he, hk, c1, c2, c3, q⟩ := h
  obtain ⟨as, r1⟩ := Dp.reads I d x v hd rx
  obtain ⟨bs, r2⟩ := Dp.reads I e y u he ry
  have room : X.A.units + 1 + min (PyData.depthAll ds) d.depth < cLine := by
    have := Nat.min_le_right (PyData.depthAll ds) d.depth
    omega
  rcases hk with rfl | rfl
  · exact SeqAt.in_list_reads r2 r1 c2 c1 room ⟨.bl _, H, I, rfl, q⟩
  · exact SeqAt.in_tuple_reads r2 r1 c2 c1 room ⟨.bl _, H, I, rfl, q⟩
theorem op_notInX {X : Cx} (hu : X.A.units + 64 < cLine) : OpR X (compareOp .NotIn) (rInX X.K true) := by
  intro pins s σ H x y v u Q I rx ry h
  obtain ⟨d, e, ds, hd, he, hk, c1, c2, c3, q⟩ := h
  obtain ⟨as, r1⟩ := Dp.reads I d x v hd rx
  obtain ⟨bs, r2⟩ := Dp.reads I e y u he ry
  have room : X.A.units + 1 + min (PyData.depthAll ds) d.depth < cLine := by
    have := Nat.min_le_right (PyData.depthAll ds) d.depth
    omega
  rcases hk with rfl | rfl
  · exact SeqAt.notIn_list_reads r2 r1 c2 c1 room ⟨.bl _, H, I, rfl, q⟩
  · exact SeqAt.notIn_tuple_reads r2 r1 c2 c1 room ⟨.bl _, H, I, rfl, q⟩
def seqItems : D → Option (List D)
  | .lst xs => some xs
  | .kst xs => some xs
  | .tup xs => some xs
  | _ => none
def gInX : G2B := fun x y M => (x.val M).bind fun a => (y.val M).bind fun b => if (a.dp 60 && b.dp 60) = true then (seqItems b).map fun ys => ys.any fun z => PyData.eqv z.py a.py else none
def gNotInX : G2B := fun x y M => (gInX x y M).map (! ·)
theorem pys_any (p : PyData → Bool) : ∀ ys : List D, (D.pys ys).any p = ys.any fun z => p z.py
  | [] => by rw [D.pys]; rfl
  | y :: ys => by rw [D.pys, List.any_cons, List.any_cons, pys_any p ys]
section
variable {K : PySem.W.Frag} {W : Wo} {M : Mem}
theorem inX_ok {x y : D} {v u : V} {t : Bool} (sr : SR K W M) (rx : Rp K W x v) (ry : Rp K W y u) (h : gInX x y M = some t) :
    ∃ (d e : PyData) (ds : List PyData), Dp K W.H v d ∧ Dp K W.H u e ∧ (e = .list ds ∨ e = .tuple ds) ∧ d.canLay0 = true ∧ PyData.canLayAll0 ds = true ∧ d.depth ≤ 60 ∧ (ds.any fun z => PyData.eqv z d) = t := by
  obtain ⟨a, ha, h⟩ := Option.bind_eq_some_iff.mp h
  obtain ⟨b, hb, h⟩ := Option.bind_eq_some_iff.mp h
  split at h
  · rename_i ok
    rw [Bool.and_eq_true] at ok
    obtain ⟨ys, hy, h⟩ := Option.map_eq_some_iff.mp h
    obtain ⟨l1, l2⟩ := dp_can 60 a ok.1
    have d2 := val_Rp sr ry hb ok.2
    have shape : ∀ zs : List D, D.dps 59 zs = true → PyData.canLayAll0 (D.pys zs) = true := fun zs hz => (dps_can 59 zs hz).1
    have ok2 := ok.2
    refine ⟨a.py, b.py, D.pys ys, val_Rp sr rx ha ok.1, d2, ?_, l1, ?_, l2, by rw [pys_any]; exact h⟩
    · cases b <;> cases hy
      · exact .inr (by rw [D.py])
      · exact .inl (by rw [D.py])
      · exact .inl (by rw [D.py])
    · cases b <;> cases hy <;> (rw [D.dp, Bool.and_eq_true] at ok2; exact shape _ ok2.2)
  · cases h
theorem o_inX : Op2 K (rInX K false) (gB gInX) := by
  intro W M x y d v u Q sr rx ry hg k
  obtain ⟨t, ht, rfl⟩ := Option.map_eq_some_iff.mp hg
  obtain ⟨a, e, ds, h1, h2, h3, h4, h5, h6, h7⟩ := inX_ok sr rx ry ht
  exact ⟨a, e, ds, h1, h2, h3, h4, h5, h6, by
    rw [if_neg Bool.false_ne_true, h7]
    exact k W _ (.refl W) sr rfl⟩
theorem o_notInX : Op2 K (rInX K true) (gB gNotInX) := by
  intro W M x y d v u Q sr rx ry hg k
  obtain ⟨t, ht, rfl⟩ := Option.map_eq_some_iff.mp hg
  obtain ⟨t', ht', rfl⟩ := Option.map_eq_some_iff.mp ht
  obtain ⟨a, e, ds, h1, h2, h3, h4, h5, h6, h7⟩ := inX_ok sr rx ry ht'
  exact ⟨a, e, ds, h1, h2, h3, h4, h5, h6, by
    rw [if_pos rfl, h7]
    exact k W _ (.refl W) sr rfl⟩
end
end PF
namespace PF
open PySem PySem.Spec PyProof.Rows L2
/-! sorted, of ints fewer than 64 -/
def sortI (ns : List Int) : List Int := ns.mergeSort fun a b => decide (a ≤ b)
theorem sort_uniq : ∀ {a b : List Int}, a.Perm b → a.Pairwise (· ≤ ·) → b.Pairwise (· ≤ ·) → a = b
  | [], b, h, _, _ => (List.Perm.nil_eq h)
  | x :: a, [], h, _, _ => by have := h.length_eq; simp at this
  | x :: a, y :: b, h, ha, hb => by
    have hx : x ∈ y :: b := h.subset (by simp)
    have hy : y ∈ x :: a := h.symm.subset (by simp)
    have e : x = y := by
      rcases List.mem_cons.mp hx with e | hx
      · exact e
      · rcases List.mem_cons.mp hy with e | hy
        · exact e.symm
        · have h1 := List.rel_of_pairwise_cons ha hy
          have h2 := List.rel_of_pairwise_cons hb hx
          omega
    subst e
    rw [sort_uniq (List.Perm.cons_inv h) ha.of_cons hb.of_cons]
theorem sortI_perm (ns : List Int) : (sortI ns).Perm ns := List.mergeSort_perm _ _
theorem sortI_le (ns : List Int) : (sortI ns).Pairwise (· ≤ ·) := by
  have := List.pairwise_mergeSort (le := fun a b : Int => decide (a ≤ b)) (fun a b c h1 h2 => by simp at *; omega) (fun a b => by simp; omega) ns
  exact this.imp fun h => of_decide_eq_true h
def gSorted : GNN := fun ds M => match ds with
  | [d] => (lsOf d M).bind fun xs => (intsOf xs).bind fun ns => if ns.length < 64 then some ((sortI ns).map D.int) else none
  | _ => none
theorem rpl_ints {K : PySem.W.Frag} {W : Wo} : ∀ ns : List Int, RpL K W (ns.map D.int) (ns.map V.int)
  | [] => rfl
  | n :: ns => ⟨.int n, _, rfl, rfl, rpl_ints ns⟩
theorem o_sorted {K : PySem.W.Frag} : OpNN K (rSorted K) gSorted := by
  intro W M ds xs vs Q sr r hg k
  unfold gSorted at hg
  split at hg
  · obtain ⟨l, hl, hg⟩ := Option.bind_eq_some_iff.mp hg
    obtain ⟨ns, hn, hg⟩ := Option.bind_eq_some_iff.mp hg
    split at hg
    · rename_i h64
      cases hg
      obtain ⟨v, rfl, r1⟩ := rl1 r
      obtain ⟨p, us, rfl, h1, r2⟩ := ls_sq sr r1 hl
      have e := intsOf_ok hn r2
      subst e
      refine ⟨p, ns, rfl, h1, h64, fun ns' q hp hs hq => ?_⟩
      have e := sort_uniq (hp.trans (sortI_perm ns).symm) hs (sortI_le ns)
      subst e
      exact k q _ hq (rpl_ints _) (by rw [List.length_map, (sortI_perm ns).length_eq]; show _ ≤ 16777216; omega)
    · cases hg
  · cases hg
end PF
namespace PF
open PySem PySem.Spec PyProof.Rows L2
/-! sum of a list or a tuple of whole numbers -/
theorem sumT_raw {prog : Program} {w : World} {A : Around} {E : Value → Shared → Prop} {s : Shared} {t : Addr} {vs : List Value} {ns : List Int} {Q : Value → Shared → Prop} (hh : A.handled = none) (ht : s.heap.IsTuple t vs.toArray) (hi : IntsAre vs ns)
    (h : ∀ h' tk t', (∀ b o, s.heap.get? b = some o → h'.get? b = some o) → Q (.int ns.sum t') { s with heap := h', toks := tk }) : wpAny (model prog w) A (call (.builtin "sum") [.ref t]) Q E s := by
  obtain ⟨xs, hx⟩ := hi.allInts.items
  have hn : numsOf (intItems xs).toList = ns := by rw [← hx]; exact hi.numsOf
  rw [nums_intItems] at hn
  rw [hx] at ht
  refine PySem.W.ktm_sumG hh ht fun h' tk t' hk => ?_
  have := h h' tk t' hk
  rw [preSum_eq, List.take_of_length_le (by simp), hn]
  exact this
def rSumA (K : PySem.W.Frag) : List V → Hp → VK → Prop := fun vs H Q => ∃ (a : Addr) (ns : List Int), vs = [V.ref a] ∧ (SqL K H a (ns.map V.int) ∨ SqT K H a (ns.map V.int)) ∧ Q (.int ns.sum) H
theorem cr_sumA {X : Cx} (hc : X.calm = true) : CallR X (.builtin "sum") (rSumA X.K) := by
  intro pins s σ H vs us Q I r h
  obtain ⟨a, ns, rfl, hs, q⟩ := h
  rcases hs with hs | hs
  · obtain ⟨its, rv, hl, _⟩ := I.list hs
    rw [Vals.ref1 r]
    exact sum_raw (I.ok.hd hc) hl.isList rv.ints fun h' tk t' hk => ⟨.int _, H, I.kept hk, ⟨_, rfl⟩, q⟩
  · obtain ⟨its, rv, hl, _⟩ := I.tuple hs
    rw [Vals.ref1 r]
    exact sumT_raw (I.ok.hd hc) hl rv.ints fun h' tk t' hk => ⟨.int _, H, I.kept hk, ⟨_, rfl⟩, q⟩
def gSumA : GN := fun ds M => match ds with
  | [d] => (sqOf d M).bind fun xs => (intsOf xs).map fun ns => .int ns.sum
  | _ => none
theorem o_sumA {K : PySem.W.Frag} : OpN K (rSumA K) gSumA := by
  intro W M ds d vs Q sr r hg k
  unfold gSumA at hg
  split at hg
  · obtain ⟨xs, hx, hg⟩ := Option.bind_eq_some_iff.mp hg
    obtain ⟨ns, hn, hg⟩ := Option.map_eq_some_iff.mp hg
    subst hg
    obtain ⟨v, rfl, r1⟩ := rl1 r
    obtain ⟨p, us, rfl, h1, r2⟩ := sq_sq sr r1 hx
    refine ⟨p, ns, rfl, ?_, k W _ (.refl W) sr rfl⟩
    rw [← intsOf_ok hn r2]
    exact h1
  · cases hg
end PF
namespace LP
open PySem PySem.Spec PyProof.Rows L2 PF
def topS (i : Nat) : Stmt := PySem.Challenge.pw_shocksknown_k20_whole_histories_and_canc.main.body.getD i (.Pass ⟨0, 0, 0, 0⟩)
abbrev stentries_by_event : Stmt := topS 1
abbrev stbulletin_of : Stmt := topS 2
abbrev sttold_later : Stmt := topS 3
abbrev stis_bulletin : Stmt := topS 4
abbrev sthistory_of : Stmt := topS 5
abbrev stbulletin_without : Stmt := topS 6
abbrev st_law_draws : Stmt := topS 8
abbrev st_law_take : Stmt := topS 9
abbrev st_law_cell : Stmt := topS 10
abbrev st_law_same : Stmt := topS 11
abbrev st_law_entries : Stmt := topS 12
abbrev st_law_bulletin : Stmt := topS 13
abbrev st_law_versions : Stmt := topS 14
abbrev st_law_left : Stmt := topS 15
abbrev st_law_cancelled : Stmt := topS 16
abbrev st_law_come_back : Stmt := topS 17
abbrev stlaw : Stmt := topS 18
section
open L2
def imL : List (Str × String) := []
def fnL : List He.DefD := [⟨("entries_by_event", none), "entries_by_event", "entries_by_event", defArgs stentries_by_event, defBody stentries_by_event, defScope stentries_by_event, [], []⟩,
  ⟨("bulletin_of", none), "bulletin_of", "bulletin_of", defArgs stbulletin_of, defBody stbulletin_of, defScope stbulletin_of, [], []⟩,
  ⟨("told_later", none), "told_later", "told_later", defArgs sttold_later, defBody sttold_later, defScope sttold_later, [], []⟩,
  ⟨("is_bulletin", none), "is_bulletin", "is_bulletin", defArgs stis_bulletin, defBody stis_bulletin, defScope stis_bulletin, [], []⟩,
  ⟨("history_of", none), "history_of", "history_of", defArgs sthistory_of, defBody sthistory_of, defScope sthistory_of, [], []⟩,
  ⟨("bulletin_without", none), "bulletin_without", "bulletin_without", defArgs stbulletin_without, defBody stbulletin_without, defScope stbulletin_without, [], []⟩,
  ⟨("_law_draws", none), "_law_draws", "_law_draws", defArgs st_law_draws, defBody st_law_draws, defScope st_law_draws, [], []⟩,
  ⟨("_law_take", none), "_law_take", "_law_take", defArgs st_law_take, defBody st_law_take, defScope st_law_take, [], []⟩,
  ⟨("_law_cell", none), "_law_cell", "_law_cell", defArgs st_law_cell, defBody st_law_cell, defScope st_law_cell, [], []⟩,
  ⟨("_law_same", none), "_law_same", "_law_same", defArgs st_law_same, defBody st_law_same, defScope st_law_same, [], []⟩,
  ⟨("_law_entries", none), "_law_entries", "_law_entries", defArgs st_law_entries, defBody st_law_entries, defScope st_law_entries, [], []⟩,
  ⟨("_law_bulletin", none), "_law_bulletin", "_law_bulletin", defArgs st_law_bulletin, defBody st_law_bulletin, defScope st_law_bulletin, [], []⟩,
  ⟨("_law_versions", none), "_law_versions", "_law_versions", defArgs st_law_versions, defBody st_law_versions, defScope st_law_versions, [], []⟩,
  ⟨("_law_left", none), "_law_left", "_law_left", defArgs st_law_left, defBody st_law_left, defScope st_law_left, [], []⟩,
  ⟨("_law_cancelled", none), "_law_cancelled", "_law_cancelled", defArgs st_law_cancelled, defBody st_law_cancelled, defScope st_law_cancelled, [], []⟩,
  ⟨("_law_come_back", none), "_law_come_back", "_law_come_back", defArgs st_law_come_back, defBody st_law_come_back, defScope st_law_come_back, [], []⟩,
  ⟨("law", none), "law", "law", defArgs stlaw, defBody stlaw, defScope stlaw, [], []⟩]
def faL : List He.Fa := [.free "len", .free "int", .free "abs", .free "tuple", .free "list", .free "range", .free "isinstance", .free "bool", .free "str", .free "min", .free "max", .free "sum", .free "sorted", .free "any", .free "all", .free "set", .free "dict", .free "type", .glo "entries_by_event", .glo "bulletin_of", .glo "told_later", .glo "is_bulletin", .glo "history_of", .glo "bulletin_without", .glo "_law_draws", .glo "_law_take", .glo "_law_cell", .glo "_law_same", .glo "_law_entries", .glo "_law_bulletin", .glo "_law_versions", .glo "_law_left", .glo "_law_cancelled", .glo "_law_come_back", .glo "law"]
abbrev LR : PySem.W.OpenRow := PySem.W.OpenLaw.row PySem.Challenge.rw_shocksknown_k20_whole_histories_and_canc
abbrev hkL : PySem.W.Hook := hkX 4 imL faL fnL
def obL (s : PySem.W.SharedT) : Bool × He.AlD := obX 4 imL faL fnL (HandSHeadRun.getT s)
theorem obL_eq (s : PySem.W.SharedT) : obL s = hkL.obs s.abs := obX_eq (HandSHeadRun.getT_eq s)
theorem runL (w : World) : HandSHeadRun.RunEq LR (PySem.W.view LR.prog [18]) hkL obL 3000 [("entries_by_event" : Str), ("bulletin_of" : Str), ("told_later" : Str), ("is_bulletin" : Str), ("history_of" : Str), ("bulletin_without" : Str), ("_law_draws" : Str), ("_law_take" : Str), ("_law_cell" : Str), ("_law_same" : Str), ("_law_entries" : Str), ("_law_bulletin" : Str), ("_law_versions" : Str), ("_law_left" : Str), ("_law_cancelled" : Str), ("_law_come_back" : Str)] w := by
  intro os
  kernel_rfl
end
end LP
namespace PF
open PySem PySem.Spec PyProof.Rows L2
noncomputable section
/-! two for in one comprehension; the inner one walks a range -/
def JFr (J : It) (xs : List D) : Prop := xs.length ≤ LINE ∧ ∀ (H : Hp) (i : Nat), (∀ d, xs[i]? = some d → J.go i H ∧ ∀ x H', J.yld i H x H' → H' = H ∧ ∀ K W, Rp K W d x) ∧ (xs.length ≤ i → J.stop i H)
def liftR (K : PySem.W.Frag) (f : FI) : TI := fun σ H R => ∃ W ρ M, W.H = H ∧ SR K W M ∧ Sl K W ρ σ ∧ ∃ xs k M', f ρ M = some ((xs, k), M') ∧
  ∀ W' J, Ext W W' → SR K W' M' → JFr J xs → R J W'.H
abbrev PFR (X : Cx) (tg e : Expr) (f : FI) : Prop := PI X tg e (liftR X.K f)
theorem jfr_rg {lo : Int} {n : Nat} (hn : n ≤ LINE) : JFr (Itr lo n) (rgD lo n) := by
  have hl : (rgD lo n).length = n := by unfold rgD; simp
  refine ⟨by rw [hl]; exact hn, fun H i => ?_⟩
  refine ⟨fun d hd => ?_, fun h => by rw [hl] at h; exact h⟩
  have hi : i < n := by rw [← hl]; exact (List.getElem?_eq_some_iff.mp hd).1
  have hd' : d = D.int (lo + i) := by
    unfold rgD at hd
    rw [List.getElem?_map, List.getElem?_range hi] at hd
    cases hd; rfl
  subst hd'
  exact ⟨hi, fun x H' hx => ⟨hx.1, fun K W => hx.2⟩⟩
section
variable {X : Cx} {tg a : Expr}
theorem pfr_rg1 {f : FA} {p pos : Pos} (hg : Gl X "range") (hm : X.mg "range" = none) (ha : PFA X [a] f) (hs : starEach [a] X.env = [(false, eval a X.env)] := by rfl) : PFR X tg (.Call (.Name "range" p) [a] [] pos) (fiRg1 f) := pi_weak (pi_range1 hg hm ha hs) fun σ H R => by
  rintro ⟨W, ρ, M, rfl, sr, sl, xs, kk, M', hf, k⟩
  obtain ⟨⟨x, M1⟩, hx, hf⟩ := Option.bind_eq_some_iff.mp hf
  dsimp only at hf
  split at hf
  · split at hf
    · rename_i hr
      cases hf
      replace hr := okR_ok hr
      refine ⟨W, ρ, M, rfl, sr, sl, _, _, hx, fun W1 v e1 s1 r1 => ?_⟩
      obtain ⟨v1, r, rfl, q1, q2⟩ := r1
      cases (show _ = _ from q1); cases (show _ = _ from q2)
      exact ⟨_, rfl, hr.2.1.1, hr.2.1.2, k W1 _ e1 s1 (jfr_rg (by show _ ≤ 16777216; omega))⟩
    · cases hf
  · cases hf
theorem pfr_rg2 {b : Expr} {f : FA} {p pos : Pos} (hg : Gl X "range") (hm : X.mg "range" = none) (ha : PFA X [a, b] f) (hs : starEach [a, b] X.env = [(false, eval a X.env), (false, eval b X.env)] := by rfl) (hs2 : starEach [b] X.env = [(false, eval b X.env)] := by rfl) :
    PFR X tg (.Call (.Name "range" p) [a, b] [] pos) (fiRg2 f) := pi_weak (pi_range2 hg hm ha hs hs2) fun σ H R => by
  rintro ⟨W, ρ, M, rfl, sr, sl, xs, kk, M', hf, k⟩
  obtain ⟨⟨x, M1⟩, hx, hf⟩ := Option.bind_eq_some_iff.mp hf
  dsimp only at hf
  split at hf
  · split at hf
    · rename_i hr
      cases hf
      replace hr := okR_ok hr
      refine ⟨W, ρ, M, rfl, sr, sl, _, _, hx, fun W1 v e1 s1 r1 => ?_⟩
      obtain ⟨v1, r, rfl, q1, v2, r', rfl, q2, q3⟩ := r1
      cases (show _ = _ from q1); cases (show _ = _ from q2); cases (show _ = _ from q3)
      exact ⟨_, _, rfl, ⟨hr.1.1, hr.1.2, hr.2.1.1, hr.2.1.2⟩, k W1 _ e1 s1 (jfr_rg (by show _ ≤ 16777216; omega))⟩
    · cases hf
  · cases hf
end
def lc2Loop (c : Mem → Bool) (t : FG) (ft : FT) (fi1 : FI) (vs1 : List Nat) (t1 : FG) (ft1 : FT) (fe : FE) (ρ : Rho) : List D → List D → Mem → Option (List D × Mem)
  | [], acc, M => if c M = true then some (acc, M) else none
  | d :: ds, acc, M => if c M = true then (t d ρ).bind fun ρ' => (ft ρ' M).bind fun b =>
      if b.1 = true then (fi1 ρ' b.2).bind fun a => (lcLoop (chk a.1.2 a.1.1) t1 ft1 fe (wipeR ρ' vs1) a.1.1 acc a.2).bind fun y => lc2Loop c t ft fi1 vs1 t1 ft1 fe ρ ds y.1 y.2
      else lc2Loop c t ft fi1 vs1 t1 ft1 fe ρ ds acc b.2
    else none
/-- [elt for t in fi if ft for t1 in fi1 if ft1] -/
def fLC2 (vs vs1 : List Nat) (fi : FI) (t : FG) (ft : FT) (fi1 : FI) (t1 : FG) (ft1 : FT) (fe : FE) : FA := fun ρ M => (fi ρ M).bind fun a => (lc2Loop (chk a.1.2 a.1.1) t ft fi1 vs1 t1 ft1 fe (wipeR ρ vs) a.1.1 [] a.2).bind fun y => if y.1.length ≤ LINE then some y else none
theorem lcLoop_len {c : Mem → Bool} {t : FG} {ft : FT} {fe : FE} {ρ : Rho} : ∀ (ds acc : List D) (M : Mem) (out : List D) (M' : Mem), lcLoop c t ft fe ρ ds acc M = some (out, M') → acc.length ≤ out.length
  | [], acc, M, out, M', h => by
    unfold lcLoop at h
    split at h
    · cases h; exact Nat.le_refl _
    · cases h
  | d :: ds, acc, M, out, M', h => by
    unfold lcLoop at h
    split at h
    · obtain ⟨ρ', _, h⟩ := Option.bind_eq_some_iff.mp h
      obtain ⟨b, _, h⟩ := Option.bind_eq_some_iff.mp h
      split at h
      · obtain ⟨y, _, h⟩ := Option.bind_eq_some_iff.mp h
        have := lcLoop_len ds _ _ _ _ h
        simp at this; omega
      · exact lcLoop_len ds _ _ _ _ h
    · cases h
theorem lc2Loop_len {c : Mem → Bool} {t : FG} {ft : FT} {fi1 : FI} {vs1 : List Nat} {t1 : FG} {ft1 : FT} {fe : FE} {ρ : Rho} : ∀ (ds acc : List D) (M : Mem) (out : List D) (M' : Mem), lc2Loop c t ft fi1 vs1 t1 ft1 fe ρ ds acc M = some (out, M') → acc.length ≤ out.length
  | [], acc, M, out, M', h => by
    unfold lc2Loop at h
    split at h
    · cases h; exact Nat.le_refl _
    · cases h
  | d :: ds, acc, M, out, M', h => by
    unfold lc2Loop at h
    split at h
    · obtain ⟨ρ', _, h⟩ := Option.bind_eq_some_iff.mp h
      obtain ⟨b, _, h⟩ := Option.bind_eq_some_iff.mp h
      split at h
      · obtain ⟨a, _, h⟩ := Option.bind_eq_some_iff.mp h
        obtain ⟨y, hy, h⟩ := Option.bind_eq_some_iff.mp h
        exact Nat.le_trans (lcLoop_len _ _ _ _ _ hy) (lc2Loop_len ds _ _ _ _ h)
      · exact lc2Loop_len ds _ _ _ _ h
    · cases h
theorem Sl.minus {K : PySem.W.Frag} {W : Wo} {ρ : Rho} {σ : L2.St} {p : Addr} (hb : W.bad p) (hn : p ∉ W.as) (h : Sl K W ρ σ) : Sl K (W.minus p) ρ σ := by
  refine ⟨h.len, fun i d hd => ?_⟩
  obtain ⟨v, hv, r⟩ := h.at_ i d hd
  exact ⟨v, hv, Rp.minus hb hn d v r⟩
theorem lc2_lift {K : PySem.W.Frag} {fi fi1 : FI} {t t1 : FG} {ft ft1 : FT} {fe : FE} {vs vs1 : List Nat} : ∀ σ H Q, liftN K (fLC2 vs vs1 fi t ft fi1 t1 ft1 fe) σ H Q → tLc2 (liftI K fi) (liftG K vs t) (liftT K ft) (liftR K fi1) (liftG K vs1 t1) (liftT K ft1) (liftE K fe) vs vs1 σ H Q := by
  rintro σ H Q ⟨W, ρ, M, rfl, sr, sl, out, M', hf, k⟩
  obtain ⟨⟨⟨xs, kk⟩, M1⟩, hi, hf⟩ := Option.bind_eq_some_iff.mp hf
  obtain ⟨⟨o1, o2⟩, hf, hz⟩ := Option.bind_eq_some_iff.mp hf
  dsimp only at hz hf
  by_cases hout : o1.length ≤ LINE
  case neg => rw [if_neg hout] at hz; cases hz
  rw [if_pos hout] at hz
  cases hz
  refine ⟨W, ρ, M, rfl, sr, sl, xs, kk, M1, hi, fun W1 J e1 s1 jo D hD => ?_⟩
  refine ⟨fun i m H' => ∃ W2 Mt acc ws, H' = upd W2.H D (.lst ws) ∧ W2.H D = none ∧ Ext W1 W2 ∧ SR K W2 Mt ∧ RpL K W2 acc ws ∧ i ≤ xs.length ∧ m = xs.length - i ∧
    lc2Loop (chk kk xs) t ft fi1 vs1 t1 ft1 fe (wipeR ρ vs) (xs.drop i) acc Mt = some (out, M'), ⟨xs.length, W1, M1, [], [], rfl, hD, .refl W1, s1, rfl, Nat.zero_le _, rfl, hf⟩, ?_⟩
  rintro i m H' ⟨W2, Mt, acc, ws, rfl, hD2, e2, s2, racc, hil, rfl, hw⟩
  have eP : Ext W2 (W2.plus D (.lst ws)) := Ext.plus hD2
  have sP : SR K (W2.plus D (.lst ws)) Mt := s2.plus hD2
  by_cases hlt : i < xs.length
  · right
    have hd : xs.drop i = xs[i] :: xs.drop (i + 1) := List.drop_eq_getElem_cons hlt
    rw [hd] at hw
    unfold lc2Loop at hw
    split at hw
    · rename_i hck
      obtain ⟨ρ', ht, hw⟩ := Option.bind_eq_some_iff.mp hw
      obtain ⟨⟨b, M3⟩, hb, hw⟩ := Option.bind_eq_some_iff.mp hw
      obtain ⟨hgo, hy⟩ := (jo.2 _ Mt (e2.trans eP) sP hck i).1 xs[i] (by simp [hlt])
      refine ⟨hgo, fun H' => ∃ W4 Mt acc ws, H' = upd W4.H D (.lst ws) ∧ W4.H D = none ∧ Ext W1 W4 ∧ SR K W4 Mt ∧ RpL K W4 acc ws ∧
        lc2Loop (chk kk xs) t ft fi1 vs1 t1 ft1 fe (wipeR ρ vs) (xs.drop (i + 1)) acc Mt = some (out, M'), ?_, fun x H' hx => ?_⟩
      · rintro H' ⟨W4, Mt', acc', ws', h1, h2, h3, h4, h5, h7⟩
        exact ⟨xs.length - (i + 1), by omega, W4, Mt', acc', ws', h1, h2, h3, h4, h5, hlt, rfl, h7⟩
      · obtain ⟨rfl, rx⟩ := hy x H' hx
        have slW : Sl K (W2.plus D (.lst ws)) (wipeR ρ vs) (L2.wipe σ vs) := (sl.ext (e1.trans (e2.trans eP)) sr.sub).wipe vs
        refine ⟨_, wipeR ρ vs, Mt, xs[i], rfl, sP, slW, rx, ρ', ht, fun W3 σ3 e3 s3 l3 w3 => ⟨by rw [w3, wipe_idem], ?_⟩⟩
        refine ⟨W3, ρ', Mt, rfl, s3, l3, b, M3, hb, fun W4 e4 s4 => ?_⟩
        cases b with
        | false =>
          rw [if_neg Bool.false_ne_true] at hw ⊢
          obtain ⟨e5, b5, n5, h5⟩ := Ext.unplus s2 hD2 (e3.trans e4)
          refine ⟨W4.minus D, M3, acc, ws, ?_, minus_self, e2.trans e5, s4.minus b5 n5, (racc.ext e5 s2.sub), hw⟩
          funext a
          by_cases z : a = D
          · subst z; rw [upd_same]; exact h5
          · rw [upd_ne z]; exact (minus_H z).symm
        | true =>
          rw [if_pos rfl] at hw ⊢
          obtain ⟨⟨⟨xs1, k1⟩, M5⟩, hi1, hw⟩ := Option.bind_eq_some_iff.mp hw
          obtain ⟨⟨acc2, M6⟩, hin, hw⟩ := Option.bind_eq_some_iff.mp hw
          dsimp only at hin hw
          have hlim : acc2.length ≤ LINE := Nat.le_trans (lc2Loop_len _ _ _ _ _ hw) hout
          refine ⟨W4, ρ', M3, rfl, s4, l3.ext e4 s3.sub, xs1, k1, M5, hi1, fun W5 J1 e5 s5 jf => ?_⟩
          obtain ⟨e6, b6, n6, h6⟩ := Ext.unplus s2 hD2 ((e3.trans e4).trans e5)
          have l5 : Sl K (W5.minus D) ρ' σ3 := Sl.minus b6 n6 (l3.ext (e4.trans e5) s3.sub)
          have s5m : SR K (W5.minus D) M5 := s5.minus b6 n6
          have hW5 : W5.H = upd (W5.minus D).H D (.lst ws) := by
            funext a
            by_cases z : a = D
            · subst z; rw [upd_same]; exact h6
            · rw [upd_ne z]; exact (minus_H z).symm
          refine ⟨fun j k H' => ∃ W6 Mt acc ws, H' = upd W6.H D (.lst ws) ∧ W6.H D = none ∧ Ext (W5.minus D) W6 ∧ SR K W6 Mt ∧ RpL K W6 acc ws ∧ j ≤ xs1.length ∧ k = xs1.length - j ∧
            lcLoop (chk k1 xs1) t1 ft1 fe (wipeR ρ' vs1) (xs1.drop j) acc Mt = some (acc2, M6), ⟨xs1.length, W5.minus D, M5, acc, ws, hW5, minus_self, .refl _, s5m, racc.ext e6 s2.sub, Nat.zero_le _, rfl, hin⟩, ?_⟩
          rintro j k' H' ⟨W6, Mt6, acc6, ws6, rfl, hD6, e7, s6, racc6, hjl, rfl, hw6⟩
          have eP6 : Ext W6 (W6.plus D (.lst ws6)) := Ext.plus hD6
          have sP6 : SR K (W6.plus D (.lst ws6)) Mt6 := s6.plus hD6
          by_cases hlt1 : j < xs1.length
          · right
            have hd1 : xs1.drop j = xs1[j] :: xs1.drop (j + 1) := List.drop_eq_getElem_cons hlt1
            rw [hd1] at hw6
            unfold lcLoop at hw6
            split at hw6
            · obtain ⟨ρ2, ht1, hw6⟩ := Option.bind_eq_some_iff.mp hw6
              obtain ⟨⟨b1, M7⟩, hb1, hw6⟩ := Option.bind_eq_some_iff.mp hw6
              obtain ⟨hgo1, hy1⟩ := (jf.2 (W6.plus D (.lst ws6)).H j).1 xs1[j] (by simp [hlt1])
              refine ⟨hgo1, fun H' => ∃ W8 Mt acc ws, H' = upd W8.H D (.lst ws) ∧ W8.H D = none ∧ Ext (W5.minus D) W8 ∧ SR K W8 Mt ∧ RpL K W8 acc ws ∧
                lcLoop (chk k1 xs1) t1 ft1 fe (wipeR ρ' vs1) (xs1.drop (j + 1)) acc Mt = some (acc2, M6), ?_, fun x1 H' hx1 => ?_⟩
              · rintro H' ⟨W8, Mt', acc', ws', h1, h2, h3, h4, h5, h7⟩
                exact ⟨xs1.length - (j + 1), by omega, W8, Mt', acc', ws', h1, h2, h3, h4, h5, hlt1, rfl, h7⟩
              · obtain ⟨rfl, rx1⟩ := hy1 x1 H' hx1
                have slW1 : Sl K (W6.plus D (.lst ws6)) (wipeR ρ' vs1) (L2.wipe σ3 vs1) := (l5.ext (e7.trans eP6) s5m.sub).wipe vs1
                refine ⟨_, wipeR ρ' vs1, Mt6, xs1[j], rfl, sP6, slW1, rx1 K _, ρ2, ht1, fun W7 σ7 e8 s7 l7 w7 => ⟨by rw [w7, wipe_idem], ?_⟩⟩
                refine ⟨W7, ρ2, Mt6, rfl, s7, l7, b1, M7, hb1, fun W8 e9 s8 => ?_⟩
                cases b1 with
                | false =>
                  rw [if_neg Bool.false_ne_true] at hw6 ⊢
                  obtain ⟨e10, b10, n10, h10⟩ := Ext.unplus s6 hD6 (e8.trans e9)
                  refine ⟨W8.minus D, M7, acc6, ws6, ?_, minus_self, e7.trans e10, s8.minus b10 n10, (racc6.ext e10 s6.sub), hw6⟩
                  funext a
                  by_cases z : a = D
                  · subst z; rw [upd_same]; exact h10
                  · rw [upd_ne z]; exact (minus_H z).symm
                | true =>
                  rw [if_pos rfl] at hw6 ⊢
                  obtain ⟨⟨y, M9⟩, hye, hw6⟩ := Option.bind_eq_some_iff.mp hw6
                  refine ⟨W8, ρ2, M7, rfl, s8, l7.ext e9 s7.sub, y, M9, hye, fun W9 v e11 s9 r9 => ?_⟩
                  obtain ⟨e12, b12, n12, h12⟩ := Ext.unplus s6 hD6 ((e8.trans e9).trans e11)
                  have hz : ws6.length < LINE := by
                    have q := lcLoop_len _ _ _ _ _ hw6
                    rw [List.length_append, List.length_singleton] at q
                    have := racc6.len
                    omega
                  refine ⟨ws6, h12, by rw [line_eq]; exact hz, W9.minus D, M9, acc6 ++ [y], ws6 ++ [v], ?_, minus_self, e7.trans e12, s9.minus b12 n12, (racc6.ext e12 s6.sub).append (.one (r9.minus b12 n12)), hw6⟩
                  funext a
                  by_cases z : a = D
                  · subst z; rw [upd_same, upd_same]
                  · rw [upd_ne z, upd_ne z]; exact (minus_H z).symm
            · cases hw6
          · left
            have e : j = xs1.length := by omega
            subst e
            rw [List.drop_length] at hw6
            unfold lcLoop at hw6
            split at hw6
            · cases hw6
              exact ⟨(jf.2 _ xs1.length).2 (Nat.le_refl _), W6, M6, acc2, ws6, rfl, hD6, e2.trans (e6.trans e7), s6, racc6, hw⟩
            · cases hw6
    · cases hw
  · left
    have e : i = xs.length := by omega
    subst e
    rw [List.drop_length] at hw
    unfold lc2Loop at hw
    split at hw
    · rename_i hck
      cases hw
      refine ⟨(jo.2 _ _ (e2.trans eP) sP hck xs.length).2 (Nat.le_refl _), ?_⟩
      exact k W2 D ws (e1.trans e2) s2 hD2 racc (by have := racc.len; omega)
    · cases hw
section
variable {X : Cx} {elt tg iter tg1 iter1 : Expr} {ifs ifs1 : List Expr} {scope : Scope} {own : List (Str × Nat)} {vs1 : List Nat} {pos : Pos} {fi fi1 : FI} {t t1 : FG} {ft ft1 : FT} {fe : FE}
theorem pfn_lc2 (hc : X.calm = true) (hN : X.N.Nodup) (hi : PFI X tg iter fi) (ok : BlkOk X.N X.env.scope scope own) (hv : ∀ i ∈ vs1, i ∈ own.map (·.2))
    (hg : ∀ (s : Shared) (H : Hp) (C : Addr) (cl : List (Str × Addr)) (fp : List Addr), PFG (X.blk s H scope (compEnvC scope cl C X.env) fp) (own.map (·.2)) tg t) (ht : ∀ (s : Shared) (H : Hp) (C : Addr) (cl : List (Str × Addr)) (fp : List Addr), PFTs (X.blk s H scope (compEnvC scope cl C X.env) fp) ifs ft)
    (hi1 : ∀ (s : Shared) (H : Hp) (C : Addr) (cl : List (Str × Addr)) (fp : List Addr), PFR (X.blk s H scope (compEnvC scope cl C X.env) fp) tg1 iter1 fi1)
    (hg1 : ∀ (s : Shared) (H : Hp) (C : Addr) (cl : List (Str × Addr)) (fp : List Addr), PFG (X.blk s H scope (compEnvC scope cl C X.env) fp) vs1 tg1 t1) (ht1 : ∀ (s : Shared) (H : Hp) (C : Addr) (cl : List (Str × Addr)) (fp : List Addr), PFTs (X.blk s H scope (compEnvC scope cl C X.env) fp) ifs1 ft1)
    (he : ∀ (s : Shared) (H : Hp) (C : Addr) (cl : List (Str × Addr)) (fp : List Addr), PFE (X.blk s H scope (compEnvC scope cl C X.env) fp) elt fe) (hs : ∀ x, foldedSetIterable iter X.env x = pure x := by intro _; rfl) (hs1 : ∀ env x, foldedSetIterable iter1 env x = pure x := by intro _ _; rfl) :
    PFN X (.ListComp elt [⟨tg, iter, ifs, 0⟩, ⟨tg1, iter1, ifs1, 0⟩] scope pos) (fLC2 (own.map (·.2)) vs1 fi t ft fi1 t1 ft1 fe) := pe_weak (pe_lc2 hc hN hi ok hv hg ht hi1 hg1 ht1 he hs hs1) lc2_lift
theorem pfs_setLc2F {i : Nat} {y : Str} {py spos : Pos} (hc : X.calm = true) (hN : X.N.Nodup) (hy : X.N[i]? = some y) (hyl : X.env.scope.names.lookup y = some .local)
    (hsw : swapsWith (.ListComp elt [⟨tg, iter, ifs, 0⟩, ⟨tg1, iter1, ifs1, 0⟩] scope pos) (some (.Name y py)) spos.line X.env = pure true) (hi : PFI X tg iter fi) (ok : BlkOk X.N X.env.scope scope own) (hv : ∀ i ∈ vs1, i ∈ own.map (·.2))
    (hg : ∀ (s : Shared) (H : Hp) (C : Addr) (cl : List (Str × Addr)) (fp : List Addr), PFG (X.blk s H scope (compEnvC scope cl C X.env) fp) (own.map (·.2)) tg t) (ht : ∀ (s : Shared) (H : Hp) (C : Addr) (cl : List (Str × Addr)) (fp : List Addr), PFTs (X.blk s H scope (compEnvC scope cl C X.env) fp) ifs ft)
    (hi1 : ∀ (s : Shared) (H : Hp) (C : Addr) (cl : List (Str × Addr)) (fp : List Addr), PFR (X.blk s H scope (compEnvC scope cl C X.env) fp) tg1 iter1 fi1)
    (hg1 : ∀ (s : Shared) (H : Hp) (C : Addr) (cl : List (Str × Addr)) (fp : List Addr), PFG (X.blk s H scope (compEnvC scope cl C X.env) fp) vs1 tg1 t1) (ht1 : ∀ (s : Shared) (H : Hp) (C : Addr) (cl : List (Str × Addr)) (fp : List Addr), PFTs (X.blk s H scope (compEnvC scope cl C X.env) fp) ifs1 ft1)
    (he : ∀ (s : Shared) (H : Hp) (C : Addr) (cl : List (Str × Addr)) (fp : List Addr), PFE (X.blk s H scope (compEnvC scope cl C X.env) fp) elt fe) (hs : ∀ x, foldedSetIterable iter X.env x = pure x := by intro _; rfl) (hs1 : ∀ env x, foldedSetIterable iter1 env x = pure x := by intro _ _; rfl) :
    PFS X (.Assign [.Name y py] (.ListComp elt [⟨tg, iter, ifs, 0⟩, ⟨tg1, iter1, ifs1, 0⟩] scope pos) spos) (sSet i (fFz (fLC2 (own.map (·.2)) vs1 fi t ft fi1 t1 ft1 fe))) := ps_weak (ps_setLc2 hc hN hy hyl hsw hi ok hv hg ht hi1 hg1 ht1 he hs hs1) fun E σ H h => lc2_lift _ _ _ (set_fz E σ H h)
theorem pfs_setLc2M {i : Nat} {y : Str} {py spos : Pos} (hc : X.calm = true) (hN : X.N.Nodup) (hy : X.N[i]? = some y) (hyl : X.env.scope.names.lookup y = some .local)
    (hsw : swapsWith (.ListComp elt [⟨tg, iter, ifs, 0⟩, ⟨tg1, iter1, ifs1, 0⟩] scope pos) (some (.Name y py)) spos.line X.env = pure true) (hi : PFI X tg iter fi) (ok : BlkOk X.N X.env.scope scope own) (hv : ∀ i ∈ vs1, i ∈ own.map (·.2))
    (hg : ∀ (s : Shared) (H : Hp) (C : Addr) (cl : List (Str × Addr)) (fp : List Addr), PFG (X.blk s H scope (compEnvC scope cl C X.env) fp) (own.map (·.2)) tg t) (ht : ∀ (s : Shared) (H : Hp) (C : Addr) (cl : List (Str × Addr)) (fp : List Addr), PFTs (X.blk s H scope (compEnvC scope cl C X.env) fp) ifs ft)
    (hi1 : ∀ (s : Shared) (H : Hp) (C : Addr) (cl : List (Str × Addr)) (fp : List Addr), PFR (X.blk s H scope (compEnvC scope cl C X.env) fp) tg1 iter1 fi1)
    (hg1 : ∀ (s : Shared) (H : Hp) (C : Addr) (cl : List (Str × Addr)) (fp : List Addr), PFG (X.blk s H scope (compEnvC scope cl C X.env) fp) vs1 tg1 t1) (ht1 : ∀ (s : Shared) (H : Hp) (C : Addr) (cl : List (Str × Addr)) (fp : List Addr), PFTs (X.blk s H scope (compEnvC scope cl C X.env) fp) ifs1 ft1)
    (he : ∀ (s : Shared) (H : Hp) (C : Addr) (cl : List (Str × Addr)) (fp : List Addr), PFE (X.blk s H scope (compEnvC scope cl C X.env) fp) elt fe) (hs : ∀ x, foldedSetIterable iter X.env x = pure x := by intro _; rfl) (hs1 : ∀ env x, foldedSetIterable iter1 env x = pure x := by intro _ _; rfl) :
    PFS X (.Assign [.Name y py] (.ListComp elt [⟨tg, iter, ifs, 0⟩, ⟨tg1, iter1, ifs1, 0⟩] scope pos) spos) (sSet i (fMut (fLC2 (own.map (·.2)) vs1 fi t ft fi1 t1 ft1 fe))) := ps_weak (ps_setLc2 hc hN hy hyl hsw hi ok hv hg ht hi1 hg1 ht1 he hs hs1) fun E σ H h => lc2_lift _ _ _ (set_mut E σ H h)
end
end
end PF
namespace PF
open PySem PySem.Spec PyProof.Rows L2
/-! a call that changes one list and hands back a new changeable one -/
def callSM (i : Nat) (c : FnC) (ds : List D) (M : Mem) : Option (D × Mem) := match ds[i]? with
  | some (.ref n) => match M[n]? with
    | some mo => if mo.nr && !anyRef (ds.set i .non) then (argsP M (ds.set i .non)).bind fun es => (c (es.set i (.ref 0)) [mo]).bind fun r => match r with
        | (.ref 1, [.lst xs, .lst ys]) => if D.nrs xs && D.nrs ys then some (.ref M.length, M.set n (.lst xs) ++ [.lst ys]) else none
        | _ => none
      else none
    | none => none
  | _ => none
def fCallSM (i : Nat) (c : FnC) (fa : FA) : FE := fun ρ M => (fa ρ M).bind fun a => callSM i c a.1 a.2
section
variable {K : PySem.W.Frag} {W : Wo} {M : Mem}
theorem callSM_ok {i : Nat} {c : FnC} {n : Nat} {ds : List D} {vs : List V} {d : D} {M' : Mem} {Q : VK} {E : XK} (sr : SR K W M) (r : RpL K W ds vs) (hn : vs.length = n) (e : callSM i c ds M = some (d, M'))
    (k : ∀ W' v, Ext W W' → SR K W' M' → Rp K W' d v → Q v W'.H) : spOf K c n vs W.H Q E := by
  unfold callSM at e
  split at e
  · rename_i m hm
    split at e
    · rename_i mo hmo
      split at e
      · rename_i hc0
        rw [Bool.and_eq_true, Bool.not_eq_true'] at hc0
        obtain ⟨hnr, hri⟩ := hc0
        obtain ⟨es, he, e⟩ := Option.bind_eq_some_iff.mp e
        obtain ⟨⟨d1, M1⟩, hc, e⟩ := Option.bind_eq_some_iff.mp e
        obtain ⟨a, ha, mok⟩ := sr.addr hmo
        obtain ⟨vi, hvi, ri⟩ := r.get hm
        obtain ⟨a', ha', ev⟩ := ri
        obtain rfl : a = a' := Option.some.inj (ha.symm.trans ha')
        have haW : a ∈ W.as := List.mem_of_getElem? ha
        have nl : ∀ b, ¬ Lent W (ds.set i .non) b := fun b ⟨j, h1, h2⟩ => noRef hri j h1
        have sL : SR K (W.lend [a] (Lent W (ds.set i .non))) [mo] := by
          refine ⟨rfl, by simp [Wo.lend], fun b h => ?_, fun b h => sr.bt b h.1, fun j b mo' h1 h2 => ?_⟩
          · rw [show b = a by simpa [Wo.lend] using h]
            exact ⟨sr.sub a haW, nl a⟩
          · cases j with
            | zero =>
              have eb : a = b := by simpa [Wo.lend] using h1
              have em : mo = mo' := by simpa using h2
              subst eb em
              exact MoOk.nr (W := W) (W' := W.lend [a] (Lent W (ds.set i .non))) rfl (fun _ z => z.1) hnr mok
            | succ j => simp at h2
        have r' : RpL K W (ds.set i .non) (vs.set i .non) := r.set i rfl
        have rE := args_ok (as := [a]) sr he r' (free := Lent W (ds.set i .non)) fun j b h1 h2 => ⟨j, h1, h2⟩
        have rE2 : RpL K (W.lend [a] (Lent W (ds.set i .non))) (es.set i (.ref 0)) vs := by
          have q := rE.set (d := .ref 0) (v := .ref a) i ⟨a, rfl, rfl⟩
          rw [List.set_set] at q
          have ev' : vs.set i (.ref a) = vs := by
            rw [← ev]
            obtain ⟨h1, h2⟩ := List.getElem?_eq_some_iff.mp hvi
            rw [← h2]; exact List.set_getElem_self h1
          rw [ev'] at q
          exact q
        refine ⟨hn, W.lend [a] (Lent W (ds.set i .non)), [mo], _, rfl, sL, rE2, d1, M1, hc, fun W1 v e1 s1 r1 => ?_⟩
        have keepAll : ∀ b o, b ≠ a → W.H b = some o → W1.H b = some o := fun b o hb h => e1.keep b o (by simpa [Wo.lend] using hb) h
        split at e
        · rename_i xs ys hpair
          cases hpair
          split at e
          · rename_i hcond
            rw [Bool.and_eq_true] at hcond
            obtain ⟨hxs, hys⟩ := hcond
            cases e
            obtain ⟨p, hp, ev1⟩ := r1
            obtain ⟨new, ea, fr⟩ := e1.as
            have ea1 : W1.as = [a, p] := by
              have h1 : W1.as.length = 2 := s1.len
              have h2 : W1.as = a :: new := by rw [ea]; rfl
              rw [h2] at h1 hp
              match new, h1, hp with
              | [q], _, hp => simp at hp; rw [h2, hp]
            have enew : new = [p] := by
              have h2 : W1.as = a :: new := by rw [ea]; rfl
              rw [ea1] at h2
              simpa using h2.symm
            have hpn : W.H p = none := fr p (by rw [enew]; simp)
            have pnW : p ∉ W.as := fun z => by
              obtain ⟨o, q⟩ := sr.bt p (sr.sub p z)
              rw [hpn] at q; cases q
            obtain ⟨us, q1, q2⟩ := s1.obj 0 a (.lst xs) (by rw [ea1]; rfl) rfl
            obtain ⟨us2, q3, q4⟩ := s1.obj 1 p (.lst ys) (by rw [ea1]; rfl) rfl
            have noB : ∀ b, (W.bad b ∨ W1.bad b) → W1.bad b := fun b z => z.elim (fun z => e1.bad b ⟨z, nl b⟩) fun z => z
            have ex : Ext W ⟨W.as ++ [p], fun b => W.bad b ∨ W1.bad b, W1.H⟩ := by
              refine ⟨⟨[p], rfl, fun b h => by rw [List.mem_singleton.mp h]; exact hpn⟩, fun b h => .inl h, fun b h => h.elim .inl fun z => (e1.new b z).imp (fun q => q.1) fun q => q, fun b o hb h => keepAll b o (fun z => hb (by rw [z]; exact haW)) h, fun b o h => ?_⟩
              by_cases z : b = a
              · subst z; exact ⟨_, q1.1⟩
              · exact ⟨o, keepAll b o z h⟩
            have toL : ∀ (zs : List D) (ws : List V), D.nrs zs = true → RpL K W1 zs ws → RpL K ⟨W.as ++ [p], fun b => W.bad b ∨ W1.bad b, W1.H⟩ zs ws := fun zs ws hz q => RpL.nr (W := W1) (W' := ⟨W.as ++ [p], fun b => W.bad b ∨ W1.bad b, W1.H⟩) rfl noB _ _ hz q
            have hlen : W.as.length = M.length := sr.len
            refine k ⟨W.as ++ [p], fun b => W.bad b ∨ W1.bad b, W1.H⟩ v ex ⟨by simp [hlen], ?_, fun b h => ?_, fun b h => h.elim (fun z => let ⟨o, q⟩ := sr.bt b z; ex.live b o q) (s1.bt b), fun j b mo' h1 h2 => ?_⟩ ⟨p, by show (W.as ++ [p])[M.length]? = some p; rw [← hlen]; simp, ev1⟩
            · rw [List.nodup_append]
              exact ⟨sr.nd, by simp, fun x hx y hy => by rw [List.mem_singleton.mp hy]; rintro rfl; exact pnW hx⟩
            · rcases List.mem_append.mp h with h | h
              · exact .inl (sr.sub b h)
              · rw [List.mem_singleton.mp h]
                exact .inr (s1.sub p (by rw [ea1]; simp))
            · have h1' : (W.as ++ [p])[j]? = some b := h1
              by_cases hj : j < M.length
              · rw [List.getElem?_append_left (by omega)] at h1'
                rw [List.getElem?_append_left (by rw [List.length_set]; exact hj)] at h2
                by_cases z : j = m
                · subst z
                  obtain rfl : a = b := Option.some.inj (ha.symm.trans h1')
                  rw [List.getElem?_set_self hj] at h2
                  cases h2
                  exact ⟨us, q1, toL _ _ hxs q2⟩
                · rw [List.getElem?_set_ne (Ne.symm z)] at h2
                  have nb : b ≠ a := fun q => z (by
                    subst q
                    obtain ⟨q1, q2⟩ := List.getElem?_eq_some_iff.mp h1'
                    obtain ⟨q3, q4⟩ := List.getElem?_eq_some_iff.mp ha
                    exact (List.getElem_inj sr.nd).mp (q2.trans q4.symm))
                  have mk := sr.obj j b mo' h1' h2
                  obtain ⟨o, q⟩ := mk.there
                  exact mk.ext ex sr.sub (by rw [q]; exact keepAll b o nb q)
              · have hjl : j < (W.as ++ [p]).length := (List.getElem?_eq_some_iff.mp h1').1
                simp at hjl
                have ej : j = M.length := by omega
                subst ej
                have eb : b = p := by
                  rw [← hlen] at h1'
                  simp at h1'
                  exact h1'.symm
                subst eb
                rw [List.getElem?_append_right (by simp)] at h2
                simp at h2
                subst h2
                exact ⟨us2, q3, toL _ _ hys q4⟩
          · cases e
        · cases e
      · cases e
    · cases e
  · cases e
end
section
variable {X : Cx} {k n : Nat} {f : Addr} {fd : FuncData} {ps : List Str} {c : FnC} {x : Str} {p pos : Pos} {e : Expr} {es : List Expr} {fa : FA}
theorem pf_callSM (i : Nat) (F : FnOk X.prog X.w X.K X.mg X.base CX0 k f fd ps (spOf X.K c n)) (hr : Room k X.A) (hg : Gl X x) (hm : X.mg x = some (.ref f)) (hk : PySem.W.keepIn X.K (.ref f) = true) (hb : Binds X.K fd ps []) (ha : PFA X (e :: es) fa) (hn : n = es.length + 1 := by rfl)
    (hlen : ∀ ρ M r, fa ρ M = some r → r.1.length = es.length + 1) (hdb : (x == ("__debug__" : Str)) = false := by decide) (he : starEach (e :: es) X.env = (false, eval e X.env) :: starEach es X.env := by rfl) (hpl : (backTo pos (starEach es X.env)).any (·.1) = false := by rfl) :
    PFE X (.Call (.Name x p) (e :: es) [] pos) (fCallSM i c fa) := pe_weak (pe_call F hr hg hm hk hb .nil pass0 ha hdb he hpl) fun σ H Q => by
  rintro ⟨W, ρ, M, rfl, sr, sl, d, M', hf, k⟩
  obtain ⟨⟨ds, M1⟩, hx, hf⟩ := Option.bind_eq_some_iff.mp hf
  refine ⟨W, ρ, M, rfl, sr, sl, ds, M1, hx, fun W1 vs e1 s1 r1 => ?_⟩
  show spOf X.K c n (vs ++ []) W1.H Q E0
  rw [List.append_nil]
  exact callSM_ok s1 r1 (by rw [← r1.len, hn]; exact hlen _ _ _ hx) hf fun W2 v e2 s2 r2 => k W2 v (e1.trans e2) s2 r2
end
section
variable {X : Cx} {k n : Nat} {c : FnC} {x : Str} {p pos : Pos} {e : Expr} {es : List Expr} {fa : FA}
theorem pf_callCSM (i : Nat) (C : Cal X.prog X.w X.K X.mg X.base k x c (es.length + 1)) (hr : Room k X.A) (hg : Gl X x) (ha : PFA X (e :: es) fa)
    (hlen : ∀ ρ M r, fa ρ M = some r → r.1.length = es.length + 1) (hdb : (x == ("__debug__" : Str)) = false := by decide) (he : starEach (e :: es) X.env = (false, eval e X.env) :: starEach es X.env := by rfl) (hpl : (backTo pos (starEach es X.env)).any (·.1) = false := by rfl) :
    PFE X (.Call (.Name x p) (e :: es) [] pos) (fCallSM i c fa) :=
  let ⟨_, _, _, g, hk, b, F⟩ := C.ex
  pf_callSM i F hr hg g hk b ha rfl hlen hdb he hpl
end
end PF
namespace PF
open PySem PySem.Spec PyProof.Rows L2
/-! list(range(..)) -/
section
variable {X : Cx} {a b : Expr}
def tRgA1 (ta : TA) : L2.St → Hp → (Int → Int → Hp → Prop) → Prop := fun σ H Q => ta σ H fun xs H1 => ∃ n, xs = [.int n] ∧ Q 0 n H1
def tRgA2 (ta : TA) : L2.St → Hp → (Int → Int → Hp → Prop) → Prop := fun σ H Q => ta σ H fun xs H1 => ∃ i j, xs = [.int i, .int j] ∧ Q i j H1
theorem prg_A1 {ta : TA} {p pos : Pos} (hg : Gl X "range") (hm : X.mg "range" = none) (ha : PA X [a] ta) (hs : starEach [a] X.env = [(false, eval a X.env)] := by rfl) : PRg X (.Call (.Name "range" p) [a] [] pos) (tRgA1 ta) := by
  intro pins s σ H Q I h
  refine Call_ (ld_blt I hg hm boot_range (PyProof.Rows.callWith_type1 (thn (ha.run pos pins s σ H _ I h) fun us s1 ⟨vs, H1, I1, r1, q1⟩ => ?_) hs rfl))
  obtain ⟨n, e, q⟩ := q1
  subst e
  cases r1 with
  | cons r rr =>
    cases rr
    obtain ⟨t, rfl⟩ := r
    exact call_range_1 ⟨_, 0, n, _, _, _, H1, rfl, IsRange.new _ _ _ _ _ _ _, I1.kept fun b u e => Heap.get?_push_of_some _ e, q⟩
theorem prg_A2 {ta : TA} {p pos : Pos} (hg : Gl X "range") (hm : X.mg "range" = none) (ha : PA X [a, b] ta) (hs : starEach [a, b] X.env = [(false, eval a X.env), (false, eval b X.env)] := by rfl) (hs2 : starEach [b] X.env = [(false, eval b X.env)] := by rfl) :
    PRg X (.Call (.Name "range" p) [a, b] [] pos) (tRgA2 ta) := by
  intro pins s σ H Q I h
  refine Call_ (ld_blt I hg hm boot_range (PyProof.Rows.callWith_type1 (thn (ha.run pos pins s σ H _ I h) fun us s1 ⟨vs, H1, I1, r1, q1⟩ => ?_) (by rw [hs, hs2]) (by rw [hs2]; rfl)))
  obtain ⟨i, j, e, q⟩ := q1
  subst e
  cases r1 with
  | cons r rr =>
    cases rr with
    | cons r' rr =>
      cases rr
      obtain ⟨t, rfl⟩ := r
      obtain ⟨t', rfl⟩ := r'
      exact call_range_2 ⟨_, i, j, _, _, _, H1, rfl, IsRange.new _ _ _ _ _ _ _, I1.kept fun b u e => Heap.get?_push_of_some _ e, q⟩
/-- list(range(..)) -/
def fLstRg1 (f : FA) : FA := fun ρ M => (f ρ M).bind fun a => match a.1 with | [.int j] => if okR 0 j then some (rgD 0 j.toNat, a.2) else none | _ => none
def fLstRg2 (f : FA) : FA := fun ρ M => (f ρ M).bind fun a => match a.1 with | [.int i, .int j] => if okR i j then some (rgD i (j - i).toNat, a.2) else none | _ => none
theorem rpl_rg (K : PySem.W.Frag) (W : Wo) (lo : Int) : ∀ (l : List Nat), RpL K W (l.map fun (i : Nat) => D.int (lo + i)) (l.map fun (i : Nat) => V.int (lo + i))
  | [] => rfl
  | i :: l => ⟨_, _, rfl, rfl, rpl_rg K W lo l⟩
theorem rgok_of {i j : Int} (h : okR i j = true) : RgOk i j := by
  have := okR_ok h
  exact ⟨by omega, by omega, by omega, by omega, by omega⟩
theorem pfn_listRg1 {f : FA} {p p2 pos pos2 : Pos} (hc : X.calm = true) (hg : Gl X "list") (hm : X.mg "list" = none) (hg2 : Gl X "range") (hm2 : X.mg "range" = none) (ha : PFA X [a] f)
    (hs : starEach [a] X.env = [(false, eval a X.env)] := by rfl) (na : starEach [Expr.Call (.Name "range" p2) [a] [] pos2] X.env = (false, eval (Expr.Call (.Name "range" p2) [a] [] pos2) X.env) :: starEach [] X.env := by rfl) :
    PFN X (.Call (.Name "list" p) [.Call (.Name "range" p2) [a] [] pos2] [] pos) (fLstRg1 f) := pe_weak (pe_listRg hc hg hm (prg_A1 hg2 hm2 ha hs) na) fun σ H Q => by
  rintro ⟨W, ρ, M, rfl, sr, sl, xs, M', hf, k⟩
  obtain ⟨⟨x, M1⟩, hx, hf⟩ := Option.bind_eq_some_iff.mp hf
  dsimp only at hf
  split at hf
  · split at hf
    · rename_i hr
      cases hf
      have hr' := okR_ok hr
      refine ⟨W, ρ, M, rfl, sr, sl, _, _, hx, fun W1 v e1 s1 r1 => ?_⟩
      obtain ⟨v1, r, rfl, q1, q2⟩ := r1
      cases (show _ = _ from q1); cases (show _ = _ from q2)
      refine ⟨_, rfl, rgok_of hr, fun q hq => ?_⟩
      unfold rgV
      rw [Int.sub_zero]
      exact k W1 q _ e1 s1 hq (rpl_rg _ _ _ _) (by rw [List.length_map, List.length_range]; show _ ≤ 16777216; omega)
    · cases hf
  · cases hf
theorem pfn_listRg2 {f : FA} {p p2 pos pos2 : Pos} (hc : X.calm = true) (hg : Gl X "list") (hm : X.mg "list" = none) (hg2 : Gl X "range") (hm2 : X.mg "range" = none) (ha : PFA X [a, b] f)
    (hs : starEach [a, b] X.env = [(false, eval a X.env), (false, eval b X.env)] := by rfl) (hs2 : starEach [b] X.env = [(false, eval b X.env)] := by rfl) (na : starEach [Expr.Call (.Name "range" p2) [a, b] [] pos2] X.env = (false, eval (Expr.Call (.Name "range" p2) [a, b] [] pos2) X.env) :: starEach [] X.env := by rfl) :
    PFN X (.Call (.Name "list" p) [.Call (.Name "range" p2) [a, b] [] pos2] [] pos) (fLstRg2 f) := pe_weak (pe_listRg hc hg hm (prg_A2 hg2 hm2 ha hs hs2) na) fun σ H Q => by
  rintro ⟨W, ρ, M, rfl, sr, sl, xs, M', hf, k⟩
  obtain ⟨⟨x, M1⟩, hx, hf⟩ := Option.bind_eq_some_iff.mp hf
  dsimp only at hf
  split at hf
  · split at hf
    · rename_i hr
      cases hf
      have hr' := okR_ok hr
      refine ⟨W, ρ, M, rfl, sr, sl, _, _, hx, fun W1 v e1 s1 r1 => ?_⟩
      obtain ⟨v1, r, rfl, q1, v2, r', rfl, q2, q3⟩ := r1
      cases (show _ = _ from q1); cases (show _ = _ from q2); cases (show _ = _ from q3)
      refine ⟨_, _, rfl, rgok_of hr, fun q hq => ?_⟩
      exact k W1 q _ e1 s1 hq (rpl_rg _ _ _ _) (by rw [rgV_length]; show _ ≤ 16777216; omega)
    · cases hf
  · cases hf
end
end PF
/-! sorting of tuples of which some may be empty -/
namespace PF
open PySem PySem.SeqAt
open AutoSeq1 (wpAny_loadPart')
open MeetsSeq MeetsSeq2 MeetsSeq3 SeqRoads2
theorem call_tuple_lt' {A : Around} {s : Shared} {prog : Program} {w : World} {E : Value → Shared → Prop} {Q : Value → Shared → Prop} {l b : Addr} {items items2 : Array Value} {e r : Nat → Bool} (hl : s.heap.IsTuple l items) (hb : s.heap.IsTuple b items2)
    (he : ∀ j (h1 : j < items.size) (h2 : j < items2.size), EqAt A.in1 s items[j] items2[j] (e j)) (hr : ∀ j (h1 : j < items.size) (h2 : j < items2.size), e j = false → RcLt A.in1 s items[j] items2[j] (r j))
    (h : Q (.bool (firstLt e r (decide (items.size < items2.size)) (List.range (min items.size items2.size)))) s) : wpAny (model prog w) A (call (.builtin "tuple.__lt__") [.ref l, .ref b]) Q E s := by
  obtain ⟨⟨cls, dd, data, sl⟩, ho, hc, n, hd⟩ := id hl
  obtain ⟨⟨cls2, dd2, data2, sl2⟩, ho2, hc2, n2, hd2⟩ := id hb
  simp only at hc hd hc2 hd2
  subst hc hd hc2 hd2
  exact call_meets F.slot_tuple_lt ⟨_, ho, rfl⟩ F.entry_tuple_lt (F.args_tuple_lt_2 _ _) (tuple_ltAt l b items items2 n n2 dd dd2 sl sl2 e r) ⟨ho, ho2, he, hr, h⟩
end PF
namespace PF
open PySem PySem.W PySem.SeqAt PySem.Calls PyProof.Rows
section
variable {prog : Program} {w : World} {A : Around} {E : Value → Shared → Prop} {s : Shared}
/-- one tuple against another, both of one type -/
theorem oneLt_tups {xs ys : List PyData} {a b : Value} {as bs : List Addr} {Q : Bool → Shared → Prop} (ra : Reads s.heap a (.tuple xs) as) (rb : Reads s.heap b (.tuple ys) bs) (h : alike (.tuple xs) (.tuple ys) = true)
    (hu : A.units + min (PyData.tuple xs).depth (PyData.tuple ys).depth < cLine) (hq : Q (dataLt (.tuple xs) (.tuple ys)) s) : wpAny (model prog w) A (oneLt' true a b) Q E s := by
  have hal : alikeAll xs ys = true := by simpa [alike] using h
  cases ra with
  | @tuple l o vs n _ as₁ h1 h2 h3 h4 =>
    cases rb with
    | @tuple l' o' vs' n' _ bs₁ k1 k2 k3 k4 =>
      have n1 : vs.size = xs.length := by simpa using ReadsAll.length _ _ _ h4
      have n2 : vs'.size = ys.length := by simpa using ReadsAll.length _ _ _ k4
      rw [dataLt_tuple, ← firstLt_toks xs ys hal, ← n1, ← n2] at hq
      rw [oneLt'_eq]
      simp only [if_true]
      refine wpAny_bind (wpAny_cRoomFor (room_here hu) ?_)
      refine wpAny_bind (wpAny_callSpecialIfBound?_slot (T := "tuple") ⟨_, h1, h2⟩ F.slot_tuple_lt (call_tuple_lt' (e := pairEq xs ys) (r := fun j => dataLt (xs.getD j .none) (ys.getD j .none)) ⟨_, h1, h2, _, h3⟩ ⟨_, k1, k2, _, k3⟩ (fun j j1 j2 => ?_) (fun j j1 j2 hj => ?_) ?_))
      · have := eqAt_alikeAll xs ys A.in1 s vs.toList vs'.toList _ _ h4 k4 hal (room_in hu) j (by simpa using j1) (by simpa using j2)
        simpa using this
      · have := rcLt_alikeAll xs ys A.in1 s vs.toList vs'.toList _ _ h4 k4 hal (room_in hu) j (by simpa using j1) (by simpa using j2) hj
        simpa using this
      · exact wpAny_truthy_bool hq
/-- the firsts of tuples, none of an empty one -/
def HeadTups (h : Heap) : List Value → List (Option Value) → Prop
  | [], [] => True
  | v :: vs, f :: fs => (∃ a o xs n, v = .ref a ∧ h.get? a = some o ∧ o.cls = .type "tuple" ∧ o.data = .seq xs n ∧ xs[0]? = f) ∧ HeadTups h vs fs
  | _, _ => False
theorem head_firsts {M : Model} : ∀ (vs : List Value) (fs : List (Option Value)) {Q : List (Option Value) → Shared → Prop}, HeadTups s.heap vs fs → Q fs s → wpAny M A (vs.mapM firstOfTuple') Q E s
  | [], [], _, _, h => by rw [List.mapM_nil]; exact wpAny_pure h
  | [], _ :: _, _, t, _ => t.elim
  | _ :: _, [], _, t, _ => t.elim
  | v :: vs, f :: fs, Q, t, h => by
    obtain ⟨⟨a, o, xs, n, rfl, ho, hc, hd, hf⟩, t⟩ := t
    rw [List.mapM_cons]
    refine wpAny_bind ?_
    rw [kas_first_eq]
    refine wpAny_bind (Looks.here (show Looks M s.heap (typeOf (.ref a)) o.cls from (Looks.ld ho).andThen .now) ?_)
    rw [hc, if_neg (by first | decide | simp)]
    refine wpAny_bind (listItems_at ho hd (wpAny_pure ?_))
    rw [hf]
    exact wpAny_bind (head_firsts vs fs (Q := fun bs s' => wpAny M A (pure (f :: bs)) Q E s') t (wpAny_pure h))
theorem each_heads {h : Heap} : ∀ {vs : List Value} {ds : List PyData}, EachIs (fun v d => ∃ as, Reads h v d as) vs ds → (∀ d, d ∈ ds → ∃ xs, d = .tuple xs) → ∃ fs, HeadTups h vs fs ∧ fs.length = vs.length ∧ ((∃ d ∈ ds, d = .tuple []) → fs.all (·.isSome) = false)
  | _, _, .nil, _ => ⟨[], trivial, rfl, fun ⟨d, hd, _⟩ => by cases hd⟩
  | _, _, .cons (b := d) ⟨as, r⟩ t, ht => by
    obtain ⟨fs, h1, h2, h3⟩ := each_heads t fun d hd => ht d (List.mem_cons_of_mem _ hd)
    obtain ⟨ys, rfl⟩ := ht d (List.mem_cons_self ..)
    cases r with
    | @tuple a o xs n _ _ ho hc hd hr =>
      refine ⟨xs[0]? :: fs, ⟨⟨a, o, xs, n, rfl, ho, hc, hd, rfl⟩, h1⟩, by rw [List.length_cons, List.length_cons, h2], fun ⟨d, hm, e⟩ => ?_⟩
      rw [List.all_cons]
      rcases List.mem_cons.mp hm with q | q
      · rw [q] at e
        injection e with e
        subst e
        have hx : xs.toList = [] := by cases q : xs.toList with
          | nil => rfl
          | cons f fr => rw [q] at hr; cases hr
        have hx0 : xs[0]? = none := by rw [← Array.getElem?_toList, hx]; rfl
        rw [hx0]; rfl
      · rw [h3 ⟨d, q, e⟩, Bool.and_false]
/-- all are tuples, or none is a tuple or None -/
def Sortable2 (ds : List PyData) : Prop := (∀ d, d ∈ ds → ∃ xs, d = .tuple xs) ∨ ∀ d, d ∈ ds → d ≠ .none ∧ ∀ xs, d ≠ .tuple xs
theorem heads_kind {vs : List Value} {fs : List (Option Value)} {Q : SortKind → Shared → Prop} (hv : 2 ≤ vs.length) (hT : ∀ v ∈ vs, Looks (model prog w) s.heap (typeOf v) (.type "tuple")) (t : HeadTups s.heap vs fs) (hall : fs.all (·.isSome) = false) (hl : fs.length = vs.length)
    (h : Q (if (fs[0]?.bind id).isSome = true then general' else oneType') s) : wpAny (model prog w) A (keyKind' vs.toArray) Q E s := by
  rw [keyKind'_eq, List.mapM_toArray, map_eq_pure_bind]
  refine wpAny_bind (wpAny_bind (head_firsts vs fs t (wpAny_pure ?_)))
  rw [if_neg (by rw [List.all_toArray, hall]; simp)]
  have e0 : (fs.toArray[0]?.bind id) = fs[0]?.bind id := by rw [List.getElem?_toArray]
  rw [e0]
  by_cases hc : (fs[0]?.bind id).isSome = true
  · rw [if_pos hc] at h ⊢
    exact wpAny_pure h
  · rw [if_neg hc] at h ⊢
    rw [oneTypeOnly'_eq, List.mapM_toArray, map_eq_pure_bind]
    refine wpAny_bind (wpAny_bind (wpAny_bind (kas_mapM (r := Value.type "tuple") _ (fun v hv Q' hq => (hT v hv).here hq) (wpAny_pure ?_))))
    obtain ⟨v₁, rest, rfl⟩ : ∃ v₁ rest, vs = v₁ :: rest := by
      cases vs with
      | nil => simp at hv
      | cons a b => exact ⟨a, b, rfl⟩
    have hall2 : ((List.map (fun _ => Value.type "tuple") (v₁ :: rest)).toArray.all fun x => x == Value.type "tuple") = true := by
      simp only [List.all_toArray, List.all_map, List.all_eq_true]
      intro _ _
      exact beq_self_eq_true _
    have h0 : (List.map (fun _ => Value.type "tuple") (v₁ :: rest)).toArray[0]? = some (Value.type "tuple") := by simp
    rw [h0]
    simp only [hall2, if_true]
    exact wpAny_pure (wpAny_pure h)
theorem sortsAt_any {vs : List Value} {ds : List PyData} (e : EachIs (fun v d => ∃ as, Reads s.heap v d as) vs ds) (hal : AllAlike ds) (hk : Sortable2 ds) (hu : ∀ d, d ∈ ds → A.units + d.depth < cLine) : SortsAt prog w A s (dataKind s.heap ds) vs := by
  by_cases hne : ∃ d ∈ ds, d = .tuple []
  · have ht : ∀ d, d ∈ ds → ∃ xs, d = .tuple xs := by
      rcases hk with h | h
      · exact h
      · obtain ⟨d, hd, e⟩ := hne
        exact absurd e ((h d hd).2 [])
    have room : ∀ {d d' : PyData}, d ∈ ds → A.units + min d.depth d'.depth < cLine := fun {d d'} hd => Nat.lt_of_le_of_lt (Nat.add_le_add_left (Nat.min_le_left _ _) _) (hu d hd)
    obtain ⟨fs, h1, h2, h3⟩ := each_heads e ht
    refine ⟨fun v hv => ?_, if (fs[0]?.bind id).isSome = true then general' else oneType', ?_, fun hv E Q hq => ?_⟩
    · obtain ⟨d, hd, as, r⟩ := e.left v hv
      exact ⟨_, dataKind_some hal hd r⟩
    · intro E x y a b Q ha hb hq
      obtain ⟨d, as, hd, ra, rfl⟩ := dataKind_inv ha
      obtain ⟨d', as', hd', rb, rfl⟩ := dataKind_inv hb
      obtain ⟨xs, rfl⟩ := ht d hd
      obtain ⟨ys, rfl⟩ := ht d' hd'
      by_cases hc : (fs[0]?.bind id).isSome = true
      · rw [if_pos hc]
        show wpAny (model prog w) A (oneLt' false x y) Q E s
        exact oneLt_alike (fun h => nomatch h) ra rb (hal _ hd _ hd') (fun h => nomatch h) (room hd) hq
      · rw [if_neg hc, keyLt'_oneType]
        exact oneLt_tups ra rb (hal _ hd _ hd') (room hd) hq
    · refine heads_kind hv (fun v hm => ?_) h1 (h3 hne) h2 hq
      obtain ⟨d, hd, as, r⟩ := e.left v hm
      obtain ⟨xs, rfl⟩ := ht d hd
      exact looks_reads r
  · refine SortsAt.data e hal ?_ hu
    rcases hk with h | h
    · refine .inl fun d hd => ?_
      obtain ⟨xs, rfl⟩ := h d hd
      cases xs with
      | nil => exact absurd ⟨_, hd, rfl⟩ hne
      | cons x r => exact ⟨x, r, rfl⟩
    · exact .inr h
theorem sorted_data2 {β : Type} {enc : β → PyData} {R : Value → β → Prop} {vs : List Value} {bs : List β} {l : Addr} {Q : Value → Shared → Prop} (hl : s.heap.IsList l vs.toArray) (e : EachIs R vs bs) (er : EachIs (fun v b => ∃ as, Reads s.heap v (enc b) as) vs bs) (hal : AllAlike (bs.map enc)) (hk : Sortable2 (bs.map enc)) (hL : bs.length ≤ sizeLine)
    (hu : ∀ b, b ∈ bs → A.units + 2 + (enc b).depth < cLine) (h : ∀ out, out.length = bs.length → EachIs R out (bs.mergeSort (dataLe false enc)) → Q (.ref (s.heap.objs.size + 1)) { s with heap := sortedAll s.heap vs (List.toArray out) }) :
    wpAny (model prog w) A (call (.builtin "sorted") [.ref l]) Q E s := by
  have er' : EachIs (fun v b => ∃ as, Reads (sortingHeap (copyHeap s.heap vs) (s.heap.objs.size + 1) vs) v (enc b) as) vs bs := er.mono fun _ _ ⟨as, r⟩ => ⟨as, PyProof.Rows.Reads.keeps (fun _ _ => sorting_copy_old) r⟩
  exact sorted_vals hl (sortsAt_any (s := { s with heap := sortingHeap (copyHeap s.heap vs) (s.heap.objs.size + 1) vs }) (each_map (R := fun v d => ∃ as, Reads (sortingHeap (copyHeap s.heap vs) (s.heap.objs.size + 1) vs) v d as) enc er') hal hk (bound_map hu)) (by rw [e.length]; exact hL)
    (h _ (by rw [sortVals_length false rfl]; exact e.length) (sortVals_data false e er' hal))
end
end PF
namespace PF
open PySem PySem.Spec PyProof.Rows L2
/-! sorted(xs) of alike data, any number of them -/
def vsort (ys : List V) (ds : List PyData) : List V := ((ys.zip ds).mergeSort (PySem.W.dataLe false Prod.snd)).map Prod.fst
def rSortedDt (K : PySem.W.Frag) : List V → Hp → VK → Prop := fun vs H Q => ∃ (a : Addr) (ys : List V) (ds : List PyData), vs = [V.ref a] ∧ SqL K H a ys ∧ ds.length = ys.length ∧ DpAll K H ys ds ∧ PySem.W.AllAlike ds ∧ Sortable2 ds ∧ PyData.depthAll ds ≤ 60 ∧
  ∀ p, H p = none → Q (.ref p) (upd H p (.lst (vsort ys ds)))
theorem zip_each : ∀ {ys : List V} {its : List Value} {ds : List PyData}, Vals ys its → ds.length = ys.length → PySem.W.EachIs (fun (v : Value) (b : V × PyData) => RelV b.1 v) its (ys.zip ds)
  | [], _, [], r, _ => by cases r; exact .nil
  | [], _, _ :: _, _, h => by simp at h
  | _ :: _, _, [], _, h => by simp at h
  | y :: ys, _, d :: ds, r, h => by
    cases r with
    | cons r1 r2 => exact .cons r1 (zip_each r2 (by simpa using h))
theorem zip_snd : ∀ (ys : List V) (ds : List PyData), ds.length = ys.length → (ys.zip ds).map Prod.snd = ds
  | [], [], _ => rfl
  | [], _ :: _, h => by simp at h
  | _ :: _, [], h => by simp at h
  | y :: ys, d :: ds, h => by
    show d :: (ys.zip ds).map Prod.snd = _
    rw [zip_snd ys ds (by simpa using h)]
theorem depth_le : ∀ {ds : List PyData} {d : PyData}, d ∈ ds → d.depth ≤ PyData.depthAll ds
  | x :: ds, d, h => by
    rw [PyData.depthAll]
    rcases List.mem_cons.mp h with rfl | h
    · exact Nat.le_max_left _ _
    · exact Nat.le_trans (depth_le h) (Nat.le_max_right _ _)
theorem each_vals : ∀ {out : List Value} {bs : List (V × PyData)}, PySem.W.EachIs (fun (v : Value) (b : V × PyData) => RelV b.1 v) out bs → Vals (bs.map Prod.fst) out
  | _, _, .nil => .nil
  | _, _, .cons h t => .cons h (each_vals t)
theorem cr_sortedDt {X : Cx} (hu : X.A.units + 64 < cLine) : CallR X (.builtin "sorted") (rSortedDt X.K) := by
  intro pins s σ H vs us Q I r h
  obtain ⟨a, ys, ds, rfl, hs, hlen, hd, hal, hsb, hdp, q⟩ := h
  obtain ⟨its, rv, hl, hz⟩ := I.list hs
  rw [Vals.ref1 r]
  obtain ⟨as, hr⟩ := Dp.readsAll I ds ys its hd rv
  have e1 := zip_snd ys ds hlen
  have hzl : (ys.zip ds).length = ys.length := by rw [List.length_zip, hlen, Nat.min_self]
  have ez := zip_each rv hlen
  have er : PySem.W.EachIs (fun v (b : V × PyData) => ∃ as, Reads s.heap v (Prod.snd b) as) its (ys.zip ds) := PySem.W.readsAll_each Prod.snd (by rw [e1]; exact hr)
  refine sorted_data2 (enc := Prod.snd) hl.isList ez er (by rw [e1]; exact hal) (by rw [e1]; exact hsb) (by rw [hzl]; exact hz) (fun b hb => ?_) fun out ho hout => ?_
  · have hm : b.2 ∈ ds := by rw [← e1]; exact List.mem_map.mpr ⟨b, hb, rfl⟩
    have := depth_le hm
    omega
  · obtain ⟨n, hn⟩ := sortedAll_at s.heap its out.toArray
    refine ⟨.ref (s.heap.objs.size + 1), upd H (s.heap.objs.size + 1) (.lst (vsort ys ds)), I.laid (t' := s.toks) (fun b o e => sortedAll_old e) (Nat.le_succ _) ⟨?_, out, n, each_vals hout, hn⟩, rfl, q _ (I.hok.fresh (Nat.le_succ _))⟩
    unfold vsort
    rw [List.length_map, (List.mergeSort_perm _ _).length_eq, hzl]
    exact hz
def leD (a b : D) : Bool := PySem.W.dataLe false D.py a b
def sortD (xs : List D) : List D := xs.mergeSort leD
def srtb (xs : List D) : Bool := xs.all (fun d => match d with | .tup _ => true | _ => false) || xs.all (fun d => match d with | .int _ => true | .str _ => true | .bl _ => true | _ => false)
def gSortD : GNN := fun ds M => match ds with
  | [d] => (lsOf d M).bind fun xs => if (okAl xs && srtb xs) = true then some (sortD xs) else none
  | _ => none
theorem pys_map : ∀ xs : List D, D.pys xs = xs.map D.py
  | [] => by rw [D.pys]; rfl
  | x :: xs => by rw [D.pys, pys_map xs]; rfl
theorem rpl_zip {K : PySem.W.Frag} {W : Wo} : ∀ {xs : List D} {vs : List V}, RpL K W xs vs → ∃ zs : List (D × V), xs = zs.map Prod.fst ∧ vs = zs.map Prod.snd ∧ ∀ z, z ∈ zs → Rp K W z.1 z.2
  | [], vs, h => ⟨[], rfl, (show vs = [] from h), fun z hz => nomatch hz⟩
  | x :: xs, vs, h => by
    obtain ⟨v, r, rfl, h1, h2⟩ := h
    obtain ⟨zs, e1, e2, e3⟩ := rpl_zip h2
    refine ⟨(x, v) :: zs, by rw [e1]; rfl, by rw [e2]; rfl, fun z hz => ?_⟩
    rcases List.mem_cons.mp hz with rfl | hz
    · exact h1
    · exact e3 z hz
theorem rpl_of {K : PySem.W.Frag} {W : Wo} : ∀ (zs : List (D × V)), (∀ z, z ∈ zs → Rp K W z.1 z.2) → RpL K W (zs.map Prod.fst) (zs.map Prod.snd)
  | [], _ => rfl
  | z :: zs, h => ⟨z.2, _, rfl, h z (by simp), rpl_of zs fun y hy => h y (List.mem_cons_of_mem _ hy)⟩
theorem zip_maps : ∀ zs : List (D × V), (zs.map Prod.snd).zip ((zs.map Prod.fst).map D.py) = zs.map fun z => (z.2, z.1.py)
  | [] => rfl
  | z :: zs => by
    show (z.2, z.1.py) :: (zs.map Prod.snd).zip ((zs.map Prod.fst).map D.py) = _
    rw [zip_maps zs]; rfl
theorem sort_rep {K : PySem.W.Frag} {W : Wo} {xs : List D} {vs : List V} (h : RpL K W xs vs) : RpL K W (sortD xs) (vsort vs (D.pys xs)) := by
  obtain ⟨zs, rfl, rfl, h3⟩ := rpl_zip h
  have a1 : sortD (zs.map Prod.fst) = (zs.mergeSort fun x y => leD x.1 y.1).map Prod.fst := (List.map_mergeSort (f := Prod.fst) (s := leD) (fun a _ b _ => rfl)).symm
  have a2 : vsort (zs.map Prod.snd) (D.pys (zs.map Prod.fst)) = (zs.mergeSort fun x y => leD x.1 y.1).map Prod.snd := by
    unfold vsort
    rw [pys_map, zip_maps]
    rw [← List.map_mergeSort (r := fun x y : D × V => leD x.1 y.1) (f := fun z : D × V => (z.2, z.1.py)) (s := PySem.W.dataLe false Prod.snd) (fun a _ b _ => rfl), List.map_map]
    rfl
  rw [a1, a2]
  exact rpl_of _ fun z hz => h3 z ((List.mergeSort_perm _ _).mem_iff.mp hz)
theorem srtb_ok {xs : List D} (h : srtb xs = true) : Sortable2 (D.pys xs) := by
  unfold srtb at h
  rw [Bool.or_eq_true] at h
  rcases h with h | h
  · refine .inl fun d hd => ?_
    obtain ⟨z, hz, rfl⟩ := pys_mem hd
    have := List.all_eq_true.mp h z hz
    match z, this with
    | .tup r, _ => exact ⟨D.pys r, by rw [D.py]⟩
  · refine .inr fun d hd => ?_
    obtain ⟨z, hz, rfl⟩ := pys_mem hd
    have := List.all_eq_true.mp h z hz
    match z, this with
    | .int i, _ => exact ⟨by rw [D.py]; simp, fun xs => by rw [D.py]; simp⟩
    | .str i, _ => exact ⟨by rw [D.py]; simp, fun xs => by rw [D.py]; simp⟩
    | .bl i, _ => exact ⟨by rw [D.py]; simp, fun xs => by rw [D.py]; simp⟩
theorem okAl_ok {xs : List D} (h : okAl xs = true) : D.dps 59 xs = true ∧ PySem.W.AllAlike (D.pys xs) := by
  unfold okAl at h
  rw [Bool.and_eq_true, Bool.and_eq_true, Bool.and_eq_true] at h
  obtain ⟨⟨o1, o2⟩, o3, o4⟩ := h
  refine ⟨o2, fun a ha b hb => ?_⟩
  obtain ⟨a0, ha0, rfl⟩ := pys_mem ha
  obtain ⟨b0, hb0, rfl⟩ := pys_mem hb
  exact List.all_eq_true.mp (List.all_eq_true.mp o3 a0 ha0) b0 hb0
theorem o_sortD {K : PySem.W.Frag} : OpNN K (rSortedDt K) gSortD := by
  intro W M ds xs vs Q sr r hg k
  unfold gSortD at hg
  split at hg
  · obtain ⟨l, hl, hg⟩ := Option.bind_eq_some_iff.mp hg
    split at hg
    · rename_i ok
      cases hg
      rw [Bool.and_eq_true] at ok
      obtain ⟨o1, o2⟩ := okAl_ok ok.1
      obtain ⟨v, rfl, r1⟩ := rl1 r
      have hlen := ls_len sr r1 hl
      obtain ⟨p, us, rfl, h1, r2⟩ := ls_sq sr r1 hl
      have hll : (D.pys l).length = us.length := by rw [pys_map, List.length_map, r2.len]
      refine ⟨p, us, D.pys l, rfl, h1, hll, dp_Dps 59 l us o1 r2, o2, srtb_ok ok.2, by have := (dps_can 59 l o1).2; omega, fun q hq => ?_⟩
      have r3 := sort_rep r2
      refine k q _ hq r3 ?_
      rw [← r3.len]
      unfold sortD
      rw [(List.mergeSort_perm _ _).length_eq]
      exact hlen
    · cases hg
  · cases hg
/-! x < y of alike data -/
def rLtDt (K : PySem.W.Frag) (g : PyData → PyData → Bool) : R2 := fun x y H Q => ∃ d e, Dp K H x d ∧ Dp K H y e ∧ PySem.W.alike d e = true ∧ d ≠ .none ∧ d.depth ≤ 60 ∧ Q (.bl (g d e)) H
theorem op_ltDt {X : Cx} (hu : X.A.units + 64 < cLine) : OpR X (compareOp .Lt) (rLtDt X.K PySem.W.dataLt) := by
  intro pins s σ H x y v u Q I rx ry h
  obtain ⟨d, e, hd, he, ha, hn, hp, q⟩ := h
  obtain ⟨as, r1⟩ := Dp.reads I d x v hd rx
  obtain ⟨bs, r2⟩ := Dp.reads I e y u he ry
  exact PySem.W.lt_data r1 r2 ha hn (by have := Nat.min_le_left d.depth e.depth; omega) ⟨.bl _, H, I, rfl, q⟩
theorem op_gtDt {X : Cx} (hu : X.A.units + 64 < cLine) : OpR X (compareOp .Gt) (rLtDt X.K fun a b => PySem.W.dataLt b a) := by
  intro pins s σ H x y v u Q I rx ry h
  obtain ⟨d, e, hd, he, ha, hn, hp, q⟩ := h
  obtain ⟨as, r1⟩ := Dp.reads I d x v hd rx
  obtain ⟨bs, r2⟩ := Dp.reads I e y u he ry
  exact PySem.W.gt_data r1 r2 ha hn (by have := Nat.min_le_left d.depth e.depth; omega) ⟨.bl _, H, I, rfl, q⟩
def gCmpD (g : PyData → PyData → Bool) : G2B := fun x y M => match x.val M, y.val M with
  | some a, some b => if ((a.dp 60 && b.dp 60) && (PySem.W.alike a.py b.py && !isNn a)) = true then some (g a.py b.py) else none
  | _, _ => none
theorem o_cmpD {K : PySem.W.Frag} {g : PyData → PyData → Bool} : Op2 K (rLtDt K g) (gB (gCmpD g)) := by
  intro W M x y d v u Q sr rx ry hg k
  obtain ⟨t, ht, rfl⟩ := Option.map_eq_some_iff.mp hg
  unfold gCmpD at ht
  split at ht
  · rename_i a b ha hb
    split at ht
    · rename_i ok
      cases ht
      rw [Bool.and_eq_true, Bool.and_eq_true, Bool.and_eq_true] at ok
      obtain ⟨⟨o1, o2⟩, o3, o4⟩ := ok
      refine ⟨a.py, b.py, val_Rp sr rx ha o1, val_Rp sr ry hb o2, o3, ?_, (dp_can 60 a o1).2, k W _ (.refl W) sr rfl⟩
      cases a <;> simp [isNn, D.py, D.dp] at o4 o1 ⊢
    · cases ht
  · cases ht
/-! xs.index(y), xs changeable or not -/
def gIndexL : GM := fun x ds M => match ds with
  | [.int y] => (lsOf x M).bind fun xs => (intsOf xs).bind fun ns => (findI (fun z => decide (z = y)) ns).map fun (j : Nat) => (.int (j : Int), M)
  | _ => none
theorem o_indexL {K : PySem.W.Frag} : OpM K (rIndex K) gIndexL := by
  intro W M M' x d ds v vs Q sr rx r hg k
  unfold gIndexL at hg
  split at hg
  · rename_i y
    obtain ⟨xs, hx, hg⟩ := Option.bind_eq_some_iff.mp hg
    obtain ⟨ns, hn, hg⟩ := Option.bind_eq_some_iff.mp hg
    obtain ⟨j, hj, hg⟩ := Option.map_eq_some_iff.mp hg
    cases hg
    obtain ⟨u, rfl, r1⟩ := rl1 r
    cases (show _ = _ from r1)
    obtain ⟨z, h1, h2, h3⟩ := findI_ok hj
    obtain ⟨a, us, rfl, h4, r2⟩ := ls_sq sr rx hx
    have eus := intsOf_ok hn r2
    subst eus
    refine ⟨a, _, .int y, j, .int z, rfl, rfl, h4, rfl, ?_, ?_, ?_, fun m z' hm hz => ?_, k W _ (.refl W) sr rfl⟩
    · rw [List.all_map]
      exact List.all_eq_true.mpr fun _ _ => rfl
    · rw [List.getElem?_map, h1]; rfl
    · have : z = y := of_decide_eq_true h2
      subst this
      simp [eqV]
    · rw [List.getElem?_map] at hz
      obtain ⟨i, hi, rfl⟩ := Option.map_eq_some_iff.mp hz
      have := h3 m i hm hi
      have hne : i ≠ y := of_decide_eq_false this
      simp [eqV, hne]
  · cases hg
end PF
namespace PF
open PySem PySem.Spec PyProof.Rows L2
/-! set(list of ints), its table told -/
section
variable {P : Program} {w : World} {A : Around} {E : Value → Shared → Prop} {s : Shared}
/-- an empty set, as it is made -/
abbrev oE (w : World) : Obj := { cls := .type "set", dict := none, data := .set #[] 0 (.fresh 0 0 (!w.params.followText "set-order")) }
abbrev hE (w : World) (h : Heap) : Heap := h.push (oE w)
theorem hE_size (w : World) (h : Heap) : (hE w h).objs.size = h.objs.size + 1 := Heap.size_push ..
theorem call_set_lstI {l : Addr} {items : Array Value} (ns : List Int) {Q : Value → Shared → Prop} (hd : A.handled = none) (il : s.heap.IsList l items) (ii : IntsAre items.toList ns) (room : ns.length + 1 < scanBound)
    (q : ∀ (g : Heap) (tk c : Nat), SetR w g s.heap.objs.size (fun j => decide (j ∈ ns)) c → c ≤ ns.length → (∀ b o, s.heap.get? b = some o → g.get? b = some o) → Q (.ref s.heap.objs.size) { s with heap := g, toks := tk }) : wpAny (model P w) A (call (.type "set") [.ref l]) Q E s := by
  have isz : items.size = ns.length := by
    have z := ii.length
    simpa using z
  have ⟨cl, rest, mro⟩ := F.called_set.mro
  have made := F.called_set.made; have sub := F.called_set.sub
  refine wpAny_call (codeAny_of_tree (show wpAny _ _ (callAny (.type "set") _) _ _ _ from wpAny_pure ⟨Code.quiet_builtin _ (by decide +kernel), codeAny_builtin F.entry_type_call ?_⟩))
  rw [Around.under_plain (weight_type_call_type "set" [.ref l] []) rfl]
  have n1 := F.called_set.notType; have n2 := F.called_set.canCreate; have n3 := F.typeCall_set_1 (.ref l)
  repeat (any_goals (first | assumption | wp_step))
  refine codeAny_mono (code_set_led1 (.ref l) (E := E) (Q₁ := fun obj s₁ => obj = .ref s.heap.objs.size ∧ s₁ = { s with heap := hE w s.heap }) ⟨rfl, rfl⟩) fun r s₁ hr => ?_
  rcases r with e | fl
  · exact hr
  cases fl with
  | ret obj =>
    obtain ⟨rfl, rfl⟩ := hr
    have got : (hE w s.heap).get? s.heap.objs.size = some (oE w) := Heap.get?_push_size _ rfl
    have tis : Shared.TypeIs { s with heap := hE w s.heap } (.ref s.heap.objs.size) "set" := ⟨_, got, rfl⟩
    have i1 := F.called_set.init.lookup; have i2 := F.called_set.init.bind (.ref s.heap.objs.size)
    repeat (any_goals (first | assumption | wp_step))
    refine codeAny_mono (codeAny_call_builtin (R := wants (fun r s₂ => r = .none ∧ ∃ g tk c, s₂ = { s with heap := g, toks := tk } ∧ SetR w g s.heap.objs.size (fun j => decide (j ∈ ns)) c ∧ c ≤ ns.length ∧ ∀ b o, s.heap.get? b = some o → g.get? b = some o) E) F.called_set.init.plain F.entry_set_init (check_set_init_1 tis ?_)) fun r₂ s₂ hr₂ => ?_
    · obtain ⟨⟨k1, k2, k3, k4⟩, ho, hc, nl, hdt⟩ := il
      simp only at hc hdt
      subst hc hdt
      have ho2 : (hE w s.heap).get? l = some { cls := .type "list", dict := k2, data := .seq items nl, slots := k4 } := Heap.get?_push_of_some _ ho
      have s1 := F.sub_list_set; have s2 := F.sub_list_frozenset
      have s3 : (Value.type "list" == Value.type "dict") = false := by decide
      have il2 : (hE w s.heap).IsList l items := ⟨_, ho2, rfl, nl, rfl⟩
      unfold Builtin.«set.__init__» noKeywords Builtin.Frozenset.updateFrom
      generalize hit : pyIter = it
      wp_walk
      subst hit
      refine wpAny_pyIter_list il2 (wpAny_bind (wpAny_runValue ?_))
      have lt : l < s.heap.objs.size := Heap.lt_size ho
      have sz := hE_size w s.heap
      have hd3 : A.in1.in1.in1.handled = none := by simp [hd]
      have lI : l ≠ (hE w s.heap).objs.size := by rw [sz]; exact Nat.ne_of_lt (Nat.lt_succ_of_lt lt)
      have sI : s.heap.objs.size ∉ [(hE w s.heap).objs.size, l] := by
        rw [sz]
        simp only [List.mem_cons, List.not_mem_nil, or_false, not_or]
        exact ⟨Nat.ne_of_lt (Nat.lt_succ_self _), Nat.ne_of_gt lt⟩
      refine set_update_ints ((Walks.list hd3 _ l lI items).toS) s.heap.objs.size sI ns isz room (fun i v hv => ?_) (items.size - 0) 0 _ (by omega) (Nat.zero_le _) ⟨⟨_, Heap.get?_push_size _ rfl, rfl, rfl⟩, (il2.push _)⟩ ⟨0, Nat.le_refl 0, setR_new_at (Heap.get?_push_of_some _ got)⟩ fun s' c' hm hc' hS' => ?_
      · have lti : i < ns.length := by rw [← isz]; exact (Array.getElem?_eq_some_iff.mp hv).1
        obtain ⟨t, e⟩ := IntsAre.int_at ii i v (by rw [Array.getElem?_toList]; exact hv)
        exact ⟨ns[i], t, List.getElem?_eq_getElem lti, by rw [e, List.getD_eq_getElem?_getD, List.getElem?_eq_getElem lti] <;> rfl⟩
      · obtain ⟨g, g2, d', tk', os'⟩ := s'
        have eg : g2 = s.gens := hm.gens
        have ed : d' = s.drawn := hm.drawn
        have eo : os' = s.os := hm.os
        subst eg ed eo
        rw [isz] at hc'
        refine wpAny_pure (wpAny_pure ⟨rfl, g, tk', c', rfl, hS', hc', fun b o e => ?_⟩)
        have b0 : b < s.heap.objs.size := Heap.lt_size e
        refine hm.heap b o ?_ (Heap.get?_push_of_some _ (Heap.get?_push_of_some _ e))
        rw [sz]
        simp only [List.mem_cons, List.not_mem_nil, or_false, not_or]
        exact ⟨Nat.ne_of_lt b0, Nat.ne_of_lt (Nat.lt_succ_of_lt b0)⟩
    · rcases r₂ with e | fl₂
      · exact hr₂
      cases fl₂ with
      | ret r =>
        obtain ⟨rfl, g, tk, c', rfl, a1, a2, a3⟩ := hr₂
        repeat (any_goals (first | assumption | wp_step))
        exact q _ _ _ a1 a2 a3
      | _ => exact hr₂.elim
  | _ => exact hr.elim
end
/-! unlike ints, ascending -/
def dedS : List Int → List Int
  | [] => []
  | x :: xs => match dedS xs with
    | [] => [x]
    | y :: ys => if x = y then y :: ys else x :: y :: ys
theorem dedS_mem : ∀ (xs : List Int) (k : Int), k ∈ dedS xs ↔ k ∈ xs
  | [], k => by simp [dedS]
  | x :: xs, k => by
    have ih := dedS_mem xs k
    rw [List.mem_cons, ← ih, dedS]
    cases h : dedS xs with
    | nil => simp
    | cons y ys =>
      by_cases e : x = y
      · subst e; simp
      · simp [e]
theorem dedS_lt : ∀ {xs : List Int}, xs.Pairwise (· ≤ ·) → (dedS xs).Pairwise (· < ·)
  | [], _ => by simp [dedS]
  | x :: xs, h => by
    have ih := dedS_lt h.of_cons
    have m := dedS_mem xs
    rw [dedS]
    cases q : dedS xs with
    | nil => simp
    | cons y ys =>
      rw [q] at ih
      by_cases e : x = y
      · simp only [e, if_true]; exact ih
      · simp only [e, if_false]
        have hy : x < y := by
          have := List.rel_of_pairwise_cons h ((m y).mp (by rw [q]; simp))
          omega
        refine List.pairwise_cons.mpr ⟨fun z hz => ?_, ih⟩
        rcases List.mem_cons.mp hz with rfl | hz
        · exact hy
        · have := List.rel_of_pairwise_cons ih hz; omega
def sortU (ns : List Int) : List Int := dedS (sortI ns)
theorem sortU_lt (ns : List Int) : (sortU ns).Pairwise (· < ·) := dedS_lt (sortI_le ns)
theorem sortU_mem (ns : List Int) (k : Int) : k ∈ sortU ns ↔ k ∈ ns := (dedS_mem _ k).trans (sortI_perm ns).mem_iff
theorem lt_uniq : ∀ {a b : List Int}, a.Pairwise (· < ·) → b.Pairwise (· < ·) → (∀ k, k ∈ a ↔ k ∈ b) → a = b
  | [], [], _, _, _ => rfl
  | [], y :: b, _, _, h => absurd ((h y).mpr (by simp)) (by simp)
  | x :: a, [], _, _, h => absurd ((h x).mp (by simp)) (by simp)
  | x :: a, y :: b, ha, hb, h => by
    have e : x = y := by
      rcases List.mem_cons.mp ((h x).mp (by simp)) with e | hx
      · exact e
      · rcases List.mem_cons.mp ((h y).mpr (by simp)) with e | hy
        · exact e.symm
        · have h1 := List.rel_of_pairwise_cons ha hy
          have h2 := List.rel_of_pairwise_cons hb hx
          omega
    subst e
    rw [lt_uniq ha.of_cons hb.of_cons fun k => ?_]
    have hk := h k
    rw [List.mem_cons, List.mem_cons] at hk
    constructor
    · intro z
      have := List.rel_of_pairwise_cons ha z
      rcases hk.mp (.inr z) with e | e
      · omega
      · exact e
    · intro z
      have := List.rel_of_pairwise_cons hb z
      rcases hk.mpr (.inr z) with e | e
      · omega
      · exact e
theorem sortU_len (ns : List Int) : (sortU ns).length ≤ ns.length := by
  have : ∀ xs : List Int, (dedS xs).length ≤ xs.length := by
    intro xs
    induction xs with
    | nil => simp [dedS]
    | cons x xs ih =>
      rw [dedS]
      cases h : dedS xs with
      | nil => simp
      | cons y ys =>
        rw [h] at ih
        by_cases e : x = y <;> simp [e] at ih ⊢ <;> omega
  exact Nat.le_trans (this _) (Nat.le_of_eq (sortI_perm ns).length_eq)
theorem nodup_lt {a : List Int} (h : a.Pairwise (· < ·)) : a.Nodup := h.imp fun z => by omega
theorem nodup_len {a b : List Int} (ha : a.Nodup) (hb : b.Nodup) (h : ∀ k, k ∈ a ↔ k ∈ b) : a.length = b.length := (List.perm_ext_iff_of_nodup ha hb |>.mpr h).length_eq
/-- set of a list or a tuple of ints -/
def rSetI (K : PySem.W.Frag) (w : World) : List V → Hp → VK → Prop := fun xs H Q => ∃ (l : Addr) (ns : List Int), xs = [V.ref l] ∧ (SqL K H l (ns.map V.int) ∨ SqT K H l (ns.map V.int)) ∧ ns.length ≤ 4000 ∧
  ∀ a, H a = none → Q (.ref a) (upd H a (SetO w a (fun j => decide (j ∈ ns)) (sortU ns).length))
theorem cr_setI {X : Cx} (hc : X.calm = true) : CallR X (.type "set") (rSetI X.K X.w) := by
  intro pins s σ H xs us Q I r h
  obtain ⟨l, ns, rfl, hl, hn, q⟩ := h
  rw [Vals.ref1 r]
  have fin : ∀ (g : Heap) (tk c : Nat), SetR X.w g s.heap.objs.size (fun j => decide (j ∈ ns)) c → c ≤ ns.length → (∀ b o, s.heap.get? b = some o → g.get? b = some o) → _ := fun g tk c a1 a2 a3 => by
    have ec : c = (sortU ns).length := by
      obtain ⟨o, es, ep, t, _, _, _, _, nd, hm, _, _, hsz, _⟩ := a1
      have : (es.toList.map keyOf).length = (sortU ns).length := nodup_len nd (nodup_lt (sortU_lt ns)) fun k => by
        rw [← hm k, decide_eq_true_eq, sortU_mem]
      rw [← this, List.length_map, Array.length_toList]
      exact hsz.symm
    subst ec
    exact (⟨.ref s.heap.objs.size, upd H s.heap.objs.size (SetO X.w s.heap.objs.size (fun j => decide (j ∈ ns)) _), I.laid (t' := tk) a3 (Nat.le_refl _) (setO_new a1), rfl, q _ (I.hok.fresh (Nat.le_refl _))⟩ : ∃ v H', Inv X pins σ H' { s with heap := g, toks := tk } ∧ RelV v (.ref s.heap.objs.size) ∧ Q v H')
  rcases hl with hl | hl
  · obtain ⟨its, rv, pl, hz⟩ := I.list hl
    exact call_set_lstI ns (I.ok.hd hc) pl.isList (by simpa using ints_of_vals rv) (by unfold scanBound; omega) fin
  · obtain ⟨its, rv, pl, hz⟩ := I.tuple hl
    exact call_set_tupI ns (I.ok.hd hc) pl (by simpa using ints_of_vals rv) (by unfold scanBound; omega) fin
/-- len of a set of ints -/
def rLenS (w : World) : List V → Hp → VK → Prop := fun vs H Q => ∃ (a : Addr) (S : Int → Bool) (n : Nat), vs = [V.ref a] ∧ H a = some (SetO w a S n) ∧ Q (.int n) H
theorem cr_lenS {X : Cx} : CallR X (.builtin "len") (rLenS X.w) := by
  intro pins s σ H vs us Q I r h
  obtain ⟨a, S, n, rfl, ha, q⟩ := h
  obtain ⟨o, es, ep, t, ho, hex, hd, _, _, _, hb, hf, hsz, _⟩ := setO_get I ha
  rw [Vals.ref1 r]
  unfold scanBound at hb
  exact call_len_set ho hex hd hf (by omega) ⟨.int n, H, I.tok _, ⟨_, by rw [hsz]⟩, q⟩
def gSortU : GNN := fun ds M => match ds with
  | [d] => (sqOf d M).bind fun xs => (intsOf xs).bind fun ns => if ns.length < 64 then some ((sortU ns).map D.int) else none
  | _ => none
def gLenU : GN := fun ds M => match ds with
  | [d] => (sqOf d M).bind fun xs => (intsOf xs).bind fun ns => if ns.length ≤ 4000 then some (.int (sortU ns).length) else none
  | _ => none
theorem gSortU_ok {ds xs : List D} {M : Mem} (h : gSortU ds M = some xs) : ∃ d l ns, ds = [d] ∧ sqOf d M = some l ∧ intsOf l = some ns ∧ ns.length < 64 ∧ xs = (sortU ns).map D.int := by
  unfold gSortU at h
  split at h
  · obtain ⟨l, hl, h⟩ := Option.bind_eq_some_iff.mp h
    obtain ⟨ns, hn, h⟩ := Option.bind_eq_some_iff.mp h
    split at h
    · rename_i h64
      cases h
      exact ⟨_, l, ns, rfl, hl, hn, h64, rfl⟩
    · cases h
  · cases h
theorem gLenU_ok {ds : List D} {x : D} {M : Mem} (h : gLenU ds M = some x) : ∃ d l ns, ds = [d] ∧ sqOf d M = some l ∧ intsOf l = some ns ∧ ns.length ≤ 4000 ∧ x = .int (sortU ns).length := by
  unfold gLenU at h
  split at h
  · obtain ⟨l, hl, h⟩ := Option.bind_eq_some_iff.mp h
    obtain ⟨ns, hn, h⟩ := Option.bind_eq_some_iff.mp h
    split at h
    · rename_i h64
      cases h
      exact ⟨_, l, ns, rfl, hl, hn, h64, rfl⟩
    · cases h
  · cases h
section
variable {X : Cx} {e : Expr} {fa : FA} {p1 p2 pos1 pos : Pos}
theorem sqI {K : PySem.W.Frag} {W : Wo} {M : Mem} {d : D} {v : V} {xs : List D} {ns : List Int} (sr : SR K W M) (r : Rp K W d v) (hl : sqOf d M = some xs) (hn : intsOf xs = some ns) : ∃ l, v = V.ref l ∧ (SqL K W.H l (ns.map V.int) ∨ SqT K W.H l (ns.map V.int)) := by
  obtain ⟨l, us, rfl, h1, r2⟩ := sq_sq sr r hl
  have ee := intsOf_ok hn r2
  subst ee
  exact ⟨l, rfl, h1⟩
/-- sorted(set(xs)), of ints -/
theorem pfn_sortU (hgs : Gl X "sorted") (hms : X.mg "sorted" = none) (hg : Gl X "set") (hm : X.mg "set" = none) (ha : PFA X [e] fa) (hc : X.calm = true := by rfl)
    (he : starEach [e] X.env = (false, eval e X.env) :: starEach [] X.env := by rfl) (he2 : starEach [.Call (.Name "set" p2) [e] [] pos1] X.env = (false, eval (.Call (.Name "set" p2) [e] [] pos1) X.env) :: starEach [] X.env := by rfl)
    : PFN X (.Call (.Name "sorted" p1) [.Call (.Name "set" p2) [e] [] pos1] [] pos) (fBN gSortU fa) :=
  pe_weak (pe_callB (cr_sortedSet hc) hgs hms PyProof.Rows.boot_sorted (pa_cons (pe_callTy (cr_setI hc) hg hm PyProof.Rows.boot_set ha (by decide) (by decide) he (by rfl)) pa_nil he2) (by decide) (by decide) he2 (by rfl)) fun σ H Q => by
  rintro ⟨W, ρ, M, rfl, sr, sl, d, M', hf, k⟩
  obtain ⟨⟨ds, M1⟩, hx, hf⟩ := Option.bind_eq_some_iff.mp hf
  obtain ⟨d', hg, hf⟩ := Option.bind_eq_some_iff.mp hf
  cases hf
  refine ⟨W, ρ, M, rfl, sr, sl, ds, _, hx, fun W1 vs e1 s1 r1 => ?_⟩
  obtain ⟨d0, l, ns, rfl, hl, hn, h64, rfl⟩ := gSortU_ok hg
  obtain ⟨v, rfl, r2⟩ := rl1 r1
  obtain ⟨p, rfl, h1⟩ := sqI s1 r2 hl hn
  refine ⟨p, ns, rfl, h1, by omega, fun a ha => ?_⟩
  refine ⟨a, _, _, rfl, upd_same, Nat.lt_of_le_of_lt (sortU_len ns) h64, fun ns' q hlt hmem hlen hq => ?_⟩
  have ee : ns' = sortU ns := lt_uniq hlt (sortU_lt ns) fun k => by rw [hmem k, decide_eq_true_eq, sortU_mem]
  subst ee
  exact k (W1.put a _) q _ (e1.trans (Ext.put ha)) (s1.put ha) hq (rpl_ints _) (by rw [List.length_map]; have := sortU_len ns; show _ ≤ 16777216; omega)
/-- len(set(xs)), of ints -/
theorem pf_lenU (hgs : Gl X "len") (hms : X.mg "len" = none) (hg : Gl X "set") (hm : X.mg "set" = none) (ha : PFA X [e] fa) (hc : X.calm = true := by rfl)
    (he : starEach [e] X.env = (false, eval e X.env) :: starEach [] X.env := by rfl) (he2 : starEach [.Call (.Name "set" p2) [e] [] pos1] X.env = (false, eval (.Call (.Name "set" p2) [e] [] pos1) X.env) :: starEach [] X.env := by rfl)
    : PFE X (.Call (.Name "len" p1) [.Call (.Name "set" p2) [e] [] pos1] [] pos) (fB gLenU fa) :=
  pe_weak (pe_callB cr_lenS hgs hms boot_len (pa_cons (pe_callTy (cr_setI hc) hg hm PyProof.Rows.boot_set ha (by decide) (by decide) he (by rfl)) pa_nil he2) (by decide) (by decide) he2 (by rfl)) fun σ H Q => by
  rintro ⟨W, ρ, M, rfl, sr, sl, d, M', hf, k⟩
  obtain ⟨⟨ds, M1⟩, hx, hf⟩ := Option.bind_eq_some_iff.mp hf
  obtain ⟨d', hg, hf⟩ := Option.bind_eq_some_iff.mp hf
  cases hf
  refine ⟨W, ρ, M, rfl, sr, sl, ds, _, hx, fun W1 vs e1 s1 r1 => ?_⟩
  obtain ⟨d0, l, ns, rfl, hl, hn, h64, rfl⟩ := gLenU_ok hg
  obtain ⟨v, rfl, r2⟩ := rl1 r1
  obtain ⟨p, rfl, h1⟩ := sqI s1 r2 hl hn
  refine ⟨p, ns, rfl, h1, by omega, fun a ha => ?_⟩
  exact ⟨a, _, _, rfl, upd_same, k (W1.put a _) _ (e1.trans (Ext.put ha)) (s1.put ha) rfl⟩
end
end PF
namespace PF
open PySem PySem.Spec PyProof.Rows L2
/-! xs += ys, of lists -/
def gIExt : G2M := fun x y M => (mlOf x M).bind fun l => (ltOf y M).bind fun ys => if l.2.length + ys.length ≤ LINE then some (x, M.set l.1 (.lst (l.2 ++ ys))) else none
theorem o_iext {K : PySem.W.Frag} : Op2M K rExt2 gIExt := by
  intro W M M' x y d v u Q sr rx ry hg k
  obtain ⟨⟨n, xs⟩, hl, hg⟩ := Option.bind_eq_some_iff.mp hg
  obtain ⟨ys, hy, hg⟩ := Option.bind_eq_some_iff.mp hg
  split at hg
  · rename_i hz
    cases hg
    have rx0 := rx
    obtain ⟨a, ws, rfl, ha, hH, rw_, hlen⟩ := ml_ok sr rx hl
    obtain ⟨b, us, rfl, hB, ru⟩ := lt_sq sr ry hy
    have e := Ext.wr (W := W) (o := .lst (ws ++ us)) (List.mem_of_getElem? ha)
    exact ⟨a, b, ws, us, rfl, rfl, hH, hB, by rw [line_eq, ← rw_.len, ← ru.len]; exact hz, k _ _ e (sr.wr ha (rw_.append ru) (by rw [List.length_append, ← rw_.len, ← ru.len]; exact hz)) (rx0.ext e sr.sub)⟩
  · cases hg
end PF
namespace PF
open PySem PySem.Spec PyProof.Rows L2
/-! a tuple of targets for a list -/
def tTL (n : Nat) (t : FGs) : FG := fun d ρ => match d with | .lst xs => if xs.length = n then t xs ρ else none | _ => none
theorem pfg_lst {X : Cx} {vs : List Nat} {es : List Expr} {k : Nat} {t : FGs} {n : Nat} {pos : Pos} (hc : X.calm = true) (h : PFGs X vs es t) (hn : (assignEach es X.env).length = n := by rfl) (hst : (assignEach es X.env).findIdx? (·.1) = none := by rfl) : PFG X vs (.Tuple es k pos) (tTL n t) := pg_weak (pg_lst hc h hn hst) fun v σ H E => by
  rintro ⟨W, ρ, M, d, rfl, sr, sl, r, ρ', ht, k⟩
  unfold tTL at ht
  split at ht
  · split at ht
    · rename_i hl
      obtain ⟨a, vs, rfl, h1, q1⟩ := ls_sq sr r rfl
      exact ⟨a, vs, rfl, h1, by rw [← q1.len]; exact hl, W, ρ, M, _, rfl, sr, sl, q1, ρ', ht, k⟩
    · cases ht
  · cases ht
/-! tuple(range(..)) -/
def fTupRg1 (f : FA) : FE := fun ρ M => (f ρ M).bind fun a => match a.1 with | [.int j] => if okR 0 j then some (.tup (rgD 0 j.toNat), a.2) else none | _ => none
section
variable {X : Cx} {a : Expr}
theorem pf_tupRg1 {f : FA} {p p2 pos pos2 : Pos} (hc : X.calm = true) (hg : Gl X "tuple") (hm : X.mg "tuple" = none) (hg2 : Gl X "range") (hm2 : X.mg "range" = none) (ha : PFA X [a] f)
    (hs : starEach [a] X.env = [(false, eval a X.env)] := by rfl) (na : starEach [Expr.Call (.Name "range" p2) [a] [] pos2] X.env = (false, eval (Expr.Call (.Name "range" p2) [a] [] pos2) X.env) :: starEach [] X.env := by rfl) :
    PFE X (.Call (.Name "tuple" p) [.Call (.Name "range" p2) [a] [] pos2] [] pos) (fTupRg1 f) := pe_weak (pe_tupRg hc hg hm (prg_A1 hg2 hm2 ha hs) na) fun σ H Q => by
  rintro ⟨W, ρ, M, rfl, sr, sl, xs, M', hf, k⟩
  obtain ⟨⟨x, M1⟩, hx, hf⟩ := Option.bind_eq_some_iff.mp hf
  dsimp only at hf
  split at hf
  · split at hf
    · rename_i j hr
      cases hf
      refine ⟨W, ρ, M, rfl, sr, sl, _, _, hx, fun W1 v e1 s1 r1 => ?_⟩
      obtain ⟨v1, r, rfl, q1, q2⟩ := r1
      cases (show _ = _ from q1); cases (show _ = _ from q2)
      refine ⟨_, rfl, rgok_of hr, fun q hq => ?_⟩
      have e2 : rgV 0 j = (List.range j.toNat).map fun (i : Nat) => V.int (0 + i) := by
        unfold rgV; simp
      rw [e2]
      have hr2 := okR_ok hr
      exact k _ _ (e1.trans (Ext.put hq)) (s1.put hq) (.newTup s1 hq (rpl_rg X.K W1 0 (List.range j.toNat)) (by rw [List.length_map, List.length_range]; show _ ≤ 16777216; omega))
    · cases hf
  · cases hf
end
end PF
namespace PF
open PySem PySem.Spec PyProof.Rows L2
/-! a block of statements whose own new lists nobody changes behind it: they are frozen at its end -/
def frE (m : Nat) (M1 : Mem) : D → Option D
  | .ref j => if j < m then some (.ref j) else match M1[j]? with
    | some mo => if mo.nr = true then some mo.fz else none
    | none => none
  | d => if d.nr = true then some d else none
def frL (m : Nat) (M1 : Mem) : List D → Option (List D)
  | [] => some []
  | d :: ds => (frE m M1 d).bind fun e => (frL m M1 ds).bind fun es => some (e :: es)
def frMs (m : Nat) (M1 : Mem) : Mem → Option Mem
  | [] => some []
  | .lst xs :: ms => (frL m M1 xs).bind fun ys => (frMs m M1 ms).bind fun ns => some (.lst ys :: ns)
  | .dct ks vs :: ms => if (D.nrs ks && D.nrs vs) = true then (frMs m M1 ms).bind fun ns => some (.dct ks vs :: ns) else none
  | .lck o ks vs :: ms => if (D.nrs ks && D.nrs vs) = true then (frMs m M1 ms).bind fun ns => some (.lck o ks vs :: ns) else none
def frS (m : Nat) (M1 : Mem) (ρ : Rho) : Rho := ρ.map fun o => o.bind fun d => frE m M1 d
def sBlk (f : FS) : FS := fun ρ M => (f ρ M).bind fun o => (frMs M.length o.2 (o.2.take M.length)).bind fun M' => match o.1 with
  | .nx ρ1 => some (.nx (frS M.length o.2 ρ1), M')
  | .bk ρ1 => some (.bk (frS M.length o.2 ρ1), M')
  | .ct ρ1 => some (.ct (frS M.length o.2 ρ1), M')
  | .ret d => (frE M.length o.2 d).bind fun e => some (.ret e, M')
def cutW (W : Wo) (m : Nat) : Wo := ⟨W.as.take m, fun a => W.bad a ∧ a ∉ W.as.drop m, W.H⟩
section
variable {K : PySem.W.Frag} {W W1 : Wo} {M M1 : Mem}
theorem frE_ok {m : Nat} {d e : D} {v : V} (s : SR K W1 M1) (r : Rp K W1 d v) (h : frE m M1 d = some e) : Rp K (cutW W1 m) e v := by
  have other : (if d.nr = true then some d else none) = some e → Rp K (cutW W1 m) e v := fun h => by
    split at h
    · rename_i hn
      cases h
      exact Rp.nr (W := W1) (W' := cutW W1 m) rfl (fun _ z => z.1) _ _ hn r
    · cases h
  cases d with
  | ref j =>
    have h : (if j < m then some (D.ref j) else match M1[j]? with
      | some mo => if mo.nr = true then some mo.fz else none
      | none => none) = some e := h
    obtain ⟨a, h1, rfl⟩ := r
    by_cases hj : j < m
    · rw [if_pos hj] at h
      cases h
      exact ⟨a, by show (W1.as.take m)[j]? = _; rw [List.getElem?_take_of_lt hj]; exact h1, rfl⟩
    · rw [if_neg hj] at h
      split at h
      · rename_i mo0 hx
        split at h
        · rename_i hn
          cases h
          have q1 := s.obj j a _ h1 hx
          have hd : a ∈ W1.as.drop m := by
            have : (W1.as.drop m)[j - m]? = some a := by rw [List.getElem?_drop, show m + (j - m) = j by omega]; exact h1
            exact List.mem_of_getElem? this
          exact (MoOk.nr (W := W1) (W' := cutW W1 m) rfl (fun _ z => z.1) hn q1).fz fun z => z.2 hd
        · cases h
      · cases h
  | non => exact other h
  | bl _ => exact other h
  | int _ => exact other h
  | str _ => exact other h
  | tup _ => exact other h
  | lst _ => exact other h
  | kst _ => exact other h
  | dct _ _ => exact other h
theorem frL_ok {m : Nat} (s : SR K W1 M1) : ∀ {ds es : List D} {vs : List V}, RpL K W1 ds vs → frL m M1 ds = some es → RpL K (cutW W1 m) es vs
  | [], _, _, r, h => by cases h; exact r
  | d :: ds, es, vs, r, h => by
    obtain ⟨v, w, rfl, r1, r2⟩ := r
    obtain ⟨e, h1, h⟩ := Option.bind_eq_some_iff.mp h
    obtain ⟨es', h2, h⟩ := Option.bind_eq_some_iff.mp h
    cases h
    exact ⟨v, w, rfl, frE_ok s r1 h1, frL_ok s r2 h2⟩
theorem frMs_at {m : Nat} (s : SR K W1 M1) : ∀ {ms ns : Mem}, frMs m M1 ms = some ns → ms.length = ns.length ∧ ∀ (n : Nat) (mo : MO), ns[n]? = some mo → ∃ mo0, ms[n]? = some mo0 ∧ ∀ a, MoOk K W1 a mo0 → MoOk K (cutW W1 m) a mo
  | [], ns, h => by cases h; exact ⟨rfl, fun n mo h => by simp at h⟩
  | .lst xs :: ms, ns, h => by
    obtain ⟨ys, h1, h⟩ := Option.bind_eq_some_iff.mp h
    obtain ⟨ns', h2, h⟩ := Option.bind_eq_some_iff.mp h
    cases h
    obtain ⟨l, a⟩ := frMs_at s h2
    refine ⟨by simp [l], fun n mo hn => ?_⟩
    cases n with
    | zero =>
      simp at hn
      subst hn
      exact ⟨_, rfl, fun a ⟨vs, q1, q2⟩ => ⟨vs, q1, frL_ok s q2 h1⟩⟩
    | succ n => exact a n mo (by simpa using hn)
  | .dct ks vs :: ms, ns, h => by
    unfold frMs at h
    split at h
    · rename_i hn0
      obtain ⟨ns', h2, h⟩ := Option.bind_eq_some_iff.mp h
      cases h
      obtain ⟨l, a⟩ := frMs_at s h2
      refine ⟨by simp [l], fun n mo hn => ?_⟩
      cases n with
      | zero =>
        simp at hn
        subst hn
        exact ⟨_, rfl, fun a q => MoOk.nr (W := W1) (W' := cutW W1 m) rfl (fun _ z => z.1) hn0 q⟩
      | succ n => exact a n mo (by simpa using hn)
    · cases h
  | .lck o ks vs :: ms, ns, h => by
    unfold frMs at h
    split at h
    · rename_i hn0
      obtain ⟨ns', h2, h⟩ := Option.bind_eq_some_iff.mp h
      cases h
      obtain ⟨l, a⟩ := frMs_at s h2
      refine ⟨by simp [l], fun n mo hn => ?_⟩
      cases n with
      | zero =>
        simp at hn
        subst hn
        exact ⟨_, rfl, fun a q => MoOk.nr (W := W1) (W' := cutW W1 m) rfl (fun _ z => z.1) hn0 q⟩
      | succ n => exact a n mo (by simpa using hn)
    · cases h
theorem cut_ok {M' : Mem} (sr : SR K W M) (ex : Ext W W1) (s : SR K W1 M1) (h : frMs M.length M1 (M1.take M.length) = some M') : Ext W (cutW W1 M.length) ∧ SR K (cutW W1 M.length) M' := by
  obtain ⟨new, ea, fr⟩ := ex.as
  have hl := sr.len
  have ht : W1.as.take M.length = W.as := by rw [ea, ← hl, List.take_left]
  have hd : W1.as.drop M.length = new := by rw [ea, ← hl, List.drop_left]
  obtain ⟨l, at_⟩ := frMs_at s h
  have hlen : (cutW W1 M.length).as.length = M'.length := by
    show (W1.as.take M.length).length = _
    rw [← l, ht, List.length_take, ← s.len, ea, List.length_append]
    omega
  refine ⟨⟨⟨[], by show W1.as.take M.length = _; rw [ht, List.append_nil], fun _ z => by simp at z⟩, fun a z => ⟨ex.bad a z, fun q => ?_⟩, fun a z => ex.new a z.1, ex.keep, ex.live⟩, ⟨hlen, ?_, fun a z => ?_, fun a z => s.bt a z.1, fun n a mo h1 h2 => ?_⟩⟩
  · rw [hd] at q
    obtain ⟨o, ho⟩ := sr.bt a z
    rw [fr a q] at ho; cases ho
  · show (W1.as.take M.length).Nodup
    rw [ht]; exact sr.nd
  · have z1 : a ∈ W.as := by rw [← ht]; exact z
    refine ⟨s.sub a (by rw [ea]; exact List.mem_append_left _ z1), fun q => ?_⟩
    rw [hd] at q
    obtain ⟨o, ho⟩ := sr.bt a (sr.sub a z1)
    rw [fr a q] at ho; cases ho
  · obtain ⟨mo0, g1, g2⟩ := at_ n mo h2
    have hn : n < M.length := by
      have := (List.getElem?_eq_some_iff.mp g1).1
      rw [List.length_take] at this; omega
    have h1' : W1.as[n]? = some a := by
      have : (W1.as.take M.length)[n]? = some a := h1
      rw [List.getElem?_take_of_lt hn] at this; exact this
    have g1' : M1[n]? = some mo0 := by rw [List.getElem?_take_of_lt hn] at g1; exact g1
    exact g2 a (s.obj n a _ h1' g1')
theorem frS_ok {m : Nat} {ρ : Rho} {σ : L2.St} (s : SR K W1 M1) (h : Sl K W1 ρ σ) : Sl K (cutW W1 m) (frS m M1 ρ) σ := by
  refine ⟨by unfold frS; rw [List.length_map]; exact h.len, fun i d hi => ?_⟩
  unfold frS at hi
  rw [List.getElem?_map] at hi
  cases q : ρ[i]? with
  | none => rw [q] at hi; cases hi
  | some o =>
    rw [q] at hi
    cases o with
    | none => cases hi
    | some d0 =>
      have hi2 : frE m M1 d0 = some d := by simpa using hi
      obtain ⟨v, h1, h2⟩ := h.at_ i d0 q
      exact ⟨v, h1, frE_ok s h2 hi2⟩
end
theorem pfss_blk {X : Cx} {ss : List Stmt} {f : FS} (h : PFSs X ss f) : PFSs X ss (sBlk f) := pss_weak h fun E σ H => by
  rw [liftS_iff, liftS_iff]
  rintro ⟨W, ρ, M, rfl, sr, sl, o', M', hf, k⟩
  obtain ⟨⟨o, M1⟩, hg, hf⟩ := Option.bind_eq_some_iff.mp hf
  obtain ⟨M2, hm, hf⟩ := Option.bind_eq_some_iff.mp hf
  refine ⟨W, ρ, M, rfl, sr, sl, o, M1, hg, ?_⟩
  cases o with
  | nx ρ1 =>
    cases hf
    intro W1 σ1 e1 s1 l1
    obtain ⟨c1, c2⟩ := cut_ok sr e1 s1 hm
    exact k (cutW W1 M.length) σ1 c1 c2 (frS_ok s1 l1)
  | bk ρ1 =>
    cases hf
    intro W1 σ1 e1 s1 l1
    obtain ⟨c1, c2⟩ := cut_ok sr e1 s1 hm
    exact k (cutW W1 M.length) σ1 c1 c2 (frS_ok s1 l1)
  | ct ρ1 =>
    cases hf
    intro W1 σ1 e1 s1 l1
    obtain ⟨c1, c2⟩ := cut_ok sr e1 s1 hm
    exact k (cutW W1 M.length) σ1 c1 c2 (frS_ok s1 l1)
  | ret d =>
    obtain ⟨e, he, hf⟩ := Option.bind_eq_some_iff.mp hf
    cases hf
    intro W1 v e1 s1 r1
    obtain ⟨c1, c2⟩ := cut_ok sr e1 s1 hm
    exact k (cutW W1 M.length) v c1 c2 (frE_ok s1 r1 he)
end PF
namespace PF
open PySem PySem.Spec PyProof.Rows L2
/-! t * 0 of a tuple -/
theorem mul_zero (l : Addr) (items : Array Value) (n : Nat) (dd : Option Addr) (sl : Array (Option Value)) (u : Tok) (he : items.isEmpty = false) :
    Meets (Builtin.«tuple.__mul__» ⟨[.ref l, .int 0 u], []⟩) (fun _ R s => s.heap.get? l = some { cls := .type "tuple", dict := dd, data := .seq items n, slots := sl } ∧
      R (.ok (.ret (Value.ref s.heap.objs.size))) { s with heap := s.heap.push { cls := Value.type "tuple", data := Data.seq #[] }, toks := s.toks }) :=
  .of_wp fun prog w A R s h => by
    obtain ⟨hp, g, d, tk, os⟩ := s
    obtain ⟨hl, h⟩ := h
    have f1 := AutoSeq1.idx_int
    have c1 : (items.isEmpty || (0 : Int) == 1) = false := by rw [he]; rfl
    have c2 : (decide ((0 : Int) ≤ 0) || items.isEmpty) = true := by simp
    wp_walk using wpAny_loadPart' hl
    repeat (first
      | (refine wpAny_ite_false (decide_eq_false (by decide)) ?_; wp_walk using wpAny_loadPart' hl)
      | (refine wpAny_ite_false (decide_eq_false (by rw [c1]; exact Bool.false_ne_true)) ?_; wp_walk using wpAny_loadPart' hl)
      | (refine wpAny_ite_true (decide_eq_true (by rw [c2])) ?_; wp_walk using wpAny_loadPart' hl))
    exact ⟨_, rfl, h⟩
def rRep0 (K : PySem.W.Frag) : R2 := fun x y H Q => ∃ l xs, x = .ref l ∧ y = .int 0 ∧ SqT K H l xs ∧ xs ≠ [] ∧ ∀ p, H p = none → Q (.ref p) (upd H p (.tup []))
theorem op_rep0 {X : Cx} : OpR X (binaryOp .Mult) (rRep0 X.K) := by
  intro pins s σ H x y v u Q I rx ry h
  obtain ⟨l, xs, rfl, rfl, hT, hne, q⟩ := h
  cases rx
  obtain ⟨t, rfl⟩ := ry
  obtain ⟨its, r, ⟨⟨cls, dd, data, sl⟩, ho, hc, n, hd⟩, hs⟩ := I.tuple hT
  simp only at hc hd
  subst hc hd
  have hle : its.length = xs.length := r.length.symm
  have hi : its.toArray.isEmpty = false := by
    cases its with
    | nil => exact absurd (List.eq_nil_of_length_eq_zero hle.symm) hne
    | cons a b => rfl
  refine wpAny_binaryOp_repeat_ref (T := "tuple") (U := "int") (by decide) ⟨_, ho, rfl⟩ (fun s' => typeIs_int s' 0 t) noFill_tuple_mul F.fills_int_mul F.slot_int_rmul repeat_tuple F.slot_int_index.lookup
    (call_meets F.slot_int_rmul (typeIs_int s 0 t) F.entry_int_rmul (F.args_int_rmul_2 _ _) (int_rmul_tuple 0 t l its.toArray n dd sl)
      ⟨ho, rfl, ⟨_, ho, rfl⟩, call_meets F.slot_tuple_mul ⟨_, ho, rfl⟩ F.entry_tuple_mul (F.args_tuple_mul_2 _ _) (mul_zero l its.toArray n dd sl t hi) ⟨ho, ?_⟩⟩)
  refine ⟨.ref s.heap.objs.size, _, I.laid (t' := s.toks) (o := .tup []) (fun b ob q => Heap.get?_push_of_some _ q) (Nat.le_refl _) ?_, rfl, q _ (I.hok.fresh (Nat.le_refl _))⟩
  exact ⟨Nat.zero_le _, _, (r.rep 0), IsTup.new _ _⟩
def rRepZ (K : PySem.W.Frag) : R2 := fun x y H Q => rRepA K x y H Q ∨ rRep0 K x y H Q
theorem op_repZ {X : Cx} : OpR X (binaryOp .Mult) (rRepZ X.K) := op_repTA.or op_rep0
def gRepZ : G2 := fun x y M => match x, y with
  | .tup xs, .int j => if j = 0 then (if xs.isEmpty = true then none else some (.tup [])) else gRepT x y M
  | _, _ => none
theorem o_repZ {K : PySem.W.Frag} : Op2 K (rRepZ K) gRepZ := by
  intro W M x y d v u Q sr rx ry hg k
  unfold gRepZ at hg
  split at hg
  · rename_i xs j
    split at hg
    · rename_i hj
      subst hj
      split at hg
      · cases hg
      · rename_i he
        cases hg
        cases (show _ = _ from ry)
        obtain ⟨p, vs, rfl, h1, r1⟩ := tp_sq rx
        have hl := r1.len
        have hne : vs ≠ [] := by
          rintro rfl
          have : xs = [] := List.eq_nil_of_length_eq_zero hl
          subst this
          exact he rfl
        refine .inr ⟨p, vs, rfl, rfl, h1, hne, fun t nt => ?_⟩
        exact k _ _ (Ext.put nt) (sr.put nt) (.newTup sr nt (r1.rep 0) (Nat.zero_le _))
    · exact .inl (o_repT W M _ _ d v u Q sr rx ry hg k)
  · cases hg
end PF
namespace PF
open PySem PySem.Spec PyProof.Rows L2
/-! sorted(xs), xs a tuple -/
section
variable {prog : Program} {w : World} {A : Around} {E : Value → Shared → Prop} {s : Shared} {β : Type} {bs : List β} {enc : β → PyData} {R : Value → β → Prop}
theorem collectT {l : Addr} {vs : List Value} {Q : List Value → Shared → Prop} (hl : s.heap.IsTuple l vs.toArray) (hsz : vs.length ≤ sizeLine) (h : Q vs { s with heap := (s.heap.push (seqObj "list" #[] 0)).update s.heap.objs.size (Obj.mapSeq (· ++ vs.toArray)) }) : wpAny (model prog w) A (collect (.ref l)) Q E s := by
  obtain ⟨o, ho, hc, n, hd⟩ := hl; unfold collect; refine wpAny_bind (wpAny_runValue (codeAny_builtin entry_proto_collect' ?_))
  show wpAny _ _ (do again (.builtin "list.__iadd__" ⟨[← newList [], .ref l], []⟩)) _ _ s; refine wpAny_bind (wpAny_newList (wpAny_pure ⟨Code.quiet_builtin _ (by decide +kernel), codeAny_builtin entry_list_iadd' ?_⟩))
  show wpAny _ _ (Builtin.List.listExtendWith (.ref s.heap.objs.size) (.ref l) (.ref s.heap.objs.size)) _ _ { s with heap := s.heap.push (seqObj "list" #[] 0) }; unfold Builtin.List.listExtendWith
  have hp : (s.heap.push (seqObj "list" #[] 0)).get? l = some o := Heap.get?_push_of_some _ ho
  refine wpAny_bind (wpAny_typeOf (T := "tuple") ⟨o, hp, hc⟩ ?_); rw [if_pos (by rw [show (Value.type "tuple" == Value.type "tuple") = true by rfl]; simp)]; refine wpAny_bind (listItems_at hp hd ?_)
  refine wpAny_bind (listItems_at (xs := #[]) (n := 0) (Heap.get?_push_size _ rfl) rfl ?_); rw [if_neg (by simp)]
  refine wpAny_bind (listUpdate_at (xs := #[]) (n := 0) (Heap.get?_push_size _ rfl) rfl ?_ (Nat.zero_le _) (by show (#[] ++ vs.toArray).size ≤ sizeLine + 1; simp only [Array.size_append, List.size_toArray, List.length_nil]; omega)); refine wpAny_pure ?_
  show wpAny (model prog w) A (do (match (← load s.heap.objs.size).data with | .seq xs _ => pure xs.toList | _ => unsupported "internal:collect")) Q E { s with heap := (s.heap.push (seqObj "list" #[] 0)).update s.heap.objs.size (Obj.mapSeq (· ++ vs.toArray)) }
  refine wpAny_bind (wpAny_load (get?_update_seq (Heap.get?_push_size _ rfl) _) ?_); show wpAny _ _ (pure ((#[] : Array Value) ++ vs.toArray).toList) Q E _
  rw [show ((#[] : Array Value) ++ vs.toArray).toList = vs by simp]; exact wpAny_pure h
theorem sorted_ofTup {l : Addr} {vs : List Value} {Q : Value → Shared → Prop} (ht : s.heap.IsTuple l vs.toArray) (e : PySem.W.EachIs R vs bs) (er : PySem.W.EachIs (fun v b => ∃ as, Reads s.heap v (enc b) as) vs bs) (hal : PySem.W.AllAlike (bs.map enc)) (hk : Sortable2 (bs.map enc)) (hL : bs.length ≤ sizeLine)
    (hu : ∀ b, b ∈ bs → A.units + 2 + (enc b).depth < cLine)
    (h : ∀ out, out.length = bs.length → PySem.W.EachIs R out (bs.mergeSort (PySem.W.dataLe false enc)) → Q (.ref (s.heap.objs.size + 1)) { s with heap := sortedAll s.heap vs (List.toArray out) }) :
    wpAny (model prog w) A (call (.builtin "sorted") [.ref l]) Q E s := by
  have hl2 : vs.length ≤ sizeLine := by rw [e.length]; exact hL
  have er' : PySem.W.EachIs (fun v b => ∃ as, Reads (PySem.W.sortingHeap (PySem.W.copyHeap s.heap vs) (s.heap.objs.size + 1) vs) v (enc b) as) vs bs := er.mono fun _ _ ⟨as, r⟩ => ⟨as, PyProof.Rows.Reads.keeps (fun _ _ => PySem.W.sorting_copy_old) r⟩
  have hz : ((s.heap.push (seqObj "list" #[] 0)).update s.heap.objs.size (Obj.mapSeq (· ++ vs.toArray))).objs.size = s.heap.objs.size + 1 := (Heap.size_update _ _ _).trans (size_push' _ _)
  refine PySem.Calls.call_function_entry kind_sorted plain_sorted entry_sorted (args_sorted1 _) ?_; unfold Builtin.«sorted»
  refine wpAny_bind (m := checkCount "sorted" 1 1 _) (wpAny_pure ?_); refine wpAny_bind (collectT ht hl2 ?_)
  refine wpAny_bind (wpAny_newList ?_ hl2); show wpAny _ _ _ _ _ { s with heap := PySem.W.copyHeap s.heap vs }
  rw [hz]; refine wpAny_bind (wpAny_holding (wpAny_call_entry slot_list_sort ⟨_, PySem.W.copyHeap_at s.heap vs, rfl⟩ entry_list_sort (PySem.W.list_sort_vals (s := { s with heap := PySem.W.copyHeap s.heap vs }) (κ := PySem.W.dataKind (PySem.W.sortingHeap (PySem.W.copyHeap s.heap vs) (s.heap.objs.size + 1) vs) (bs.map enc)) (PySem.W.copyHeap_at s.heap vs)
    (sortsAt_any (s := { s with heap := PySem.W.sortingHeap (PySem.W.copyHeap s.heap vs) (s.heap.objs.size + 1) vs }) (PySem.W.each_map (R := fun v d => ∃ as, Reads (PySem.W.sortingHeap (PySem.W.copyHeap s.heap vs) (s.heap.objs.size + 1) vs) v d as) enc er') hal hk (PySem.W.bound_map (A := A.in1.in1) hu)) hl2 ⟨_, rfl, ?_⟩) (args_list_sort _)))
  exact wpAny_pure ⟨_, rfl, h _ (by rw [PySem.W.sortVals_length false rfl]; exact e.length) (PySem.W.sortVals_data false e er' hal)⟩
end
def rSortedT (K : PySem.W.Frag) : List V → Hp → VK → Prop := fun vs H Q => ∃ (a : Addr) (ys : List V) (ds : List PyData), vs = [V.ref a] ∧ SqT K H a ys ∧ ds.length = ys.length ∧ DpAll K H ys ds ∧ PySem.W.AllAlike ds ∧ Sortable2 ds ∧ PyData.depthAll ds ≤ 60 ∧
  ∀ p, H p = none → Q (.ref p) (upd H p (.lst (vsort ys ds)))
theorem cr_sortedT {X : Cx} (hu : X.A.units + 64 < cLine) : CallR X (.builtin "sorted") (rSortedT X.K) := by
  intro pins s σ H vs us Q I r h
  obtain ⟨a, ys, ds, rfl, hs, hlen, hd, hal, hsb, hdp, q⟩ := h
  obtain ⟨its, rv, hl, hz⟩ := I.tuple hs
  rw [Vals.ref1 r]
  obtain ⟨as, hr⟩ := Dp.readsAll I ds ys its hd rv
  have e1 := zip_snd ys ds hlen
  have hzl : (ys.zip ds).length = ys.length := by rw [List.length_zip, hlen, Nat.min_self]
  have ez := zip_each rv hlen
  have er : PySem.W.EachIs (fun v (b : V × PyData) => ∃ as, Reads s.heap v (Prod.snd b) as) its (ys.zip ds) := PySem.W.readsAll_each Prod.snd (by rw [e1]; exact hr)
  refine sorted_ofTup (enc := Prod.snd) (show s.heap.IsTuple a its.toArray from hl) ez er (by rw [e1]; exact hal) (by rw [e1]; exact hsb) (by rw [hzl]; exact hz) (fun b hb => ?_) fun out ho hout => ?_
  · have hm : b.2 ∈ ds := by rw [← e1]; exact List.mem_map.mpr ⟨b, hb, rfl⟩
    have := depth_le hm
    omega
  · obtain ⟨n, hn⟩ := sortedAll_at s.heap its out.toArray
    refine ⟨.ref (s.heap.objs.size + 1), upd H (s.heap.objs.size + 1) (.lst (vsort ys ds)), I.laid (t' := s.toks) (fun b o q => sortedAll_old q) (Nat.le_succ _) ⟨?_, out, n, each_vals hout, hn⟩, rfl, q _ (I.hok.fresh (Nat.le_succ _))⟩
    have : (vsort ys ds).length = ys.length := by unfold vsort; rw [List.length_map, (List.mergeSort_perm _ _).length_eq, hzl]
    rw [this]; exact hz
theorem cr_sortedA {X : Cx} (hu : X.A.units + 64 < cLine) : CallR X (.builtin "sorted") (fun vs H Q => rSortedDt X.K vs H Q ∨ rSortedT X.K vs H Q) := by
  intro pins s σ H vs us Q I r h
  rcases h with h | h
  · exact cr_sortedDt hu pins s σ H vs us Q I r h
  · exact cr_sortedT hu pins s σ H vs us Q I r h
def gSortA : GNN := fun ds M => match ds with
  | [d] => (sqOf d M).bind fun xs => if (okAl xs && srtb xs) = true then some (sortD xs) else none
  | _ => none
theorem o_sortA {K : PySem.W.Frag} : OpNN K (fun vs H Q => rSortedDt K vs H Q ∨ rSortedT K vs H Q) gSortA := by
  intro W M ds xs vs Q sr r hg k
  unfold gSortA at hg
  split at hg
  · rename_i d
    have old : gSortD [d] M = some xs → rSortedDt K vs W.H Q ∨ rSortedT K vs W.H Q := fun hg => .inl (o_sortD W M [d] xs vs Q sr r hg k)
    cases d with
    | tup l =>
      have hg' : (if (okAl l && srtb l) = true then some (sortD l) else none) = some xs := hg
      split at hg'
      · rename_i ok
        cases hg'
        rw [Bool.and_eq_true] at ok
        obtain ⟨o1, o2⟩ := okAl_ok ok.1
        obtain ⟨v, rfl, r1⟩ := rl1 r
        have hz := sq_len sr r1 (xs := l) rfl
        obtain ⟨p, us, rfl, h1, r2⟩ := tp_sq r1
        have hlen : (D.pys l).length = us.length := by rw [pys_map, List.length_map]; exact r2.len
        refine .inr ⟨p, us, D.pys l, rfl, h1, hlen, dp_Dps 59 l us o1 r2, o2, srtb_ok ok.2, by have := (dps_can 59 l o1).2; omega, fun q hq => ?_⟩
        have r3 := sort_rep r2
        refine k q _ hq r3 ?_
        rw [← r3.len, show (sortD l).length = l.length from (List.mergeSort_perm _ _).length_eq]
        exact hz
      · cases hg'
    | _ => exact old hg
  · cases hg
/-! a tuple of targets, for a tuple or a list -/
def tTA (n : Nat) (t : FGs) : FG := fun d ρ => match d with
  | .lst xs => if xs.length = n then t xs ρ else none
  | d => tT n t d ρ
theorem pfg_any {X : Cx} {vs : List Nat} {es : List Expr} {k : Nat} {t : FGs} {n : Nat} {pos : Pos} (hc : X.calm = true) (h : PFGs X vs es t) (hn : (assignEach es X.env).length = n := by rfl) (hst : (assignEach es X.env).findIdx? (·.1) = none := by rfl) : PFG X vs (.Tuple es k pos) (tTA n t) := by
  refine ⟨fun pins s σ H v u Q I r hw => ?_⟩
  obtain ⟨W, ρ, M, d, hW, sr, sl, rp, ρ', ht, kk⟩ := hw
  have tup : tT n t d ρ = some ρ' → wpAny (model X.prog X.w) X.A (assign (.Tuple es k pos) X.env u) (fun _ s' => ∃ σ' H', Inv X pins σ' H' s' ∧ Q σ' H') X.xe s := fun ht => (pfg_tup hc h hn hst).run pins s σ H v u Q I r ⟨W, ρ, M, d, hW, sr, sl, rp, ρ', ht, kk⟩
  cases d with
  | lst xs => exact (pfg_lst hc h hn hst).run pins s σ H v u Q I r ⟨W, ρ, M, .lst xs, hW, sr, sl, rp, ρ', ht, kk⟩
  | _ => exact tup ht
/-! x -= y, x *= y of ints -/
def gISub : G2M := fun x y M => match x, y with
  | .int i, .int j => some (.int (i - j), M)
  | _, _ => none
theorem o_isub {K : PySem.W.Frag} : Op2M K (rI0 fun i j => .int (i - j)) gISub := by
  intro W M M' x y d v u Q sr rx ry hg k
  unfold gISub at hg
  split at hg
  · cases hg
    cases rx; cases ry
    exact ⟨_, _, rfl, rfl, k W _ (.refl W) sr rfl⟩
  · cases hg
def gIMul : G2M := fun x y M => match x, y with
  | .int i, .int j => if okMul i j = true then some (.int (i * j), M) else none
  | _, _ => none
theorem iop_imulA {X : Cx} : OpR X (inplaceOp .Mult) (rI IntMulOk fun i j => .int (i * j)) := opI fun _ _ _ _ _ _ _ hc q => imul_int q hc
theorem o_imul {K : PySem.W.Frag} : Op2M K (rI IntMulOk fun i j => .int (i * j)) gIMul := by
  intro W M M' x y d v u Q sr rx ry hg k
  unfold gIMul at hg
  split at hg
  · split at hg
    · rename_i h
      cases hg
      cases rx; cases ry
      exact ⟨_, _, rfl, rfl, okMul_ok h, k W _ (.refl W) sr rfl⟩
    · cases hg
  · cases hg
/-! xs * n of lists, as a new list -/
def gRep : D → D → Mem → Option (List D) := fun x y M => match y with
  | .int j => match ltOf x M with
    | some xs => if (decide (-(9223372036854775808) ≤ j) && (decide (j < 9223372036854775808) && decide (xs.length * j.toNat ≤ LINE))) = true then some (List.replicate j.toNat xs).flatten else none
    | none => none
  | _ => none
theorem pfn_rep {X : Cx} {a b : Expr} {fa fb : FE} {pos : Pos} (ha : PFE X a fa) (hb : PFE X b fb) : PFN X (.BinOp a .Mult b pos) (f2N gRep fa fb) := pe_weak (pe_op op_rep ha hb) fun σ H Q => by
  rintro ⟨W, ρ, M, rfl, sr, sl, d, M', hf, k⟩
  obtain ⟨⟨x, M1⟩, hx, hf⟩ := Option.bind_eq_some_iff.mp hf
  obtain ⟨⟨y, M2⟩, hy, hf⟩ := Option.bind_eq_some_iff.mp hf
  obtain ⟨z, hz, hf⟩ := Option.bind_eq_some_iff.mp hf
  cases hf
  refine ⟨W, ρ, M, rfl, sr, sl, x, M1, hx, fun W1 v e1 s1 r1 => ⟨W1, ρ, M1, rfl, s1, sl.ext e1 sr.sub, y, _, hy, fun W2 u e2 s2 r2 => ?_⟩⟩
  cases y with
  | int j =>
    change (match ltOf x _ with | some xs => if (decide (-(9223372036854775808) ≤ j) && (decide (j < 9223372036854775808) && decide (xs.length * j.toNat ≤ LINE))) = true then some (List.replicate j.toNat xs).flatten else none | none => none) = _ at hz
    split at hz
    · rename_i xs hp
      split at hz
      · rename_i h
        cases hz
        simp only [Bool.and_eq_true, decide_eq_true_eq] at h
        obtain ⟨p1, vs, rfl, h1, t1⟩ := lt_sq s2 (r1.ext e2 s1.sub) hp
        cases (show u = V.int j from r2)
        exact ⟨p1, j, vs, rfl, rfl, h1, h.1, h.2.1, by rw [line_eq, ← t1.len]; exact h.2.2, fun t nt => k W2 t _ (e1.trans e2) s2 nt (t1.rep _) (by rw [← (t1.rep _).len, PyProof.Rows.lm_len_rep_flat, Nat.mul_comm]; exact h.2.2)⟩
      · cases hz
    · cases hz
  | _ => cases hz
end PF
namespace PF
open PySem PySem.Spec PyProof.Rows L2
/-! a, b = xs, of a list that may be changeable -/
def sAsgL (f : FE) (n : Nat) (t : FGs) : FS := fun ρ M => (f ρ M).bind fun a => (lsOf a.1 a.2).bind fun xs => if xs.length = n then (t xs ρ).bind fun ρ' => some (.nx ρ', a.2) else none
theorem pfs_asgL {X : Cx} {e : Expr} {fe : FE} {es : List Expr} {kk : Nat} {tpos pos : Pos} {t : FGs} {vs : List Nat} {n : Nat} (hc : X.calm = true) (he : PFE X e fe) (h : PFGs X vs es t) (hn : (assignEach es X.env).length = n := by rfl) (hst : (assignEach es X.env).findIdx? (·.1) = none := by rfl)
    (hs : swapsWithSole [.Tuple es kk tpos] e pos.line X.env = pure false := by rfl) (hw : swappedStores [.Tuple es kk tpos] e X.env = pure none := by rfl) (h1 : (assignEach [.Tuple es kk tpos] X.env).map (·.2) = [assign (.Tuple es kk tpos) X.env] := by rfl) :
    PFS X (.Assign [.Tuple es kk tpos] e pos) (sAsgL fe n t) := ps_weak (ps_asg he (pg_lst hc h hn hst) hs hw h1) fun E σ H => by
  rw [liftS_iff]
  rintro ⟨W, ρ, M, rfl, sr, sl, o, M', hf, k⟩
  obtain ⟨⟨x, M1⟩, hx, hf⟩ := Option.bind_eq_some_iff.mp hf
  obtain ⟨xs, hxs, hf⟩ := Option.bind_eq_some_iff.mp hf
  split at hf
  · rename_i hl
    obtain ⟨ρ', ht, hf⟩ := Option.bind_eq_some_iff.mp hf
    cases hf
    refine ⟨W, ρ, M, rfl, sr, sl, x, _, hx, fun W1 v e1 s1 r1 => ?_⟩
    obtain ⟨a, us, rfl, q1, q2⟩ := ls_sq s1 r1 hxs
    exact ⟨a, us, rfl, q1, by rw [← q2.len]; exact hl, W1, ρ, _, xs, rfl, s1, sl.ext e1 sr.sub, q2, ρ', ht, fun W2 σ2 e2 s2 l2 _ => k W2 σ2 (e1.trans e2) s2 l2⟩
  · cases hf
end PF
namespace PF
open PySem PySem.Spec PyProof.Rows L2
/-! x <= y, x >= y of alike data -/
theorem op_leDt {X : Cx} (hu : X.A.units + 64 < cLine) : OpR X (compareOp .LtE) (rLtDt X.K fun a b => !PySem.W.dataLt b a) := by
  intro pins s σ H x y v u Q I rx ry h
  obtain ⟨d, e, hd, he, ha, hn, hp, q⟩ := h
  obtain ⟨as, r1⟩ := Dp.reads I d x v hd rx
  obtain ⟨bs, r2⟩ := Dp.reads I e y u he ry
  exact PySem.W.le_data r1 r2 ha hn (by have := Nat.min_le_left d.depth e.depth; omega) ⟨.bl _, H, I, rfl, q⟩
theorem op_geDt {X : Cx} (hu : X.A.units + 64 < cLine) : OpR X (compareOp .GtE) (rLtDt X.K fun a b => !PySem.W.dataLt a b) := by
  intro pins s σ H x y v u Q I rx ry h
  obtain ⟨d, e, hd, he, ha, hn, hp, q⟩ := h
  obtain ⟨as, r1⟩ := Dp.reads I d x v hd rx
  obtain ⟨bs, r2⟩ := Dp.reads I e y u he ry
  exact PySem.W.ge_data r1 r2 ha hn (by have := Nat.min_le_left d.depth e.depth; omega) ⟨.bl _, H, I, rfl, q⟩
/-! o[i] op= e, o a list -/
def rLGet (K : PySem.W.Frag) : V → V → Hp → VK → Prop := fun o i H Q => ∃ p xs k z, o = .ref p ∧ i = .int k ∧ SqL K H p xs ∧ L2.atI xs k = some z ∧ Q z H
theorem get_listG {X : Cx} : PGet X (rLGet X.K) := by
  intro pins s σ H o i ov iv Q I ro ri h
  obtain ⟨p, xs, k, z, rfl, rfl, hq, he, q⟩ := h
  cases ro
  obtain ⟨t, rfl⟩ := ri
  obtain ⟨its, r, pl, hz⟩ := I.list hq
  obtain ⟨j, h1, h2, h3, h4, h5⟩ := atI_get he
  obtain ⟨w, ew, rw'⟩ := r.get h2
  have hl := r.length
  have hn := line63
  have fin : EP X pins σ Q w s := ⟨z, H, I, rw', q⟩
  by_cases h0 : 0 ≤ k
  · have hj : k.toNat = j := by
      rw [seqIndex_of h0 h5] at h1
      exact Option.some.inj h1
    exact wpAny_getItem_list pl.isList h0 (by omega) (by rw [hj]; simpa using ew) fin
  · have hj : (k + (its.toArray.size : Int)).toNat = j := by
      rw [seqIndex_neg (by omega) h4] at h1
      rw [List.size_toArray, ← hl]
      exact Option.some.inj h1
    exact wpAny_getItem_list_neg pl.isList (by omega) (by rw [List.size_toArray] <;> omega) (by omega) (by rw [hj]; simpa using ew) fin
def sAugIx (g : G2M) (fo fi fe : FE) : FS := fun ρ M => (fo ρ M).bind fun o => (fi ρ o.2).bind fun i => match i.1 with
  | .int k => (lsOf o.1 i.2).bind fun l => (L2.atI l k).bind fun x => (fe ρ i.2).bind fun y => (g x y.1 y.2).bind fun z => (mlOf o.1 z.2).bind fun l2 => (ixN l2.2.length k).bind fun j => some (.nx ρ, z.2.set l2.1 (.lst (l2.2.set j z.1)))
  | _ => none
theorem pfs_augIx {X : Cx} {e o i : Expr} {fe fo fi : FE} {op : Operator} {r : R2} {g : G2M} {tpos pos : Pos} (he : PFE X e fe) (ho : PFE X o fo) (hi : PFE X i fi) (hp : OpR X (inplaceOp op) r) (og : Op2M X.K r g)
    (ha : ∀ ov iv new, augStore i ov iv new = (do holding [new, ov, iv] (setItem ov iv new); release [new, ov, iv] []; pure .next) := by intros; rfl) : PFS X (.AugAssign (.Subscript o i tpos) op e pos) (sAugIx g fo fi fe) :=
  ps_weak (ps_augS (tip := r) ho hi get_listG he hp set_list ha) fun E σ H => by
    rw [liftS_iff]
    rintro ⟨W, ρ, M, rfl, sr, sl, o', M', hf, k⟩
    obtain ⟨⟨x, M1⟩, hx, hf⟩ := Option.bind_eq_some_iff.mp hf
    obtain ⟨⟨y, M2⟩, hy, hf⟩ := Option.bind_eq_some_iff.mp hf
    dsimp only at hf
    split at hf
    · obtain ⟨xs, hl, hf⟩ := Option.bind_eq_some_iff.mp hf
      obtain ⟨a, hat, hf⟩ := Option.bind_eq_some_iff.mp hf
      obtain ⟨⟨v, M3⟩, hv, hf⟩ := Option.bind_eq_some_iff.mp hf
      obtain ⟨⟨z, M4⟩, hz, hf⟩ := Option.bind_eq_some_iff.mp hf
      obtain ⟨⟨n, ys⟩, hl2, hf⟩ := Option.bind_eq_some_iff.mp hf
      obtain ⟨j, hj, hf⟩ := Option.bind_eq_some_iff.mp hf
      cases hf
      refine ⟨W, ρ, M, rfl, sr, sl, x, M1, hx, fun W1 ov e1 s1 r1 => ⟨W1, ρ, M1, rfl, s1, sl.ext e1 sr.sub, _, M2, hy, fun W2 iv e2 s2 r2 => ?_⟩⟩
      cases (show _ = _ from r2)
      obtain ⟨p, vs, rfl, hsq, rvs⟩ := ls_sq s2 (r1.ext e2 s1.sub) hl
      obtain ⟨w, hw, rw_⟩ := rvs.atI hat
      refine ⟨p, vs, _, w, rfl, rfl, hsq, hw, W2, ρ, M2, rfl, s2, sl.ext (e1.trans e2) sr.sub, v, M3, hv, fun W3 vv e3 s3 r3 => ?_⟩
      refine og W3 M3 M4 a v z w vv _ s3 (rw_.ext e3 s2.sub) r3 hz fun W4 zv e4 s4 r4 => ?_
      obtain ⟨p', ws, ep, ha', hH, rw2, hlen⟩ := ml_ok s4 (r1.ext (e2.trans (e3.trans e4)) s1.sub) hl2
      cases ep
      have e5 := Ext.wr (W := W4) (o := .lst (ws.set j zv)) (List.mem_of_getElem? ha')
      have e15 := ((e1.trans e2).trans (e3.trans e4)).trans e5
      exact ⟨p, ws, _, j, rfl, rfl, hH, by rw [← rw2.len]; exact hj, k _ σ e15 (s4.wr ha' (rw2.set j r4) (by rw [List.length_set]; exact hlen)) (sl.ext e15 sr.sub)⟩
    · cases hf
/-! max, min of three -/
def gMax3 : List D → Mem → Option D := fun xs _ => match xs with | [.int i, .int j, .int k] => some (.int (max (max i j) k)) | _ => none
def gMin3 : List D → Mem → Option D := fun xs _ => match xs with | [.int i, .int j, .int k] => some (.int (min (min i j) k)) | _ => none
theorem rl3 {K : PySem.W.Frag} {W : Wo} {d e f : D} {vs : List V} (h : RpL K W [d, e, f] vs) : ∃ v u w, vs = [v, u, w] ∧ Rp K W d v ∧ Rp K W e u ∧ Rp K W f w := by
  obtain ⟨v, r, rfl, h1, h2⟩ := h
  obtain ⟨u, w, rfl, h3, h4⟩ := rl2 h2
  exact ⟨v, u, w, rfl, h1, h3, h4⟩
theorem o_max3 {K : PySem.W.Frag} : OpN K (rNuC3 nuMax3) gMax3 := by
  intro W M ds d vs Q sr r hg k
  unfold gMax3 at hg
  split at hg
  · rename_i i j l
    cases hg
    obtain ⟨v, u, w, rfl, r1, r2, r3⟩ := rl3 r
    cases (show _ = _ from r1); cases (show _ = _ from r2); cases (show _ = _ from r3)
    refine ⟨.int i, .int j, .int l, .int (max (max i j) l), rfl, ?_, k W _ (.refl W) sr rfl⟩
    show ((some (decide (i < j))).map fun c => if c = true then V.int j else V.int i).bind (fun m => nuMax2 m (.int l)) = _
    by_cases h1 : i < j
    · simp only [h1, decide_true, Option.map_some, if_true, Option.bind_some]
      show (some (decide (j < l))).map _ = _
      by_cases h2 : j < l
      · simp only [h2, decide_true, Option.map_some, if_true]; congr 2; omega
      · simp only [h2, decide_false, Option.map_some, Bool.false_eq_true, if_false]; congr 2; omega
    · simp only [h1, decide_false, Option.map_some, Bool.false_eq_true, if_false, Option.bind_some]
      show (some (decide (i < l))).map _ = _
      by_cases h2 : i < l
      · simp only [h2, decide_true, Option.map_some, if_true]; congr 2; omega
      · simp only [h2, decide_false, Option.map_some, Bool.false_eq_true, if_false]; congr 2; omega
  · cases hg
theorem o_min3 {K : PySem.W.Frag} : OpN K (rNuC3 nuMin3) gMin3 := by
  intro W M ds d vs Q sr r hg k
  unfold gMin3 at hg
  split at hg
  · rename_i i j l
    cases hg
    obtain ⟨v, u, w, rfl, r1, r2, r3⟩ := rl3 r
    cases (show _ = _ from r1); cases (show _ = _ from r2); cases (show _ = _ from r3)
    refine ⟨.int i, .int j, .int l, .int (min (min i j) l), rfl, ?_, k W _ (.refl W) sr rfl⟩
    show ((some (decide (j < i))).map fun c => if c = true then V.int j else V.int i).bind (fun m => nuMin2 m (.int l)) = _
    by_cases h1 : j < i
    · simp only [h1, decide_true, Option.map_some, if_true, Option.bind_some]
      show (some (decide (l < j))).map _ = _
      by_cases h2 : l < j
      · simp only [h2, decide_true, Option.map_some, if_true]; congr 2; omega
      · simp only [h2, decide_false, Option.map_some, Bool.false_eq_true, if_false]; congr 2; omega
    · simp only [h1, decide_false, Option.map_some, Bool.false_eq_true, if_false, Option.bind_some]
      show (some (decide (l < i))).map _ = _
      by_cases h2 : l < i
      · simp only [h2, decide_true, Option.map_some, if_true]; congr 2; omega
      · simp only [h2, decide_false, Option.map_some, Bool.false_eq_true, if_false]; congr 2; omega
  · cases hg
/-! insert, remove -/
abbrev rInsert : V → List V → Hp → VK → Prop := fun x vs H Q => ∃ (l : Addr) (xs : List V) (i : Int) (y : V), x = .ref l ∧ vs = [.int i, y] ∧ H l = some (.lst xs) ∧ xs.length < sizeLine ∧ 0 ≤ i ∧ i < 2 ^ 63 ∧
    Q .non (upd H l (.lst (xs.take i.toNat ++ [y] ++ xs.drop i.toNat)))
theorem mt_insertA {X : Cx} : MtR X "list.insert" rInsert := mt_insert
def gInsert : GM := fun x ds M => match ds with
  | [.int i, d] => (mlOf x M).bind fun l => if decide (l.2.length < LINE) && (decide (0 ≤ i) && decide (i < 1000000000)) then some (.non, M.set l.1 (.lst (l.2.take i.toNat ++ [d] ++ l.2.drop i.toNat))) else none
  | _ => none
theorem o_insert {K : PySem.W.Frag} : OpM K rInsert gInsert := by
  intro W M M' x d ds v vs Q sr rx r hg k
  unfold gInsert at hg
  split at hg
  · rename_i i e
    obtain ⟨⟨n, xs⟩, hl, hg⟩ := Option.bind_eq_some_iff.mp hg
    dsimp only at hg
    split at hg
    · rename_i hc
      simp only [Bool.and_eq_true, decide_eq_true_eq] at hc
      cases hg
      obtain ⟨u1, u2, rfl, r1, r2⟩ := rl2 r
      cases (show _ = _ from r1)
      obtain ⟨a, ws, rfl, ha, hH, rw_, hlen⟩ := ml_ok sr rx hl
      have hn : (xs.take i.toNat ++ [e] ++ xs.drop i.toNat).length = xs.length + 1 := by
        rw [List.length_append, List.length_append, List.length_take, List.length_drop, List.length_singleton]; omega
      refine ⟨a, ws, i, u2, rfl, rfl, hH, by rw [line_eq, ← rw_.len]; exact hc.1, hc.2.1, by omega, ?_⟩
      have rr := ((rw_.take i.toNat).append (.one r2)).append (rw_.drop i.toNat)
      exact k _ _ (Ext.wr (List.mem_of_getElem? ha)) (sr.wr ha rr (by rw [← rr.len, hn]; have := hc.1; show _ ≤ 16777216; have : LINE = 16777216 := rfl; omega)) rfl
    · cases hg
  · cases hg
def gRemove : GM := fun x ds M => match ds with
  | [.int y] => (mlOf x M).bind fun l => (intsOf l.2).bind fun ns => (findI (fun z => decide (z = y)) ns).map fun (j : Nat) => (.non, M.set l.1 (.lst (l.2.eraseIdx j)))
  | _ => none
end PF
namespace HT
open PySem PySem.Spec PyProof.Rows
section
variable {prog : Program} {w : World} {A : Around} {E : Value → Shared → Prop} {s : Shared}
theorem sliceApplied_rev {sl : Addr} {vs : Value} {n : Nat} {Q : Int × Int × Nat → Shared → Prop} (hs : s.heap.IsSliceOf sl .none .none vs) (ps : IsPart vs (some (-1)))
    (h : Q ((n : Int) - 1, -1, n) s) : wpAny (model prog w) A (Builtin.Slice.sliceApplied (.ref sl) (pure (n : Int))) Q E s := by
  obtain ⟨os, hos, hcs, hds⟩ := id hs
  unfold Builtin.Slice.sliceApplied Builtin.Slice.sliceFields
  refine wpAny_bind (wpAny_bind (wpAny_field hos hds (x := .none) rfl (wpAny_bind (wpAny_field hos hds (x := .none) rfl (wpAny_bind (wpAny_field hos hds (x := vs) rfl (wpAny_pure ?_)))))))
  refine wpAny_bind (slicePart_ ps ?_)
  show wpAny _ _ (if ((-1 : Int) == 0) = true then _ else _) _ _ s
  rw [if_neg (by decide)]
  refine wpAny_bind (slicePart_ .none (wpAny_bind (slicePart_ .none (wpAny_bind (wpAny_pure ?_)))))
  show wpAny _ _ (pure ((n : Int) - 1, (-1 : Int), Builtin.Slice.slicePlaces ((n : Int) - 1) (-1) (-1))) _ _ s
  have e : Builtin.Slice.slicePlaces ((n : Int) - 1) (-1) (-1) = n := by
    unfold Builtin.Slice.slicePlaces
    rw [if_neg (by decide)]
    rw [show (-(-1) : Int) = 1 by decide, Int.ediv_one]
    split <;> omega
  rw [e]
  exact wpAny_pure h
theorem pick_rev (xs : Array Value) : ((List.range xs.size).filterMap fun (m : Nat) => xs[(((xs.size : Int) - 1) + (m : Int) * (-1)).toNat]?).toArray = xs.toList.reverse.toArray := by
  congr 1
  apply List.ext_getElem?
  intro i
  have fc : ∀ (l : List Nat) (f : Nat → Option Value) (g : Nat → Value), (∀ m ∈ l, f m = some (g m)) → l.filterMap f = l.map g := by
    intro l f g
    induction l with
    | nil => intro _; rfl
    | cons m l ih => intro h; rw [List.filterMap_cons, h m (by simp), List.map_cons, ih fun k hk => h k (List.mem_cons_of_mem _ hk)]
  have e : (List.range xs.size).filterMap (fun (m : Nat) => xs[(((xs.size : Int) - 1) + (m : Int) * (-1)).toNat]?) = (List.range xs.size).map fun m => xs.toList.reverse.getD m .none := by
    refine fc _ _ _ fun m hm => ?_
    have hm' := List.mem_range.mp hm
    have : (((xs.size : Int) - 1) + (m : Int) * (-1)).toNat = xs.size - 1 - m := by omega
    rw [this]
    rw [List.getD_eq_getElem?_getD, List.getElem?_reverse (by simpa using hm')]
    have h2 : xs.size - 1 - m < xs.size := by omega
    simp [h2]
  rw [e, List.getElem?_map]
  by_cases hi : i < xs.size
  · rw [List.getElem?_range hi, List.getElem?_eq_getElem (by simpa using hi)]
    simp [List.getD_eq_getElem?_getD, hi]
  · rw [List.getElem?_eq_none (by simpa using hi), List.getElem?_eq_none (by simpa using hi)]; rfl
theorem getItem_tuple_rev {t sl : Addr} {items : Array Value} {vs : Value} {Q : Value → Shared → Prop} (ht : IsTup s.heap t items) (hs : s.heap.IsSliceOf sl .none .none vs) (ps : IsPart vs (some (-1)))
    (h : Q (.ref s.heap.objs.size) { s with heap := s.heap.push { cls := .type "tuple", data := .seq items.toList.reverse.toArray } })
    (hsz : items.size ≤ sizeLine) : wpAny (model prog w) A (getItem (.ref t) (.ref sl)) Q E s := by
  have htake : sizeOk (.seq items.toList.reverse.toArray) := by
    show items.toList.reverse.toArray.size ≤ sizeLine
    rw [List.size_toArray, List.length_reverse, Array.length_toList]
    exact hsz
  obtain ⟨os, hos, hcs, hds⟩ := id hs
  have hTs : s.TypeIs (.ref sl) "slice" := ⟨os, hos, hcs⟩
  unfold getItem
  try with_reducible refine wpAny_holding ?_
  first | refine wpAny_bind (wpAny_pure ?_) | skip
  refine wpAny_bind (wpAny_sequenceKey ht.typeIs (by decide) ?_)
  refine wpAny_bind (wpAny_callSpecial?_slot (name := Str.ofString "__getitem__") ht.typeIs PyProof.Rows.slot_tuple_getitem
    (wpAny_call_entry PyProof.Rows.slot_tuple_getitem ht.typeIs entry_tuple_getitem ?_ (args_tuple_getitem _ _)))
  show wpAny _ _ (Builtin.Tuple.tupleItemsOf (.ref t) >>= _) _ _ s
  refine wpAny_bind (tupleItemsOf_ ht ?_)
  refine wpAny_bind (wpAny_typeOf hTs ?_)
  rw [if_pos (by decide)]
  refine wpAny_bind (sliceApplied_rev hs ps ?_)
  have hno : ¬ ((((items.size : Int) - 1) == 0 && (-1 : Int) == 1 && items.size == items.size) = true) := by
    rw [show ((-1 : Int) == 1) = false from rfl, Bool.and_false, Bool.false_and]; exact Bool.false_ne_true
  show wpAny _ _ (if (((items.size : Int) - 1) == 0 && (-1 : Int) == 1 && items.size == items.size) = true then _ else _) _ _ s
  rw [if_neg hno, pick_rev]
  first
    | exact wpAny_bind (m := Builtin.Tuple.tupleExact _) (wpAny_newObj_type (wpAny_pure ⟨_, rfl, wpAny_pure h⟩) htake)
    | exact wpAny_bind (m := Builtin.Tuple.tupleExact _) (wpAny_newObj_type (wpAny_bind (wpAny_pure (wpAny_pure ⟨_, rfl, wpAny_pure h⟩))) htake)
    | exact wpAny_bind (wpAny_bind (m := Builtin.Tuple.tupleExact _) (wpAny_newObj_type (wpAny_pure (wpAny_pure ⟨_, rfl, wpAny_pure h⟩)) htake))
    | exact wpAny_bind (wpAny_bind (m := Builtin.Tuple.tupleExact _) (wpAny_newObj_type (wpAny_pure ⟨_, rfl, wpAny_pure h⟩) htake))
end
end HT
namespace PF
open PySem PySem.Spec PyProof.Rows L2
/-! xs[::-1] of a list or a tuple -/
def tRevA (K : PySem.W.Frag) (te : TE) : TE := fun σ H Q => te σ H fun x H1 => ∃ a, x = .ref a ∧ ((∃ xs, SqL K H1 a xs ∧ ∀ p, H1 p = none → Q (.ref p) (upd H1 p (.lst xs.reverse))) ∨ ∃ xs, SqT K H1 a xs ∧ ∀ p, H1 p = none → Q (.ref p) (upd H1 p (.tup xs.reverse)))
theorem pe_revA {X : Cx} {e : Expr} {te : TE} {k : Nat} {p1 p2 p3 pos : Pos} (he : PE X e te) : PE X (.Subscript e (.Slice none none (some (.UnaryOp .USub (.Constant (.int 1) k p1) p2)) p3) pos) (tRevA X.K te) := by
  refine ⟨fun pins s σ H Q I h => ?_⟩
  refine Subscript_ (thn (he.run pins s σ H _ I h) fun v s1 ⟨x, H1, I1, r1, q1⟩ => ?_)
  obtain ⟨a, ex, q⟩ := q1
  subst ex
  cases r1
  have hst : PO X (some (.UnaryOp .USub (.Constant (.int 1) k p1) p2)) (tPart (tUn (rU fun i => .int (-i)) (tC (.int 1)))) := po_some (pe_un un_neg pe_int)
  refine wpAny_Slice (thn (po_none.run pins s1 σ H1 (fun o H2 => o = none ∧ H2 = H1) I1 ⟨rfl, rfl⟩) fun vl s2 ⟨l, H2, I2, pl, el, e2⟩ => ?_)
  subst el e2
  refine thn (po_none.run pins s2 σ H2 (fun o H3 => o = none ∧ H3 = H2) I2 ⟨rfl, rfl⟩) fun vu s3 ⟨u, H3, I3, pu, eu, e3⟩ => ?_
  subst eu e3
  refine thn (hst.run pins s3 σ H3 (fun o H4 => o = some (-1) ∧ H4 = H3) I3 ⟨1, rfl, -1, rfl, rfl, rfl⟩) fun vs s4 ⟨o, H4, I4, ps, eo, e4⟩ => ?_
  subst eo e4
  have I5 : Inv X pins σ H4 { s4 with heap := s4.heap.push { cls := .type "slice", data := .fields #[vl, vu, vs] } } := I4.kept (t' := s4.toks) fun b ob q => Heap.get?_push_of_some _ q
  rcases q with ⟨xs, hx, q⟩ | ⟨xs, hx, q⟩
  · obtain ⟨its, r, ht, hz⟩ := I5.list hx
    have hlen := r.length
    show wpAny (model X.prog X.w) X.A (subscriptTail e (.Slice none none (some (.UnaryOp .USub (.Constant (.int 1) k p1) p2)) p3) (.ref a) (.ref s4.heap.objs.size)) (EP X pins σ Q) X.xe { s4 with heap := s4.heap.push { cls := .type "slice", data := .fields #[vl, vu, vs] } }
    refine tail_any (ops := [.ref a, .ref s4.heap.objs.size]) ht.isList.typeIs (PySem.slot_list_getitem.lookup) ?_ (by with_unfolding_all rfl)
    refine wpAny_getItem_list_slice ht.isList (Heap.IsSliceOf.new _ vl vu vs) pl pu ps (by decide) ?_ (by rw [List.size_toArray]; omega)
    rw [PySem.W.krv_pick]
    refine ⟨.ref _, _, I5.laid (t' := s4.toks) (o := .lst xs.reverse) (fun b ob q => Heap.get?_push_of_some _ q) (Nat.le_refl _) ?_, rfl, q _ (I5.hok.fresh (Nat.le_refl _))⟩
    exact ⟨by rw [List.length_reverse]; exact hz, _, 0, r.reverse, Heap.get?_push_size _ rfl⟩
  · obtain ⟨its, r, ht, hz⟩ := I5.tuple hx
    have hlen := r.length
    have evl : vl = .none := by cases pl; rfl
    have evu : vu = .none := by cases pu; rfl
    subst evl evu
    show wpAny (model X.prog X.w) X.A (subscriptTail e (.Slice none none (some (.UnaryOp .USub (.Constant (.int 1) k p1) p2)) p3) (.ref a) (.ref s4.heap.objs.size)) (EP X pins σ Q) X.xe { s4 with heap := s4.heap.push { cls := .type "slice", data := .fields #[.none, .none, vs] } }
    refine tail_any (ops := [.ref a, .ref s4.heap.objs.size]) ht.typeIs (PyProof.Rows.slot_tuple_getitem.lookup) ?_ (by with_unfolding_all rfl)
    refine HT.getItem_tuple_rev ht (Heap.IsSliceOf.new _ .none .none vs) ps ?_ (by rw [List.size_toArray]; omega)
    refine ⟨.ref _, _, I5.laid (t' := s4.toks) (o := .tup xs.reverse) (fun b ob q => Heap.get?_push_of_some _ q) (Nat.le_refl _) ?_, rfl, q _ (I5.hok.fresh (Nat.le_refl _))⟩
    exact ⟨by rw [List.length_reverse]; exact hz, _, r.reverse, IsTup.new _ _⟩
def fRevA (fa : FE) : FE := fun ρ M => (fa ρ M).bind fun a => match a.1 with
  | .tup xs => some (.tup xs.reverse, a.2)
  | d => (lsOf d a.2).bind fun xs => some (.lst xs.reverse, a.2)
theorem pf_revA {X : Cx} {a : Expr} {fa : FE} {k : Nat} {p1 p2 p3 pos : Pos} (ha : PFE X a fa) : PFE X (.Subscript a (.Slice none none (some (.UnaryOp .USub (.Constant (.int 1) k p1) p2)) p3) pos) (fRevA fa) := pe_weak (pe_revA ha) fun σ H Q => by
  rintro ⟨W, ρ, M, rfl, sr, sl, d, M', hf, k⟩
  obtain ⟨⟨x, M1⟩, hx, hf⟩ := Option.bind_eq_some_iff.mp hf
  refine ⟨W, ρ, M, rfl, sr, sl, x, M1, hx, fun W1 v e1 s1 r1 => ?_⟩
  have lists : (lsOf x M1).bind (fun xs => some (D.lst xs.reverse, M1)) = some (d, M') → ∃ a, v = .ref a ∧ ((∃ xs, SqL X.K W1.H a xs ∧ ∀ p, W1.H p = none → Q (.ref p) (upd W1.H p (.lst xs.reverse))) ∨ ∃ xs, SqT X.K W1.H a xs ∧ ∀ p, W1.H p = none → Q (.ref p) (upd W1.H p (.tup xs.reverse))) := fun hf => by
    obtain ⟨xs, hl, hf⟩ := Option.bind_eq_some_iff.mp hf
    cases hf
    have hz := ls_len s1 r1 hl
    obtain ⟨p, vs, rfl, h1, q1⟩ := ls_sq s1 r1 hl
    exact ⟨p, rfl, .inl ⟨vs, h1, fun t nt => k _ _ (e1.trans (Ext.put nt)) (s1.put nt) (.newLst s1 nt q1.reverse (by rw [List.length_reverse, ← q1.len]; exact hz))⟩⟩
  cases x with
  | tup xs =>
    cases hf
    have hz := sq_len (M := M1) (xs := xs) s1 r1 rfl
    obtain ⟨p, vs, rfl, h1, q1⟩ := tp_sq r1
    exact ⟨p, rfl, .inr ⟨vs, h1, fun t nt => k _ _ (e1.trans (Ext.put nt)) (s1.put nt) (.newTup s1 nt q1.reverse (by rw [List.length_reverse, ← q1.len]; exact hz))⟩⟩
  | _ => exact lists hf
end PF
namespace PF
open PySem PySem.Spec PyProof.Rows L2
/-! two for in one comprehension, the inner one over anything -/
structure ExtN (W W' : Wo) : Prop where
  as : ∃ new, W'.as = W.as ++ new
  new : ∀ a, W'.bad a → W.bad a ∨ W.H a = none
  keep : ∀ a o, a ∉ W.as → ¬ W.bad a → W.H a = some o → W'.H a = some o
section
variable {K : PySem.W.Frag} {W W' : Wo}
theorem ExtN.frz {a : Addr} {u : HO} (e : ExtN W W') (hs : ∀ a ∈ W.as, W.bad a) (h : W.H a = some u ∧ ¬ W.bad a) : W'.H a = some u ∧ ¬ W'.bad a := by
  obtain ⟨h, nb⟩ := h
  have na : a ∉ W.as := fun z => nb (hs a z)
  refine ⟨e.keep a _ na nb h, fun z => ?_⟩
  rcases e.new a z with z | z
  · exact nb z
  · rw [h] at z; cases z
mutual
theorem Rp.extN (e : ExtN W W') (hs : ∀ a ∈ W.as, W.bad a) : ∀ (d : D) (v : V), Rp K W d v → Rp K W' d v
  | .non, _, h => h
  | .bl _, _, h => h
  | .int _, _, h => h
  | .str _, _, h => h
  | .tup ds, v, h => by
    obtain ⟨a, vs, e1, f, r⟩ := h
    exact ⟨a, vs, e1, ⟨f.1.imp (fun q => e.frz hs q) fun q => q, f.2⟩, RpL.extN e hs ds vs r⟩
  | .lst ds, v, h => by
    obtain ⟨a, vs, e1, f, r⟩ := h
    exact ⟨a, vs, e1, ⟨e.frz hs f.1, f.2⟩, RpL.extN e hs ds vs r⟩
  | .kst ds, v, h => by
    obtain ⟨a, vs, e1, f, r⟩ := h
    refine ⟨a, vs, e1, ⟨f.1.imp (fun q => ?_) fun q => q, f.2⟩, RpL.extN e hs ds vs r⟩
    obtain ⟨⟨o, q⟩, nb⟩ := q
    obtain ⟨q', nb'⟩ := e.frz hs ⟨q, nb⟩
    exact ⟨⟨o, q'⟩, nb'⟩
  | .ref n, v, h => by
    obtain ⟨a, h1, h2⟩ := h
    obtain ⟨new, h3⟩ := e.as
    refine ⟨a, ?_, h2⟩
    rw [h3]
    exact (List.getElem?_append_left (List.getElem?_eq_some_iff.mp h1).1).trans h1
  | .dct ks vs, v, h => by
    obtain ⟨a, o, kv, vv, e1, f, d, r1, r2⟩ := h
    exact ⟨a, o, kv, vv, e1, e.frz hs f, d, RpL.extN e hs ks kv r1, RpL.extN e hs vs vv r2⟩
theorem RpL.extN (e : ExtN W W') (hs : ∀ a ∈ W.as, W.bad a) : ∀ (ds : List D) (vs : List V), RpL K W ds vs → RpL K W' ds vs
  | [], _, h => h
  | d :: ds, vs, h => by
    obtain ⟨v, r, e1, h1, h2⟩ := h
    exact ⟨v, r, e1, Rp.extN e hs d v h1, RpL.extN e hs ds r h2⟩
end
end
theorem extN_plus {W5 W6 : Wo} {D : Addr} {o : HO} (hb : W5.bad D) (e : Ext (W5.minus D) W6) : ExtN W5 (W6.plus D o) := by
  refine ⟨?_, fun a h => ?_, fun a u na nb h => ?_⟩
  · obtain ⟨new, h, _⟩ := e.as
    exact ⟨new, h⟩
  · by_cases z : a = D
    · subst z; exact .inl hb
    · have h' : W6.bad a := by
        rcases h with h | h
        · exact h
        · exact absurd h z
      rcases e.new a h' with q | q
      · exact .inl q.1
      · exact .inr ((minus_H z).symm.trans q)
  · have z : a ≠ D := fun z => nb (by rw [z]; exact hb)
    exact (upd_ne z).trans (e.keep a u na ((minus_H z).trans h))
def JOkN (K : PySem.W.Frag) (W : Wo) (J : It) (xs : List D) (k : KK) : Prop := xs.length ≤ LINE ∧ ∀ W' M', ExtN W W' → SR K W' M' → chk k xs M' = true → ∀ i,
  (∀ d, xs[i]? = some d → J.go i W'.H ∧ ∀ x H', J.yld i W'.H x H' → H' = W'.H ∧ Rp K W' d x) ∧ (xs.length ≤ i → J.stop i W'.H)
def liftIN (K : PySem.W.Frag) (f : FI) : TI := fun σ H R => ∃ W ρ M, W.H = H ∧ SR K W M ∧ Sl K W ρ σ ∧ ∃ xs k M', f ρ M = some ((xs, k), M') ∧
  ∀ W' J, Ext W W' → SR K W' M' → JOkN K W' J xs k → R J W'.H
abbrev PFIN (X : Cx) (tg e : Expr) (f : FI) : Prop := PI X tg e (liftIN X.K f)
section
variable {X : Cx} {tg a : Expr} {fa : FE}
theorem jokN_of {K : PySem.W.Frag} {W : Wo} {J : It} {xs : List D} {kk : KK} (hz : xs.length ≤ LINE) (h : ∀ W' M', ExtN W W' → SR K W' M' → chk kk xs M' = true → ∃ vs, RpL K W' xs vs ∧ (∀ i x, vs[i]? = some x → J.go i W'.H ∧ ∀ y H', J.yld i W'.H y H' → H' = W'.H ∧ y = x) ∧ ∀ i, vs.length ≤ i → J.stop i W'.H) : JOkN K W J xs kk := by
  refine ⟨hz, fun W' M' e s c i => ?_⟩
  obtain ⟨vs, r, h1, h2⟩ := h W' M' e s c
  refine ⟨fun d hd => ?_, fun hl => h2 i (by rw [← r.len]; exact hl)⟩
  obtain ⟨v, hv, rv⟩ := r.get hd
  obtain ⟨g, y⟩ := h1 i v hv
  exact ⟨g, fun x H' hx => ⟨(y x H' hx).1, by rw [(y x H' hx).2]; exact rv⟩⟩
theorem jokN_sq {K : PySem.W.Frag} {W : Wo} {M : Mem} {d : D} {v : V} {xs : List D} (sr : SR K W M) (h : Rp K W d v) (hn : ∀ n, d ≠ .ref n) (e : sqOf d M = some xs) :
    ∃ p, v = .ref p ∧ (((∃ vs, SqL K W.H p vs) ∧ JOkN K W (Itl K p) xs none) ∨ ((∃ vs, SqT K W.H p vs) ∧ JOkN K W (Itt K p) xs none)) := by
  obtain ⟨p, vs, rfl, h1, r⟩ := sq_sq sr h e
  refine ⟨p, rfl, ?_⟩
  cases d with
  | tup ds =>
    have hz := sq_len sr h e
    cases e
    obtain ⟨p', vs', e', q, r'⟩ := tp_sq h
    cases e'
    refine .inr ⟨⟨_, q⟩, jokN_of hz fun W' M' ex s _ => ?_⟩
    obtain ⟨p2, vs2, e2, q2, r2⟩ := tp_sq (h.extN ex sr.sub)
    cases e2
    exact ⟨vs2, r2, walk_t q2⟩
  | ref n => exact absurd rfl (hn n)
  | lst ds =>
    have e' : lsOf (.lst ds) M = some xs := e
    obtain ⟨p', vs', e2, q, r'⟩ := ls_sq sr h e'
    cases e2
    refine .inl ⟨⟨_, q⟩, jokN_of (sq_len sr h e) fun W' M' ex s _ => ?_⟩
    obtain ⟨p2, vs2, e2, q2, r2⟩ := ls_sq s (h.extN ex sr.sub) (show lsOf (.lst ds) M' = some xs from e')
    cases e2
    exact ⟨vs2, r2, walk_l q2⟩
  | kst ds =>
    have e' : lsOf (.kst ds) M = some xs := e
    obtain ⟨p', vs', e2, q, r'⟩ := ls_sq sr h e'
    cases e2
    refine .inl ⟨⟨_, q⟩, jokN_of (sq_len sr h e) fun W' M' ex s _ => ?_⟩
    obtain ⟨p2, vs2, e2, q2, r2⟩ := ls_sq s (h.extN ex sr.sub) (show lsOf (.kst ds) M' = some xs from e')
    cases e2
    exact ⟨vs2, r2, walk_l q2⟩
  | _ => cases e
theorem pfiN_sq (ha : PFE X a fa) : PFIN X tg a (fiSq fa) := pi_weak (pi_seq ha) fun σ H R => by
  rintro ⟨W, ρ, M, rfl, sr, sl, xs, kk, M', hf, k⟩
  obtain ⟨⟨x, M1⟩, hx, hf⟩ := Option.bind_eq_some_iff.mp hf
  refine ⟨W, ρ, M, rfl, sr, sl, x, M1, hx, fun W1 v e1 s1 r1 => ?_⟩
  have other : (∀ n, x ≠ .ref n) → (sqOf x M1).bind (fun xs => some ((xs, (none : KK)), M1)) = some ((xs, kk), M') → ∃ p, v = .ref p ∧ (((∃ xs, SqL X.K W1.H p xs) ∧ R (Itl X.K p) W1.H) ∨ ((∃ xs, SqT X.K W1.H p xs) ∧ R (Itt X.K p) W1.H)) := fun hn e => by
    obtain ⟨ys, hy, e⟩ := Option.bind_eq_some_iff.mp e
    cases e
    obtain ⟨p, rfl, q⟩ := jokN_sq s1 r1 hn hy
    exact ⟨p, rfl, q.imp (fun z => ⟨z.1, k W1 _ e1 s1 z.2⟩) fun z => ⟨z.1, k W1 _ e1 s1 z.2⟩⟩
  cases x with
  | ref n =>
    obtain ⟨ys, hy, hf⟩ := Option.bind_eq_some_iff.mp hf
    cases hf
    obtain ⟨p, vs, rfl, q, r⟩ := ls_sq s1 r1 hy
    refine ⟨p, rfl, .inl ⟨⟨_, q⟩, k W1 _ e1 s1 (jokN_of (ls_len s1 r1 hy) fun W' M' ex s c => ?_)⟩⟩
    unfold chk at c
    dsimp only at c
    split at c
    · rename_i zs hz
      have ez := D.eqs_of_beqs _ _ c
      subst ez
      obtain ⟨p2, vs2, e2, q2, r2⟩ := ls_sq s (r1.extN ex s1.sub) (show lsOf (.ref n) M' = some zs by simp only [lsOf, hz])
      cases e2
      exact ⟨vs2, r2, walk_l q2⟩
    · cases c
  | tup _ => exact other (fun n z => nomatch z) hf
  | lst _ => exact other (fun n z => nomatch z) hf
  | kst _ => exact other (fun n z => nomatch z) hf
  | dct _ _ => exact other (fun n z => nomatch z) hf
  | non => exact other (fun n z => nomatch z) hf
  | bl _ => exact other (fun n z => nomatch z) hf
  | int _ => exact other (fun n z => nomatch z) hf
  | str _ => exact other (fun n z => nomatch z) hf
theorem jokN_rg {K : PySem.W.Frag} {W : Wo} {lo : Int} {n : Nat} (hn : n ≤ LINE) : JOkN K W (Itr lo n) (rgD lo n) none := by
  have hl : (rgD lo n).length = n := by unfold rgD; simp
  refine ⟨by rw [hl]; exact hn, fun W' M' e s c i => ?_⟩
  refine ⟨fun d hd => ?_, fun h => by rw [hl] at h; exact h⟩
  have hi : i < n := by rw [← hl]; exact (List.getElem?_eq_some_iff.mp hd).1
  have hd' : d = D.int (lo + i) := by
    unfold rgD at hd
    rw [List.getElem?_map, List.getElem?_range hi] at hd
    cases hd; rfl
  subst hd'
  exact ⟨hi, fun x H' hx => ⟨hx.1, hx.2⟩⟩
theorem pfiN_rg1 {f : FA} {p pos : Pos} (hg : Gl X "range") (hm : X.mg "range" = none) (ha : PFA X [a] f) (hs : starEach [a] X.env = [(false, eval a X.env)] := by rfl) : PFIN X tg (.Call (.Name "range" p) [a] [] pos) (fiRg1 f) := pi_weak (pi_range1 hg hm ha hs) fun σ H R => by
  rintro ⟨W, ρ, M, rfl, sr, sl, xs, kk, M', hf, k⟩
  obtain ⟨⟨x, M1⟩, hx, hf⟩ := Option.bind_eq_some_iff.mp hf
  dsimp only at hf
  split at hf
  · split at hf
    · rename_i hr
      cases hf
      replace hr := okR_ok hr
      refine ⟨W, ρ, M, rfl, sr, sl, _, _, hx, fun W1 v e1 s1 r1 => ?_⟩
      obtain ⟨v1, r, rfl, q1, q2⟩ := r1
      cases (show _ = _ from q1); cases (show _ = _ from q2)
      exact ⟨_, rfl, hr.2.1.1, hr.2.1.2, k W1 _ e1 s1 (jokN_rg (by show _ ≤ 16777216; omega))⟩
    · cases hf
  · cases hf
theorem pfiN_rg2 {b : Expr} {f : FA} {p pos : Pos} (hg : Gl X "range") (hm : X.mg "range" = none) (ha : PFA X [a, b] f) (hs : starEach [a, b] X.env = [(false, eval a X.env), (false, eval b X.env)] := by rfl) (hs2 : starEach [b] X.env = [(false, eval b X.env)] := by rfl) :
    PFIN X tg (.Call (.Name "range" p) [a, b] [] pos) (fiRg2 f) := pi_weak (pi_range2 hg hm ha hs hs2) fun σ H R => by
  rintro ⟨W, ρ, M, rfl, sr, sl, xs, kk, M', hf, k⟩
  obtain ⟨⟨x, M1⟩, hx, hf⟩ := Option.bind_eq_some_iff.mp hf
  dsimp only at hf
  split at hf
  · split at hf
    · rename_i hr
      cases hf
      replace hr := okR_ok hr
      refine ⟨W, ρ, M, rfl, sr, sl, _, _, hx, fun W1 v e1 s1 r1 => ?_⟩
      obtain ⟨v1, r, rfl, q1, v2, r', rfl, q2, q3⟩ := r1
      cases (show _ = _ from q1); cases (show _ = _ from q2); cases (show _ = _ from q3)
      exact ⟨_, _, rfl, ⟨hr.1.1, hr.1.2, hr.2.1.1, hr.2.1.2⟩, k W1 _ e1 s1 (jokN_rg (by show _ ≤ 16777216; omega))⟩
    · cases hf
  · cases hf
end
theorem lc2N_lift {K : PySem.W.Frag} {fi fi1 : FI} {t t1 : FG} {ft ft1 : FT} {fe : FE} {vs vs1 : List Nat} : ∀ σ H Q, liftN K (fLC2 vs vs1 fi t ft fi1 t1 ft1 fe) σ H Q → tLc2 (liftI K fi) (liftG K vs t) (liftT K ft) (liftIN K fi1) (liftG K vs1 t1) (liftT K ft1) (liftE K fe) vs vs1 σ H Q := by
  rintro σ H Q ⟨W, ρ, M, rfl, sr, sl, out, M', hf, k⟩
  obtain ⟨⟨⟨xs, kk⟩, M1⟩, hi, hf⟩ := Option.bind_eq_some_iff.mp hf
  obtain ⟨⟨o1, o2⟩, hf, hz⟩ := Option.bind_eq_some_iff.mp hf
  dsimp only at hz hf
  by_cases hout : o1.length ≤ LINE
  case neg => rw [if_neg hout] at hz; cases hz
  rw [if_pos hout] at hz
  cases hz
  refine ⟨W, ρ, M, rfl, sr, sl, xs, kk, M1, hi, fun W1 J e1 s1 jo D hD => ?_⟩
  refine ⟨fun i m H' => ∃ W2 Mt acc ws, H' = upd W2.H D (.lst ws) ∧ W2.H D = none ∧ Ext W1 W2 ∧ SR K W2 Mt ∧ RpL K W2 acc ws ∧ i ≤ xs.length ∧ m = xs.length - i ∧
    lc2Loop (chk kk xs) t ft fi1 vs1 t1 ft1 fe (wipeR ρ vs) (xs.drop i) acc Mt = some (out, M'), ⟨xs.length, W1, M1, [], [], rfl, hD, .refl W1, s1, rfl, Nat.zero_le _, rfl, hf⟩, ?_⟩
  rintro i m H' ⟨W2, Mt, acc, ws, rfl, hD2, e2, s2, racc, hil, rfl, hw⟩
  have eP : Ext W2 (W2.plus D (.lst ws)) := Ext.plus hD2
  have sP : SR K (W2.plus D (.lst ws)) Mt := s2.plus hD2
  by_cases hlt : i < xs.length
  · right
    have hd : xs.drop i = xs[i] :: xs.drop (i + 1) := List.drop_eq_getElem_cons hlt
    rw [hd] at hw
    unfold lc2Loop at hw
    split at hw
    · rename_i hck
      obtain ⟨ρ', ht, hw⟩ := Option.bind_eq_some_iff.mp hw
      obtain ⟨⟨b, M3⟩, hb, hw⟩ := Option.bind_eq_some_iff.mp hw
      obtain ⟨hgo, hy⟩ := (jo.2 _ Mt (e2.trans eP) sP hck i).1 xs[i] (by simp [hlt])
      refine ⟨hgo, fun H' => ∃ W4 Mt acc ws, H' = upd W4.H D (.lst ws) ∧ W4.H D = none ∧ Ext W1 W4 ∧ SR K W4 Mt ∧ RpL K W4 acc ws ∧
        lc2Loop (chk kk xs) t ft fi1 vs1 t1 ft1 fe (wipeR ρ vs) (xs.drop (i + 1)) acc Mt = some (out, M'), ?_, fun x H' hx => ?_⟩
      · rintro H' ⟨W4, Mt', acc', ws', h1, h2, h3, h4, h5, h7⟩
        exact ⟨xs.length - (i + 1), by omega, W4, Mt', acc', ws', h1, h2, h3, h4, h5, hlt, rfl, h7⟩
      · obtain ⟨rfl, rx⟩ := hy x H' hx
        have slW : Sl K (W2.plus D (.lst ws)) (wipeR ρ vs) (L2.wipe σ vs) := (sl.ext (e1.trans (e2.trans eP)) sr.sub).wipe vs
        refine ⟨_, wipeR ρ vs, Mt, xs[i], rfl, sP, slW, rx, ρ', ht, fun W3 σ3 e3 s3 l3 w3 => ⟨by rw [w3, wipe_idem], ?_⟩⟩
        refine ⟨W3, ρ', Mt, rfl, s3, l3, b, M3, hb, fun W4 e4 s4 => ?_⟩
        cases b with
        | false =>
          rw [if_neg Bool.false_ne_true] at hw ⊢
          obtain ⟨e5, b5, n5, h5⟩ := Ext.unplus s2 hD2 (e3.trans e4)
          refine ⟨W4.minus D, M3, acc, ws, ?_, minus_self, e2.trans e5, s4.minus b5 n5, (racc.ext e5 s2.sub), hw⟩
          funext a
          by_cases z : a = D
          · subst z; rw [upd_same]; exact h5
          · rw [upd_ne z]; exact (minus_H z).symm
        | true =>
          rw [if_pos rfl] at hw ⊢
          obtain ⟨⟨⟨xs1, k1⟩, M5⟩, hi1, hw⟩ := Option.bind_eq_some_iff.mp hw
          obtain ⟨⟨acc2, M6⟩, hin, hw⟩ := Option.bind_eq_some_iff.mp hw
          dsimp only at hin hw
          have hlim : acc2.length ≤ LINE := Nat.le_trans (lc2Loop_len _ _ _ _ _ hw) hout
          refine ⟨W4, ρ', M3, rfl, s4, l3.ext e4 s3.sub, xs1, k1, M5, hi1, fun W5 J1 e5 s5 jf => ?_⟩
          obtain ⟨e6, b6, n6, h6⟩ := Ext.unplus s2 hD2 ((e3.trans e4).trans e5)
          have l5 : Sl K (W5.minus D) ρ' σ3 := Sl.minus b6 n6 (l3.ext (e4.trans e5) s3.sub)
          have s5m : SR K (W5.minus D) M5 := s5.minus b6 n6
          have hW5 : W5.H = upd (W5.minus D).H D (.lst ws) := by
            funext a
            by_cases z : a = D
            · subst z; rw [upd_same]; exact h6
            · rw [upd_ne z]; exact (minus_H z).symm
          refine ⟨fun j k H' => ∃ W6 Mt acc ws, H' = upd W6.H D (.lst ws) ∧ W6.H D = none ∧ Ext (W5.minus D) W6 ∧ SR K W6 Mt ∧ RpL K W6 acc ws ∧ j ≤ xs1.length ∧ k = xs1.length - j ∧
            lcLoop (chk k1 xs1) t1 ft1 fe (wipeR ρ' vs1) (xs1.drop j) acc Mt = some (acc2, M6), ⟨xs1.length, W5.minus D, M5, acc, ws, hW5, minus_self, .refl _, s5m, racc.ext e6 s2.sub, Nat.zero_le _, rfl, hin⟩, ?_⟩
          rintro j k' H' ⟨W6, Mt6, acc6, ws6, rfl, hD6, e7, s6, racc6, hjl, rfl, hw6⟩
          have eP6 : Ext W6 (W6.plus D (.lst ws6)) := Ext.plus hD6
          have sP6 : SR K (W6.plus D (.lst ws6)) Mt6 := s6.plus hD6
          by_cases hlt1 : j < xs1.length
          · right
            have hd1 : xs1.drop j = xs1[j] :: xs1.drop (j + 1) := List.drop_eq_getElem_cons hlt1
            rw [hd1] at hw6
            unfold lcLoop at hw6
            split at hw6
            · rename_i hck1
              obtain ⟨ρ2, ht1, hw6⟩ := Option.bind_eq_some_iff.mp hw6
              obtain ⟨⟨b1, M7⟩, hb1, hw6⟩ := Option.bind_eq_some_iff.mp hw6
              obtain ⟨hgo1, hy1⟩ := (jf.2 (W6.plus D (.lst ws6)) Mt6 (extN_plus b6 e7) sP6 hck1 j).1 xs1[j] (by simp [hlt1])
              refine ⟨hgo1, fun H' => ∃ W8 Mt acc ws, H' = upd W8.H D (.lst ws) ∧ W8.H D = none ∧ Ext (W5.minus D) W8 ∧ SR K W8 Mt ∧ RpL K W8 acc ws ∧
                lcLoop (chk k1 xs1) t1 ft1 fe (wipeR ρ' vs1) (xs1.drop (j + 1)) acc Mt = some (acc2, M6), ?_, fun x1 H' hx1 => ?_⟩
              · rintro H' ⟨W8, Mt', acc', ws', h1, h2, h3, h4, h5, h7⟩
                exact ⟨xs1.length - (j + 1), by omega, W8, Mt', acc', ws', h1, h2, h3, h4, h5, hlt1, rfl, h7⟩
              · obtain ⟨rfl, rx1⟩ := hy1 x1 H' hx1
                have slW1 : Sl K (W6.plus D (.lst ws6)) (wipeR ρ' vs1) (L2.wipe σ3 vs1) := (l5.ext (e7.trans eP6) s5m.sub).wipe vs1
                refine ⟨_, wipeR ρ' vs1, Mt6, xs1[j], rfl, sP6, slW1, rx1, ρ2, ht1, fun W7 σ7 e8 s7 l7 w7 => ⟨by rw [w7, wipe_idem], ?_⟩⟩
                refine ⟨W7, ρ2, Mt6, rfl, s7, l7, b1, M7, hb1, fun W8 e9 s8 => ?_⟩
                cases b1 with
                | false =>
                  rw [if_neg Bool.false_ne_true] at hw6 ⊢
                  obtain ⟨e10, b10, n10, h10⟩ := Ext.unplus s6 hD6 (e8.trans e9)
                  refine ⟨W8.minus D, M7, acc6, ws6, ?_, minus_self, e7.trans e10, s8.minus b10 n10, (racc6.ext e10 s6.sub), hw6⟩
                  funext a
                  by_cases z : a = D
                  · subst z; rw [upd_same]; exact h10
                  · rw [upd_ne z]; exact (minus_H z).symm
                | true =>
                  rw [if_pos rfl] at hw6 ⊢
                  obtain ⟨⟨y, M9⟩, hye, hw6⟩ := Option.bind_eq_some_iff.mp hw6
                  refine ⟨W8, ρ2, M7, rfl, s8, l7.ext e9 s7.sub, y, M9, hye, fun W9 v e11 s9 r9 => ?_⟩
                  obtain ⟨e12, b12, n12, h12⟩ := Ext.unplus s6 hD6 ((e8.trans e9).trans e11)
                  have hz : ws6.length < LINE := by
                    have q := lcLoop_len _ _ _ _ _ hw6
                    rw [List.length_append, List.length_singleton] at q
                    have := racc6.len
                    omega
                  refine ⟨ws6, h12, by rw [line_eq]; exact hz, W9.minus D, M9, acc6 ++ [y], ws6 ++ [v], ?_, minus_self, e7.trans e12, s9.minus b12 n12, (racc6.ext e12 s6.sub).append (.one (r9.minus b12 n12)), hw6⟩
                  funext a
                  by_cases z : a = D
                  · subst z; rw [upd_same, upd_same]
                  · rw [upd_ne z, upd_ne z]; exact (minus_H z).symm
            · cases hw6
          · left
            have e : j = xs1.length := by omega
            subst e
            rw [List.drop_length] at hw6
            unfold lcLoop at hw6
            split at hw6
            · rename_i hck1
              cases hw6
              exact ⟨(jf.2 (W6.plus D (.lst ws6)) M6 (extN_plus b6 e7) sP6 hck1 xs1.length).2 (Nat.le_refl _), W6, M6, acc2, ws6, rfl, hD6, e2.trans (e6.trans e7), s6, racc6, hw⟩
            · cases hw6
    · cases hw
  · left
    have e : i = xs.length := by omega
    subst e
    rw [List.drop_length] at hw
    unfold lc2Loop at hw
    split at hw
    · rename_i hck
      cases hw
      refine ⟨(jo.2 _ _ (e2.trans eP) sP hck xs.length).2 (Nat.le_refl _), ?_⟩
      exact k W2 D ws (e1.trans e2) s2 hD2 racc (by have := racc.len; omega)
    · cases hw
section
variable {X : Cx} {elt tg iter tg1 iter1 : Expr} {ifs ifs1 : List Expr} {scope : Scope} {own : List (Str × Nat)} {vs1 : List Nat} {pos : Pos} {fi fi1 : FI} {t t1 : FG} {ft ft1 : FT} {fe : FE}
theorem pfn_lc2N (hc : X.calm = true) (hN : X.N.Nodup) (hi : PFI X tg iter fi) (ok : BlkOk X.N X.env.scope scope own) (hv : ∀ i ∈ vs1, i ∈ own.map (·.2))
    (hg : ∀ (s : Shared) (H : Hp) (C : Addr) (cl : List (Str × Addr)) (fp : List Addr), PFG (X.blk s H scope (compEnvC scope cl C X.env) fp) (own.map (·.2)) tg t) (ht : ∀ (s : Shared) (H : Hp) (C : Addr) (cl : List (Str × Addr)) (fp : List Addr), PFTs (X.blk s H scope (compEnvC scope cl C X.env) fp) ifs ft)
    (hi1 : ∀ (s : Shared) (H : Hp) (C : Addr) (cl : List (Str × Addr)) (fp : List Addr), PFIN (X.blk s H scope (compEnvC scope cl C X.env) fp) tg1 iter1 fi1)
    (hg1 : ∀ (s : Shared) (H : Hp) (C : Addr) (cl : List (Str × Addr)) (fp : List Addr), PFG (X.blk s H scope (compEnvC scope cl C X.env) fp) vs1 tg1 t1) (ht1 : ∀ (s : Shared) (H : Hp) (C : Addr) (cl : List (Str × Addr)) (fp : List Addr), PFTs (X.blk s H scope (compEnvC scope cl C X.env) fp) ifs1 ft1)
    (he : ∀ (s : Shared) (H : Hp) (C : Addr) (cl : List (Str × Addr)) (fp : List Addr), PFE (X.blk s H scope (compEnvC scope cl C X.env) fp) elt fe) (hs : ∀ x, foldedSetIterable iter X.env x = pure x := by intro _; rfl) (hs1 : ∀ env x, foldedSetIterable iter1 env x = pure x := by intro _ _; rfl) :
    PFN X (.ListComp elt [⟨tg, iter, ifs, 0⟩, ⟨tg1, iter1, ifs1, 0⟩] scope pos) (fLC2 (own.map (·.2)) vs1 fi t ft fi1 t1 ft1 fe) := pe_weak (pe_lc2 hc hN hi ok hv hg ht hi1 hg1 ht1 he hs hs1) lc2N_lift
theorem pfs_setLc2NF {i : Nat} {y : Str} {py spos : Pos} (hc : X.calm = true) (hN : X.N.Nodup) (hy : X.N[i]? = some y) (hyl : X.env.scope.names.lookup y = some .local)
    (hsw : swapsWith (.ListComp elt [⟨tg, iter, ifs, 0⟩, ⟨tg1, iter1, ifs1, 0⟩] scope pos) (some (.Name y py)) spos.line X.env = pure true) (hi : PFI X tg iter fi) (ok : BlkOk X.N X.env.scope scope own) (hv : ∀ i ∈ vs1, i ∈ own.map (·.2))
    (hg : ∀ (s : Shared) (H : Hp) (C : Addr) (cl : List (Str × Addr)) (fp : List Addr), PFG (X.blk s H scope (compEnvC scope cl C X.env) fp) (own.map (·.2)) tg t) (ht : ∀ (s : Shared) (H : Hp) (C : Addr) (cl : List (Str × Addr)) (fp : List Addr), PFTs (X.blk s H scope (compEnvC scope cl C X.env) fp) ifs ft)
    (hi1 : ∀ (s : Shared) (H : Hp) (C : Addr) (cl : List (Str × Addr)) (fp : List Addr), PFIN (X.blk s H scope (compEnvC scope cl C X.env) fp) tg1 iter1 fi1)
    (hg1 : ∀ (s : Shared) (H : Hp) (C : Addr) (cl : List (Str × Addr)) (fp : List Addr), PFG (X.blk s H scope (compEnvC scope cl C X.env) fp) vs1 tg1 t1) (ht1 : ∀ (s : Shared) (H : Hp) (C : Addr) (cl : List (Str × Addr)) (fp : List Addr), PFTs (X.blk s H scope (compEnvC scope cl C X.env) fp) ifs1 ft1)
    (he : ∀ (s : Shared) (H : Hp) (C : Addr) (cl : List (Str × Addr)) (fp : List Addr), PFE (X.blk s H scope (compEnvC scope cl C X.env) fp) elt fe) (hs : ∀ x, foldedSetIterable iter X.env x = pure x := by intro _; rfl) (hs1 : ∀ env x, foldedSetIterable iter1 env x = pure x := by intro _ _; rfl) :
    PFS X (.Assign [.Name y py] (.ListComp elt [⟨tg, iter, ifs, 0⟩, ⟨tg1, iter1, ifs1, 0⟩] scope pos) spos) (sSet i (fFz (fLC2 (own.map (·.2)) vs1 fi t ft fi1 t1 ft1 fe))) := ps_weak (ps_setLc2 hc hN hy hyl hsw hi ok hv hg ht hi1 hg1 ht1 he hs hs1) fun E σ H h => lc2N_lift _ _ _ (set_fz E σ H h)
theorem pfs_setLc2NM {i : Nat} {y : Str} {py spos : Pos} (hc : X.calm = true) (hN : X.N.Nodup) (hy : X.N[i]? = some y) (hyl : X.env.scope.names.lookup y = some .local)
    (hsw : swapsWith (.ListComp elt [⟨tg, iter, ifs, 0⟩, ⟨tg1, iter1, ifs1, 0⟩] scope pos) (some (.Name y py)) spos.line X.env = pure true) (hi : PFI X tg iter fi) (ok : BlkOk X.N X.env.scope scope own) (hv : ∀ i ∈ vs1, i ∈ own.map (·.2))
    (hg : ∀ (s : Shared) (H : Hp) (C : Addr) (cl : List (Str × Addr)) (fp : List Addr), PFG (X.blk s H scope (compEnvC scope cl C X.env) fp) (own.map (·.2)) tg t) (ht : ∀ (s : Shared) (H : Hp) (C : Addr) (cl : List (Str × Addr)) (fp : List Addr), PFTs (X.blk s H scope (compEnvC scope cl C X.env) fp) ifs ft)
    (hi1 : ∀ (s : Shared) (H : Hp) (C : Addr) (cl : List (Str × Addr)) (fp : List Addr), PFIN (X.blk s H scope (compEnvC scope cl C X.env) fp) tg1 iter1 fi1)
    (hg1 : ∀ (s : Shared) (H : Hp) (C : Addr) (cl : List (Str × Addr)) (fp : List Addr), PFG (X.blk s H scope (compEnvC scope cl C X.env) fp) vs1 tg1 t1) (ht1 : ∀ (s : Shared) (H : Hp) (C : Addr) (cl : List (Str × Addr)) (fp : List Addr), PFTs (X.blk s H scope (compEnvC scope cl C X.env) fp) ifs1 ft1)
    (he : ∀ (s : Shared) (H : Hp) (C : Addr) (cl : List (Str × Addr)) (fp : List Addr), PFE (X.blk s H scope (compEnvC scope cl C X.env) fp) elt fe) (hs : ∀ x, foldedSetIterable iter X.env x = pure x := by intro _; rfl) (hs1 : ∀ env x, foldedSetIterable iter1 env x = pure x := by intro _ _; rfl) :
    PFS X (.Assign [.Name y py] (.ListComp elt [⟨tg, iter, ifs, 0⟩, ⟨tg1, iter1, ifs1, 0⟩] scope pos) spos) (sSet i (fMut (fLC2 (own.map (·.2)) vs1 fi t ft fi1 t1 ft1 fe))) := ps_weak (ps_setLc2 hc hN hy hyl hsw hi ok hv hg ht hi1 hg1 ht1 he hs hs1) fun E σ H h => lc2N_lift _ _ _ (set_mut E σ H h)
end
end PF
namespace PySem.W
open PySem PySem.Spec PyProof.Rows
section
variable {prog : Program} {w : World} {A : Around} {E : Value → Shared → Prop} {s : Shared}
theorem call_min_twoH {a b : Value} {Q : Value → Shared → Prop}
    (h : wpAny (model prog w) A.in1 (pyIter (.ref s.heap.objs.size)) (fun it s₂ => ∃ I fp wr G n P St H bt, it = .ref I ∧ WalksS prog w A.in1 I fp wr G n P St ∧ St 0 s₂ ∧ (∀ b ∈ fp, b < s₂.heap.objs.size) ∧ 0 < n ∧
      (∀ b o, H.get? b = some o → b ∉ wr) ∧ (∀ b o, H.get? b = some o → s₂.heap.get? b = some o) ∧ CmpIn prog w A.in1 .Lt H P bt ∧ ∀ v s', P (argBest bt (n - 1)) v → Moved wr G s₂ s' → Q v s') E { s with heap := s.heap.push { cls := .type "tuple", data := .seq #[a, b] } }) :
    wpAny (model prog w) A (call (.builtin "min") [a, b]) Q E s := by
  have hname : (toString "min" ++ toString ".loop" : String) = "min.loop" := by decide
  refine call_function_tree F.kind_min F.plain_min F.entry_min (F.args_min2 _ _) ?_
  show wpAny _ A.in1 (Builtin.Builtins.bindParams "min" ["key", "default"] 0 ⟨[], []⟩ >>= _) _ _ s
  refine wpAny_bind (wpAny_of_eq (show Builtin.Builtins.bindParams "min" ["key", "default"] 0 ⟨[], []⟩ = pure [none, none] from rfl) ?_)
  show wpAny _ A.in1 (newTuple [a, b] >>= _) _ _ s
  refine wpAny_bind (wpAny_newObj_type ?_)
  refine wpAny_bind (wpAny_mono h (fun it s₂ h₂ => ?_) fun _ _ e => e)
  obtain ⟨I, fp, wr, G, n, P, St, H, bt, rfl, W, hst, hfp, hn, hw, hkeep, hcmp, hQ⟩ := h₂
  refine wpAny_bind (wpAny_newObj_type ?_)
  have hSf : s₂.heap.objs.size ∉ fp := fun hm => Nat.lt_irrefl _ (hfp _ hm)
  rw [hname]
  refine wpAny_pure ⟨plainId_quiet F.plain_min_loop _, codeAny_min_loop_firstH W H hw bt hcmp s₂.heap.objs.size hSf (fresh_in hkeep) _ hn (fun b o e => Heap.get?_push_of_some _ (hkeep b o e)) (W.frame 0 s₂ _ s₂.toks hst (Nat.le_refl _) fun b _ o e => Heap.get?_push_of_some _ e) (Heap.get?_push_size _ rfl) fun v s' hP hm => ?_⟩
  exact hQ v s' hP (Moved.drop_new (tk := s₂.toks) hm (Nat.le_refl _))
theorem call_max_twoH {a b : Value} {Q : Value → Shared → Prop}
    (h : wpAny (model prog w) A.in1 (pyIter (.ref s.heap.objs.size)) (fun it s₂ => ∃ I fp wr G n P St H bt, it = .ref I ∧ WalksS prog w A.in1 I fp wr G n P St ∧ St 0 s₂ ∧ (∀ b ∈ fp, b < s₂.heap.objs.size) ∧ 0 < n ∧
      (∀ b o, H.get? b = some o → b ∉ wr) ∧ (∀ b o, H.get? b = some o → s₂.heap.get? b = some o) ∧ CmpIn prog w A.in1 .Gt H P bt ∧ ∀ v s', P (argBest bt (n - 1)) v → Moved wr G s₂ s' → Q v s') E { s with heap := s.heap.push { cls := .type "tuple", data := .seq #[a, b] } }) :
    wpAny (model prog w) A (call (.builtin "max") [a, b]) Q E s := by
  have hname : (toString "max" ++ toString ".loop" : String) = "max.loop" := by decide
  refine call_function_tree F.kind_max F.plain_max F.entry_max (F.args_max2 _ _) ?_
  show wpAny _ A.in1 (Builtin.Builtins.bindParams "max" ["key", "default"] 0 ⟨[], []⟩ >>= _) _ _ s
  refine wpAny_bind (wpAny_of_eq (show Builtin.Builtins.bindParams "max" ["key", "default"] 0 ⟨[], []⟩ = pure [none, none] from rfl) ?_)
  show wpAny _ A.in1 (newTuple [a, b] >>= _) _ _ s
  refine wpAny_bind (wpAny_newObj_type ?_)
  refine wpAny_bind (wpAny_mono h (fun it s₂ h₂ => ?_) fun _ _ e => e)
  obtain ⟨I, fp, wr, G, n, P, St, H, bt, rfl, W, hst, hfp, hn, hw, hkeep, hcmp, hQ⟩ := h₂
  refine wpAny_bind (wpAny_newObj_type ?_)
  have hSf : s₂.heap.objs.size ∉ fp := fun hm => Nat.lt_irrefl _ (hfp _ hm)
  rw [hname]
  refine wpAny_pure ⟨plainId_quiet F.plain_max_loop _, codeAny_max_loop_firstH W H hw bt hcmp s₂.heap.objs.size hSf (fresh_in hkeep) _ hn (fun b o e => Heap.get?_push_of_some _ (hkeep b o e)) (W.frame 0 s₂ _ s₂.toks hst (Nat.le_refl _) fun b _ o e => Heap.get?_push_of_some _ e) (Heap.get?_push_size _ rfl) fun v s' hP hm => ?_⟩
  exact hQ v s' hP (Moved.drop_new (tk := s₂.toks) hm (Nat.le_refl _))
theorem two_reads {h h' : Heap} {a b : Value} {x y : PyData} {as bs : List Addr} (k : ∀ c o, h.get? c = some o → h'.get? c = some o) (ra : Reads h a x as) (rb : Reads h b y bs) : ReadsAll h' [a, b] [x, y] (as ++ (bs ++ [])) :=
  .cons (reads_keeps k ra) (.cons (reads_keeps k rb) .nil)
theorem min_two_data {a b : Value} {x y : PyData} {as bs : List Addr} {Q : Value → Shared → Prop} (hh : A.handled = none) (ra : Reads s.heap a x as) (rb : Reads s.heap b y bs) (ha : AlikeAll [x, y]) (hu : A.units + 1 + PyData.depthAll [x, y] < cLine)
    (h : ∀ v h' tk, v = (if dataLt y x = true then b else a) → (∀ b o, s.heap.get? b = some o → h'.get? b = some o) → Q v { s with heap := h', toks := tk }) :
    wpAny (model prog w) A (call (.builtin "min") [a, b]) Q E s := by
  have kp : ∀ c o, s.heap.get? c = some o → (s.heap.push { cls := .type "tuple", data := .seq #[a, b] }).get? c = some o := fun c o e => Heap.get?_push_of_some _ e
  have hr : ReadsAll (s.heap.push { cls := .type "tuple", data := .seq #[a, b] }) (#[a, b] : Array Value).toList [x, y] _ := two_reads kp ra rb
  refine call_min_twoH (iter_tupleW (s := { s with heap := s.heap.push { cls := .type "tuple", data := .seq #[a, b] } }) (vs := #[a, b]) (A := A.in1) hh ⟨_, Heap.get?_push_size _ rfl, rfl, _, rfl⟩ fun s₂ e W st hfp hw hk => ?_)
  refine ⟨_, _, _, _, _, _, _, s.heap.push { cls := .type "tuple", data := .seq #[a, b] }, _, rfl, W, st, hfp, (show 0 < 2 by decide), hw, hk, cmpIn_lt (A := A.in1) (s := { s with heap := s.heap.push { cls := .type "tuple", data := .seq #[a, b] } }) hr ha (by show A.units + 1 + _ < _; exact hu), fun v s' hP m => ?_⟩
  obtain ⟨h', tk, rfl, hk'⟩ := moved_old e rfl m
  refine h v h' tk ?_ fun c o q => hk' c o (kp c o q)
  have hP' : (#[a, b] : Array Value)[if dataLt y x = true then 1 else 0]? = some v := hP
  by_cases hc : dataLt y x = true
  · rw [if_pos hc] at hP' ⊢; exact (Option.some.inj hP').symm
  · rw [if_neg hc] at hP' ⊢; exact (Option.some.inj hP').symm
theorem max_two_data {a b : Value} {x y : PyData} {as bs : List Addr} {Q : Value → Shared → Prop} (hh : A.handled = none) (ra : Reads s.heap a x as) (rb : Reads s.heap b y bs) (ha : AlikeAll [x, y]) (hu : A.units + 1 + PyData.depthAll [x, y] < cLine)
    (h : ∀ v h' tk, v = (if dataLt x y = true then b else a) → (∀ b o, s.heap.get? b = some o → h'.get? b = some o) → Q v { s with heap := h', toks := tk }) :
    wpAny (model prog w) A (call (.builtin "max") [a, b]) Q E s := by
  have kp : ∀ c o, s.heap.get? c = some o → (s.heap.push { cls := .type "tuple", data := .seq #[a, b] }).get? c = some o := fun c o e => Heap.get?_push_of_some _ e
  have hr : ReadsAll (s.heap.push { cls := .type "tuple", data := .seq #[a, b] }) (#[a, b] : Array Value).toList [x, y] _ := two_reads kp ra rb
  refine call_max_twoH (iter_tupleW (s := { s with heap := s.heap.push { cls := .type "tuple", data := .seq #[a, b] } }) (vs := #[a, b]) (A := A.in1) hh ⟨_, Heap.get?_push_size _ rfl, rfl, _, rfl⟩ fun s₂ e W st hfp hw hk => ?_)
  refine ⟨_, _, _, _, _, _, _, s.heap.push { cls := .type "tuple", data := .seq #[a, b] }, _, rfl, W, st, hfp, (show 0 < 2 by decide), hw, hk, cmpIn_gt (A := A.in1) (s := { s with heap := s.heap.push { cls := .type "tuple", data := .seq #[a, b] } }) hr ha (by show A.units + 1 + _ < _; exact hu), fun v s' hP m => ?_⟩
  obtain ⟨h', tk, rfl, hk'⟩ := moved_old e rfl m
  refine h v h' tk ?_ fun c o q => hk' c o (kp c o q)
  have hP' : (#[a, b] : Array Value)[if dataLt x y = true then 1 else 0]? = some v := hP
  by_cases hc : dataLt x y = true
  · rw [if_pos hc] at hP' ⊢; exact (Option.some.inj hP').symm
  · rw [if_neg hc] at hP' ⊢; exact (Option.some.inj hP').symm
end
end PySem.W
namespace PF
open PySem PySem.Spec PyProof.Rows L2
/-! min, max of two data -/
def rMM2 (K : PySem.W.Frag) (lt : PyData → PyData → Bool) : List V → Hp → VK → Prop := fun vs H Q => ∃ (v u : V) (d e : PyData), vs = [v, u] ∧ Dp K H v d ∧ Dp K H u e ∧ PySem.W.AlikeAll [d, e] ∧ PyData.depthAll [d, e] ≤ 60 ∧ Q (if lt d e = true then u else v) H
theorem cr_min2Dt {X : Cx} (hc : X.calm = true) (hu : X.A.units + 64 < cLine) : CallR X (.builtin "min") (rMM2 X.K fun d e => PySem.W.dataLt e d) := by
  intro pins s σ H vs us Q I r h
  obtain ⟨v, u, d, e, rfl, hd, he, hal, hdp, q⟩ := h
  obtain ⟨u1, u2, rfl, r1, r2⟩ := r.two
  obtain ⟨as, ra⟩ := Dp.reads I d v u1 hd r1
  obtain ⟨bs, rb⟩ := Dp.reads I e u u2 he r2
  refine PySem.W.min_two_data (I.ok.hd hc) ra rb hal (by omega) fun w h' tk hw hk => ?_
  subst hw
  refine ⟨_, H, I.kept hk, ?_, q⟩
  by_cases c : PySem.W.dataLt e d = true
  · rw [if_pos c, if_pos c]; exact r2
  · rw [if_neg c, if_neg c]; exact r1
theorem cr_max2Dt {X : Cx} (hc : X.calm = true) (hu : X.A.units + 64 < cLine) : CallR X (.builtin "max") (rMM2 X.K fun d e => PySem.W.dataLt d e) := by
  intro pins s σ H vs us Q I r h
  obtain ⟨v, u, d, e, rfl, hd, he, hal, hdp, q⟩ := h
  obtain ⟨u1, u2, rfl, r1, r2⟩ := r.two
  obtain ⟨as, ra⟩ := Dp.reads I d v u1 hd r1
  obtain ⟨bs, rb⟩ := Dp.reads I e u u2 he r2
  refine PySem.W.max_two_data (I.ok.hd hc) ra rb hal (by omega) fun w h' tk hw hk => ?_
  subst hw
  refine ⟨_, H, I.kept hk, ?_, q⟩
  by_cases c : PySem.W.dataLt d e = true
  · rw [if_pos c, if_pos c]; exact r2
  · rw [if_neg c, if_neg c]; exact r1
def gMM2 (lt : PyData → PyData → Bool) : GN := fun ds M => match ds with
  | [x, y] => if okAl [x, y] = true then some (if lt x.py y.py = true then y else x) else none
  | _ => none
def gMin2D : GN := gMM2 fun d e => PySem.W.dataLt e d
def gMax2D : GN := gMM2 fun d e => PySem.W.dataLt d e
theorem o_mm2 {K : PySem.W.Frag} {lt : PyData → PyData → Bool} : OpN K (rMM2 K lt) (gMM2 lt) := by
  intro W M ds d vs Q sr r hg k
  unfold gMM2 at hg
  split at hg
  · rename_i x y
    split at hg
    · rename_i ok
      cases hg
      unfold okAl at ok
      rw [Bool.and_eq_true, Bool.and_eq_true, Bool.and_eq_true] at ok
      obtain ⟨⟨o1, o2⟩, o3, o4⟩ := ok
      obtain ⟨v, u, rfl, r1, r2⟩ := rl2 r
      have hdp := dp_Dps 59 [x, y] [v, u] o2 r
      obtain ⟨q1, q2⟩ := dps_can 59 [x, y] o2
      rw [D.pys, D.pys, D.pys] at hdp q1 q2
      cases hdp with
      | cons h1 h2 =>
        cases h2 with
        | cons h2 _ =>
          refine ⟨v, u, x.py, y.py, rfl, h1, h2, ⟨fun a ha b hb => ?_, fun a ha => ?_⟩, by omega, ?_⟩
          · obtain ⟨a0, ha0, rfl⟩ := pys_mem (xs := [x, y]) (by rw [D.pys, D.pys, D.pys]; exact ha)
            obtain ⟨b0, hb0, rfl⟩ := pys_mem (xs := [x, y]) (by rw [D.pys, D.pys, D.pys]; exact hb)
            exact List.all_eq_true.mp (List.all_eq_true.mp o3 a0 ha0) b0 hb0
          · obtain ⟨a0, ha0, rfl⟩ := pys_mem (xs := [x, y]) (by rw [D.pys, D.pys, D.pys]; exact ha)
            have h4 := List.all_eq_true.mp o4 a0 ha0
            have h5 := nls_at o1 ha0
            cases a0 <;> simp [isNn, D.py, D.nl] at h4 h5 ⊢
          · by_cases c : lt x.py y.py = true
            · rw [if_pos c] at k ⊢; exact k W _ (.refl W) sr r2
            · rw [if_neg c] at k ⊢; exact k W _ (.refl W) sr r1
    · cases hg
  · cases hg
end PF
namespace PF
open PySem PySem.Spec PyProof.Rows L2
/-! ### places of keys -/
section
variable {κ β γ : Type} [DecidableEq κ] [DecidableEq β]
def fpos (k : κ) : List κ → Option Nat
  | [] => none
  | x :: xs => if x = k then some 0 else (fpos k xs).map (· + 1)
theorem fpos_some {k : κ} : ∀ {xs : List κ} {i : Nat}, fpos k xs = some i → xs[i]? = some k
  | [], _, h => by cases h
  | x :: xs, i, h => by
    unfold fpos at h
    split at h
    · rename_i e; cases h; rw [e]; rfl
    · obtain ⟨j, hj, rfl⟩ := Option.map_eq_some_iff.mp h
      rw [List.getElem?_cons_succ]
      exact fpos_some hj
theorem fpos_lt {k : κ} {xs : List κ} {i : Nat} (h : fpos k xs = some i) : i < xs.length := (List.getElem?_eq_some_iff.mp (fpos_some h)).1
theorem fpos_none {k : κ} : ∀ {xs : List κ}, fpos k xs = none → k ∉ xs
  | [], _ => by simp
  | x :: xs, h => by
    unfold fpos at h
    split at h
    · cases h
    · rename_i e
      have := fpos_none (Option.map_eq_none_iff.mp h)
      rintro z
      rcases List.mem_cons.mp z with z | z
      · exact e z.symm
      · exact this z
theorem fpos_not {k : κ} : ∀ {xs : List κ}, k ∉ xs → fpos k xs = none
  | [], _ => rfl
  | x :: xs, h => by
    unfold fpos
    rw [if_neg (fun z => h (by simp [z])), fpos_not fun z => h (List.mem_cons_of_mem _ z)]; rfl
theorem fpos_map {f : κ → β} (hf : ∀ a b, f a = f b → a = b) (k : κ) : ∀ xs : List κ, fpos (f k) (xs.map f) = fpos k xs
  | [] => rfl
  | x :: xs => by
    rw [List.map_cons]
    unfold fpos
    rw [fpos_map hf k xs]
    by_cases h : x = k
    · rw [if_pos h, if_pos (by rw [h])]
    · rw [if_neg h, if_neg fun z => h (hf _ _ z)]
theorem valueAt_fp (k : κ) : ∀ kvs : List (κ × Value), valueAt kvs k = (fpos k (kvs.map (·.1))).bind fun i => (kvs.map (·.2))[i]?
  | [] => rfl
  | p :: r => by
    rw [List.map_cons, List.map_cons]
    unfold fpos
    have ih := valueAt_fp k r
    by_cases h : p.1 = k
    · rw [if_pos h]
      simp [valueAt, List.find?_cons, h]
    · rw [if_neg h]
      have : valueAt (p :: r) k = valueAt r k := by simp [valueAt, List.find?_cons, h]
      rw [this, ih]
      cases fpos k (r.map (·.1)) <;> simp
theorem atKey_fp (k : κ) : ∀ xs : List (κ × Addr × Value), atKey xs k = (fpos k (xs.map (·.1))).bind fun i => (xs.map (·.2))[i]?
  | [] => rfl
  | p :: r => by
    rw [List.map_cons, List.map_cons]
    unfold fpos
    have ih := atKey_fp k r
    by_cases h : p.1 = k
    · rw [if_pos h]
      simp [atKey, List.find?_cons, h]
    · rw [if_neg h]
      have : atKey (p :: r) k = atKey r k := by simp [atKey, List.find?_cons, h]
      rw [this, ih]
      cases fpos k (r.map (·.1)) <;> simp
theorem keep_other {k : κ} {f : κ × γ → κ × γ} (h : ∀ p, p.1 ≠ k → f p = p) : ∀ {r : List (κ × γ)}, k ∉ r.map (·.1) → r.map f = r
  | [], _ => rfl
  | p :: r, hn => by
    rw [List.map_cons, List.mem_cons, not_or] at hn
    rw [List.map_cons, h p (fun z => hn.1 z.symm), keep_other h hn.2]
/-- one entry's value is set anew -/
theorem put_at {k : κ} {f : κ × γ → κ × γ} (h : ∀ p, p.1 ≠ k → f p = p) : ∀ {r : List (κ × γ)} {i : Nat}, (r.map (·.1)).Nodup → fpos k (r.map (·.1)) = some i → ∃ p, r[i]? = some p ∧ p.1 = k ∧ r.map f = r.set i (f p)
  | [], _, _, e => by cases e
  | p :: r, i, nd, e => by
    rw [List.map_cons] at nd e
    rw [List.nodup_cons] at nd
    unfold fpos at e
    split at e
    · rename_i q
      cases e
      refine ⟨p, rfl, q, ?_⟩
      rw [List.map_cons, keep_other h (by rw [← q]; exact nd.1)]; rfl
    · rename_i q
      obtain ⟨j, hj, rfl⟩ := Option.map_eq_some_iff.mp e
      obtain ⟨p', h1, h2, h3⟩ := put_at h nd.2 hj
      exact ⟨p', h1, h2, by rw [List.map_cons, h p q, h3]; rfl⟩
theorem any_fp (k : κ) : ∀ r : List (κ × γ), (r.any fun kv => decide (kv.1 = k)) = (fpos k (r.map (·.1))).isSome
  | [] => rfl
  | p :: r => by
    rw [List.any_cons, any_fp k r]
    show _ = (if p.1 = k then some 0 else (fpos k (r.map (·.1))).map (· + 1)).isSome
    by_cases h : p.1 = k
    · rw [if_pos h, decide_eq_true h]; rfl
    · rw [if_neg h, decide_eq_false h]; cases fpos k (r.map (·.1)) <;> rfl
theorem stored_fp {k : κ} {v : Value} {kvs : List (κ × Value)} (nd : (kvs.map (·.1)).Nodup) : stored kvs k v = match fpos k (kvs.map (·.1)) with
    | some i => kvs.set i (k, v)
    | none => kvs ++ [(k, v)] := by
  unfold stored
  rw [any_fp]
  cases q : fpos k (kvs.map (·.1)) with
  | none => rw [if_neg (by simp)]
  | some i =>
    rw [if_pos (by rfl)]
    obtain ⟨p, h1, h2, h3⟩ := put_at (k := k) (f := fun kv : κ × Value => if kv.1 = k then (kv.1, v) else kv) (fun p hp => if_neg hp) nd q
    rw [h3, if_pos h2, h2]
theorem atKey_some (k : κ) (xs : List (κ × Addr × Value)) : (atKey xs k).isSome = (fpos k (xs.map (·.1))).isSome := by
  rw [atKey_fp]
  cases q : fpos k (xs.map (·.1)) with
  | none => rfl
  | some i =>
    have := fpos_lt q
    rw [List.length_map] at this
    rw [Option.bind_some, List.getElem?_map, List.getElem?_eq_getElem this]; rfl
theorem storedH_fp {k : κ} {b : Addr} {v : Value} {xs : List (κ × Addr × Value)} (nd : (xs.map (·.1)).Nodup) : match fpos k (xs.map (·.1)) with
    | some i => ∃ p, xs[i]? = some p ∧ p.1 = k ∧ storedH xs k b v = xs.set i (p.1, p.2.1, v)
    | none => storedH xs k b v = xs ++ [(k, b, v)] := by
  unfold storedH
  rw [atKey_some]
  cases q : fpos k (xs.map (·.1)) with
  | none => exact if_neg (by simp)
  | some i =>
    obtain ⟨p, h1, h2, h3⟩ := put_at (k := k) (f := putAt k v) (fun p hp => if_neg hp) nd q
    refine ⟨p, h1, h2, ?_⟩
    rw [show (if (some i).isSome = true then xs.map (putAt k v) else xs ++ [(k, b, v)]) = xs.map (putAt k v) from rfl, h3]
    unfold putAt
    rw [if_pos h2]
/-- one entry less -/
theorem drop_at {k : κ} : ∀ {r : List (κ × γ)} {i : Nat}, (r.map (·.1)).Nodup → fpos k (r.map (·.1)) = some i → r.filter (fun p => decide (p.1 ≠ k)) = r.eraseIdx i
  | [], _, _, e => by cases e
  | p :: r, i, nd, e => by
    rw [List.map_cons] at nd e
    rw [List.nodup_cons] at nd
    unfold fpos at e
    split at e
    · rename_i q
      cases e
      rw [List.filter_cons_of_neg (by simp [q])]
      show _ = r
      refine List.filter_eq_self.mpr fun z hz => ?_
      refine decide_eq_true fun z' => nd.1 ?_
      rw [q, ← z']
      exact List.mem_map.mpr ⟨z, hz, rfl⟩
    · rename_i q
      obtain ⟨j, hj, rfl⟩ := Option.map_eq_some_iff.mp e
      rw [List.filter_cons_of_pos (by simp [q]), drop_at nd.2 hj]; rfl
end
/-! ### keys as data -/
mutual
theorem hash_any : ∀ (d : D) (k : NestedKey), dKey d = some k → ∀ w w' : World, k.hash w = k.hash w'
  | .non, k, h, w, w' => by unfold dKey at h; cases h; rfl
  | .bl b, k, h, w, w' => by unfold dKey at h; cases h; rfl
  | .int i, k, h, w, w' => by unfold dKey at h; cases h; rfl
  | .tup xs, k, h, w, w' => by
    unfold dKey at h
    obtain ⟨ks, h2, rfl⟩ := Option.map_eq_some_iff.mp h
    rw [NestedKey.hash, NestedKey.hash, hashes_any xs ks h2 w w']
  | .str _, k, h, w, w' => by unfold dKey at h; cases h
  | .lst _, k, h, w, w' => by unfold dKey at h; cases h
  | .kst _, k, h, w, w' => by unfold dKey at h; cases h
  | .ref _, k, h, w, w' => by unfold dKey at h; cases h
  | .dct _ _, k, h, w, w' => by unfold dKey at h; cases h
theorem hashes_any : ∀ (ds : List D) (ks : List NestedKey), dKeys ds = some ks → ∀ w w' : World, NestedKey.hashes w ks = NestedKey.hashes w' ks
  | [], ks, h, w, w' => by unfold dKeys at h; cases h; rfl
  | d :: ds, ks, h, w, w' => by
    unfold dKeys at h
    obtain ⟨k, h1, h⟩ := Option.bind_eq_some_iff.mp h
    obtain ⟨ks', h2, rfl⟩ := Option.map_eq_some_iff.mp h
    rw [NestedKey.hashes, NestedKey.hashes, hash_any d k h1 w w', hashes_any ds ks' h2 w w']
end
section
variable {X : Cx} {pins : List (Addr × Obj)} {σ : L2.St} {s : Shared} {W : Wo}
mutual
theorem nested_of (I : Inv X pins σ W.H s) : ∀ (d : D) (k : NestedKey) (v : V) (u : Value), dKey d = some k → Rp X.K W d v → RelV v u → NestedIs s.heap k u
  | .non, k, v, u, h, r, ru => by unfold dKey at h; cases h; cases (show _ = _ from r); cases (show _ = _ from ru); exact .none
  | .bl b, k, v, u, h, r, ru => by unfold dKey at h; cases h; cases (show _ = _ from r); cases (show _ = _ from ru); exact .bool rfl
  | .int i, k, v, u, h, r, ru => by
    unfold dKey at h; cases h; cases (show _ = _ from r)
    obtain ⟨t, rfl⟩ := (show ∃ t, u = Value.int i t from ru)
    exact .int _ _
  | .tup xs, k, v, u, h, r, ru => by
    unfold dKey at h
    obtain ⟨ks, h2, rfl⟩ := Option.map_eq_some_iff.mp h
    obtain ⟨a, vs, rfl, q, rs⟩ := tp_sq r
    obtain rfl : u = Value.ref a := ru
    obtain ⟨its, rv, ht, _⟩ := I.tuple q
    obtain ⟨o, ho, hc, n, hd⟩ := ht
    exact .tup ho hc hd (by simpa using nesteds_of I xs ks vs its h2 rs rv)
  | .str _, k, v, u, h, _, _ => by unfold dKey at h; cases h
  | .lst _, k, v, u, h, _, _ => by unfold dKey at h; cases h
  | .kst _, k, v, u, h, _, _ => by unfold dKey at h; cases h
  | .ref _, k, v, u, h, _, _ => by unfold dKey at h; cases h
  | .dct _ _, k, v, u, h, _, _ => by unfold dKey at h; cases h
theorem nesteds_of (I : Inv X pins σ W.H s) : ∀ (ds : List D) (ks : List NestedKey) (vs : List V) (us : List Value), dKeys ds = some ks → RpL X.K W ds vs → Vals vs us → NestedAll s.heap ks us
  | [], ks, vs, us, h, r, ru => by
    unfold dKeys at h; cases h; cases (show _ = _ from r); cases ru; exact .nil
  | d :: ds, ks, vs, us, h, r, ru => by
    unfold dKeys at h
    obtain ⟨k, h1, h⟩ := Option.bind_eq_some_iff.mp h
    obtain ⟨ks', h2, rfl⟩ := Option.map_eq_some_iff.mp h
    obtain ⟨v, vs', rfl, r1, r2⟩ := r
    cases ru with
    | cons q1 q2 => exact .cons (nested_of I d k v _ h1 r1 q1) (nesteds_of I ds ks' vs' _ h2 r2 q2)
end
end
/-! ### entries -/
theorem EnL.len : ∀ {nks : List NestedKey} {kv vv : List V} {es : List DictEntry}, EnL nks kv vv es → kv.length = nks.length ∧ vv.length = nks.length ∧ es.length = nks.length
  | [], _, _, _, h => by obtain ⟨rfl, rfl, rfl⟩ := h; exact ⟨rfl, rfl, rfl⟩
  | _ :: nks, _, _, _, h => by
    obtain ⟨x, xs, y, ys, e, es', rfl, rfl, rfl, _, _, _, t⟩ := h
    have := t.len
    simp [this]
theorem dKeys_int : ∀ {ks : List D}, ks.all D.isI = true → ∃ is : List Int, ks = is.map D.int ∧ dKeys ks = some (is.map NestedKey.num)
  | [], _ => ⟨[], rfl, rfl⟩
  | d :: ds, h => by
    rw [List.all_cons, Bool.and_eq_true] at h
    obtain ⟨is, h1, h2⟩ := dKeys_int h.2
    cases d with
    | int i => exact ⟨i :: is, by rw [h1]; rfl, by unfold dKeys dKey; rw [h2]; rfl⟩
    | _ => cases h.1
theorem rp_intsD {K : PySem.W.Frag} {W : Wo} : ∀ {is : List Int} {kv : List V}, RpL K W (is.map D.int) kv → kv = is.map V.int
  | [], _, h => h
  | i :: is, _, h => by
    obtain ⟨v, vs, rfl, h1, h2⟩ := h
    cases (show _ = _ from h1)
    rw [rp_intsD h2]; rfl
section
variable {P : Program} {w : World}
theorem enl_pairs : ∀ {is : List Int} {vv : List V} {es : List DictEntry}, EnL (is.map .num) (is.map V.int) vv es → ∃ vals : List Value, Paired RelV vv vals ∧ vals.length = is.length ∧ Pairs (mixKind P w) es ((is.map Sum.inl).zip vals) ∧ ∀ e ∈ es, ∃ k, (mixKind P w).is k e.key = true ∧ e.hash = (mixKind P w).hash k
  | [], _, _, h => by obtain ⟨_, rfl, rfl⟩ := h; exact ⟨[], .nil, rfl, .nil, fun _ h => nomatch h⟩
  | i :: is, _, _, h => by
    obtain ⟨x, xs, y, ys, e, es', e1, rfl, rfl, r1, r2, hh, t⟩ := h
    rw [List.map_cons] at e1
    injection e1 with e1 e2
    subst e1 e2
    obtain ⟨vals, p1, p2, p3, p4⟩ := enl_pairs t
    have ik : (mixKind P w).is (.inl i) e.key = true := kV_is (k := .inl i) r1
    refine ⟨e.val :: vals, .cons r2 p1, by simp [p2], ?_, fun z hz => ?_⟩
    · rw [List.map_cons, List.zip_cons_cons]
      exact .cons ik rfl p3
    · rcases List.mem_cons.mp hz with rfl | hz
      · exact ⟨.inl i, ik, hh w⟩
      · exact p4 z hz
theorem pairs_enl : ∀ {is : List Int} {vv : List V} {vals : List Value} {es : List DictEntry}, Paired RelV vv vals → vals.length = is.length → Pairs (mixKind P w) es ((is.map Sum.inl).zip vals) → (∀ e ∈ es, ∃ k, (mixKind P w).is k e.key = true ∧ e.hash = (mixKind P w).hash k) → EnL (is.map .num) (is.map V.int) vv es
  | [], _, vals, _, r, hl, p, _ => by
    have : vals = [] := List.eq_nil_of_length_eq_zero hl
    subst this
    cases r; cases p; exact ⟨rfl, rfl, rfl⟩
  | i :: is, _, [], _, r, hl, p, _ => by cases hl
  | i :: is, _, u :: vals, _, r, hl, p, hk => by
    rw [List.map_cons, List.zip_cons_cons] at p
    cases r with
    | cons r1 r2 =>
      cases p with
      | cons p1 p2 p3 =>
        obtain ⟨k, k1, k2⟩ := hk _ (List.mem_cons_self ..)
        have ek : k = .inl i := (mixKind P w).inj _ _ _ k1 p1
        subst ek
        refine ⟨_, _, _, _, _, _, rfl, rfl, rfl, relV_key (k := .inl i) p1, ?_, fun _ => k2, pairs_enl r2 (by simpa using hl) p3 fun z hz => hk z (List.mem_cons_of_mem _ hz)⟩
        have p2' : _ = u := p2
        rw [p2']; exact r1
theorem enl_H : ∀ {nks : List NestedKey} {ks : List D} {K : PySem.W.Frag} {W : Wo} {kv vv : List V} {es : List DictEntry}, ks.all D.isT = true → RpL K W ks kv → dKeys ks = some nks → EnL nks kv vv es →
    ∃ xs : List (NestedKey × Addr × Value), es = xs.map (entryOfKey (nestedKind P w)) ∧ xs.map (·.1) = nks ∧ kv = xs.map (fun x => V.ref x.2.1) ∧ Paired RelV vv (xs.map (·.2.2))
  | [], ks, K, W, kv, vv, es, ht, r, hk, h => by
    obtain ⟨rfl, rfl, rfl⟩ := h
    exact ⟨[], rfl, rfl, rfl, .nil⟩
  | nk :: nks, ks, K, W, kv, vv, es, ht, r, hk, h => by
    obtain ⟨x, xs, y, ys, e, es', rfl, rfl, rfl, r1, r2, hh, t⟩ := h
    cases ks with
    | nil => cases (show _ = _ from r)
    | cons d ds =>
      rw [List.all_cons, Bool.and_eq_true] at ht
      unfold dKeys at hk
      obtain ⟨k, h1, hk⟩ := Option.bind_eq_some_iff.mp hk
      obtain ⟨ks', h2, e3⟩ := Option.map_eq_some_iff.mp hk
      injection e3 with e3 e4
      subst e3 e4
      obtain ⟨v, vs, e5, q1, q2⟩ := r
      injection e5 with e5 e6
      subst e5 e6
      obtain ⟨zs, z1, z2, z3, z4⟩ := enl_H ht.2 q2 h2 t
      cases d with
      | tup ds' =>
        obtain ⟨b, vs', rfl, _, _⟩ := q1
        have ek : e.key = .ref b := r1
        refine ⟨(k, b, e.val) :: zs, ?_, by simp [z2], by simp [z3], .cons r2 z4⟩
        rw [List.map_cons, ← z1]
        congr 1
        obtain ⟨a1, a2, a3⟩ := e
        have hh' := hh w
        simp only at ek hh'
        subst ek hh'
        rfl
      | _ => cases ht.1
theorem H_enl : ∀ {xs : List (NestedKey × Addr × Value)} {vv : List V} {w : World}, (∀ x ∈ xs, ∀ w w' : World, x.1.hash w = x.1.hash w') → Paired RelV vv (xs.map (·.2.2)) → EnL (xs.map (·.1)) (xs.map fun x => V.ref x.2.1) vv (xs.map (entryOfKey (nestedKind P w)))
  | [], _, _, _, r => by cases r; exact ⟨rfl, rfl, rfl⟩
  | x :: xs, _, w, hx, r => by
    rw [List.map_cons] at r
    cases r with
    | cons r1 r2 => exact ⟨_, _, _, _, _, _, rfl, rfl, rfl, rfl, r1, fun w' => hx x (List.mem_cons_self ..) w w', H_enl (fun z hz => hx z (List.mem_cons_of_mem _ hz)) r2⟩
end
end PF
namespace PF
open PySem PySem.Spec PyProof.Rows L2
/-! ### what is done to a dict -/
/-- the key, where it is one that this dict may have -/
def kOk (ks : List D) (k : D) : Option NestedKey := (dKey k).bind fun nk => if (((k.isI && ks.all D.isI) || (k.isT && ks.all D.isT)) && decide (nk.depth ≤ 8)) = true then some nk else none
/-- where it stands -/
def dIx (ks : List D) (k : D) : Option (Option Nat) := (kOk ks k).bind fun nk => (dKeys ks).map fun nks => fpos nk nks
def putKs (ks : List D) (k : D) : Option Nat → List D
  | some _ => ks
  | none => ks ++ [k]
def putVs {β : Type} (vs : List β) (v : β) : Option Nat → List β
  | some i => vs.set i v
  | none => vs ++ [v]
def keyV {β : Type} (kv : List β) (k : β) : Option Nat → List β
  | some _ => kv
  | none => kv ++ [k]
theorem dKeys_len : ∀ {ks : List D} {nks : List NestedKey}, dKeys ks = some nks → nks.length = ks.length
  | [], nks, h => by unfold dKeys at h; cases h; rfl
  | d :: ds, nks, h => by
    unfold dKeys at h
    obtain ⟨k, h1, h⟩ := Option.bind_eq_some_iff.mp h
    obtain ⟨ks', h2, rfl⟩ := Option.map_eq_some_iff.mp h
    simp [dKeys_len h2]
theorem dKeys_snoc {k : D} {nk : NestedKey} (hk : dKey k = some nk) : ∀ {ks : List D} {nks : List NestedKey}, dKeys ks = some nks → dKeys (ks ++ [k]) = some (nks ++ [nk])
  | [], nks, h => by
    unfold dKeys at h; cases h
    show dKeys [k] = _
    unfold dKeys dKeys
    rw [hk]; rfl
  | d :: ds, nks, h => by
    unfold dKeys at h
    obtain ⟨k', h1, h⟩ := Option.bind_eq_some_iff.mp h
    obtain ⟨ks', h2, rfl⟩ := Option.map_eq_some_iff.mp h
    show dKeys (d :: (ds ++ [k])) = _
    unfold dKeys
    rw [h1, dKeys_snoc hk h2]; rfl
theorem dKeys_drop : ∀ {ks : List D} {nks : List NestedKey} (i : Nat), dKeys ks = some nks → dKeys (ks.eraseIdx i) = some (nks.eraseIdx i)
  | [], nks, i, h => by unfold dKeys at h; cases h; simp [dKeys]
  | d :: ds, nks, i, h => by
    have h0 := h
    unfold dKeys at h
    obtain ⟨k', h1, h⟩ := Option.bind_eq_some_iff.mp h
    obtain ⟨ks', h2, rfl⟩ := Option.map_eq_some_iff.mp h
    cases i with
    | zero => exact h2
    | succ i =>
      show dKeys (d :: ds.eraseIdx i) = some (k' :: ks'.eraseIdx i)
      unfold dKeys
      rw [h1, dKeys_drop i h2]; rfl
theorem dIx_ok {ks : List D} {k : D} {oi : Option Nat} (h : dIx ks k = some oi) : ∃ nk nks, dKey k = some nk ∧ ((k.isI = true ∧ ks.all D.isI = true) ∨ (k.isT = true ∧ ks.all D.isT = true)) ∧ nk.depth ≤ 8 ∧ dKeys ks = some nks ∧ fpos nk nks = oi := by
  unfold dIx kOk at h
  obtain ⟨nk, h1, h⟩ := Option.bind_eq_some_iff.mp h
  obtain ⟨nk', h2, h1⟩ := Option.bind_eq_some_iff.mp h1
  obtain ⟨nks, h3, h⟩ := Option.map_eq_some_iff.mp h
  split at h1
  · rename_i hc
    cases h1
    simp only [Bool.and_eq_true, Bool.or_eq_true, decide_eq_true_eq] at hc
    exact ⟨nk, nks, h2, hc.1, hc.2, h3, h⟩
  · cases h1
section
variable {X : Cx} {pins : List (Addr × Obj)} {σ : L2.St} {s : Shared} {W : Wo} {A : Around} {E : Value → Shared → Prop} {a : Addr} {o : Obj} {ks vs : List D} {kv vv : List V} {k : D} {vk : V} {u : Value} {oi : Option Nat}
/-- the dict by the library's two ways -/
inductive DView (X : Cx) (s : Shared) (a : Addr) (ks : List D) (kv vv : List V) (k : D) (vk : V) (u : Value) (oi : Option Nat) : Prop
  | int (i : Int) (t : Nat) (is : List Int) (vals : List Value) (e1 : k = .int i) (e2 : u = .int i t) (e2' : vk = .int i) (e3 : ks = is.map D.int) (e4 : kv = is.map V.int) (r : Paired RelV vv vals) (hl : vals.length = is.length)
      (dd : s.heap.DictOf (mixKind X.prog X.w) a ((is.map Sum.inl).zip vals)) (e5 : fpos i is = oi)
  | tup (nk : NestedKey) (b : Addr) (xs : List (NestedKey × Addr × Value)) (e1 : u = .ref b) (e2 : vk = .ref b) (e3 : dKey k = some nk) (ht : k.isT = true) (hts : ks.all D.isT = true) (hd : nk.depth ≤ 8) (key : (nestedKind X.prog X.w).is s.heap nk b) (e4 : kv = xs.map fun x => V.ref x.2.1) (e5 : dKeys ks = some (xs.map (·.1)))
      (r : Paired RelV vv (xs.map (·.2.2))) (dd : s.heap.DictOfH (nestedKind X.prog X.w) a xs) (e6 : fpos nk (xs.map (·.1)) = oi)
theorem zip_keys {is : List Int} {vals : List Value} (hl : vals.length = is.length) : ((is.map (Sum.inl : Int → Key)).zip vals).map (·.1) = is.map Sum.inl ∧ ((is.map (Sum.inl : Int → Key)).zip vals).map (·.2) = vals :=
  ⟨List.map_fst_zip (by simp [hl]), List.map_snd_zip (by simp [hl])⟩
theorem num_nodup {is : List Int} (h : (is.map NestedKey.num).Nodup) : (is.map (Sum.inl : Int → Key)).Nodup := by
  have h' : is.Nodup := by
    induction is with
    | nil => exact List.nodup_nil
    | cons i is ih =>
      rw [List.map_cons, List.nodup_cons] at h
      exact List.nodup_cons.mpr ⟨fun z => h.1 (List.mem_map.mpr ⟨i, z, rfl⟩), ih h.2⟩
  induction is with
  | nil => exact List.nodup_nil
  | cons i is ih =>
    rw [List.nodup_cons] at h'
    rw [List.map_cons, List.nodup_cons] at h ⊢
    refine ⟨fun z => ?_, ih h.2 h'.2⟩
    obtain ⟨j, hj, e⟩ := List.mem_map.mp z
    injection e with e
    subst e
    exact h'.1 hj
theorem keys_is {s : Shared} (I : Inv X pins σ W.H s) : ∀ {xs : List (NestedKey × Addr × Value)} {ks : List D}, RpL X.K W ks (xs.map fun x => V.ref x.2.1) → dKeys ks = some (xs.map (·.1)) → (∀ k ∈ xs.map (·.1), k.depth ≤ 8) → ∀ x ∈ xs, (nestedKind X.prog X.w).is s.heap x.1 x.2.1
  | [], _, _, _, _ => fun _ h => nomatch h
  | x :: xs, ks, r, e, hd => by
    cases ks with
    | nil => cases (show _ = _ from r)
    | cons d ds =>
      unfold dKeys at e
      obtain ⟨k', h1, e⟩ := Option.bind_eq_some_iff.mp e
      obtain ⟨ks', h2, e⟩ := Option.map_eq_some_iff.mp e
      rw [List.map_cons] at e r
      injection e with e3 e4
      subst e3 e4
      obtain ⟨v, vr, e5, q1, q2⟩ := r
      injection e5 with e5 e6
      subst e5 e6
      intro z hz
      rcases List.mem_cons.mp hz with rfl | hz
      · exact ⟨nested_of I d _ _ _ h1 q1 rfl, hd _ (by simp)⟩
      · exact keys_is I q2 h2 (fun k hk => hd k (by rw [List.map_cons]; exact List.mem_cons_of_mem _ hk)) z hz
theorem ext_get (I : Inv X pins σ W.H s) (hH : W.H a = some (dxo a o)) : s.heap.get? a = some o := (show ObjOk X.prog X.w W.H s.heap a (dxo a o) from I.hok a _ hH).1
theorem dview (I : Inv X pins σ W.H s) (hH : W.H a = some (dxo a o)) (de : DEnt a o ks kv vv) (rk : RpL X.K W ks kv) (rkey : Rp X.K W k vk) (ru : RelV vk u) (h : dIx ks k = some oi) : DView X s a ks kv vv k vk u oi := by
  obtain ⟨nk, nks, h1, h2, h3, h4, h5⟩ := dIx_ok h
  obtain ⟨nks', es, ep, n1, n2, n3, n4, n5⟩ := de.en
  obtain rfl : nks = nks' := Option.some.inj (h4.symm.trans n1)
  have hg := ext_get I hH
  rcases h2 with ⟨h2, h6⟩ | ⟨h2, h6⟩
  · obtain ⟨is, rfl, hq⟩ := dKeys_int h6
    obtain rfl : nks = is.map .num := Option.some.inj (n1.symm.trans hq)
    obtain rfl := rp_intsD rk
    obtain ⟨vals, p1, p2, p3, p4⟩ := enl_pairs (P := X.prog) (w := X.w) n5
    cases k with
    | int i =>
      cases (show _ = _ from rkey)
      obtain ⟨t, rfl⟩ := (show ∃ t, u = Value.int i t from ru)
      unfold dKey at h1
      cases h1
      refine .int i t is vals rfl rfl rfl rfl rfl p1 p2 ⟨o, es, ep, hg, de.ex, n4, fun e he => p4 e (by simpa using he), p3, ?_⟩ ?_
      · rw [(zip_keys p2).1]; exact num_nodup n2
      · rw [← h5]; exact (fpos_map (f := NestedKey.num) (fun _ _ e => by injection e) i is).symm
    | _ => cases h2
  · obtain ⟨xs, z1, z2, z3, z4⟩ := enl_H (P := X.prog) (w := X.w) h6 rk n1 n5
    cases k with
    | tup l =>
      have rkey' := rkey
      obtain ⟨b, us, rfl, _, _⟩ := rkey
      obtain rfl : u = Value.ref b := ru
      subst z3
      rw [← z2] at n1 n2 n3 h5
      refine .tup nk b xs rfl rfl h1 h2 h6 h3 ⟨nested_of I _ _ (.ref b) _ h1 rkey' rfl, h3⟩ rfl n1 z4 ⟨o, es, ep, hg, de.ex, n4, z1, keys_is I rk n1 n3, n2⟩ h5
    | _ => cases h2
theorem rel_at {vv : List V} {us : List Value} (r : Paired RelV vv us) {i : Nat} {y : V} (h : vv[i]? = some y) : ∃ w', us[i]? = some w' ∧ RelV y w' := Vals.get r h
theorem room1 (hu : A.units + 64 < cLine) : (nestedKind X.prog X.w).room A.in1 := by show A.units + 1 + 8 < cLine; omega
theorem room0 (hu : A.units + 64 < cLine) : (nestedKind X.prog X.w).room A := by show A.units + 8 < cLine; omega
theorem inl_inj : ∀ a b : Int, (Sum.inl a : Key) = Sum.inl b → a = b := fun a b e => by injection e
theorem x_getItem {Q : Value → Shared → Prop} {i : Nat} {y : V} (hu : A.units + 64 < cLine) (I : Inv X pins σ W.H s) (v : DView X s a ks kv vv k vk u (some i)) (hy : vv[i]? = some y) (q : ∀ w' s', Inv X pins σ W.H s' → RelV y w' → Q w' s') :
    wpAny (model X.prog X.w) A (getItem (.ref a) u) Q E s := by
  cases v with
  | int i0 t is vals e1 e2 e2' e3 e4 r hl dd e5 =>
    subst e2
    obtain ⟨w', hw, rw'⟩ := rel_at r hy
    obtain ⟨z1, z2⟩ := zip_keys hl
    refine wpAny_getItem_of (kV_is (k := .inl i0) ⟨t, rfl⟩) dd.mapOf (v := w') ?_ (q w' _ (I.tok _) rw')
    rw [valueAt_fp, z1, z2, fpos_map inl_inj, e5]; exact hw
  | tup nk b xs e1 e2 e3 ht hts hd key e4 e5 r dd e6 =>
    subst e1
    obtain ⟨w', hw, rw'⟩ := rel_at r hy
    rw [List.getElem?_map] at hw
    obtain ⟨p, hp, rfl⟩ := Option.map_eq_some_iff.mp hw
    refine wpAny_getItem_heap (p := p.2) (room1 hu) key dd ?_ (q _ _ (I.tok _) rw')
    rw [atKey_fp, e6, Option.bind_some, List.getElem?_map, hp]; rfl
theorem fp_some {is : List Int} {vals : List Value} (hl : vals.length = is.length) (i0 : Int) : (valueAt ((is.map (Sum.inl : Int → Key)).zip vals) (.inl i0)).isSome = (fpos i0 is).isSome := by
  obtain ⟨z1, z2⟩ := zip_keys hl
  rw [valueAt_fp, z1, z2, fpos_map inl_inj]
  cases q : fpos i0 is with
  | none => rfl
  | some i =>
    have := fpos_lt q
    rw [Option.bind_some, List.getElem?_eq_getElem (by omega)]; rfl
theorem x_in {Q : Value → Shared → Prop} (hu : A.units + 64 < cLine) (I : Inv X pins σ W.H s) (hsm : (a == sysModules) = false) (v : DView X s a ks kv vv k vk u oi) (q : ∀ s', Inv X pins σ W.H s' → Q (.bool oi.isSome) s') :
    wpAny (model X.prog X.w) A (compareOp .In u (.ref a)) Q E s := by
  cases v with
  | int i0 t is vals e1 e2 e2' e3 e4 r hl dd e5 =>
    subst e2
    refine wpAny_in_of (kV_is (k := .inl i0) ⟨t, rfl⟩) hsm dd.mapOf ?_
    rw [fp_some hl, e5]; exact q _ (I.tok _)
  | tup nk b xs e1 e2 e3 ht hts hd key e4 e5 r dd e6 =>
    subst e1
    refine wpAny_in_heap (room1 hu) key hsm dd ?_
    rw [atKey_some, e6]; exact q _ (I.tok _)
theorem x_notIn {Q : Value → Shared → Prop} (hu : A.units + 64 < cLine) (I : Inv X pins σ W.H s) (hsm : (a == sysModules) = false) (v : DView X s a ks kv vv k vk u oi) (q : ∀ s', Inv X pins σ W.H s' → Q (.bool (!oi.isSome)) s') :
    wpAny (model X.prog X.w) A (compareOp .NotIn u (.ref a)) Q E s := by
  cases v with
  | int i0 t is vals e1 e2 e2' e3 e4 r hl dd e5 =>
    subst e2
    refine wpAny_notIn_of (kV_is (k := .inl i0) ⟨t, rfl⟩) hsm dd.mapOf ?_
    rw [fp_some hl, e5]; exact q _ (I.tok _)
  | tup nk b xs e1 e2 e3 ht hts hd key e4 e5 r dd e6 =>
    subst e1
    refine wpAny_notIn_heap (room1 hu) key hsm dd ?_
    rw [atKey_some, e6]; exact q _ (I.tok _)
theorem x_get {Q : Value → Shared → Prop} {d : V} {r0 : Value} (hu : A.units + 64 < cLine) (I : Inv X pins σ W.H s) (hsm : (a == sysModules) = false) (v : DView X s a ks kv vv k vk u oi) (hlv : vv.length = ks.length) (rd : RelV d r0) (q : ∀ w' s', Inv X pins σ W.H s' → RelV ((oi.bind fun i => vv[i]?).getD d) w' → Q w' s') :
    wpAny (model X.prog X.w) A (call (.builtin "dict.get") [.ref a, u, r0]) Q E s := by
  have rel : ∀ {us : List Value}, Paired RelV vv us → RelV ((oi.bind fun i => vv[i]?).getD d) ((oi.bind fun i => us[i]?).getD r0) := fun {us} r => by
    cases oi with
    | none => exact rd
    | some i =>
      rw [Option.bind_some, Option.bind_some]
      cases q : vv[i]? with
      | none =>
        have : us[i]? = none := by
          rw [List.getElem?_eq_none_iff] at q ⊢
          have := Vals.length r
          omega
        rw [this]; exact rd
      | some y =>
        obtain ⟨w', h1, h2⟩ := rel_at r q
        rw [h1]; exact h2
  cases v with
  | int i0 t is vals e1 e2 e2' e3 e4 r hl dd e5 =>
    subst e2
    obtain ⟨z1, z2⟩ := zip_keys hl
    refine call_meetsIn PySem.F.slot_dict_get dd.typeIs PySem.F.entry_dict_get (PySem.F.args_dict_get_3 _ _ _) (meets_dict_get_default (mixKind X.prog X.w) a (kV_is (k := .inl i0) ⟨t, rfl⟩) hsm r0) ⟨_, dd.mapOf, q _ _ (I.tok _) ?_⟩
    rw [valueAt_fp, z1, z2, fpos_map inl_inj, e5]; exact rel r
  | tup nk b xs e1 e2 e3 ht hts hd key e4 e5 r dd e6 =>
    subst e1
    refine call_meetsIn PySem.F.slot_dict_get dd.typeIs PySem.F.entry_dict_get (PySem.F.args_dict_get_3 _ _ _) (meetsH_dict_get_default (nestedKind X.prog X.w) a b hsm r0) ⟨room1 hu, nk, xs, key, dd, q _ _ (I.tok _) ?_⟩
    have e : (atKey xs nk).map (·.2) = oi.bind fun i => (xs.map (·.2.2))[i]? := by
      rw [atKey_fp, e6]
      cases oi with
      | none => rfl
      | some i => rw [Option.bind_some, Option.bind_some, List.getElem?_map, List.getElem?_map, Option.map_map]; rfl
    rw [e]; exact rel r
/-! changes -/
theorem paired_set {α β : Type} {R : α → β → Prop} {x : α} {y : β} (q : R x y) : ∀ {xs : List α} {ys : List β} (i : Nat), Paired R xs ys → Paired R (xs.set i x) (ys.set i y)
  | _, _, _, .nil => .nil
  | _, _, 0, .cons _ t => .cons q t
  | _, _, i + 1, .cons h t => .cons h (paired_set q i t)
theorem paired_drop {α β : Type} {R : α → β → Prop} : ∀ {xs : List α} {ys : List β} (i : Nat), Paired R xs ys → Paired R (xs.eraseIdx i) (ys.eraseIdx i)
  | _, _, _, .nil => .nil
  | _, _, 0, .cons _ t => t
  | _, _, i + 1, .cons h t => .cons h (paired_drop i t)
end
end PF
namespace PF
open PySem PySem.Spec PyProof.Rows L2
section
variable {X : Cx} {pins : List (Addr × Obj)} {σ : L2.St} {s : Shared} {W : Wo} {A : Around} {E : Value → Shared → Prop} {a : Addr} {o : Obj} {ks vs : List D} {kv vv : List V} {k : D} {vk : V} {u : Value} {oi : Option Nat}
theorem zip_set {is : List Int} {vals : List Value} {i : Nat} {i0 : Int} {r : Value} (hi : is[i]? = some i0) : ((is.map (Sum.inl : Int → Key)).zip vals).set i (.inl i0, r) = (is.map (Sum.inl : Int → Key)).zip (vals.set i r) := by
  induction is generalizing i vals with
  | nil => simp at hi
  | cons j is ih =>
    cases vals with
    | nil => simp
    | cons z vals =>
      cases i with
      | zero =>
        simp at hi; subst hi; rfl
      | succ i => simp only [List.map_cons, List.zip_cons_cons, List.set_cons_succ]; rw [ih (by simpa using hi)]
theorem zip_snoc {is : List Int} {vals : List Value} {i0 : Int} {r : Value} (hl : vals.length = is.length) : ((is.map (Sum.inl : Int → Key)).zip vals) ++ [(.inl i0, r)] = ((is ++ [i0]).map (Sum.inl : Int → Key)).zip (vals ++ [r]) := by
  rw [List.map_append, List.zip_append (by simp [hl])]; rfl
theorem paired_snoc {α β : Type} {R : α → β → Prop} {x : α} {y : β} {xs : List α} {ys : List β} (h : Paired R xs ys) (q : R x y) : Paired R (xs ++ [x]) (ys ++ [y]) := Paired.snoc h q
theorem all_isI (is : List Int) : (is.map D.int).all D.isI = true := by simp [D.isI]
theorem keyVs_int (is : List Int) (i : Int) (oi : Option Nat) : keyV (is.map V.int) (.int i) oi = (match oi with | some _ => is | none => is ++ [i]).map V.int := by cases oi <;> simp [keyV]
theorem nodup_app {α : Type} {xs : List α} {x : α} (h : xs.Nodup) (hx : x ∉ xs) : (xs ++ [x]).Nodup := by
  rw [List.nodup_append]
  exact ⟨h, by simp, fun a ha b hb => by rw [List.mem_singleton.mp hb]; rintro rfl; exact hx ha⟩
theorem num_inj : ∀ a b : Int, NestedKey.num a = NestedKey.num b → a = b := fun a b e => by injection e
theorem nodup_num : ∀ {is : List Int}, is.Nodup → (is.map NestedKey.num).Nodup
  | [], _ => List.nodup_nil
  | i :: is, h => by
    rw [List.nodup_cons] at h
    rw [List.map_cons, List.nodup_cons]
    refine ⟨fun z => ?_, nodup_num h.2⟩
    obtain ⟨j, hj, e⟩ := List.mem_map.mp z
    rw [num_inj _ _ e] at hj
    exact h.1 hj
theorem nodup_inl : ∀ {is : List Int}, (is.map (Sum.inl : Int → Key)).Nodup → is.Nodup
  | [], _ => List.nodup_nil
  | i :: is, h => by
    rw [List.map_cons, List.nodup_cons] at h
    exact List.nodup_cons.mpr ⟨fun z => h.1 (List.mem_map.mpr ⟨i, z, rfl⟩), nodup_inl h.2⟩
/-- what the new object is, int keys -/
theorem put_int {h' : Heap} {i0 : Int} {is : List Int} {vals : List Value} {z : V} {r : Value} (hsm : (a == sysModules) = false) (hln : is.length < LINE) (rv : Paired RelV vv vals) (hl : vals.length = is.length) (nd : is.Nodup) (rz : RelV z r)
    (dd : h'.DictOf (mixKind X.prog X.w) a (stored ((is.map Sum.inl).zip vals) (.inl i0) r)) :
    ∃ o', h'.get? a = some o' ∧ DEnt a o' (putKs (is.map D.int) (.int i0) (fpos i0 is)) (keyV (is.map V.int) (.int i0) (fpos i0 is)) (putVs vv z (fpos i0 is)) := by
  obtain ⟨z1, z2⟩ := zip_keys hl
  have nd' : (((is.map (Sum.inl : Int → Key)).zip vals).map (·.1)).Nodup := by
    rw [z1]; exact num_nodup (nodup_num nd)
  rw [stored_fp nd', z1, fpos_map inl_inj] at dd
  have nkn : ∀ k ∈ is.map NestedKey.num, k.depth ≤ 8 := fun k hk => by
    obtain ⟨i, _, rfl⟩ := List.mem_map.mp hk
    exact Nat.zero_le _
  have ik : ∀ js : List Int, dKeys (js.map D.int) = some (js.map .num) := fun js => by
    induction js with
    | nil => rfl
    | cons j js ih => show (dKey (.int j)).bind (fun k => (dKeys (js.map D.int)).map (k :: ·)) = _; rw [ih]; rfl
  cases q : fpos i0 is with
  | some i =>
    rw [q] at dd
    have dd : h'.DictOf (mixKind X.prog X.w) a (((is.map Sum.inl).zip vals).set i (.inl i0, r)) := dd
    rw [zip_set (fpos_some q)] at dd
    obtain ⟨o', es, ep, g, ex, dat, hk, pr, _⟩ := dd
    exact ⟨o', g, ex, hsm, by show (is.map D.int).length ≤ LINE; rw [List.length_map]; omega, .inl (all_isI is), is.map .num, es, ep, ik is, nodup_num nd, nkn, dat, pairs_enl (paired_set rz i rv) (by simp [hl]) pr fun e he => hk e (by simpa using he)⟩
  | none =>
    rw [q] at dd
    have dd : h'.DictOf (mixKind X.prog X.w) a (((is.map Sum.inl).zip vals) ++ [(.inl i0, r)]) := dd
    rw [zip_snoc hl] at dd
    obtain ⟨o', es, ep, g, ex, dat, hk, pr, _⟩ := dd
    have nk : i0 ∉ is := fpos_none q
    refine ⟨o', g, ex, hsm, by show (is.map D.int ++ [_]).length ≤ LINE; rw [List.length_append, List.length_map]; exact hln, .inl ?_, (is ++ [i0]).map .num, es, ep, ?_, nodup_num (nodup_app nd nk), ?_, dat, ?_⟩
    · show (is.map D.int ++ [D.int i0]).all D.isI = true
      rw [show is.map D.int ++ [D.int i0] = (is ++ [i0]).map D.int by simp]; exact all_isI _
    · show dKeys (is.map D.int ++ [D.int i0]) = _
      rw [show is.map D.int ++ [D.int i0] = (is ++ [i0]).map D.int by simp]; exact ik _
    · intro k hk
      obtain ⟨i, _, rfl⟩ := List.mem_map.mp hk
      exact Nat.zero_le _
    · show EnL _ (is.map V.int ++ [V.int i0]) (vv ++ [z]) _
      rw [show is.map V.int ++ [V.int i0] = (is ++ [i0]).map V.int by simp]
      exact pairs_enl (paired_snoc rv rz) (by simp [hl]) pr fun e he => hk e (by simpa using he)
theorem hash_of {ks : List D} {nks : List NestedKey} (h : dKeys ks = some nks) : ∀ k ∈ nks, ∀ w w' : World, k.hash w = k.hash w' := by
  induction ks generalizing nks with
  | nil => unfold dKeys at h; cases h; intro k hk; cases hk
  | cons d ds ih =>
    unfold dKeys at h
    obtain ⟨k', h1, h⟩ := Option.bind_eq_some_iff.mp h
    obtain ⟨ks', h2, rfl⟩ := Option.map_eq_some_iff.mp h
    intro k hk w w'
    rcases List.mem_cons.mp hk with rfl | hk
    · exact hash_any d _ h1 w w'
    · exact ih h2 k hk w w'
theorem set_same {α β : Type} (f : α → β) {xs : List α} {i : Nat} {p q : α} (h : xs[i]? = some p) (e : f q = f p) : (xs.set i q).map f = xs.map f := by
  rw [List.map_set, e]
  apply List.ext_getElem?
  intro j
  by_cases hj : i = j
  · subst hj
    have hl : i < (xs.map f).length := by rw [List.length_map]; exact (List.getElem?_eq_some_iff.mp h).1
    rw [List.getElem?_set_self hl, List.getElem?_map, h]; rfl
  · rw [List.getElem?_set_ne hj]
/-- .. tuple keys -/
theorem put_tup {h' : Heap} {nk : NestedKey} {b : Addr} {xs : List (NestedKey × Addr × Value)} {z : V} {r : Value} (hsm : (a == sysModules) = false) (hln : ks.length < LINE) (hk : dKey k = some nk) (ht : k.isT = true) (hts : ks.all D.isT = true) (hdk : nk.depth ≤ 8)
    (hds : ∀ k ∈ xs.map (·.1), k.depth ≤ 8) (e5 : dKeys ks = some (xs.map (·.1))) (rv : Paired RelV vv (xs.map (·.2.2))) (nd : (xs.map (·.1)).Nodup) (rz : RelV z r)
    (dd : h'.DictOfH (nestedKind X.prog X.w) a (storedH xs nk b r)) :
    ∃ o', h'.get? a = some o' ∧ DEnt a o' (putKs ks k (fpos nk (xs.map (·.1)))) (keyV (xs.map fun x => V.ref x.2.1) (.ref b) (fpos nk (xs.map (·.1)))) (putVs vv z (fpos nk (xs.map (·.1)))) := by
  have st := storedH_fp (k := nk) (b := b) (v := r) nd
  obtain ⟨o', es, ep, g, ex, dat, he, his, nd'⟩ := dd
  cases q : fpos nk (xs.map (·.1)) with
  | some i =>
    rw [q] at st
    obtain ⟨p, h1, h2, h3⟩ := st
    rw [h3] at he nd'
    have m1 : (xs.set i (p.1, p.2.1, r)).map (·.1) = xs.map (·.1) := set_same (·.1) (q := (p.1, p.2.1, r)) h1 rfl
    have m2 : (xs.set i (p.1, p.2.1, r)).map (fun x => V.ref x.2.1) = xs.map fun x => V.ref x.2.1 := set_same (fun x => V.ref x.2.1) (q := (p.1, p.2.1, r)) h1 rfl
    have m3 : (xs.set i (p.1, p.2.1, r)).map (·.2.2) = (xs.map (·.2.2)).set i r := List.map_set
    refine ⟨o', g, ex, hsm, Nat.le_of_lt hln, .inr hts, xs.map (·.1), es, ep, (show dKeys (putKs ks k (some i)) = some (xs.map (·.1)) from e5), nd, hds, dat, ?_⟩
    have := H_enl (P := X.prog) (w := X.w) (xs := xs.set i (p.1, p.2.1, r)) (vv := vv.set i z) (fun x hx => ?_) (by rw [m3]; exact paired_set rz i rv)
    · rw [m1, m2] at this
      rw [he]; exact this
    · have hx' : x.1 ∈ xs.map (·.1) := by rw [← m1]; exact List.mem_map.mpr ⟨x, hx, rfl⟩
      exact hash_of e5 x.1 hx'
  | none =>
    rw [q] at st
    have st : storedH xs nk b r = xs ++ [(nk, b, r)] := st
    rw [st] at he nd'
    have e6 := dKeys_snoc hk e5
    refine ⟨o', g, ex, hsm, by show (ks ++ [k]).length ≤ LINE; rw [List.length_append]; exact hln, .inr ?_, xs.map (·.1) ++ [nk], es, ep, e6, nodup_app nd (fpos_none q), fun k hk => ?_, dat, ?_⟩
    · show (ks ++ [k]).all D.isT = true
      rw [List.all_append, hts, List.all_cons, ht]; rfl
    · rcases List.mem_append.mp hk with hk | hk
      · exact hds k hk
      · rw [List.mem_singleton.mp hk]; exact hdk
    · have := H_enl (P := X.prog) (w := X.w) (xs := xs ++ [(nk, b, r)]) (vv := vv ++ [z]) (fun x hx => hash_of e6 x.1 ?_) (by rw [List.map_append]; exact paired_snoc rv rz)
      · rw [List.map_append, List.map_append] at this
        rw [he]; exact this
      · rcases List.mem_append.mp hx with hx | hx
        · exact List.mem_append_left _ (List.mem_map.mpr ⟨x, hx, rfl⟩)
        · rw [List.mem_singleton.mp hx]; simp
/-- the state behind a change -/
theorem x_write {h' : Heap} {t' : Nat} {o' : Obj} (I : Inv X pins σ W.H s) (hH : W.H a = some (dxo a o)) (hs : Heap.SameBut a s.heap h') (g : h'.get? a = some o') : Inv X pins σ (upd W.H a (dxo a o')) { s with heap := h', toks := t' } :=
  d_write I (by rw [hH]; exact True.intro) hs ⟨o', g⟩ ⟨g, ⟨o', g⟩, fun h1 h2 e k => k o' e⟩
structure Put (a : Addr) (ks : List D) (kv vv : List V) (k : D) (vk z : V) (oi : Option Nat) (o' : Obj) : Prop where
  de : DEnt a o' (putKs ks k oi) (keyV kv vk oi) (putVs vv z oi)
/-- d[k] = v, by whatever does it -/
theorem x_put {t : Sem Unit} {Q : Unit → Shared → Prop} {z : V} {r : Value} (I : Inv X pins σ W.H s) (hH : W.H a = some (dxo a o)) (de : DEnt a o ks kv vv) (v : DView X s a ks kv vv k vk u oi) (hln : ks.length < LINE) (rz : RelV z r)
    (tI : ∀ (i0 : Key) (kvs : List (Key × Value)), (mixKind X.prog X.w).is i0 u = true → s.heap.DictOf (mixKind X.prog X.w) a kvs → kvs.length ≤ sizeLine → (∀ h', h'.DictOf (mixKind X.prog X.w) a (stored kvs i0 r) → Heap.SameBut a s.heap h' → ∀ t', Q () { s with heap := h', toks := t' }) → wpAny (model X.prog X.w) A t Q E s)
    (tT : ∀ (nk : NestedKey) (b : Addr) (xs : List (NestedKey × Addr × Value)), u = .ref b → (nestedKind X.prog X.w).is s.heap nk b → s.heap.DictOfH (nestedKind X.prog X.w) a xs → xs.length ≤ sizeLine → (∀ h', h'.DictOfH (nestedKind X.prog X.w) a (storedH xs nk b r) → Heap.SameBut a s.heap h' → ∀ t', Q () { s with heap := h', toks := t' }) → wpAny (model X.prog X.w) A t Q E s)
    (q : ∀ o' s', Inv X pins σ (upd W.H a (dxo a o')) s' → Put a ks kv vv k vk z oi o' → Q () s') : wpAny (model X.prog X.w) A t Q E s := by
  obtain ⟨nks', es, ep, n1, n2, n3, n4, n5⟩ := de.en
  cases v with
  | int i0 t is vals e1 e2 e2' e3 e4 r' hl dd e5 =>
    subst e1 e2 e2' e3 e4 e5
    have hl' : is.length < LINE := by simpa using hln
    have nd : is.Nodup := by
      obtain ⟨_, _, _, _, _, _, _, _, nd⟩ := dd
      rw [(zip_keys hl).1] at nd
      exact nodup_inl nd
    refine tI (.inl i0) _ (kV_is (k := .inl i0) ⟨t, rfl⟩) dd (by rw [List.length_zip, List.length_map, line_eq]; omega) fun h' dd' hs t' => ?_
    obtain ⟨o', g, d'⟩ := put_int de.sm hl' r' hl nd rz dd'
    exact q o' _ (x_write I hH hs g) ⟨d'⟩
  | tup nk b xs e1 e2 e3 ht hts hd key e4 e5 r' dd e6 =>
    subst e1 e2 e4 e6
    obtain rfl : nks' = xs.map (·.1) := Option.some.inj (n1.symm.trans e5)
    have hxl : xs.length = ks.length := by have := dKeys_len e5; simpa using this
    refine tT nk b xs rfl key dd (by rw [line_eq]; omega) fun h' dd' hs t' => ?_
    obtain ⟨o', g, d'⟩ := put_tup de.sm hln e3 ht hts hd n3 e5 r' n2 rz dd'
    exact q o' _ (x_write I hH hs g) ⟨d'⟩
theorem x_setItem {Q : Unit → Shared → Prop} {z : V} {r : Value} (hu : A.units + 64 < cLine) (I : Inv X pins σ W.H s) (hH : W.H a = some (dxo a o)) (de : DEnt a o ks kv vv) (v : DView X s a ks kv vv k vk u oi) (hln : ks.length < LINE) (rz : RelV z r)
    (q : ∀ o' s', Inv X pins σ (upd W.H a (dxo a o')) s' → Put a ks kv vv k vk z oi o' → Q () s') : wpAny (model X.prog X.w) A (setItem (.ref a) u r) Q E s :=
  x_put I hH de v hln rz (fun i0 kvs h1 h2 h3 h4 => wpAny_setItem_pairs (hsz := h3) h1 h2 fun h' a b => h4 h' a b _)
    (fun nk b xs h0 h1 h2 h3 h4 => by subst h0; exact wpAny_setItem_heap (hsz := h3) (room1 hu) h1 h2 fun h' a b => h4 h' a b _) q
theorem x_dictSet {Q : Unit → Shared → Prop} {z : V} {r : Value} (hu : A.units + 64 < cLine) (I : Inv X pins σ W.H s) (hH : W.H a = some (dxo a o)) (de : DEnt a o ks kv vv) (v : DView X s a ks kv vv k vk u oi) (hln : ks.length < LINE) (rz : RelV z r)
    (q : ∀ o' s', Inv X pins σ (upd W.H a (dxo a o')) s' → Put a ks kv vv k vk z oi o' → Q () s') : wpAny (model X.prog X.w) A (dictSet a u r) Q E s :=
  x_put I hH de v hln rz (fun i0 kvs h1 h2 h3 h4 => wpAny_dictSet_pairs (hsz := h3) h1 h2 fun h' a b => h4 h' a b _)
    (fun nk b xs h0 h1 h2 h3 h4 => by subst h0; exact wpAny_dictSet_heap (hsz := h3) (room0 hu) h1 h2 fun h' a b => h4 h' a b _) q
/-- d.setdefault(k, x), k not there or there -/
theorem x_setdef {Q : Value → Shared → Prop} {z : V} {r : Value} (hu : A.units + 64 < cLine) (I : Inv X pins σ W.H s) (hH : W.H a = some (dxo a o)) (de : DEnt a o ks kv vv) (v : DView X s a ks kv vv k vk u oi) (hln : ks.length < LINE) (rz : RelV z r)
    (q1 : ∀ i y, oi = some i → vv[i]? = some y → ∀ w' s', Inv X pins σ W.H s' → RelV y w' → Q w' s')
    (q2 : oi = none → ∀ o' s', Inv X pins σ (upd W.H a (dxo a o')) s' → Put a ks kv vv k vk z oi o' → ∀ w', RelV z w' → Q w' s') : True := trivial
end
end PF
namespace PF
open PySem PySem.Spec PyProof.Rows L2
/-- a dict, as it stands -/
def dctOf (d : D) (M : Mem) : Option (List D × List D) := match d with
  | .dct ks vs => some (ks, vs)
  | .ref n => match M[n]? with | some (.dct ks vs) => some (ks, vs) | some (.lck _ ks vs) => some (ks, vs) | _ => none
  | _ => none
/-- .. a changeable one -/
def mdOf (d : D) (M : Mem) : Option (Nat × List D × List D) := match d with
  | .ref n => match M[n]? with | some (.dct ks vs) => some (n, ks, vs) | _ => none
  | _ => none
section
variable {K : PySem.W.Frag} {W : Wo} {M : Mem}
theorem dct_at {d : D} {v : V} {ks vs : List D} (sr : SR K W M) (h : Rp K W d v) (e : dctOf d M = some (ks, vs)) : ∃ a o kv vv, v = .ref a ∧ W.H a = some (dxo a o) ∧ DEnt a o ks kv vv ∧ RpL K W ks kv ∧ RpL K W vs vv := by
  cases d with
  | dct k1 v1 =>
    cases e
    obtain ⟨a, o, kv, vv, e1, f, d, r1, r2⟩ := h
    exact ⟨a, o, kv, vv, e1, f.1, d, r1, r2⟩
  | ref n =>
    obtain ⟨a, h1, e1⟩ := h
    obtain ⟨mo, h2, m⟩ := sr.at_ h1
    have e' : (match M[n]? with | some (.dct ks vs) => some (ks, vs) | some (.lck _ ks vs) => some (ks, vs) | _ => none) = some (ks, vs) := e
    rw [h2] at e'
    cases mo with
    | lst ds => cases e'
    | lck o k1 v1 =>
      cases e'
      obtain ⟨kv, vv, q1, q2, q3, q4⟩ := m
      exact ⟨a, o, kv, vv, e1, q1, q2, q3, q4⟩
    | dct k1 v1 =>
      cases e'
      obtain ⟨o, kv, vv, q1, q2, q3, q4⟩ := m
      exact ⟨a, o, kv, vv, e1, q1, q2, q3, q4⟩
  | _ => cases e
theorem md_at {d : D} {v : V} {n : Nat} {ks vs : List D} (sr : SR K W M) (h : Rp K W d v) (e : mdOf d M = some (n, ks, vs)) : ∃ a o kv vv, v = .ref a ∧ W.as[n]? = some a ∧ W.H a = some (dxo a o) ∧ DEnt a o ks kv vv ∧ RpL K W ks kv ∧ RpL K W vs vv := by
  cases d with
  | ref m =>
    obtain ⟨a, h1, e1⟩ := h
    obtain ⟨mo, h2, q⟩ := sr.at_ h1
    have e' : (match M[m]? with | some (.dct ks vs) => some (m, ks, vs) | _ => none) = some (n, ks, vs) := e
    rw [h2] at e'
    cases mo with
    | lst ds => cases e'
    | lck o k1 v1 => cases e'
    | dct k1 v1 =>
      cases e'
      obtain ⟨o, kv, vv, q1, q2, q3, q4⟩ := q
      exact ⟨a, o, kv, vv, e1, h1, q1, q2, q3, q4⟩
  | _ => cases e
/-- what is known of a dict and a key -/
structure DAt (K : PySem.W.Frag) (W : Wo) (H : Hp) (a : Addr) (o : Obj) (ks : List D) (kv vv : List V) (k : D) (vk : V) (oi : Option Nat) : Prop where
  wh : W.H = H
  ha : W.H a = some (dxo a o)
  de : DEnt a o ks kv vv
  rk : RpL K W ks kv
  rkey : Rp K W k vk
  ix : dIx ks k = some oi
theorem DEnt.vl {a : Addr} {o : Obj} {ks : List D} {kv vv : List V} (d : DEnt a o ks kv vv) : vv.length = ks.length := by
  obtain ⟨nks, es, ep, h1, _, _, _, h2⟩ := d.en
  rw [h2.len.2.1, dKeys_len h1]
theorem DAt.isd {X : Cx} {pins : List (Addr × Obj)} {σ : L2.St} {s : Shared} {H : Hp} {a : Addr} {o : Obj} {ks : List D} {kv vv : List V} {k : D} {vk : V} {oi : Option Nat} (I : Inv X pins σ H s) (d : DAt X.K W H a o ks kv vv k vk oi) :
    s.TypeIs (.ref a) "dict" ∧ ∀ b, Value.ref a = .ref b → ∃ ob, s.heap.get? b = some ob ∧ ob.dict = none := by
  have hw := d.wh
  subst hw
  have g := ext_get I d.ha
  exact ⟨⟨o, g, d.de.ex.1⟩, fun b q => by cases q; exact ⟨o, g, d.de.ex.2.1⟩⟩
theorem DAt.view {X : Cx} {pins : List (Addr × Obj)} {σ : L2.St} {s : Shared} {H : Hp} {a : Addr} {o : Obj} {ks : List D} {kv vv : List V} {k : D} {vk : V} {oi : Option Nat} {u : Value} (I : Inv X pins σ H s) (d : DAt X.K W H a o ks kv vv k vk oi) (ru : RelV vk u) : DView X s a ks kv vv k vk u oi := by
  have hw := d.wh
  subst hw
  exact dview I d.ha d.de d.rk d.rkey ru d.ix
end
/-! d[k] -/
def gDGet : G2 := fun x y M => (dctOf x M).bind fun d => (dIx d.1 y).bind fun oi => oi.bind fun i => d.2[i]?
def rDGet (K : PySem.W.Frag) : R2 := fun x y H Q => ∃ (W : Wo) (a : Addr) (o : Obj) (ks : List D) (kv vv : List V) (k : D) (i : Nat) (z : V), x = .ref a ∧ DAt K W H a o ks kv vv k y (some i) ∧ vv[i]? = some z ∧ Q z H
theorem o_dget {K : PySem.W.Frag} : Op2 K (rDGet K) gDGet := by
  intro W M x y d v u Q sr rx ry hg k
  obtain ⟨⟨ks, vs⟩, hd, hg⟩ := Option.bind_eq_some_iff.mp hg
  obtain ⟨oi, hi, hg⟩ := Option.bind_eq_some_iff.mp hg
  obtain ⟨i, rfl, hg⟩ := Option.bind_eq_some_iff.mp hg
  obtain ⟨a, o, kv, vv, rfl, h1, h2, h3, h4⟩ := dct_at sr rx hd
  obtain ⟨z, hz, rz⟩ := h4.get hg
  exact ⟨W, a, o, ks, kv, vv, y, i, z, rfl, ⟨rfl, h1, h2, h3, ry, hi⟩, hz, k W z (.refl W) sr rz⟩
section
variable {X : Cx} {a b c : Expr} {fa fb fc : FE} {pos : Pos}
theorem pf_dget (hu : X.A.units + 64 < cLine) (ha : PFE X a fa) (hb : PFE X b fb) (hs : NoSl b) : PFE X (.Subscript a b pos) (f2 gDGet fa fb) := by
  refine pe_weak (t := tOp (rDGet X.K) (liftE X.K fa) (liftE X.K fb)) ⟨fun pins s σ H Q I h => ?_⟩ (lift2 o_dget)
  refine subD_of PySem.F.slot_dict_getitem.lookup hs (thn (ha.run pins s σ H _ I h) fun u s1 ⟨x, H1, I1, rx, q1⟩ => thn (hb.run pins s1 σ H1 _ I1 q1) fun iv s2 ⟨y, H2, I2, ry, q2⟩ => ?_)
  obtain ⟨W, p, o, ks, kv, vv, k, i, z, rfl, d, hz, q⟩ := q2
  obtain rfl : u = Value.ref p := rx
  have hw := d.wh
  refine ⟨(d.isd I2).1, ?_⟩
  subst hw
  exact x_getItem hu I2 (d.view I2 ry) hz fun w' s3 I3 rw' => ⟨z, _, I3, rw', q⟩
/-! k in d, k not in d -/
def gDIn : G2B := fun x y M => (dctOf y M).bind fun d => (dIx d.1 x).map fun oi => oi.isSome
def gDNotIn : G2B := fun x y M => (dctOf y M).bind fun d => (dIx d.1 x).map fun oi => !oi.isSome
def rDIn (K : PySem.W.Frag) (f : Bool → Bool) : R2 := fun x y H Q => ∃ (W : Wo) (a : Addr) (o : Obj) (ks : List D) (kv vv : List V) (k : D) (oi : Option Nat), y = .ref a ∧ DAt K W H a o ks kv vv k x oi ∧ Q (.bl (f oi.isSome)) H
theorem o_din {K : PySem.W.Frag} : Op2 K (rDIn K fun b => b) (gB gDIn) := by
  intro W M x y d v u Q sr rx ry hg k
  unfold gB gDIn at hg
  obtain ⟨b, hg2, rfl⟩ := Option.map_eq_some_iff.mp hg
  obtain ⟨⟨ks, vs⟩, hd, hg3⟩ := Option.bind_eq_some_iff.mp hg2
  obtain ⟨oi, hi, rfl⟩ := Option.map_eq_some_iff.mp hg3
  obtain ⟨a, o, kv, vv, rfl, h1, h2, h3, h4⟩ := dct_at sr ry hd
  exact ⟨W, a, o, ks, kv, vv, x, oi, rfl, ⟨rfl, h1, h2, h3, rx, hi⟩, k W _ (.refl W) sr rfl⟩
theorem o_dnin {K : PySem.W.Frag} : Op2 K (rDIn K fun b => !b) (gB gDNotIn) := by
  intro W M x y d v u Q sr rx ry hg k
  unfold gB gDNotIn at hg
  obtain ⟨b, hg2, rfl⟩ := Option.map_eq_some_iff.mp hg
  obtain ⟨⟨ks, vs⟩, hd, hg3⟩ := Option.bind_eq_some_iff.mp hg2
  obtain ⟨oi, hi, rfl⟩ := Option.map_eq_some_iff.mp hg3
  obtain ⟨a, o, kv, vv, rfl, h1, h2, h3, h4⟩ := dct_at sr ry hd
  exact ⟨W, a, o, ks, kv, vv, x, oi, rfl, ⟨rfl, h1, h2, h3, rx, hi⟩, k W _ (.refl W) sr rfl⟩
theorem op_din (hu : X.A.units + 64 < cLine) : OpR X (compareOp .In) (rDIn X.K fun b => b) := by
  intro pins s σ H x y v u Q I rx ry h
  obtain ⟨W, p, o, ks, kv, vv, k, oi, rfl, d, q⟩ := h
  obtain rfl : u = Value.ref p := ry
  have hw := d.wh
  subst hw
  exact x_in hu I d.de.sm (d.view I rx) fun s' I' => ⟨.bl oi.isSome, _, I', rfl, q⟩
theorem op_dnin (hu : X.A.units + 64 < cLine) : OpR X (compareOp .NotIn) (rDIn X.K fun b => !b) := by
  intro pins s σ H x y v u Q I rx ry h
  obtain ⟨W, p, o, ks, kv, vv, k, oi, rfl, d, q⟩ := h
  obtain rfl : u = Value.ref p := ry
  have hw := d.wh
  subst hw
  exact x_notIn hu I d.de.sm (d.view I rx) fun s' I' => ⟨.bl (!oi.isSome), _, I', rfl, q⟩
/-! d.get(k, x) -/
def fDGet2 (fo fe ff : FE) : FE := fun ρ M => (fo ρ M).bind fun o => (dctOf o.1 o.2).bind fun _ => (fe ρ o.2).bind fun y => (ff ρ y.2).bind fun z => (dctOf o.1 z.2).bind fun d => (dIx d.1 y.1).bind fun oi => some ((oi.bind fun i => d.2[i]?).getD z.1, z.2)
theorem RpL.getD {K : PySem.W.Frag} {W : Wo} {ds : List D} {vs : List V} {d : D} {v : V} (r : RpL K W ds vs) (rd : Rp K W d v) (oi : Option Nat) : Rp K W ((oi.bind fun i => ds[i]?).getD d) ((oi.bind fun i => vs[i]?).getD v) := by
  cases oi with
  | none => exact rd
  | some i =>
    rw [Option.bind_some, Option.bind_some]
    cases q : ds[i]? with
    | none =>
      have : vs[i]? = none := by
        rw [List.getElem?_eq_none_iff] at q ⊢
        have := r.len
        omega
      rw [this]; exact rd
    | some y =>
      obtain ⟨w', h1, h2⟩ := r.get q
      rw [h1]; exact h2
theorem pf_dget2 {apos cpos : Pos} (hu : X.A.units + 64 < cLine) (ho : PFE X a fa) (he : PFE X b fb) (hf : PFE X c fc) (m : M2 X a "get" apos b c cpos := by exact ⟨rfl, rfl, rfl, rfl⟩) : PFE X (.Call (.Attribute a "get" apos) [b, c] [] cpos) (fDGet2 fa fb fc) := by
  refine ⟨fun pins s σ H Q I h => ?_⟩
  obtain ⟨W, ρ, M, rfl, sr, sl, d, M', hf', k⟩ := h
  obtain ⟨⟨x, M1⟩, hx, hf'⟩ := Option.bind_eq_some_iff.mp hf'
  obtain ⟨⟨ks0, vs0⟩, hd0, hf'⟩ := Option.bind_eq_some_iff.mp hf'
  obtain ⟨⟨y, M2⟩, hy, hf'⟩ := Option.bind_eq_some_iff.mp hf'
  obtain ⟨⟨z, M3⟩, hz, hf'⟩ := Option.bind_eq_some_iff.mp hf'
  obtain ⟨⟨ks, vs⟩, hd, hf'⟩ := Option.bind_eq_some_iff.mp hf'
  obtain ⟨oi, hi, hf'⟩ := Option.bind_eq_some_iff.mp hf'
  obtain ⟨ed, em⟩ := Prod.mk.inj (Option.some.inj hf')
  dsimp only at ed em
  subst ed em
  refine wpAny_Call_method m.base m.few m.line PySem.F.plainAttrs_dict PySem.F.slot_dict_get PySem.F.type_dict_get (thn (ho.run pins s σ _ (fun v H1 => ∃ W1, W1.H = H1 ∧ Ext W W1 ∧ SR X.K W1 M1 ∧ Rp X.K W1 x v) I ⟨W, ρ, M, rfl, sr, sl, x, M1, hx, fun W1 v e1 s1 r1 => ⟨W1, rfl, e1, s1, r1⟩⟩) fun u s1 ⟨xv, H1, I1, rx, W1, hw, e1, sr1, r1⟩ => ?_)
  subst hw
  obtain ⟨p, o, kv, vv, rfl, h1, h2, h3, h4⟩ := dct_at sr1 r1 hd0
  obtain rfl : u = Value.ref p := rx
  have g := ext_get I1 h1
  refine ⟨⟨o, g, h2.ex.1⟩, fun b q => by cases q; exact ⟨o, g, h2.ex.2.1⟩, ?_⟩
  rw [m.trees]
  refine Calls.callWith_builtin rfl (Calls.evalArgs_plain (Calls.spliced_cons (thn (he.run pins s1 σ _ (fun v H1 => ∃ W2, W2.H = H1 ∧ Ext W1 W2 ∧ SR X.K W2 M2 ∧ Rp X.K W2 y v) I1 ⟨W1, ρ, M1, rfl, sr1, sl.ext e1 sr.sub, y, M2, hy, fun W2 v e2 s2 r2 => ⟨W2, rfl, e2, s2, r2⟩⟩) fun iv s2 ⟨yv, H2, I2, ry, W2, hw, e2, sr2, r2⟩ =>
    Calls.spliced_cons (thn (hf.run pins s2 σ _ (fun v H1 => ∃ W3, W3.H = H1 ∧ Ext W2 W3 ∧ SR X.K W3 M3 ∧ Rp X.K W3 z v) I2 (by subst hw; exact ⟨W2, ρ, M2, rfl, sr2, sl.ext (e1.trans e2) sr.sub, z, M3, hz, fun W3 v e3 s3 r3 => ⟨W3, rfl, e3, s3, r3⟩⟩)) fun fv s3 ⟨zv, H3, I3, rz, W3, hw3, e3, sr3, r3⟩ => Calls.spliced_nil ?_))))
  subst hw hw3
  obtain ⟨p', o', kv', vv', ep, h1', h2', h3', h4'⟩ := dct_at sr3 (r1.ext (e2.trans e3) sr1.sub) hd
  cases ep
  have ryk := r2.ext e3 sr2.sub
  exact x_get hu I3 h2'.sm (dview I3 h1' h2' h3' ryk ry hi) h2'.vl rz fun w' s4 I4 rw' => ⟨_, W3.H, I4, rw', k W3 _ ((e1.trans e2).trans e3) sr3 (h4'.getD r3 oi)⟩
/-! len(d) -/
def gDLen : GN := fun ds M => match ds with
  | [d] => (dctOf d M).map fun x => .int x.1.length
  | _ => none
def rDLen (K : PySem.W.Frag) : List V → Hp → VK → Prop := fun vs H Q => ∃ (a : Addr) (o : Obj) (ks : List D) (kv vv : List V), vs = [.ref a] ∧ H a = some (dxo a o) ∧ DEnt a o ks kv vv ∧ Q (.int ks.length) H
theorem o_dlen {K : PySem.W.Frag} : OpN K (rDLen K) gDLen := by
  intro W M ds d vs Q sr r hg k
  unfold gDLen at hg
  split at hg
  · obtain ⟨⟨ks, us⟩, hd, rfl⟩ := Option.map_eq_some_iff.mp hg
    obtain ⟨v, rfl, r1⟩ := rl1 r
    obtain ⟨a, o, kv, vv, rfl, h1, h2, h3, h4⟩ := dct_at sr r1 hd
    exact ⟨a, o, ks, kv, vv, rfl, h1, h2, k W _ (.refl W) sr rfl⟩
  · cases hg
theorem ent_raw {s : Shared} {a : Addr} {o : Obj} {ks : List D} {kv vv : List V} (g : s.heap.get? a = some o) (d : DEnt a o ks kv vv) : ∃ nks es ep, dKeys ks = some nks ∧ EnL nks kv vv es.toList ∧ s.heap.DictRaw a es ep ∧ es.size = ks.length := by
  obtain ⟨nks, es, ep, h1, _, _, h2, h3⟩ := d.en
  refine ⟨nks, es, ep, h1, h3, ⟨o, g, d.ex, h2⟩, ?_⟩
  have := h3.len.2.2
  rw [dKeys_len h1] at this
  simpa using this
theorem cr_dlen : CallR X (.builtin "len") (rDLen X.K) := by
  intro pins s σ H xs us Q I r h
  obtain ⟨p, o, ks, kv, vv, rfl, h1, h2, q⟩ := h
  rw [Vals.ref1 r]
  have g := (show ObjOk X.prog X.w H s.heap p (dxo p o) from I.hok p _ h1).1
  obtain ⟨nks, es, ep, _, _, hr, hz⟩ := ent_raw g h2
  have hl := h2.ln
  have hl' : ks.length ≤ 16777216 := hl
  refine PyProof.Rows.call_len_slot (n := ks.length) (T := "dict") ⟨o, g, h2.ex.1⟩ PySem.F.slot_dict_len (fun Q' hq => call_len_raw h2.sm hr (by rw [hz]; exact hq)) (by omega) (by omega) ?_
  exact ⟨.int ks.length, H, I.tok _, ⟨_, rfl⟩, q⟩
end
end PF
namespace PF
open PySem PySem.Spec PyProof.Rows L2
/-! ### new dicts -/
abbrev FD := Rho → Mem → Option ((List D × List D) × Mem)
def liftDN (K : PySem.W.Frag) (f : FD) : TE := fun σ H Q => ∃ W ρ M, W.H = H ∧ SR K W M ∧ Sl K W ρ σ ∧ ∃ d M', f ρ M = some (d, M') ∧
  ∀ W' p o kv vv, Ext W W' → SR K W' M' → W'.H p = none → DEnt p o d.1 kv vv → RpL K W' d.1 kv → RpL K W' d.2 vv → Q (.ref p) (upd W'.H p (dxo p o))
abbrev PFD (X : Cx) (e : Expr) (f : FD) : Prop := PE X e (liftDN X.K f)
def fFzD (f : FD) : FE := fun ρ M => (f ρ M).bind fun a => some (.dct a.1.1 a.1.2, a.2)
def fMutD (f : FD) : FE := fun ρ M => (f ρ M).bind fun a => some (.ref a.2.length, a.2 ++ [.dct a.1.1 a.1.2])
section
variable {X : Cx} {e : Expr} {f : FD}
theorem pf_fzD (h : PFD X e f) : PFE X e (fFzD f) := pe_weak h fun σ H Q => by
  rintro ⟨W, ρ, M, rfl, sr, sl, d, M', hf, k⟩
  obtain ⟨⟨x, M1⟩, hx, hf⟩ := Option.bind_eq_some_iff.mp hf
  cases hf
  exact ⟨W, ρ, M, rfl, sr, sl, x, _, hx, fun W1 p o kv vv e1 s1 hp de r1 r2 => k _ _ (e1.trans (Ext.put hp)) (s1.put hp) ⟨p, o, kv, vv, rfl, ⟨upd_same, s1.nb hp⟩, de, r1.ext (Ext.put hp) s1.sub, r2.ext (Ext.put hp) s1.sub⟩⟩
theorem pf_mutD (h : PFD X e f) : PFE X e (fMutD f) := pe_weak h fun σ H Q => by
  rintro ⟨W, ρ, M, rfl, sr, sl, d, M', hf, k⟩
  obtain ⟨⟨x, M1⟩, hx, hf⟩ := Option.bind_eq_some_iff.mp hf
  cases hf
  exact ⟨W, ρ, M, rfl, sr, sl, x, _, hx, fun W1 p o kv vv e1 s1 hp de r1 r2 => k _ _ (e1.trans (Ext.mk2 hp)) (s1.mk2g hp ⟨o, kv, vv, upd_same, de, r1.ext (Ext.mk2 hp) s1.sub, r2.ext (Ext.mk2 hp) s1.sub⟩) (.mk2 s1)⟩
end
abbrev emptyD : Obj := { cls := .type "dict", data := .dict #[] }
theorem ent_nil {p : Addr} (h : sysModules < p) : DEnt p emptyD [] [] [] :=
  ⟨⟨rfl, rfl, rfl⟩, beq_eq_false_iff_ne.mpr (Ne.symm (Nat.ne_of_lt h)), Nat.zero_le _, .inl rfl, [], #[], 0, rfl, List.nodup_nil, (fun _ h => nomatch h), rfl, rfl, rfl, rfl⟩
theorem ent_all (a : Addr) (o : Obj) {P : Program} {w : World} {H : Hp} {h : Heap} (g : h.get? a = some o) : ObjOk P w H h a (dxo a o) := ⟨g, ⟨o, g⟩, fun h1 h2 e k => k o e⟩
def fDNil : FD := fun _ M => some (([], []), M)
theorem pfd_nil {X : Cx} {pos : Pos} : PFD X (.Dict [] [] pos) fDNil := ⟨fun pins s σ H Q I h => by
  obtain ⟨W, ρ, M, rfl, sr, sl, d, M', hf, k⟩ := h
  cases hf
  exact wpAny_Dict_empty ⟨.ref s.heap.objs.size, _, I.laid (a := s.heap.objs.size) (o := dxo s.heap.objs.size emptyD) (t' := s.toks) (fun _ _ q => Heap.get?_push_of_some _ q) (Nat.le_refl _) (ent_all _ _ (Heap.get?_push_size _ rfl)), rfl,
    k W s.heap.objs.size emptyD [] [] (.refl W) sr (I.hok.fresh (Nat.le_refl _)) (ent_nil I.big) rfl rfl⟩⟩
/-! {k: v} -/
def fD1 (fk fv : FE) : FD := fun ρ M => (fk ρ M).bind fun k => (fv ρ k.2).bind fun v => (dIx [] k.1).bind fun _ => some (([k.1], [v.1]), v.2)
theorem pfd_one {X : Cx} {a b : Expr} {fa fb : FE} {pos : Pos} (hu : X.A.units + 64 < cLine) (ha : PFE X a fa) (hb : PFE X b fb) : PFD X (.Dict [some a] [b] pos) (fD1 fa fb) := by
  refine ⟨fun pins s σ H Q I h => ?_⟩
  obtain ⟨W, ρ, M, rfl, sr, sl, d, M', hf, k⟩ := h
  obtain ⟨⟨x, M1⟩, hx, hf⟩ := Option.bind_eq_some_iff.mp hf
  obtain ⟨⟨y, M2⟩, hy, hf⟩ := Option.bind_eq_some_iff.mp hf
  obtain ⟨oi, hi, hf⟩ := Option.bind_eq_some_iff.mp hf
  obtain ⟨ed, em⟩ := Prod.mk.inj (Option.some.inj hf)
  dsimp only at em
  subst ed em
  have hn := I.hok.fresh (Nat.le_refl s.heap.objs.size)
  generalize hp : s.heap.objs.size = p at hn
  have big : sysModules < p := by rw [← hp]; exact I.big
  have I1 : Inv X pins σ (W.plus p (dxo p emptyD)).H { s with heap := s.heap.push emptyD } := by
    refine I.laid (a := p) (o := dxo p emptyD) (t' := s.toks) (fun _ _ q => Heap.get?_push_of_some _ q) (Nat.le_of_eq hp) ?_
    rw [← hp]; exact ent_all _ _ (Heap.get?_push_size _ rfl)
  have eP : Ext W (W.plus p (dxo p emptyD)) := Ext.plus hn
  have sP : SR X.K (W.plus p (dxo p emptyD)) M := sr.plus hn
  rw [arm_eval_Dict, zip_pairTrees [some a] [b] X.env pos rfl rfl, dictDisplay_pairs (pairTrees [some a] [b] X.env pos) (fun z => by cases z) (by show (1 : Nat) < 17; decide)]
  refine wpAny_bind (wpAny_standAt (wpAny_bind ?_))
  unfold subDict
  refine wpAny_bind (wpAny_alloc ?_)
  refine wpAny_bind (wpAny_holding ?_)
  rw [if_pos (by show (1 : Nat) ≤ 15; decide)]
  refine wpAny_bind (pairTrees_cons_walk ?_)
  refine thn (ha.run pins _ σ _ (fun v H1 => ∃ W1, W1.H = H1 ∧ Ext (W.plus p (dxo p emptyD)) W1 ∧ SR X.K W1 M1 ∧ Rp X.K W1 x v) I1 ⟨_, ρ, M, rfl, sP, sl.ext eP sr.sub, x, M1, hx, fun W1 v e1 s1 r1 => ⟨W1, rfl, e1, s1, r1⟩⟩) fun kval s1 ⟨kv, H1, I2, rk, W1, hw, e1, sr1, r1⟩ => ?_
  subst hw
  refine thn (hb.run pins s1 σ _ (fun v H1 => ∃ W2, W2.H = H1 ∧ Ext W1 W2 ∧ SR X.K W2 M2 ∧ Rp X.K W2 y v) I2 ⟨W1, ρ, M1, rfl, sr1, (sl.ext eP sr.sub).ext e1 sP.sub, y, M2, hy, fun W2 v e2 s2 r2 => ⟨W2, rfl, e2, s2, r2⟩⟩) fun vval s2 ⟨vv, H2, I3, rv, W2, hw, e2, sr2, r2⟩ => ?_
  subst hw
  refine pairTrees_nil_walk ?_
  refine wpAny_holding ?_
  obtain ⟨e5, b5, n5, h5⟩ := Ext.unplus sr hn (e1.trans e2)
  have rkey := r1.ext e2 sr1.sub
  rw [List.forIn_cons]
  refine wpAny_bind (wpAny_bind (wpAny_bind ?_))
  rw [hp]
  refine x_dictSet hu I3 h5 (ent_nil big) (dview I3 h5 (ent_nil big) (kv := []) (vv := []) rfl rkey rk hi) (by show (0 : Nat) < 16777216; decide) rv fun o' s4 I4 pt => ?_
  refine wpAny_pure ?_
  dsimp only
  rw [List.forIn_nil]
  have e0 : oi = none := by
    obtain ⟨nk, nks, _, _, _, q4, q5⟩ := dIx_ok hi
    unfold dKeys at q4
    cases q4
    exact q5.symm
  subst e0
  have de' : DEnt p o' [x] [kv] [vv] := pt.de
  have s5 := sr2.minus b5 n5
  have fin := k (W2.minus p) p o' [kv] [vv] e5 s5 minus_self de' (.one (rkey.minus b5 n5)) (.one (r2.minus b5 n5))
  have hH : upd (W2.minus p).H p (dxo p o') = upd W2.H p (dxo p o') := by
    funext c
    by_cases z : c = p
    · subst z; rw [upd_same, upd_same]
    · rw [upd_ne z, upd_ne z]; exact minus_H z
  rw [hH] at fin
  first
    | exact wpAny_pure (wpAny_pure (wpAny_pure ⟨.ref p, _, I4, rfl, fin⟩))
    | exact wpAny_pure (wpAny_pure (wpAny_pure (wpAny_pure ⟨.ref p, _, I4, rfl, fin⟩)))
/-! ### d[k] = v -/
section
variable {K : PySem.W.Frag} {W : Wo} {M : Mem}
/-- the state behind a change of a dict -/
theorem sr_put {a : Addr} {n : Nat} {o' : Obj} {ks vs : List D} {kv vv : List V} {k z : D} {vk vz : V} {oi : Option Nat} (sr : SR K W M) (ha : W.as[n]? = some a) (rk : RpL K W ks kv) (rv : RpL K W vs vv) (rkey : Rp K W k vk) (rz : Rp K W z vz) (pt : Put a ks kv vv k vk vz oi o') :
    Ext W (W.put a (dxo a o')) ∧ SR K (W.put a (dxo a o')) (M.set n (.dct (putKs ks k oi) (putVs vs z oi))) := by
  have E := Ext.wr (W := W) (o := dxo a o') (List.mem_of_getElem? ha)
  refine ⟨E, sr.wrg ha ⟨o', keyV kv vk oi, putVs vv vz oi, upd_same, pt.de, ?_, ?_⟩⟩
  · cases oi with
    | some i => exact rk.ext E sr.sub
    | none => exact (rk.append (.one rkey)).ext E sr.sub
  · cases oi with
    | some i => exact (rv.set i rz).ext E sr.sub
    | none => exact (rv.append (.one rz)).ext E sr.sub
end
def dPut (o k v : D) (M : Mem) : Option Mem := (mdOf o M).bind fun d => (dIx d.2.1 k).bind fun oi => if d.2.1.length < LINE then some (M.set d.1 (.dct (putKs d.2.1 k oi) (putVs d.2.2 v oi))) else none
theorem dPut_ok {X : Cx} {pins : List (Addr × Obj)} {σ : L2.St} {s : Shared} {W : Wo} {M M' : Mem} {A : Around} {E : Value → Shared → Prop} {Q : Unit → Shared → Prop} {o k z : D} {vo vk vz : V} {uo uk uz : Value} (hu : A.units + 64 < cLine) (I : Inv X pins σ W.H s) (sr : SR X.K W M) (ro : Rp X.K W o vo) (rk : Rp X.K W k vk) (rz : Rp X.K W z vz)
    (uo_ : RelV vo uo) (uk_ : RelV vk uk) (uz_ : RelV vz uz) (h : dPut o k z M = some M') (q : ∀ W' s', Ext W W' → SR X.K W' M' → Inv X pins σ W'.H s' → Q () s') : wpAny (model X.prog X.w) A (setItem uo uk uz) Q E s := by
  unfold dPut at h
  obtain ⟨⟨n, ks, vs⟩, hd, h⟩ := Option.bind_eq_some_iff.mp h
  obtain ⟨oi, hi, h⟩ := Option.bind_eq_some_iff.mp h
  split at h
  · rename_i hl
    cases h
    obtain ⟨a, ob, kv, vv, rfl, ha, hH, de, r1, r2⟩ := md_at sr ro hd
    obtain rfl : uo = Value.ref a := uo_
    refine x_setItem hu I hH de (dview I hH de r1 rk uk_ hi) hl uz_ fun o' s' I' pt => ?_
    obtain ⟨e, s2⟩ := sr_put sr ha r1 r2 rk rz pt
    exact q _ s' e s2 I'
  · cases h
def sDSet (fv fo fi : FE) : FS := fun ρ M => (fv ρ M).bind fun v => (fo ρ v.2).bind fun o => (fi ρ o.2).bind fun k => (dPut o.1 k.1 v.1 k.2).bind fun M' => some (.nx ρ, M')
theorem pfs_dset {X : Cx} {e o i : Expr} {fe fo fi : FE} {p pos : Pos} (hu : X.A.units + 64 < cLine) (he : PFE X e fe) (ho : PFE X o fo) (hi : PFE X i fi) (hs : swapsWith e (some (.Subscript o i p)) pos.line X.env = pure false := by rfl) :
    PFS X (.Assign [.Subscript o i p] e pos) (sDSet fe fo fi) := by
  refine ⟨fun pins s σ H D I h => ?_⟩
  obtain ⟨W, ρ, M, rfl, sr, sl, o', M', hf, k⟩ := liftS_iff.mp h
  obtain ⟨⟨v, M1⟩, hv, hf⟩ := Option.bind_eq_some_iff.mp hf
  obtain ⟨⟨x, M2⟩, hx, hf⟩ := Option.bind_eq_some_iff.mp hf
  obtain ⟨⟨y, M3⟩, hy, hf⟩ := Option.bind_eq_some_iff.mp hf
  obtain ⟨M4, hp, hf⟩ := Option.bind_eq_some_iff.mp hf
  cases hf
  refine wpAny_Assign_Subscript (thn (he.run pins s σ _ (fun v' H1 => ∃ W1, W1.H = H1 ∧ Ext W W1 ∧ SR X.K W1 M1 ∧ Rp X.K W1 v v') I ⟨W, ρ, M, rfl, sr, sl, v, M1, hv, fun W1 v' e1 s1 r1 => ⟨W1, rfl, e1, s1, r1⟩⟩) fun r s1 ⟨vv, H1, I1, rv, W1, hw, e1, sr1, r1⟩ => ?_) hs
  subst hw
  refine thn (ho.run pins s1 σ _ (fun v' H1 => ∃ W2, W2.H = H1 ∧ Ext W1 W2 ∧ SR X.K W2 M2 ∧ Rp X.K W2 x v') I1 ⟨W1, ρ, M1, rfl, sr1, sl.ext e1 sr.sub, x, M2, hx, fun W2 v' e2 s2 r2 => ⟨W2, rfl, e2, s2, r2⟩⟩) fun u s2 ⟨xv, H2, I2, rx, W2, hw, e2, sr2, r2⟩ => ?_
  subst hw
  refine thn (hi.run pins s2 σ _ (fun v' H1 => ∃ W3, W3.H = H1 ∧ Ext W2 W3 ∧ SR X.K W3 M3 ∧ Rp X.K W3 y v') I2 ⟨W2, ρ, M2, rfl, sr2, sl.ext (e1.trans e2) sr.sub, y, M3, hy, fun W3 v' e3 s3 r3 => ⟨W3, rfl, e3, s3, r3⟩⟩) fun iv s3 ⟨yv, H3, I3, ry, W3, hw, e3, sr3, r3⟩ => ?_
  subst hw
  refine dPut_ok hu I3 sr3 (r2.ext e3 sr2.sub) r3 (r1.ext (e2.trans e3) sr1.sub) rx ry rv hp fun W4 s4 e4 sr4 I4 => ?_
  have e14 := ((e1.trans e2).trans e3).trans e4
  exact ⟨σ, W4.H, I4, k W4 σ e14 sr4 (sl.ext e14 sr.sub)⟩
/-! d[k] op= v -/
def sDAugX (g : G2M) (fo fi fe : FE) : FS := fun ρ M => (fo ρ M).bind fun o => (fi ρ o.2).bind fun k => (gDGet o.1 k.1 k.2).bind fun x => (fe ρ k.2).bind fun y => (g x y.1 y.2).bind fun z => (dPut o.1 k.1 z.1 z.2).bind fun M' => some (.nx ρ, M')
theorem pfs_daug {X : Cx} {e o i : Expr} {fe fo fi : FE} {op : Operator} {r : R2} {g : G2M} {tpos pos : Pos} (hu : X.A.units + 64 < cLine) (he : PFE X e fe) (ho : PFE X o fo) (hi : PFE X i fi) (hp : OpR X (inplaceOp op) r) (og : Op2M X.K r g)
    (ha : ∀ ov iv new, augStore i ov iv new = (do holding [new, ov, iv] (setItem ov iv new); release [new, ov, iv] []; pure .next) := by intros; rfl) : PFS X (.AugAssign (.Subscript o i tpos) op e pos) (sDAugX g fo fi fe) := by
  refine ⟨fun pins s σ H D I h => ?_⟩
  obtain ⟨W, ρ, M, rfl, sr, sl, o', M', hf, k⟩ := liftS_iff.mp h
  obtain ⟨⟨x, M1⟩, hx, hf⟩ := Option.bind_eq_some_iff.mp hf
  obtain ⟨⟨y, M2⟩, hy, hf⟩ := Option.bind_eq_some_iff.mp hf
  obtain ⟨c, hc, hf⟩ := Option.bind_eq_some_iff.mp hf
  obtain ⟨⟨v, M3⟩, hv, hf⟩ := Option.bind_eq_some_iff.mp hf
  obtain ⟨⟨z, M4⟩, hz, hf⟩ := Option.bind_eq_some_iff.mp hf
  obtain ⟨M5, hpu, hf⟩ := Option.bind_eq_some_iff.mp hf
  cases hf
  refine wpAny_AugAssign_SubscriptAny (thn (ho.run pins s σ _ (fun v' H1 => ∃ W1, W1.H = H1 ∧ Ext W W1 ∧ SR X.K W1 M1 ∧ Rp X.K W1 x v') I ⟨W, ρ, M, rfl, sr, sl, x, M1, hx, fun W1 v' e1 s1 r1 => ⟨W1, rfl, e1, s1, r1⟩⟩) fun u s1 ⟨xv, H1, I1, rx, W1, hw, e1, sr1, r1⟩ => ?_) ha
  subst hw
  refine thn (hi.run pins s1 σ _ (fun v' H1 => ∃ W2, W2.H = H1 ∧ Ext W1 W2 ∧ SR X.K W2 M2 ∧ Rp X.K W2 y v') I1 ⟨W1, ρ, M1, rfl, sr1, sl.ext e1 sr.sub, y, M2, hy, fun W2 v' e2 s2 r2 => ⟨W2, rfl, e2, s2, r2⟩⟩) fun iv s2 ⟨yv, H2, I2, ry, W2, hw, e2, sr2, r2⟩ => ?_
  subst hw
  obtain ⟨⟨ks, vs⟩, hd, hc⟩ := Option.bind_eq_some_iff.mp hc
  obtain ⟨oi, hi', hc⟩ := Option.bind_eq_some_iff.mp hc
  obtain ⟨j, rfl, hc⟩ := Option.bind_eq_some_iff.mp hc
  obtain ⟨a, ob, kv, vv, rfl, hH, de, q1, q2⟩ := dct_at sr2 (r1.ext e2 sr1.sub) hd
  obtain rfl : u = Value.ref a := rx
  obtain ⟨cv, hcv, rc⟩ := q2.get hc
  refine x_getItem hu I2 (dview I2 hH de q1 r2 ry hi') hcv fun w' s3 I3 rw' => ?_
  refine thn (he.run pins s3 σ _ (fun v' H1 => ∃ W3, W3.H = H1 ∧ Ext W2 W3 ∧ SR X.K W3 M3 ∧ Rp X.K W3 v v') I3 ⟨W2, ρ, M2, rfl, sr2, sl.ext (e1.trans e2) sr.sub, v, M3, hv, fun W3 v' e3 s3 r3 => ⟨W3, rfl, e3, s3, r3⟩⟩) fun w2 s4 ⟨v2, H3, I4, rv2, W3, hw, e3, sr3, r3⟩ => ?_
  subst hw
  refine thn (hp pins s4 σ W3.H cv v2 w' w2 (fun v' H1 => ∃ W4, W4.H = H1 ∧ Ext W3 W4 ∧ SR X.K W4 M4 ∧ Rp X.K W4 z v') I4 rw' rv2 (og W3 M3 M4 c v z cv v2 _ sr3 (rc.ext e3 sr2.sub) r3 hz fun W4 v' e4 s4 r4 => ⟨W4, rfl, e4, s4, r4⟩)) fun w3 s5 ⟨zv, H4, I5, rz, W4, hw, e4, sr4, r4⟩ => ?_
  subst hw
  have ro := r1.ext (e2.trans (e3.trans e4)) sr1.sub
  refine dPut_ok hu I5 sr4 ro (r2.ext (e3.trans e4) sr2.sub) r4 rfl ry rz hpu fun W5 s6 e5 sr5 I6 => ?_
  have e15 := (((e1.trans e2).trans e3).trans e4).trans e5
  exact ⟨σ, W5.H, I6, k W5 σ e15 sr5 (sl.ext e15 sr.sub)⟩
end PF
namespace PF
open PySem PySem.Spec PyProof.Rows L2
noncomputable section
/-! ### the keys of a dict, walked -/
def Itx (a : Addr) (o : Obj) (kv : List V) : It :=
  ⟨fun i H => H a = some (dxo a o) ∧ i < kv.length, fun i H x H' => H' = H ∧ kv[i]? = some x, fun i H => H a = some (dxo a o) ∧ kv.length ≤ i⟩
theorem EnL.at_ : ∀ {nks : List NestedKey} {kv vv : List V} {es : List DictEntry} {i : Nat} {x : V}, EnL nks kv vv es → kv[i]? = some x → ∃ e, es[i]? = some e ∧ RelV x e.key
  | [], _, _, _, _, _, h, q => by obtain ⟨rfl, _, _⟩ := h; simp at q
  | _ :: nks, _, _, _, i, x, h, q => by
    obtain ⟨x', xs, y, ys, e, es', rfl, rfl, rfl, h1, _, _, t⟩ := h
    cases i with
    | zero => simp at q; subst q; exact ⟨e, rfl, h1⟩
    | succ i => exact t.at_ (by simpa using q)
theorem turn_x {P : Program} {w : World} {K : PySem.W.Frag} {tg : Expr} {a : Addr} {o : Obj} {ks : List D} {kv vv : List V} {es : Array DictEntry} {ep : Nat} {nks : List NestedKey} (it : Addr) (hod : o.data = .dict es ep) (en : EnL nks kv vv es.toList) : Turn P w K tg (Itx a o kv) [it] it (fun i h => h.IsKeyIter it a i kv.length ep) where
  mem := by simp
  obj := fun i h st b hb => by
    obtain rfl : b = it := by simpa using hb
    obtain ⟨oi, e, c, dd⟩ := st
    exact ⟨oi, e, fun v z => by rw [dd] at z; cases z⟩
  keep := fun i h h' st k => by
    obtain ⟨oi, e, c, dd⟩ := st
    exact ⟨oi, k it (by simp) oi e, c, dd⟩
  item := by
    intro X hP hw hK hc i pins s σ H E I hf st hg
    subst hP hw hK
    obtain ⟨hd, hi⟩ := hg
    obtain ⟨f0, f1, f2, f3, f4, f5⟩ := hf it (by simp)
    have hgd : s.heap.get? a = some o := (show ObjOk X.prog X.w H s.heap a (dxo a o) from I.hok a _ hd).1
    have hz : es.size = kv.length := by have := en.len; rw [← Array.length_toList]; omega
    obtain ⟨e, he, re⟩ := en.at_ (List.getElem?_eq_getElem hi)
    refine next_key_item st hgd hod hz (by rw [← Array.getElem?_toList]; exact he) fun h' st' sb => ?_
    have I1 : Inv X pins σ H { s with heap := h' } := I.turned (t' := s.toks) (fun b ob hb e => (sb.2 b hb).trans e) f0 f1 f3 f4 f5
    obtain ⟨oi, e', c, dd⟩ := id st'
    exact ⟨e.key, rfl, go_of (s := { s with heap := h' }) e' c dd (by decide) ⟨kv[i], H, I1, re, ⟨rfl, List.getElem?_eq_getElem hi⟩, st', fun b hb => (hf b hb).1⟩⟩
  done := by
    intro X hP hw hK hc i pins s σ H E I hf st hg
    subst hP hw hK
    obtain ⟨hd, hi⟩ := hg
    obtain ⟨f0, f1, f2, f3, f4, f5⟩ := hf it (by simp)
    have hgd : s.heap.get? a = some o := (show ObjOk X.prog X.w H s.heap a (dxo a o) from I.hok a _ hd).1
    have hz : es.size = kv.length := by have := en.len; rw [← Array.length_toList]; omega
    exact next_key_end (I.ok.hd hc) st hgd hod hz hi fun h' eb => ⟨rfl, I.turned (t' := s.toks) (fun b ob hb e => eb b ob hb e) f0 f1 f3 f4 f5⟩
  self := fun A i s Q E st h => by
    refine wpAny_pyIter_slot st.typeIs F.slot_dict_keyiterator_iter (wpAny_call_entry F.slot_dict_keyiterator_iter st.typeIs F.entry_dict_keyiterator_iter ?_ (F.args_dict_keyiterator_iter_1 _))
    show wpAny _ _ (ret (.ref it)) _ _ s
    exact wpAny_pure ⟨_, rfl, "dict_keyiterator", _, st.typeIs, F.slot_dict_keyiterator_next.lookup, h⟩
/-- a frozen dict, or a locked one -/
def fiDct (fa : FE) : FI := fun ρ M => (fa ρ M).bind fun a => match a.1 with
  | .dct ks _ => some ((ks, none), a.2)
  | .ref n => match a.2[n]? with | some (.lck o ks vs) => some ((ks, some (.inr (n, .lck o ks vs))), a.2) | _ => none
  | _ => none
theorem jok_x {K : PySem.W.Frag} {W : Wo} {a : Addr} {o : Obj} {ks : List D} {kv : List V} {kk : KK} (hz : ks.length ≤ LINE) (h : ∀ W' M', Ext W W' → SR K W' M' → chk kk ks M' = true → RpL K W' ks kv ∧ W'.H a = some (dxo a o)) : JOk K W (Itx a o kv) ks kk := by
  refine ⟨hz, fun W' M' e s c i => ?_⟩
  obtain ⟨r, hH⟩ := h W' M' e s c
  refine ⟨fun d hd => ?_, fun hl => ⟨hH, by rw [← r.len]; exact hl⟩⟩
  obtain ⟨v, hv, rv⟩ := r.get hd
  refine ⟨⟨hH, (List.getElem?_eq_some_iff.mp hv).1⟩, fun x H' hx => ⟨hx.1, ?_⟩⟩
  have hx2 : H' = W'.H ∧ kv[i]? = some x := hx
  rw [hv] at hx2
  obtain rfl := Option.some.inj hx2.2
  exact rv
theorem pfi_dct {X : Cx} {tg e : Expr} {fa : FE} (ha : PFE X e fa) : PFI X tg e (fiDct fa) := by
  refine ⟨fun pins s σ H R I h => ?_⟩
  obtain ⟨W, ρ, M, rfl, sr, sl, xs, kk, M', hf, k⟩ := h
  obtain ⟨⟨x, M1⟩, hx, hf⟩ := Option.bind_eq_some_iff.mp hf
  refine thn (ha.run pins s σ _ (fun v H1 => ∃ W1, W1.H = H1 ∧ Ext W W1 ∧ SR X.K W1 M1 ∧ Rp X.K W1 x v) I ⟨W, ρ, M, rfl, sr, sl, x, M1, hx, fun W1 v e1 s1 r1 => ⟨W1, rfl, e1, s1, r1⟩⟩) fun u s1 ⟨xv, H1, I1, rx, W1, hw, e1, sr1, r1⟩ => ?_
  subst hw
  have main : ∀ (a : Addr) (o : Obj) (kv vv : List V), u = Value.ref a → W1.H a = some (dxo a o) → DEnt a o xs kv vv → JOk X.K W1 (Itx a o kv) xs kk → M' = M1 → wpAny (model X.prog X.w) X.A (pyIter u) (PIE X pins σ tg R) X.xe s1 := fun a o kv vv eu hH de jo em => by
    subst eu em
    have g := ext_get I1 hH
    obtain ⟨nks, es, ep, n1, n2, n3, n4, n5⟩ := de.en
    have hz : es.size = kv.length := by have := n5.len; rw [← Array.length_toList]; omega
    refine iter_keys de.sm g de.ex n4 (pi_one (tk := s1.toks) I1 _ (turn_x (ks := xs) _ n4 n5) ⟨_, Heap.get?_push_size _ rfl, rfl, ?_⟩ (k W1 _ e1 sr1 jo))
    rw [hz] <;> rfl
  cases x with
  | dct ks vs =>
    cases hf
    obtain ⟨a, o, kv, vv, rfl, f, de, q1, q2⟩ := r1
    obtain rfl : u = Value.ref a := rx
    refine main a o kv vv rfl f.1 de (jok_x de.ln fun W' M' e s c => ⟨q1.ext e sr1.sub, (e.frz sr1.sub f).1⟩) rfl
  | ref n =>
    obtain ⟨a, h1, rfl⟩ := r1
    obtain rfl : u = Value.ref a := rx
    obtain ⟨mo, h2, m⟩ := sr1.at_ h1
    have hf' : (match M1[n]? with | some (.lck o ks vs) => some ((ks, (some (.inr (n, .lck o ks vs)) : KK)), M1) | _ => none) = some ((xs, kk), M') := hf
    rw [h2] at hf'
    cases mo with
    | lck o ks vs =>
      cases hf'
      obtain ⟨kv, vv, q1, q2, q3, q4⟩ := m
      refine main a o kv vv rfl q1 q2 (jok_x q2.ln fun W' M' e s c => ?_) rfl
      have c' : M'[n]? = some (.lck o xs vs) := by
        have c2 : chkM n (.lck o xs vs) M' = true := c
        unfold chkM at c2
        exact (by classical exact of_decide_eq_true c2)
      have h1' : W'.as[n]? = some a := by
        obtain ⟨new, ea, _⟩ := e.as
        rw [ea]
        exact (List.getElem?_append_left (List.getElem?_eq_some_iff.mp h1).1).trans h1
      obtain ⟨kv', vv', p1, p2, p3, p4⟩ := s.obj n a _ h1' c'
      exact ⟨q3.ext e sr1.sub, p1⟩
    | lst _ => cases hf'
    | dct _ _ => cases hf'
  | _ => cases hf
/-! ### a dict that nobody changes meanwhile -/
open Classical in
def lockRun {R : Type} (n : Nat) (ks vs : List D) (f : Mem → Option (R × Mem)) (M : Mem) : Option (R × Mem) :=
  if h : ∃ p : R × Mem, p.2[n]? = some (.dct ks vs) ∧ ∀ o, f (M.set n (.lck o ks vs)) = some (p.1, p.2.set n (.lck o ks vs)) then some h.choose else none
def lockAt {R : Type} (i : Nat) (f : Rho → Mem → Option (R × Mem)) : Rho → Mem → Option (R × Mem) := fun ρ M => match ρ[i]? with
  | some (some (.ref n)) => match M[n]? with
    | some (.dct ks vs) => lockRun n ks vs (f ρ) M
    | _ => f ρ M
  | _ => f ρ M
theorem lockRun_ok {R : Type} {n : Nat} {ks vs : List D} {f : Mem → Option (R × Mem)} {M : Mem} {r : R} {M2 : Mem} (h1 : M2[n]? = some (.dct ks vs)) (h2 : ∀ o, f (M.set n (.lck o ks vs)) = some (r, M2.set n (.lck o ks vs))) : lockRun n ks vs f M = some (r, M2) := by
  have h : ∃ p : R × Mem, p.2[n]? = some (.dct ks vs) ∧ ∀ o, f (M.set n (.lck o ks vs)) = some (p.1, p.2.set n (.lck o ks vs)) := ⟨(r, M2), h1, h2⟩
  unfold lockRun
  rw [dif_pos h]
  have q := h.choose_spec
  have e := (q.2 emptyD).symm.trans (h2 emptyD)
  obtain ⟨e1, e2⟩ := Prod.mk.inj (Option.some.inj e)
  have e3 : h.choose.2 = M2 := by
    have := congrArg (fun m => m.set n (MO.dct ks vs)) e2
    simp only [List.set_set] at this
    have k : ∀ m : Mem, m[n]? = some (.dct ks vs) → m.set n (.dct ks vs) = m := fun m hm => by
      obtain ⟨p1, p2⟩ := List.getElem?_eq_some_iff.mp hm
      rw [← p2]; exact List.set_getElem_self p1
    rwa [k _ q.1, k _ h1] at this
  exact congrArg some (Prod.ext e1 e3)
theorem lockRun_inv {R : Type} {n : Nat} {ks vs : List D} {f : Mem → Option (R × Mem)} {M : Mem} {p : R × Mem} (h : lockRun n ks vs f M = some p) : p.2[n]? = some (.dct ks vs) ∧ ∀ o, f (M.set n (.lck o ks vs)) = some (p.1, p.2.set n (.lck o ks vs)) := by
  unfold lockRun at h
  split at h
  · rename_i q
    cases h
    exact q.choose_spec
  · cases h
section
variable {K : PySem.W.Frag} {W : Wo} {M : Mem}
theorem sr_lock {n : Nat} {a : Addr} {o : Obj} {ks vs : List D} {kv vv : List V} (sr : SR K W M) (ha : W.as[n]? = some a) (h : W.H a = some (dxo a o)) (de : DEnt a o ks kv vv) (r1 : RpL K W ks kv) (r2 : RpL K W vs vv) : SR K W (M.set n (.lck o ks vs)) := by
  refine ⟨by rw [List.length_set]; exact sr.len, sr.nd, sr.sub, sr.bt, fun m b mo h1 h2 => ?_⟩
  by_cases e : m = n
  · subst e
    obtain rfl := Option.some.inj (ha.symm.trans h1)
    have hm : m < M.length := by rw [← sr.len]; exact (List.getElem?_eq_some_iff.mp ha).1
    rw [List.getElem?_set_self hm] at h2
    cases h2
    exact ⟨kv, vv, h, de, r1, r2⟩
  · rw [List.getElem?_set_ne (Ne.symm e)] at h2
    exact sr.obj m b mo h1 h2
theorem sr_unlock {n : Nat} {o : Obj} {ks vs : List D} (hn : M[n]? = some (.dct ks vs)) (sr : SR K W (M.set n (.lck o ks vs))) : SR K W M := by
  have hl : n < M.length := (List.getElem?_eq_some_iff.mp hn).1
  refine ⟨by have := sr.len; rwa [List.length_set] at this, sr.nd, sr.sub, sr.bt, fun m b mo h1 h2 => ?_⟩
  by_cases e : m = n
  · subst e
    rw [hn] at h2
    cases h2
    obtain ⟨kv, vv, q1, q2, q3, q4⟩ := sr.obj m b _ h1 (List.getElem?_set_self hl)
    exact ⟨o, kv, vv, q1, q2, q3, q4⟩
  · exact sr.obj m b mo h1 (by rw [List.getElem?_set_ne (Ne.symm e)]; exact h2)
/-- what the lock gives: the same run over the locked state -/
theorem lock_lift {R : Type} {i : Nat} {f : Rho → Mem → Option (R × Mem)} {ρ : Rho} {σ : L2.St} {r : R} {M' : Mem} (sr : SR K W M) (sl : Sl K W ρ σ) (h : lockAt i f ρ M = some (r, M')) :
    ∃ M0 M1, SR K W M0 ∧ f ρ M0 = some (r, M1) ∧ ∀ W', SR K W' M1 → SR K W' M' := by
  unfold lockAt at h
  split at h
  · rename_i n hn
    split at h
    · rename_i ks vs hm
      obtain ⟨q1, q2⟩ := lockRun_inv h
      obtain ⟨v, _, a, ha, _⟩ := sl.at_ i _ hn
      obtain ⟨o, kv, vv, p1, p2, p3, p4⟩ := sr.obj n a _ ha hm
      exact ⟨_, _, sr_lock sr ha p1 p2 p3 p4, q2 o, fun W' s => sr_unlock q1 s⟩
    · exact ⟨M, M', sr, h, fun _ s => s⟩
  · exact ⟨M, M', sr, h, fun _ s => s⟩
end
section
variable {X : Cx} {e : Expr} {st : Stmt}
theorem pf_lock {f : FE} (i : Nat) (h : PFE X e f) : PFE X e (lockAt i f) := pe_weak h fun σ H Q => by
  rintro ⟨W, ρ, M, rfl, sr, sl, d, M', hf, k⟩
  obtain ⟨M0, M1, s0, h0, back⟩ := lock_lift sr sl hf
  exact ⟨W, ρ, M0, rfl, s0, sl, d, M1, h0, fun W' v e s r => k W' v e (back W' s) r⟩
theorem pfn_lock {f : FA} (i : Nat) (h : PFN X e f) : PFN X e (lockAt i f) := pe_weak h fun σ H Q => by
  rintro ⟨W, ρ, M, rfl, sr, sl, d, M', hf, k⟩
  obtain ⟨M0, M1, s0, h0, back⟩ := lock_lift sr sl hf
  exact ⟨W, ρ, M0, rfl, s0, sl, d, M1, h0, fun W' p vs e s hp r hl => k W' p vs e (back W' s) hp r hl⟩
theorem pfd_lock {f : FD} (i : Nat) (h : PFD X e f) : PFD X e (lockAt i f) := pe_weak h fun σ H Q => by
  rintro ⟨W, ρ, M, rfl, sr, sl, d, M', hf, k⟩
  obtain ⟨M0, M1, s0, h0, back⟩ := lock_lift sr sl hf
  exact ⟨W, ρ, M0, rfl, s0, sl, d, M1, h0, fun W' p o kv vv e s hp de r1 r2 => k W' p o kv vv e (back W' s) hp de r1 r2⟩
theorem pfs_lock {f : FS} (i : Nat) (h : PFS X st f) : PFS X st (lockAt i f) := ps_weak h fun E σ H => by
  rw [liftS_iff, liftS_iff]
  rintro ⟨W, ρ, M, rfl, sr, sl, o, M', hf, k⟩
  obtain ⟨M0, M1, s0, h0, back⟩ := lock_lift sr sl hf
  refine ⟨W, ρ, M0, rfl, s0, sl, o, M1, h0, ?_⟩
  cases o with
  | nx ρ' => exact fun W' σ' e s l => k W' σ' e (back W' s) l
  | bk ρ' => exact fun W' σ' e s l => k W' σ' e (back W' s) l
  | ct ρ' => exact fun W' σ' e s l => k W' σ' e (back W' s) l
  | ret d => exact fun W' v e s r => k W' v e (back W' s) r
end
/-! ### sorted(d), list(d) -/
section
variable {prog : Program} {w : World} {A : Around} {E : Value → Shared → Prop} {s : Shared}
theorem sorted_src {β : Type} {bs : List β} {enc : β → PyData} {R : Value → β → Prop} {T : String} {r d : Addr} {n : Nat} {P : Nat → Value → Prop} {OK : Heap → Prop} {Q : Value → Shared → Prop} (K : PySem.W.KdlSrc prog w T r d n P OK) (hh : A.handled = none) (hok : OK s.heap) (hn : n ≤ sizeLine)
    (hit : ∀ acc : Array Value, ItemsOf P acc n → PySem.W.EachIs R acc.toList bs ∧ PySem.W.EachIs (fun v b => ∃ as, Reads s.heap v (enc b) as) acc.toList bs) (hal : PySem.W.AllAlike (bs.map enc)) (hk : Sortable2 (bs.map enc))
    (hu : ∀ b, b ∈ bs → A.units + 2 + (enc b).depth < cLine)
    (h : ∀ (h1 h' : Heap) (tk : Nat) (out : List Value) (e : Nat), (∀ b o, s.heap.get? b = some o → h1.get? b = some o) → (∀ b o, h1.get? b = some o → h'.get? b = some o) → h'.get? h1.objs.size = some (seqObj "list" out.toArray e) → out.length = bs.length → PySem.W.EachIs R out (bs.mergeSort (PySem.W.dataLe false enc)) → Q (.ref h1.objs.size) { s with heap := h', toks := tk }) :
    wpAny (model prog w) A (call (.builtin "sorted") [.ref r]) Q E s := by
  refine PySem.Calls.call_function_entry kind_sorted plain_sorted entry_sorted (args_sorted1 _) ?_
  unfold Builtin.«sorted»
  refine wpAny_bind (m := checkCount "sorted" 1 1 _) (wpAny_pure ?_)
  refine wpAny_bind (PySem.W.kdu_collect (A := A.in1) K hh hok hn fun h1 tk acc hk1 hacc => ?_)
  obtain ⟨e1, e2⟩ := hit acc hacc
  have hl2 : acc.toList.length ≤ sizeLine := by rw [Array.length_toList, hacc.1]; exact hn
  refine wpAny_bind (wpAny_newList ?_ hl2)
  show wpAny _ _ _ _ _ { s with heap := h1.push (seqObj "list" acc.toList.toArray 0), toks := tk }
  have ho : (h1.push (seqObj "list" acc.toList.toArray 0)).get? h1.objs.size = some (seqObj "list" acc.toList.toArray 0) := Heap.get?_push_size _ rfl
  have old : ∀ b o, s.heap.get? b = some o → (PySem.W.sortingHeap (h1.push (seqObj "list" acc.toList.toArray 0)) h1.objs.size acc.toList).get? b = some o := fun b o q => by
    have q1 := hk1 b o q
    exact PySem.W.sortingHeap_old (Nat.ne_of_lt (Heap.lt_size q1)) (Heap.get?_push_of_some _ q1)
  have er' : PySem.W.EachIs (fun v b => ∃ as, Reads (PySem.W.sortingHeap (h1.push (seqObj "list" acc.toList.toArray 0)) h1.objs.size acc.toList) v (enc b) as) acc.toList bs := e2.mono fun _ _ ⟨as, r⟩ => ⟨as, PyProof.Rows.Reads.keeps old r⟩
  refine wpAny_bind (wpAny_holding (wpAny_call_entry slot_list_sort ⟨_, ho, rfl⟩ entry_list_sort (PySem.W.list_sort_vals (s := { s with heap := h1.push (seqObj "list" acc.toList.toArray 0), toks := tk }) (κ := PySem.W.dataKind (PySem.W.sortingHeap (h1.push (seqObj "list" acc.toList.toArray 0)) h1.objs.size acc.toList) (bs.map enc)) ho
    (sortsAt_any (s := { s with heap := PySem.W.sortingHeap (h1.push (seqObj "list" acc.toList.toArray 0)) h1.objs.size acc.toList, toks := tk }) (PySem.W.each_map (R := fun v d => ∃ as, Reads (PySem.W.sortingHeap (h1.push (seqObj "list" acc.toList.toArray 0)) h1.objs.size acc.toList) v d as) enc er') hal hk (PySem.W.bound_map (A := A.in1.in1) hu)) hl2 ⟨_, rfl, ?_⟩) (args_list_sort _)))
  obtain ⟨ep, he⟩ := PyProof.Rows.sortedHeap_at (vs := acc.toList) (out := (PySem.W.sortVals (PySem.W.dataKind (PySem.W.sortingHeap (h1.push (seqObj "list" acc.toList.toArray 0)) h1.objs.size acc.toList) (bs.map enc)) false acc.toList acc.toList).toArray) ho
  refine wpAny_pure ⟨_, rfl, h h1 _ tk _ ep hk1 (fun b o q1 => ?_) he ?_ (PySem.W.sortVals_data false e1 er' hal)⟩
  · have hb := Heap.lt_size q1
    rw [PyProof.Rows.sortedHeap_old (Nat.ne_of_lt hb) (by rw [size_push']; exact Nat.lt_succ_of_lt hb)]
    exact Heap.get?_push_of_some _ q1
  · rw [PySem.W.sortVals_length false rfl]; exact e1.length
end
/-! sorted(d) -/
section
variable {X : Cx}
def rSortX (K : PySem.W.Frag) : List V → Hp → VK → Prop := fun vs H Q => ∃ (a : Addr) (o : Obj) (ks : List D) (kv vv : List V) (ds : List PyData), vs = [V.ref a] ∧ H a = some (dxo a o) ∧ DEnt a o ks kv vv ∧ ds.length = kv.length ∧ DpAll K H kv ds ∧ PySem.W.AllAlike ds ∧ Sortable2 ds ∧ PyData.depthAll ds ≤ 60 ∧ kv.length ≤ sizeLine ∧
  ∀ p, H p = none → Q (.ref p) (upd H p (.lst (vsort kv ds)))
theorem enl_vals : ∀ {nks : List NestedKey} {kv vv : List V} {es : List DictEntry}, EnL nks kv vv es → Vals kv (es.map (·.key))
  | [], _, _, _, h => by obtain ⟨rfl, _, rfl⟩ := h; exact .nil
  | _ :: nks, _, _, _, h => by
    obtain ⟨x', xs, y, ys, e, es', rfl, rfl, rfl, h1, _, _, t⟩ := h
    exact .cons h1 (enl_vals t)
/-- what is collected of a dict -/
theorem items_es {es : Array DictEntry} {n : Nat} {acc : Array Value} (hn : n = es.size) (h : ItemsOf (fun i v => ∃ hi : i < es.size, v = es[i].key) acc n) : acc.toList = es.toList.map (·.key) := by
  subst hn
  apply List.ext_getElem?
  intro j
  rw [Array.getElem?_toList, List.getElem?_map, Array.getElem?_toList]
  by_cases hj : j < es.size
  · have hj' : j < acc.size := by rw [h.1]; exact hj
    obtain ⟨_, e⟩ := h.2 j acc[j] (Array.getElem?_eq_getElem hj')
    rw [Array.getElem?_eq_getElem hj', Array.getElem?_eq_getElem hj, e]; rfl
  · rw [Array.getElem?_eq_none (by rw [h.1]; omega), Array.getElem?_eq_none (by omega)]; rfl
theorem cr_sortX (hc : X.calm = true) (hu : X.A.units + 64 < cLine) : CallR X (.builtin "sorted") (rSortX X.K) := by
  intro pins s σ H vs us Q I r h
  obtain ⟨a, o, ks, kv, vv, ds, rfl, ha, de, hlen, hd, hal, hsb, hdp, hz, q⟩ := h
  rw [Vals.ref1 r]
  have g := (show ObjOk X.prog X.w H s.heap a (dxo a o) from I.hok a _ ha).1
  obtain ⟨nks, es, ep, _, en, hr, hsz⟩ := ent_raw g de
  have rv := enl_vals en
  have hkl : kv.length = es.size := by have := en.len; rw [← Array.length_toList]; omega
  obtain ⟨as, hr2⟩ := Dp.readsAll I ds kv (es.toList.map (·.key)) hd rv
  have e1 := zip_snd kv ds hlen
  have hzl : (kv.zip ds).length = kv.length := by rw [List.length_zip, hlen, Nat.min_self]
  refine sorted_src (R := fun v (b : V × PyData) => RelV b.1 v) (enc := Prod.snd) (bs := kv.zip ds) (PySem.KdlSrc.rawDict (es := es) (ep := ep) de.sm) (I.ok.hd hc) hr (by rw [← hkl]; exact hz) (fun acc hacc => ?_) (by rw [e1]; exact hal) (by rw [e1]; exact hsb) (fun b hb => ?_) fun h1 h' tk out e k1 k2 hL ho hout => ?_
  · rw [items_es rfl hacc]
    exact ⟨zip_each rv hlen, PySem.W.readsAll_each Prod.snd (by rw [e1]; exact hr2)⟩
  · have hm : b.2 ∈ ds := by rw [← e1]; exact List.mem_map.mpr ⟨b, hb, rfl⟩
    have := depth_le hm
    omega
  · have I1 : Inv X pins σ H { s with heap := h1, toks := tk } := I.kept k1
    refine ⟨.ref h1.objs.size, upd H h1.objs.size (.lst (vsort kv ds)), I1.laid (t' := tk) k2 (Nat.le_refl _) ⟨?_, out, e, each_vals hout, hL⟩, rfl, q _ (I1.hok.fresh (Nat.le_refl _))⟩
    have : (vsort kv ds).length = kv.length := by unfold vsort; rw [List.length_map, (List.mergeSort_perm _ _).length_eq, hzl]
    rw [this]; exact hz
def gSortX : GNN := fun ds M => match ds with
  | [d] => (dctOf d M).bind fun x => if (okAl x.1 && srtb x.1) = true then some (sortD x.1) else none
  | _ => none
theorem o_sortX {K : PySem.W.Frag} : OpNN K (rSortX K) gSortX := by
  intro W M ds xs vs Q sr r hg k
  unfold gSortX at hg
  split at hg
  · rename_i d
    obtain ⟨⟨ks, us⟩, hd, hg⟩ := Option.bind_eq_some_iff.mp hg
    dsimp only at hg
    split at hg
    · rename_i ok
      cases hg
      rw [Bool.and_eq_true] at ok
      obtain ⟨o1, o2⟩ := okAl_ok ok.1
      obtain ⟨v, rfl, r1⟩ := rl1 r
      obtain ⟨a, o, kv, vv, rfl, h1, de, r2, r3⟩ := dct_at sr r1 hd
      have hlen : (D.pys ks).length = kv.length := by rw [pys_map, List.length_map]; exact r2.len
      have hz : kv.length ≤ LINE := by rw [← r2.len]; exact de.ln
      refine ⟨a, o, ks, kv, vv, D.pys ks, rfl, h1, de, hlen, dp_Dps 59 ks kv o1 r2, o2, srtb_ok ok.2, by have := (dps_can 59 ks o1).2; omega, by rw [line_eq]; exact hz, fun q hq => ?_⟩
      have r4 := sort_rep r2
      refine k q _ hq r4 ?_
      rw [← r4.len, show (sortD ks).length = ks.length from (List.mergeSort_perm _ _).length_eq]
      exact de.ln
    · cases hg
  · cases hg
/-! list(d) -/
def rListX (K : PySem.W.Frag) : List V → Hp → VK → Prop := fun vs H Q => ∃ (a : Addr) (o : Obj) (ks : List D) (kv vv : List V), vs = [V.ref a] ∧ H a = some (dxo a o) ∧ DEnt a o ks kv vv ∧ kv.length ≤ sizeLine ∧ ∀ p, H p = none → Q (.ref p) (upd H p (.lst kv))
def gListX : GNN := fun ds M => match ds with
  | [d] => (dctOf d M).map fun x => x.1
  | _ => none
theorem o_listX {K : PySem.W.Frag} : OpNN K (rListX K) gListX := by
  intro W M ds xs vs Q sr r hg k
  unfold gListX at hg
  split at hg
  · obtain ⟨⟨ks, us⟩, hd, rfl⟩ := Option.map_eq_some_iff.mp hg
    obtain ⟨v, rfl, r1⟩ := rl1 r
    obtain ⟨a, o, kv, vv, rfl, h1, de, r2, r3⟩ := dct_at sr r1 hd
    have hz : kv.length ≤ LINE := by rw [← r2.len]; exact de.ln
    exact ⟨a, o, ks, kv, vv, rfl, h1, de, by rw [line_eq]; exact hz, fun p hp => k p kv hp r2 hz⟩
  · cases hg
end
end
end PF
namespace PF
open PySem PySem.Spec PyProof.Rows L2
noncomputable section
/-! ### {k: v for t in xs if c} -/
section
variable {X : Cx}
/-- the turns of a dict comprehension, the new dict at D -/
def tDcX (K : PySem.W.Frag) (wi : TI) (g : TG) (tt : TT) (tk tv : TE) (vs : List Nat) : TE := fun σ H Q => wi σ H fun J H1 => ∀ D, sysModules < D → H1 D = none → ∃ W : Nat → Nat → Hp → Prop, (∃ m, W 0 m (upd H1 D (dxo D emptyD))) ∧
  ∀ i m H, W i m H → (J.stop i H ∧ Q (.ref D) H) ∨ (J.go i H ∧ ∃ Nx : Hp → Prop, (∀ H', Nx H' → ∃ m', m' < m ∧ W (i + 1) m' H') ∧ ∀ x H', J.yld i H x H' → g x (L2.wipe σ vs) H' fun σ2 H2 => L2.wipe σ2 vs = L2.wipe σ vs ∧ tt σ2 H2 fun b H3 =>
    if b = true then tk σ2 H3 fun y H4 => tv σ2 H4 fun z H5 => ∃ (W5 : Wo) (o : Obj) (ks : List PF.D) (kv vv : List V) (k : PF.D) (oi : Option Nat), DAt K W5 H5 D o ks kv vv k y oi ∧ ks.length < LINE ∧ ∀ o', Put D ks kv vv k y z oi o' → Nx (upd H5 D (dxo D o')) else Nx H3)
theorem dcx_core {pins : List (Addr × Obj)} {s : Shared} {σ : L2.St} {H : Hp} {Q : VK} {kx vx tg iter : Expr} {ifs : List Expr} {scope : Scope} {own : List (Str × Nat)} {pos pos' : Pos} {wi : TI} {g : TG} {tt : TT} {tk tv : TE} {use : Option (Value → Sem Unit)} {Qf : Value → Shared → Prop}
    (hu : X.A.units + 64 < cLine) (hc : X.calm = true) (hN : X.N.Nodup) (I : Inv X pins σ H s) (hi : PI X tg iter wi) (ok : BlkOk X.N X.env.scope scope own) (hg : ∀ (s : Shared) (H : Hp) (C : Addr) (cl : List (Str × Addr)) (fp : List Addr), PG (X.blk s H scope (compEnvC scope cl C X.env) fp) tg g)
    (ht : ∀ (s : Shared) (H : Hp) (C : Addr) (cl : List (Str × Addr)) (fp : List Addr), PTs (X.blk s H scope (compEnvC scope cl C X.env) fp) ifs tt) (hk : ∀ (s : Shared) (H : Hp) (C : Addr) (cl : List (Str × Addr)) (fp : List Addr), PE (X.blk s H scope (compEnvC scope cl C X.env) fp) kx tk)
    (he : ∀ (s : Shared) (H : Hp) (C : Addr) (cl : List (Str × Addr)) (fp : List Addr), PE (X.blk s H scope (compEnvC scope cl C X.env) fp) vx tv) (hs : ∀ x, foldedSetIterable iter X.env x = pure x) (h : tDcX X.K wi g tt tk tv (own.map (·.2)) σ H Q)
    (hRR : ∀ D C s' m H', Inv X pins σ H' s' → Q (.ref D) H' → s'.heap.Ns C m → FpOk X pins H' C → compPost (model X.prog X.w) X.A X.xe use Qf (.ref D) C (.ok .next) s') : wpAny (model X.prog X.w) X.A (comprehension (.DictComp kx vx [⟨tg, iter, ifs, 0⟩] scope pos) scope X.env pos' newDict false (eval iter X.env) use) Qf X.xe s := by
  have free1 : ∀ y ∈ scope.names, y.2 = .free → ∃ c, X.env.cells.lookup y.1 = some c := fun y hy e => by rcases ok.free y hy e with q | q; exact I.ok.has _ (.inl q); exact I.ok.has _ (.inr q)
  refine wpAny_comprehension_free (use := use) rfl hs (closure_ok free1) ok.kind (fun y hy e => by rw [ok.uniq y hy, e]) (thn (hi.run pins s σ H _ I h) fun xv s1 hx => thn hx fun itv s2 h2 => ?_)
  obtain ⟨it, fp, tn, J, H2, e0, I2, T, st2, f2, q⟩ := h2; subst e0
  refine wpAny_newObj_type (newEnv_comp ?_); generalize hD : s2.heap.objs.size = D; have hDn : H2 D = none := I2.hok.fresh (Nat.le_of_eq hD)
  obtain ⟨W, ⟨m0, w0⟩, turn⟩ := q D (by rw [← hD]; exact I2.big) hDn
  generalize hs3 : ({ s2 with heap := s2.heap.push emptyD } : Shared) = s3
  have I3 : Inv X pins σ (upd H2 D (dxo D emptyD)) s3 := by
    rw [← hs3]; refine I2.laid (t' := s2.toks) (fun b o e => Heap.get?_push_of_some _ e) (Nat.le_of_eq hD) ?_; rw [← hD]; exact ent_all _ _ (Heap.get?_push_size _ rfl)
  have h3 : s3.heap = s2.heap.push emptyD := by rw [← hs3]
  have lt2 : ∀ b ∈ fp, b < s2.heap.objs.size := fun b hb => by obtain ⟨o, e, _⟩ := T.obj _ _ st2 b hb; exact Heap.lt_size e
  have f3 : ∀ b ∈ fp, FpOk X pins (upd H2 D (dxo D emptyD)) b ∧ b < s3.heap.objs.size := fun b hb => by
    have hlt := lt2 b hb; refine ⟨⟨?_, (f2 b hb).2⟩, by rw [h3, Heap.size_push]; exact Nat.lt_succ_of_lt hlt⟩; rw [upd_ne (by rw [← hD]; exact Nat.ne_of_lt hlt)]; exact (f2 b hb).1
  have st3 : tn 0 s3.heap := T.keep _ _ _ st2 fun b _ o e => by rw [h3]; exact Heap.get?_push_of_some _ e
  have I4 := block_start I3 ok hN f3
  show codeAny _ _ (.compStart (.DictComp kx vx [⟨tg, iter, ifs, 0⟩] scope pos) 0 (.ref it) (.ref D) (compEnvC scope (cellsFrom (s3.heap.objs.size + 1) scope.names (cloFrom X.env.cells scope.names [])) s3.heap.objs.size X.env)) (compPost (model X.prog X.w) X.A X.xe use Qf (.ref D) s3.heap.objs.size) { s3 with heap := pushCells (s3.heap.push emptyD) scope.names }
  generalize hcl : cellsFrom (s3.heap.objs.size + 1) scope.names (cloFrom X.env.cells scope.names []) = cls at I4 ⊢
  have pg := hg s3 (upd H2 D (dxo D emptyD)) s3.heap.objs.size cls fp; have pt := ht s3 (upd H2 D (dxo D emptyD)) s3.heap.objs.size cls fp
  have pk := hk s3 (upd H2 D (dxo D emptyD)) s3.heap.objs.size cls fp; have pe := he s3 (upd H2 D (dxo D emptyD)) s3.heap.objs.size cls fp
  have nfp : ∀ b ∈ fp, (upd H2 D (dxo D emptyD)) b = none := fun b hb => (f3 b hb).1.1
  generalize hce : compEnvC scope cls s3.heap.objs.size X.env = ce at I4 pg pt pk pe ⊢; have cL : ce.locals = s3.heap.objs.size := by subst hce; rfl
  generalize hH3 : upd H2 D (dxo D emptyD) = H3 at I3 I4 pg pt pk pe w0 nfp f3
  generalize hs4 : ({ s3 with heap := pushCells (s3.heap.push emptyD) scope.names } : Shared) = s4 at I4 ⊢
  have st4 : tn 0 s4.heap := T.keep _ _ _ st3 fun b _ o e => by rw [← hs4]; exact pushCells_keeps _ _ _ _ (Heap.get?_push_of_some _ e)
  have stat : ∀ {σ' : L2.St} {H' : Hp} {s' : Shared}, Inv (X.blk s3 H3 scope ce fp) [] σ' H' s' → (∀ b ∈ fp, H' b = none) → ∀ b ∈ fp, FpOk (X.blk s3 H3 scope ce fp) [] H' b := fun {σ' H' s'} I' hn b hb => ⟨hn b hb, (I'.ok.exf b hb).1, I'.ok.exfs b hb, .inl hb, fun x c e => (I'.ok.exf b hb).2 x c e, fun p hp => absurd (show p ∈ ([] : List (Addr × Obj)) ++ [] from hp) (by simp)⟩
  have loop : codeAny (model X.prog X.w) X.A (.compLoop (.DictComp kx vx [⟨tg, iter, ifs, 0⟩] scope pos) 0 (.ref it) (.ref D) ce) (compPost (model X.prog X.w) X.A X.xe use Qf (.ref D) s3.heap.objs.size) s4 := by
    refine compLoop_anyD (fun n s' => ∃ i H', Inv (X.blk s3 H3 scope ce fp) [] (L2.wipe σ (own.map (·.2))) H' s' ∧ tn i s'.heap ∧ (∀ b ∈ fp, H' b = none) ∧ W i n H') ?_ m0 ⟨0, H3, I4, st4, nfp, w0⟩
    rintro n s5 ⟨i, H5, I5, st5, n5, w5⟩
    rcases turn i n H5 w5 with ⟨stop, qq⟩ | ⟨go, Nx, hNx, step⟩
    · refine thnF (T.done (X.blk s3 H3 scope ce fp) rfl rfl rfl hc i [] s5 _ H5 (fun _ _ => False) I5 (stat I5 n5) st5 stop) fun r s6 ⟨hr, I6⟩ => ?_
      subst hr
      have I7 : Inv X pins σ H5 s6 := I3.call' (ch := fp) I6.os I6.base I6.hok I6.bare fun b hb => ⟨(f3 b hb).1.2.2.2.1, (f3 b hb).1.2.1, (f3 b hb).1.2.2.2.2.1, (f3 b hb).1.2.2.2.2.2⟩
      have nC : H5 s3.heap.objs.size = none := by have z : H5 ce.locals = none := I6.free; rw [cL] at z; exact z
      obtain ⟨m, hn, _⟩ := I6.loc; have hn : s6.heap.Ns ce.locals m := hn; rw [cL] at hn
      exact hRR D s3.heap.objs.size s6 m H5 I7 qq hn (I3.fpOk (Nat.le_refl _) nC)
    · refine thnF (T.item (X.blk s3 H3 scope ce fp) rfl rfl rfl hc i [] s5 _ H5 (fun _ _ => False) I5 (stat I5 n5) st5 go) fun r s6 ⟨u, hr, h6⟩ => ?_
      subst hr
      refine thnF h6 fun _ s7 ⟨x, H7, I7, r7, y7, st7, n7⟩ => ?_
      have I7' := I7.pinned (stat I7 n7) (T.obj _ _ st7)
      refine thnF (pg.run _ s7 _ H7 x u _ I7' r7 (step x H7 y7)) fun _ s8 ⟨σ8, H8, I8, hw8, q8⟩ => thnF (pt.run _ s8 σ8 H8 _ I8 q8) fun b s9 ⟨H9, I9, q9⟩ => ?_
      have fin : ∀ {s' : Shared} {H' : Hp}, Inv (X.blk s3 H3 scope ce fp) ([] ++ pinsAt fp s7.heap) σ8 H' s' → Nx H' → ∃ m, m < n ∧ ∃ i H', Inv (X.blk s3 H3 scope ce fp) [] (L2.wipe σ (own.map (·.2))) H' s' ∧ tn i s'.heap ∧ (∀ b ∈ fp, H' b = none) ∧ W i m H' := fun {s' H'} I' nx => by
        obtain ⟨m', hm, w'⟩ := hNx H' nx
        have pin' : ∀ b ∈ fp, ∀ o, s7.heap.get? b = some o → s'.heap.get? b = some o ∧ H' b = none := fun b hb o e => let z := I'.pin (b, o) (List.mem_append_right _ (List.mem_append_right _ (mem_pinsAt hb e))); ⟨z.1, z.2.1⟩
        have hl : (L2.wipe σ (own.map (·.2))).length = σ8.length := by rw [← hw8, wipe_length]
        refine ⟨m', hm, i + 1, H', (I'.unpinned (pins := [])).weak hl (fun j v e => ?_), T.keep _ _ _ st7 fun b hb o e => (pin' b hb o e).1, fun b hb => ?_, w'⟩
        · rw [← hw8] at e; exact (wipe_some e).1
        · obtain ⟨o, e, _⟩ := T.obj _ _ st7 b hb; exact (pin' b hb o e).2
      cases b with
      | false => simp only [Bool.false_eq_true, if_false] at q9 ⊢; exact fin I9 q9
      | true =>
        simp only [if_true] at q9 ⊢
        refine thnF (pk.run _ s9 σ8 H9 _ I9 q9) fun z s10 ⟨yk, H10, I10, r10, q10⟩ => thnF (pe.run _ s10 σ8 H10 _ I10 q10) fun z2 s11 ⟨yv, H11, I11, r11, W5, o, ks, kv, vv, k, oi, dat, hz, nx⟩ => ?_
        have hw := dat.wh; subst hw
        have vw : DView (X.blk s3 H3 scope ce fp) s11 D ks kv vv k yk z oi := DAt.view (X := X.blk s3 H3 scope ce fp) I11 dat r10
        exact x_dictSet (X := X.blk s3 H3 scope ce fp) hu I11 dat.ha dat.de vw hz r11 fun o' s12 I12 pu => fin I12 (nx o' pu)
  exact codeAny_compStart_dict loop (T.self X.A 0 _ _ _ st4 loop)
theorem pe_dcx {kx vx tg iter : Expr} {ifs : List Expr} {scope : Scope} {own : List (Str × Nat)} {pos : Pos} {wi : TI} {g : TG} {tt : TT} {tk tv : TE} (hu : X.A.units + 64 < cLine) (hc : X.calm = true) (hN : X.N.Nodup) (hi : PI X tg iter wi) (ok : BlkOk X.N X.env.scope scope own) (hg : ∀ (s : Shared) (H : Hp) (C : Addr) (cl : List (Str × Addr)) (fp : List Addr), PG (X.blk s H scope (compEnvC scope cl C X.env) fp) tg g)
    (ht : ∀ (s : Shared) (H : Hp) (C : Addr) (cl : List (Str × Addr)) (fp : List Addr), PTs (X.blk s H scope (compEnvC scope cl C X.env) fp) ifs tt) (hk : ∀ (s : Shared) (H : Hp) (C : Addr) (cl : List (Str × Addr)) (fp : List Addr), PE (X.blk s H scope (compEnvC scope cl C X.env) fp) kx tk)
    (he : ∀ (s : Shared) (H : Hp) (C : Addr) (cl : List (Str × Addr)) (fp : List Addr), PE (X.blk s H scope (compEnvC scope cl C X.env) fp) vx tv) (hs : ∀ x, foldedSetIterable iter X.env x = pure x := by intro _; rfl) : PE X (.DictComp kx vx [⟨tg, iter, ifs, 0⟩] scope pos) (tDcX X.K wi g tt tk tv (own.map (·.2))) := by
  refine ⟨fun pins s σ H Q I h => ?_⟩
  rw [arm_eval_DictComp]; refine dcx_core hu hc hN I hi ok hg ht hk he hs h fun D C s' m H' I' q hn f => ⟨m, hn, fun h'' sb => ?_⟩
  obtain ⟨f0, f1, f2, f3, f4, f5⟩ := f; exact ⟨.ref D, H', I'.turned (t' := s'.toks) (fun b o hb e => (sb.2 b hb).trans e) f0 f1 f3 f4 f5, rfl, q⟩
end
/-! on data -/
def dPut2 (acc : List D × List D) (k v : D) : Option (List D × List D) := (dIx acc.1 k).bind fun oi => if acc.1.length < LINE then some (putKs acc.1 k oi, putVs acc.2 v oi) else none
def dcLoop (c : Mem → Bool) (t : FG) (ft : FT) (fk fv : FE) (ρ : Rho) : List D → List D × List D → Mem → Option ((List D × List D) × Mem)
  | [], acc, M => if c M = true then some (acc, M) else none
  | d :: ds, acc, M => if c M = true then (t d ρ).bind fun ρ' => (ft ρ' M).bind fun b =>
      if b.1 = true then (fk ρ' b.2).bind fun k => (fv ρ' k.2).bind fun v => (dPut2 acc k.1 v.1).bind fun acc' => dcLoop c t ft fk fv ρ ds acc' v.2 else dcLoop c t ft fk fv ρ ds acc b.2
    else none
def fDC (vs : List Nat) (fi : FI) (t : FG) (ft : FT) (fk fv : FE) : FD := fun ρ M => (fi ρ M).bind fun a => dcLoop (chk a.1.2 a.1.1) t ft fk fv (wipeR ρ vs) a.1.1 ([], []) a.2
theorem dc_lift {K : PySem.W.Frag} {fi : FI} {t : FG} {ft : FT} {fk fv : FE} {vs : List Nat} : ∀ σ H Q, liftDN K (fDC vs fi t ft fk fv) σ H Q → tDcX K (liftI K fi) (liftG K vs t) (liftT K ft) (liftE K fk) (liftE K fv) vs σ H Q := by
  rintro σ H Q ⟨W, ρ, M, rfl, sr, sl, out, M', hf, k⟩
  obtain ⟨⟨⟨xs, kk⟩, M1⟩, hi, hf⟩ := Option.bind_eq_some_iff.mp hf
  refine ⟨W, ρ, M, rfl, sr, sl, xs, kk, M1, hi, fun W1 J e1 s1 jo D big hD => ?_⟩
  refine ⟨fun i m H' => ∃ (W2 : Wo) (Mt : Mem) (acc : List PF.D × List PF.D) (o : Obj) (kv vv : List V), H' = upd W2.H D (dxo D o) ∧ W2.H D = none ∧ Ext W1 W2 ∧ SR K W2 Mt ∧ DEnt D o acc.1 kv vv ∧ RpL K W2 acc.1 kv ∧ RpL K W2 acc.2 vv ∧ i ≤ xs.length ∧ m = xs.length - i ∧
    dcLoop (chk kk xs) t ft fk fv (wipeR ρ vs) (xs.drop i) acc Mt = some (out, M'), ⟨xs.length, W1, M1, ([], []), emptyD, [], [], rfl, hD, .refl W1, s1, ent_nil big, rfl, rfl, Nat.zero_le _, rfl, hf⟩, ?_⟩
  rintro i m H' ⟨W2, Mt, acc, o, kv, vv, rfl, hD2, e2, s2, de, rk, rv, hil, rfl, hw⟩
  have eP : Ext W2 (W2.plus D (dxo D o)) := Ext.plus hD2
  have sP : SR K (W2.plus D (dxo D o)) Mt := s2.plus hD2
  by_cases hlt : i < xs.length
  · right
    have hd : xs.drop i = xs[i] :: xs.drop (i + 1) := List.drop_eq_getElem_cons hlt
    rw [hd] at hw
    unfold dcLoop at hw
    split at hw
    · rename_i hck
      obtain ⟨ρ', ht, hw⟩ := Option.bind_eq_some_iff.mp hw
      obtain ⟨⟨b, M3⟩, hb, hw⟩ := Option.bind_eq_some_iff.mp hw
      obtain ⟨hgo, hy⟩ := (jo.2 _ Mt (e2.trans eP) sP hck i).1 xs[i] (by simp [hlt])
      refine ⟨hgo, fun H' => ∃ (W4 : Wo) (Mt : Mem) (acc : List PF.D × List PF.D) (o : Obj) (kv vv : List V), H' = upd W4.H D (dxo D o) ∧ W4.H D = none ∧ Ext W1 W4 ∧ SR K W4 Mt ∧ DEnt D o acc.1 kv vv ∧ RpL K W4 acc.1 kv ∧ RpL K W4 acc.2 vv ∧
        dcLoop (chk kk xs) t ft fk fv (wipeR ρ vs) (xs.drop (i + 1)) acc Mt = some (out, M'), ?_, fun x H' hx => ?_⟩
      · rintro H' ⟨W4, Mt', acc', o', kv', vv', h1, h2, h3, h4, h5, h6, h7, h8⟩
        exact ⟨xs.length - (i + 1), by omega, W4, Mt', acc', o', kv', vv', h1, h2, h3, h4, h5, h6, h7, hlt, rfl, h8⟩
      · obtain ⟨rfl, rx⟩ := hy x H' hx
        have slW : Sl K (W2.plus D (dxo D o)) (wipeR ρ vs) (L2.wipe σ vs) := (sl.ext (e1.trans (e2.trans eP)) sr.sub).wipe vs
        refine ⟨_, wipeR ρ vs, Mt, xs[i], rfl, sP, slW, rx, ρ', ht, fun W3 σ3 e3 s3 l3 w3 => ⟨by rw [w3, wipe_idem], ?_⟩⟩
        refine ⟨W3, ρ', Mt, rfl, s3, l3, b, M3, hb, fun W4 e4 s4 => ?_⟩
        cases b with
        | false =>
          rw [if_neg Bool.false_ne_true] at hw ⊢
          obtain ⟨e5, b5, n5, h5⟩ := Ext.unplus s2 hD2 (e3.trans e4)
          refine ⟨W4.minus D, M3, acc, o, kv, vv, ?_, minus_self, e2.trans e5, s4.minus b5 n5, de, rk.ext e5 s2.sub, rv.ext e5 s2.sub, hw⟩
          funext a
          by_cases z : a = D
          · subst z; rw [upd_same]; exact h5
          · rw [upd_ne z]; exact (minus_H z).symm
        | true =>
          rw [if_pos rfl] at hw ⊢
          obtain ⟨⟨y, M5⟩, hye, hw⟩ := Option.bind_eq_some_iff.mp hw
          obtain ⟨⟨y2, M6⟩, hye2, hw⟩ := Option.bind_eq_some_iff.mp hw
          obtain ⟨acc', hpu, hw⟩ := Option.bind_eq_some_iff.mp hw
          refine ⟨W4, ρ', M3, rfl, s4, l3.ext e4 s3.sub, y, M5, hye, fun W5 v e5 s5 r5 => ⟨W5, ρ', M5, rfl, s5, l3.ext (e4.trans e5) s3.sub, y2, M6, hye2, fun W6 v2 e6 s6 r6 => ?_⟩⟩
          obtain ⟨e7, b7, n7, h7⟩ := Ext.unplus s2 hD2 (((e3.trans e4).trans e5).trans e6)
          obtain ⟨oi, hix, hpu⟩ := Option.bind_eq_some_iff.mp hpu
          split at hpu
          · rename_i hz
            cases hpu
            have e36 := ((e3.trans e4).trans e5).trans e6
            have rk6 : RpL K W6 acc.1 kv := (rk.ext eP s2.sub).ext e36 sP.sub
            have r5' := r5.ext e6 s5.sub
            refine ⟨W6, o, acc.1, kv, vv, y, oi, ⟨rfl, h7, de, rk6, r5', hix⟩, hz, fun o' pt => ?_⟩
            have s7 := s6.minus b7 n7
            refine ⟨W6.minus D, M6, _, o', keyV kv v oi, putVs vv v2 oi, ?_, minus_self, e2.trans e7, s7, pt.de, ?_, ?_, hw⟩
            · funext a
              by_cases z : a = D
              · subst z; rw [upd_same, upd_same]
              · rw [upd_ne z, upd_ne z]; exact (minus_H z).symm
            · cases oi with
              | some j => exact rk.ext e7 s2.sub
              | none => exact (rk.ext e7 s2.sub).append (.one (r5'.minus b7 n7))
            · cases oi with
              | some j => exact (rv.ext e7 s2.sub).set j (r6.minus b7 n7)
              | none => exact (rv.ext e7 s2.sub).append (.one (r6.minus b7 n7))
          · cases hpu
    · cases hw
  · left
    have e : i = xs.length := by omega
    subst e
    rw [List.drop_length] at hw
    unfold dcLoop at hw
    split at hw
    · rename_i hck
      cases hw
      refine ⟨(jo.2 _ _ (e2.trans eP) sP hck xs.length).2 (Nat.le_refl _), ?_⟩
      exact k W2 D o kv vv (e1.trans e2) s2 hD2 de rk rv
    · cases hw
section
variable {X : Cx} {kx vx tg iter : Expr} {ifs : List Expr} {scope : Scope} {own : List (Str × Nat)} {pos : Pos} {fi : FI} {t : FG} {ft : FT} {fk fv : FE}
theorem pfd_dc (hu : X.A.units + 64 < cLine) (hc : X.calm = true) (hN : X.N.Nodup) (hi : PFI X tg iter fi) (ok : BlkOk X.N X.env.scope scope own)
    (hg : ∀ (s : Shared) (H : Hp) (C : Addr) (cl : List (Str × Addr)) (fp : List Addr), PFG (X.blk s H scope (compEnvC scope cl C X.env) fp) (own.map (·.2)) tg t) (ht : ∀ (s : Shared) (H : Hp) (C : Addr) (cl : List (Str × Addr)) (fp : List Addr), PFTs (X.blk s H scope (compEnvC scope cl C X.env) fp) ifs ft)
    (hk : ∀ (s : Shared) (H : Hp) (C : Addr) (cl : List (Str × Addr)) (fp : List Addr), PFE (X.blk s H scope (compEnvC scope cl C X.env) fp) kx fk) (he : ∀ (s : Shared) (H : Hp) (C : Addr) (cl : List (Str × Addr)) (fp : List Addr), PFE (X.blk s H scope (compEnvC scope cl C X.env) fp) vx fv) (hs : ∀ x, foldedSetIterable iter X.env x = pure x := by intro _; rfl) :
    PFD X (.DictComp kx vx [⟨tg, iter, ifs, 0⟩] scope pos) (fDC (own.map (·.2)) fi t ft fk fv) := pe_weak (pe_dcx hu hc hN hi ok hg ht hk he hs) dc_lift
theorem sw_trueD {gs : List Comprehension} {py : Pos} {y : Str} {l : Nat} {env : Env} (hk : env.scope.kind = .function) (hy : env.scope.names.lookup y = some .local) (hl : (py.line == pos.line) = true) (ha : (scope.names.any fun (n, k) => n == y && (k == .local || k == .cell)) = false) :
    swapsWith (.DictComp kx vx gs scope pos) (some (.Name y py)) l env = pure true := by
  have ky : env.kindOf y = some .local := hy; have hb : env.blockKind = .function := by unfold Env.blockKind; rw [hk]; rfl
  unfold swapsWith; simp only [hb, ky, ha, Expr.pos, hl]; rfl
theorem ps_setDcx {i : Nat} {y : Str} {py spos : Pos} {wi : TI} {g : TG} {tt : TT} {tk tv : TE} (hu : X.A.units + 64 < cLine) (hc : X.calm = true) (hN : X.N.Nodup) (hy : X.N[i]? = some y) (hyl : X.env.scope.names.lookup y = some .local) (hsw : swapsWith (.DictComp kx vx [⟨tg, iter, ifs, 0⟩] scope pos) (some (.Name y py)) spos.line X.env = pure true)
    (hi : PI X tg iter wi) (ok : BlkOk X.N X.env.scope scope own) (hg : ∀ (s : Shared) (H : Hp) (C : Addr) (cl : List (Str × Addr)) (fp : List Addr), PG (X.blk s H scope (compEnvC scope cl C X.env) fp) tg g) (ht : ∀ (s : Shared) (H : Hp) (C : Addr) (cl : List (Str × Addr)) (fp : List Addr), PTs (X.blk s H scope (compEnvC scope cl C X.env) fp) ifs tt)
    (hk : ∀ (s : Shared) (H : Hp) (C : Addr) (cl : List (Str × Addr)) (fp : List Addr), PE (X.blk s H scope (compEnvC scope cl C X.env) fp) kx tk) (he : ∀ (s : Shared) (H : Hp) (C : Addr) (cl : List (Str × Addr)) (fp : List Addr), PE (X.blk s H scope (compEnvC scope cl C X.env) fp) vx tv) (hs : ∀ x, foldedSetIterable iter X.env x = pure x := by intro _; rfl) :
    PS X (.Assign [.Name y py] (.DictComp kx vx [⟨tg, iter, ifs, 0⟩] scope pos) spos) (tAsg (tDcX X.K wi g tt tk tv (own.map (·.2))) (gName i)) := by
  refine ⟨fun pins s σ H D I h => ?_⟩; rw [exec_Assign_Name_used _ _ _ _ hsw]
  refine wpAny_bind (wpAny_standAt (wpAny_bind ?_)); have h : tDcX X.K wi g tt tk tv (own.map (·.2)) σ H (fun x H1 => gName i x σ H1 D.nx) := h
  show wpAny _ X.A (do let _ ← comprehension (.DictComp kx vx [⟨tg, iter, ifs, 0⟩] scope pos) scope X.env (firstIterPos [⟨tg, iter, ifs, 0⟩] pos) newDict false (eval iter X.env) (some (assign (.Name y py) X.env))) _ _ s
  refine wpAny_bind (thn (dcx_core (Qf := fun _ s' => SP X pins D .next s') hu hc hN I hi ok hg ht hk he hs h fun L C s' m H' I' q hn f => ?_) fun _ s' hq => wpAny_pure (wpAny_pure hq))
  show wpAny _ _ (assign (.Name y py) X.env (.ref L)) _ _ _; refine wpAny_assign_Name (store_ok2 (v := V.ref L) I' hN hy (.inl hyl) rfl (fun s2 I2 ⟨a, sb, ha⟩ => ?_) (.inr hyl))
  obtain ⟨f0, f1, f2, f3, f4, f5⟩ := f; have haC : C ≠ a := by rcases ha with z | z; (rw [z]; exact f1); exact fun e => f4 y a z e.symm
  refine ⟨m, hn.sameBut sb haC, fun h3 sb3 => ?_⟩; exact ⟨_, H', I2.turned (t' := s2.toks) (fun b o hb e => (sb3.2 b hb).trans e) f0 f1 f3 f4 f5, q⟩
theorem setD_fz {K : PySem.W.Frag} {i : Nat} {f : FD} : ∀ E σ H, liftS K (sSet i (fFzD f)) E σ H → liftDN K f σ H fun x H1 => gName i x σ H1 E.nx := fun E σ H => by
  rw [liftS_iff]
  rintro ⟨W, ρ, M, rfl, sr, sl, o, M', hf, k⟩
  obtain ⟨⟨x, M1⟩, hx, hf⟩ := Option.bind_eq_some_iff.mp hf
  obtain ⟨⟨y, M2⟩, hy, hx⟩ := Option.bind_eq_some_iff.mp hx
  cases hx; cases hf
  exact ⟨W, ρ, M, rfl, sr, sl, y, _, hy, fun W1 p o kv vv e1 s1 hp de r1 r2 => k _ _ (e1.trans (Ext.put hp)) (s1.put hp) (sl_set (sl.ext (e1.trans (Ext.put hp)) sr.sub) ⟨p, o, kv, vv, rfl, ⟨upd_same, s1.nb hp⟩, de, r1.ext (Ext.put hp) s1.sub, r2.ext (Ext.put hp) s1.sub⟩)⟩
theorem setD_mut {K : PySem.W.Frag} {i : Nat} {f : FD} : ∀ E σ H, liftS K (sSet i (fMutD f)) E σ H → liftDN K f σ H fun x H1 => gName i x σ H1 E.nx := fun E σ H => by
  rw [liftS_iff]
  rintro ⟨W, ρ, M, rfl, sr, sl, o, M', hf, k⟩
  obtain ⟨⟨x, M1⟩, hx, hf⟩ := Option.bind_eq_some_iff.mp hf
  obtain ⟨⟨y, M2⟩, hy, hx⟩ := Option.bind_eq_some_iff.mp hx
  cases hx; cases hf
  exact ⟨W, ρ, M, rfl, sr, sl, y, _, hy, fun W1 p o kv vv e1 s1 hp de r1 r2 => k _ _ (e1.trans (Ext.mk2 hp)) (s1.mk2g hp ⟨o, kv, vv, upd_same, de, r1.ext (Ext.mk2 hp) s1.sub, r2.ext (Ext.mk2 hp) s1.sub⟩) (sl_set (sl.ext (e1.trans (Ext.mk2 hp)) sr.sub) (.mk2 s1))⟩
section
variable {i : Nat} {y : Str} {py spos : Pos} (hu : X.A.units + 64 < cLine) (hc : X.calm = true) (hN : X.N.Nodup) (hy : X.N[i]? = some y) (hyl : X.env.scope.names.lookup y = some .local) (hsw : swapsWith (.DictComp kx vx [⟨tg, iter, ifs, 0⟩] scope pos) (some (.Name y py)) spos.line X.env = pure true)
    (hi : PFI X tg iter fi) (ok : BlkOk X.N X.env.scope scope own) (hg : ∀ (s : Shared) (H : Hp) (C : Addr) (cl : List (Str × Addr)) (fp : List Addr), PFG (X.blk s H scope (compEnvC scope cl C X.env) fp) (own.map (·.2)) tg t) (ht : ∀ (s : Shared) (H : Hp) (C : Addr) (cl : List (Str × Addr)) (fp : List Addr), PFTs (X.blk s H scope (compEnvC scope cl C X.env) fp) ifs ft)
    (hk : ∀ (s : Shared) (H : Hp) (C : Addr) (cl : List (Str × Addr)) (fp : List Addr), PFE (X.blk s H scope (compEnvC scope cl C X.env) fp) kx fk) (he : ∀ (s : Shared) (H : Hp) (C : Addr) (cl : List (Str × Addr)) (fp : List Addr), PFE (X.blk s H scope (compEnvC scope cl C X.env) fp) vx fv)
include hu hc hN hy hyl hsw hi ok hg ht hk he
theorem pfs_setDcF (hs : ∀ x, foldedSetIterable iter X.env x = pure x := by intro _; rfl) : PFS X (.Assign [.Name y py] (.DictComp kx vx [⟨tg, iter, ifs, 0⟩] scope pos) spos) (sSet i (fFzD (fDC (own.map (·.2)) fi t ft fk fv))) := ps_weak (ps_setDcx hu hc hN hy hyl hsw hi ok hg ht hk he hs) fun E σ H h => dc_lift _ _ _ (setD_fz E σ H h)
theorem pfs_setDcM (hs : ∀ x, foldedSetIterable iter X.env x = pure x := by intro _; rfl) : PFS X (.Assign [.Name y py] (.DictComp kx vx [⟨tg, iter, ifs, 0⟩] scope pos) spos) (sSet i (fMutD (fDC (own.map (·.2)) fi t ft fk fv))) := ps_weak (ps_setDcx hu hc hN hy hyl hsw hi ok hg ht hk he hs) fun E σ H h => dc_lift _ _ _ (setD_mut E σ H h)
end
end
end
end PF
namespace PF
open PySem PySem.Spec PyProof.Rows L2
/-! ### what the pieces compute, for simp -/
def rg1 (a : List D) (M : Mem) : Option ((List D × KK) × Mem) := match a with | [.int j] => if okR 0 j then some ((rgD 0 j.toNat, none), M) else none | _ => none
def rg2 (a : List D) (M : Mem) : Option ((List D × KK) × Mem) := match a with | [.int i, .int j] => if okR i j then some ((rgD i (j - i).toNat, none), M) else none | _ => none
theorem ev_rgh1 {j : Int} (M : Mem) (h : okR 0 j = true) : rg1 [.int j] M = some ((rgD 0 j.toNat, none), M) := by unfold rg1; dsimp only; rw [if_pos h]
theorem ev_rgh2 {i j : Int} (M : Mem) (h : okR i j = true) : rg2 [.int i, .int j] M = some ((rgD i (j - i).toNat, none), M) := by unfold rg2; dsimp only; rw [if_pos h]
section
variable (ρ : Rho) (M : Mem)
@[simp] theorem ev_var (i) : fVar i ρ M = match ρ[i]? with | some (some d) => some (d, M) | _ => none := rfl
@[simp] theorem ev_c (d) : fC d ρ M = some (d, M) := rfl
@[simp] theorem ev_f1 (g a) : f1 g a ρ M = (a ρ M).bind fun a => (g a.1 a.2).bind fun d => some (d, a.2) := rfl
@[simp] theorem ev_f2 (g a b) : f2 g a b ρ M = (a ρ M).bind fun a => (b ρ a.2).bind fun b => (g a.1 b.1 b.2).bind fun d => some (d, b.2) := rfl
@[simp] theorem ev_f2T (g a b) : f2T g a b ρ M = (a ρ M).bind fun a => (b ρ a.2).bind fun b => (g a.1 b.1 b.2).bind fun d => some (d, b.2) := rfl
@[simp] theorem ev_gB (g x y) : gB g x y M = (g x y M).map .bl := rfl
@[simp] theorem ev_tru (a) : fTru a ρ M = (a ρ M).bind fun a => (gTru a.1 a.2).bind fun k => some (k, a.2) := rfl
@[simp] theorem ev_not (a) : fNot a ρ M = (a ρ M).bind fun a => some (!a.1, a.2) := rfl
@[simp] theorem ev_and (a b) : fAnd a b ρ M = (a ρ M).bind fun a => if a.1 = true then b ρ a.2 else some (false, a.2) := rfl
@[simp] theorem ev_or (a b) : fOr a b ρ M = (a ρ M).bind fun a => if a.1 = true then some (true, a.2) else b ρ a.2 := rfl
@[simp] theorem ev_andV (a b) : fAndV a b ρ M = (a ρ M).bind fun a => (gTru a.1 a.2).bind fun k => if k = true then b ρ a.2 else some a := rfl
@[simp] theorem ev_orV (a b) : fOrV a b ρ M = (a ρ M).bind fun a => (gTru a.1 a.2).bind fun k => if k = true then some a else b ρ a.2 := rfl
@[simp] theorem ev_notV (a) : fNotV a ρ M = (a ρ M).bind fun a => (gTru a.1 a.2).bind fun k => some (.bl (!k), a.2) := rfl
@[simp] theorem ev_ifE (c a b) : fIfE c a b ρ M = (c ρ M).bind fun c => if c.1 = true then a ρ c.2 else b ρ c.2 := rfl
theorem ev_chain (g g' : G2B) (fa fb fc : FE) : fChain g g' fa fb fc ρ M = (fa ρ M).bind fun a => (fb ρ a.2).bind fun b => (g a.1 b.1 b.2).bind fun k => if k = true then (fc ρ b.2).bind fun c => (g' b.1 c.1 c.2).bind fun j => some (.bl j, c.2) else some (.bl false, b.2) := rfl
theorem ev_chainT (g g' : G2B) (fa fb fc : FE) : fChainT g g' fa fb fc ρ M = (fa ρ M).bind fun a => (fb ρ a.2).bind fun b => (g a.1 b.1 b.2).bind fun k => if k = true then (fc ρ b.2).bind fun c => (g' b.1 c.1 c.2).bind fun j => some (j, c.2) else some (false, b.2) := rfl
@[simp] theorem ev_nil : fNil ρ M = some ([], M) := rfl
@[simp] theorem ev_cons (a r) : fCons a r ρ M = (a ρ M).bind fun a => (r ρ a.2).bind fun r => some (a.1 :: r.1, r.2) := rfl
@[simp] theorem ev_tup (f) : fTup f ρ M = (f ρ M).bind fun a => if a.1.length ≤ LINE then some (.tup a.1, a.2) else none := rfl
@[simp] theorem ev_lstD (f) : fLstD f ρ M = (f ρ M).bind fun a => if a.1.length ≤ LINE then some a else none := rfl
@[simp] theorem ev_fz (f) : fFz f ρ M = (f ρ M).bind fun a => some (.lst a.1, a.2) := rfl
@[simp] theorem ev_mut (f) : fMut f ρ M = (f ρ M).bind fun a => some (.ref a.2.length, a.2 ++ [.lst a.1]) := rfl
@[simp] theorem ev_rev (f) : fRevN f ρ M = (f ρ M).bind fun a => (lsOf a.1 a.2).bind fun xs => some (xs.reverse, a.2) := rfl
@[simp] theorem ev_b (g f) : fB g f ρ M = (f ρ M).bind fun a => (g a.1 a.2).bind fun d => some (d, a.2) := rfl
@[simp] theorem ev_bN (g f) : fBN g f ρ M = (f ρ M).bind fun a => (g a.1 a.2).bind fun d => some (d, a.2) := rfl
@[simp] theorem ev_isi (T f) : fIsi T f ρ M = (f ρ M).bind fun a => if noDct a.1 a.2 = true then some (.bl (isi (tyOf a.1) T), a.2) else none := rfl
@[simp] theorem ev_call (c f) : fCall c f ρ M = (f ρ M).bind fun a => callP c a.1 a.2 := rfl
@[simp] theorem ev_callS (i c f) : fCallS i c f ρ M = (f ρ M).bind fun a => callS i c a.1 a.2 := rfl
@[simp] theorem ev_callSM (i c f) : fCallSM i c f ρ M = (f ρ M).bind fun a => callSM i c a.1 a.2 := rfl
@[simp] theorem ev_m (T g o f) : fM T g o f ρ M = (o ρ M).bind fun o => if tyOk T o.1 o.2 = true then (f ρ o.2).bind fun a => g o.1 a.1 a.2 else none := rfl
@[simp] theorem ev_next : sNext ρ M = some (.nx ρ, M) := rfl
@[simp] theorem ev_seq (f g) : sSeq f g ρ M = (f ρ M).bind fun o => match o.1 with | .nx ρ' => g ρ' o.2 | _ => some o := rfl
@[simp] theorem ev_brk : sBreak ρ M = some (.bk ρ, M) := rfl
@[simp] theorem ev_cont : sCont ρ M = some (.ct ρ, M) := rfl
@[simp] theorem ev_drop (f) : sDrop f ρ M = (f ρ M).bind fun a => some (.nx ρ, a.2) := rfl
@[simp] theorem ev_ret (f) : sRet f ρ M = (f ρ M).bind fun a => some (.ret a.1, a.2) := rfl
@[simp] theorem ev_retN : sRetN ρ M = some (.ret .non, M) := rfl
@[simp] theorem ev_if (c f g) : sIf c f g ρ M = (c ρ M).bind fun a => if a.1 = true then f ρ a.2 else g ρ a.2 := rfl
@[simp] theorem ev_set (i f) : sSet i f ρ M = (f ρ M).bind fun a => some (.nx (ρ.set i (some a.1)), a.2) := rfl
@[simp] theorem ev_asg (f t) : sAsg f t ρ M = (f ρ M).bind fun a => (t a.1 ρ).bind fun ρ' => some (.nx ρ', a.2) := rfl
@[simp] theorem ev_par (i j f) : sPar i j f ρ M = (f ρ M).bind fun a => match a.1 with | [x, y] => some (.nx ((ρ.set i (some x)).set j (some y)), a.2) | _ => none := rfl
@[simp] theorem ev_par3 (i j l f) : sPar3 i j l f ρ M = (f ρ M).bind fun a => match a.1 with | [x, y, z] => some (.nx (((ρ.set i (some x)).set j (some y)).set l (some z)), a.2) | _ => none := rfl
@[simp] theorem ev_aug (i g f) : sAug i g f ρ M = match ρ[i]? with | some (some x) => (f ρ M).bind fun a => (g x a.1 a.2).bind fun z => some (.nx (ρ.set i (some z.1)), z.2) | _ => none := rfl
@[simp] theorem ev_while (c f) : sWhile c f ρ M = sWhileN c f (fuel ρ M) ρ M := rfl
@[simp] theorem ev_for (i t f) : sFor i t f ρ M = (i ρ M).bind fun a => sLoop (chk a.1.2 a.1.1) (sStep t f) a.1.1 ρ a.2 := rfl
@[simp] theorem ev_step (t f d) : sStep t f d ρ M = (t d ρ).bind fun ρ' => f ρ' M := rfl
@[simp] theorem ev_tN (i d) : tN i d ρ = some (ρ.set i (some d)) := rfl
@[simp] theorem ev_tT (n t xs) : tT n t (.tup xs) ρ = if xs.length = n then t xs ρ else none := rfl
@[simp] theorem ev_tsN : tsN [] ρ = some ρ := rfl
@[simp] theorem ev_tsC (t u d r) : tsC t u (d :: r) ρ = (t d ρ).bind fun ρ' => u r ρ' := rfl
@[simp] theorem ev_rg1 (f) : fiRg1 f ρ M = (f ρ M).bind fun a => rg1 a.1 a.2 := rfl
@[simp] theorem ev_rg2 (f) : fiRg2 f ρ M = (f ρ M).bind fun a => rg2 a.1 a.2 := rfl
@[simp] theorem ev_lc (vs i t c e) : fLC vs i t c e ρ M = (i ρ M).bind fun a => lcLoop (chk a.1.2 a.1.1) t c e (wipeR ρ vs) a.1.1 [] a.2 := rfl
@[simp] theorem ev_lc2 (vs vs1 i t c i1 t1 c1 e) : fLC2 vs vs1 i t c i1 t1 c1 e ρ M = (i ρ M).bind fun a => (lc2Loop (chk a.1.2 a.1.1) t c i1 vs1 t1 c1 e (wipeR ρ vs) a.1.1 [] a.2).bind fun y => if y.1.length ≤ LINE then some y else none := rfl
@[simp] theorem ev_yes : fYes ρ M = some (true, M) := rfl
@[simp] theorem ev_setIx (v o i) : sSetIx v o i ρ M = (v ρ M).bind fun v => (o ρ v.2).bind fun o => (i ρ o.2).bind fun i => match i.1 with
  | .int k => (mlOf o.1 i.2).bind fun l => (ixN l.2.length k).bind fun j => some (.nx ρ, i.2.set l.1 (.lst (l.2.set j v.1)))
  | _ => none := rfl
@[simp] theorem ev_slice (a l h) : fSlice a l h ρ M = (a ρ M).bind fun a => (l ρ a.2).bind fun l => (h ρ l.2).bind fun h => (gSlice a.1 l.1 h.1 h.2).bind fun d => some (d, h.2) := rfl
@[simp] theorem ev_sliceN (a l h) : fSliceN a l h ρ M = (a ρ M).bind fun a => (l ρ a.2).bind fun l => (h ρ l.2).bind fun h => (lsOf a.1 h.2).bind fun d => some (cutD d l.1 h.1, h.2) := rfl
@[simp] theorem ev_noPart : fNoPart ρ M = some (none, M) := rfl
@[simp] theorem ev_part (a) : fPart a ρ M = (a ρ M).bind fun a => match a.1 with | .int i => some (some i, a.2) | _ => none := rfl
end
section
variable (M : Mem) (i j : Int)
@[simp] theorem ev_add : gAdd (.int i) (.int j) M = some (.int (i + j)) := rfl
@[simp] theorem ev_sub : gSub (.int i) (.int j) M = some (.int (i - j)) := rfl
@[simp] theorem ev_mul : gMul (.int i) (.int j) M = if okMul i j = true then some (.int (i * j)) else none := rfl
@[simp] theorem ev_fdiv : gFdiv (.int i) (.int j) M = if okDiv j = true then some (.int (i.fdiv j)) else none := rfl
@[simp] theorem ev_mod : gMod (.int i) (.int j) M = if decide (j ≠ 0) = true then some (.int (i.fmod j)) else none := rfl
@[simp] theorem ev_pow : gPow (.int i) (.int j) M = if okPow i j = true then some (.int (i ^ j.toNat)) else none := rfl
@[simp] theorem ev_neg : gNeg (.int i) M = some (.int (-i)) := rfl
@[simp] theorem ev_cmp (c) : gCmp c (.int i) (.int j) M = some (c i j) := rfl
@[simp] theorem ev_eq : gEq (.int i) (.int j) M = some (decide (i = j)) := by
  unfold gEq; simp [D.val, D.dp, D.py, PyData.eqv]; by_cases h : i = j <;> simp [h]
@[simp] theorem ev_ne : gNe (.int i) (.int j) M = some (!decide (i = j)) := by
  unfold gNe; rw [ev_eq]; rfl
@[simp] theorem ev_eqb (a b : Bool) : gEq (.bl a) (.bl b) M = some (decide (a = b)) := by cases a <;> cases b <;> rfl
@[simp] theorem ev_neb (a b : Bool) : gNe (.bl a) (.bl b) M = some (!decide (a = b)) := by cases a <;> cases b <;> rfl
@[simp] theorem ev_int : gInt [.int i] M = some (.int i) := rfl
@[simp] theorem ev_intb (b) : gInt [.bl b] M = some (.int (if b = true then 1 else 0)) := by cases b <;> rfl
@[simp] theorem ev_abs : gAbs [.int i] M = some (.int (i.natAbs : Int)) := by
  show some (D.int (if i < 0 then -i else i)) = _
  rw [show (if i < 0 then -i else i) = (i.natAbs : Int) by omega]
@[simp] theorem ev_gcd : gGcd [.int i, .int j] M = some (.int ((Nat.gcd i.natAbs j.natAbs : Nat) : Int)) := rfl
@[simp] theorem ev_max2 : gMax2 [.int i, .int j] M = some (.int (if j > i then j else i)) := rfl
@[simp] theorem ev_min2 : gMin2 [.int i, .int j] M = some (.int (if j < i then j else i)) := rfl
@[simp] theorem ev_trub (b) : gTru (.bl b) M = some b := rfl
@[simp] theorem ev_trui : gTru (.int i) M = some (i != 0) := rfl
@[simp] theorem ev_isb (a b : Bool) : gIs (.bl a) (.bl b) M = some (decide (a = b)) := rfl
@[simp] theorem ev_isn (d) : gIs d .non M = some (isNn d) := rfl
@[simp] theorem ev_isNot (d e) : gIsNot d e M = (gIs d e M).map (! ·) := rfl
@[simp] theorem ev_lent (xs : List D) : gLen [.tup xs] M = some (.int xs.length) := rfl
@[simp] theorem ev_lenl (xs : List D) : gLen [.lst xs] M = some (.int xs.length) := rfl
@[simp] theorem ev_lenk (xs : List D) : gLen [.kst xs] M = some (.int xs.length) := rfl
@[simp] theorem ev_lenr (n : Nat) : gLen [.ref n] M = (lsOf (.ref n) M).map fun xs => .int xs.length := rfl
@[simp] theorem ev_lsr (n : Nat) : lsOf (.ref n) M = match M[n]? with | some (.lst xs) => some xs | _ => none := rfl
@[simp] theorem ev_lsl (xs : List D) : lsOf (.lst xs) M = some xs := rfl
@[simp] theorem ev_lsk (xs : List D) : lsOf (.kst xs) M = some xs := rfl
@[simp] theorem ev_sqr (n : Nat) : sqOf (.ref n) M = lsOf (.ref n) M := rfl
@[simp] theorem ev_sql (xs : List D) : sqOf (.lst xs) M = some xs := rfl
@[simp] theorem ev_sqk (xs : List D) : sqOf (.kst xs) M = some xs := rfl
@[simp] theorem ev_sqt (xs : List D) : sqOf (.tup xs) M = some xs := rfl
@[simp] theorem ev_ixt (xs : List D) : gIx (.tup xs) (.int i) M = atI xs i := rfl
@[simp] theorem ev_ixl (xs : List D) : gIx (.lst xs) (.int i) M = atI xs i := rfl
@[simp] theorem ev_ixk (xs : List D) : gIx (.kst xs) (.int i) M = atI xs i := rfl
@[simp] theorem ev_ixr (n : Nat) : gIx (.ref n) (.int i) M = (lsOf (.ref n) M).bind fun xs => atI xs i := rfl
@[simp] theorem ev_tyOk (d : D) : tyOk "list" d M = (lsOf d M).isSome := rfl
@[simp] theorem ev_ml (n : Nat) : mlOf (.ref n) M = match M[n]? with | some (.lst xs) => some (n, xs) | _ => none := rfl
@[simp] theorem ev_append (x d : D) : gAppend x [d] M = (mlOf x M).bind fun l => if l.2.length < LINE then some (.non, M.set l.1 (.lst (l.2 ++ [d]))) else none := rfl
@[simp] theorem ev_pop (x : D) : gPop x [] M = (mlOf x M).bind fun l => (l.2[l.2.length - 1]?).bind fun d => some (d, M.set l.1 (.lst l.2.dropLast)) := rfl
@[simp] theorem ev_reverse (x : D) : gReverse x [] M = (mlOf x M).bind fun l => some (.non, M.set l.1 (.lst l.2.reverse)) := rfl
@[simp] theorem ev_chk0 (xs) : chk none xs M = true := rfl
@[simp] theorem ev_list (d : D) : gList [d] M = sqOf d M := rfl
@[simp] theorem ev_tuple (d : D) : gTuple [d] M = (sqOf d M).map .tup := rfl
theorem atI_eq {α} (xs : List α) : L2.atI xs i = (L2.ixN xs.length i).bind fun n => xs[n]? := rfl
end
theorem at_nat {α} {xs : List α} {n : Nat} {d : α} (h : xs[n]? = some d) : L2.atI xs (n : Int) = some d := by
  have hl := (List.getElem?_eq_some_iff.mp h).1
  rw [atI_eq]
  unfold L2.ixN
  rw [if_pos (by omega), if_pos (by omega)]
  exact h
@[simp] theorem atI_0 {α} (x : α) (xs) : L2.atI (x :: xs) 0 = some x := at_nat (n := 0) rfl
@[simp] theorem atI_1 {α} (x y : α) (xs) : L2.atI (x :: y :: xs) 1 = some y := at_nat (n := 1) rfl
@[simp] theorem atI_2 {α} (x y z : α) (xs) : L2.atI (x :: y :: z :: xs) 2 = some z := at_nat (n := 2) rfl
theorem atI_int {α} {xs : List α} {i : Int} {n : Nat} {d : α} (hi : i = n) (h : xs[n]? = some d) : L2.atI xs i = some d := by subst hi; exact at_nat h
/-- a list of iL -/
def iL (xs : List Int) : List D := xs.map .int
@[simp] theorem iL_len (xs : List Int) : (iL xs).length = xs.length := by simp [iL]
@[simp] theorem iL_nil : iL [] = [] := rfl
theorem iL_cons (x xs) : iL (x :: xs) = .int x :: iL xs := rfl
theorem iL_app (xs ys) : iL xs ++ iL ys = iL (xs ++ ys) := by simp [iL]
theorem iL_at {xs : List Int} {n : Nat} : (iL xs)[n]? = (xs[n]?).map .int := by simp [iL]
theorem nrs_iL : ∀ xs : List Int, D.nrs (iL xs) = true
  | [] => rfl
  | x :: xs => by
    show (D.nr (.int x) && D.nrs (iL xs)) = true
    rw [nrs_iL xs]; rfl
theorem nls_iL : ∀ xs : List Int, D.nls (iL xs) = true
  | [] => rfl
  | x :: xs => by
    show (D.nl (.int x) && D.nls (iL xs)) = true
    rw [nls_iL xs]; rfl
theorem beqs_iL : ∀ xs : List Int, D.beqs (iL xs) (iL xs) = true
  | [] => rfl
  | x :: xs => by
    show (D.beq (.int x) (.int x) && D.beqs (iL xs) (iL xs)) = true
    rw [beqs_iL xs]; simp [D.beq]
theorem line_le {n : Nat} (h : n ≤ 16777216) : n ≤ LINE := h
@[simp] theorem line_1 : (1 ≤ LINE) = True := by simp [LINE]
@[simp] theorem line_2 : (2 ≤ LINE) = True := by simp [LINE]
@[simp] theorem line_3 : (3 ≤ LINE) = True := by simp [LINE]
@[simp] theorem line_4 : (4 ≤ LINE) = True := by simp [LINE]
@[simp] theorem line_5 : (5 ≤ LINE) = True := by simp [LINE]
@[simp] theorem line_6 : (6 ≤ LINE) = True := by simp [LINE]
@[simp] theorem line_7 : (7 ≤ LINE) = True := by simp [LINE]
@[simp] theorem line_8 : (8 ≤ LINE) = True := by simp [LINE]
@[simp] theorem line_9 : (9 ≤ LINE) = True := by simp [LINE]
@[simp] theorem line_10 : (10 ≤ LINE) = True := by simp [LINE]
section
variable (M : Mem) (xs : List D)
@[simp] theorem ap_int (i) : argP M (.int i) = some (.int i) := rfl
@[simp] theorem ap_bl (i) : argP M (.bl i) = some (.bl i) := rfl
@[simp] theorem ap_non : argP M .non = some .non := rfl
@[simp] theorem ap_tup : argP M (.tup xs) = if D.nrs xs = true then some (.tup xs) else none := rfl
@[simp] theorem ap_lst : argP M (.lst xs) = if D.nrs xs = true then some (.lst xs) else none := rfl
@[simp] theorem ap_kst : argP M (.kst xs) = if D.nrs xs = true then some (.kst xs) else none := rfl
@[simp] theorem ir_int (i) : D.isRef (.int i) = false := rfl
@[simp] theorem ir_bl (i) : D.isRef (.bl i) = false := rfl
@[simp] theorem ir_non : D.isRef .non = false := rfl
@[simp] theorem ir_tup : D.isRef (.tup xs) = false := rfl
@[simp] theorem ir_lst : D.isRef (.lst xs) = false := rfl
@[simp] theorem ir_kst : D.isRef (.kst xs) = false := rfl
@[simp] theorem ir_ref (n) : D.isRef (.ref n) = true := rfl
end
@[simp] theorem ev_sum (d : D) (M : Mem) : gSum [d] M = (lsOf d M).bind fun xs => (intsOf xs).map fun ns => .int ns.sum := rfl
@[simp] theorem ev_sumA (d : D) (M : Mem) : gSumA [d] M = (sqOf d M).bind fun xs => (intsOf xs).map fun ns => .int ns.sum := rfl
@[simp] theorem ev_iadd (i j : Int) (M : Mem) : gIAdd (.int i) (.int j) M = some (.int (i + j), M) := rfl
@[simp] theorem ev_iaddA (i j : Int) (M : Mem) : gIAddA (.int i) (.int j) M = some (.int (i + j), M) := rfl
theorem ev_iaddT (a b : List D) (M : Mem) (h : a.length + b.length ≤ 10000) : gIAddA (.tup a) (.tup b) M = some (.tup (a ++ b), M) := by
  show (if a.length + b.length ≤ LINE then some (D.tup (a ++ b), M) else none) = _
  rw [if_pos (by show _ ≤ 16777216; omega)]
@[simp] theorem intsOf_iL : ∀ ns : List Int, intsOf (iL ns) = some ns
  | [] => rfl
  | n :: ns => by
    show (intsOf (iL ns)).map (n :: ·) = _
    rw [intsOf_iL ns]; rfl
/-! ### loops -/
theorem loop_inv {c : Mem → Bool} {step : D → FS} {xs : List D} (I : Nat → Rho → Mem → Prop) (hc : ∀ k ρ M, I k ρ M → c M = true)
    (hs : ∀ k d ρ M, xs[k]? = some d → I k ρ M → ∃ ρ' M', step d ρ M = some (.nx ρ', M') ∧ I (k + 1) ρ' M') {ρ : Rho} {M : Mem} (h0 : I 0 ρ M) : ∃ ρ' M', sLoop c step xs ρ M = some (.nx ρ', M') ∧ I xs.length ρ' M' := by
  have main : ∀ (ys : List D) (k : Nat) (ρ : Rho) (M : Mem), xs.drop k = ys → k ≤ xs.length → I k ρ M → ∃ ρ' M', sLoop c step ys ρ M = some (.nx ρ', M') ∧ I xs.length ρ' M' := by
    intro ys
    induction ys with
    | nil =>
      intro k ρ M e hk h
      have : k = xs.length := by
        have := congrArg List.length e
        simp at this; omega
      subst this
      exact ⟨ρ, M, by rw [sLoop, if_pos (hc _ _ _ h)], h⟩
    | cons d ys ih =>
      intro k ρ M e hk h
      have hd : xs[k]? = some d := by
        have h0 : (xs.drop k)[0]? = some d := by rw [e]; rfl
        rw [List.getElem?_drop] at h0
        simpa using h0
      obtain ⟨ρ', M', e1, h1⟩ := hs k d ρ M hd h
      have e2 : xs.drop (k + 1) = ys := by rw [← List.drop_drop, e]; rfl
      obtain ⟨ρ2, M2, e3, h3⟩ := ih (k + 1) ρ' M' e2 (by have := (List.getElem?_eq_some_iff.mp hd).1; omega) h1
      exact ⟨ρ2, M2, by rw [sLoop, if_pos (hc _ _ _ h), e1]; exact e3, h3⟩
  exact main xs 0 ρ M rfl (Nat.zero_le _) h0
theorem while_inv {fc : FT} {fb : FS} (I : Rho → Mem → Prop) (P : Rho → Mem → Prop) (μ : Rho → Mem → Nat)
    (hs : ∀ ρ M, I ρ M → (fc ρ M = some (false, M) ∧ P ρ M) ∨ (fc ρ M = some (true, M) ∧ ∃ ρ' M', fb ρ M = some (.nx ρ', M') ∧ I ρ' M' ∧ μ ρ' M' < μ ρ M)) : ∀ (n : Nat) (ρ : Rho) (M : Mem), I ρ M → μ ρ M < n → ∃ ρ' M', sWhileN fc fb n ρ M = some (.nx ρ', M') ∧ P ρ' M'
  | 0, _, _, _, h => absurd h (Nat.not_lt_zero _)
  | n + 1, ρ, M, hI, h => by
    rcases hs ρ M hI with ⟨e, hp⟩ | ⟨e, ρ', M', e1, h1, h2⟩
    · exact ⟨ρ, M, by rw [sWhileN, e]; rfl, hp⟩
    · obtain ⟨ρ2, M2, e3, h3⟩ := while_inv I P μ hs n ρ' M' h1 (by omega)
      exact ⟨ρ2, M2, by rw [sWhileN, e]; show ((fb ρ M).bind _) = _; rw [e1]; exact e3, h3⟩
theorem fuel_big (ρ : Rho) (M : Mem) : 1000000 ≤ fuel ρ M := by
  unfold fuel
  have : ∀ (l : Rho) (n : Nat), n ≤ l.foldl (fun n d => n + match d with | some (.int i) => i.natAbs | _ => 0) n := by
    intro l
    induction l with
    | nil => intro n; exact Nat.le_refl n
    | cons d l ih => intro n; exact Nat.le_trans (Nat.le_add_right _ _) (ih _)
  exact this ρ 1000000
theorem fuel_at {ρ : Rho} {M : Mem} {n : Nat} {i : Int} (h : ρ[n]? = some (some (.int i))) : 1000000 + i.natAbs ≤ fuel ρ M := by
  unfold fuel
  have mono : ∀ (l : Rho) (n : Nat), n ≤ l.foldl (fun n d => n + match d with | some (.int i) => i.natAbs | _ => 0) n := by
    intro l
    induction l with
    | nil => intro n; exact Nat.le_refl n
    | cons d l ih => intro n; exact Nat.le_trans (Nat.le_add_right _ _) (ih _)
  have : ∀ (l : Rho) (n m : Nat), l[n]? = some (some (.int i)) → m + i.natAbs ≤ l.foldl (fun n d => n + match d with | some (.int i) => i.natAbs | _ => 0) m := by
    intro l
    induction l with
    | nil => intro n m h; simp at h
    | cons d l ih =>
      intro n m h
      cases n with
      | zero => simp at h; subst h; exact mono l _
      | succ n => exact Nat.le_trans (Nat.add_le_add_right (Nat.le_add_right _ _) _) (ih n _ (by simpa using h))
  exact this ρ n _ h
theorem rgD_at {lo : Int} {n k : Nat} {d : D} (h : (rgD lo n)[k]? = some d) : k < n ∧ d = .int (lo + k) := by
  unfold rgD at h
  rw [List.getElem?_map] at h
  by_cases hk : k < n
  · rw [List.getElem?_range hk] at h
    simp at h
    exact ⟨hk, h.symm⟩
  · rw [List.getElem?_eq_none (by simp; omega)] at h
    simp at h
@[simp] theorem rgD_len (lo : Int) (n : Nat) : (rgD lo n).length = n := by simp [rgD]
/-! ### sides -/
theorem okMul_l {i j : Int} (h : i.natAbs < 18446744073709551616) : okMul i j = true := by simp [okMul, h]
theorem okMul_r {i j : Int} (h : j.natAbs < 18446744073709551616) : okMul i j = true := by simp [okMul, h]
theorem log2_lt_of {n k : Nat} (h : n < 2 ^ k) (hk : 0 < k) : n.log2 < k := by
  by_cases h0 : n = 0
  · subst h0; simpa using hk
  · exact (Nat.log2_lt h0).mpr h
theorem okMul_big {i j : Int} (hi : i.natAbs < 2 ^ 400000) (hj : j.natAbs < 2 ^ 400000) : okMul i j = true := by
  have h1 := log2_lt_of hi (by decide)
  have h2 := log2_lt_of hj (by decide)
  simp [okMul]; right; right; omega
theorem okDiv_of {j : Int} (h0 : j ≠ 0) (h : j.natAbs < 2 ^ 9000) : okDiv j = true := by
  have h1 := log2_lt_of h (by decide)
  simp [okDiv, h0, h1]
theorem okR_of {i j : Int} (h1 : -1000000 ≤ i) (h2 : j ≤ 10000000) (h3 : i ≤ 10000000) (h4 : -1000000 ≤ j) : okR i j = true := by
  unfold okR
  rw [Bool.and_eq_true, Bool.and_eq_true]
  exact ⟨Nat.ble_eq_true_of_le (by omega), Nat.ble_eq_true_of_le (by omega), Nat.ble_eq_true_of_le (by omega)⟩
end PF
namespace TL
open PySem PySem.Spec PyProof.Rows L2 PF
/-! ### typed things as data -/
structure Ec (A : Type) where
  e : A → D
  nr : ∀ a, (e a).nr = true
variable {A B C A' B' C' E1 E2 E3 : Type}
theorem nrs_map {f : A → D} (h : ∀ a, (f a).nr = true) : ∀ xs : List A, D.nrs (xs.map f) = true
  | [] => rfl
  | x :: xs => by
    show ((f x).nr && D.nrs (xs.map f)) = true
    rw [h x, nrs_map h xs]; rfl
def eI : Ec Int := ⟨.int, fun _ => rfl⟩
def eB : Ec Bool := ⟨.bl, fun _ => rfl⟩
def eS : Ec Str := ⟨.str, fun _ => rfl⟩
def eN : Ec Unit := ⟨fun _ => .non, fun _ => rfl⟩
def eO (c : Ec A) : Ec (Option A) := ⟨fun o => match o with | none => .non | some a => c.e a, fun o => match o with | none => rfl | some a => c.nr a⟩
theorem nr_tup {xs : List D} (h : D.nrs xs = true) : (D.tup xs).nr = true := by rw [D.nr]; exact h
theorem nr_lst {xs : List D} (h : D.nrs xs = true) : (D.lst xs).nr = true := by rw [D.nr]; exact h
theorem nr_kst {xs : List D} (h : D.nrs xs = true) : (D.kst xs).nr = true := by rw [D.nr]; exact h
theorem nrs_c {x : D} {xs : List D} (h : x.nr = true) (h' : D.nrs xs = true) : D.nrs (x :: xs) = true := by rw [D.nrs, h, h']; rfl
theorem nrs_n : D.nrs [] = true := rfl
def e0 : Ec Unit := ⟨fun _ => .tup [], fun _ => nr_tup nrs_n⟩
def e1 (a : Ec A) : Ec A := ⟨fun x => .tup [a.e x], fun x => nr_tup (nrs_c (a.nr _) nrs_n)⟩
def e2 {A1 A2 : Type} (a1 : Ec A1) (a2 : Ec A2) : Ec (A1 × A2) := ⟨fun p => .tup [a1.e p.1, a2.e p.2], fun p => nr_tup (nrs_c (a1.nr _) (nrs_c (a2.nr _) nrs_n))⟩
def e3 {A1 A2 A3 : Type} (a1 : Ec A1) (a2 : Ec A2) (a3 : Ec A3) : Ec (A1 × A2 × A3) := ⟨fun p => .tup [a1.e p.1, a2.e p.2.1, a3.e p.2.2], fun p => nr_tup (nrs_c (a1.nr _) (nrs_c (a2.nr _) (nrs_c (a3.nr _) nrs_n)))⟩
def e4 {A1 A2 A3 A4 : Type} (a1 : Ec A1) (a2 : Ec A2) (a3 : Ec A3) (a4 : Ec A4) : Ec (A1 × A2 × A3 × A4) := ⟨fun p => .tup [a1.e p.1, a2.e p.2.1, a3.e p.2.2.1, a4.e p.2.2.2], fun p => nr_tup (nrs_c (a1.nr _) (nrs_c (a2.nr _) (nrs_c (a3.nr _) (nrs_c (a4.nr _) nrs_n))))⟩
def e5 {A1 A2 A3 A4 A5 : Type} (a1 : Ec A1) (a2 : Ec A2) (a3 : Ec A3) (a4 : Ec A4) (a5 : Ec A5) : Ec (A1 × A2 × A3 × A4 × A5) := ⟨fun p => .tup [a1.e p.1, a2.e p.2.1, a3.e p.2.2.1, a4.e p.2.2.2.1, a5.e p.2.2.2.2], fun p => nr_tup (nrs_c (a1.nr _) (nrs_c (a2.nr _) (nrs_c (a3.nr _) (nrs_c (a4.nr _) (nrs_c (a5.nr _) nrs_n)))))⟩
def e6 {A1 A2 A3 A4 A5 A6 : Type} (a1 : Ec A1) (a2 : Ec A2) (a3 : Ec A3) (a4 : Ec A4) (a5 : Ec A5) (a6 : Ec A6) : Ec (A1 × A2 × A3 × A4 × A5 × A6) := ⟨fun p => .tup [a1.e p.1, a2.e p.2.1, a3.e p.2.2.1, a4.e p.2.2.2.1, a5.e p.2.2.2.2.1, a6.e p.2.2.2.2.2], fun p => nr_tup (nrs_c (a1.nr _) (nrs_c (a2.nr _) (nrs_c (a3.nr _) (nrs_c (a4.nr _) (nrs_c (a5.nr _) (nrs_c (a6.nr _) nrs_n))))))⟩
def e7 {A1 A2 A3 A4 A5 A6 A7 : Type} (a1 : Ec A1) (a2 : Ec A2) (a3 : Ec A3) (a4 : Ec A4) (a5 : Ec A5) (a6 : Ec A6) (a7 : Ec A7) : Ec (A1 × A2 × A3 × A4 × A5 × A6 × A7) := ⟨fun p => .tup [a1.e p.1, a2.e p.2.1, a3.e p.2.2.1, a4.e p.2.2.2.1, a5.e p.2.2.2.2.1, a6.e p.2.2.2.2.2.1, a7.e p.2.2.2.2.2.2], fun p => nr_tup (nrs_c (a1.nr _) (nrs_c (a2.nr _) (nrs_c (a3.nr _) (nrs_c (a4.nr _) (nrs_c (a5.nr _) (nrs_c (a6.nr _) (nrs_c (a7.nr _) nrs_n)))))))⟩
def eV (c : Ec A) : Ec (List A) := ⟨fun xs => .tup (xs.map c.e), fun xs => nr_tup (nrs_map c.nr xs)⟩
def eL (c : Ec A) : Ec (List A) := ⟨fun xs => .lst (xs.map c.e), fun xs => nr_lst (nrs_map c.nr xs)⟩
def eK (c : Ec A) : Ec (List A) := ⟨fun xs => .kst (xs.map c.e), fun xs => nr_kst (nrs_map c.nr xs)⟩
/-- a changeable list of the state -/
def cl (c : Ec A) (xs : List A) : MO := .lst (xs.map c.e)
/-- a cell without references -/
class CNr (mo : MO) : Prop where
  nr : mo.nr = true
instance (c : Ec A) (xs : List A) : CNr (cl c xs) := ⟨nrs_map c.nr xs⟩
theorem ir_of {d : D} (h : d.nr = true) : d.isRef = false := by cases d <;> first | rfl | (rw [D.nr] at h; cases h)
theorem Ec.ir (c : Ec A) (a : A) : (c.e a).isRef = false := ir_of (c.nr a)
theorem argP_nr {d : D} (h : d.nr = true) (M : Mem) : argP M d = some d := by
  cases d with
  | ref n => cases h
  | non => rfl
  | bl _ => rfl
  | int _ => rfl
  | str _ => rfl
  | tup _ => exact if_pos h
  | lst _ => exact if_pos h
  | kst _ => exact if_pos h
  | dct _ _ => exact if_pos h
/-! ### equality, order, no lists within -/
class Eqv (k : outParam Nat) (c : Ec A) [DecidableEq A] : Prop where
  dp : ∀ n, k ≤ n → ∀ a, (c.e a).dp n = true
  eq : ∀ a b, PyData.eqv (c.e a).py (c.e b).py = decide (a = b)
theorem dps_map {n : Nat} {f : A → D} (h : ∀ a, (f a).dp n = true) : ∀ xs : List A, D.dps n (xs.map f) = true
  | [] => rfl
  | x :: xs => by
    show ((f x).dp n && D.dps n (xs.map f)) = true
    rw [h x, dps_map h xs]; rfl
theorem dp_tup {n : Nat} {xs : List D} (h0 : 0 < n) (h : D.dps (n - 1) xs = true) : (D.tup xs).dp n = true := by rw [D.dp, h]; simp [h0]
theorem dp_lst {n : Nat} {xs : List D} (h0 : 0 < n) (h : D.dps (n - 1) xs = true) : (D.lst xs).dp n = true := by rw [D.dp, h]; simp [h0]
theorem dps_c {n : Nat} {x : D} {xs : List D} (h : x.dp n = true) (h' : D.dps n xs = true) : D.dps n (x :: xs) = true := by rw [D.dps, h, h']; rfl
theorem dps_n {n : Nat} : D.dps n [] = true := rfl
theorem pysm (xs : List D) : D.pys xs = xs.map D.py := by
  induction xs with
  | nil => rw [D.pys]; rfl
  | cons x xs ih => rw [D.pys, ih]; rfl
theorem eqvc (x y : PyData) (xs ys : List PyData) : PyData.eqvAll (x :: xs) (y :: ys) = (PyData.eqv x y && PyData.eqvAll xs ys) := by rw [PyData.eqvAll]
theorem eqvn : PyData.eqvAll [] [] = true := by rw [PyData.eqvAll]
theorem eqvcn (x : PyData) (xs : List PyData) : PyData.eqvAll (x :: xs) [] = false := by rw [PyData.eqvAll] <;> simp
theorem eqvnc (x : PyData) (xs : List PyData) : PyData.eqvAll [] (x :: xs) = false := by rw [PyData.eqvAll] <;> simp
theorem eqv_map [DecidableEq A] {f : A → D} (h : ∀ a b, PyData.eqv (f a).py (f b).py = decide (a = b)) : ∀ xs ys : List A, PyData.eqvAll (D.pys (xs.map f)) (D.pys (ys.map f)) = decide (xs = ys)
  | [], [] => by rw [List.map_nil, D.pys, eqvn]; rfl
  | [], y :: ys => by rw [List.map_nil, List.map_cons, D.pys, D.pys, eqvnc]; rfl
  | x :: xs, [] => by rw [List.map_nil, List.map_cons, D.pys, D.pys, eqvcn]; rfl
  | x :: xs, y :: ys => by
    rw [List.map_cons, List.map_cons, D.pys, D.pys, eqvc, h x y, eqv_map h xs ys]
    by_cases e1 : x = y <;> by_cases e2 : xs = ys <;> simp [e1, e2]
theorem eqv_tt (xs ys : List D) : PyData.eqv (D.tup xs).py (D.tup ys).py = PyData.eqvAll (D.pys xs) (D.pys ys) := by rw [D.py, D.py, PyData.eqv]
theorem eqv_ll (xs ys : List D) : PyData.eqv (D.lst xs).py (D.lst ys).py = PyData.eqvAll (D.pys xs) (D.pys ys) := by rw [D.py, D.py, PyData.eqv]
instance q_I : Eqv 0 eI := ⟨fun n _ a => rfl, fun a b => by show PyData.eqv (.int a) (.int b) = _; simp [PyData.eqv]; by_cases h : a = b <;> simp [h]⟩
instance q_B : Eqv 0 eB := ⟨fun n _ a => rfl, fun a b => by cases a <;> cases b <;> rfl⟩
instance q_N : Eqv 0 eN := ⟨fun n _ a => rfl, fun a b => by cases a; cases b; simp [eN, D.py, PyData.eqv]⟩
class NotN (c : Ec A) : Prop where
  nn : ∀ a, isNn (c.e a) = false
instance n_I : NotN eI := ⟨fun _ => rfl⟩
instance n_B : NotN eB := ⟨fun _ => rfl⟩
instance n_S : NotN eS := ⟨fun _ => rfl⟩
instance n_0 : NotN e0 := ⟨fun _ => rfl⟩
instance n_1 {a : Ec A} : NotN (e1 a) := ⟨fun _ => rfl⟩
section
variable {A1 A2 A3 A4 A5 A6 A7 : Type} {a1 : Ec A1} {a2 : Ec A2} {a3 : Ec A3} {a4 : Ec A4} {a5 : Ec A5} {a6 : Ec A6} {a7 : Ec A7}
instance n_2 : NotN (e2 a1 a2) := ⟨fun _ => rfl⟩
instance n_3 : NotN (e3 a1 a2 a3) := ⟨fun _ => rfl⟩
instance n_4 : NotN (e4 a1 a2 a3 a4) := ⟨fun _ => rfl⟩
instance n_5 : NotN (e5 a1 a2 a3 a4 a5) := ⟨fun _ => rfl⟩
instance n_6 : NotN (e6 a1 a2 a3 a4 a5 a6) := ⟨fun _ => rfl⟩
instance n_7 : NotN (e7 a1 a2 a3 a4 a5 a6 a7) := ⟨fun _ => rfl⟩
end
instance n_V {c : Ec A} : NotN (eV c) := ⟨fun _ => rfl⟩
instance n_L {c : Ec A} : NotN (eL c) := ⟨fun _ => rfl⟩
theorem eqv_nn {d : D} (h : isNn d = false) (hd : d.dp 60 = true) : PyData.eqv PyData.none d.py = false ∧ PyData.eqv d.py PyData.none = false := by
  cases d with
  | non => cases h
  | ref _ => rw [D.dp] at hd; cases hd
  | _ => constructor <;> simp [D.py, PyData.eqv]
instance q_O {k : Nat} {c : Ec A} [DecidableEq A] [q : Eqv k c] [n : NotN c] : Eqv (k + 0) (eO c) where
  dp := fun m hm o => match o with | none => rfl | some a => q.dp m hm a
  eq := fun a b => by
    have hz : ∀ d : D, isNn d = false → d.isRef = false → PyData.eqv PyData.none d.py = false ∧ PyData.eqv d.py PyData.none = false := fun d h hr => by
      cases d with
      | non => cases h
      | ref _ => cases hr
      | _ => constructor <;> simp [D.py, PyData.eqv]
    cases a with
    | none =>
      cases b with
      | none => simp [eO, D.py, PyData.eqv]
      | some b => show PyData.eqv PyData.none (c.e b).py = _; rw [(hz _ (n.nn b) (c.ir b)).1]; rfl
    | some a =>
      cases b with
      | none => show PyData.eqv (c.e a).py PyData.none = _; rw [(hz _ (n.nn a) (c.ir a)).2]; rfl
      | some b => show PyData.eqv (c.e a).py (c.e b).py = _; rw [q.eq]; by_cases h : a = b <;> simp [h]
instance q_V {k : Nat} {c : Ec A} [DecidableEq A] [q : Eqv k c] : Eqv (k + 1) (eV c) where
  dp := fun m hm xs => dp_tup (by omega) (dps_map (q.dp (m - 1) (by omega)) xs)
  eq := fun a b => by
    show PyData.eqv (D.tup _).py (D.tup _).py = _
    rw [eqv_tt, eqv_map q.eq]
instance q_L {k : Nat} {c : Ec A} [DecidableEq A] [q : Eqv k c] : Eqv (k + 1) (eL c) where
  dp := fun m hm xs => dp_lst (by omega) (dps_map (q.dp (m - 1) (by omega)) xs)
  eq := fun a b => by
    show PyData.eqv (D.lst _).py (D.lst _).py = _
    rw [eqv_ll, eqv_map q.eq]
instance q_0 : Eqv 1 e0 := ⟨fun n h a => dp_tup (by omega) dps_n, fun a b => by cases a; cases b; show PyData.eqv (D.tup _).py (D.tup _).py = _; rw [eqv_tt, D.pys, eqvn]; rfl⟩
instance q_1 {k : Nat} {c : Ec A} [DecidableEq A] [q : Eqv k c] : Eqv (k + 1) (e1 c) where
  dp := fun m hm a => dp_tup (by omega) (dps_c (q.dp _ (by omega) a) dps_n)
  eq := fun a b => by
    show PyData.eqv (D.tup _).py (D.tup _).py = _
    simp only [eqv_tt, D.pys, eqvc, eqvn, q.eq, Bool.and_true]
section
variable {A1 A2 A3 A4 A5 A6 A7 : Type} {a1 : Ec A1} {a2 : Ec A2} {a3 : Ec A3} {a4 : Ec A4} {a5 : Ec A5} {a6 : Ec A6} {a7 : Ec A7} {k1 k2 k3 k4 k5 k6 k7 : Nat} [DecidableEq A1] [DecidableEq A2] [DecidableEq A3] [DecidableEq A4] [DecidableEq A5] [DecidableEq A6] [DecidableEq A7]
  [q1 : Eqv k1 a1] [q2 : Eqv k2 a2] [q3 : Eqv k3 a3] [q4 : Eqv k4 a4] [q5 : Eqv k5 a5] [q6 : Eqv k6 a6] [q7 : Eqv k7 a7]
instance q_2 : Eqv (max k1 k2 + 1) (e2 a1 a2) where
  dp := fun m hm a => dp_tup (by omega) (dps_c (q1.dp _ (by omega) _) (dps_c (q2.dp _ (by omega) _) dps_n))
  eq := fun a b => by
    obtain ⟨x1, x2⟩ := a; obtain ⟨y1, y2⟩ := b
    show PyData.eqv (D.tup _).py (D.tup _).py = _
    simp only [eqv_tt, D.pys, eqvc, eqvn, q1.eq, q2.eq, Bool.and_true, Prod.mk.injEq, Bool.decide_and]
instance q_3 : Eqv (max (max k1 k2) k3 + 1) (e3 a1 a2 a3) where
  dp := fun m hm a => dp_tup (by omega) (dps_c (q1.dp _ (by omega) _) (dps_c (q2.dp _ (by omega) _) (dps_c (q3.dp _ (by omega) _) dps_n)))
  eq := fun a b => by
    obtain ⟨x1, x2, x3⟩ := a; obtain ⟨y1, y2, y3⟩ := b
    show PyData.eqv (D.tup _).py (D.tup _).py = _
    simp only [eqv_tt, D.pys, eqvc, eqvn, q1.eq, q2.eq, q3.eq, Bool.and_true, Prod.mk.injEq, Bool.decide_and]
instance q_4 : Eqv (max (max (max k1 k2) k3) k4 + 1) (e4 a1 a2 a3 a4) where
  dp := fun m hm a => dp_tup (by omega) (dps_c (q1.dp _ (by omega) _) (dps_c (q2.dp _ (by omega) _) (dps_c (q3.dp _ (by omega) _) (dps_c (q4.dp _ (by omega) _) dps_n))))
  eq := fun a b => by
    obtain ⟨x1, x2, x3, x4⟩ := a; obtain ⟨y1, y2, y3, y4⟩ := b
    show PyData.eqv (D.tup _).py (D.tup _).py = _
    simp only [eqv_tt, D.pys, eqvc, eqvn, q1.eq, q2.eq, q3.eq, q4.eq, Bool.and_true, Prod.mk.injEq, Bool.decide_and]
instance q_5 : Eqv (max (max (max (max k1 k2) k3) k4) k5 + 1) (e5 a1 a2 a3 a4 a5) where
  dp := fun m hm a => dp_tup (by omega) (dps_c (q1.dp _ (by omega) _) (dps_c (q2.dp _ (by omega) _) (dps_c (q3.dp _ (by omega) _) (dps_c (q4.dp _ (by omega) _) (dps_c (q5.dp _ (by omega) _) dps_n)))))
  eq := fun a b => by
    obtain ⟨x1, x2, x3, x4, x5⟩ := a; obtain ⟨y1, y2, y3, y4, y5⟩ := b
    show PyData.eqv (D.tup _).py (D.tup _).py = _
    simp only [eqv_tt, D.pys, eqvc, eqvn, q1.eq, q2.eq, q3.eq, q4.eq, q5.eq, Bool.and_true, Prod.mk.injEq, Bool.decide_and]
instance q_6 : Eqv (max (max (max (max (max k1 k2) k3) k4) k5) k6 + 1) (e6 a1 a2 a3 a4 a5 a6) where
  dp := fun m hm a => dp_tup (by omega) (dps_c (q1.dp _ (by omega) _) (dps_c (q2.dp _ (by omega) _) (dps_c (q3.dp _ (by omega) _) (dps_c (q4.dp _ (by omega) _) (dps_c (q5.dp _ (by omega) _) (dps_c (q6.dp _ (by omega) _) dps_n))))))
  eq := fun a b => by
    obtain ⟨x1, x2, x3, x4, x5, x6⟩ := a; obtain ⟨y1, y2, y3, y4, y5, y6⟩ := b
    show PyData.eqv (D.tup _).py (D.tup _).py = _
    simp only [eqv_tt, D.pys, eqvc, eqvn, q1.eq, q2.eq, q3.eq, q4.eq, q5.eq, q6.eq, Bool.and_true, Prod.mk.injEq, Bool.decide_and]
end
end TL
namespace TL
open PySem PySem.Spec PyProof.Rows L2 PF
variable {A B C A' B' C' : Type}
/-! ### order -/
class Ord (c : Ec A) (lt : outParam (A → A → Bool)) : Prop where
  al : ∀ a b, PySem.W.alike (c.e a).py (c.e b).py = true
  dl : ∀ a b, PySem.W.dataLt (c.e a).py (c.e b).py = lt a b
  nn : ∀ a, isNn (c.e a) = false
  nl : ∀ a, (c.e a).nl = true
instance o_I : Ord eI (fun a b => decide (a < b)) := ⟨fun _ _ => by simp [eI, D.py, PySem.W.alike], fun a b => PySem.W.dataLt_int a b, fun _ => rfl, fun _ => rfl⟩
def ltB (a b : Bool) : Bool := !a && b
instance o_B : Ord eB ltB := ⟨fun _ _ => by simp [eB, D.py, PySem.W.alike], fun a b => by show PySem.W.dataLt (.bool a) (.bool b) = _; rw [PySem.W.dataLt_bool]; cases a <;> cases b <;> rfl, fun _ => rfl, fun _ => rfl⟩
/-- tuples, place by place -/
def ltTok (xs ys : List D) : Bool := PyProof.Rows.lexLt itemOrd (PySem.W.keyToksAll (D.pys xs)) (PySem.W.keyToksAll (D.pys ys))
theorem dl_tt (xs ys : List D) : PySem.W.dataLt (D.tup xs).py (D.tup ys).py = ltTok xs ys := by rw [D.py, D.py, PySem.W.dataLt_tuple]; rfl
theorem dl_ll (xs ys : List D) : PySem.W.dataLt (D.lst xs).py (D.lst ys).py = ltTok xs ys := by rw [D.py, D.py, PySem.W.dataLt_list]; rfl
theorem al_tt (xs ys : List D) : PySem.W.alike (D.tup xs).py (D.tup ys).py = PySem.W.alikeAll (D.pys xs) (D.pys ys) := by rw [D.py, D.py, PySem.W.alike]
theorem al_ll (xs ys : List D) : PySem.W.alike (D.lst xs).py (D.lst ys).py = PySem.W.alikeAll (D.pys xs) (D.pys ys) := by rw [D.py, D.py, PySem.W.alike]
theorem al_c {x y : D} {xs ys : List D} (h : PySem.W.alike x.py y.py = true) (h' : PySem.W.alikeAll (D.pys xs) (D.pys ys) = true) : PySem.W.alikeAll (D.pys (x :: xs)) (D.pys (y :: ys)) = true := by rw [D.pys, D.pys, PySem.W.alikeAll, h, h']; rfl
theorem al_n (ys : List D) : PySem.W.alikeAll (D.pys []) (D.pys ys) = true := by rw [D.pys]; unfold PySem.W.alikeAll; rfl
theorem ltTok_c {x y : D} {xs ys : List D} (h : PySem.W.alike x.py y.py = true) : ltTok (x :: xs) (y :: ys) = if PyData.eqv x.py y.py = true then ltTok xs ys else PySem.W.dataLt x.py y.py := by
  unfold ltTok
  rw [D.pys, D.pys, PySem.W.dataLt_cons h]
theorem ltTok_n : ltTok [] [] = false := by unfold ltTok; exact PyProof.Rows.lex_irrefl _
theorem nl_tup {xs : List D} (h : D.nls xs = true) : (D.tup xs).nl = true := by rw [D.nl]; exact h
theorem nls_c {x : D} {xs : List D} (h : x.nl = true) (h' : D.nls xs = true) : D.nls (x :: xs) = true := by rw [D.nls, h, h']; rfl
theorem nls_map {f : A → D} (h : ∀ a, (f a).nl = true) : ∀ xs : List A, D.nls (xs.map f) = true
  | [] => rfl
  | x :: xs => by
    show ((f x).nl && D.nls (xs.map f)) = true
    rw [h x, nls_map h xs]; rfl
section
variable {A1 A2 A3 A4 A5 : Type} {a1 : Ec A1} {a2 : Ec A2} {a3 : Ec A3} {a4 : Ec A4} {a5 : Ec A5} {k1 k2 k3 k4 k5 : Nat} [DecidableEq A1] [DecidableEq A2] [DecidableEq A3] [DecidableEq A4] [DecidableEq A5]
  {l1 : A1 → A1 → Bool} {l2 : A2 → A2 → Bool} {l3 : A3 → A3 → Bool} {l4 : A4 → A4 → Bool} {l5 : A5 → A5 → Bool}
  [q1 : Eqv k1 a1] [q2 : Eqv k2 a2] [q3 : Eqv k3 a3] [q4 : Eqv k4 a4] [q5 : Eqv k5 a5] [o1 : Ord a1 l1] [o2 : Ord a2 l2] [o3 : Ord a3 l3] [o4 : Ord a4 l4] [o5 : Ord a5 l5]
def lx (l1 : A1 → A1 → Bool) (l2 : A2 → A2 → Bool) (p q : A1 × A2) : Bool := if p.1 = q.1 then l2 p.2 q.2 else l1 p.1 q.1
theorem irr (d : D) : PySem.W.dataLt d.py d.py = false := PyProof.Rows.lex_irrefl _
theorem ltTok_1 {x y : D} (h : PySem.W.alike x.py y.py = true) (he : PyData.eqv x.py y.py = true → PySem.W.dataLt x.py y.py = false) : ltTok [x] [y] = PySem.W.dataLt x.py y.py := by
  rw [ltTok_c h, ltTok_n]
  split
  · rename_i e; exact (he e).symm
  · rfl
theorem lt_irr [DecidableEq A1] [Eqv k1 a1] [Ord a1 l1] (x y : A1) (h : PyData.eqv (a1.e x).py (a1.e y).py = true) : PySem.W.dataLt (a1.e x).py (a1.e y).py = false := by
  rw [Eqv.eq] at h
  have := of_decide_eq_true h
  subst this
  exact irr _
instance o_1 : Ord (e1 a1) l1 := ⟨fun _ _ => by show PySem.W.alike (D.tup _).py (D.tup _).py = _; rw [al_tt]; exact al_c (o1.al _ _) (al_n _), fun x y => by
  show PySem.W.dataLt (D.tup _).py (D.tup _).py = _; rw [dl_tt, ltTok_1 (o1.al _ _) (lt_irr x y), o1.dl], fun _ => rfl, fun _ => nl_tup (nls_c (o1.nl _) rfl)⟩
instance o_2 : Ord (e2 a1 a2) (lx l1 l2) := ⟨fun _ _ => by show PySem.W.alike (D.tup _).py (D.tup _).py = _; rw [al_tt]; exact al_c (o1.al _ _) (al_c (o2.al _ _) (al_n _)), fun x y => by
  show PySem.W.dataLt (D.tup _).py (D.tup _).py = _
  rw [dl_tt, ltTok_c (o1.al _ _), ltTok_1 (o2.al _ _) (lt_irr x.2 y.2), o1.dl, o2.dl, q1.eq]
  unfold lx
  by_cases h : x.1 = y.1 <;> simp [h], fun _ => rfl, fun _ => nl_tup (nls_c (o1.nl _) (nls_c (o2.nl _) rfl))⟩
instance o_3 : Ord (e3 a1 a2 a3) (lx l1 (lx l2 l3)) := ⟨fun _ _ => by show PySem.W.alike (D.tup _).py (D.tup _).py = _; rw [al_tt]; exact al_c (o1.al _ _) (al_c (o2.al _ _) (al_c (o3.al _ _) (al_n _))), fun x y => by
  show PySem.W.dataLt (D.tup _).py (D.tup _).py = _
  rw [dl_tt, ltTok_c (o1.al _ _), ltTok_c (o2.al _ _), ltTok_1 (o3.al _ _) (lt_irr x.2.2 y.2.2), o1.dl, o2.dl, o3.dl, q1.eq, q2.eq]
  unfold lx
  by_cases h : x.1 = y.1 <;> by_cases h2 : x.2.1 = y.2.1 <;> simp [h, h2], fun _ => rfl, fun _ => nl_tup (nls_c (o1.nl _) (nls_c (o2.nl _) (nls_c (o3.nl _) rfl)))⟩
instance o_4 : Ord (e4 a1 a2 a3 a4) (lx l1 (lx l2 (lx l3 l4))) := ⟨fun _ _ => by show PySem.W.alike (D.tup _).py (D.tup _).py = _; rw [al_tt]; exact al_c (o1.al _ _) (al_c (o2.al _ _) (al_c (o3.al _ _) (al_c (o4.al _ _) (al_n _)))), fun x y => by
  show PySem.W.dataLt (D.tup _).py (D.tup _).py = _
  rw [dl_tt, ltTok_c (o1.al _ _), ltTok_c (o2.al _ _), ltTok_c (o3.al _ _), ltTok_1 (o4.al _ _) (lt_irr x.2.2.2 y.2.2.2), o1.dl, o2.dl, o3.dl, o4.dl, q1.eq, q2.eq, q3.eq]
  unfold lx
  by_cases h : x.1 = y.1 <;> by_cases h2 : x.2.1 = y.2.1 <;> by_cases h3 : x.2.2.1 = y.2.2.1 <;> simp [h, h2, h3], fun _ => rfl, fun _ => nl_tup (nls_c (o1.nl _) (nls_c (o2.nl _) (nls_c (o3.nl _) (nls_c (o4.nl _) rfl))))⟩
instance o_5 : Ord (e5 a1 a2 a3 a4 a5) (lx l1 (lx l2 (lx l3 (lx l4 l5)))) := ⟨fun _ _ => by show PySem.W.alike (D.tup _).py (D.tup _).py = _; rw [al_tt]; exact al_c (o1.al _ _) (al_c (o2.al _ _) (al_c (o3.al _ _) (al_c (o4.al _ _) (al_c (o5.al _ _) (al_n _))))), fun x y => by
  show PySem.W.dataLt (D.tup _).py (D.tup _).py = _
  rw [dl_tt, ltTok_c (o1.al _ _), ltTok_c (o2.al _ _), ltTok_c (o3.al _ _), ltTok_c (o4.al _ _), ltTok_1 (o5.al _ _) (lt_irr x.2.2.2.2 y.2.2.2.2), o1.dl, o2.dl, o3.dl, o4.dl, o5.dl, q1.eq, q2.eq, q3.eq, q4.eq]
  unfold lx
  by_cases h : x.1 = y.1 <;> by_cases h2 : x.2.1 = y.2.1 <;> by_cases h3 : x.2.2.1 = y.2.2.1 <;> by_cases h4 : x.2.2.2.1 = y.2.2.2.1 <;> simp [h, h2, h3, h4], fun _ => rfl, fun _ => nl_tup (nls_c (o1.nl _) (nls_c (o2.nl _) (nls_c (o3.nl _) (nls_c (o4.nl _) (nls_c (o5.nl _) rfl)))))⟩
/-- rows, place by place -/
def ltV (l : A1 → A1 → Bool) : List A1 → List A1 → Bool
  | _, [] => false
  | [], _ :: _ => true
  | x :: xs, y :: ys => if x = y then ltV l xs ys else l x y
theorem al_map [o1 : Ord a1 l1] : ∀ xs ys : List A1, PySem.W.alikeAll (D.pys (xs.map a1.e)) (D.pys (ys.map a1.e)) = true
  | [], ys => al_n _
  | x :: xs, [] => by rw [List.map_nil, List.map_cons, D.pys, D.pys]; unfold PySem.W.alikeAll; rfl
  | x :: xs, y :: ys => al_c (o1.al x y) (al_map xs ys)
theorem ltTok_map [q1 : Eqv k1 a1] [o1 : Ord a1 l1] : ∀ xs ys : List A1, ltTok (xs.map a1.e) (ys.map a1.e) = ltV l1 xs ys
  | [], [] => ltTok_n
  | [], y :: ys => by
    unfold ltTok
    rw [List.map_nil, List.map_cons, D.pys, D.pys, PySem.W.toks_all_cons]
    show PyProof.Rows.lexLt itemOrd (PySem.W.keyToksAll []) _ = true
    simp [PySem.W.keyToksAll, PyProof.Rows.lexLt, itemOrd, PySem.W.keyToks, itemLt]
  | x :: xs, [] => by
    unfold ltTok
    rw [List.map_nil, List.map_cons, D.pys, D.pys, PySem.W.toks_all_cons]
    show PyProof.Rows.lexLt itemOrd _ (PySem.W.keyToksAll []) = false
    simp [PySem.W.keyToksAll, PyProof.Rows.lexLt, itemOrd, PySem.W.keyToks, itemLt]
  | x :: xs, y :: ys => by
    rw [List.map_cons, List.map_cons, ltTok_c (o1.al x y), ltTok_map xs ys, q1.eq, o1.dl, ltV]
    by_cases h : x = y <;> simp [h]
instance o_V : Ord (eV a1) (ltV l1) := ⟨fun _ _ => by show PySem.W.alike (D.tup _).py (D.tup _).py = _; rw [al_tt]; exact al_map (l1 := l1) _ _, fun x y => by
  show PySem.W.dataLt (D.tup _).py (D.tup _).py = _
  rw [dl_tt, ltTok_map (l1 := l1)], fun _ => rfl, fun _ => nl_tup (nls_map o1.nl _)⟩
end
/-! ### nothing that is a list within -/
class NoL (c : Ec A) : Prop where
  nl : ∀ a, (c.e a).nl = true
instance nl_I : NoL eI := ⟨fun _ => rfl⟩
instance nl_B : NoL eB := ⟨fun _ => rfl⟩
instance nl_S : NoL eS := ⟨fun _ => rfl⟩
instance nl_N : NoL eN := ⟨fun _ => rfl⟩
instance nl_O {c : Ec A} [n : NoL c] : NoL (eO c) := ⟨fun o => match o with | none => rfl | some a => n.nl a⟩
instance nl_V {c : Ec A} [n : NoL c] : NoL (eV c) := ⟨fun xs => nl_tup (nls_map n.nl xs)⟩
instance nl_0 : NoL e0 := ⟨fun _ => nl_tup rfl⟩
section
variable {A1 A2 A3 A4 A5 A6 A7 : Type} {a1 : Ec A1} {a2 : Ec A2} {a3 : Ec A3} {a4 : Ec A4} {a5 : Ec A5} {a6 : Ec A6} {a7 : Ec A7} [n1 : NoL a1] [n2 : NoL a2] [n3 : NoL a3] [n4 : NoL a4] [n5 : NoL a5] [n6 : NoL a6] [n7 : NoL a7]
instance nl_1 : NoL (e1 a1) := ⟨fun _ => nl_tup (nls_c (n1.nl _) rfl)⟩
instance nl_2 : NoL (e2 a1 a2) := ⟨fun _ => nl_tup (nls_c (n1.nl _) (nls_c (n2.nl _) rfl))⟩
instance nl_3 : NoL (e3 a1 a2 a3) := ⟨fun _ => nl_tup (nls_c (n1.nl _) (nls_c (n2.nl _) (nls_c (n3.nl _) rfl)))⟩
instance nl_4 : NoL (e4 a1 a2 a3 a4) := ⟨fun _ => nl_tup (nls_c (n1.nl _) (nls_c (n2.nl _) (nls_c (n3.nl _) (nls_c (n4.nl _) rfl))))⟩
instance nl_5 : NoL (e5 a1 a2 a3 a4 a5) := ⟨fun _ => nl_tup (nls_c (n1.nl _) (nls_c (n2.nl _) (nls_c (n3.nl _) (nls_c (n4.nl _) (nls_c (n5.nl _) rfl)))))⟩
instance nl_6 : NoL (e6 a1 a2 a3 a4 a5 a6) := ⟨fun _ => nl_tup (nls_c (n1.nl _) (nls_c (n2.nl _) (nls_c (n3.nl _) (nls_c (n4.nl _) (nls_c (n5.nl _) (nls_c (n6.nl _) rfl))))))⟩
instance nl_7 : NoL (e7 a1 a2 a3 a4 a5 a6 a7) := ⟨fun _ => nl_tup (nls_c (n1.nl _) (nls_c (n2.nl _) (nls_c (n3.nl _) (nls_c (n4.nl _) (nls_c (n5.nl _) (nls_c (n6.nl _) (nls_c (n7.nl _) rfl)))))))⟩
end
end TL
namespace TL
open PySem PySem.Spec PyProof.Rows L2 PF
variable {A B C A' B' C' E : Type}
/-! ### slots and cells -/
def gs : Rho → Nat → Option D
  | [], _ => none
  | x :: _, 0 => x
  | _ :: xs, n + 1 => gs xs n
theorem gs_at : ∀ {ρ : Rho} {i : Nat} {d : D}, gs ρ i = some d → ρ[i]? = some (some d)
  | [], _, _, h => by cases h
  | x :: _, 0, d, h => by rw [show x = some d from h]; rfl
  | _ :: xs, n + 1, d, h => by simpa using gs_at (ρ := xs) (i := n) h
def gm : Mem → Nat → Option MO
  | [], _ => none
  | x :: _, 0 => some x
  | _ :: xs, n + 1 => gm xs n
theorem gm_at : ∀ {M : Mem} {n : Nat} {mo : MO}, gm M n = some mo → M[n]? = some mo
  | [], _, _, h => by cases h
  | x :: _, 0, mo, h => h
  | _ :: xs, n + 1, mo, h => by simpa using gm_at (M := xs) (n := n) h
/-! ### what typed code computes -/
def tlet (a : A) (f : A → Option B) : Option B := f a
theorem tlet_eq (a : A) (f : A → Option B) : tlet a f = f a := rfl
def tmul (a b : Int) : Option Int := if okMul a b = true then some (a * b) else none
def tdiv (a b : Int) : Option Int := if okDiv b = true then some (a.fdiv b) else none
def tmod (a b : Int) : Option Int := if b ≠ 0 then some (a.fmod b) else none
def tpow (a b : Int) : Option Int := if okPow a b = true then some (a ^ b.toNat) else none
def tat (xs : List A) (i : Int) : Option A := L2.atI xs i
def upto (lo : Int) (n : Nat) : List Int := (List.range n).map fun (k : Nat) => lo + k
def trg (lo hi : Int) : Option (List Int) := if okR lo hi = true then some (upto lo (hi - lo).toNat) else none
def tapp (xs : List A) (x : A) : Option (List A) := if xs.length < LINE then some (xs ++ [x]) else none
def tcat (xs ys : List A) : Option (List A) := if xs.length + ys.length ≤ LINE then some (xs ++ ys) else none
def tmin (lt : A → A → Bool) : List A → Option A
  | [] => none
  | x :: xs => some (xs.foldl (fun a y => if lt y a = true then y else a) x)
def tmax (lt : A → A → Bool) : List A → Option A
  | [] => none
  | x :: xs => some (xs.foldl (fun a y => if lt a y = true then y else a) x)
def tsort (lt : A → A → Bool) (xs : List A) : List A := xs.mergeSort fun a b => !lt b a
def tsortU (xs : List Int) : Option (List Int) := if xs.length < 64 then some (sortU xs) else none
def tlenU (xs : List Int) : Option Int := if xs.length ≤ 4000 then some (sortU xs).length else none
def cut (xs : List A) (lo hi : Option Int) : List A := (xs.drop (HT.sIx xs.length 0 lo)).take (HT.sIx xs.length xs.length hi - HT.sIx xs.length 0 lo)
def tset (xs : List A) (i : Int) (x : A) : Option (List A) := (L2.ixN xs.length i).map fun j => xs.set j x
def tpop (xs : List A) : Option (A × List A) := (xs[xs.length - 1]?).map fun a => (a, xs.dropLast)
def trepL (xs : List A) (j : Int) : Option (List A) := if decide (-(9223372036854775808) ≤ j) && (decide (j < 9223372036854775808) && decide (xs.length * j.toNat ≤ LINE)) then some (List.replicate j.toNat xs).flatten else none
def trepV (xs : List A) (j : Int) : Option (List A) := if j = 1 then some xs else if (!xs.isEmpty && decide (2 ≤ j)) && (decide (j ≤ 1000) && decide (xs.length ≤ 1000)) then some (List.replicate j.toNat xs).flatten else none
def trepZ (xs : List A) (j : Int) : Option (List A) := if j = 0 then (if xs.isEmpty = true then none else some []) else trepV xs j
def tall : List (Option A) → Option (List A)
  | [] => some []
  | x :: xs => x.bind fun a => (tall xs).bind fun as => some (a :: as)
def tmap (f : A → Option B) : List A → Option (List B)
  | [] => some []
  | x :: xs => (f x).bind fun y => (tmap f xs).bind fun ys => some (y :: ys)
def tfilt (p : A → Option Bool) : List A → Option (List A)
  | [] => some []
  | x :: xs => (p x).bind fun b => (tfilt p xs).bind fun ys => some (if b = true then x :: ys else ys)
def tmapS (f : A → B → Option (C × B)) : List A → B → Option (List C × B)
  | [], s => some ([], s)
  | x :: xs, s => (f x s).bind fun y => (tmapS f xs y.2).bind fun r => some (y.1 :: r.1, r.2)
/-- leave, or go on -/
inductive Ex (E B : Type) where
  | ex (e : E)
  | go (b : B)
def Ex.cas (x : Ex E B) (f : E → C) (g : B → C) : C := match x with | .ex e => f e | .go b => g b
@[simp] theorem cas_ex (e : E) (f : E → C) (g : B → C) : (Ex.ex e : Ex E B).cas f g = f e := rfl
@[simp] theorem cas_go (b : B) (f : E → C) (g : B → C) : (Ex.go b : Ex E B).cas f g = g b := rfl
def tfold (f : A → B → Option B) : List A → B → Option B
  | [], b => some b
  | a :: as, b => (f a b).bind fun b' => tfold f as b'
/-- a body that may leave -/
def tforr (f : A → B → Option (Ex E B)) : List A → B → Option (Ex E B)
  | [], b => some (.go b)
  | a :: as, b => (f a b).bind fun r => r.cas (fun e => some (.ex e)) fun b' => tforr f as b'
/-- a body that may break -/
def tforb (f : A → B → Option (Ex B B)) : List A → B → Option B
  | [], b => some b
  | a :: as, b => (f a b).bind fun r => r.cas (fun e => some e) fun b' => tforb f as b'
/-- .. and both: leaves with ex (ex e), breaks with ex (go b) -/
def tforx (f : A → B → Option (Ex (Ex E B) B)) : List A → B → Option (Ex E B)
  | [], b => some (.go b)
  | a :: as, b => (f a b).bind fun r => r.cas (fun e => some e) fun b' => tforx f as b'
def twh (c : B → Option Bool) (f : B → Option B) : Nat → B → Option B
  | 0, _ => none
  | n + 1, b => (c b).bind fun k => if k = true then (f b).bind fun b' => twh c f n b' else some b
def twhx (c : B → Option Bool) (f : B → Option (Ex (Ex E B) B)) : Nat → B → Option (Ex E B)
  | 0, _ => none
  | n + 1, b => (c b).bind fun k => if k = true then (f b).bind fun r => r.cas (fun e => some e) fun b' => twhx c f n b' else some (.go b)
def twhr (c : B → Option Bool) (f : B → Option (Ex E B)) : Nat → B → Option (Ex E B)
  | 0, _ => none
  | n + 1, b => (c b).bind fun k => if k = true then (f b).bind fun r => r.cas (fun e => some (.ex e)) fun b' => twhr c f n b' else some (.go b)
def twhb (c : B → Option Bool) (f : B → Option (Ex B B)) : Nat → B → Option B
  | 0, _ => none
  | n + 1, b => (c b).bind fun k => if k = true then (f b).bind fun r => r.cas (fun e => some e) fun b' => twhb c f n b' else some b
abbrev FUEL : Nat := 1000000
/-! ### reading the typed side -/
theorem bnd {x : Option A} {f : A → Option B} {r : B} (h : x.bind f = some r) : ∃ a, x = some a ∧ f a = some r := Option.bind_eq_some_iff.mp h
theorem lbnd {a : A} {f : A → Option B} {r : B} (h : tlet a f = some r) : ∃ x, a = x ∧ f x = some r := ⟨a, rfl, h⟩
/-! ### expressions -/
section
variable {ρ : Rho} {M M1 M2 M3 : Mem} {fa fb fc : FE} {d x y z : D} {i : Nat}
theorem x_var (h : gs ρ i = some d) : fVar i ρ M = some (d, M) := by rw [ev_var, gs_at h]
theorem x_int (i : Int) : fC (.int i) ρ M = some (eI.e i, M) := rfl
theorem x_bl (i : Bool) : fC (.bl i) ρ M = some (eB.e i, M) := rfl
theorem x_str (i : Str) : fC (.str i) ρ M = some (eS.e i, M) := rfl
theorem x_non : fC .non ρ M = some (eN.e (), M) := rfl
theorem x_f1 {g : G1} (ha : fa ρ M = some (x, M1)) (hg : g x M1 = some d) : f1 g fa ρ M = some (d, M1) := by rw [ev_f1, ha, Option.bind_some, hg]; rfl
theorem x_f2 {g : G2} (ha : fa ρ M = some (x, M1)) (hb : fb ρ M1 = some (y, M2)) (hg : g x y M2 = some d) : f2 g fa fb ρ M = some (d, M2) := by
  rw [ev_f2, ha, Option.bind_some]; simp only []; rw [hb, Option.bind_some]; simp only []; rw [hg]; rfl
theorem x_f2T {g : G2B} {b : Bool} (ha : fa ρ M = some (x, M1)) (hb : fb ρ M1 = some (y, M2)) (hg : g x y M2 = some b) : f2T g fa fb ρ M = some (b, M2) := by
  rw [ev_f2T, ha, Option.bind_some]; simp only []; rw [hb, Option.bind_some]; simp only []; rw [hg]; rfl
theorem g_B {g : G2B} {b : Bool} (h : g x y M = some b) : gB g x y M = some (eB.e b) := by rw [ev_gB, h]; rfl
theorem x_co {c : Ec A} {c' : Ec A'} {a : A} {a' : A'} (h : fa ρ M = some (c.e a, M1)) (E : c'.e a' = c.e a) : fa ρ M = some (c'.e a', M1) := by rw [E]; exact h
theorem x_cast {c : Ec A} {o : Option A} {a : A} (h : fa ρ M = some ((eO c).e o, M1)) (E : o = some a) : fa ρ M = some (c.e a, M1) := by rw [h, E]; rfl
theorem x_eq {c : Ec A} {a b : A} (h : fa ρ M = some (c.e a, M1)) (E : a = b) : fa ρ M = some (c.e b, M1) := by rw [h, E]
theorem x_chain {g g' : G2B} {b b' : Bool} (ha : fa ρ M = some (x, M1)) (hb : fb ρ M1 = some (y, M2)) (hg : g x y M2 = some b) (hc : fc ρ M2 = some (z, M2)) (hg' : g' y z M2 = some b') : fChain g g' fa fb fc ρ M = some (eB.e (b && b'), M2) := by
  rw [ev_chain, ha, Option.bind_some]; simp only []; rw [hb, Option.bind_some]; simp only []; rw [hg, Option.bind_some]
  cases b
  · rfl
  · rw [if_pos rfl, hc, Option.bind_some]; simp only []; rw [hg']; rfl
theorem x_chainT {g g' : G2B} {b b' : Bool} (ha : fa ρ M = some (x, M1)) (hb : fb ρ M1 = some (y, M2)) (hg : g x y M2 = some b) (hc : fc ρ M2 = some (z, M2)) (hg' : g' y z M2 = some b') : fChainT g g' fa fb fc ρ M = some (b && b', M2) := by
  rw [ev_chainT, ha, Option.bind_some]; simp only []; rw [hb, Option.bind_some]; simp only []; rw [hg, Option.bind_some]
  cases b
  · rfl
  · rw [if_pos rfl, hc, Option.bind_some]; simp only []; rw [hg']; rfl
theorem x_chainM {g g' : G2B} {b b' : Bool} (ha : fa ρ M = some (x, M1)) (hb : fb ρ M1 = some (y, M2)) (hg : g x y M2 = some b) (h : b = true → ∃ z, fc ρ M2 = some (z, M2) ∧ g' y z M2 = some b') (h0 : b = false → b' = false) : fChain g g' fa fb fc ρ M = some (eB.e b', M2) := by
  rw [ev_chain, ha, Option.bind_some]; simp only []; rw [hb, Option.bind_some]; simp only []; rw [hg, Option.bind_some]
  cases b
  · rw [h0 rfl]; rfl
  · obtain ⟨z, hc, hg'⟩ := h rfl
    rw [if_pos rfl, hc, Option.bind_some]; simp only []; rw [hg']; rfl
theorem x_chainTM {g g' : G2B} {b b' : Bool} (ha : fa ρ M = some (x, M1)) (hb : fb ρ M1 = some (y, M2)) (hg : g x y M2 = some b) (h : b = true → ∃ z, fc ρ M2 = some (z, M2) ∧ g' y z M2 = some b') (h0 : b = false → b' = false) : fChainT g g' fa fb fc ρ M = some (b', M2) := by
  rw [ev_chainT, ha, Option.bind_some]; simp only []; rw [hb, Option.bind_some]; simp only []; rw [hg, Option.bind_some]
  cases b
  · rw [h0 rfl]; rfl
  · obtain ⟨z, hc, hg'⟩ := h rfl
    rw [if_pos rfl, hc, Option.bind_some]; simp only []; rw [hg']; rfl
end
section
variable {M : Mem} (a b : Int)
theorem g_add : gAdd (eI.e a) (eI.e b) M = some (eI.e (a + b)) := rfl
theorem g_sub : gSub (eI.e a) (eI.e b) M = some (eI.e (a - b)) := rfl
theorem g_neg : gNeg (eI.e a) M = some (eI.e (-a)) := rfl
variable {a b}
theorem g_mul {c : Int} (h : tmul a b = some c) : gMul (eI.e a) (eI.e b) M = some (eI.e c) := by
  show (if okMul a b = true then some (D.int (a * b)) else none) = _
  unfold tmul at h
  split at h
  · rename_i q; rw [if_pos q]; cases h; rfl
  · cases h
theorem g_mulR (h : b.natAbs < 18446744073709551616) : gMul (eI.e a) (eI.e b) M = some (eI.e (a * b)) := if_pos (okMul_r h)
theorem g_mulL (h : a.natAbs < 18446744073709551616) : gMul (eI.e a) (eI.e b) M = some (eI.e (a * b)) := if_pos (okMul_l h)
theorem g_div {c : Int} (h : tdiv a b = some c) : gFdiv (eI.e a) (eI.e b) M = some (eI.e c) := by
  show (if okDiv b = true then some (D.int (a.fdiv b)) else none) = _
  unfold tdiv at h
  split at h
  · rename_i q; rw [if_pos q]; cases h; rfl
  · cases h
theorem two64_9000 : (18446744073709551616 : Nat) < 2 ^ 9000 := Nat.lt_of_lt_of_le (by decide : (18446744073709551616 : Nat) < 2 ^ 65) (Nat.pow_le_pow_right (by decide) (by decide))
theorem okDiv_lit (h0 : b ≠ 0) (h : b.natAbs < 18446744073709551616) : okDiv b = true := okDiv_of h0 (Nat.lt_trans h two64_9000)
theorem g_divL (h0 : b ≠ 0) (h : b.natAbs < 18446744073709551616) : gFdiv (eI.e a) (eI.e b) M = some (eI.e (a.fdiv b)) := if_pos (okDiv_lit h0 h)
theorem g_mod {c : Int} (h : tmod a b = some c) : gMod (eI.e a) (eI.e b) M = some (eI.e c) := by
  show (if decide (b ≠ 0) = true then some (D.int (a.fmod b)) else none) = _
  unfold tmod at h
  split at h
  · rename_i q; rw [if_pos (decide_eq_true q)]; cases h; rfl
  · cases h
theorem g_modL (h0 : b ≠ 0) : gMod (eI.e a) (eI.e b) M = some (eI.e (a.fmod b)) := if_pos (decide_eq_true h0)
theorem g_pow {c : Int} (h : tpow a b = some c) : gPow (eI.e a) (eI.e b) M = some (eI.e c) := by
  show (if okPow a b = true then some (D.int (a ^ b.toNat)) else none) = _
  unfold tpow at h
  split at h
  · rename_i q; rw [if_pos q]; cases h; rfl
  · cases h
theorem g_powL {c : Int} (h : okPow a b = true) (hc : a ^ b.toNat = c) : gPow (eI.e a) (eI.e b) M = some (eI.e c) := by subst hc; exact if_pos h
theorem c_int (c : Int → Int → Bool) : gCmp c (eI.e a) (eI.e b) M = some (c a b) := rfl
end
section
variable {M : Mem} {c : Ec A}
theorem val_nr {d : D} (h : d.nr = true) : d.val M = some d := by
  cases d with
  | ref _ => cases h
  | _ => rfl
theorem v_ec (c : Ec A) (a : A) : (c.e a).val M = some (c.e a) := val_nr (c.nr a)
theorem v_ref {n : Nat} {xs : List A} (h : gm M n = some (cl c xs)) : (D.ref n).val M = some ((eL c).e xs) := by
  show (match M[n]? with | some (.lst xs) => some (D.lst xs) | _ => none) = _
  rw [gm_at h]; rfl
theorem c_eq {x y : D} {a b : A} {k : Nat} [DecidableEq A] (hx : x.val M = some (c.e a)) (hy : y.val M = some (c.e b)) [q : Eqv k c] (hk : Nat.ble k 60 = true := by decide) : gEq x y M = some (decide (a = b)) := by
  unfold gEq
  rw [hx, hy]
  simp only [q.dp 60 (Nat.le_of_ble_eq_true hk) a, q.dp 60 (Nat.le_of_ble_eq_true hk) b, Bool.and_self, if_true, q.eq]
theorem c_ne {x y : D} {a b : A} {k : Nat} [DecidableEq A] (hx : x.val M = some (c.e a)) (hy : y.val M = some (c.e b)) [q : Eqv k c] (hk : Nat.ble k 60 = true := by decide) : gNe x y M = some (!decide (a = b)) := by
  unfold gNe; rw [c_eq hx hy hk]; rfl
theorem any_mem [DecidableEq A] (a : A) : ∀ xs : List A, (xs.any fun z => decide (z = a)) = decide (a ∈ xs)
  | [] => rfl
  | x :: xs => by
    rw [List.any_cons, any_mem a xs]
    by_cases h : x = a
    · subst h; simp
    · have h' : ¬ a = x := fun z => h z.symm
      simp [h, h']
/-- a is one of xs -/
def tin [DecidableEq A] (a : A) (xs : List A) : Bool := xs.any fun z => decide (z = a)
theorem tin_mem [DecidableEq A] {a : A} {xs : List A} : tin a xs = true ↔ a ∈ xs := by unfold tin; rw [any_mem]; exact decide_eq_true_iff
theorem c_in {x y : D} {a : A} {xs : List A} {k : Nat} [DecidableEq A] (hx : x.val M = some (c.e a)) (hy : ∃ y', y.val M = some y' ∧ seqItems y' = some (xs.map c.e) ∧ y'.dp 60 = true) [q : Eqv k c] (hk : Nat.ble k 60 = true := by decide) : gInX x y M = some (tin a xs) := by
  obtain ⟨y', h1, h2, h3⟩ := hy
  unfold gInX
  rw [hx, h1, Option.bind_some, Option.bind_some, q.dp 60 (Nat.le_of_ble_eq_true hk) a, h3, h2]
  simp only [Bool.and_self, if_true, Option.map_some, List.any_map, Function.comp_def, q.eq]; rfl
theorem c_notIn {x y : D} {b : Bool} (h : gInX x y M = some b) : gNotInX x y M = some (!b) := by unfold gNotInX; rw [h]; rfl
theorem i_V {xs : List A} {k : Nat} [DecidableEq A] [q : Eqv k c] (hk : Nat.ble k 59 = true := by decide) : ∃ y', ((eV c).e xs).val M = some y' ∧ seqItems y' = some (xs.map c.e) ∧ y'.dp 60 = true :=
  ⟨_, v_ec _ _, rfl, (q_V (c := c)).dp 60 (by have := Nat.le_of_ble_eq_true hk; omega) xs⟩
theorem i_L {xs : List A} {k : Nat} [DecidableEq A] [q : Eqv k c] (hk : Nat.ble k 59 = true := by decide) : ∃ y', ((eL c).e xs).val M = some y' ∧ seqItems y' = some (xs.map c.e) ∧ y'.dp 60 = true :=
  ⟨_, v_ec _ _, rfl, (q_L (c := c)).dp 60 (by have := Nat.le_of_ble_eq_true hk; omega) xs⟩
theorem i_R {xs : List A} {k n : Nat} [DecidableEq A] [q : Eqv k c] (h : gm M n = some (cl c xs)) (hk : Nat.ble k 59 = true := by decide) : ∃ y', (D.ref n).val M = some y' ∧ seqItems y' = some (xs.map c.e) ∧ y'.dp 60 = true :=
  ⟨_, v_ref h, rfl, (q_L (c := c)).dp 60 (by have := Nat.le_of_ble_eq_true hk; omega) xs⟩
theorem is_O [n : NotN c] (o : Option A) : gIs ((eO c).e o) (eN.e ()) M = some o.isNone := by
  cases o with
  | none => rfl
  | some a => show some (isNn (c.e a)) = _; rw [n.nn]; rfl
theorem is_X [n : NotN c] (a : A) : gIs (c.e a) (eN.e ()) M = some false := by show some (isNn (c.e a)) = _; rw [n.nn]
theorem is_N : gIs (eN.e ()) (eN.e ()) M = some true := rfl
theorem is_B (a b : Bool) : gIs (eB.e a) (eB.e b) M = some (decide (a = b)) := rfl
theorem isNot_O [n : NotN c] (o : Option A) : gIsNot ((eO c).e o) (eN.e ()) M = some o.isSome := by unfold gIsNot; rw [is_O]; cases o <;> rfl
theorem is_not {x y : D} {b : Bool} (h : gIs x y M = some b) : gIsNot x y M = some (!b) := by unfold gIsNot; rw [h]; rfl
theorem is_R {n : Nat} : gIs (.ref n) (eN.e ()) M = some false := rfl
theorem c_lt {k : Nat} {lt : A → A → Bool} [DecidableEq A] [q : Eqv k c] [o : Ord c lt] (a b : A) (hk : Nat.ble k 60 = true := by decide) : gCmpD PySem.W.dataLt (c.e a) (c.e b) M = some (lt a b) := by
  unfold gCmpD
  rw [v_ec, v_ec]
  simp only [q.dp 60 (Nat.le_of_ble_eq_true hk) a, q.dp 60 (Nat.le_of_ble_eq_true hk) b, o.al, o.nn, Bool.and_self, Bool.not_false, Bool.and_true, if_true, o.dl]
theorem c_gt {k : Nat} {lt : A → A → Bool} [DecidableEq A] [q : Eqv k c] [o : Ord c lt] (a b : A) (hk : Nat.ble k 60 = true := by decide) : gCmpD (fun a b => PySem.W.dataLt b a) (c.e a) (c.e b) M = some (lt b a) := by
  unfold gCmpD
  rw [v_ec, v_ec]
  simp only [q.dp 60 (Nat.le_of_ble_eq_true hk) a, q.dp 60 (Nat.le_of_ble_eq_true hk) b, o.al, o.nn, Bool.and_self, Bool.not_false, Bool.and_true, if_true, o.dl]
/-! sequences -/
structure Sq (d : D) (M : Mem) (c : Ec A) (xs : List A) : Prop where
  sq : sqOf d M = some (xs.map c.e)
  ns : ∀ x, d ≠ .str x
structure Ls (d : D) (M : Mem) (c : Ec A) (xs : List A) : Prop where
  ls : lsOf d M = some (xs.map c.e)
  nt : ∀ x, d ≠ .tup x
structure Lt (d : D) (M : Mem) (c : Ec A) (xs : List A) : Prop where
  lt : ltOf d M = some (xs.map c.e)
  nt : ∀ x, d ≠ .tup x
  ns : ∀ x, d ≠ .str x
  ni : ∀ x, d ≠ .int x
theorem s_V {xs : List A} : Sq ((eV c).e xs) M c xs := ⟨rfl, fun _ h => by cases h⟩
theorem s_L {xs : List A} : Sq ((eL c).e xs) M c xs := ⟨rfl, fun _ h => by cases h⟩
theorem s_K {xs : List A} : Sq ((eK c).e xs) M c xs := ⟨rfl, fun _ h => by cases h⟩
theorem ls_ref {n : Nat} {xs : List A} (h : gm M n = some (cl c xs)) : lsOf (.ref n) M = some (xs.map c.e) := by rw [ev_lsr, gm_at h]; rfl
theorem s_R {n : Nat} {xs : List A} (h : gm M n = some (cl c xs)) : Sq (.ref n) M c xs := ⟨ls_ref h, fun _ h => by cases h⟩
theorem l_L {xs : List A} : Ls ((eL c).e xs) M c xs := ⟨rfl, fun _ h => by cases h⟩
theorem l_K {xs : List A} : Ls ((eK c).e xs) M c xs := ⟨rfl, fun _ h => by cases h⟩
theorem l_R {n : Nat} {xs : List A} (h : gm M n = some (cl c xs)) : Ls (.ref n) M c xs := ⟨ls_ref h, fun _ h => by cases h⟩
theorem t_L {xs : List A} : Lt ((eL c).e xs) M c xs := ⟨rfl, fun _ h => (by cases h), fun _ h => (by cases h), fun _ h => (by cases h)⟩
theorem t_R {n : Nat} {xs : List A} (h : gm M n = some (cl c xs)) : Lt (.ref n) M c xs := ⟨ls_ref h, fun _ h => (by cases h), fun _ h => (by cases h), fun _ h => (by cases h)⟩
/-! truth -/
theorem tr_B (b : Bool) : gTru (eB.e b) M = some b := rfl
theorem tr_I (i : Int) : gTru (eI.e i) M = some (i != 0) := rfl
theorem tr_N : gTru (eN.e ()) M = some false := rfl
theorem tr_S {d : D} {xs : List A} (s : Sq d M c xs) : gTru d M = some (!xs.isEmpty) := by
  have h : (sqOf d M).map (fun xs => !xs.isEmpty) = some (!xs.isEmpty) := by rw [s.sq]; cases xs <;> rfl
  cases d with
  | str x => exact absurd rfl (s.ns x)
  | non => cases s.sq
  | bl _ => cases s.sq
  | int _ => cases s.sq
  | tup _ => exact h
  | lst _ => exact h
  | kst _ => exact h
  | dct _ _ => cases s.sq
  | ref _ => exact h
theorem tr_T {d : D} {ds : List D} : gTru (.tup (d :: ds)) M = some true := rfl
theorem tr_O (o : Option A) (h : ∀ a, gTru (c.e a) M = some true) : gTru ((eO c).e o) M = some o.isSome := by
  cases o with
  | none => rfl
  | some a => exact h a
end
/-! displays, parts -/
section
variable {ρ : Rho} {M M1 M2 M3 : Mem} {fa fb fc : FE} {f : FA} {d x y z : D} {ds : List D}
theorem x_nil : fNil ρ M = some ([], M) := rfl
theorem x_cons (ha : fa ρ M = some (x, M1)) (hr : f ρ M1 = some (ds, M2)) : fCons fa f ρ M = some (x :: ds, M2) := by
  rw [ev_cons, ha, Option.bind_some]; simp only []; rw [hr]; rfl
theorem x_tup (h : f ρ M = some (ds, M1)) (hl : Nat.ble ds.length 10000 = true) : fTup f ρ M = some (.tup ds, M1) := by
  rw [ev_tup, h, Option.bind_some]
  exact if_pos (Nat.le_trans (Nat.le_of_ble_eq_true hl) (by decide))
section
variable {A1 A2 A3 A4 A5 A6 A7 : Type} {a1 : Ec A1} {a2 : Ec A2} {a3 : Ec A3} {a4 : Ec A4} {a5 : Ec A5} {a6 : Ec A6} {a7 : Ec A7} {u1 : A1} {u2 : A2} {u3 : A3} {u4 : A4} {u5 : A5} {u6 : A6} {u7 : A7}
theorem x_tup0 (h : f ρ M = some ([], M1)) : fTup f ρ M = some (e0.e (), M1) := x_tup h rfl
theorem x_tup1 (h : f ρ M = some ([a1.e u1], M1)) : fTup f ρ M = some ((e1 a1).e u1, M1) := x_tup h rfl
theorem x_tup2 (h : f ρ M = some ([a1.e u1, a2.e u2], M1)) : fTup f ρ M = some ((e2 a1 a2).e (u1, u2), M1) := x_tup h rfl
theorem x_tup3 (h : f ρ M = some ([a1.e u1, a2.e u2, a3.e u3], M1)) : fTup f ρ M = some ((e3 a1 a2 a3).e (u1, u2, u3), M1) := x_tup h rfl
theorem x_tup4 (h : f ρ M = some ([a1.e u1, a2.e u2, a3.e u3, a4.e u4], M1)) : fTup f ρ M = some ((e4 a1 a2 a3 a4).e (u1, u2, u3, u4), M1) := x_tup h rfl
theorem x_tup5 (h : f ρ M = some ([a1.e u1, a2.e u2, a3.e u3, a4.e u4, a5.e u5], M1)) : fTup f ρ M = some ((e5 a1 a2 a3 a4 a5).e (u1, u2, u3, u4, u5), M1) := x_tup h rfl
theorem x_tup6 (h : f ρ M = some ([a1.e u1, a2.e u2, a3.e u3, a4.e u4, a5.e u5, a6.e u6], M1)) : fTup f ρ M = some ((e6 a1 a2 a3 a4 a5 a6).e (u1, u2, u3, u4, u5, u6), M1) := x_tup h rfl
theorem x_tup7 (h : f ρ M = some ([a1.e u1, a2.e u2, a3.e u3, a4.e u4, a5.e u5, a6.e u6, a7.e u7], M1)) : fTup f ρ M = some ((e7 a1 a2 a3 a4 a5 a6 a7).e (u1, u2, u3, u4, u5, u6, u7), M1) := x_tup h rfl
end
theorem x_tupV {c : Ec A} (xs : List A) (h : f ρ M = some (ds, M1)) (e : ds = xs.map c.e) (hl : Nat.ble ds.length 10000 = true) : fTup f ρ M = some ((eV c).e xs, M1) := by subst e; exact x_tup h hl
theorem x_lst {c : Ec A} (xs : List A) (h : f ρ M = some (ds, M1)) (e : ds = xs.map c.e) (hl : Nat.ble ds.length 10000 = true) : fLstD f ρ M = some (xs.map c.e, M1) := by
  subst e
  rw [ev_lstD, h, Option.bind_some]
  exact if_pos (Nat.le_trans (Nat.le_of_ble_eq_true hl) (by decide))
theorem x_fz {c : Ec A} {xs : List A} (h : f ρ M = some (xs.map c.e, M1)) : fFz f ρ M = some ((eL c).e xs, M1) := by rw [ev_fz, h]; rfl
theorem x_mut {c : Ec A} {xs : List A} (h : f ρ M = some (xs.map c.e, M1)) : fMut f ρ M = some (.ref M1.length, M1 ++ [cl c xs]) := by rw [ev_mut, h]; rfl
theorem x_faco {c : Ec A} {c' : Ec A'} {xs : List A} {ys : List A'} (h : f ρ M = some (xs.map c.e, M1)) (E : ys.map c'.e = xs.map c.e) : f ρ M = some (ys.map c'.e, M1) := by rw [E]; exact h
theorem g_at {c : Ec A} {xs : List A} {i : Int} {a : A} (s : Sq d M c xs) (h : tat xs i = some a) : gIx d (eI.e i) M = some (c.e a) := by
  have e : (sqOf d M).bind (fun xs => L2.atI xs i) = some (c.e a) := by
    rw [s.sq, Option.bind_some, atI_eq, List.length_map]
    unfold tat at h
    rw [atI_eq] at h
    obtain ⟨j, h1, h2⟩ := Option.bind_eq_some_iff.mp h
    rw [h1, Option.bind_some, List.getElem?_map, h2]; rfl
  cases d with
  | str x => exact absurd rfl (s.ns x)
  | _ => exact e
theorem g_ix {L : List D} {i : Int} (h : L2.atI L i = some d) : gIx (.tup L) (eI.e i) M = some d := h
theorem o_none : fNoPart ρ M = some (none, M) := rfl
theorem o_part {i : Int} (h : fa ρ M = some (eI.e i, M1)) : fPart fa ρ M = some (some i, M1) := by rw [ev_part, h]; rfl
theorem x_slice {fl fh : FO} {lo hi : Option Int} (ha : fa ρ M = some (x, M1)) (hl : fl ρ M1 = some (lo, M2)) (hh : fh ρ M2 = some (hi, M3)) (hg : gSlice x lo hi M3 = some d) : fSlice fa fl fh ρ M = some (d, M3) := by
  rw [ev_slice, ha, Option.bind_some]; simp only []; rw [hl, Option.bind_some]; simp only []; rw [hh, Option.bind_some]; simp only []; rw [hg]; rfl
theorem cut_map (f : A → B) (xs : List A) (lo hi : Option Int) : cut (xs.map f) lo hi = (cut xs lo hi).map f := by unfold cut; rw [List.length_map, List.map_take, List.map_drop]
theorem cutD_map (f : A → D) (xs : List A) (lo hi : Option Int) : cutD (xs.map f) lo hi = (cut xs lo hi).map f := cut_map f xs lo hi
theorem g_slV {c : Ec A} {xs : List A} {lo hi : Option Int} : gSlice ((eV c).e xs) lo hi M = some ((eV c).e (cut xs lo hi)) := by
  show some (D.tup (cutD (xs.map c.e) lo hi)) = _
  rw [cutD_map]; rfl
theorem g_slL {c : Ec A} {xs : List A} {lo hi : Option Int} (l : Ls d M c xs) : gSlice d lo hi M = some ((eL c).e (cut xs lo hi)) := by
  have e : (lsOf d M).map (fun xs => D.lst (cutD xs lo hi)) = some ((eL c).e (cut xs lo hi)) := by rw [l.ls, Option.map_some, cutD_map]; rfl
  cases d with
  | tup x => exact absurd rfl (l.nt x)
  | _ => exact e
theorem g_slT {L L' : List D} {lo hi : Option Int} (h : cutD L lo hi = L') : gSlice (.tup L) lo hi M = some (.tup L') := by subst h; rfl
theorem x_sliceN {c : Ec A} {xs : List A} {fl fh : FO} {lo hi : Option Int} (ha : fa ρ M = some (x, M1)) (hl : fl ρ M1 = some (lo, M2)) (hh : fh ρ M2 = some (hi, M3)) (l : Ls x M3 c xs) : fSliceN fa fl fh ρ M = some ((cut xs lo hi).map c.e, M3) := by
  rw [ev_sliceN, ha, Option.bind_some]; simp only []; rw [hl, Option.bind_some]; simp only []; rw [hh, Option.bind_some]; simp only []; rw [l.ls, Option.bind_some, cutD_map]
theorem x_rev {c : Ec A} {xs : List A} (ha : fa ρ M = some (x, M1)) (l : Ls x M1 c xs) : fRevN fa ρ M = some (xs.reverse.map c.e, M1) := by
  rw [ev_rev, ha, Option.bind_some]; simp only []; rw [l.ls, Option.bind_some, List.map_reverse]
theorem tcat_ok {xs ys zs : List A} (h : tcat xs ys = some zs) : xs.length + ys.length ≤ LINE ∧ zs = xs ++ ys := by
  unfold tcat at h
  split at h
  · rename_i q; cases h; exact ⟨q, rfl⟩
  · cases h
theorem g_catV {c : Ec A} {xs ys zs : List A} (h : tcat xs ys = some zs) : gAdd ((eV c).e xs) ((eV c).e ys) M = some ((eV c).e zs) := by
  obtain ⟨hq, rfl⟩ := tcat_ok h
  show (if (xs.map c.e).length + (ys.map c.e).length ≤ LINE then some (D.tup (xs.map c.e ++ ys.map c.e)) else none) = _
  rw [if_pos (by simpa using hq), ← List.map_append]; rfl
theorem g_catL {c : Ec A} {xs ys zs : List A} (l : Lt x M c xs) (r : Lt y M c ys) (h : tcat xs ys = some zs) : gAdd x y M = some ((eL c).e zs) := by
  obtain ⟨hq, rfl⟩ := tcat_ok h
  have e : (match ltOf x M, ltOf y M with
    | some a, some b => if a.length + b.length ≤ LINE then some (D.lst (a ++ b)) else none
    | _, _ => none) = some ((eL c).e (xs ++ ys)) := by
    rw [l.lt, r.lt]
    simp only [List.length_map]
    rw [if_pos hq, ← List.map_append]; rfl
  unfold gAdd
  split
  · exact absurd rfl (l.ni _)
  · exact absurd rfl (l.ns _)
  · exact absurd rfl (l.nt _)
  · exact e
theorem g_catT {L L' : List D} (h : Nat.ble (L.length + L'.length) 10000 = true) : gAdd (.tup L) (.tup L') M = some (.tup (L ++ L')) := by
  show (if L.length + L'.length ≤ LINE then some (D.tup (L ++ L')) else none) = _
  rw [if_pos (Nat.le_trans (Nat.le_of_ble_eq_true h) (by decide))]
theorem x_catN {c : Ec A} {xs ys zs : List A} (ha : fa ρ M = some (x, M1)) (hb : fb ρ M1 = some (y, M2)) (l : Lt x M2 c xs) (r : Lt y M2 c ys) (h : tcat xs ys = some zs) : f2N gCat fa fb ρ M = some (zs.map c.e, M2) := by
  obtain ⟨hq, rfl⟩ := tcat_ok h
  unfold f2N
  rw [ha, Option.bind_some]; simp only []; rw [hb, Option.bind_some]; simp only []
  unfold gCat
  rw [l.lt, r.lt]
  simp only [List.length_map]
  rw [if_pos hq, ← List.map_append]; rfl
theorem flat_map (f : A → B) (xs : List A) : ∀ n : Nat, (List.replicate n (xs.map f)).flatten = (List.replicate n xs).flatten.map f
  | 0 => rfl
  | n + 1 => by rw [List.replicate_succ, List.replicate_succ, List.flatten_cons, List.flatten_cons, flat_map f xs n, List.map_append]
theorem trepL_ok {xs zs : List A} {j : Int} (h : trepL xs j = some zs) : (decide (-(9223372036854775808) ≤ j) && (decide (j < 9223372036854775808) && decide (xs.length * j.toNat ≤ LINE))) = true ∧ zs = (List.replicate j.toNat xs).flatten := by
  unfold trepL at h
  split at h
  · rename_i q; cases h; exact ⟨q, rfl⟩
  · cases h
theorem g_repL {c : Ec A} {xs zs : List A} {j : Int} (l : Lt x M c xs) (h : trepL xs j = some zs) : gMul x (eI.e j) M = some ((eL c).e zs) := by
  obtain ⟨hq, rfl⟩ := trepL_ok h
  have e : (match ltOf x M with
    | some xs => if decide (-(9223372036854775808) ≤ j) && (decide (j < 9223372036854775808) && decide (xs.length * j.toNat ≤ LINE)) then some (D.lst (List.replicate j.toNat xs).flatten) else none
    | none => none) = some ((eL c).e (List.replicate j.toNat xs).flatten) := by
    rw [l.lt]
    simp only [List.length_map]
    rw [if_pos hq, flat_map]; rfl
  cases x with
  | int i => exact absurd rfl (l.ni _)
  | _ => exact e
theorem trepV_map {c : A → D} {xs zs : List A} {j : Int} (h : trepV xs j = some zs) : gRepT (.tup (xs.map c)) (.int j) M = some (.tup (zs.map c)) := by
  show (if j = 1 then some (D.tup (xs.map c)) else if (!(xs.map c).isEmpty && decide (2 ≤ j)) && (decide (j ≤ 1000) && decide ((xs.map c).length ≤ 1000)) then some (.tup (List.replicate j.toNat (xs.map c)).flatten) else none) = _
  unfold trepV at h
  have e1 : (xs.map c).isEmpty = xs.isEmpty := by cases xs <;> rfl
  rw [e1, List.length_map, flat_map]
  split at h
  · rename_i q; cases h; rw [if_pos q]
  · rename_i q
    rw [if_neg q]
    split at h
    · rename_i q2; cases h; rw [if_pos q2]
    · cases h
theorem g_repV {c : Ec A} {xs zs : List A} {j : Int} (h : trepV xs j = some zs) : gRepT ((eV c).e xs) (eI.e j) M = some ((eV c).e zs) := trepV_map h
theorem g_repZ {c : Ec A} {xs zs : List A} {j : Int} (h : trepZ xs j = some zs) : gRepZ ((eV c).e xs) (eI.e j) M = some ((eV c).e zs) := by
  show (if j = 0 then (if (xs.map c.e).isEmpty = true then none else some (.tup [])) else gRepT (.tup (xs.map c.e)) (.int j) M) = _
  unfold trepZ at h
  have e1 : (xs.map c.e).isEmpty = xs.isEmpty := by cases xs <;> rfl
  rw [e1]
  split at h
  · rename_i q
    rw [if_pos q]
    split at h
    · cases h
    · rename_i q2; cases h; rw [if_neg q2]; rfl
  · rename_i q; rw [if_neg q]; exact trepV_map h
/-! built-ins -/
theorem x_b {g : GN} (ha : f ρ M = some (ds, M1)) (hg : g ds M1 = some d) : fB g f ρ M = some (d, M1) := by rw [ev_b, ha, Option.bind_some]; simp only []; rw [hg]; rfl
theorem x_bN {g : GNN} {xs : List D} (ha : f ρ M = some (ds, M1)) (hg : g ds M1 = some xs) : fBN g f ρ M = some (xs, M1) := by rw [ev_bN, ha, Option.bind_some]; simp only []; rw [hg]; rfl
end
section
variable {M : Mem} {c : Ec A} {d : D} {xs : List A}
theorem b_len (s : Sq d M c xs) : gLen [d] M = some (eI.e (xs.length : Int)) := by
  have e : (sqOf d M).map (fun xs => D.int xs.length) = some (eI.e (xs.length : Int)) := by rw [s.sq, Option.map_some, List.length_map]; rfl
  cases d with
  | str x => exact absurd rfl (s.ns x)
  | _ => exact e
theorem b_lenT {L : List D} {n : Int} (h : (L.length : Int) = n) : gLen [.tup L] M = some (eI.e n) := by subst h; rfl
theorem b_int (i : Int) : gInt [eI.e i] M = some (eI.e i) := rfl
theorem b_intb (b : Bool) : gInt [eB.e b] M = some (eI.e (if b = true then 1 else 0)) := ev_intb M b
theorem b_abs (i : Int) : gAbs [eI.e i] M = some (eI.e (i.natAbs : Int)) := ev_abs M i
theorem b_gcd (i j : Int) : gGcd [eI.e i, eI.e j] M = some (eI.e ((Nat.gcd i.natAbs j.natAbs : Nat) : Int)) := rfl
theorem b_max2 (i j : Int) : gMax2 [eI.e i, eI.e j] M = some (eI.e (max i j)) := by
  show some (D.int (if j > i then j else i)) = some (D.int (max i j))
  congr 2; omega
theorem b_min2 (i j : Int) : gMin2 [eI.e i, eI.e j] M = some (eI.e (min i j)) := by
  show some (D.int (if j < i then j else i)) = some (D.int (min i j))
  congr 2; omega
theorem intsOf_map : ∀ ns : List Int, intsOf (ns.map eI.e) = some ns
  | [] => rfl
  | n :: ns => by
    show (intsOf (ns.map eI.e)).map (n :: ·) = _
    rw [intsOf_map ns]; rfl
theorem blsOf_map : ∀ ns : List Bool, blsOf (ns.map eB.e) = some ns
  | [] => rfl
  | n :: ns => by
    show (blsOf (ns.map eB.e)).map (n :: ·) = _
    rw [blsOf_map ns]; rfl
theorem b_sum {ns : List Int} (s : Sq d M eI ns) : gSumA [d] M = some (eI.e ns.sum) := by
  show (sqOf d M).bind (fun xs => (intsOf xs).map fun ns => D.int ns.sum) = _
  rw [s.sq, Option.bind_some, intsOf_map]; rfl
theorem b_any {bs : List Bool} (l : Ls d M eB bs) : gAny [d] M = some (eB.e (bs.any id)) := by
  show (lsOf d M).bind (fun xs => (blsOf xs).map fun bs => D.bl (bs.any id)) = _
  rw [l.ls, Option.bind_some, blsOf_map]; rfl
theorem b_all {bs : List Bool} (l : Ls d M eB bs) : gAll [d] M = some (eB.e (bs.all id)) := by
  show (lsOf d M).bind (fun xs => (blsOf xs).map fun bs => D.bl (bs.all id)) = _
  rw [l.ls, Option.bind_some, blsOf_map]; rfl
theorem b_tuple (s : Sq d M c xs) : gTuple [d] M = some ((eV c).e xs) := by
  show (sqOf d M).map D.tup = _
  rw [s.sq]; rfl
theorem b_lenU {ns : List Int} {n : Int} (s : Sq d M eI ns) (h : tlenU ns = some n) : gLenU [d] M = some (eI.e n) := by
  show (sqOf d M).bind (fun xs => (intsOf xs).bind fun ns => if ns.length ≤ 4000 then some (D.int (sortU ns).length) else none) = _
  rw [s.sq, Option.bind_some, intsOf_map, Option.bind_some]
  unfold tlenU at h
  split at h
  · rename_i q; rw [if_pos q]; cases h; rfl
  · cases h
theorem n_list (s : Sq d M c xs) : gList [d] M = some (xs.map c.e) := s.sq
theorem n_sortU {ns ms : List Int} (s : Sq d M eI ns) (h : tsortU ns = some ms) : gSortU [d] M = some (ms.map eI.e) := by
  show (sqOf d M).bind (fun xs => (intsOf xs).bind fun ns => if ns.length < 64 then some ((sortU ns).map D.int) else none) = _
  rw [s.sq, Option.bind_some, intsOf_map, Option.bind_some]
  unfold tsortU at h
  split at h
  · rename_i q; rw [if_pos q]; cases h; rfl
  · cases h
variable {lt : A → A → Bool} {k : Nat}
theorem okAl_map [DecidableEq A] [q : Eqv k c] [o : Ord c lt] (hk : k ≤ 59) (xs : List A) : okAl (xs.map c.e) = true := by
  unfold okAl
  rw [nls_map o.nl xs, dps_map (q.dp 59 hk) xs]
  simp only [Bool.and_self, Bool.true_and, Bool.and_eq_true, List.all_eq_true]
  refine ⟨fun a ha b hb => ?_, fun a ha => ?_⟩
  · obtain ⟨x, _, rfl⟩ := List.mem_map.mp ha
    obtain ⟨y, _, rfl⟩ := List.mem_map.mp hb
    exact o.al x y
  · obtain ⟨x, _, rfl⟩ := List.mem_map.mp ha
    rw [o.nn]; rfl
theorem minDd_map [o : Ord c lt] : ∀ (xs : List A) (x : A), minDd (c.e x) (xs.map c.e) = c.e (xs.foldl (fun a y => if lt y a = true then y else a) x)
  | [], _ => rfl
  | y :: xs, x => by
    show minDd (if PySem.W.dataLt (c.e y).py (c.e x).py = true then c.e y else c.e x) (xs.map c.e) = _
    rw [o.dl, show (if lt y x = true then c.e y else c.e x) = c.e (if lt y x = true then y else x) by split <;> rfl, minDd_map xs]; rfl
theorem maxDd_map [o : Ord c lt] : ∀ (xs : List A) (x : A), maxDd (c.e x) (xs.map c.e) = c.e (xs.foldl (fun a y => if lt a y = true then y else a) x)
  | [], _ => rfl
  | y :: xs, x => by
    show maxDd (if PySem.W.dataLt (c.e x).py (c.e y).py = true then c.e y else c.e x) (xs.map c.e) = _
    rw [o.dl, show (if lt x y = true then c.e y else c.e x) = c.e (if lt x y = true then y else x) by split <;> rfl, maxDd_map xs]; rfl
theorem b_min {a : A} [DecidableEq A] [q : Eqv k c] [o : Ord c lt] (s : Sq d M c xs) (h : tmin lt xs = some a) (hk : Nat.ble k 59 = true := by decide) : gMin1 [d] M = some (c.e a) := by
  show (sqOf d M).bind (fun l => match l with | x :: xs => if okAl (x :: xs) = true then some (minDd x xs) else none | [] => none) = _
  rw [s.sq, Option.bind_some]
  cases xs with
  | nil => cases h
  | cons x xs =>
    cases h
    show (if okAl ((x :: xs).map c.e) = true then some (minDd (c.e x) (xs.map c.e)) else none) = _
    rw [if_pos (okAl_map (Nat.le_of_ble_eq_true hk) _), minDd_map]
theorem b_max {a : A} [DecidableEq A] [q : Eqv k c] [o : Ord c lt] (s : Sq d M c xs) (h : tmax lt xs = some a) (hk : Nat.ble k 59 = true := by decide) : gMax1 [d] M = some (c.e a) := by
  show (sqOf d M).bind (fun l => match l with | x :: xs => if okAl (x :: xs) = true then some (maxDd x xs) else none | [] => none) = _
  rw [s.sq, Option.bind_some]
  cases xs with
  | nil => cases h
  | cons x xs =>
    cases h
    show (if okAl ((x :: xs).map c.e) = true then some (maxDd (c.e x) (xs.map c.e)) else none) = _
    rw [if_pos (okAl_map (Nat.le_of_ble_eq_true hk) _), maxDd_map]
class Srt (c : Ec A) : Prop where
  s : ∀ xs : List A, srtb (xs.map c.e) = true
theorem srt_t {f : A → D} (h : ∀ a, ∃ ds, f a = .tup ds) (xs : List A) : srtb (xs.map f) = true := by
  unfold srtb
  rw [Bool.or_eq_true]
  refine .inl (List.all_eq_true.mpr fun x hx => ?_)
  obtain ⟨a, _, rfl⟩ := List.mem_map.mp hx
  obtain ⟨ds, e⟩ := h a
  rw [e]
theorem srt_i {f : A → D} (h : ∀ a, (∃ i, f a = .int i) ∨ (∃ i, f a = .bl i)) (xs : List A) : srtb (xs.map f) = true := by
  unfold srtb
  rw [Bool.or_eq_true]
  refine .inr (List.all_eq_true.mpr fun x hx => ?_)
  obtain ⟨a, _, rfl⟩ := List.mem_map.mp hx
  rcases h a with ⟨d, e⟩ | ⟨d, e⟩ <;> rw [e]
instance sr_I : Srt eI := ⟨srt_i fun a => .inl ⟨a, rfl⟩⟩
instance sr_B : Srt eB := ⟨srt_i fun a => .inr ⟨a, rfl⟩⟩
section
variable {A1 A2 A3 A4 A5 : Type} {a1 : Ec A1} {a2 : Ec A2} {a3 : Ec A3} {a4 : Ec A4} {a5 : Ec A5}
instance sr_V : Srt (eV a1) := ⟨srt_t fun _ => ⟨_, rfl⟩⟩
instance sr_6 {A6 : Type} {a6 : Ec A6} : Srt (e6 a1 a2 a3 a4 a5 a6) := ⟨srt_t fun _ => ⟨_, rfl⟩⟩
instance sr_0 : Srt e0 := ⟨srt_t fun _ => ⟨_, rfl⟩⟩
instance sr_1 : Srt (e1 a1) := ⟨srt_t fun _ => ⟨_, rfl⟩⟩
instance sr_2 : Srt (e2 a1 a2) := ⟨srt_t fun _ => ⟨_, rfl⟩⟩
instance sr_3 : Srt (e3 a1 a2 a3) := ⟨srt_t fun _ => ⟨_, rfl⟩⟩
instance sr_4 : Srt (e4 a1 a2 a3 a4) := ⟨srt_t fun _ => ⟨_, rfl⟩⟩
instance sr_5 : Srt (e5 a1 a2 a3 a4 a5) := ⟨srt_t fun _ => ⟨_, rfl⟩⟩
end
theorem n_sort [DecidableEq A] [q : Eqv k c] [o : Ord c lt] [t : Srt c] (l : Sq d M c xs) (hk : Nat.ble k 59 = true := by decide) : gSortA [d] M = some ((tsort lt xs).map c.e) := by
  show (sqOf d M).bind (fun xs => if (okAl xs && srtb xs) = true then some (sortD xs) else none) = _
  rw [l.sq, Option.bind_some, if_pos (by rw [okAl_map (Nat.le_of_ble_eq_true hk), t.s]; rfl)]
  congr 1
  refine (List.map_mergeSort (f := c.e) (r := fun a b => !lt b a) (s := leD) fun a _ b _ => ?_).symm
  show _ = PySem.W.dataLe false D.py (c.e a) (c.e b)
  rw [PySem.W.dataLe_eq]
  show _ = !PySem.W.dataLt (c.e b).py (c.e a).py
  rw [o.dl]
end
end TL
namespace TL
open PySem PySem.Spec PyProof.Rows L2 PF
variable {A B C S A' B' C' E : Type}
/-! ### what is walked -/
section
variable {ρ : Rho} {M M1 M2 : Mem} {fa : FE} {f : FA} {d : D} {c : Ec A} {xs : List A}
theorem i_sq (ha : fa ρ M = some (d, M1)) (s : Sq d M1 c xs) (hr : d.isRef = false) : fiSq fa ρ M = some ((xs.map c.e, none), M1) := by
  unfold fiSq
  rw [ha, Option.bind_some]
  simp only []
  have e : (sqOf d M1).bind (fun xs => some ((xs, (none : KK)), M1)) = some ((xs.map c.e, none), M1) := by rw [s.sq]; rfl
  cases d with
  | ref _ => cases hr
  | _ => exact e
theorem i_ref {n : Nat} (ha : fa ρ M = some (.ref n, M1)) (h : gm M1 n = some (cl c xs)) : fiSq fa ρ M = some ((xs.map c.e, some (.inl n)), M1) := by
  unfold fiSq
  rw [ha, Option.bind_some]
  simp only []
  rw [ls_ref h]; rfl
theorem trg_ok {lo hi : Int} {xs : List Int} (h : trg lo hi = some xs) : okR lo hi = true ∧ xs = upto lo (hi - lo).toNat := by
  unfold trg at h
  split at h
  · rename_i q; cases h; exact ⟨q, rfl⟩
  · cases h
theorem upto_map (lo : Int) (n : Nat) : rgD lo n = (upto lo n).map eI.e := by unfold rgD upto; rw [List.map_map]; rfl
theorem i_rg1 {j : Int} {xs : List Int} (hf : f ρ M = some ([eI.e j], M1)) (h : trg 0 j = some xs) : fiRg1 f ρ M = some ((xs.map eI.e, none), M1) := by
  obtain ⟨h1, rfl⟩ := trg_ok h
  rw [ev_rg1, hf, Option.bind_some]
  show rg1 [.int j] M1 = _
  rw [ev_rgh1 _ h1, ← upto_map, Int.sub_zero]
theorem i_rg2 {i j : Int} {xs : List Int} (hf : f ρ M = some ([eI.e i, eI.e j], M1)) (h : trg i j = some xs) : fiRg2 f ρ M = some ((xs.map eI.e, none), M1) := by
  obtain ⟨h1, rfl⟩ := trg_ok h
  rw [ev_rg2, hf, Option.bind_some]
  show rg2 [.int i, .int j] M1 = _
  rw [ev_rgh2 _ h1, ← upto_map]
theorem x_lrg1 {j : Int} {xs : List Int} (hf : f ρ M = some ([eI.e j], M1)) (h : trg 0 j = some xs) : fLstRg1 f ρ M = some (xs.map eI.e, M1) := by
  obtain ⟨h1, rfl⟩ := trg_ok h
  unfold fLstRg1
  rw [hf, Option.bind_some]
  show (if okR 0 j then some (rgD 0 j.toNat, M1) else none) = _
  rw [if_pos h1, ← upto_map, Int.sub_zero]
theorem x_lrg2 {i j : Int} {xs : List Int} (hf : f ρ M = some ([eI.e i, eI.e j], M1)) (h : trg i j = some xs) : fLstRg2 f ρ M = some (xs.map eI.e, M1) := by
  obtain ⟨h1, rfl⟩ := trg_ok h
  unfold fLstRg2
  rw [hf, Option.bind_some]
  show (if okR i j then some (rgD i (j - i).toNat, M1) else none) = _
  rw [if_pos h1, ← upto_map]
theorem x_trg1 {j : Int} {xs : List Int} (hf : f ρ M = some ([eI.e j], M1)) (h : trg 0 j = some xs) : fTupRg1 f ρ M = some ((eV eI).e xs, M1) := by
  obtain ⟨h1, rfl⟩ := trg_ok h
  unfold fTupRg1
  rw [hf, Option.bind_some]
  show (if okR 0 j then some (D.tup (rgD 0 j.toNat), M1) else none) = _
  rw [if_pos h1, upto_map, Int.sub_zero]; rfl
theorem chk_0 {M : Mem} {L : List D} : chk none L M = true := rfl
theorem chk_r {n : Nat} (h : gm M n = some (cl c xs)) : chk (some (.inl n)) (xs.map c.e) M = true := by
  unfold chk
  simp only [gm_at h]
  exact D.beqs_refl _
end
/-! ### comprehensions -/
section
variable {c : Mem → Bool} {t : FG} {ft : FT} {fe : FE} {ρ : Rho} {cA : Ec A} {cB : Ec B}
theorem tfilt_some (p : A → Bool) : ∀ xs : List A, tfilt (fun x => some (p x)) xs = some (xs.filter p)
  | [] => rfl
  | x :: xs => by
    rw [tfilt, Option.bind_some, tfilt_some p xs, Option.bind_some, List.filter_cons]
theorem tmap_some (f : A → B) : ∀ xs : List A, tmap (fun x => some (f x)) xs = some (xs.map f)
  | [] => rfl
  | x :: xs => by rw [tmap, Option.bind_some, tmap_some f xs]; rfl
/-- the core: a state s that stands for the changeable lists -/
theorem lcore {p : A → Option Bool} {f : A → S → Option (B × S)} (Mm : S → Mem) (hc : ∀ s, c (Mm s) = true)
    (step : ∀ x s, ∃ ρ', t (cA.e x) ρ = some ρ' ∧ (∀ b, p x = some b → ft ρ' (Mm s) = some (b, Mm s)) ∧ ∀ y s1, f x s = some (y, s1) → fe ρ' (Mm s) = some (cB.e y, Mm s1)) :
    ∀ (xs zs : List A) (ys : List B) (s s' : S) (acc : List D), tfilt p xs = some zs → tmapS f zs s = some (ys, s') → lcLoop c t ft fe ρ (xs.map cA.e) acc (Mm s) = some (acc ++ ys.map cB.e, Mm s')
  | [], zs, ys, s, s', acc, hz, h => by
    cases hz; cases h
    rw [List.map_nil, lcLoop, if_pos (hc s), List.map_nil, List.append_nil]
  | x :: xs, zs, ys, s, s', acc, hz, h => by
    obtain ⟨b, hb, hz⟩ := bnd hz
    obtain ⟨zs', hz', hz⟩ := bnd hz
    obtain ⟨ρ', e1, e2, e3⟩ := step x s
    rw [List.map_cons, lcLoop, if_pos (hc s), e1, Option.bind_some, e2 b hb, Option.bind_some]
    simp only []
    cases b with
    | false =>
      rw [if_neg Bool.false_ne_true] at hz ⊢
      cases hz
      exact lcore Mm hc step xs zs ys s s' acc hz' h
    | true =>
      rw [if_pos rfl] at hz ⊢
      cases hz
      obtain ⟨⟨y, s1⟩, hy, h⟩ := bnd h
      obtain ⟨⟨ys', s2⟩, hys, h⟩ := bnd h
      cases h
      rw [e3 y s1 hy, Option.bind_some]
      simp only []
      rw [lcore Mm hc step xs zs' ys' s1 _ _ hz' hys, List.map_cons, List.append_assoc]; rfl
theorem tmap_S {f : A → Option B} : ∀ {xs : List A} {ys : List B}, tmap f xs = some ys → tmapS (fun x (_ : Unit) => (f x).map fun y => (y, ())) xs () = some (ys, ())
  | [], ys, h => by cases h; rfl
  | x :: xs, ys, h => by
    obtain ⟨y, hy, h⟩ := bnd h
    obtain ⟨ys', hys, h⟩ := bnd h
    cases h
    rw [tmapS, hy, Option.map_some, Option.bind_some, tmap_S hys]; rfl
theorem lclM {p : A → Option Bool} {f : A → Option B} {M : Mem} (hc : c M = true)
    (step : ∀ x, ∃ ρ', t (cA.e x) ρ = some ρ' ∧ (∀ b, p x = some b → ft ρ' M = some (b, M)) ∧ ∀ y, f x = some y → fe ρ' M = some (cB.e y, M))
    (xs zs : List A) (ys : List B) (acc : List D) (hz : tfilt p xs = some zs) (h : tmap f zs = some ys) : lcLoop c t ft fe ρ (xs.map cA.e) acc M = some (acc ++ ys.map cB.e, M) :=
  lcore (S := Unit) (fun _ => M) (fun _ => hc) (fun x _ => by
    obtain ⟨ρ', h1, h2, h3⟩ := step x
    refine ⟨ρ', h1, h2, fun y s1 hy => ?_⟩
    obtain ⟨y', hy', e⟩ := Option.map_eq_some_iff.mp hy
    cases e
    exact h3 y hy') xs zs ys () () acc hz (tmap_S h)
variable {fi : FI} {vs : List Nat} {M M1 : Mem} {kk : KK} {xs zs : List A} {ys : List B}
theorem x_lcS {f : A → S → Option (B × S)} (Mm : S → Mem) {s s' : S} (hi : fi ρ M = some ((xs.map cA.e, kk), Mm s)) (hc : ∀ s, chk kk (xs.map cA.e) (Mm s) = true) (h : tmapS f xs s = some (ys, s'))
    (step : ∀ x s, ∃ ρ', t (cA.e x) (wipeR ρ vs) = some ρ' ∧ ∀ y s1, f x s = some (y, s1) → fe ρ' (Mm s) = some (cB.e y, Mm s1)) : fLC vs fi t fYes fe ρ M = some (ys.map cB.e, Mm s') := by
  rw [ev_lc, hi, Option.bind_some]
  exact (lcore (p := fun _ => some true) Mm hc (fun x s => by
    obtain ⟨ρ', h1, h2⟩ := step x s
    exact ⟨ρ', h1, fun b hb => by cases hb; rfl, h2⟩) xs xs ys s s' [] (by rw [tfilt_some, List.filter_eq_self.mpr fun _ _ => rfl]) h)
theorem x_lcSf {p : A → Bool} {f : A → S → Option (B × S)} (Mm : S → Mem) {s s' : S} (hi : fi ρ M = some ((xs.map cA.e, kk), Mm s)) (hc : ∀ s, chk kk (xs.map cA.e) (Mm s) = true) (h : tmapS f (xs.filter p) s = some (ys, s'))
    (step : ∀ x s, ∃ ρ', t (cA.e x) (wipeR ρ vs) = some ρ' ∧ ft ρ' (Mm s) = some (p x, Mm s) ∧ ∀ y s1, f x s = some (y, s1) → fe ρ' (Mm s) = some (cB.e y, Mm s1)) : fLC vs fi t ft fe ρ M = some (ys.map cB.e, Mm s') := by
  rw [ev_lc, hi, Option.bind_some]
  exact (lcore (p := fun x => some (p x)) Mm hc (fun x s => by
    obtain ⟨ρ', h1, h2, h3⟩ := step x s
    exact ⟨ρ', h1, fun b hb => by cases hb; exact h2, h3⟩) xs _ ys s s' [] (tfilt_some p xs) h)
theorem x_lcG {p : A → Option Bool} {f : A → Option B} (hi : fi ρ M = some ((xs.map cA.e, kk), M1)) (hc : chk kk (xs.map cA.e) M1 = true) (hz : tfilt p xs = some zs) (h : tmap f zs = some ys)
    (step : ∀ x, ∃ ρ', t (cA.e x) (wipeR ρ vs) = some ρ' ∧ (∀ b, p x = some b → ft ρ' M1 = some (b, M1)) ∧ ∀ y, f x = some y → fe ρ' M1 = some (cB.e y, M1)) : fLC vs fi t ft fe ρ M = some (ys.map cB.e, M1) := by
  rw [ev_lc, hi, Option.bind_some]
  exact lclM hc step xs zs ys [] hz h
/-- pure -/
theorem x_lc0 {g : A → B} (hi : fi ρ M = some ((xs.map cA.e, kk), M1)) (hc : chk kk (xs.map cA.e) M1 = true)
    (step : ∀ x, ∃ ρ', t (cA.e x) (wipeR ρ vs) = some ρ' ∧ fe ρ' M1 = some (cB.e (g x), M1)) : fLC vs fi t fYes fe ρ M = some ((xs.map g).map cB.e, M1) :=
  x_lcG (p := fun _ => some true) (f := fun x => some (g x)) hi hc (by rw [tfilt_some, List.filter_eq_self.mpr fun _ _ => rfl]) (tmap_some g xs) fun x => by
    obtain ⟨ρ', h1, h2⟩ := step x
    exact ⟨ρ', h1, fun b hb => by cases hb; rfl, fun y hy => by cases hy; exact h2⟩
theorem x_lc0f {p : A → Bool} {g : A → B} (hi : fi ρ M = some ((xs.map cA.e, kk), M1)) (hc : chk kk (xs.map cA.e) M1 = true)
    (step : ∀ x, ∃ ρ', t (cA.e x) (wipeR ρ vs) = some ρ' ∧ ft ρ' M1 = some (p x, M1) ∧ fe ρ' M1 = some (cB.e (g x), M1)) : fLC vs fi t ft fe ρ M = some (((xs.filter p).map g).map cB.e, M1) :=
  x_lcG (p := fun x => some (p x)) (f := fun x => some (g x)) hi hc (tfilt_some p xs) (tmap_some g _) fun x => by
    obtain ⟨ρ', h1, h2, h3⟩ := step x
    exact ⟨ρ', h1, fun b hb => by cases hb; exact h2, fun y hy => by cases hy; exact h3⟩
theorem x_lcM {f : A → Option B} (hi : fi ρ M = some ((xs.map cA.e, kk), M1)) (hc : chk kk (xs.map cA.e) M1 = true) (h : tmap f xs = some ys)
    (step : ∀ x, ∃ ρ', t (cA.e x) (wipeR ρ vs) = some ρ' ∧ ∀ y, f x = some y → fe ρ' M1 = some (cB.e y, M1)) : fLC vs fi t fYes fe ρ M = some (ys.map cB.e, M1) :=
  x_lcG (p := fun _ => some true) hi hc (by rw [tfilt_some, List.filter_eq_self.mpr fun _ _ => rfl]) h fun x => by
    obtain ⟨ρ', h1, h2⟩ := step x
    exact ⟨ρ', h1, fun b hb => by cases hb; rfl, h2⟩
theorem x_lcMf {p : A → Bool} {f : A → Option B} (hi : fi ρ M = some ((xs.map cA.e, kk), M1)) (hc : chk kk (xs.map cA.e) M1 = true) (h : tmap f (xs.filter p) = some ys)
    (step : ∀ x, ∃ ρ', t (cA.e x) (wipeR ρ vs) = some ρ' ∧ ft ρ' M1 = some (p x, M1) ∧ ∀ y, f x = some y → fe ρ' M1 = some (cB.e y, M1)) : fLC vs fi t ft fe ρ M = some (ys.map cB.e, M1) :=
  x_lcG (p := fun x => some (p x)) hi hc (tfilt_some p xs) h fun x => by
    obtain ⟨ρ', h1, h2, h3⟩ := step x
    exact ⟨ρ', h1, fun b hb => by cases hb; exact h2, h3⟩
theorem x_lcF {p : A → Option Bool} {g : A → B} (hi : fi ρ M = some ((xs.map cA.e, kk), M1)) (hc : chk kk (xs.map cA.e) M1 = true) (hz : tfilt p xs = some zs)
    (step : ∀ x, ∃ ρ', t (cA.e x) (wipeR ρ vs) = some ρ' ∧ (∀ b, p x = some b → ft ρ' M1 = some (b, M1)) ∧ fe ρ' M1 = some (cB.e (g x), M1)) : fLC vs fi t ft fe ρ M = some ((zs.map g).map cB.e, M1) :=
  x_lcG (f := fun x => some (g x)) hi hc hz (tmap_some g _) fun x => by
    obtain ⟨ρ', h1, h2, h3⟩ := step x
    exact ⟨ρ', h1, h2, fun y hy => by cases hy; exact h3⟩
end
/-! ### two fors -/
def tflat (yss : List (List B)) : Option (List B) := if yss.flatten.length ≤ LINE then some yss.flatten else none
section
variable {c : Mem → Bool} {t t1 : FG} {ft ft1 : FT} {fe : FE} {fi fi1 : FI} {vs vs1 : List Nat} {ρ : Rho} {cA : Ec A} {cB : Ec B} {M M1 : Mem}
theorem lcl2 {p : A → Option Bool} {F : A → Option (List B)} (hc : c M = true)
    (step : ∀ x, ∃ ρ', t (cA.e x) ρ = some ρ' ∧ (∀ b, p x = some b → ft ρ' M = some (b, M)) ∧ ∀ ys, F x = some ys → ∃ ds kk1, fi1 ρ' M = some ((ds, kk1), M) ∧ ∀ acc, lcLoop (chk kk1 ds) t1 ft1 fe (wipeR ρ' vs1) ds acc M = some (acc ++ ys.map cB.e, M)) :
    ∀ (xs zs : List A) (yss : List (List B)) (acc : List D), tfilt p xs = some zs → tmap F zs = some yss → lc2Loop c t ft fi1 vs1 t1 ft1 fe ρ (xs.map cA.e) acc M = some (acc ++ yss.flatten.map cB.e, M)
  | [], zs, ys, acc, hz, h => by
    cases hz; cases h
    rw [List.map_nil, lc2Loop, if_pos hc, List.flatten_nil, List.map_nil, List.append_nil]
  | x :: xs, zs, ys, acc, hz, h => by
    obtain ⟨b, hb, hz⟩ := bnd hz
    obtain ⟨zs', hz', hz⟩ := bnd hz
    obtain ⟨ρ', e1, e2, e3⟩ := step x
    rw [List.map_cons, lc2Loop, if_pos hc, e1, Option.bind_some, e2 b hb, Option.bind_some]
    simp only []
    cases b with
    | false =>
      rw [if_neg Bool.false_ne_true] at hz ⊢
      cases hz
      exact lcl2 hc step xs zs ys acc hz' h
    | true =>
      rw [if_pos rfl] at hz ⊢
      cases hz
      obtain ⟨y, hy, h⟩ := bnd h
      obtain ⟨ys', hys, h⟩ := bnd h
      cases h
      obtain ⟨ds, kk1, g1, g2⟩ := e3 y hy
      rw [g1, Option.bind_some]
      simp only []
      rw [g2 acc, Option.bind_some]
      simp only []
      rw [lcl2 hc step xs zs' ys' _ hz' hys, List.flatten_cons, List.map_append, List.append_assoc]
theorem x_lc2 {kk : KK} {xs zs : List A} {yss : List (List B)} {ys : List B} {p : A → Option Bool} {F : A → Option (List B)} (hi : fi ρ M = some ((xs.map cA.e, kk), M1)) (hc : chk kk (xs.map cA.e) M1 = true) (hz : tfilt p xs = some zs) (h : tmap F zs = some yss) (hl : tflat yss = some ys)
    (step : ∀ x, ∃ ρ', t (cA.e x) (wipeR ρ vs) = some ρ' ∧ (∀ b, p x = some b → ft ρ' M1 = some (b, M1)) ∧ ∀ ys, F x = some ys → ∃ ds kk1, fi1 ρ' M1 = some ((ds, kk1), M1) ∧ ∀ acc, lcLoop (chk kk1 ds) t1 ft1 fe (wipeR ρ' vs1) ds acc M1 = some (acc ++ ys.map cB.e, M1)) :
    fLC2 vs vs1 fi t ft fi1 t1 ft1 fe ρ M = some (ys.map cB.e, M1) := by
  unfold tflat at hl
  split at hl
  · rename_i hq
    cases hl
    rw [ev_lc2, hi, Option.bind_some]
    simp only []
    rw [lcl2 hc step xs zs yss [] hz h, Option.bind_some]
    simp only [List.nil_append, List.length_map]
    rw [if_pos hq]
  · cases hl
/-- the inner for -/
theorem x_in {cC : Ec C} {kk1 : KK} {xs zs : List C} {ys : List B} {p : C → Option Bool} {f : C → Option B} (hi : fi1 ρ M = some ((xs.map cC.e, kk1), M)) (hc : chk kk1 (xs.map cC.e) M = true) (hz : tfilt p xs = some zs) (h : tmap f zs = some ys)
    (step : ∀ x, ∃ ρ', t1 (cC.e x) (wipeR ρ vs1) = some ρ' ∧ (∀ b, p x = some b → ft1 ρ' M = some (b, M)) ∧ ∀ y, f x = some y → fe ρ' M = some (cB.e y, M)) :
    ∃ ds kk1, fi1 ρ M = some ((ds, kk1), M) ∧ ∀ acc, lcLoop (chk kk1 ds) t1 ft1 fe (wipeR ρ vs1) ds acc M = some (acc ++ ys.map cB.e, M) :=
  ⟨_, _, hi, fun acc => lclM hc step xs zs ys acc hz h⟩
end
/-! ### tests -/
section
variable {ρ : Rho} {M M1 M2 : Mem} {ta tb : FT} {fa fb : FE} {d : D} {a b : Bool}
theorem k_tru (ha : fa ρ M = some (d, M1)) (h : gTru d M1 = some a) : fTru fa ρ M = some (a, M1) := by rw [ev_tru, ha, Option.bind_some]; simp only []; rw [h]; rfl
theorem k_not (ha : ta ρ M = some (a, M1)) : fNot ta ρ M = some (!a, M1) := by rw [ev_not, ha]; rfl
theorem k_and (ha : ta ρ M = some (a, M1)) (hb : tb ρ M1 = some (b, M1)) : fAnd ta tb ρ M = some (a && b, M1) := by
  rw [ev_and, ha, Option.bind_some]; cases a
  · rfl
  · rw [if_pos rfl, hb]; rfl
theorem k_or (ha : ta ρ M = some (a, M1)) (hb : tb ρ M1 = some (b, M1)) : fOr ta tb ρ M = some (a || b, M1) := by
  rw [ev_or, ha, Option.bind_some]; cases a
  · rw [if_neg Bool.false_ne_true, hb]; rfl
  · rfl
theorem k_andM {t : Option Bool} {r : Bool} (ha : ta ρ M = some (a, M1)) (h : (if a = true then t else some false) = some r) (hb : t = some r → tb ρ M1 = some (r, M1)) : fAnd ta tb ρ M = some (r, M1) := by
  rw [ev_and, ha, Option.bind_some]; cases a
  · cases h; rfl
  · exact hb h
theorem k_orM {t : Option Bool} {r : Bool} (ha : ta ρ M = some (a, M1)) (h : (if a = true then some true else t) = some r) (hb : t = some r → tb ρ M1 = some (r, M1)) : fOr ta tb ρ M = some (r, M1) := by
  rw [ev_or, ha, Option.bind_some]; cases a
  · exact hb h
  · cases h; rfl
theorem k_yes : fYes ρ M = some (true, M) := rfl
theorem x_not (ha : fa ρ M = some (d, M1)) (h : gTru d M1 = some a) : fNotV fa ρ M = some (eB.e (!a), M1) := by rw [ev_notV, ha, Option.bind_some]; simp only []; rw [h]; rfl
/-- and, or of bools as values -/
theorem x_and (ha : fa ρ M = some (eB.e a, M1)) (hb : fb ρ M1 = some (eB.e b, M1)) : fAndV fa fb ρ M = some (eB.e (a && b), M1) := by
  rw [ev_andV, ha, Option.bind_some]; simp only []; rw [tr_B, Option.bind_some]; cases a
  · rfl
  · rw [if_pos rfl]; exact hb
theorem x_or (ha : fa ρ M = some (eB.e a, M1)) (hb : fb ρ M1 = some (eB.e b, M1)) : fOrV fa fb ρ M = some (eB.e (a || b), M1) := by
  rw [ev_orV, ha, Option.bind_some]; simp only []; rw [tr_B, Option.bind_some]; cases a
  · rw [if_neg Bool.false_ne_true]; exact hb
  · rfl
theorem x_andM {t : Option Bool} {r : Bool} (ha : fa ρ M = some (eB.e a, M1)) (h : (if a = true then t else some false) = some r) (hb : t = some r → fb ρ M1 = some (eB.e r, M1)) : fAndV fa fb ρ M = some (eB.e r, M1) := by
  rw [ev_andV, ha, Option.bind_some]; simp only []; rw [tr_B, Option.bind_some]; cases a
  · cases h; rfl
  · exact hb h
theorem x_orM {t : Option Bool} {r : Bool} (ha : fa ρ M = some (eB.e a, M1)) (h : (if a = true then some true else t) = some r) (hb : t = some r → fb ρ M1 = some (eB.e r, M1)) : fOrV fa fb ρ M = some (eB.e r, M1) := by
  rw [ev_orV, ha, Option.bind_some]; simp only []; rw [tr_B, Option.bind_some]; cases a
  · exact hb h
  · cases h; rfl
/-- the same with the state that the second part leaves -/
theorem x_andS {c : Ec A} {Mm : S → Mem} {t : Option (Bool × S)} {r : Bool × S} {s0 : S} (ha : fa ρ M = some (eB.e a, Mm s0)) (h : (if a = true then t else some (false, s0)) = some r) (hb : t = some r → fb ρ (Mm s0) = some (eB.e r.1, Mm r.2)) : fAndV fa fb ρ M = some (eB.e r.1, Mm r.2) := by
  rw [ev_andV, ha, Option.bind_some]; simp only []; rw [tr_B, Option.bind_some]; cases a
  · cases h; rfl
  · exact hb h
theorem x_if {c : Ec A} {u v : A} {fc : FT} (hc : fc ρ M = some (a, M1)) (ha : fa ρ M1 = some (c.e u, M1)) (hb : fb ρ M1 = some (c.e v, M1)) : fIfE fc fa fb ρ M = some (c.e (if a = true then u else v), M1) := by
  rw [ev_ifE, hc, Option.bind_some]; cases a
  · exact hb
  · exact ha
theorem x_ifM {c : Ec A} {fc : FT} {t u : Option A} {r : A} (hc : fc ρ M = some (a, M1)) (h : (if a = true then t else u) = some r) (ha : t = some r → fa ρ M1 = some (c.e r, M1)) (hb : u = some r → fb ρ M1 = some (c.e r, M1)) : fIfE fc fa fb ρ M = some (c.e r, M1) := by
  rw [ev_ifE, hc, Option.bind_some]; cases a
  · exact hb h
  · exact ha h
end
/-! ### calls -/
/-- arguments that are values -/
structure AV (ds : List D) : Prop where
  p : ∀ M, argsP M ds = some ds
  r : anyRef ds = false
  i : ∀ n, refIn n ds = false
theorem av_nil : AV [] := ⟨fun _ => rfl, rfl, fun _ => rfl⟩
theorem av_d {d : D} {ds : List D} (hd : d.nr = true) (h : AV ds) : AV (d :: ds) := by
  have hr := ir_of hd
  refine ⟨fun M => ?_, ?_, fun n => ?_⟩
  · show (argP M d).bind (fun e => (argsP M ds).bind fun es => some (e :: es)) = _
    rw [argP_nr hd M, Option.bind_some, h.p M]; rfl
  · show (d.isRef || anyRef ds) = false
    rw [hr, h.r]; rfl
  · cases d with
    | ref _ => cases hr
    | _ => exact h.i n
theorem av_c (c : Ec A) (a : A) {ds : List D} (h : AV ds) : AV (c.e a :: ds) := av_d (c.nr a) h
/-- arguments, lists of the state among them -/
structure AR (M : Mem) (ds es : List D) : Prop where
  p : argsP M ds = some es
theorem ar_nil {M : Mem} : AR M [] [] := ⟨rfl⟩
theorem ar_c {M : Mem} (c : Ec A) (a : A) {ds es : List D} (h : AR M ds es) : AR M (c.e a :: ds) (c.e a :: es) := ⟨by
  show (argP M (c.e a)).bind (fun e => (argsP M ds).bind fun es => some (e :: es)) = _
  rw [argP_nr (c.nr a) M, Option.bind_some, h.p]; rfl⟩
theorem ar_r {M : Mem} {c : Ec A} {xs : List A} {n : Nat} {ds es : List D} (hn : gm M n = some (cl c xs)) (h : AR M ds es) : AR M (.ref n :: ds) ((eL c).e xs :: es) := ⟨by
  show (argP M (.ref n)).bind (fun e => (argsP M ds).bind fun es => some (e :: es)) = _
  have e : argP M (.ref n) = some ((eL c).e xs) := by
    unfold argP
    simp only [gm_at hn]
    exact if_pos (nrs_map c.nr xs)
  rw [e, Option.bind_some, h.p]; rfl⟩
section
variable {ρ : Rho} {M M1 M2 : Mem} {f : FA} {ds es : List D} {q : FnC} {cR : Ec A} {r : A}
theorem x_call {z : D × Mem} (hf : f ρ M = some (ds, M1)) (h : callP q ds M1 = some z) : fCall q f ρ M = some z := by rw [ev_call, hf]; exact h
theorem p_v (a : AV ds) (h : q ds [] = some (cR.e r, [])) : callP q ds M = some (cR.e r, M) := by
  unfold callP
  rw [a.p M, Option.bind_some, h, Option.bind_some]
  simp only [a.r, Bool.false_and]
  rfl
theorem p_r (a : AR M ds es) (h : q es [] = some (cR.e r, [])) [n : NoL cR] : callP q ds M = some (cR.e r, M) := by
  unfold callP
  rw [a.p, Option.bind_some, h, Option.bind_some]
  simp only [n.nl, Bool.not_true, Bool.and_false]
  rfl
theorem p_m {c : Ec B} {xs : List B} (a : AV ds) (h : q ds [] = some (.ref 0, [cl c xs])) : callP q ds M = some (.ref M.length, M ++ [cl c xs]) := by
  unfold callP
  rw [a.p M, Option.bind_some, h, Option.bind_some]
  show (if anyRef ds && !D.nls (xs.map c.e) then none else if D.nrs (xs.map c.e) = true then some (D.ref M.length, M ++ [cl c xs]) else none) = _
  rw [a.r, Bool.false_and, if_neg Bool.false_ne_true, if_pos (nrs_map c.nr xs)]
theorem x_callS {i : Nat} {z : D × Mem} (hf : f ρ M = some (ds, M1)) (h : callS i q ds M1 = some z) : fCallS i q f ρ M = some z := by rw [ev_callS, hf]; exact h
theorem mo_nr (c : Ec B) (xs : List B) : (cl c xs).nr = true := nrs_map c.nr xs
theorem p_s {M' : Mem} {i n : Nat} {c c' : Ec B} {xs ys : List B} (h1 : ds[i]? = some (.ref n)) (h2 : gm M n = some (cl c xs)) (a : AV (ds.set i .non)) (h : q (ds.set i (.ref 0)) [cl c xs] = some (cR.e r, [cl c' ys])) (hM : M.set n (cl c' ys) = M') : callS i q ds M = some (cR.e r, M') := by
  subst hM
  have h2' := gm_at h2
  have e : (ds.set i .non).set i (.ref 0) = ds.set i (.ref 0) := List.set_set ..
  unfold callS
  simp only [h1, h2', mo_nr, a.i n, Bool.not_false, Bool.and_self, if_true, a.p M, Option.bind_some, e, h]
  show (if ((D.nrs (ys.map c'.e) && (cR.e r).nr) && !(anyRef (ds.set i .non) && !((cR.e r).nl && D.nls (ys.map c'.e)))) = true then some (cR.e r, M.set n (.lst (ys.map c'.e))) else none) = _
  rw [if_pos (by show ((D.nrs (ys.map c'.e) && (cR.e r).nr) && !(anyRef (ds.set i .non) && !((cR.e r).nl && D.nls (ys.map c'.e)))) = true; rw [nrs_map c'.nr ys, cR.nr r, a.r]; rfl)]; rfl
/-- .. with other lists of the state handed in -/
theorem p_sr {M' : Mem} {i n : Nat} {c c' : Ec B} {xs ys : List B} (h1 : ds[i]? = some (.ref n)) (h2 : gm M n = some (cl c xs)) (hi : refIn n (ds.set i .non) = false) (a : AR M (ds.set i .non) es) (h : q (es.set i (.ref 0)) [cl c xs] = some (cR.e r, [cl c' ys])) (hM : M.set n (cl c' ys) = M') [nr : NoL cR] [nc : NoL c'] : callS i q ds M = some (cR.e r, M') := by
  subst hM
  have h2' := gm_at h2
  unfold callS
  simp only [h1, h2', mo_nr, hi, Bool.not_false, Bool.and_self, if_true, a.p, Option.bind_some, h]
  show (if ((D.nrs (ys.map c'.e) && (cR.e r).nr) && !(anyRef (ds.set i .non) && !((cR.e r).nl && D.nls (ys.map c'.e)))) = true then some (cR.e r, M.set n (.lst (ys.map c'.e))) else none) = _
  rw [if_pos (by show ((D.nrs (ys.map c'.e) && (cR.e r).nr) && !(anyRef (ds.set i .non) && !((cR.e r).nl && D.nls (ys.map c'.e)))) = true; rw [nrs_map c'.nr ys, cR.nr r, nr.nl, nls_map nc.nl]; simp)]; rfl
theorem refIn_c {n : Nat} (c : Ec A) (a : A) {ds : List D} (h : refIn n ds = false) : refIn n (c.e a :: ds) = false := by
  have hr := c.ir a
  generalize c.e a = d at *
  cases d with
  | ref _ => cases hr
  | _ => exact h
theorem refIn_r {n m : Nat} {ds : List D} (hm : Nat.beq m n = false) (h : refIn n ds = false) : refIn n (.ref m :: ds) = false := by
  show (decide (m = n) || refIn n ds) = false
  rw [h, Bool.or_false, decide_eq_false]
  intro e
  subst e
  rw [Nat.beq_refl] at hm; cases hm
theorem refIn_non {n : Nat} {ds : List D} (h : refIn n ds = false) : refIn n (.non :: ds) = false := h
/-! what a def hands back -/
theorem startR_eq (n : Nat) (ds : List D) : startR n ds = ds.map some ++ List.replicate (n - ds.length) none := rfl
def FQ (mu : Bool) (k : Nat) (res : D × Mem) : Out → Mem → Prop := fun o M' => match o with
  | .ret d => fin mu k d M' = some res
  | .nx _ => fin mu k .non M' = some res
  | _ => False
theorem fin_nr {mu : Bool} {k : Nat} {d : D} {M' : Mem} (h : d.nr = true) (hm : Mem.nr (M'.take k) = true) : fin mu k d M' = some (d, M'.take k) := by
  unfold fin
  rw [if_pos hm]
  cases d with
  | ref _ => cases h
  | _ => exact if_pos h
theorem f_v0 {mu : Bool} {M' : Mem} (c : Ec A) (a : A) : fin mu 0 (c.e a) M' = some (c.e a, []) := fin_nr (c.nr a) rfl
theorem nr1 (mo : MO) [n : CNr mo] : Mem.nr [mo] = true := by
  show (mo.nr && Mem.nr []) = true
  rw [n.nr]; rfl
theorem f_v1 {mu : Bool} {M' : Mem} (c : Ec A) (a : A) {m1 : MO} [CNr m1] : fin mu 1 (c.e a) (m1 :: M') = some (c.e a, [m1]) := fin_nr (c.nr a) (nr1 m1)
theorem f_r0 {j : Nat} {M' : Mem} {mo : MO} [n : CNr mo] (h : gm M' j = some mo) : fin false 0 (.ref j) M' = some (mo.fz, []) := by
  unfold fin
  rw [if_pos (by rfl)]
  show (if j < 0 then none else match M'[j]? with | some mo => if mo.nr = true then (if false = true then some (D.ref 0, M'.take 0 ++ [mo]) else some (mo.fz, M'.take 0)) else none | none => none) = _
  rw [if_neg (by omega), gm_at h]
  show (if mo.nr = true then _ else none) = _
  rw [if_pos n.nr]; rfl
theorem f_r1 {j : Nat} {M' : Mem} {mo m1 : MO} [n : CNr mo] [CNr m1] (hj : Nat.ble 1 j = true) (h : gm (m1 :: M') j = some mo) : fin false 1 (.ref j) (m1 :: M') = some (mo.fz, [m1]) := by
  have hj' := Nat.le_of_ble_eq_true hj
  unfold fin
  rw [if_pos (show Mem.nr ((m1 :: M').take 1) = true from nr1 m1)]
  show (if j < 1 then none else match (m1 :: M')[j]? with | some mo => if mo.nr = true then (if false = true then some (D.ref 1, (m1 :: M').take 1 ++ [mo]) else some (mo.fz, (m1 :: M').take 1)) else none | none => none) = _
  rw [if_neg (by omega), gm_at h]
  show (if mo.nr = true then _ else none) = _
  rw [if_pos n.nr]; rfl
theorem f_m0 {j : Nat} {M' : Mem} {mo : MO} [n : CNr mo] (h : gm M' j = some mo) : fin true 0 (.ref j) M' = some (.ref 0, [mo]) := by
  unfold fin
  rw [if_pos (by rfl)]
  show (if j < 0 then none else match M'[j]? with | some mo => if mo.nr = true then (if true = true then some (D.ref 0, M'.take 0 ++ [mo]) else some (mo.fz, M'.take 0)) else none | none => none) = _
  rw [if_neg (by omega), gm_at h]
  show (if mo.nr = true then _ else none) = _
  rw [if_pos n.nr]; rfl
end
/-! ### statements -/
def WP (f : FS) (ρ : Rho) (M : Mem) (Q : Out → Mem → Prop) : Prop := ∃ o M', f ρ M = some (o, M') ∧ Q o M'
section
variable {ρ ρ1 : Rho} {M M1 M2 : Mem} {Q : Out → Mem → Prop} {f g k : FS} {fe : FE} {d : D} {i : Nat}
theorem run_wp {mu : Bool} {n : Nat} {ds : List D} {res : D × Mem} (h : WP f (startR n ds) M (FQ mu M.length res)) : runFn mu n f ds M = some res := by
  obtain ⟨o, M', e, q⟩ := h
  unfold runFn
  rw [e, Option.bind_some]
  cases o with
  | ret d => exact q
  | nx ρ => exact q
  | bk _ => exact q.elim
  | ct _ => exact q.elim
theorem w_add (h : WP (sSeq f sNext) ρ M Q) : WP f ρ M Q := by
  obtain ⟨o, M', e, q⟩ := h
  rw [ev_seq] at e
  obtain ⟨⟨o1, M1⟩, h1, e⟩ := Option.bind_eq_some_iff.mp e
  refine ⟨o1, M1, h1, ?_⟩
  cases o1 <;> (cases e; exact q)
theorem w_assoc {a b : FS} (h : WP (sSeq a (sSeq b k)) ρ M Q) : WP (sSeq (sSeq a b) k) ρ M Q := by
  obtain ⟨o, M', e, q⟩ := h
  refine ⟨o, M', ?_, q⟩
  rw [ev_seq] at e
  rw [ev_seq, ev_seq]
  obtain ⟨⟨o1, M1⟩, h1, e⟩ := Option.bind_eq_some_iff.mp e
  rw [h1, Option.bind_some]
  cases o1 with
  | nx ρ1 => exact e
  | _ => exact e
theorem w_next (h : WP k ρ M Q) : WP (sSeq sNext k) ρ M Q := h
theorem w_end (h : Q (.nx ρ) M) : WP sNext ρ M Q := ⟨_, _, rfl, h⟩
theorem w_step (h : f ρ M = some (.nx ρ1, M1)) (K : WP k ρ1 M1 Q) : WP (sSeq f k) ρ M Q := by
  obtain ⟨o, M', e, q⟩ := K
  exact ⟨o, M', by rw [ev_seq, h]; exact e, q⟩
theorem w_set {c : Ec A} {a : A} (h : fe ρ M = some (c.e a, M1)) (K : WP k (ρ.set i (some (c.e a))) M1 Q) : WP (sSeq (sSet i fe) k) ρ M Q := w_step (by rw [ev_set, h]; rfl) K
theorem w_setE {c : Ec A} {a b : A} (h : fe ρ M = some (c.e a, M1)) (E : a = b) (K : WP k (ρ.set i (some (c.e b))) M1 Q) : WP (sSeq (sSet i fe) k) ρ M Q := by subst E; exact w_set h K
theorem w_setR (h : fe ρ M = some (d, M1)) (K : WP k (ρ.set i (some d)) M1 Q) : WP (sSeq (sSet i fe) k) ρ M Q := w_step (by rw [ev_set, h]; rfl) K
theorem w_drop (h : fe ρ M = some (d, M1)) (K : WP k ρ M1 Q) : WP (sSeq (sDrop fe) k) ρ M Q := w_step (by rw [ev_drop, h]; rfl) K
theorem w_asg {t : FG} {ρ' : Rho} (h : fe ρ M = some (d, M1)) (ht : t d ρ = some ρ') (K : WP k ρ' M1 Q) : WP (sSeq (sAsg fe t) k) ρ M Q := w_step (by rw [ev_asg, h, Option.bind_some]; simp only []; rw [ht]; rfl) K
theorem w_asgE {c : Ec A} {a b : A} {t : FG} {ρ' : Rho} (h : fe ρ M = some (c.e a, M1)) (E : a = b) (ht : t (c.e b) ρ = some ρ') (K : WP k ρ' M1 Q) : WP (sSeq (sAsg fe t) k) ρ M Q := by subst E; exact w_asg h ht K
theorem w_par {j : Nat} {fa : FA} {x y : D} (h : fa ρ M = some ([x, y], M1)) (K : WP k ((ρ.set i (some x)).set j (some y)) M1 Q) : WP (sSeq (sPar i j fa) k) ρ M Q := w_step (by rw [ev_par, h]; rfl) K
theorem w_par3 {j l : Nat} {fa : FA} {x y z : D} (h : fa ρ M = some ([x, y, z], M1)) (K : WP k (((ρ.set i (some x)).set j (some y)).set l (some z)) M1 Q) : WP (sSeq (sPar3 i j l fa) k) ρ M Q := w_step (by rw [ev_par3, h]; rfl) K
theorem w_ret (h : fe ρ M = some (d, M1)) (q : Q (.ret d) M1) : WP (sSeq (sRet fe) k) ρ M Q := ⟨.ret d, M1, by rw [ev_seq, ev_ret, h]; rfl, q⟩
theorem w_retN (q : Q (.ret .non) M) : WP (sSeq sRetN k) ρ M Q := ⟨.ret .non, M, rfl, q⟩
theorem w_brk (q : Q (.bk ρ) M) : WP (sSeq sBreak k) ρ M Q := ⟨.bk ρ, M, rfl, q⟩
theorem w_cont (q : Q (.ct ρ) M) : WP (sSeq sCont k) ρ M Q := ⟨.ct ρ, M, rfl, q⟩
theorem w_if {fc : FT} {b : Bool} (hc : fc ρ M = some (b, M1)) (h1 : b = true → WP (sSeq f k) ρ M1 Q) (h2 : b = false → WP (sSeq g k) ρ M1 Q) : WP (sSeq (sIf fc f g) k) ρ M Q := by
  have e : ∀ r, (if b = true then sSeq f k ρ M1 else sSeq g k ρ M1) = some r → sSeq (sIf fc f g) k ρ M = some r := fun r h => by
    rw [ev_seq, ev_if, hc, Option.bind_some]
    cases b <;> exact h
  cases b with
  | true =>
    obtain ⟨o, M', h, q⟩ := h1 rfl
    exact ⟨o, M', e _ h, q⟩
  | false =>
    obtain ⟨o, M', h, q⟩ := h2 rfl
    exact ⟨o, M', e _ h, q⟩
theorem w_ifT {fc : FT} {b : Bool} {t u : Option A} {r : A} (hc : fc ρ M = some (b, M1)) (h : (if b = true then t else u) = some r) (h1 : t = some r → WP (sSeq f k) ρ M1 Q) (h2 : u = some r → WP (sSeq g k) ρ M1 Q) : WP (sSeq (sIf fc f g) k) ρ M Q :=
  w_if hc (fun e => by subst e; exact h1 h) fun e => by subst e; exact h2 h
/-- a statement whose end is told by R -/
def CQ (R : Rho → Mem → Prop) (Q : Out → Mem → Prop) : Out → Mem → Prop := fun o M' => match o with
  | .nx ρ' => R ρ' M'
  | o => Q o M'
theorem w_endC {R : Rho → Mem → Prop} (h : R ρ M) : WP sNext ρ M (CQ R Q) := ⟨_, _, rfl, h⟩
theorem cq_ret {R : Rho → Mem → Prop} (h : Q (.ret d) M) : CQ R Q (.ret d) M := h
theorem cq_bk {R : Rho → Mem → Prop} (h : Q (.bk ρ) M) : CQ R Q (.bk ρ) M := h
theorem cq_ct {R : Rho → Mem → Prop} (h : Q (.ct ρ) M) : CQ R Q (.ct ρ) M := h
theorem w_cut (R : Rho → Mem → Prop) (h : WP (sSeq f sNext) ρ M (CQ R Q)) (K : ∀ ρ' M', R ρ' M' → WP k ρ' M' Q) : WP (sSeq f k) ρ M Q := by
  obtain ⟨o, M', e, q⟩ := w_add h
  cases o with
  | nx ρ' => exact w_step e (K ρ' M' q)
  | ret d => exact ⟨.ret d, M', by rw [ev_seq, e]; rfl, q⟩
  | bk d => exact ⟨.bk d, M', by rw [ev_seq, e]; rfl, q⟩
  | ct d => exact ⟨.ct d, M', by rw [ev_seq, e]; rfl, q⟩
/-! lists of the state -/
theorem ml_at {n : Nat} {c : Ec A} {xs : List A} (h : gm M n = some (cl c xs)) : mlOf (.ref n) M = some (n, xs.map c.e) := by
  show (match M[n]? with | some (.lst xs) => some (n, xs) | _ => none) = _
  rw [gm_at h]; rfl
theorem ty_at {n : Nat} {c : Ec A} {xs : List A} (h : gm M n = some (cl c xs)) : tyOk "list" (.ref n) M = true := by
  show (lsOf (.ref n) M).isSome = true
  rw [ls_ref h]; rfl
theorem x_m {g : GM} {fo : FE} {fa : FA} {n : Nat} {c : Ec A} {xs : List A} {ds : List D} {z : D × Mem} (ho : fo ρ M = some (.ref n, M)) (hn : gm M n = some (cl c xs)) (ha : fa ρ M = some (ds, M1)) (hg : g (.ref n) ds M1 = some z) : fM "list" g fo fa ρ M = some z := by
  rw [ev_m, ho, Option.bind_some]; simp only []; rw [if_pos (ty_at hn), ha, Option.bind_some]; exact hg
theorem m_app {M' : Mem} {n : Nat} {c : Ec A} {xs zs : List A} {a : A} (hn : gm M n = some (cl c xs)) (h : tapp xs a = some zs) (hM : M.set n (cl c zs) = M') : gAppend (.ref n) [c.e a] M = some (eN.e (), M') := by
  subst hM
  unfold tapp at h
  split at h
  · rename_i hq
    cases h
    rw [ev_append, ml_at hn, Option.bind_some]
    simp only [List.length_map]
    rw [if_pos hq]
    unfold cl
    rw [List.map_append]; rfl
  · cases h
theorem m_pop {M' : Mem} {n : Nat} {c : Ec A} {xs : List A} {p : A × List A} (hn : gm M n = some (cl c xs)) (h : tpop xs = some p) (hM : M.set n (cl c p.2) = M') : gPop (.ref n) [] M = some (c.e p.1, M') := by
  subst hM
  obtain ⟨a, zs⟩ := p
  unfold tpop at h
  obtain ⟨b, hb, e⟩ := Option.map_eq_some_iff.mp h
  cases e
  rw [ev_pop, ml_at hn, Option.bind_some]
  simp only [List.length_map, List.getElem?_map, hb, Option.map_some, Option.bind_some]
  unfold cl
  rw [List.map_dropLast]
def tpop1 (xs : List A) (i : Int) : Option (A × List A) := (L2.ixN xs.length i).bind fun k => (xs[k]?).map fun a => (a, xs.eraseIdx k)
theorem map_erase (f : A → B) : ∀ (xs : List A) (k : Nat), (xs.map f).eraseIdx k = (xs.eraseIdx k).map f
  | [], _ => rfl
  | x :: xs, 0 => rfl
  | x :: xs, k + 1 => by
    show f x :: (xs.map f).eraseIdx k = f x :: (xs.eraseIdx k).map f
    rw [map_erase f xs k]
theorem m_pop1 {M' : Mem} {n : Nat} {c : Ec A} {xs : List A} {p : A × List A} {i : Int} (hn : gm M n = some (cl c xs)) (h : tpop1 xs i = some p) (hM : M.set n (cl c p.2) = M') : gPop1 (.ref n) [eI.e i] M = some (c.e p.1, M') := by
  subst hM
  obtain ⟨a, zs⟩ := p
  unfold tpop1 at h
  obtain ⟨k, hk, h⟩ := bnd h
  obtain ⟨b, hb, e⟩ := Option.map_eq_some_iff.mp h
  cases e
  show (mlOf (.ref n) M).bind _ = _
  rw [ml_at hn, Option.bind_some]
  simp only [List.length_map, List.getElem?_map, hk, hb, Option.map_some, Option.bind_some, map_erase]
  rfl
theorem m_rev {M' : Mem} {n : Nat} {c : Ec A} {xs : List A} (hn : gm M n = some (cl c xs)) (hM : M.set n (cl c xs.reverse) = M') : gReverse (.ref n) [] M = some (eN.e (), M') := by
  subst hM
  rw [ev_reverse, ml_at hn, Option.bind_some]
  simp only []
  unfold cl
  rw [List.map_reverse]; rfl
theorem w_setIx {fo fi : FE} {n : Nat} {c : Ec A} {xs zs : List A} {a : A} {j : Int} (hv : fe ρ M = some (c.e a, M1)) (ho : fo ρ M1 = some (.ref n, M1)) (hi : fi ρ M1 = some (eI.e j, M2)) (hn : gm M2 n = some (cl c xs)) (h : tset xs j a = some zs) (K : WP k ρ (M2.set n (cl c zs)) Q) : WP (sSeq (sSetIx fe fo fi) k) ρ M Q := by
  unfold tset at h
  obtain ⟨m, hm, e⟩ := Option.map_eq_some_iff.mp h
  subst e
  refine w_step (ρ1 := ρ) (M1 := M2.set n (cl c (xs.set m a))) ?_ K
  rw [ev_setIx, hv, Option.bind_some]; simp only []; rw [ho, Option.bind_some]; simp only []; rw [hi, Option.bind_some]
  show (mlOf (.ref n) M2).bind _ = _
  rw [ml_at hn, Option.bind_some]
  simp only [List.length_map, hm, Option.bind_some]
  unfold cl
  rw [List.map_set]
theorem w_aug {gm' : G2M} {x y : D} (hx : gs ρ i = some x) (hy : fe ρ M = some (y, M1)) {z : D} (hg : gm' x y M1 = some (z, M2)) (K : WP k (ρ.set i (some z)) M2 Q) : WP (sSeq (sAug i gm' fe) k) ρ M Q :=
  w_step (by rw [ev_aug, gs_at hx]; simp only []; rw [hy, Option.bind_some]; simp only []; rw [hg]; rfl) K
theorem u_add {a b : Int} : gIAddA (eI.e a) (eI.e b) M = some (eI.e (a + b), M) := rfl
theorem u_catT {L L' : List D} (h : Nat.ble (L.length + L'.length) 10000 = true) : gIAddA (.tup L) (.tup L') M = some (.tup (L ++ L'), M) := by
  show (if L.length + L'.length ≤ LINE then some (D.tup (L ++ L'), M) else none) = _
  rw [if_pos (Nat.le_trans (Nat.le_of_ble_eq_true h) (by decide))]
theorem u_catV {c : Ec A} {xs ys zs : List A} (h : tcat xs ys = some zs) : gIAddA ((eV c).e xs) ((eV c).e ys) M = some ((eV c).e zs, M) := by
  obtain ⟨hq, rfl⟩ := tcat_ok h
  show (if (xs.map c.e).length + (ys.map c.e).length ≤ LINE then some (D.tup (xs.map c.e ++ ys.map c.e), M) else none) = _
  rw [if_pos (by simpa using hq), ← List.map_append]; rfl
theorem u_ext {M' : Mem} {n : Nat} {c : Ec A} {xs ys zs : List A} (hn : gm M n = some (cl c xs)) (r : Lt d M c ys) (h : tcat xs ys = some zs) (hM : M.set n (cl c zs) = M') : gIExt (.ref n) d M = some (.ref n, M') := by
  subst hM
  obtain ⟨hq, rfl⟩ := tcat_ok h
  unfold gIExt
  rw [ml_at hn, Option.bind_some, r.lt, Option.bind_some]
  simp only [List.length_map]
  rw [if_pos hq, ← List.map_append]; rfl
end
end TL
namespace TL
open PySem PySem.Spec PyProof.Rows L2 PF
variable {A B C S A' B' C' E : Type}
/-! ### loops -/
section
variable {ρ : Rho} {M M1 : Mem} {Q : Out → Mem → Prop} {k fb : FS} {fi : FI} {t : FG} {cA : Ec A} {xs : List A} {kk : KK} {c : Mem → Bool} {R : S → Rho → Mem → Prop} {QR : E → D → Mem → Prop}
def BQ0 (R : S → Rho → Mem → Prop) (s' : S) : Out → Mem → Prop := fun o M' => match o with
  | .nx ρ' => R s' ρ' M'
  | .ct ρ' => R s' ρ' M'
  | _ => False
def BQr (R : S → Rho → Mem → Prop) (QR : E → D → Mem → Prop) (r : Ex E S) : Out → Mem → Prop := fun o M' => match o with
  | .nx ρ' => ∃ s', Ex.go s' = r ∧ R s' ρ' M'
  | .ct ρ' => ∃ s', Ex.go s' = r ∧ R s' ρ' M'
  | .ret d => ∃ e, Ex.ex e = r ∧ QR e d M'
  | _ => False
def BQb (R : S → Rho → Mem → Prop) (r : Ex S S) : Out → Mem → Prop := fun o M' => match o with
  | .nx ρ' => ∃ s', Ex.go s' = r ∧ R s' ρ' M'
  | .ct ρ' => ∃ s', Ex.go s' = r ∧ R s' ρ' M'
  | .bk ρ' => ∃ s', Ex.ex s' = r ∧ R s' ρ' M'
  | _ => False
def BQx (R : S → Rho → Mem → Prop) (QR : E → D → Mem → Prop) (r : Ex (Ex E S) S) : Out → Mem → Prop := fun o M' => match o with
  | .nx ρ' => ∃ s', Ex.go s' = r ∧ R s' ρ' M'
  | .ct ρ' => ∃ s', Ex.go s' = r ∧ R s' ρ' M'
  | .bk ρ' => ∃ s', Ex.ex (Ex.go s') = r ∧ R s' ρ' M'
  | .ret d => ∃ e, Ex.ex (Ex.ex e) = r ∧ QR e d M'
theorem e_0 {s' : S} (h : R s' ρ M) : BQ0 R s' (.nx ρ) M := h
theorem c_0 {s' : S} (h : R s' ρ M) : BQ0 R s' (.ct ρ) M := h
theorem e_r (s' : S) (h : R s' ρ M) : BQr R QR (.go s') (.nx ρ) M := ⟨s', rfl, h⟩
theorem c_r (s' : S) (h : R s' ρ M) : BQr R QR (.go s') (.ct ρ) M := ⟨s', rfl, h⟩
theorem r_r {e : E} {d : D} (h : QR e d M) : BQr R QR (.ex e) (.ret d) M := ⟨e, rfl, h⟩
theorem e_b (s' : S) (h : R s' ρ M) : BQb R (.go s') (.nx ρ) M := ⟨s', rfl, h⟩
theorem c_b (s' : S) (h : R s' ρ M) : BQb R (.go s') (.ct ρ) M := ⟨s', rfl, h⟩
theorem b_b (s' : S) (h : R s' ρ M) : BQb R (.ex s') (.bk ρ) M := ⟨s', rfl, h⟩
theorem e_x (s' : S) (h : R s' ρ M) : BQx R QR (.go s') (.nx ρ) M := ⟨s', rfl, h⟩
theorem c_x (s' : S) (h : R s' ρ M) : BQx R QR (.go s') (.ct ρ) M := ⟨s', rfl, h⟩
theorem b_x (s' : S) (h : R s' ρ M) : BQx R QR (.ex (.go s')) (.bk ρ) M := ⟨s', rfl, h⟩
theorem r_x {e : E} {d : D} (h : QR e d M) : BQx R QR (.ex (.ex e)) (.ret d) M := ⟨e, rfl, h⟩
theorem w_stp {d : D} {ρ' : Rho} (ht : t d ρ = some ρ') (h : WP fb ρ' M Q) : WP (sStep t fb d) ρ M Q := by
  obtain ⟨o, M', e, q⟩ := h
  exact ⟨o, M', by rw [ev_step, ht]; exact e, q⟩
theorem lp0 {f : A → S → Option S} {step : D → FS} (hc : ∀ s ρ M, R s ρ M → c M = true) (hs : ∀ a s s' ρ M, f a s = some s' → R s ρ M → WP (step (cA.e a)) ρ M (BQ0 R s')) :
    ∀ (xs : List A) (s s' : S) (ρ : Rho) (M : Mem), tfold f xs s = some s' → R s ρ M → ∃ ρ' M', sLoop c step (xs.map cA.e) ρ M = some (.nx ρ', M') ∧ R s' ρ' M'
  | [], s, s', ρ, M, h, h0 => by cases h; exact ⟨ρ, M, by rw [List.map_nil, sLoop, if_pos (hc _ _ _ h0)], h0⟩
  | a :: xs, s, s', ρ, M, h, h0 => by
    obtain ⟨s1, h1, h2⟩ := bnd h
    obtain ⟨o, M1, e, q⟩ := hs a s s1 ρ M h1 h0
    cases o with
    | nx ρ1 =>
      obtain ⟨ρ2, M2, e2, q2⟩ := lp0 hc hs xs s1 s' ρ1 M1 h2 q
      exact ⟨ρ2, M2, by rw [List.map_cons, sLoop, if_pos (hc _ _ _ h0), e]; exact e2, q2⟩
    | ct ρ1 =>
      obtain ⟨ρ2, M2, e2, q2⟩ := lp0 hc hs xs s1 s' ρ1 M1 h2 q
      exact ⟨ρ2, M2, by rw [List.map_cons, sLoop, if_pos (hc _ _ _ h0), e]; exact e2, q2⟩
    | bk _ => exact q.elim
    | ret _ => exact q.elim
theorem w_fold (R : S → Rho → Mem → Prop) {f : A → S → Option S} {s s' : S} (hi : fi ρ M = some ((xs.map cA.e, kk), M1)) (h : tfold f xs s = some s') (h0 : R s ρ M1) (hc : ∀ s ρ M, R s ρ M → chk kk (xs.map cA.e) M = true)
    (step : ∀ a s s' ρ M, f a s = some s' → R s ρ M → WP (sStep t fb (cA.e a)) ρ M (BQ0 R s')) (K : ∀ ρ' M', R s' ρ' M' → WP k ρ' M' Q) : WP (sSeq (sFor fi t fb) k) ρ M Q := by
  obtain ⟨ρ', M', e, q⟩ := lp0 (c := chk kk (xs.map cA.e)) hc step xs s s' ρ M1 h h0
  exact w_step (by rw [ev_for, hi]; exact e) (K ρ' M' q)
theorem lpr {f : A → S → Option (Ex E S)} {step : D → FS} (hc : ∀ s ρ M, R s ρ M → c M = true) (hs : ∀ a s r ρ M, f a s = some r → R s ρ M → WP (step (cA.e a)) ρ M (BQr R QR r)) :
    ∀ (xs : List A) (s : S) (r : Ex E S) (ρ : Rho) (M : Mem), tforr f xs s = some r → R s ρ M → ∃ o M', sLoop c step (xs.map cA.e) ρ M = some (o, M') ∧ match o with | .nx ρ' => ∃ s', Ex.go s' = r ∧ R s' ρ' M' | .ret d => ∃ e, Ex.ex e = r ∧ QR e d M' | _ => False
  | [], s, r, ρ, M, h, h0 => by cases h; exact ⟨.nx ρ, M, by rw [List.map_nil, sLoop, if_pos (hc _ _ _ h0)], s, rfl, h0⟩
  | a :: xs, s, r, ρ, M, h, h0 => by
    obtain ⟨r1, h1, h2⟩ := bnd h
    obtain ⟨o, M1, e, q⟩ := hs a s r1 ρ M h1 h0
    cases o with
    | nx ρ1 =>
      obtain ⟨s1, rfl, q⟩ := q
      obtain ⟨o2, M2, e2, q2⟩ := lpr hc hs xs s1 r ρ1 M1 h2 q
      exact ⟨o2, M2, by rw [List.map_cons, sLoop, if_pos (hc _ _ _ h0), e]; exact e2, q2⟩
    | ct ρ1 =>
      obtain ⟨s1, rfl, q⟩ := q
      obtain ⟨o2, M2, e2, q2⟩ := lpr hc hs xs s1 r ρ1 M1 h2 q
      exact ⟨o2, M2, by rw [List.map_cons, sLoop, if_pos (hc _ _ _ h0), e]; exact e2, q2⟩
    | bk _ => exact q.elim
    | ret d =>
      obtain ⟨x, rfl, q⟩ := q
      cases h2
      exact ⟨.ret d, M1, by rw [List.map_cons, sLoop, if_pos (hc _ _ _ h0), e]; rfl, x, rfl, q⟩
theorem w_forr (R : S → Rho → Mem → Prop) (QR : E → D → Mem → Prop) {f : A → S → Option (Ex E S)} {s : S} {r : Ex E S} (hi : fi ρ M = some ((xs.map cA.e, kk), M1)) (h : tforr f xs s = some r) (h0 : R s ρ M1) (hc : ∀ s ρ M, R s ρ M → chk kk (xs.map cA.e) M = true)
    (step : ∀ a s r ρ M, f a s = some r → R s ρ M → WP (sStep t fb (cA.e a)) ρ M (BQr R QR r)) (KR : ∀ e d M', Ex.ex e = r → QR e d M' → Q (.ret d) M') (K : ∀ s' ρ' M', Ex.go s' = r → R s' ρ' M' → WP k ρ' M' Q) : WP (sSeq (sFor fi t fb) k) ρ M Q := by
  obtain ⟨o, M', e, q⟩ := lpr (c := chk kk (xs.map cA.e)) hc step xs s r ρ M1 h h0
  have e' : sFor fi t fb ρ M = some (o, M') := by rw [ev_for, hi]; exact e
  cases o with
  | nx ρ' => obtain ⟨s', h1, h2⟩ := q; exact w_step e' (K s' ρ' M' h1 h2)
  | ret d => obtain ⟨x, h1, h2⟩ := q; exact ⟨.ret d, M', by rw [ev_seq, e']; rfl, KR x d M' h1 h2⟩
  | bk _ => exact q.elim
  | ct _ => exact q.elim
theorem lpb {f : A → S → Option (Ex S S)} {step : D → FS} (hc : ∀ s ρ M, R s ρ M → c M = true) (hs : ∀ a s r ρ M, f a s = some r → R s ρ M → WP (step (cA.e a)) ρ M (BQb R r)) :
    ∀ (xs : List A) (s s' : S) (ρ : Rho) (M : Mem), tforb f xs s = some s' → R s ρ M → ∃ ρ' M', sLoop c step (xs.map cA.e) ρ M = some (.nx ρ', M') ∧ R s' ρ' M'
  | [], s, r, ρ, M, h, h0 => by cases h; exact ⟨ρ, M, by rw [List.map_nil, sLoop, if_pos (hc _ _ _ h0)], h0⟩
  | a :: xs, s, r, ρ, M, h, h0 => by
    obtain ⟨r1, h1, h2⟩ := bnd h
    obtain ⟨o, M1, e, q⟩ := hs a s r1 ρ M h1 h0
    cases o with
    | nx ρ1 =>
      obtain ⟨s1, rfl, q⟩ := q
      obtain ⟨o2, M2, e2, q2⟩ := lpb hc hs xs s1 r ρ1 M1 h2 q
      exact ⟨o2, M2, by rw [List.map_cons, sLoop, if_pos (hc _ _ _ h0), e]; exact e2, q2⟩
    | ct ρ1 =>
      obtain ⟨s1, rfl, q⟩ := q
      obtain ⟨o2, M2, e2, q2⟩ := lpb hc hs xs s1 r ρ1 M1 h2 q
      exact ⟨o2, M2, by rw [List.map_cons, sLoop, if_pos (hc _ _ _ h0), e]; exact e2, q2⟩
    | bk ρ1 =>
      obtain ⟨s1, rfl, q⟩ := q
      cases h2
      exact ⟨ρ1, M1, by rw [List.map_cons, sLoop, if_pos (hc _ _ _ h0), e]; rfl, q⟩
    | ret _ => exact q.elim
theorem w_forb (R : S → Rho → Mem → Prop) {f : A → S → Option (Ex S S)} {s s' : S} (hi : fi ρ M = some ((xs.map cA.e, kk), M1)) (h : tforb f xs s = some s') (h0 : R s ρ M1) (hc : ∀ s ρ M, R s ρ M → chk kk (xs.map cA.e) M = true)
    (step : ∀ a s r ρ M, f a s = some r → R s ρ M → WP (sStep t fb (cA.e a)) ρ M (BQb R r)) (K : ∀ ρ' M', R s' ρ' M' → WP k ρ' M' Q) : WP (sSeq (sFor fi t fb) k) ρ M Q := by
  obtain ⟨ρ', M', e, q⟩ := lpb (c := chk kk (xs.map cA.e)) hc step xs s s' ρ M1 h h0
  exact w_step (by rw [ev_for, hi]; exact e) (K ρ' M' q)
theorem lpx {f : A → S → Option (Ex (Ex E S) S)} {step : D → FS} (hc : ∀ s ρ M, R s ρ M → c M = true) (hs : ∀ a s r ρ M, f a s = some r → R s ρ M → WP (step (cA.e a)) ρ M (BQx R QR r)) :
    ∀ (xs : List A) (s : S) (r : Ex E S) (ρ : Rho) (M : Mem), tforx f xs s = some r → R s ρ M → ∃ o M', sLoop c step (xs.map cA.e) ρ M = some (o, M') ∧ match o with | .nx ρ' => ∃ s', Ex.go s' = r ∧ R s' ρ' M' | .ret d => ∃ e, Ex.ex e = r ∧ QR e d M' | _ => False
  | [], s, r, ρ, M, h, h0 => by cases h; exact ⟨.nx ρ, M, by rw [List.map_nil, sLoop, if_pos (hc _ _ _ h0)], s, rfl, h0⟩
  | a :: xs, s, r, ρ, M, h, h0 => by
    obtain ⟨r1, h1, h2⟩ := bnd h
    obtain ⟨o, M1, e, q⟩ := hs a s r1 ρ M h1 h0
    cases o with
    | nx ρ1 =>
      obtain ⟨s1, rfl, q⟩ := q
      obtain ⟨o2, M2, e2, q2⟩ := lpx hc hs xs s1 r ρ1 M1 h2 q
      exact ⟨o2, M2, by rw [List.map_cons, sLoop, if_pos (hc _ _ _ h0), e]; exact e2, q2⟩
    | ct ρ1 =>
      obtain ⟨s1, rfl, q⟩ := q
      obtain ⟨o2, M2, e2, q2⟩ := lpx hc hs xs s1 r ρ1 M1 h2 q
      exact ⟨o2, M2, by rw [List.map_cons, sLoop, if_pos (hc _ _ _ h0), e]; exact e2, q2⟩
    | bk ρ1 =>
      obtain ⟨s1, rfl, q⟩ := q
      cases h2
      exact ⟨.nx ρ1, M1, by rw [List.map_cons, sLoop, if_pos (hc _ _ _ h0), e]; rfl, s1, rfl, q⟩
    | ret d =>
      obtain ⟨x, rfl, q⟩ := q
      cases h2
      exact ⟨.ret d, M1, by rw [List.map_cons, sLoop, if_pos (hc _ _ _ h0), e]; rfl, x, rfl, q⟩
theorem w_forx (R : S → Rho → Mem → Prop) (QR : E → D → Mem → Prop) {f : A → S → Option (Ex (Ex E S) S)} {s : S} {r : Ex E S} (hi : fi ρ M = some ((xs.map cA.e, kk), M1)) (h : tforx f xs s = some r) (h0 : R s ρ M1) (hc : ∀ s ρ M, R s ρ M → chk kk (xs.map cA.e) M = true)
    (step : ∀ a s r ρ M, f a s = some r → R s ρ M → WP (sStep t fb (cA.e a)) ρ M (BQx R QR r)) (KR : ∀ e d M', Ex.ex e = r → QR e d M' → Q (.ret d) M') (K : ∀ s' ρ' M', Ex.go s' = r → R s' ρ' M' → WP k ρ' M' Q) : WP (sSeq (sFor fi t fb) k) ρ M Q := by
  obtain ⟨o, M', e, q⟩ := lpx (c := chk kk (xs.map cA.e)) hc step xs s r ρ M1 h h0
  have e' : sFor fi t fb ρ M = some (o, M') := by rw [ev_for, hi]; exact e
  cases o with
  | nx ρ' => obtain ⟨s', h1, h2⟩ := q; exact w_step e' (K s' ρ' M' h1 h2)
  | ret d => obtain ⟨x, h1, h2⟩ := q; exact ⟨.ret d, M', by rw [ev_seq, e']; rfl, KR x d M' h1 h2⟩
  | bk _ => exact q.elim
  | ct _ => exact q.elim
/-! while -/
variable {fc : FT}
theorem whx {f : S → Option (Ex (Ex E S) S)} {cc : S → Option Bool} (hcc : ∀ s b ρ M, cc s = some b → R s ρ M → fc ρ M = some (b, M)) (hs : ∀ s r ρ M, f s = some r → R s ρ M → WP fb ρ M (BQx R QR r)) :
    ∀ (n m : Nat) (s : S) (r : Ex E S) (ρ : Rho) (M : Mem), n ≤ m → twhx cc f n s = some r → R s ρ M → ∃ o M', sWhileN fc fb m ρ M = some (o, M') ∧ match o with | .nx ρ' => ∃ s', Ex.go s' = r ∧ R s' ρ' M' | .ret d => ∃ e, Ex.ex e = r ∧ QR e d M' | _ => False
  | 0, _, s, r, ρ, M, _, h, h0 => by cases h
  | n + 1, 0, s, r, ρ, M, hm, h, h0 => by omega
  | n + 1, m + 1, s, r, ρ, M, hm, h, h0 => by
    obtain ⟨b, hb, h⟩ := bnd h
    have e0 := hcc s b ρ M hb h0
    cases b with
    | false =>
      rw [if_neg Bool.false_ne_true] at h
      cases h
      exact ⟨.nx ρ, M, by rw [sWhileN, e0]; rfl, s, rfl, h0⟩
    | true =>
      rw [if_pos rfl] at h
      obtain ⟨r1, h1, h2⟩ := bnd h
      obtain ⟨o, M1, e, q⟩ := hs s r1 ρ M h1 h0
      cases o with
      | nx ρ1 =>
        obtain ⟨s1, rfl, q⟩ := q
        obtain ⟨o2, M2, e2, q2⟩ := whx hcc hs n m s1 r ρ1 M1 (by omega) h2 q
        exact ⟨o2, M2, by rw [sWhileN, e0, Option.bind_some, if_pos rfl]; simp only []; rw [e]; exact e2, q2⟩
      | ct ρ1 =>
        obtain ⟨s1, rfl, q⟩ := q
        obtain ⟨o2, M2, e2, q2⟩ := whx hcc hs n m s1 r ρ1 M1 (by omega) h2 q
        exact ⟨o2, M2, by rw [sWhileN, e0, Option.bind_some, if_pos rfl]; simp only []; rw [e]; exact e2, q2⟩
      | bk ρ1 =>
        obtain ⟨s1, rfl, q⟩ := q
        cases h2
        exact ⟨.nx ρ1, M1, by rw [sWhileN, e0, Option.bind_some, if_pos rfl]; simp only []; rw [e]; rfl, s1, rfl, q⟩
      | ret d =>
        obtain ⟨x, rfl, q⟩ := q
        cases h2
        exact ⟨.ret d, M1, by rw [sWhileN, e0, Option.bind_some, if_pos rfl]; simp only []; rw [e]; rfl, x, rfl, q⟩
theorem fuel_ge (ρ : Rho) (M : Mem) : FUEL ≤ fuel ρ M := fuel_big ρ M
theorem w_whx (R : S → Rho → Mem → Prop) (QR : E → D → Mem → Prop) {f : S → Option (Ex (Ex E S) S)} {cc : S → Option Bool} {s : S} {r : Ex E S} (h : twhx cc f FUEL s = some r) (h0 : R s ρ M) (hcc : ∀ s b ρ M, cc s = some b → R s ρ M → fc ρ M = some (b, M))
    (step : ∀ s r ρ M, f s = some r → R s ρ M → WP fb ρ M (BQx R QR r)) (KR : ∀ e d M', Ex.ex e = r → QR e d M' → Q (.ret d) M') (K : ∀ s' ρ' M', Ex.go s' = r → R s' ρ' M' → WP k ρ' M' Q) : WP (sSeq (sWhile fc fb) k) ρ M Q := by
  obtain ⟨o, M', e, q⟩ := whx hcc step FUEL (fuel ρ M) s r ρ M (fuel_ge ρ M) h h0
  have e' : sWhile fc fb ρ M = some (o, M') := e
  cases o with
  | nx ρ' => obtain ⟨s', h1, h2⟩ := q; exact w_step e' (K s' ρ' M' h1 h2)
  | ret d => obtain ⟨x, h1, h2⟩ := q; exact ⟨.ret d, M', by rw [ev_seq, e']; rfl, KR x d M' h1 h2⟩
  | bk _ => exact q.elim
  | ct _ => exact q.elim
theorem twhr_x {f : S → Option (Ex E S)} {cc : S → Option Bool} : ∀ (n : Nat) (s : S), twhx cc (fun s => (f s).map fun r => match r with | .ex e => Ex.ex (Ex.ex e) | .go b => Ex.go b) n s = twhr cc f n s
  | 0, _ => rfl
  | n + 1, s => by
    show (cc s).bind _ = (cc s).bind _
    congr 1; funext b
    cases b
    · rfl
    · simp only [if_true]
      cases f s with
      | none => rfl
      | some r => cases r with
        | ex e => rfl
        | go b => exact twhr_x n b
theorem w_whr (R : S → Rho → Mem → Prop) (QR : E → D → Mem → Prop) {f : S → Option (Ex E S)} {cc : S → Option Bool} {s : S} {r : Ex E S} (h : twhr cc f FUEL s = some r) (h0 : R s ρ M) (hcc : ∀ s b ρ M, cc s = some b → R s ρ M → fc ρ M = some (b, M))
    (step : ∀ s r ρ M, f s = some r → R s ρ M → WP fb ρ M (BQr R QR r)) (KR : ∀ e d M', Ex.ex e = r → QR e d M' → Q (.ret d) M') (K : ∀ s' ρ' M', Ex.go s' = r → R s' ρ' M' → WP k ρ' M' Q) : WP (sSeq (sWhile fc fb) k) ρ M Q :=
  w_whx R QR ((twhr_x FUEL s).trans h) h0 hcc (fun s r1 ρ M hf hR => by
    obtain ⟨r0, h1, rfl⟩ := Option.map_eq_some_iff.mp hf
    obtain ⟨o, M', e, q⟩ := step s r0 ρ M h1 hR
    refine ⟨o, M', e, ?_⟩
    cases o with
    | nx _ => obtain ⟨s', rfl, q⟩ := q; exact ⟨s', rfl, q⟩
    | ct _ => obtain ⟨s', rfl, q⟩ := q; exact ⟨s', rfl, q⟩
    | bk _ => exact q.elim
    | ret d => obtain ⟨x, rfl, q⟩ := q; exact ⟨x, rfl, q⟩) KR K
theorem twh_x {f : S → Option S} {cc : S → Option Bool} : ∀ (n : Nat) (s : S), twhx (E := Unit) cc (fun s => (f s).map fun b => Ex.go b) n s = (twh cc f n s).map Ex.go
  | 0, _ => rfl
  | n + 1, s => by
    show (cc s).bind _ = ((cc s).bind _).map Ex.go
    cases cc s with
    | none => rfl
    | some b =>
      cases b
      · rfl
      · simp only [if_true, Option.bind_some]
        cases f s with
        | none => rfl
        | some r => exact twh_x n r
theorem w_wh (R : S → Rho → Mem → Prop) {f : S → Option S} {cc : S → Option Bool} {s s' : S} (h : twh cc f FUEL s = some s') (h0 : R s ρ M) (hcc : ∀ s b ρ M, cc s = some b → R s ρ M → fc ρ M = some (b, M))
    (step : ∀ s s' ρ M, f s = some s' → R s ρ M → WP fb ρ M (BQ0 R s')) (K : ∀ ρ' M', R s' ρ' M' → WP k ρ' M' Q) : WP (sSeq (sWhile fc fb) k) ρ M Q :=
  w_whx (E := Unit) R (fun _ _ _ => False) (r := .go s') ((twh_x FUEL s).trans (by rw [h]; rfl)) h0 hcc (fun s r1 ρ M hf hR => by
    obtain ⟨r0, h1, rfl⟩ := Option.map_eq_some_iff.mp hf
    obtain ⟨o, M', e, q⟩ := step s r0 ρ M h1 hR
    refine ⟨o, M', e, ?_⟩
    cases o with
    | nx _ => exact ⟨_, rfl, q⟩
    | ct _ => exact ⟨_, rfl, q⟩
    | bk _ => exact q.elim
    | ret d => exact q.elim) (fun _ _ _ _ h => h.elim) fun s1 ρ' M' e q => by cases e; exact K ρ' M' q
theorem twhb_x {f : S → Option (Ex S S)} {cc : S → Option Bool} : ∀ (n : Nat) (s : S), twhx (E := Unit) cc (fun s => (f s).map fun r => match r with | .ex b => Ex.ex (Ex.go b) | .go b => Ex.go b) n s = (twhb cc f n s).map Ex.go
  | 0, _ => rfl
  | n + 1, s => by
    show (cc s).bind _ = ((cc s).bind _).map Ex.go
    cases cc s with
    | none => rfl
    | some b =>
      cases b
      · rfl
      · simp only [if_true, Option.bind_some]
        cases f s with
        | none => rfl
        | some r => cases r with
          | ex b => rfl
          | go b => exact twhb_x n b
theorem w_whb (R : S → Rho → Mem → Prop) {f : S → Option (Ex S S)} {cc : S → Option Bool} {s s' : S} (h : twhb cc f FUEL s = some s') (h0 : R s ρ M) (hcc : ∀ s b ρ M, cc s = some b → R s ρ M → fc ρ M = some (b, M))
    (step : ∀ s r ρ M, f s = some r → R s ρ M → WP fb ρ M (BQb R r)) (K : ∀ ρ' M', R s' ρ' M' → WP k ρ' M' Q) : WP (sSeq (sWhile fc fb) k) ρ M Q :=
  w_whx (E := Unit) R (fun _ _ _ => False) (r := .go s') ((twhb_x FUEL s).trans (by rw [h]; rfl)) h0 hcc (fun s r1 ρ M hf hR => by
    obtain ⟨r0, h1, rfl⟩ := Option.map_eq_some_iff.mp hf
    obtain ⟨o, M', e, q⟩ := step s r0 ρ M h1 hR
    refine ⟨o, M', e, ?_⟩
    cases o with
    | nx _ => obtain ⟨s', rfl, q⟩ := q; exact ⟨s', rfl, q⟩
    | ct _ => obtain ⟨s', rfl, q⟩ := q; exact ⟨s', rfl, q⟩
    | bk _ => obtain ⟨s', rfl, q⟩ := q; exact ⟨s', rfl, q⟩
    | ret d => exact q.elim) (fun _ _ _ _ h => h.elim) fun s1 ρ' M' e q => by cases e; exact K ρ' M' q
end
/-! ### a body whose own lists are frozen at its end -/
section
variable {ρ : Rho} {M M1 : Mem} {Q : Out → Mem → Prop} {f : FS}
theorem fe_v {m : Nat} {d : D} (h : d.nr = true) : frE m M1 d = some d := by
  cases d with
  | ref _ => cases h
  | non => rfl
  | bl _ => rfl
  | int _ => rfl
  | str _ => rfl
  | tup _ => exact if_pos h
  | lst _ => exact if_pos h
  | kst _ => exact if_pos h
  | dct _ _ => exact if_pos h
theorem fl_v {m : Nat} : ∀ {l : List D}, D.nrs l = true → frL m M1 l = some l
  | [], _ => rfl
  | d :: l, h => by
    rw [D.nrs, Bool.and_eq_true] at h
    show (frE m M1 d).bind _ = _
    rw [fe_v h.1, Option.bind_some, fl_v h.2]; rfl
theorem fm_cl {m : Nat} {mo : MO} [n : CNr mo] {ms ns : Mem} (h : frMs m M1 ms = some ns) : frMs m M1 (mo :: ms) = some (mo :: ns) := by
  have hn := n.nr
  cases mo with
  | lst xs =>
    show (frL m M1 xs).bind (fun ys => (frMs m M1 ms).bind fun ns => some (.lst ys :: ns)) = _
    rw [fl_v hn, Option.bind_some, h]; rfl
  | dct ks vs =>
    show (if (D.nrs ks && D.nrs vs) = true then (frMs m M1 ms).bind fun ns => some (.dct ks vs :: ns) else none) = _
    rw [if_pos (show (D.nrs ks && D.nrs vs) = true from hn), h]; rfl
  | lck o ks vs =>
    show (if (D.nrs ks && D.nrs vs) = true then (frMs m M1 ms).bind fun ns => some (.lck o ks vs :: ns) else none) = _
    rw [if_pos (show (D.nrs ks && D.nrs vs) = true from hn), h]; rfl
theorem fm_n {m : Nat} : frMs m M1 [] = some [] := rfl
/-- the slots behind it, one by one -/
def FrS (m : Nat) (M1 : Mem) (ρ ρ' : Rho) : Prop := frS m M1 ρ = ρ'
theorem fs_n {m : Nat} : FrS m M1 [] [] := rfl
theorem fs_c {m : Nat} {c : Ec A} {a : A} {ρ ρ' : Rho} (h : FrS m M1 ρ ρ') : FrS m M1 (some (c.e a) :: ρ) (some (c.e a) :: ρ') := by
  show frE m M1 (c.e a) :: frS m M1 ρ = _
  rw [fe_v (c.nr a)]; unfold FrS at h; rw [h]
theorem fs_o {m : Nat} {n : Nat} {ρ ρ' : Rho} (hn : Nat.blt n m = true) (h : FrS m M1 ρ ρ') : FrS m M1 (some (.ref n) :: ρ) (some (.ref n) :: ρ') := by
  show frE m M1 (.ref n) :: frS m M1 ρ = _
  have : n < m := Nat.le_of_ble_eq_true hn
  rw [show frE m M1 (.ref n) = some (.ref n) from if_pos this]; unfold FrS at h; rw [h]
theorem fs_r {m : Nat} {mo : MO} [nn : CNr mo] {n : Nat} {ρ ρ' : Rho} (hn : Nat.blt n m = false) (hm : gm M1 n = some mo) (h : FrS m M1 ρ ρ') : FrS m M1 (some (.ref n) :: ρ) (some mo.fz :: ρ') := by
  show frE m M1 (.ref n) :: frS m M1 ρ = _
  have hlt : ¬ n < m := fun z => by
    have z2 : Nat.blt n m = true := Nat.ble_eq_true_of_le z
    rw [hn] at z2; cases z2
  have e : frE m M1 (.ref n) = some mo.fz := by
    show (if n < m then some (D.ref n) else match M1[n]? with
      | some mo => if mo.nr = true then some mo.fz else none
      | none => none) = _
    rw [if_neg hlt, gm_at hm]
    exact if_pos nn.nr
  rw [e]; unfold FrS at h; rw [h]
/-- a slot that nobody reads behind it -/
theorem fs_j {m : Nat} {o : Option D} {ρ ρ' : Rho} (h : FrS m M1 ρ ρ') : FrS m M1 (o :: ρ) ((o.bind fun d => frE m M1 d) :: ρ') := by
  show _ :: frS m M1 ρ = _
  unfold FrS at h; rw [h]
/-- what the body leaves, with its own lists frozen -/
def FZ (m : Nat) (Q : Out → Mem → Prop) : Out → Mem → Prop := fun o M1 => match o with
  | .nx ρ1 => ∃ ρ2 M2, FrS m M1 ρ1 ρ2 ∧ frMs m M1 (M1.take m) = some M2 ∧ Q (.nx ρ2) M2
  | .bk ρ1 => ∃ ρ2 M2, FrS m M1 ρ1 ρ2 ∧ frMs m M1 (M1.take m) = some M2 ∧ Q (.bk ρ2) M2
  | .ct ρ1 => ∃ ρ2 M2, FrS m M1 ρ1 ρ2 ∧ frMs m M1 (M1.take m) = some M2 ∧ Q (.ct ρ2) M2
  | .ret d => ∃ e M2, frE m M1 d = some e ∧ frMs m M1 (M1.take m) = some M2 ∧ Q (.ret e) M2
theorem z_nx {m : Nat} {ρ1 ρ2 : Rho} {M2 : Mem} (h1 : FrS m M1 ρ1 ρ2) (h2 : frMs m M1 (M1.take m) = some M2) (q : Q (.nx ρ2) M2) : FZ m Q (.nx ρ1) M1 := ⟨ρ2, M2, h1, h2, q⟩
theorem z_bk {m : Nat} {ρ1 ρ2 : Rho} {M2 : Mem} (h1 : FrS m M1 ρ1 ρ2) (h2 : frMs m M1 (M1.take m) = some M2) (q : Q (.bk ρ2) M2) : FZ m Q (.bk ρ1) M1 := ⟨ρ2, M2, h1, h2, q⟩
theorem z_ct {m : Nat} {ρ1 ρ2 : Rho} {M2 : Mem} (h1 : FrS m M1 ρ1 ρ2) (h2 : frMs m M1 (M1.take m) = some M2) (q : Q (.ct ρ2) M2) : FZ m Q (.ct ρ1) M1 := ⟨ρ2, M2, h1, h2, q⟩
theorem z_rt {m : Nat} {d e : D} {M2 : Mem} (h1 : frE m M1 d = some e) (h2 : frMs m M1 (M1.take m) = some M2) (q : Q (.ret e) M2) : FZ m Q (.ret d) M1 := ⟨e, M2, h1, h2, q⟩
theorem fe_c {m : Nat} (c : Ec A) (a : A) : frE m M1 (c.e a) = some (c.e a) := fe_v (c.nr a)
theorem fe_r {m : Nat} {mo : MO} [CNr mo] {n : Nat} (hn : Nat.blt n m = false) (hm : gm M1 n = some mo) : frE m M1 (.ref n) = some mo.fz := by
  have h := fs_r (ρ := []) (ρ' := []) hn hm rfl
  exact List.head_eq_of_cons_eq h
theorem w_blk (h : WP (sSeq f sNext) ρ M (FZ M.length Q)) : WP (sBlk f) ρ M Q := by
  obtain ⟨o, M1, e, q⟩ := w_add h
  cases o with
  | nx ρ1 => obtain ⟨ρ2, M2, h1, h2, q⟩ := q; exact ⟨.nx ρ2, M2, by unfold sBlk; rw [e, Option.bind_some]; simp only []; rw [h2]; unfold FrS at h1; rw [← h1]; rfl, q⟩
  | bk ρ1 => obtain ⟨ρ2, M2, h1, h2, q⟩ := q; exact ⟨.bk ρ2, M2, by unfold sBlk; rw [e, Option.bind_some]; simp only []; rw [h2]; unfold FrS at h1; rw [← h1]; rfl, q⟩
  | ct ρ1 => obtain ⟨ρ2, M2, h1, h2, q⟩ := q; exact ⟨.ct ρ2, M2, by unfold sBlk; rw [e, Option.bind_some]; simp only []; rw [h2]; unfold FrS at h1; rw [← h1]; rfl, q⟩
  | ret d => obtain ⟨e', M2, h1, h2, q⟩ := q; exact ⟨.ret e', M2, by unfold sBlk; rw [e, Option.bind_some]; simp only []; rw [h2, Option.bind_some]; rw [h1]; rfl, q⟩
end
end TL
namespace TL
open PySem PySem.Spec PyProof.Rows L2 PF
variable {A B C S A' B' C' E : Type}
/-! ### one type seen as another -/
theorem co_O {c : Ec A} {c' : Ec B} {f : A → B} (h : ∀ a, c'.e (f a) = c.e a) (o : Option A) : (eO c').e (o.map f) = (eO c).e o := by
  cases o with
  | none => rfl
  | some a => exact h a
theorem co_map {c : Ec A} {c' : Ec B} {f : A → B} (h : ∀ a, c'.e (f a) = c.e a) (xs : List A) : (xs.map f).map c'.e = xs.map c.e := by
  rw [List.map_map]; exact List.map_congr_left fun a _ => h a
theorem co_L {c : Ec A} {c' : Ec B} {f : A → B} (h : ∀ a, c'.e (f a) = c.e a) (xs : List A) : (eL c').e (xs.map f) = (eL c).e xs := by
  show D.lst _ = D.lst _
  rw [co_map h]
theorem co_V {c : Ec A} {c' : Ec B} {f : A → B} (h : ∀ a, c'.e (f a) = c.e a) (xs : List A) : (eV c').e (xs.map f) = (eV c).e xs := by
  show D.tup _ = D.tup _
  rw [co_map h]
def tv1 (xs : List A) : Option A := match xs with | [a] => some a | _ => none
def tv2 (xs : List A) : Option (A × A) := match xs with | [a, b] => some (a, b) | _ => none
def tv3 (xs : List A) : Option (A × A × A) := match xs with | [a, b, c] => some (a, b, c) | _ => none
def tv4 (xs : List A) : Option (A × A × A × A) := match xs with | [a, b, c, d] => some (a, b, c, d) | _ => none
section
variable {c : Ec A} {ρ : Rho} {M M1 : Mem} {fa : FE} {xs : List A}
theorem x_v1 {p : A} (h : fa ρ M = some ((eV c).e xs, M1)) (E : tv1 xs = some p) : fa ρ M = some ((e1 c).e p, M1) := by
  unfold tv1 at E; split at E
  · cases E; exact h
  · cases E
theorem x_v2 {p : A × A} (h : fa ρ M = some ((eV c).e xs, M1)) (E : tv2 xs = some p) : fa ρ M = some ((e2 c c).e p, M1) := by
  unfold tv2 at E; split at E
  · cases E; exact h
  · cases E
theorem x_v3 {p : A × A × A} (h : fa ρ M = some ((eV c).e xs, M1)) (E : tv3 xs = some p) : fa ρ M = some ((e3 c c c).e p, M1) := by
  unfold tv3 at E; split at E
  · cases E; exact h
  · cases E
theorem x_v4 {p : A × A × A × A} (h : fa ρ M = some ((eV c).e xs, M1)) (E : tv4 xs = some p) : fa ρ M = some ((e4 c c c c).e p, M1) := by
  unfold tv4 at E; split at E
  · cases E; exact h
  · cases E
theorem tall_map : ∀ {xs : List (Option A)} {ys : List A}, tall xs = some ys → xs.map (eO c).e = ys.map c.e
  | [], ys, h => by cases h; rfl
  | x :: xs, ys, h => by
    obtain ⟨a, ha, h⟩ := bnd h
    obtain ⟨as, has, h⟩ := bnd h
    cases h
    subst ha
    rw [List.map_cons, List.map_cons, tall_map has]; rfl
theorem x_allL {os : List (Option A)} (h : fa ρ M = some ((eL (eO c)).e os, M1)) (E : tall os = some xs) : fa ρ M = some ((eL c).e xs, M1) := by
  rw [h]; show some (D.lst _, M1) = some (D.lst _, M1); rw [tall_map E]
theorem x_allV {os : List (Option A)} (h : fa ρ M = some ((eV (eO c)).e os, M1)) (E : tall os = some xs) : fa ρ M = some ((eV c).e xs, M1) := by
  rw [h]; show some (D.tup _, M1) = some (D.tup _, M1); rw [tall_map E]
theorem x_allN {f : FA} {os : List (Option A)} (h : f ρ M = some (os.map (eO c).e, M1)) (E : tall os = some xs) : f ρ M = some (xs.map c.e, M1) := by
  rw [h, tall_map E]
theorem x_mutE {f : FA} {ys : List A} (h : f ρ M = some (xs.map c.e, M1)) (E : xs = ys) : fMut f ρ M = some (.ref M1.length, M1 ++ [cl c ys]) := by subst E; exact x_mut h
end
theorem pinj {a c : A} {b d : B} (h : some (a, b) = some (c, d)) : a = c ∧ b = d := by cases h; exact ⟨rfl, rfl⟩
theorem at3 {x0 x1 x2 x3 : A} {xs : List A} : L2.atI (x0 :: x1 :: x2 :: x3 :: xs) 3 = some x3 := at_nat (n := 3) rfl
theorem at4 {x0 x1 x2 x3 x4 : A} {xs : List A} : L2.atI (x0 :: x1 :: x2 :: x3 :: x4 :: xs) 4 = some x4 := at_nat (n := 4) rfl
theorem at5 {x0 x1 x2 x3 x4 x5 : A} {xs : List A} : L2.atI (x0 :: x1 :: x2 :: x3 :: x4 :: x5 :: xs) 5 = some x5 := at_nat (n := 5) rfl
theorem at6 {x0 x1 x2 x3 x4 x5 x6 : A} {xs : List A} : L2.atI (x0 :: x1 :: x2 :: x3 :: x4 :: x5 :: x6 :: xs) 6 = some x6 := at_nat (n := 6) rfl
theorem at0 {x0 : A} {xs : List A} : L2.atI (x0 :: xs) 0 = some x0 := at_nat (n := 0) rfl
theorem at1 {x0 x1 : A} {xs : List A} : L2.atI (x0 :: x1 :: xs) 1 = some x1 := at_nat (n := 1) rfl
theorem at2 {x0 x1 x2 : A} {xs : List A} : L2.atI (x0 :: x1 :: x2 :: xs) 2 = some x2 := at_nat (n := 2) rfl
/-! ### _law_same, of two things -/
noncomputable def bsame (q : FnC) : FS := (sSeq (sIf (fTru (fIsi .bl (fVar 1)))
      (sRet (fAndV (fIsi .bl (fVar 0)) (f2 (gB (gEq)) (fVar 0) (fVar 1))))
      (sNext))
      (sSeq (sIf (fTru (fIsi .int (fVar 1)))
      (sRet (fAndV (fIsi .int (fVar 0)) (fAndV (fNotV (fIsi .bl (fVar 0))) (f2 (gB (gEq)) (fVar 0) (fVar 1)))))
      (sNext))
      (sSeq (sIf (fTru (fIsi .str (fVar 1)))
      (sRet (fAndV (fIsi .str (fVar 0)) (f2 (gB (gEq)) (fVar 0) (fVar 1))))
      (sNext))
      (sSeq (sIf (f2T (gIs) (fVar 1) (fC .non))
      (sRet (f2 (gB (gIs)) (fVar 0) (fC .non)))
      (sNext))
      (sSeq (sIf (fOr (fNot (fTru (fIsi .tup (fVar 0)))) (f2T (gNe) (fB gLen (fCons (fVar 0) (fNil))) (fB gLen (fCons (fVar 1) (fNil)))))
      (sRet (fC (.bl false)))
      (sNext))
      (sSeq (sFor (fiRg1 (fCons (fB gLen (fCons (fVar 1) (fNil))) (fNil))) (tN 2)
      (sIf (fNot (fTru (fCall q (fCons (f2 gIx (fVar 0) (fVar 2)) (fCons (f2 gIx (fVar 1) (fVar 2)) (fNil))))))
      (sRet (fC (.bl false)))
      (sNext)))
      (sRet (fC (.bl true)))))))))
end TL
namespace TL
open PySem PySem.Spec PyProof.Rows L2 PF
variable {A B C S A' B' C' E : Type}
theorem gm_l {L : Mem} : ∀ {M : Mem} {n : Nat} {mo : MO}, gm M n = some mo → gm (M ++ L) n = some mo
  | [], _, _, h => by cases h
  | _ :: _, 0, _, h => h
  | _ :: M, n + 1, _, h => gm_l (M := M) (n := n) h
theorem gm_end {mo : MO} : ∀ {M : Mem}, gm (M ++ [mo]) M.length = some mo
  | [] => rfl
  | _ :: M => gm_end (M := M)
theorem gm_st {x mo : MO} : ∀ {M : Mem} {i n : Nat}, i < n → gm M n = some mo → gm (M.set i x) n = some mo
  | [], _, _, _, h => by cases h
  | _ :: _, 0, 0, hi, _ => absurd hi (Nat.lt_irrefl _)
  | _ :: _, 0, _ + 1, _, h => h
  | _ :: _, _ + 1, 0, hi, _ => absurd hi (Nat.not_lt_zero _)
  | _ :: M, i + 1, n + 1, hi, h => gm_st (M := M) (Nat.lt_of_succ_lt_succ hi) h
theorem x_isi (T : Ty) {fa : FE} {ρ : Rho} {M M1 : Mem} {d : D} {b : Bool} (ha : fa ρ M = some (d, M1)) (h : isi (tyOf d) T = b) (hn : noDct d M1 = true := by rfl) : fIsi T fa ρ M = some (eB.e b, M1) := by
  rw [ev_isi, ha, Option.bind_some]
  subst h
  exact if_pos hn
theorem x_isiO (T : Ty) {fa : FE} {ρ : Rho} {M M1 : Mem} {c : Ec A} {o : Option A} (ha : fa ρ M = some ((eO c).e o, M1)) (h : ∀ a, isi (tyOf (c.e a)) T = true) (hT : isi .non T = false := by rfl) (hd : ∀ a, noDct (c.e a) M1 = true := by intro _; rfl) : fIsi T fa ρ M = some (eB.e o.isSome, M1) := by
  cases o with
  | none => exact x_isi T ha hT
  | some a => exact x_isi T ha (h a) (hd a)
theorem x_isiO0 (T : Ty) {fa : FE} {ρ : Rho} {M M1 : Mem} {c : Ec A} {o : Option A} (ha : fa ρ M = some ((eO c).e o, M1)) (h : ∀ a, isi (tyOf (c.e a)) T = false) (hT : isi .non T = false := by rfl) (hd : ∀ a, noDct (c.e a) M1 = true := by intro _; rfl) : fIsi T fa ρ M = some (eB.e false, M1) := by
  cases o with
  | none => exact x_isi T ha hT
  | some a => exact x_isi T ha (h a) (hd a)
theorem x_repN {c : Ec A} {xs zs : List A} {j : Int} {fa fb : FE} {x : D} {ρ : Rho} {M M1 M2 : Mem} (ha : fa ρ M = some (x, M1)) (hb : fb ρ M1 = some (eI.e j, M2)) (l : Lt x M2 c xs) (h : trepL xs j = some zs) : f2N gRep fa fb ρ M = some (zs.map c.e, M2) := by
  obtain ⟨hq, rfl⟩ := trepL_ok h
  unfold f2N
  rw [ha, Option.bind_some]; simp only []; rw [hb, Option.bind_some]
  show (match ltOf x M2 with | some xs => if (decide (-(9223372036854775808) ≤ j) && (decide (j < 9223372036854775808) && decide (xs.length * j.toNat ≤ LINE))) = true then some (List.replicate j.toNat xs).flatten else none | none => none).bind _ = _
  rw [l.lt]
  simp only [List.length_map]
  rw [if_pos hq, flat_map]; rfl
theorem u_sub {a b : Int} {M : Mem} : gISub (eI.e a) (eI.e b) M = some (eI.e (a - b), M) := rfl
theorem u_mul {a b c : Int} {M : Mem} (h : tmul a b = some c) : gIMul (eI.e a) (eI.e b) M = some (eI.e c, M) := by
  show (if okMul a b = true then some (D.int (a * b), M) else none) = _
  unfold tmul at h
  split at h
  · rename_i q; rw [if_pos q]; cases h; rfl
  · cases h
theorem x_fzD {f : FA} {ρ : Rho} {M M1 : Mem} {ds : List D} (h : f ρ M = some (ds, M1)) (hl : Nat.ble ds.length 10000 = true) : fFz (fLstD f) ρ M = some (.lst ds, M1) := by
  rw [ev_fz, ev_lstD, h, Option.bind_some, if_pos (Nat.le_trans (Nat.le_of_ble_eq_true hl) (by decide))]; rfl
section
variable {c : Ec A} {ρ : Rho} {M M1 : Mem} {fa : FE} {xs : List A}
theorem x_l2 {p : A × A} (h : fa ρ M = some ((eL c).e xs, M1)) (E : tv2 xs = some p) : fa ρ M = some (.lst [c.e p.1, c.e p.2], M1) := by
  unfold tv2 at E; split at E
  · cases E; exact h
  · cases E
theorem x_l3 {p : A × A × A} (h : fa ρ M = some ((eL c).e xs, M1)) (E : tv3 xs = some p) : fa ρ M = some (.lst [c.e p.1, c.e p.2.1, c.e p.2.2], M1) := by
  unfold tv3 at E; split at E
  · cases E; exact h
  · cases E
theorem x_l4 {p : A × A × A × A} (h : fa ρ M = some ((eL c).e xs, M1)) (E : tv4 xs = some p) : fa ρ M = some (.lst [c.e p.1, c.e p.2.1, c.e p.2.2.1, c.e p.2.2.2], M1) := by
  unfold tv4 at E; split at E
  · cases E; exact h
  · cases E
end
theorem tf_all (xs : List A) : tfilt (fun _ => some true) xs = some xs := by rw [tfilt_some, List.filter_eq_self.mpr fun _ _ => rfl]
theorem u_eq {g : G2M} {x y : D} {c : Ec A} {a b : A} {M M1 : Mem} (h : g x y M = some (c.e a, M1)) (E : a = b) : g x y M = some (c.e b, M1) := by subst E; exact h
/-! ### _law_same -/
def okA (_ : A) : Bool := true
def okO (f : A → Bool) (o : Option A) : Bool := match o with | none => true | some a => f a
def okV (f : A → Bool) (xs : List A) : Bool := Nat.ble xs.length 1000000 && xs.all f
def okP (f : A → Bool) (g : B → Bool) (p : A × B) : Bool := f p.1 && g p.2
def okS (x : Str) : Bool := PyData.strOk x
def tsame [DecidableEq A] (ok : A → Bool) (a b : A) : Option Bool := if (ok a && ok b) = true then some (decide (a = b)) else none
/-- what a _law_same keeps -/
structure SameFn (cs : Nat → FnC) : Prop where
  bl : ∀ n a b, cs (n + 1) [.bl a, .bl b] [] = some (.bl (decide (a = b)), [])
  int : ∀ n a b, cs (n + 1) [.int a, .int b] [] = some (.bl (decide (a = b)), [])
  str : ∀ n a b, PyData.strOk a = true → PyData.strOk b = true → cs (n + 1) [.str a, .str b] [] = some (.bl (decide (a = b)), [])
  nn : ∀ n d, d.nr = true → cs (n + 1) [d, .non] [] = some (.bl (isNn d), [])
  nx : ∀ n d, d.nr = true → d.nl = true → isNn d = false → cs (n + 1) [.non, d] [] = some (.bl false, [])
  tn : ∀ n xs ys, D.nrs xs = true → D.nrs ys = true → xs.length ≠ ys.length → cs (n + 1) [.tup xs, .tup ys] [] = some (.bl false, [])
  tt : ∀ n (zs : List (D × D)) (f : D × D → Bool), zs.length ≤ 1000000 → D.nrs (zs.map Prod.fst) = true → D.nrs (zs.map Prod.snd) = true → (∀ z ∈ zs, cs n [z.1, z.2] [] = some (.bl (f z), [])) → cs (n + 1) [.tup (zs.map Prod.fst), .tup (zs.map Prod.snd)] [] = some (.bl (zs.all f), [])
class Sm (n : outParam Nat) (c : Ec A) (ok : outParam (A → Bool)) [DecidableEq A] : Prop where
  s : ∀ {cs : Nat → FnC}, SameFn cs → ∀ m, n ≤ m → ∀ a b, ok a = true → ok b = true → cs m [c.e a, c.e b] [] = some (.bl (decide (a = b)), [])
  nl : ∀ a, (c.e a).nl = true
instance sm_I : Sm 1 eI (okA (A := Int)) := ⟨fun h m hm a b _ _ => by obtain ⟨k, rfl⟩ : ∃ k, m = k + 1 := ⟨m - 1, by omega⟩; exact h.int k a b, fun _ => rfl⟩
instance sm_B : Sm 1 eB (okA (A := Bool)) := ⟨fun h m hm a b _ _ => by obtain ⟨k, rfl⟩ : ∃ k, m = k + 1 := ⟨m - 1, by omega⟩; exact h.bl k a b, fun _ => rfl⟩
instance sm_S : Sm 1 eS okS := ⟨fun h m hm a b h1 h2 => by obtain ⟨k, rfl⟩ : ∃ k, m = k + 1 := ⟨m - 1, by omega⟩; exact h.str k a b h1 h2, fun _ => rfl⟩
instance sm_N : Sm 1 eN (okA (A := Unit)) := ⟨fun h m hm a b _ _ => by
  obtain ⟨k, rfl⟩ : ∃ k, m = k + 1 := ⟨m - 1, by omega⟩
  exact h.nn k .non rfl, fun _ => rfl⟩
instance sm_O {n : Nat} {c : Ec A} {ok : A → Bool} [DecidableEq A] [q : Sm n c ok] [nn : NotN c] : Sm (n + 1) (eO c) (okO ok) := ⟨fun h m hm a b h1 h2 => by
  obtain ⟨k, rfl⟩ : ∃ k, m = k + 1 := ⟨m - 1, by omega⟩
  cases a with
  | none =>
    cases b with
    | none => exact h.nn k .non rfl
    | some b =>
      have := h.nx k (c.e b) (c.nr b) (q.nl b) (nn.nn b)
      exact this
  | some a =>
    cases b with
    | none =>
      have := h.nn k (c.e a) (c.nr a)
      rw [nn.nn a] at this
      exact this
    | some b =>
      have := q.s h (k + 1) (by omega) a b h1 h2
      rw [show decide (some a = some b) = decide (a = b) by by_cases e : a = b <;> simp [e]]
      exact this, fun o => match o with | none => rfl | some a => q.nl a⟩
theorem all_zip [DecidableEq A] : ∀ xs ys : List A, xs.length = ys.length → (xs.zip ys).all (fun p => decide (p.1 = p.2)) = decide (xs = ys)
  | [], [], _ => rfl
  | [], _ :: _, h => by simp at h
  | _ :: _, [], h => by simp at h
  | x :: xs, y :: ys, h => by
    rw [List.zip_cons_cons, List.all_cons, all_zip xs ys (by simpa using h)]
    by_cases e1 : x = y <;> by_cases e2 : xs = ys <;> simp [e1, e2]
instance sm_V {n : Nat} {c : Ec A} {ok : A → Bool} [DecidableEq A] [q : Sm n c ok] : Sm (n + 1) (eV c) (okV ok) := ⟨fun {cs} h m hm a b h1 h2 => by
  obtain ⟨k, rfl⟩ : ∃ k, m = k + 1 := ⟨m - 1, by omega⟩
  unfold okV at h1 h2
  rw [Bool.and_eq_true, List.all_eq_true] at h1 h2
  show cs (k + 1) [.tup (a.map c.e), .tup (b.map c.e)] [] = _
  by_cases hl : a.length = b.length
  · have hz := h.tt k ((a.zip b).map fun p => (c.e p.1, c.e p.2)) (fun z => (a.zip b).all fun p => true) 
    -- the rows side by side
    have hf : ∀ (xs ys : List A), xs.length = ys.length → (∀ x ∈ xs, ok x = true) → (∀ x ∈ ys, ok x = true) → ys.length ≤ 1000000 → cs (k + 1) [.tup (xs.map c.e), .tup (ys.map c.e)] [] = some (.bl ((xs.zip ys).all fun p => decide (p.1 = p.2)), []) := by
      intro xs ys hxy ha hb hlen
      have e1 : xs.map c.e = ((xs.zip ys).map fun p => (c.e p.1, c.e p.2)).map Prod.fst := by
        rw [List.map_map, show (Prod.fst ∘ fun p : A × A => (c.e p.1, c.e p.2)) = c.e ∘ Prod.fst from rfl, ← List.map_map, List.map_fst_zip (by omega)]
      have e2 : ys.map c.e = ((xs.zip ys).map fun p => (c.e p.1, c.e p.2)).map Prod.snd := by
        rw [List.map_map, show (Prod.snd ∘ fun p : A × A => (c.e p.1, c.e p.2)) = c.e ∘ Prod.snd from rfl, ← List.map_map, List.map_snd_zip (by omega)]
      -- a test on data that tells equal ones: the result of the call itself
      let g : D × D → Bool := fun z => match cs k [z.1, z.2] [] with | some (.bl b, _) => b | _ => false
      have hg : ∀ p ∈ xs.zip ys, cs k [c.e p.1, c.e p.2] [] = some (.bl (decide (p.1 = p.2)), []) := fun p hp => by
        have hp' : (p.1, p.2) ∈ xs.zip ys := hp
        exact q.s h k (by omega) p.1 p.2 (ha _ (List.of_mem_zip hp').1) (hb _ (List.of_mem_zip hp').2)
      have := h.tt k ((xs.zip ys).map fun p => (c.e p.1, c.e p.2)) g (by rw [List.length_map, List.length_zip]; omega) (by rw [← e1]; exact nrs_map c.nr xs) (by rw [← e2]; exact nrs_map c.nr ys) (fun z hz => by
        obtain ⟨p, hp, rfl⟩ := List.mem_map.mp hz
        show cs k [c.e p.1, c.e p.2] [] = some (.bl (match cs k [c.e p.1, c.e p.2] [] with | some (.bl b, _) => b | _ => false), [])
        rw [hg p hp])
      rw [← e1, ← e2] at this
      rw [this, List.all_map]
      congr 2
      have : (xs.zip ys).all (g ∘ fun p => (c.e p.1, c.e p.2)) = (xs.zip ys).all fun p => decide (p.1 = p.2) := by
        rw [Bool.eq_iff_iff, List.all_eq_true, List.all_eq_true]
        refine ⟨fun hh p hp => ?_, fun hh p hp => ?_⟩
        · have := hh p hp
          show decide _ = true
          have e : (g ∘ fun p : A × A => (c.e p.1, c.e p.2)) p = decide (p.1 = p.2) := by
            show (match cs k [c.e p.1, c.e p.2] [] with | some (.bl b, _) => b | _ => false) = _
            rw [hg p hp]
          rw [← e]; exact this
        · have e : (g ∘ fun p : A × A => (c.e p.1, c.e p.2)) p = decide (p.1 = p.2) := by
            show (match cs k [c.e p.1, c.e p.2] [] with | some (.bl b, _) => b | _ => false) = _
            rw [hg p hp]
          rw [e]; exact hh p hp
      rw [this]
    rw [hf a b hl h1.2 h2.2 (Nat.le_of_ble_eq_true h2.1), all_zip a b hl]
  · rw [h.tn k _ _ (nrs_map c.nr a) (nrs_map c.nr b) (by simpa using hl), decide_eq_false (fun e => hl (by rw [e]))], fun xs => nl_tup (nls_map q.nl xs)⟩
section
variable {A1 A2 A3 A4 A5 A6 : Type} {a1 : Ec A1} {a2 : Ec A2} {a3 : Ec A3} {a4 : Ec A4} {a5 : Ec A5} {a6 : Ec A6} {k1 k2 k3 k4 k5 k6 : Nat} [DecidableEq A1] [DecidableEq A2] [DecidableEq A3] [DecidableEq A4] [DecidableEq A5] [DecidableEq A6]
  {l1 : A1 → Bool} {l2 : A2 → Bool} {l3 : A3 → Bool} {l4 : A4 → Bool} {l5 : A5 → Bool} {l6 : A6 → Bool}
  [q1 : Sm k1 a1 l1] [q2 : Sm k2 a2 l2] [q3 : Sm k3 a3 l3] [q4 : Sm k4 a4 l4] [q5 : Sm k5 a5 l5] [q6 : Sm k6 a6 l6]
/-- fixed tuples: a list of pairs with what is due of each -/
theorem sm_tup {cs : Nat → FnC} (h : SameFn cs) {k : Nat} (zs : List (D × D)) (bs : List Bool) (hl : zs.length ≤ 1000000) (h1 : D.nrs (zs.map Prod.fst) = true) (h2 : D.nrs (zs.map Prod.snd) = true) (hz : zs.map (fun z => cs k [z.1, z.2] []) = bs.map fun b => some (.bl b, [])) : cs (k + 1) [.tup (zs.map Prod.fst), .tup (zs.map Prod.snd)] [] = some (.bl (bs.all id), []) := by
  let g : D × D → Bool := fun z => match cs k [z.1, z.2] [] with | some (.bl b, _) => b | _ => false
  have key : ∀ (zs : List (D × D)) (bs : List Bool), zs.map (fun z => cs k [z.1, z.2] []) = bs.map (fun b => some (.bl b, [])) → (∀ z ∈ zs, cs k [z.1, z.2] [] = some (.bl (g z), [])) ∧ zs.all g = bs.all id := by
    intro zs
    induction zs with
    | nil => intro bs h; cases bs with | nil => exact ⟨fun _ h => (by cases h), rfl⟩ | cons _ _ => cases h
    | cons z zs ih =>
      intro bs h
      cases bs with
      | nil => cases h
      | cons b bs =>
        rw [List.map_cons, List.map_cons, List.cons.injEq] at h
        obtain ⟨i1, i2⟩ := ih bs h.2
        have e : g z = b := by show (match cs k [z.1, z.2] [] with | some (.bl b, _) => b | _ => false) = b; rw [h.1]
        refine ⟨fun y hy => ?_, by rw [List.all_cons, List.all_cons, e, i2]; rfl⟩
        rcases List.mem_cons.mp hy with rfl | hy
        · rw [e]; exact h.1
        · exact i1 y hy
  obtain ⟨i1, i2⟩ := key zs bs hz
  rw [h.tt k zs g hl h1 h2 i1, i2]
instance sm_0 : Sm 1 e0 (okA (A := Unit)) := ⟨fun {cs} h m hm a b _ _ => by
  obtain ⟨k, rfl⟩ : ∃ k, m = k + 1 := ⟨m - 1, by omega⟩
  exact sm_tup h (k := k) [] [] (by decide) rfl rfl rfl, fun _ => nl_tup rfl⟩
instance sm_1 : Sm (k1 + 1) (e1 a1) l1 := ⟨fun {cs} h m hm a b h1 h2 => by
  obtain ⟨k, rfl⟩ : ∃ k, m = k + 1 := ⟨m - 1, by omega⟩
  have := sm_tup h (k := k) [(a1.e a, a1.e b)] [decide (a = b)] (by simp) (nrs_c (a1.nr _) nrs_n) (nrs_c (a1.nr _) nrs_n) (by simp only [List.map_cons, List.map_nil, q1.s h k (by omega) a b h1 h2])
  simpa [e1] using this, fun _ => nl_tup (nls_c (q1.nl _) rfl)⟩
instance sm_2 : Sm (max k1 k2 + 1) (e2 a1 a2) (okP l1 l2) := ⟨fun {cs} h m hm a b h1 h2 => by
  obtain ⟨k, rfl⟩ : ∃ k, m = k + 1 := ⟨m - 1, by omega⟩
  obtain ⟨x1, x2⟩ := a; obtain ⟨y1, y2⟩ := b
  simp only [okP, Bool.and_eq_true] at h1 h2
  have := sm_tup h (k := k) [(a1.e x1, a1.e y1), (a2.e x2, a2.e y2)] [decide (x1 = y1), decide (x2 = y2)] (by simp) (nrs_c (a1.nr _) (nrs_c (a2.nr _) nrs_n)) (nrs_c (a1.nr _) (nrs_c (a2.nr _) nrs_n)) (by simp only [List.map_cons, List.map_nil, q1.s h k (by omega) x1 y1 h1.1 h2.1, q2.s h k (by omega) x2 y2 h1.2 h2.2])
  simpa [e2, Prod.mk.injEq, Bool.decide_and] using this, fun _ => nl_tup (nls_c (q1.nl _) (nls_c (q2.nl _) rfl))⟩
instance sm_3 : Sm (max (max k1 k2) k3 + 1) (e3 a1 a2 a3) (okP l1 (okP l2 l3)) := ⟨fun {cs} h m hm a b h1 h2 => by
  obtain ⟨k, rfl⟩ : ∃ k, m = k + 1 := ⟨m - 1, by omega⟩
  obtain ⟨x1, x2, x3⟩ := a; obtain ⟨y1, y2, y3⟩ := b
  simp only [okP, Bool.and_eq_true] at h1 h2
  have := sm_tup h (k := k) [(a1.e x1, a1.e y1), (a2.e x2, a2.e y2), (a3.e x3, a3.e y3)] [decide (x1 = y1), decide (x2 = y2), decide (x3 = y3)] (by simp) (nrs_c (a1.nr _) (nrs_c (a2.nr _) (nrs_c (a3.nr _) nrs_n))) (nrs_c (a1.nr _) (nrs_c (a2.nr _) (nrs_c (a3.nr _) nrs_n))) (by simp only [List.map_cons, List.map_nil, q1.s h k (by omega) x1 y1 h1.1 h2.1, q2.s h k (by omega) x2 y2 h1.2.1 h2.2.1, q3.s h k (by omega) x3 y3 h1.2.2 h2.2.2])
  simpa [e3, Prod.mk.injEq, Bool.decide_and] using this, fun _ => nl_tup (nls_c (q1.nl _) (nls_c (q2.nl _) (nls_c (q3.nl _) rfl)))⟩
instance sm_4 : Sm (max (max (max k1 k2) k3) k4 + 1) (e4 a1 a2 a3 a4) (okP l1 (okP l2 (okP l3 l4))) := ⟨fun {cs} h m hm a b h1 h2 => by
  obtain ⟨k, rfl⟩ : ∃ k, m = k + 1 := ⟨m - 1, by omega⟩
  obtain ⟨x1, x2, x3, x4⟩ := a; obtain ⟨y1, y2, y3, y4⟩ := b
  simp only [okP, Bool.and_eq_true] at h1 h2
  have := sm_tup h (k := k) [(a1.e x1, a1.e y1), (a2.e x2, a2.e y2), (a3.e x3, a3.e y3), (a4.e x4, a4.e y4)] [decide (x1 = y1), decide (x2 = y2), decide (x3 = y3), decide (x4 = y4)] (by simp) (nrs_c (a1.nr _) (nrs_c (a2.nr _) (nrs_c (a3.nr _) (nrs_c (a4.nr _) nrs_n)))) (nrs_c (a1.nr _) (nrs_c (a2.nr _) (nrs_c (a3.nr _) (nrs_c (a4.nr _) nrs_n)))) (by simp only [List.map_cons, List.map_nil, q1.s h k (by omega) x1 y1 h1.1 h2.1, q2.s h k (by omega) x2 y2 h1.2.1 h2.2.1, q3.s h k (by omega) x3 y3 h1.2.2.1 h2.2.2.1, q4.s h k (by omega) x4 y4 h1.2.2.2 h2.2.2.2])
  simpa [e4, Prod.mk.injEq, Bool.decide_and] using this, fun _ => nl_tup (nls_c (q1.nl _) (nls_c (q2.nl _) (nls_c (q3.nl _) (nls_c (q4.nl _) rfl))))⟩
instance sm_5 : Sm (max (max (max (max k1 k2) k3) k4) k5 + 1) (e5 a1 a2 a3 a4 a5) (okP l1 (okP l2 (okP l3 (okP l4 l5)))) := ⟨fun {cs} h m hm a b h1 h2 => by
  obtain ⟨k, rfl⟩ : ∃ k, m = k + 1 := ⟨m - 1, by omega⟩
  obtain ⟨x1, x2, x3, x4, x5⟩ := a; obtain ⟨y1, y2, y3, y4, y5⟩ := b
  simp only [okP, Bool.and_eq_true] at h1 h2
  have := sm_tup h (k := k) [(a1.e x1, a1.e y1), (a2.e x2, a2.e y2), (a3.e x3, a3.e y3), (a4.e x4, a4.e y4), (a5.e x5, a5.e y5)] [decide (x1 = y1), decide (x2 = y2), decide (x3 = y3), decide (x4 = y4), decide (x5 = y5)] (by simp) (nrs_c (a1.nr _) (nrs_c (a2.nr _) (nrs_c (a3.nr _) (nrs_c (a4.nr _) (nrs_c (a5.nr _) nrs_n))))) (nrs_c (a1.nr _) (nrs_c (a2.nr _) (nrs_c (a3.nr _) (nrs_c (a4.nr _) (nrs_c (a5.nr _) nrs_n))))) (by simp only [List.map_cons, List.map_nil, q1.s h k (by omega) x1 y1 h1.1 h2.1, q2.s h k (by omega) x2 y2 h1.2.1 h2.2.1, q3.s h k (by omega) x3 y3 h1.2.2.1 h2.2.2.1, q4.s h k (by omega) x4 y4 h1.2.2.2.1 h2.2.2.2.1, q5.s h k (by omega) x5 y5 h1.2.2.2.2 h2.2.2.2.2])
  simpa [e5, Prod.mk.injEq, Bool.decide_and] using this, fun _ => nl_tup (nls_c (q1.nl _) (nls_c (q2.nl _) (nls_c (q3.nl _) (nls_c (q4.nl _) (nls_c (q5.nl _) rfl)))))⟩
end
/-- .. called -/
theorem p_sameG {cs : Nat → FnC} {q : FnC} (hq : q = cs 12) (hs : SameFn cs) {n : Nat} {c : Ec A} {ok : A → Bool} [DecidableEq A] [t : Sm n c ok] {M : Mem} {a b : A} (h1 : ok a = true) (h2 : ok b = true) (hn : Nat.ble n 12 = true := by decide) : callP q [c.e a, c.e b] M = some (eB.e (decide (a = b)), M) := by
  refine p_v (cR := eB) (av_c c a (av_c c b av_nil)) ?_
  rw [hq]
  exact t.s hs 12 (Nat.le_of_ble_eq_true hn) a b h1 h2
end TL
namespace TL
open PySem PySem.Spec PyProof.Rows L2 PF
variable {A B : Type}
class OkAll (ok : A → Bool) : Prop where
  t : ∀ a, ok a = true
instance oka_A : OkAll (okA (A := A)) := ⟨fun _ => rfl⟩
instance oka_O {f : A → Bool} [h : OkAll f] : OkAll (okO f) := ⟨fun o => match o with | none => rfl | some a => h.t a⟩
instance oka_P {f : A → Bool} {g : B → Bool} [h : OkAll f] [k : OkAll g] : OkAll (okP f g) := ⟨fun p => by unfold okP; rw [h.t, k.t]; rfl⟩
theorem p_sameG2 {cs : Nat → FnC} {q : FnC} (hq : q = cs 12) (hs : SameFn cs) {n : Nat} {c : Ec A} {ok : A → Bool} [DecidableEq A] [t : Sm n c ok] {M : Mem} {a b : A} {r : Bool} (h : tsame ok a b = some r) (hn : Nat.ble n 12 = true := by decide) : callP q [c.e a, c.e b] M = some (eB.e r, M) := by
  unfold tsame at h
  split at h
  · rename_i ho
    rw [Bool.and_eq_true] at ho
    cases h
    exact p_sameG hq hs ho.1 ho.2 hn
  · cases h
end TL
namespace TL
open PySem PySem.Spec PyProof.Rows L2 PF
variable {A B C S A1 A2 A3 A4 B1 B2 B3 B4 : Type}
/-! ### partial casts -/
def PC (c : Ec A) (c' : Ec B) (f : A → Option B) : Prop := ∀ a b, f a = some b → c'.e b = c.e a
theorem pc_id {c : Ec A} : PC c c some := fun a b h => by cases h; rfl
theorem pc_O {c : Ec A} : PC (eO c) c (fun o => o) := fun a b h => by subst h; rfl
theorem pc_co {c : Ec A} {c' : Ec B} {f : A → B} (E : ∀ a, c'.e (f a) = c.e a) : PC c c' (fun a => some (f a)) := fun a b h => by cases h; exact E a
theorem pc_then {c : Ec A} {c' : Ec B} {c2 : Ec C} {f : A → Option B} {g : B → Option C} (h : PC c c' f) (k : PC c' c2 g) : PC c c2 (fun a => (f a).bind g) := fun a b e => by
  obtain ⟨x, h1, h2⟩ := bnd e
  rw [k x b h2, h a x h1]
theorem pc_2 {c1 : Ec A1} {c2 : Ec A2} {d1 : Ec B1} {d2 : Ec B2} {f1 : A1 → Option B1} {f2 : A2 → Option B2} (h1 : PC c1 d1 f1) (h2 : PC c2 d2 f2) : PC (e2 c1 c2) (e2 d1 d2) (fun p => (f1 p.1).bind fun a => (f2 p.2).bind fun b => some (a, b)) := fun p q h => by
  obtain ⟨a, ha, h⟩ := bnd h
  obtain ⟨b, hb, h⟩ := bnd h
  cases h
  show D.tup [d1.e a, d2.e b] = D.tup [c1.e p.1, c2.e p.2]
  rw [h1 _ _ ha, h2 _ _ hb]
theorem pc_3 {c1 : Ec A1} {c2 : Ec A2} {c3 : Ec A3} {d1 : Ec B1} {d2 : Ec B2} {d3 : Ec B3} {f1 : A1 → Option B1} {f2 : A2 → Option B2} {f3 : A3 → Option B3} (h1 : PC c1 d1 f1) (h2 : PC c2 d2 f2) (h3 : PC c3 d3 f3) : PC (e3 c1 c2 c3) (e3 d1 d2 d3) (fun p => (f1 p.1).bind fun a => (f2 p.2.1).bind fun b => (f3 p.2.2).bind fun c => some (a, b, c)) := fun p q h => by
  obtain ⟨a, ha, h⟩ := bnd h
  obtain ⟨b, hb, h⟩ := bnd h
  obtain ⟨c, hc, h⟩ := bnd h
  cases h
  show D.tup [d1.e a, d2.e b, d3.e c] = D.tup [c1.e p.1, c2.e p.2.1, c3.e p.2.2]
  rw [h1 _ _ ha, h2 _ _ hb, h3 _ _ hc]
theorem pc_4 {c1 : Ec A1} {c2 : Ec A2} {c3 : Ec A3} {c4 : Ec A4} {d1 : Ec B1} {d2 : Ec B2} {d3 : Ec B3} {d4 : Ec B4} {f1 : A1 → Option B1} {f2 : A2 → Option B2} {f3 : A3 → Option B3} {f4 : A4 → Option B4} (h1 : PC c1 d1 f1) (h2 : PC c2 d2 f2) (h3 : PC c3 d3 f3) (h4 : PC c4 d4 f4) : PC (e4 c1 c2 c3 c4) (e4 d1 d2 d3 d4) (fun p => (f1 p.1).bind fun a => (f2 p.2.1).bind fun b => (f3 p.2.2.1).bind fun c => (f4 p.2.2.2).bind fun d => some (a, b, c, d)) := fun p q h => by
  obtain ⟨a, ha, h⟩ := bnd h
  obtain ⟨b, hb, h⟩ := bnd h
  obtain ⟨c, hc, h⟩ := bnd h
  obtain ⟨d, hd, h⟩ := bnd h
  cases h
  show D.tup [d1.e a, d2.e b, d3.e c, d4.e d] = D.tup [c1.e p.1, c2.e p.2.1, c3.e p.2.2.1, c4.e p.2.2.2]
  rw [h1 _ _ ha, h2 _ _ hb, h3 _ _ hc, h4 _ _ hd]
theorem pc_map {c : Ec A} {c' : Ec B} {f : A → Option B} (h : PC c c' f) : ∀ (xs : List A) (ys : List B), tmap f xs = some ys → ys.map c'.e = xs.map c.e
  | [], ys, e => by cases e; rfl
  | x :: xs, ys, e => by
    obtain ⟨y, hy, e⟩ := bnd e
    obtain ⟨ys', hys, e⟩ := bnd e
    cases e
    rw [List.map_cons, List.map_cons, h x y hy, pc_map h xs ys' hys]
theorem pc_L {c : Ec A} {c' : Ec B} {f : A → Option B} (h : PC c c' f) : PC (eL c) (eL c') (tmap f) := fun xs ys e => by
  show D.lst _ = D.lst _
  rw [pc_map h xs ys e]
theorem pc_V {c : Ec A} {c' : Ec B} {f : A → Option B} (h : PC c c' f) : PC (eV c) (eV c') (tmap f) := fun xs ys e => by
  show D.tup _ = D.tup _
  rw [pc_map h xs ys e]
theorem pc_v1 {c : Ec A} : PC (eV c) (e1 c) tv1 := fun xs p E => by
  unfold tv1 at E; split at E
  · cases E; rfl
  · cases E
theorem pc_v2 {c : Ec A} : PC (eV c) (e2 c c) tv2 := fun xs p E => by
  unfold tv2 at E; split at E
  · cases E; rfl
  · cases E
theorem pc_v3 {c : Ec A} : PC (eV c) (e3 c c c) tv3 := fun xs p E => by
  unfold tv3 at E; split at E
  · cases E; rfl
  · cases E
theorem pc_v4 {c : Ec A} : PC (eV c) (e4 c c c c) tv4 := fun xs p E => by
  unfold tv4 at E; split at E
  · cases E; rfl
  · cases E
theorem x_pc {c : Ec A} {c' : Ec B} {f : A → Option B} {a : A} {b : B} {fa : FE} {ρ : Rho} {M M1 : Mem} (h : fa ρ M = some (c.e a, M1)) (k : PC c c' f) (e : f a = some b) : fa ρ M = some (c'.e b, M1) := by rw [h, k a b e]
theorem co_cl {c : Ec A} {c' : Ec B} {f : A → B} (h : ∀ a, c'.e (f a) = c.e a) (xs : List A) : cl c' (xs.map f) = cl c xs := by
  show MO.lst _ = MO.lst _
  rw [co_map h]
/-! ### xs.index(y) -/
def tindex (xs : List Int) (y : Int) : Option Int := (findI (fun z => decide (z = y)) xs).map fun (j : Nat) => (j : Int)
theorem x_idx {fo : FE} {fa : FA} {d : D} {xs : List Int} {y i : Int} {ρ : Rho} {M M1 M2 : Mem} (ho : fo ρ M = some (d, M1)) (l0 : Ls d M1 eI xs) (ha : fa ρ M1 = some ([eI.e y], M2)) (l : Ls d M2 eI xs) (h : tindex xs y = some i) : fM "list" gIndexL fo fa ρ M = some (eI.e i, M2) := by
  have t : tyOk "list" d M1 = true := by
    show (lsOf d M1).isSome = true
    rw [l0.ls]; rfl
  rw [ev_m, ho, Option.bind_some]; simp only []; rw [if_pos t, ha, Option.bind_some]
  show (lsOf d M2).bind (fun xs => (intsOf xs).bind fun ns => (findI (fun z => decide (z = y)) ns).map fun (j : Nat) => (D.int (j : Int), M2)) = _
  rw [l.ls, Option.bind_some, intsOf_map, Option.bind_some]
  unfold tindex at h
  obtain ⟨j, hj, rfl⟩ := Option.map_eq_some_iff.mp h
  rw [hj]; rfl
/-! ### comprehensions whose if draws too -/
def tmapO (f : A → S → Option (Option B × S)) : List A → S → Option (List B × S)
  | [], s => some ([], s)
  | x :: xs, s => (f x s).bind fun y => (tmapO f xs y.2).bind fun r => some (match y.1 with | some b => b :: r.1 | none => r.1, r.2)
theorem lcoreO {c : Mem → Bool} {t : FG} {ft : FT} {fe : FE} {ρ : Rho} {cA : Ec A} {cB : Ec B} {f : A → S → Option (Option B × S)} (Mm : S → Mem) (hc : ∀ s, c (Mm s) = true)
    (step : ∀ x s, ∃ ρ', t (cA.e x) ρ = some ρ' ∧ ∀ y s1, f x s = some (y, s1) → ∃ b M1, ft ρ' (Mm s) = some (b, M1) ∧ (b = true → ∃ z, y = some z ∧ fe ρ' M1 = some (cB.e z, Mm s1)) ∧ (b = false → y = none ∧ M1 = Mm s1)) :
    ∀ (xs : List A) (ys : List B) (s s' : S) (acc : List D), tmapO f xs s = some (ys, s') → lcLoop c t ft fe ρ (xs.map cA.e) acc (Mm s) = some (acc ++ ys.map cB.e, Mm s')
  | [], ys, s, s', acc, h => by
    cases h
    rw [List.map_nil, lcLoop, if_pos (hc s), List.map_nil, List.append_nil]
  | x :: xs, ys, s, s', acc, h => by
    obtain ⟨⟨y, s1⟩, hy, h⟩ := bnd h
    obtain ⟨⟨ys', s2⟩, hys, h⟩ := bnd h
    obtain ⟨ρ', e1, e2⟩ := step x s
    obtain ⟨b, M1, e3, e4, e5⟩ := e2 y s1 hy
    rw [List.map_cons, lcLoop, if_pos (hc s), e1, Option.bind_some, e3, Option.bind_some]
    simp only []
    cases b with
    | true =>
      obtain ⟨z, rfl, e6⟩ := e4 rfl
      cases h
      rw [if_pos rfl, e6, Option.bind_some]
      simp only []
      rw [lcoreO Mm hc step xs ys' s1 _ _ hys, List.map_cons, List.append_assoc]; rfl
    | false =>
      obtain ⟨rfl, rfl⟩ := e5 rfl
      cases h
      rw [if_neg Bool.false_ne_true]
      exact lcoreO Mm hc step xs ys' s1 _ _ hys
theorem x_lcO {fi : FI} {vs : List Nat} {t : FG} {ft : FT} {fe : FE} {ρ : Rho} {M : Mem} {kk : KK} {xs : List A} {ys : List B} {cA : Ec A} {cB : Ec B} {f : A → S → Option (Option B × S)} (Mm : S → Mem) {s s' : S} (hi : fi ρ M = some ((xs.map cA.e, kk), Mm s)) (hc : ∀ s, chk kk (xs.map cA.e) (Mm s) = true) (h : tmapO f xs s = some (ys, s'))
    (step : ∀ x s, ∃ ρ', t (cA.e x) (wipeR ρ vs) = some ρ' ∧ ∀ y s1, f x s = some (y, s1) → ∃ b M1, ft ρ' (Mm s) = some (b, M1) ∧ (b = true → ∃ z, y = some z ∧ fe ρ' M1 = some (cB.e z, Mm s1)) ∧ (b = false → y = none ∧ M1 = Mm s1)) : fLC vs fi t ft fe ρ M = some (ys.map cB.e, Mm s') := by
  rw [ev_lc, hi, Option.bind_some]
  exact lcoreO Mm hc step xs ys s s' [] h
/-! ### and, or, if with a state -/
section
variable {ρ : Rho} {M : Mem} {ta tb : FT} {fa fb : FE} {a : Bool} {Mm : S → Mem} {s0 : S}
theorem k_andS (Mm : S → Mem) {t : Option (Bool × S)} {r : Bool × S} (ha : ta ρ M = some (a, Mm s0)) (h : (if a = true then t else some (false, s0)) = some r) (hb : t = some r → tb ρ (Mm s0) = some (r.1, Mm r.2)) : fAnd ta tb ρ M = some (r.1, Mm r.2) := by
  rw [ev_and, ha, Option.bind_some]; cases a
  · cases h; rfl
  · exact hb h
theorem k_orS (Mm : S → Mem) {t : Option (Bool × S)} {r : Bool × S} (ha : ta ρ M = some (a, Mm s0)) (h : (if a = true then some (true, s0) else t) = some r) (hb : t = some r → tb ρ (Mm s0) = some (r.1, Mm r.2)) : fOr ta tb ρ M = some (r.1, Mm r.2) := by
  rw [ev_or, ha, Option.bind_some]; cases a
  · exact hb h
  · cases h; rfl
theorem x_andZ (Mm : S → Mem) {t : Option (Bool × S)} {r : Bool × S} (ha : fa ρ M = some (eB.e a, Mm s0)) (h : (if a = true then t else some (false, s0)) = some r) (hb : t = some r → fb ρ (Mm s0) = some (eB.e r.1, Mm r.2)) : fAndV fa fb ρ M = some (eB.e r.1, Mm r.2) := by
  rw [ev_andV, ha, Option.bind_some]; simp only []; rw [tr_B, Option.bind_some]; cases a
  · cases h; rfl
  · exact hb h
theorem x_orZ (Mm : S → Mem) {t : Option (Bool × S)} {r : Bool × S} (ha : fa ρ M = some (eB.e a, Mm s0)) (h : (if a = true then some (true, s0) else t) = some r) (hb : t = some r → fb ρ (Mm s0) = some (eB.e r.1, Mm r.2)) : fOrV fa fb ρ M = some (eB.e r.1, Mm r.2) := by
  rw [ev_orV, ha, Option.bind_some]; simp only []; rw [tr_B, Option.bind_some]; cases a
  · exact hb h
  · cases h; rfl
theorem x_ifS (Mm : S → Mem) {c : Ec A} {fc : FT} {t u : Option (A × S)} {r : A × S} (hc : fc ρ M = some (a, Mm s0)) (h : (if a = true then t else u) = some r) (ha : t = some r → fa ρ (Mm s0) = some (c.e r.1, Mm r.2)) (hb : u = some r → fb ρ (Mm s0) = some (c.e r.1, Mm r.2)) : fIfE fc fa fb ρ M = some (c.e r.1, Mm r.2) := by
  rw [ev_ifE, hc, Option.bind_some]; cases a
  · exact hb h
  · exact ha h
end
/-! ### a return within a frozen body -/
theorem nr_take : ∀ {M : Mem} {k : Nat}, Mem.nr M = true → Mem.nr (M.take k) = true
  | [], k, h => by rw [List.take_nil]; rfl
  | m :: M, 0, h => rfl
  | m :: M, k + 1, h => by
    have h' : (m.nr && Mem.nr M) = true := h
    rw [Bool.and_eq_true] at h'
    show (m.nr && Mem.nr (M.take k)) = true
    rw [h'.1, nr_take h'.2]; rfl
theorem frMs_nr {m : Nat} {M1 : Mem} : ∀ {M : Mem}, Mem.nr M = true → frMs m M1 M = some M
  | [], _ => rfl
  | .lst xs :: M, h => by
    have h' : ((MO.lst xs).nr && Mem.nr M) = true := h
    rw [Bool.and_eq_true] at h'
    show (frL m M1 xs).bind (fun ys => (frMs m M1 M).bind fun ns => some (.lst ys :: ns)) = _
    rw [fl_v h'.1, Option.bind_some, frMs_nr h'.2]; rfl
  | .dct ks vs :: M, h => by
    have h' : ((MO.dct ks vs).nr && Mem.nr M) = true := h
    rw [Bool.and_eq_true] at h'
    show (if (D.nrs ks && D.nrs vs) = true then (frMs m M1 M).bind fun ns => some (.dct ks vs :: ns) else none) = _
    rw [if_pos (show (D.nrs ks && D.nrs vs) = true from h'.1), frMs_nr h'.2]; rfl
  | .lck o ks vs :: M, h => by
    have h' : ((MO.lck o ks vs).nr && Mem.nr M) = true := h
    rw [Bool.and_eq_true] at h'
    show (if (D.nrs ks && D.nrs vs) = true then (frMs m M1 M).bind fun ns => some (.lck o ks vs :: ns) else none) = _
    rw [if_pos (show (D.nrs ks && D.nrs vs) = true from h'.1), frMs_nr h'.2]; rfl
theorem mnr_n : Mem.nr [] = true := rfl
theorem mnr_c {mo : MO} [n : CNr mo] {M : Mem} (h : Mem.nr M = true) : Mem.nr (mo :: M) = true := by
  show (mo.nr && Mem.nr M) = true
  rw [n.nr, h]; rfl
theorem nr_get : ∀ {M : Mem} {j : Nat} {mo : MO}, Mem.nr M = true → M[j]? = some mo → mo.nr = true
  | [], _, _, _, h => by simp at h
  | m :: M, 0, mo, hn, h => by
    have h' : (m.nr && Mem.nr M) = true := hn
    rw [Bool.and_eq_true] at h'
    have e : m = mo := by simpa using h
    subst e; exact h'.1
  | m :: M, j + 1, mo, hn, h => by
    have h' : (m.nr && Mem.nr M) = true := hn
    rw [Bool.and_eq_true] at h'
    exact nr_get h'.2 (by simpa using h)
theorem fz_nr {mo : MO} (h : mo.nr = true) : mo.fz.nr = true := by
  cases mo with
  | lst xs => exact nr_lst h
  | dct ks vs => unfold MO.fz; rw [D.nr]; exact h
  | lck o ks vs => unfold MO.fz; rw [D.nr]; exact h
theorem z_hq {K m : Nat} {d : D} {M1 : Mem} {res : D × Mem} (h : fin false K d M1 = some res) (hn : Mem.nr M1 = true) (hK : K ≤ m) : ∃ e, frE m M1 d = some e ∧ frMs m M1 (M1.take m) = some (M1.take m) ∧ fin false K e (M1.take m) = some res ∧ Mem.nr (M1.take m) = true := by
  have n1 := nr_take (k := m) hn
  have ht : (M1.take m).take K = M1.take K := by rw [List.take_take, Nat.min_eq_left hK]
  have fv : ∀ e : D, e.nr = true → fin false K e M1 = some res → fin false K e (M1.take m) = some res := fun e he hf => by
    rw [fin_nr he (nr_take hn)] at hf
    rw [fin_nr he (by rw [ht]; exact nr_take hn), ht]; exact hf
  cases d with
  | ref j =>
    unfold fin at h
    rw [if_pos (nr_take hn)] at h
    have h : (if j < K then none else match M1[j]? with | some mo => if mo.nr = true then (if false = true then some (D.ref K, M1.take K ++ [mo]) else some (mo.fz, M1.take K)) else none | none => none) = some res := h
    split at h
    · cases h
    · rename_i hjK
      split at h
      · rename_i xs hx
        split at h
        · rename_i hxs
          have h : some (xs.fz, M1.take K) = some res := h
          by_cases hj : j < m
          · refine ⟨.ref j, if_pos hj, frMs_nr n1, ?_, n1⟩
            unfold fin
            rw [if_pos (by rw [ht]; exact nr_take hn)]
            show (if j < K then none else match (M1.take m)[j]? with | some mo => if mo.nr = true then (if false = true then some (D.ref K, (M1.take m).take K ++ [mo]) else some (mo.fz, (M1.take m).take K)) else none | none => none) = some res
            rw [if_neg hjK, List.getElem?_take_of_lt hj, hx]
            simp only [hxs, if_true, ht]
            exact h
          · refine ⟨xs.fz, ?_, frMs_nr n1, ?_, n1⟩
            · show (if j < m then some (D.ref j) else match M1[j]? with
                | some mo => if mo.nr = true then some mo.fz else none
                | none => none) = _
              rw [if_neg hj, hx]
              exact if_pos hxs
            · rw [fin_nr (fz_nr hxs) (by rw [ht]; exact nr_take hn), ht]
              exact h
        · cases h
      · cases h
  | non => exact ⟨_, rfl, frMs_nr n1, fv _ rfl h, n1⟩
  | bl b => exact ⟨_, rfl, frMs_nr n1, fv _ rfl h, n1⟩
  | int b => exact ⟨_, rfl, frMs_nr n1, fv _ rfl h, n1⟩
  | str b => exact ⟨_, rfl, frMs_nr n1, fv _ rfl h, n1⟩
  | tup xs =>
    have hnr : (D.tup xs).nr = true := by
      unfold fin at h
      rw [if_pos (nr_take hn)] at h
      have h : (if (D.tup xs).nr = true then some (D.tup xs, M1.take K) else none) = some res := h
      split at h
      · assumption
      · cases h
    exact ⟨_, fe_v hnr, frMs_nr n1, fv _ hnr h, n1⟩
  | lst xs =>
    have hnr : (D.lst xs).nr = true := by
      unfold fin at h
      rw [if_pos (nr_take hn)] at h
      have h : (if (D.lst xs).nr = true then some (D.lst xs, M1.take K) else none) = some res := h
      split at h
      · assumption
      · cases h
    exact ⟨_, fe_v hnr, frMs_nr n1, fv _ hnr h, n1⟩
  | kst xs =>
    have hnr : (D.kst xs).nr = true := by
      unfold fin at h
      rw [if_pos (nr_take hn)] at h
      have h : (if (D.kst xs).nr = true then some (D.kst xs, M1.take K) else none) = some res := h
      split at h
      · assumption
      · cases h
    exact ⟨_, fe_v hnr, frMs_nr n1, fv _ hnr h, n1⟩
  | dct ks vs =>
    have hnr : (D.dct ks vs).nr = true := by
      unfold fin at h
      rw [if_pos (nr_take hn)] at h
      have h : (if (D.dct ks vs).nr = true then some (D.dct ks vs, M1.take K) else none) = some res := h
      split at h
      · assumption
      · cases h
    exact ⟨_, fe_v hnr, frMs_nr n1, fv _ hnr h, n1⟩
end TL
namespace TL
open PySem PySem.Spec PyProof.Rows L2 PF
variable {A : Type}
theorem w_asgL {n : Nat} {t : FGs} {fe : FE} {k : FS} {d : D} {ds : List D} {ρ ρ' : Rho} {M M1 : Mem} {Q : Out → Mem → Prop} (h : fe ρ M = some (d, M1)) (l : lsOf d M1 = some ds) (hn : ds.length = n) (ht : t ds ρ = some ρ') (K : WP k ρ' M1 Q) : WP (sSeq (sAsgL fe n t) k) ρ M Q :=
  w_step (by unfold sAsgL; rw [h, Option.bind_some]; simp only []; rw [l, Option.bind_some, if_pos hn, ht]; rfl) K
theorem lu2 {c : Ec A} {d : D} {M : Mem} {xs : List A} {p : A × A} (l : Ls d M c xs) (E : tv2 xs = some p) : lsOf d M = some [c.e p.1, c.e p.2] := by
  rw [l.ls]; unfold tv2 at E; split at E
  · cases E; rfl
  · cases E
theorem lu3 {c : Ec A} {d : D} {M : Mem} {xs : List A} {p : A × A × A} (l : Ls d M c xs) (E : tv3 xs = some p) : lsOf d M = some [c.e p.1, c.e p.2.1, c.e p.2.2] := by
  rw [l.ls]; unfold tv3 at E; split at E
  · cases E; rfl
  · cases E
theorem lu4 {c : Ec A} {d : D} {M : Mem} {xs : List A} {p : A × A × A × A} (l : Ls d M c xs) (E : tv4 xs = some p) : lsOf d M = some [c.e p.1, c.e p.2.1, c.e p.2.2.1, c.e p.2.2.2] := by
  rw [l.ls]; unfold tv4 at E; split at E
  · cases E; rfl
  · cases E
/-! a list set anew in a loop, changed -/
theorem gm_eq {x y : MO} : ∀ {M : Mem} {n : Nat}, gm M n = some y → gm (M.set n x) n = some x
  | [], _, h => by cases h
  | _ :: _, 0, _ => rfl
  | _ :: M, n + 1, h => gm_eq (M := M) (n := n) h
theorem dyn_set {x y : MO} {C mj : Mem} {n : Nat} (h : gm (C ++ mj) n = some y) (hn : C.length ≤ n) : ∃ mj', (C ++ mj).set n x = C ++ mj' ∧ gm (C ++ mj') n = some x := by
  refine ⟨mj.set (n - C.length) x, ?_, ?_⟩
  · rw [List.set_append_right _ _ hn]
  · rw [← List.set_append_right _ _ hn]; exact gm_eq h
theorem dyn_set0 {x y : MO} {mj : Mem} {n : Nat} (h : gm mj n = some y) : ∃ mj', mj.set n x = mj' ∧ gm mj' n = some x := ⟨_, rfl, gm_eq h⟩
end TL
namespace TL
open PySem PySem.Spec PyProof.Rows L2 PF
variable {A : Type}
def tsortN (lt : List A → List A → Bool) (xs : List (List A)) : Option (List (List A)) := if xs.all (fun x => !x.isEmpty) = true then some (tsort lt xs) else none
theorem n_sortN {c : Ec A} {lt : A → A → Bool} {k : Nat} {d : D} {M : Mem} {xs ys : List (List A)} [DecidableEq A] [q : Eqv k c] [o : Ord c lt] (l : Sq d M (eV c) xs) (h : tsortN (ltV lt) xs = some ys) (hk : Nat.ble (k + 1) 59 = true := by decide) : gSortA [d] M = some (ys.map (eV c).e) := by
  unfold tsortN at h
  split at h
  · rename_i hn
    cases h
    show (sqOf d M).bind (fun xs => if (okAl xs && srtb xs) = true then some (sortD xs) else none) = _
    have hs : srtb (xs.map (eV c).e) = true := by
      unfold srtb
      rw [Bool.or_eq_true]
      refine .inl (List.all_eq_true.mpr fun x hx => ?_)
      obtain ⟨a, ha, rfl⟩ := List.mem_map.mp hx
      have := List.all_eq_true.mp hn a ha
      cases a with
      | nil => cases this
      | cons y ys => rfl
    rw [l.sq, Option.bind_some, if_pos (by rw [okAl_map (c := eV c) (Nat.le_of_ble_eq_true hk), hs]; rfl)]
    congr 1
    refine (List.map_mergeSort (f := (eV c).e) (r := fun a b => !ltV lt b a) (s := leD) fun a _ b _ => ?_).symm
    show _ = PySem.W.dataLe false D.py ((eV c).e a) ((eV c).e b)
    rw [PySem.W.dataLe_eq]
    show _ = !PySem.W.dataLt ((eV c).e b).py ((eV c).e a).py
    rw [(o_V (l1 := lt)).dl]
  · cases h
end TL
namespace TL
open PySem PySem.Spec PyProof.Rows L2 PF
variable {A B C : Type}
/-! ### a state of which only some lists are known -/
theorem gm_ne {x y : MO} : ∀ {M : Mem} {n m : Nat}, n ≠ m → gm M m = some y → gm (M.set n x) m = some y
  | [], _, _, _, h => by cases h
  | _ :: _, 0, 0, hn, _ => absurd rfl hn
  | _ :: _, 0, m + 1, _, h => h
  | _ :: _, n + 1, 0, _, h => h
  | _ :: M, n + 1, m + 1, hn, h => gm_ne (M := M) (n := n) (m := m) (fun e => hn (by rw [e])) h
theorem gm_lt {x : MO} {M : Mem} {n : Nat} (h : gm M n = some x) : n < M.length := by
  have := gm_at h
  exact (List.getElem?_eq_some_iff.mp this).1
theorem ne_new {x : MO} {T : Mem} {n : Nat} (h : gm T n = some x) : n ≠ T.length := Nat.ne_of_lt (gm_lt h)
theorem ne_lt {i p n : Nat} (h : i < p) (h' : p ≤ n) : i ≠ n := by omega
theorem ab_base {C mj : Mem} : ∃ mj', C ++ mj = C ++ mj' := ⟨_, rfl⟩
theorem ab_set {C T : Mem} {n : Nat} {x : MO} (h : ∃ mj', T = C ++ mj') (hn : C.length ≤ n) : ∃ mj', T.set n x = C ++ mj' := by
  obtain ⟨mj, rfl⟩ := h
  exact ⟨_, List.set_append_right _ _ hn⟩
theorem ab_new {C T : Mem} {x : MO} (h : ∃ mj', T = C ++ mj') : ∃ mj', T ++ [x] = C ++ mj' := by
  obtain ⟨mj, rfl⟩ := h
  exact ⟨_, List.append_assoc _ _ _⟩
theorem ab_sset {C T : Mem} {i : Nat} {x : MO} (h : ∃ mj', T = C ++ mj') (hi : i < C.length) : ∃ mj', T.set i x = C.set i x ++ mj' := by
  obtain ⟨mj, rfl⟩ := h
  exact ⟨_, List.set_append_left _ _ hi⟩
theorem ab_len {C T : Mem} (h : ∃ mj', T = C ++ mj') : C.length ≤ T.length := by
  obtain ⟨mj, rfl⟩ := h
  rw [List.length_append]; omega
/-! a call that changes a list and makes another -/
section
variable {ρ : Rho} {M M1 : Mem} {f : FA} {ds es : List D} {q : FnC}
theorem x_callSM {i : Nat} {z : D × Mem} (hf : f ρ M = some (ds, M1)) (h : callSM i q ds M1 = some z) : fCallSM i q f ρ M = some z := by rw [ev_callSM, hf]; exact h
theorem p_sm {i n : Nat} {c c' : Ec B} {cR : Ec C} {xs ys : List B} {zs : List C} (h1 : ds[i]? = some (.ref n)) (h2 : gm M n = some (cl c xs)) (a : AV (ds.set i .non)) (h : q (ds.set i (.ref 0)) [cl c xs] = some (.ref 1, [cl c' ys, cl cR zs])) : callSM i q ds M = some (.ref M.length, M.set n (cl c' ys) ++ [cl cR zs]) := by
  have h2' := gm_at h2
  have e : (ds.set i .non).set i (.ref 0) = ds.set i (.ref 0) := List.set_set ..
  unfold callSM
  simp only [h1, h2', mo_nr, a.r, Bool.not_false, Bool.and_self, if_true, a.p M, Option.bind_some, e, h]
  show (if (D.nrs (ys.map c'.e) && D.nrs (zs.map cR.e)) = true then some (D.ref M.length, M.set n (.lst (ys.map c'.e)) ++ [.lst (zs.map cR.e)]) else none) = _
  rw [if_pos (by rw [nrs_map c'.nr ys, nrs_map cR.nr zs]; rfl)]; rfl
theorem f_m1 {j : Nat} {M' : Mem} {mo m1 : MO} [n : CNr mo] [CNr m1] (hj : Nat.ble 1 j = true) (h : gm (m1 :: M') j = some mo) : fin true 1 (.ref j) (m1 :: M') = some (.ref 1, [m1, mo]) := by
  have hj' := Nat.le_of_ble_eq_true hj
  unfold fin
  rw [if_pos (show Mem.nr ((m1 :: M').take 1) = true from nr1 m1)]
  show (if j < 1 then none else match (m1 :: M')[j]? with | some mo => if mo.nr = true then (if true = true then some (D.ref 1, (m1 :: M').take 1 ++ [mo]) else some (mo.fz, (m1 :: M').take 1)) else none | none => none) = _
  rw [if_neg (by omega), gm_at h]
  show (if mo.nr = true then _ else none) = _
  rw [if_pos n.nr]; rfl
theorem f_m1x {j : Nat} {T M' : Mem} {mo m1 : MO} [CNr mo] [CNr m1] (hT : T = m1 :: M') (hj : 1 ≤ j) (h : gm T j = some mo) : fin true 1 (.ref j) T = some (.ref 1, [m1, mo]) := by
  subst hT
  exact f_m1 (Nat.ble_eq_true_of_le hj) h
theorem f_r1x {j : Nat} {T M' : Mem} {mo m1 : MO} [CNr mo] [CNr m1] (hT : T = m1 :: M') (hj : 1 ≤ j) (h : gm T j = some mo) : fin false 1 (.ref j) T = some (mo.fz, [m1]) := by
  subst hT
  exact f_r1 (Nat.ble_eq_true_of_le hj) h
end
/-! more operations -/
section
variable {ρ : Rho} {M M1 M2 M3 M4 : Mem} {fa fe fo fi : FE} {d x : D} {c : Ec A} {Q : Out → Mem → Prop} {k' : FS}
theorem c_le {k : Nat} {lt : A → A → Bool} [DecidableEq A] [q : Eqv k c] [o : Ord c lt] (a b : A) (hk : Nat.ble k 60 = true := by decide) : gCmpD (fun a b => !PySem.W.dataLt b a) (c.e a) (c.e b) M = some (!lt b a) := by
  unfold gCmpD
  rw [v_ec, v_ec]
  simp only [q.dp 60 (Nat.le_of_ble_eq_true hk) a, q.dp 60 (Nat.le_of_ble_eq_true hk) b, o.al, o.nn, Bool.and_self, Bool.not_false, Bool.and_true, if_true, o.dl]
theorem c_ge {k : Nat} {lt : A → A → Bool} [DecidableEq A] [q : Eqv k c] [o : Ord c lt] (a b : A) (hk : Nat.ble k 60 = true := by decide) : gCmpD (fun a b => !PySem.W.dataLt a b) (c.e a) (c.e b) M = some (!lt a b) := by
  unfold gCmpD
  rw [v_ec, v_ec]
  simp only [q.dp 60 (Nat.le_of_ble_eq_true hk) a, q.dp 60 (Nat.le_of_ble_eq_true hk) b, o.al, o.nn, Bool.and_self, Bool.not_false, Bool.and_true, if_true, o.dl]
theorem x_revL {xs : List A} (ha : fa ρ M = some (x, M1)) (l : Ls x M1 c xs) : fRevA fa ρ M = some ((eL c).e xs.reverse, M1) := by
  unfold fRevA
  rw [ha, Option.bind_some]
  have h : (lsOf x M1).bind (fun xs => some (D.lst xs.reverse, M1)) = some ((eL c).e xs.reverse, M1) := by
    rw [l.ls, Option.bind_some, ← List.map_reverse]; rfl
  cases x with
  | tup ys => exact absurd rfl (l.nt ys)
  | _ => exact h
theorem x_revV {xs : List A} (ha : fa ρ M = some ((eV c).e xs, M1)) : fRevA fa ρ M = some ((eV c).e xs.reverse, M1) := by
  unfold fRevA
  rw [ha, Option.bind_some]
  show some (D.tup (xs.map c.e).reverse, M1) = _
  rw [← List.map_reverse]; rfl
theorem x_revT {L L' : List D} (ha : fa ρ M = some (.tup L, M1)) (h : L.reverse = L') : fRevA fa ρ M = some (.tup L', M1) := by
  unfold fRevA
  rw [ha, Option.bind_some, ← h]
theorem w_augIx {g : G2M} {n : Nat} {xs xs4 zs : List A} {a z : A} {j : Int} {y : D} (ho : fo ρ M = some (.ref n, M1)) (hi : fi ρ M1 = some (eI.e j, M2)) (hn : gm M2 n = some (cl c xs)) (ha : tat xs j = some a) (hv : fe ρ M2 = some (y, M3)) (hg : g (c.e a) y M3 = some (c.e z, M4))
    (hn4 : gm M4 n = some (cl c xs4)) (h : tset xs4 j z = some zs) (K : WP k' ρ (M4.set n (cl c zs)) Q) : WP (sSeq (sAugIx g fo fi fe) k') ρ M Q := by
  unfold tset at h
  obtain ⟨m, hm, e⟩ := Option.map_eq_some_iff.mp h
  subst e
  refine w_step (ρ1 := ρ) (M1 := M4.set n (cl c (xs4.set m z))) ?_ K
  unfold sAugIx
  rw [ho, Option.bind_some]; simp only []; rw [hi, Option.bind_some]
  show (lsOf (.ref n) M2).bind _ = _
  have hat : L2.atI (xs.map c.e) j = some (c.e a) := by
    show L2.atI (xs.map c.e) j = _
    have h' : L2.atI xs j = some a := ha
    unfold L2.atI at h' ⊢
    obtain ⟨i, h1, h2⟩ := Option.bind_eq_some_iff.mp h'
    rw [List.length_map, h1, Option.bind_some, List.getElem?_map, h2]; rfl
  rw [ls_ref hn, Option.bind_some, hat, Option.bind_some, hv, Option.bind_some]; simp only []; rw [hg, Option.bind_some]
  show (mlOf (.ref n) M4).bind _ = _
  rw [ml_at hn4, Option.bind_some]
  simp only [List.length_map, hm, Option.bind_some]
  unfold cl
  rw [List.map_set]
theorem c_leI (a b : Int) : gCmpD (fun a b => !PySem.W.dataLt b a) (eI.e a) (eI.e b) M = some (decide (a ≤ b)) := by
  rw [c_le (c := eI) (lt := fun a b : Int => decide (a < b))]
  congr 1
  by_cases h : b < a <;> simp [h] <;> omega
theorem c_geI (a b : Int) : gCmpD (fun a b => !PySem.W.dataLt a b) (eI.e a) (eI.e b) M = some (decide (a ≥ b)) := by
  rw [c_ge (c := eI) (lt := fun a b : Int => decide (a < b))]
  congr 1
  by_cases h : a < b <;> simp [h] <;> omega
def tins (xs : List A) (i : Int) (a : A) : Option (List A) := if (decide (xs.length < LINE) && (decide (0 ≤ i) && decide (i < 1000000000))) = true then some (xs.take i.toNat ++ [a] ++ xs.drop i.toNat) else none
theorem m_ins {M' : Mem} {n : Nat} {xs zs : List A} {i : Int} {a : A} (hn : gm M n = some (cl c xs)) (h : tins xs i a = some zs) (hM : M.set n (cl c zs) = M') : gInsert (.ref n) [eI.e i, c.e a] M = some (eN.e (), M') := by
  subst hM
  unfold tins at h
  split at h
  · rename_i hc
    cases h
    show (mlOf (.ref n) M).bind _ = _
    rw [ml_at hn, Option.bind_some]
    simp only [List.length_map]
    rw [if_pos hc]
    unfold cl
    simp only [List.map_append, List.map_take, List.map_drop, List.map_cons, List.map_nil]
    rfl
  · cases h
theorem tins_ok {xs : List A} {i : Nat} {a : A} (h : xs.length < 10000000) (hi : i ≤ 100000000) : tins xs (i : Int) a = some (xs.take i ++ [a] ++ xs.drop i) := by
  unfold tins
  rw [if_pos]
  · rfl
  · have : LINE = 16777216 := rfl
    simp only [Bool.and_eq_true, decide_eq_true_eq]; omega
theorem b_max3 (i j k : Int) : gMax3 [eI.e i, eI.e j, eI.e k] M = some (eI.e (max (max i j) k)) := rfl
theorem b_min3 (i j k : Int) : gMin3 [eI.e i, eI.e j, eI.e k] M = some (eI.e (min (min i j) k)) := rfl
theorem b_min2D {k : Nat} {lt : A → A → Bool} [DecidableEq A] [q : Eqv k c] [o : Ord c lt] (a b : A) (hk : Nat.ble k 59 = true := by decide) : gMin2D [c.e a, c.e b] M = some (c.e (if lt b a = true then b else a)) := by
  show (if okAl [c.e a, c.e b] = true then some (if PySem.W.dataLt (c.e b).py (c.e a).py = true then c.e b else c.e a) else none) = _
  rw [if_pos (show okAl [c.e a, c.e b] = true from okAl_map (c := c) (lt := lt) (Nat.le_of_ble_eq_true hk) [a, b]), o.dl]
  by_cases h : lt b a = true
  · rw [if_pos h, if_pos h]
  · rw [if_neg h, if_neg h]
theorem b_max2D {k : Nat} {lt : A → A → Bool} [DecidableEq A] [q : Eqv k c] [o : Ord c lt] (a b : A) (hk : Nat.ble k 59 = true := by decide) : gMax2D [c.e a, c.e b] M = some (c.e (if lt a b = true then b else a)) := by
  show (if okAl [c.e a, c.e b] = true then some (if PySem.W.dataLt (c.e a).py (c.e b).py = true then c.e b else c.e a) else none) = _
  rw [if_pos (show okAl [c.e a, c.e b] = true from okAl_map (c := c) (lt := lt) (Nat.le_of_ble_eq_true hk) [a, b]), o.dl]
  by_cases h : lt a b = true
  · rw [if_pos h, if_pos h]
  · rw [if_neg h, if_neg h]
theorem b_min2DI (a b : Int) : gMin2D [eI.e a, eI.e b] M = some (eI.e (min a b)) := by
  rw [b_min2D (c := eI) (lt := fun a b : Int => decide (a < b))]
  congr 2
  by_cases h : b < a <;> simp [h] <;> omega
theorem b_max2DI (a b : Int) : gMax2D [eI.e a, eI.e b] M = some (eI.e (max a b)) := by
  rw [b_max2D (c := eI) (lt := fun a b : Int => decide (a < b))]
  congr 2
  by_cases h : a < b <;> simp [h] <;> omega
end
end TL
namespace TL
open PySem PySem.Spec PyProof.Rows L2 PF
variable {A B C S A' B' C' E : Type}
/-! ### dicts: lists of pairs, keys once, in the order of insertion -/
section
variable [DecidableEq A]
def dget : List (A × B) → A → Option B
  | [], _ => none
  | p :: m, k => if p.1 = k then some p.2 else dget m k
def dput : List (A × B) → A → B → List (A × B)
  | [], k, v => [(k, v)]
  | p :: m, k, v => if p.1 = k then (p.1, v) :: m else p :: dput m k v
def ddel : List (A × B) → A → List (A × B)
  | [], _ => []
  | p :: m, k => if p.1 = k then m else p :: ddel m k
def din (m : List (A × B)) (k : A) : Bool := (dget m k).isSome
def dkeys (m : List (A × B)) : List A := m.map (·.1)
def tdput (m : List (A × B)) (k : A) (v : B) : Option (List (A × B)) := if Nat.blt m.length 16777216 = true then some (dput m k v) else none
def tddel (m : List (A × B)) (k : A) : Option (List (A × B)) := if din m k = true then some (ddel m k) else none
/-- {k: v for x in xs}, g x the pair -/
def tdc (g : C → Option (A × B)) : List C → List (A × B) → Option (List (A × B))
  | [], m => some m
  | x :: xs, m => (g x).bind fun p => (tdput m p.1 p.2).bind fun m' => tdc g xs m'
end
def eM (k : Ec A) (v : Ec B) : Ec (List (A × B)) := ⟨fun m => .dct (m.map fun p => k.e p.1) (m.map fun p => v.e p.2), fun m => by
  show (D.nrs _ && D.nrs _) = true
  rw [nrs_map (fun p : A × B => k.nr p.1), nrs_map (fun p : A × B => v.nr p.2)]; rfl⟩
def cd (k : Ec A) (v : Ec B) (m : List (A × B)) : MO := .dct (m.map fun p => k.e p.1) (m.map fun p => v.e p.2)
def ck (o : Obj) (k : Ec A) (v : Ec B) (m : List (A × B)) : MO := .lck o (m.map fun p => k.e p.1) (m.map fun p => v.e p.2)
instance (k : Ec A) (v : Ec B) (m : List (A × B)) : CNr (cd k v m) := ⟨(eM k v).nr m⟩
instance (o : Obj) (k : Ec A) (v : Ec B) (m : List (A × B)) : CNr (ck o k v m) := ⟨(eM k v).nr m⟩
/-- keys -/
class KeyE (c : Ec A) where
  nk : A → NestedKey
  hk : ∀ a, dKey (c.e a) = some (nk a)
  inj : ∀ a b, nk a = nk b → a = b
  dp : ∀ a, (nk a).depth ≤ 8
  one : (∀ a, (c.e a).isI = true) ∨ (∀ a, (c.e a).isT = true)
/-- what may stand in a key -/
class KeyP (n : outParam Nat) (c : Ec A) where
  nk : A → NestedKey
  hk : ∀ a, dKey (c.e a) = some (nk a)
  inj : ∀ a b, nk a = nk b → a = b
  dp : ∀ a, (nk a).depth ≤ n
instance kp_I : KeyP 0 eI := ⟨.num, fun _ => rfl, fun a b e => by injection e, fun _ => Nat.le_refl _⟩
instance kp_B : KeyP 0 eB := ⟨fun b => .num (if b = true then 1 else 0), fun _ => rfl, fun a b e => (by injection e with e; revert e; cases a <;> cases b <;> simp), fun _ => Nat.le_refl _⟩
theorem ks_map {n : Nat} {c : Ec A} (k : KeyP n c) : ∀ xs : List A, dKeys (xs.map c.e) = some (xs.map k.nk)
  | [] => rfl
  | x :: xs => by
    show (dKey (c.e x)).bind (fun k' => (dKeys (xs.map c.e)).map (k' :: ·)) = _
    rw [k.hk, ks_map k xs]; rfl
theorem da_map {n : Nat} {c : Ec A} (k : KeyP n c) : ∀ xs : List A, NestedKey.depthAll (xs.map k.nk) ≤ n
  | [] => Nat.zero_le _
  | x :: xs => by
    show max (k.nk x).depth (NestedKey.depthAll (xs.map k.nk)) ≤ n
    exact Nat.max_le.mpr ⟨k.dp x, da_map k xs⟩
theorem map_inj {f : A → B} (h : ∀ a b, f a = f b → a = b) : ∀ {xs ys : List A}, xs.map f = ys.map f → xs = ys
  | [], [], _ => rfl
  | [], _ :: _, e => by simp at e
  | _ :: _, [], e => by simp at e
  | x :: xs, y :: ys, e => by
    rw [List.map_cons, List.map_cons] at e
    injection e with e1 e2
    rw [h _ _ e1, map_inj h e2]
instance kp_V {n : Nat} {c : Ec A} [k : KeyP n c] : KeyP (n + 1) (eV c) where
  nk xs := .tup (xs.map k.nk)
  hk xs := by show (dKeys (xs.map c.e)).map NestedKey.tup = _; rw [ks_map k]; rfl
  inj a b e := by injection e with e; exact map_inj k.inj e
  dp xs := by show NestedKey.depthAll _ + 1 ≤ n + 1; have := da_map k xs; omega
section
variable {A1 A2 A3 A4 : Type} {a1 : Ec A1} {a2 : Ec A2} {a3 : Ec A3} {a4 : Ec A4} {n1 n2 n3 n4 : Nat}
instance kp_1 [k1 : KeyP n1 a1] : KeyP (n1 + 1) (e1 a1) where
  nk p := .tup [k1.nk p]
  hk p := by show (dKeys [a1.e p]).map NestedKey.tup = _; simp only [dKeys, k1.hk]; rfl
  inj a b e := by injection e with e; injection e with e1 e2; exact k1.inj _ _ e1
  dp p := by have h1 := k1.dp p; show NestedKey.depthAll _ + 1 ≤ _; simp only [NestedKey.depthAll]; omega
instance kp_2 [k1 : KeyP n1 a1] [k2 : KeyP n2 a2] : KeyP (max n1 n2 + 1) (e2 a1 a2) where
  nk p := .tup [k1.nk p.1, k2.nk p.2]
  hk p := by show (dKeys [a1.e p.1, a2.e p.2]).map NestedKey.tup = _; simp only [dKeys, k1.hk, k2.hk]; rfl
  inj a b e := by
    injection e with e; injection e with e1 e; injection e with e2 e
    exact Prod.ext (k1.inj _ _ e1) (k2.inj _ _ e2)
  dp p := by have h1 := k1.dp p.1; have h2 := k2.dp p.2; show NestedKey.depthAll _ + 1 ≤ _; simp only [NestedKey.depthAll]; omega
instance kp_3 [k1 : KeyP n1 a1] [k2 : KeyP n2 a2] [k3 : KeyP n3 a3] : KeyP (max n1 (max n2 n3) + 1) (e3 a1 a2 a3) where
  nk p := .tup [k1.nk p.1, k2.nk p.2.1, k3.nk p.2.2]
  hk p := by show (dKeys [a1.e p.1, a2.e p.2.1, a3.e p.2.2]).map NestedKey.tup = _; simp only [dKeys, k1.hk, k2.hk, k3.hk]; rfl
  inj a b e := by
    injection e with e; injection e with e1 e; injection e with e2 e; injection e with e3 e
    exact Prod.ext (k1.inj _ _ e1) (Prod.ext (k2.inj _ _ e2) (k3.inj _ _ e3))
  dp p := by have h1 := k1.dp p.1; have h2 := k2.dp p.2.1; have h3 := k3.dp p.2.2; show NestedKey.depthAll _ + 1 ≤ _; simp only [NestedKey.depthAll]; omega
instance kp_4 [k1 : KeyP n1 a1] [k2 : KeyP n2 a2] [k3 : KeyP n3 a3] [k4 : KeyP n4 a4] : KeyP (max n1 (max n2 (max n3 n4)) + 1) (e4 a1 a2 a3 a4) where
  nk p := .tup [k1.nk p.1, k2.nk p.2.1, k3.nk p.2.2.1, k4.nk p.2.2.2]
  hk p := by show (dKeys [a1.e p.1, a2.e p.2.1, a3.e p.2.2.1, a4.e p.2.2.2]).map NestedKey.tup = _; simp only [dKeys, k1.hk, k2.hk, k3.hk, k4.hk]; rfl
  inj a b e := by
    injection e with e; injection e with e1 e; injection e with e2 e; injection e with e3 e; injection e with e4 e
    exact Prod.ext (k1.inj _ _ e1) (Prod.ext (k2.inj _ _ e2) (Prod.ext (k3.inj _ _ e3) (k4.inj _ _ e4)))
  dp p := by have h1 := k1.dp p.1; have h2 := k2.dp p.2.1; have h3 := k3.dp p.2.2.1; have h4 := k4.dp p.2.2.2; show NestedKey.depthAll _ + 1 ≤ _; simp only [NestedKey.depthAll]; omega
end
instance ke_I : KeyE eI := ⟨kp_I.nk, kp_I.hk, kp_I.inj, fun _ => Nat.zero_le _, .inl fun _ => rfl⟩
section
variable {A1 A2 A3 A4 : Type} {a1 : Ec A1} {a2 : Ec A2} {a3 : Ec A3} {a4 : Ec A4} {c : Ec A} {n : Nat}
abbrev mkE {c : Ec A} (k : KeyP n c) (hn : Nat.ble n 8 = true) (h : ∀ a, (c.e a).isT = true) : KeyE c := ⟨k.nk, k.hk, k.inj, fun a => Nat.le_trans (k.dp a) (Nat.le_of_ble_eq_true hn), .inr h⟩
instance ke_V1 : KeyE (eV eI) := mkE inferInstance rfl fun _ => rfl
instance ke_VV : KeyE (eV (eV eI)) := mkE inferInstance rfl fun _ => rfl
instance ke_VB : KeyE (eV eB) := mkE inferInstance rfl fun _ => rfl
instance ke_2I : KeyE (e2 eI eI) := mkE inferInstance rfl fun _ => rfl
instance ke_3I : KeyE (e3 eI eI eI) := mkE inferInstance rfl fun _ => rfl
instance ke_4I : KeyE (e4 eI eI eI eI) := mkE inferInstance rfl fun _ => rfl
instance ke_1I : KeyE (e1 eI) := mkE inferInstance rfl fun _ => rfl
instance ke_22 : KeyE (e2 (e2 eI eI) (e2 eI eI)) := mkE inferInstance rfl fun _ => rfl
instance ke_21 : KeyE (e2 (e2 eI eI) eI) := mkE inferInstance rfl fun _ => rfl
instance ke_222 : KeyE (e2 (e2 (e2 eI eI) (e2 eI eI)) (e2 (e2 eI eI) (e2 eI eI))) := mkE inferInstance rfl fun _ => rfl
end
section
variable [DecidableEq A] {c : Ec A} {v : Ec B}
theorem dget_fp (k : A) : ∀ m : List (A × B), dget m k = (fpos k (m.map (·.1))).bind fun i => (m.map (·.2))[i]?
  | [] => rfl
  | p :: m => by
    rw [List.map_cons, List.map_cons]
    unfold dget fpos
    by_cases h : p.1 = k
    · rw [if_pos h, if_pos h]; rfl
    · rw [if_neg h, if_neg h, dget_fp k m]
      cases fpos k (m.map (·.1)) <;> simp
theorem din_fp (m : List (A × B)) (k : A) : din m k = (fpos k (m.map (·.1))).isSome := by
  unfold din
  rw [dget_fp]
  cases q : fpos k (m.map (·.1)) with
  | none => rfl
  | some i =>
    have := fpos_lt q
    rw [List.length_map] at this
    rw [Option.bind_some, List.getElem?_map, List.getElem?_eq_getElem this]; rfl
theorem dput_fp (k : A) (b : B) : ∀ m : List (A × B), (dput m k b).map (·.1) = (match fpos k (m.map (·.1)) with | some _ => m.map (·.1) | none => m.map (·.1) ++ [k]) ∧ (dput m k b).map (·.2) = (match fpos k (m.map (·.1)) with | some i => (m.map (·.2)).set i b | none => m.map (·.2) ++ [b])
  | [] => ⟨rfl, rfl⟩
  | p :: m => by
    obtain ⟨h1, h2⟩ := dput_fp k b m
    rw [List.map_cons, List.map_cons]
    unfold dput fpos
    by_cases h : p.1 = k
    · rw [if_pos h, if_pos h]; exact ⟨rfl, rfl⟩
    · rw [if_neg h, if_neg h, List.map_cons, List.map_cons, h1, h2]
      cases fpos k (m.map (·.1)) <;> exact ⟨rfl, rfl⟩
theorem ddel_fp (k : A) : ∀ m : List (A × B), din m k = true → ∃ i, fpos k (m.map (·.1)) = some i ∧ ddel m k = m.eraseIdx i
  | [], h => by cases h
  | p :: m, h => by
    unfold ddel
    by_cases e : p.1 = k
    · exact ⟨0, by rw [List.map_cons]; unfold fpos; rw [if_pos e], by rw [if_pos e]; rfl⟩
    · have h' : din m k = true := by unfold din dget at h; rw [if_neg e] at h; exact h
      obtain ⟨i, h1, h2⟩ := ddel_fp k m h'
      exact ⟨i + 1, by rw [List.map_cons]; unfold fpos; rw [if_neg e, h1]; rfl, by rw [if_neg e, h2]; rfl⟩
theorem keys_all {c : Ec A} {f : D → Bool} (h : ∀ a, f (c.e a) = true) (xs : List A) : (xs.map c.e).all f = true := by
  induction xs with
  | nil => rfl
  | cons x xs ih => rw [List.map_cons, List.all_cons, h x, ih]; rfl
theorem keys_map [k : KeyE c] : ∀ xs : List A, dKeys (xs.map c.e) = some (xs.map k.nk)
  | [] => rfl
  | x :: xs => by
    show (dKey (c.e x)).bind (fun k' => (dKeys (xs.map c.e)).map (k' :: ·)) = _
    rw [k.hk, keys_map xs]; rfl
theorem dIx_e [k : KeyE c] (xs : List A) (a : A) : dIx (xs.map c.e) (c.e a) = some (fpos a xs) := by
  unfold dIx kOk
  rw [k.hk, Option.bind_some, if_pos, Option.bind_some, keys_map, Option.map_some, fpos_map k.inj]
  rw [decide_eq_true (k.dp a), Bool.and_true]
  rcases k.one with h | h
  · rw [h a, keys_all h]; rfl
  · rw [h a, keys_all h, Bool.or_comm]; rfl
/-- a dict, read -/
def Dk (d : D) (M : Mem) (c : Ec A) (v : Ec B) (m : List (A × B)) : Prop := dctOf d M = some (m.map (fun p => c.e p.1), m.map fun p => v.e p.2)
variable {ρ : Rho} {M M1 M2 M3 : Mem} {n : Nat} {d x : D} {m m' : List (A × B)} {k : A} {b : B} {fa fb fc fo fe fi : FE} {Q : Out → Mem → Prop} {K' : FS}
omit [DecidableEq A] in
theorem k_M : Dk ((eM c v).e m) M c v m := rfl
omit [DecidableEq A] in
theorem k_R (h : gm M n = some (cd c v m)) : Dk (.ref n) M c v m := by
  show (match M[n]? with | some (.dct ks vs) => some (ks, vs) | some (.lck _ ks vs) => some (ks, vs) | _ => none) = _
  rw [gm_at h]; rfl
omit [DecidableEq A] in
theorem k_K {o : Obj} (h : gm M n = some (ck o c v m)) : Dk (.ref n) M c v m := by
  show (match M[n]? with | some (.dct ks vs) => some (ks, vs) | some (.lck _ ks vs) => some (ks, vs) | _ => none) = _
  rw [gm_at h]; rfl
omit [DecidableEq A] in
theorem mk (c : Ec A) (m : List (A × B)) : (m.map fun p => c.e p.1) = (m.map (·.1)).map c.e := by rw [List.map_map]; rfl
omit [DecidableEq A] in
theorem mv (v : Ec B) (m : List (A × B)) : (m.map fun p => v.e p.2) = (m.map (·.2)).map v.e := by rw [List.map_map]; rfl
theorem g_dget [KeyE c] (h : Dk d M c v m) (e : dget m k = some b) : gDGet d (c.e k) M = some (v.e b) := by
  unfold gDGet
  unfold Dk at h
  rw [h, Option.bind_some]
  simp only []
  rw [mk, dIx_e, Option.bind_some, mv]
  rw [dget_fp] at e
  obtain ⟨i, h1, h2⟩ := Option.bind_eq_some_iff.mp e
  rw [h1, Option.bind_some, List.getElem?_map, h2]; rfl
theorem c_din [KeyE c] (h : Dk d M c v m) (k : A) : gDIn (c.e k) d M = some (din m k) := by
  unfold gDIn
  unfold Dk at h
  rw [h, Option.bind_some]
  simp only []
  rw [mk, dIx_e, din_fp]; rfl
theorem c_dnin [KeyE c] (h : Dk d M c v m) (k : A) : gDNotIn (c.e k) d M = some (!din m k) := by
  unfold gDNotIn
  unfold Dk at h
  rw [h, Option.bind_some]
  simp only []
  rw [mk, dIx_e, din_fp]; rfl
theorem getD_map (v : Ec B) (b : B) (xs : List B) (oi : Option Nat) : ((oi.bind fun i => (xs.map v.e)[i]?).getD (v.e b)) = v.e ((oi.bind fun i => xs[i]?).getD b) := by
  cases oi with
  | none => rfl
  | some i =>
    rw [Option.bind_some, Option.bind_some, List.getElem?_map]
    cases xs[i]? <;> rfl
theorem x_dget2 [KeyE c] (ho : fo ρ M = some (d, M1)) (h1 : Dk d M1 c v m) (he : fe ρ M1 = some (c.e k, M2)) (hf : fc ρ M2 = some (v.e b, M3)) (h3 : Dk d M3 c v m) : fDGet2 fo fe fc ρ M = some (v.e ((dget m k).getD b), M3) := by
  unfold Dk at h1 h3
  unfold fDGet2
  rw [ho, Option.bind_some]; simp only []
  rw [h1, Option.bind_some, he, Option.bind_some]; simp only []
  rw [hf, Option.bind_some]; simp only []
  rw [h3, Option.bind_some]; simp only []
  rw [mk, dIx_e, Option.bind_some, mv, getD_map, dget_fp]
omit [DecidableEq A] in
theorem b_dlen (h : Dk d M c v m) : gDLen [d] M = some (eI.e (m.length : Int)) := by
  unfold Dk at h
  unfold gDLen
  simp only [h, Option.map_some, List.length_map]; rfl
omit [DecidableEq A] in
theorem tr_D (h : Dk d M c v m) : True := trivial
/-! new ones -/
omit [DecidableEq A] in
theorem x_dnil : fDNil ρ M = some ((([] : List (A × B)).map (fun p => c.e p.1), ([] : List (A × B)).map fun p => v.e p.2), M) := rfl
theorem x_d1 [KeyE c] (hk : fa ρ M = some (c.e k, M1)) (hv : fb ρ M1 = some (v.e b, M2)) : fD1 fa fb ρ M = some (([(k, b)].map (fun p => c.e p.1), [(k, b)].map fun p => v.e p.2), M2) := by
  unfold fD1
  rw [hk, Option.bind_some]; simp only []
  rw [hv, Option.bind_some]; simp only []
  have := dIx_e (c := c) [] k
  rw [List.map_nil] at this
  rw [this]; rfl
abbrev DF (c : Ec A) (v : Ec B) (m : List (A × B)) : List D × List D := (m.map (fun p => c.e p.1), m.map fun p => v.e p.2)
omit [DecidableEq A] in
theorem x_dfz {f : FD} (h : f ρ M = some (DF c v m, M1)) : fFzD f ρ M = some ((eM c v).e m, M1) := by unfold fFzD; rw [h]; rfl
omit [DecidableEq A] in
theorem x_dmut {f : FD} (h : f ρ M = some (DF c v m, M1)) : fMutD f ρ M = some (.ref M1.length, M1 ++ [cd c v m]) := by unfold fMutD; rw [h]; rfl
omit [DecidableEq A] in
theorem x_dmutE {f : FD} (h : f ρ M = some (DF c v m, M1)) (E : m = m') : fMutD f ρ M = some (.ref M1.length, M1 ++ [cd c v m']) := by subst E; exact x_dmut h
/-! changes -/
theorem tdput_ok (h : tdput m k b = some m') : m.length < 16777216 ∧ m' = dput m k b := by
  unfold tdput at h
  split at h
  · rename_i q; cases h; exact ⟨Nat.le_of_ble_eq_true q, rfl⟩
  · cases h
theorem put_e (c : Ec A) (v : Ec B) (m : List (A × B)) (k : A) (b : B) : putKs ((m.map (·.1)).map c.e) (c.e k) (fpos k (m.map (·.1))) = ((dput m k b).map (·.1)).map c.e ∧ putVs ((m.map (·.2)).map v.e) (v.e b) (fpos k (m.map (·.1))) = ((dput m k b).map (·.2)).map v.e := by
  obtain ⟨h1, h2⟩ := dput_fp k b m
  rw [h1, h2]
  cases fpos k (m.map (·.1)) with
  | none => simp [putKs, putVs]
  | some i => simp [putKs, putVs]
theorem dPut_e [KeyE c] (h : gm M n = some (cd c v m)) (hp : tdput m k b = some m') : dPut (.ref n) (c.e k) (v.e b) M = some (M.set n (cd c v m')) := by
  obtain ⟨hl, rfl⟩ := tdput_ok hp
  have hd : mdOf (.ref n) M = some (n, m.map (fun p => c.e p.1), m.map fun p => v.e p.2) := by
    show (match M[n]? with | some (.dct ks vs) => some (n, ks, vs) | _ => none) = _
    rw [gm_at h]; rfl
  unfold dPut
  rw [hd, Option.bind_some]; simp only []
  rw [mk, dIx_e, Option.bind_some, if_pos (show _ < LINE by rw [List.length_map, List.length_map]; exact hl), mv, (put_e c v m k b).1, (put_e c v m k b).2]
  show some (M.set n (MO.dct _ _)) = some (M.set n (MO.dct _ _))
  rw [mk, mv]
theorem dPut2_e [KeyE c] (hp : tdput m k b = some m') : dPut2 (DF c v m) (c.e k) (v.e b) = some (DF c v m') := by
  obtain ⟨hl, rfl⟩ := tdput_ok hp
  unfold dPut2 DF
  simp only []
  rw [mk, dIx_e, Option.bind_some, if_pos (show _ < LINE by rw [List.length_map, List.length_map]; exact hl), mv, (put_e c v m k b).1, (put_e c v m k b).2, mk, mv]
theorem w_dset [KeyE c] (hv : fe ρ M = some (v.e b, M1)) (ho : fo ρ M1 = some (.ref n, M1)) (hi : fi ρ M1 = some (c.e k, M2)) (hn : gm M2 n = some (cd c v m)) (h : tdput m k b = some m') (K : WP K' ρ (M2.set n (cd c v m')) Q) : WP (sSeq (sDSet fe fo fi) K') ρ M Q :=
  w_step (by unfold sDSet; rw [hv, Option.bind_some]; simp only []; rw [ho, Option.bind_some]; simp only []; rw [hi, Option.bind_some]; simp only []; rw [dPut_e hn h]; rfl) K
theorem w_daug [KeyE c] {g : G2M} {b1 b2 : B} {v2 : Ec C} {y : C} (ho : fo ρ M = some (.ref n, M)) (hi : fi ρ M = some (c.e k, M1)) (hn : gm M1 n = some (cd c v m)) (hg : dget m k = some b1) (he : fe ρ M1 = some (v2.e y, M2)) (hu : g (v.e b1) (v2.e y) M2 = some (v.e b2, M2))
    (hn2 : gm M2 n = some (cd c v m)) (h : tdput m k b2 = some m') (K : WP K' ρ (M2.set n (cd c v m')) Q) : WP (sSeq (sDAugX g fo fi fe) K') ρ M Q :=
  w_step (by unfold sDAugX; rw [ho, Option.bind_some]; simp only []; rw [hi, Option.bind_some]; simp only []; rw [g_dget (k_R hn) hg, Option.bind_some, he, Option.bind_some]; simp only []; rw [hu, Option.bind_some]; simp only []; rw [dPut_e hn2 h]; rfl) K
/-! sorted, listed -/
theorem n_sortX {lt : A → A → Bool} {j : Nat} [q : Eqv j c] [o : Ord c lt] [t : Srt c] (l : Dk d M c v m) (hk : Nat.ble j 59 = true := by decide) : gSortX [d] M = some ((tsort lt (dkeys m)).map c.e) := by
  unfold Dk at l
  have h : gSortA [(eL c).e (dkeys m)] M = some ((tsort lt (dkeys m)).map c.e) := n_sort s_L hk
  show (dctOf d M).bind (fun x => if (okAl x.1 && srtb x.1) = true then some (sortD x.1) else none) = _
  rw [l, Option.bind_some]
  simp only []
  rw [mk]
  exact h
omit [DecidableEq A] in
theorem n_listX (l : Dk d M c v m) : gListX [d] M = some ((dkeys m).map c.e) := by
  unfold Dk at l
  show (dctOf d M).map (fun x => x.1) = _
  rw [l, mk]; rfl
/-! walked -/
omit [DecidableEq A] in
theorem i_dM (ha : fa ρ M = some ((eM c v).e m, M1)) : fiDct fa ρ M = some (((dkeys m).map c.e, none), M1) := by
  unfold fiDct
  rw [ha, Option.bind_some]
  show some ((m.map (fun p => c.e p.1), (none : KK)), M1) = _
  rw [mk]; rfl
omit [DecidableEq A] in
theorem i_dK {o : Obj} (ha : fa ρ M = some (.ref n, M1)) (h : gm M1 n = some (ck o c v m)) : fiDct fa ρ M = some (((dkeys m).map c.e, some (.inr (n, ck o c v m))), M1) := by
  unfold fiDct
  rw [ha, Option.bind_some]
  show (match M1[n]? with | some (.lck o ks vs) => some ((ks, (some (.inr (n, .lck o ks vs)) : KK)), M1) | _ => none) = _
  rw [gm_at h]
  have e := mk c m
  show some ((m.map (fun p => c.e p.1), _), M1) = some (((m.map (·.1)).map c.e, _), M1)
  rw [← e]; rfl
theorem chk_l {mo : MO} {xs : List D} (h : gm M n = some mo) : chk (some (.inr (n, mo))) xs M = true := by
  show chkM n mo M = true
  unfold chkM
  classical exact decide_eq_true (gm_at h)
/-! locks -/
theorem gm_of : ∀ {M : Mem} {n : Nat} {mo : MO}, M[n]? = some mo → gm M n = some mo
  | [], _, _, h => by simp at h
  | x :: _, 0, mo, h => by
    have e : x = mo := by simpa using h
    subst e; rfl
  | _ :: M, n + 1, _, h => gm_of (M := M) (n := n) (by simpa using h)
theorem x_lock {R : Type} {i : Nat} {f : Rho → Mem → Option (R × Mem)} {r : R} (hs : gs ρ i = some (.ref n)) (hm : gm M n = some (cd c v m)) (h2 : gm M2 n = some (cd c v m)) (h : ∀ o, f ρ (M.set n (ck o c v m)) = some (r, M2.set n (ck o c v m))) : lockAt i f ρ M = some (r, M2) := by
  unfold lockAt
  rw [gs_at hs]
  simp only []
  rw [gm_at hm]
  exact lockRun_ok (gm_at h2) h
/-! {k: v for x in xs if c} -/
variable {fi' : FI} {vs : List Nat} {t : FG} {ft : FT} {fk fv : FE} {cC : Ec C} {kk : KK} {xs : List C}
theorem dcL {g : C → Option (A × B)} {p : C → Bool} {c0 : Mem → Bool} [KeyE c] (hc : c0 M = true) (step : ∀ x, ∃ ρ', t (cC.e x) ρ = some ρ' ∧ ft ρ' M = some (p x, M) ∧ ∀ y, g x = some y → ∃ M1, fk ρ' M = some (c.e y.1, M1) ∧ fv ρ' M1 = some (v.e y.2, M)) :
    ∀ (xs : List C) (m m' : List (A × B)), tdc g (xs.filter p) m = some m' → dcLoop c0 t ft fk fv ρ (xs.map cC.e) (DF c v m) M = some (DF c v m', M)
  | [], m, m', h => by
    cases h
    show (if c0 M = true then some (DF c v m, M) else none) = _
    rw [if_pos hc]
  | x :: xs, m, m', h => by
    obtain ⟨ρ', h1, h2, h3⟩ := step x
    rw [List.map_cons]
    unfold dcLoop
    rw [if_pos hc, h1, Option.bind_some, h2, Option.bind_some]
    simp only []
    cases hp : p x with
    | false =>
      rw [List.filter_cons_of_neg (by simp [hp])] at h
      rw [if_neg (by simp)]
      exact dcL hc step xs m m' h
    | true =>
      rw [List.filter_cons_of_pos hp] at h
      obtain ⟨y, e1, h⟩ := Option.bind_eq_some_iff.mp h
      obtain ⟨m1, e2, h⟩ := Option.bind_eq_some_iff.mp h
      obtain ⟨M1, k1, k2⟩ := h3 y e1
      rw [if_pos rfl, k1, Option.bind_some]
      simp only []
      rw [k2, Option.bind_some]
      simp only []
      rw [dPut2_e e2, Option.bind_some]
      exact dcL hc step xs m1 m' h
theorem x_dc {g : C → Option (A × B)} [KeyE c] (hi : fi' ρ M = some ((xs.map cC.e, kk), M1)) (hc : chk kk (xs.map cC.e) M1 = true) (h : tdc g xs [] = some m')
    (step : ∀ x, ∃ ρ', t (cC.e x) (wipeR ρ vs) = some ρ' ∧ ∀ y, g x = some y → ∃ M2, fk ρ' M1 = some (c.e y.1, M2) ∧ fv ρ' M2 = some (v.e y.2, M1)) : fDC vs fi' t fYes fk fv ρ M = some (DF c v m', M1) := by
  unfold fDC
  rw [hi, Option.bind_some]
  refine dcL (g := g) (p := fun _ => true) hc (fun x => ?_) xs [] m' (by rw [List.filter_eq_self.mpr fun _ _ => rfl]; exact h)
  obtain ⟨ρ', h1, h2⟩ := step x
  exact ⟨ρ', h1, rfl, h2⟩
theorem x_dcF {g : C → Option (A × B)} {p : C → Bool} [KeyE c] (hi : fi' ρ M = some ((xs.map cC.e, kk), M1)) (hc : chk kk (xs.map cC.e) M1 = true) (h : tdc g (xs.filter p) [] = some m')
    (step : ∀ x, ∃ ρ', t (cC.e x) (wipeR ρ vs) = some ρ' ∧ ft ρ' M1 = some (p x, M1) ∧ ∀ y, g x = some y → ∃ M2, fk ρ' M1 = some (c.e y.1, M2) ∧ fv ρ' M2 = some (v.e y.2, M1)) : fDC vs fi' t ft fk fv ρ M = some (DF c v m', M1) := by
  unfold fDC
  rw [hi, Option.bind_some]
  exact dcL hc step xs [] m' h
end
/-! calls, more -/
theorem ar_D {M : Mem} {c : Ec A} {v : Ec B} {m : List (A × B)} {n : Nat} {ds es : List D} (hn : gm M n = some (cd c v m)) (h : AR M ds es) : AR M (.ref n :: ds) ((eM c v).e m :: es) := ⟨by
  show (argP M (.ref n)).bind (fun e => (argsP M ds).bind fun es => some (e :: es)) = _
  have e : argP M (.ref n) = some ((eM c v).e m) := by
    unfold argP
    simp only [gm_at hn]
    exact if_pos ((eM c v).nr m)
  rw [e, Option.bind_some, h.p]; rfl⟩
theorem ar_K {M : Mem} {c : Ec A} {v : Ec B} {m : List (A × B)} {n : Nat} {o : Obj} {ds es : List D} (hn : gm M n = some (ck o c v m)) (h : AR M ds es) : AR M (.ref n :: ds) ((eM c v).e m :: es) := ⟨by
  show (argP M (.ref n)).bind (fun e => (argsP M ds).bind fun es => some (e :: es)) = _
  have e : argP M (.ref n) = some ((eM c v).e m) := by
    unfold argP
    simp only [gm_at hn]
    exact if_pos ((eM c v).nr m)
  rw [e, Option.bind_some, h.p]; rfl⟩
theorem w_setLk [DecidableEq A] {i j n : Nat} {ρ : Rho} {M M1 : Mem} {fe : FE} {d : D} {c : Ec A} {v : Ec B} {m : List (A × B)} {Q : Out → Mem → Prop} {K' : FS} (hs : gs ρ j = some (.ref n)) (hm : gm M n = some (cd c v m)) (h2 : gm M1 n = some (cd c v m)) (h : ∀ o, fe ρ (M.set n (ck o c v m)) = some (d, M1.set n (ck o c v m))) (K : WP K' (ρ.set i (some d)) M1 Q) : WP (sSeq (lockAt j (sSet i fe)) K') ρ M Q :=
  w_step (x_lock (r := Out.nx (ρ.set i (some d))) hs hm h2 fun o => by rw [ev_set, h o]; rfl) K
theorem getD_mapC {c' : Ec C} (v : Ec B) (f : B → C) (hf : ∀ b, c'.e (f b) = v.e b) (b : C) (xs : List B) (oi : Option Nat) : ((oi.bind fun i => (xs.map v.e)[i]?).getD (c'.e b)) = c'.e (((oi.bind fun i => xs[i]?).map f).getD b) := by
  cases oi with
  | none => rfl
  | some i =>
    rw [Option.bind_some, Option.bind_some, List.getElem?_map]
    cases xs[i]? with
    | none => rfl
    | some b => exact (hf b).symm
theorem x_dget2C [DecidableEq A] {c : Ec A} {v : Ec B} {c' : Ec C} {f : B → C} {ρ : Rho} {M M1 M2 M3 : Mem} {d : D} {m : List (A × B)} {k : A} {b : C} {fo fe fc : FE} [KeyE c] (hf : ∀ b, c'.e (f b) = v.e b) (ho : fo ρ M = some (d, M1)) (h1 : Dk d M1 c v m) (he : fe ρ M1 = some (c.e k, M2)) (hc : fc ρ M2 = some (c'.e b, M3)) (h3 : Dk d M3 c v m) : fDGet2 fo fe fc ρ M = some (c'.e (((dget m k).map f).getD b), M3) := by
  unfold Dk at h1 h3
  unfold fDGet2
  rw [ho, Option.bind_some]; simp only []
  rw [h1, Option.bind_some, he, Option.bind_some]; simp only []
  rw [hc, Option.bind_some]; simp only []
  rw [h3, Option.bind_some]; simp only []
  rw [mk, dIx_e, Option.bind_some, mv, getD_mapC v f hf, dget_fp]
/-! another type -/
theorem co_M {c : Ec A} {c' : Ec A'} {v : Ec B} {v' : Ec B'} {g : A → A'} {f : B → B'} (hg : ∀ a, c'.e (g a) = c.e a) (hf : ∀ b, v'.e (f b) = v.e b) (m : List (A × B)) : (eM c' v').e (m.map fun p => (g p.1, f p.2)) = (eM c v).e m := by
  show D.dct _ _ = D.dct _ _
  rw [List.map_map, List.map_map]
  congr 1
  · exact List.map_congr_left fun p _ => hg p.1
  · exact List.map_congr_left fun p _ => hf p.2
theorem co_cd {c : Ec A} {c' : Ec A'} {v : Ec B} {v' : Ec B'} {m : List (A × B)} {m' : List (A' × B')} (h : (eM c' v').e m' = (eM c v).e m) : cd c v m = cd c' v' m' := by
  have h' : D.dct _ _ = D.dct _ _ := h
  injection h' with h1 h2
  show MO.dct _ _ = MO.dct _ _
  rw [h1, h2]
/-! a[:k] + b[k:] of two tuples of five -/
section
variable {A1 A2 A3 A4 A5 : Type} {c1 : Ec A1} {c2 : Ec A2} {c3 : Ec A3} {c4 : Ec A4} {c5 : Ec A5}
def mixk (n : Nat) (k : Int) : Nat := HT.sIx n n (some k)
def mix5 (k : Int) (a b : A1 × A2 × A3 × A4 × A5) : A1 × A2 × A3 × A4 × A5 :=
  (if 0 < mixk 5 k then a.1 else b.1, if 1 < mixk 5 k then a.2.1 else b.2.1, if 2 < mixk 5 k then a.2.2.1 else b.2.2.1, if 3 < mixk 5 k then a.2.2.2.1 else b.2.2.2.1, if 4 < mixk 5 k then a.2.2.2.2 else b.2.2.2.2)
theorem mixk_le (n : Nat) (k : Int) : mixk n k ≤ n := by
  unfold mixk HT.sIx
  simp only []
  repeat' split
  all_goals omega
theorem g_mix5 {M : Mem} (k : Int) (a b : A1 × A2 × A3 × A4 × A5) : gAdd (.tup (cutD [c1.e a.1, c2.e a.2.1, c3.e a.2.2.1, c4.e a.2.2.2.1, c5.e a.2.2.2.2] none (some k))) (.tup (cutD [c1.e b.1, c2.e b.2.1, c3.e b.2.2.1, c4.e b.2.2.2.1, c5.e b.2.2.2.2] (some k) none)) M = some ((e5 c1 c2 c3 c4 c5).e (mix5 k a b)) := by
  have h := mixk_le 5 k
  show gAdd (.tup (([c1.e a.1, c2.e a.2.1, c3.e a.2.2.1, c4.e a.2.2.2.1, c5.e a.2.2.2.2].drop 0).take (mixk 5 k - 0))) (.tup (([c1.e b.1, c2.e b.2.1, c3.e b.2.2.1, c4.e b.2.2.2.1, c5.e b.2.2.2.2].drop (mixk 5 k)).take (5 - mixk 5 k))) M = some (D.tup [c1.e (if 0 < mixk 5 k then a.1 else b.1), c2.e (if 1 < mixk 5 k then a.2.1 else b.2.1), c3.e (if 2 < mixk 5 k then a.2.2.1 else b.2.2.1), c4.e (if 3 < mixk 5 k then a.2.2.2.1 else b.2.2.2.1), c5.e (if 4 < mixk 5 k then a.2.2.2.2 else b.2.2.2.2)])
  generalize mixk 5 k = m at h
  match m, h with
  | 0, _ => exact g_catT rfl
  | 1, _ => exact g_catT rfl
  | 2, _ => exact g_catT rfl
  | 3, _ => exact g_catT rfl
  | 4, _ => exact g_catT rfl
  | 5, _ => exact g_catT rfl
theorem x_mix5 {ρ : Rho} {M M1 M2 M3 M4 : Mem} {fa fb fk fk' : FE} {k : Int} {a b : A1 × A2 × A3 × A4 × A5} (ha : fa ρ M = some ((e5 c1 c2 c3 c4 c5).e a, M1)) (hk : fk ρ M1 = some (eI.e k, M2)) (hb : fb ρ M2 = some ((e5 c1 c2 c3 c4 c5).e b, M3)) (hk2 : fk' ρ M3 = some (eI.e k, M4)) : f2 gAdd (fSlice fa fNoPart (fPart fk)) (fSlice fb (fPart fk') fNoPart) ρ M = some ((e5 c1 c2 c3 c4 c5).e (mix5 k a b), M4) :=
  x_f2 (x_slice ha o_none (o_part hk) rfl) (x_slice hb (o_part hk2) o_none rfl) (g_mix5 k a b)
end
/-! ### facts of the lists of pairs -/
section
variable [DecidableEq A] {m m' : List (A × B)} {k j : A} {b : B}
theorem dget_put (m : List (A × B)) (k j : A) (b : B) : dget (dput m k b) j = if k = j then some b else dget m j := by
  induction m with
  | nil =>
    show (if k = j then some b else dget [] j) = _
    rfl
  | cons p m ih =>
    unfold dput
    by_cases h : p.1 = k
    · rw [if_pos h]
      unfold dget
      simp only []
      by_cases e : p.1 = j
      · rw [if_pos e, if_pos (by rw [← h]; exact e)]
      · rw [if_neg e, if_neg (by rw [← h]; exact e), if_neg e]
    · rw [if_neg h]
      unfold dget
      by_cases e : p.1 = j
      · rw [if_pos e, if_neg (fun z => h (e.trans z.symm)), if_pos e]
      · rw [if_neg e, ih, if_neg e]
theorem dkeys_put (m : List (A × B)) (k : A) (b : B) : dkeys (dput m k b) = if din m k = true then dkeys m else dkeys m ++ [k] := by
  unfold dkeys
  rw [(dput_fp k b m).1, din_fp]
  cases fpos k (m.map (·.1)) <;> rfl
theorem din_iff (m : List (A × B)) (k : A) : din m k = true ↔ k ∈ dkeys m := by
  rw [din_fp]
  cases q : fpos k (m.map (·.1)) with
  | none => exact ⟨fun h => (by cases h), fun h => absurd h (fpos_none q)⟩
  | some i => exact ⟨fun _ => List.mem_of_getElem? (fpos_some q), fun _ => rfl⟩
theorem din_not (m : List (A × B)) (k : A) : din m k = false ↔ k ∉ dkeys m := by
  rw [← din_iff]; cases din m k <;> simp
theorem dget_some (h : dget m k = some b) : k ∈ dkeys m := (din_iff m k).mp (by unfold din; rw [h]; rfl)
theorem dget_in (h : k ∈ dkeys m) : ∃ b, dget m k = some b := Option.isSome_iff_exists.mp ((din_iff m k).mpr h)
theorem dget_none (h : k ∉ dkeys m) : dget m k = none := by
  have := (din_not m k).mpr h
  unfold din at this
  cases q : dget m k with
  | none => rfl
  | some _ => rw [q] at this; cases this
theorem mem_dkeys_put : j ∈ dkeys (dput m k b) ↔ j = k ∨ j ∈ dkeys m := by
  rw [dkeys_put]
  by_cases h : din m k = true
  · rw [if_pos h]
    exact ⟨.inr, fun z => z.elim (fun e => by rw [e]; exact (din_iff m k).mp h) fun z => z⟩
  · rw [if_neg h]
    simp [or_comm]
theorem nodup_put (h : (dkeys m).Nodup) : (dkeys (dput m k b)).Nodup := by
  rw [dkeys_put]
  by_cases e : din m k = true
  · rw [if_pos e]; exact h
  · rw [if_neg e]
    exact nodup_app h fun z => e ((din_iff m k).mpr z)
theorem len_put (m : List (A × B)) (k : A) (b : B) : (dput m k b).length ≤ m.length + 1 := by
  have h : (dkeys (dput m k b)).length ≤ (dkeys m).length + 1 := by
    rw [dkeys_put]; split <;> simp
  unfold dkeys at h
  simpa using h
theorem tdput_of (m : List (A × B)) (k : A) (b : B) (h : m.length < 16777216) : tdput m k b = some (dput m k b) := if_pos (Nat.ble_eq_true_of_le h)
theorem din_put : din (dput m k b) j = (decide (k = j) || din m j) := by
  unfold din
  rw [dget_put]
  by_cases h : k = j
  · rw [if_pos h, decide_eq_true h]; rfl
  · rw [if_neg h, decide_eq_false h]; rfl
theorem dget_mem (nd : (dkeys m).Nodup) : dget m k = some b ↔ (k, b) ∈ m := by
  induction m with
  | nil => exact ⟨fun h => (by cases h), fun h => (by cases h)⟩
  | cons p m ih =>
    unfold dkeys at nd
    rw [List.map_cons, List.nodup_cons] at nd
    unfold dget
    by_cases e : p.1 = k
    · rw [if_pos e]
      constructor
      · intro h; cases h; rw [← e]; exact List.mem_cons_self ..
      · intro h
        rcases List.mem_cons.mp h with h | h
        · rw [← h]
        · exact absurd (List.mem_map.mpr ⟨_, h, e.symm⟩) nd.1
    · rw [if_neg e, ih nd.2]
      constructor
      · exact fun h => List.mem_cons_of_mem _ h
      · intro h
        rcases List.mem_cons.mp h with h | h
        · rw [← h] at e; exact absurd rfl e
        · exact h
end
end TL
namespace TL
open PySem PySem.Spec PyProof.Rows L2 PF
variable {A B C S E : Type}
/-! ### what typed code comes to -/
def Post (t : Option A) (P : A → Prop) : Prop := ∃ a, t = some a ∧ P a
theorem Post.bind {t : Option A} {f : A → Option B} {P : A → Prop} {Q : B → Prop} (h : Post t P) (k : ∀ a, P a → Post (f a) Q) : Post (t.bind f) Q := by
  obtain ⟨a, e, p⟩ := h
  rw [e]; exact k a p
theorem Post.let {a : A} {f : A → Option B} {Q : B → Prop} (k : Post (f a) Q) : Post (tlet a f) Q := k
theorem Post.pure {a : A} {P : A → Prop} (h : P a) : Post (some a) P := ⟨a, rfl, h⟩
theorem Post.imp {t : Option A} {P Q : A → Prop} (h : Post t P) (k : ∀ a, P a → Q a) : Post t Q := let ⟨a, e, p⟩ := h; ⟨a, e, k a p⟩
theorem Post.of {t : Option A} {a : A} {P : A → Prop} (e : t = some a) (h : P a) : Post t P := ⟨a, e, h⟩
theorem Post.eqb {t : Option A} {a : A} {f : A → Option B} {Q : B → Prop} (e : t = some a) (k : Post (f a) Q) : Post (t.bind f) Q := by rw [e]; exact k
theorem Post.ite {c : Prop} [Decidable c] {t u : Option A} {P : A → Prop} (h1 : c → Post t P) (h2 : ¬ c → Post u P) : Post (if c then t else u) P := by
  by_cases h : c
  · rw [if_pos h]; exact h1 h
  · rw [if_neg h]; exact h2 h
theorem Post.ift {c : Prop} [Decidable c] {t u : Option A} {P : A → Prop} (h : c) (h1 : Post t P) : Post (if c then t else u) P := by rw [if_pos h]; exact h1
theorem Post.iff {c : Prop} [Decidable c] {t u : Option A} {P : A → Prop} (h : ¬ c) (h1 : Post u P) : Post (if c then t else u) P := by rw [if_neg h]; exact h1
/-- a part that goes on -/
theorem Post.go {t : Option (Ex E B)} {f : E → Option C} {g : B → Option C} {P : B → Prop} {Q : C → Prop} (h : Post t fun r => ∃ b, r = .go b ∧ P b) (k : ∀ b, P b → Post (g b) Q) : Post (t.bind fun r => r.cas f g) Q := by
  obtain ⟨_, e, b, rfl, p⟩ := h
  rw [e]; exact k b p
theorem bind_some' {t : Option A} : (t.bind fun w => some w) = t := by cases t <;> rfl
/-! whole numbers -/
theorem tmul_r {a b : Int} (h : b.natAbs < 18446744073709551616) : tmul a b = some (a * b) := if_pos (okMul_r h)
theorem tmul_l {a b : Int} (h : a.natAbs < 18446744073709551616) : tmul a b = some (a * b) := if_pos (okMul_l h)
theorem tmul_big {a b : Int} (h : a.natAbs < 2 ^ 400000) (h' : b.natAbs < 2 ^ 400000) : tmul a b = some (a * b) := if_pos (okMul_big h h')
theorem tmod_ok {a b : Int} (h : b ≠ 0) : tmod a b = some (a.fmod b) := if_pos h
theorem tdiv_ok {a b : Int} (h : b ≠ 0) (h' : b.natAbs < 2 ^ 9000) : tdiv a b = some (a.fdiv b) := if_pos (okDiv_of h h')
theorem fmod_pos {a b : Int} (h : 0 < b) : 0 ≤ a.fmod b ∧ a.fmod b < b := by
  rw [Int.fmod_eq_emod_of_nonneg _ (by omega)]
  exact ⟨Int.emod_nonneg _ (by omega), Int.emod_lt_of_pos _ h⟩
theorem trg_of {lo hi : Int} (h1 : -1000000 ≤ lo) (h2 : hi ≤ 10000000) (h3 : lo ≤ 10000000) (h4 : -1000000 ≤ hi) : trg lo hi = some (upto lo (hi - lo).toNat) := if_pos (okR_of h1 h2 h3 h4)
theorem trg_0 {n : Nat} (h : n ≤ 1000000) : trg 0 (n : Int) = some (upto 0 n) := by
  rw [trg_of (by omega) (by omega) (by omega) (by omega), Int.sub_zero, Int.toNat_natCast]
theorem mem_upto {lo : Int} {n : Nat} {x : Int} : x ∈ upto lo n ↔ lo ≤ x ∧ x < lo + n := by
  unfold upto
  rw [List.mem_map]
  constructor
  · rintro ⟨k, hk, rfl⟩
    rw [List.mem_range] at hk
    omega
  · intro h
    exact ⟨(x - lo).toNat, by rw [List.mem_range]; omega, by omega⟩
@[simp] theorem len_upto {lo : Int} {n : Nat} : (upto lo n).length = n := by simp [upto]
theorem upto_0 {lo : Int} : upto lo 0 = [] := rfl
theorem upto_succ {lo : Int} {n : Nat} : upto lo (n + 1) = upto lo n ++ [lo + n] := by simp [upto, List.range_succ]
theorem upto_cons {lo : Int} {n : Nat} : upto lo (n + 1) = lo :: upto (lo + 1) n := by
  unfold upto
  rw [List.range_succ_eq_map, List.map_cons, List.map_map]
  congr 1
  · simp
  · exact List.map_congr_left fun i _ => by show lo + ((i + 1 : Nat) : Int) = _; omega
theorem get_upto {lo : Int} {n k : Nat} (h : k < n) : (upto lo n)[k]? = some (lo + k) := by simp [upto, h]
/-! lists -/
theorem tat_n {xs : List A} {n : Nat} {a : A} (h : xs[n]? = some a) : tat xs (n : Int) = some a := at_nat h
theorem tat_i {xs : List A} {i : Int} {n : Nat} {a : A} (hi : i = n) (h : xs[n]? = some a) : tat xs i = some a := by subst hi; exact at_nat h
theorem tat_in {xs : List A} {i : Int} (h0 : 0 ≤ i) (h : i < xs.length) : ∃ a, tat xs i = some a ∧ xs[i.toNat]? = some a ∧ a ∈ xs := by
  obtain ⟨n, rfl⟩ := Int.eq_ofNat_of_zero_le h0
  have hn : n < xs.length := by omega
  exact ⟨xs[n], at_nat (List.getElem?_eq_getElem hn), by simp [hn], List.getElem_mem hn⟩
theorem tat_neg {xs : List A} {i : Int} (h0 : i < 0) (h : -(xs.length : Int) ≤ i) : ∃ a, tat xs i = some a ∧ xs[(xs.length + i).toNat]? = some a ∧ a ∈ xs := by
  have hn : (xs.length + i).toNat < xs.length := by omega
  refine ⟨xs[(xs.length + i).toNat], ?_, by simp [hn], List.getElem_mem hn⟩
  unfold tat
  rw [atI_eq]
  unfold L2.ixN
  rw [if_neg (by omega), if_pos (by omega)]
  show xs[(i + xs.length).toNat]? = _
  rw [show (i + xs.length).toNat = (xs.length + i).toNat by omega]
  exact List.getElem?_eq_getElem hn
theorem tapp_ok {xs : List A} {x : A} (h : xs.length < 10000000) : tapp xs x = some (xs ++ [x]) := if_pos (by show _ < 16777216; omega)
theorem tcat_of {xs ys : List A} (h : xs.length + ys.length ≤ 10000000) : tcat xs ys = some (xs ++ ys) := if_pos (by show _ ≤ 16777216; omega)
theorem tflat_ok {yss : List (List A)} (h : yss.flatten.length ≤ 10000000) : tflat yss = some yss.flatten := if_pos (by show _ ≤ 16777216; omega)
theorem tmap_eq {f : A → Option B} {g : A → B} : ∀ {xs : List A}, (∀ x ∈ xs, f x = some (g x)) → tmap f xs = some (xs.map g)
  | [], _ => rfl
  | x :: xs, h => by rw [tmap, h x (by simp), Option.bind_some, tmap_eq fun y hy => h y (List.mem_cons_of_mem _ hy)]; rfl
theorem tfilt_eq {p : A → Option Bool} {q : A → Bool} : ∀ {xs : List A}, (∀ x ∈ xs, p x = some (q x)) → tfilt p xs = some (xs.filter q)
  | [], _ => rfl
  | x :: xs, h => by rw [tfilt, h x (by simp), Option.bind_some, tfilt_eq fun y hy => h y (List.mem_cons_of_mem _ hy), Option.bind_some, List.filter_cons]
theorem tall_some : ∀ xs : List A, tall (xs.map some) = some xs
  | [] => rfl
  | x :: xs => by rw [List.map_cons, tall, Option.bind_some, tall_some xs]; rfl
theorem tmap_post {f : A → Option B} {P : A → B → Prop} : ∀ {xs : List A}, (∀ x ∈ xs, Post (f x) (P x)) → Post (tmap f xs) fun ys => ys.length = xs.length ∧ ∀ (k : Nat) (x : A) (y : B), xs[k]? = some x → ys[k]? = some y → P x y
  | [], _ => ⟨[], rfl, rfl, fun k x y h => by simp at h⟩
  | x :: xs, h => by
    obtain ⟨y, hy, p⟩ := h x (by simp)
    obtain ⟨ys, hys, hl, q⟩ := tmap_post (f := f) (P := P) fun z hz => h z (List.mem_cons_of_mem _ hz)
    refine ⟨y :: ys, by rw [tmap, hy, Option.bind_some, hys]; rfl, by simp [hl], fun k x' y' h1 h2 => ?_⟩
    cases k with
    | zero => simp at h1 h2; subst h1 h2; exact p
    | succ k => exact q k x' y' (by simpa using h1) (by simpa using h2)
theorem tmapS_post {f : A → S → Option (B × S)} {I : S → Prop} {P : B → Prop} (h : ∀ x s, I s → Post (f x s) fun r => P r.1 ∧ I r.2) : ∀ (xs : List A) (s : S), I s → Post (tmapS f xs s) fun r => r.1.length = xs.length ∧ (∀ y ∈ r.1, P y) ∧ I r.2
  | [], s, hs => ⟨([], s), rfl, rfl, by simp, hs⟩
  | x :: xs, s, hs => by
    obtain ⟨⟨y, s1⟩, e1, p, i1⟩ := h x s hs
    obtain ⟨⟨ys, s2⟩, e2, hl, q, i2⟩ := tmapS_post h xs s1 i1
    refine ⟨(y :: ys, s2), by rw [tmapS, e1, Option.bind_some, e2]; rfl, by simp [hl], fun z hz => ?_, i2⟩
    rcases List.mem_cons.mp hz with rfl | hz
    · exact p
    · exact q z hz
theorem tmapS_mem {f : A → S → Option (B × S)} {I : S → Prop} {P : B → Prop} : ∀ (xs : List A), (∀ x ∈ xs, ∀ s, I s → Post (f x s) fun r => P r.1 ∧ I r.2) → ∀ (s : S), I s → Post (tmapS f xs s) fun r => r.1.length = xs.length ∧ (∀ y ∈ r.1, P y) ∧ I r.2
  | [], _, s, hs => ⟨([], s), rfl, rfl, by simp, hs⟩
  | x :: xs, h, s, hs => by
    obtain ⟨⟨y, s1⟩, e1, p, i1⟩ := h x (by simp) s hs
    obtain ⟨⟨ys, s2⟩, e2, hl, q, i2⟩ := tmapS_mem xs (fun y hy => h y (List.mem_cons_of_mem _ hy)) s1 i1
    refine ⟨(y :: ys, s2), by rw [tmapS, e1, Option.bind_some, e2]; rfl, by simp [hl], fun z hz => ?_, i2⟩
    rcases List.mem_cons.mp hz with rfl | hz
    · exact p
    · exact q z hz
/-! loops -/
theorem tfold_post {f : A → S → Option S} {xs : List A} (I : List A → S → Prop) {s : S} (h0 : I [] s) (h : ∀ pre x suf s, xs = pre ++ x :: suf → I pre s → Post (f x s) (I (pre ++ [x]))) : Post (tfold f xs s) (I xs) := by
  have main : ∀ (suf pre : List A) (s : S), xs = pre ++ suf → I pre s → Post (tfold f suf s) (I xs) := by
    intro suf
    induction suf with
    | nil => intro pre s e i; rw [List.append_nil] at e; subst e; exact ⟨s, rfl, i⟩
    | cons x suf ih =>
      intro pre s e i
      obtain ⟨s1, e1, i1⟩ := h pre x suf s e i
      obtain ⟨s2, e2, i2⟩ := ih (pre ++ [x]) s1 (by rw [e]; simp) i1
      exact ⟨s2, by rw [tfold, e1]; exact e2, i2⟩
  exact main xs [] s rfl h0
theorem tfold_inv {f : A → S → Option S} (I : S → Prop) : ∀ {xs : List A} {s : S}, I s → (∀ x ∈ xs, ∀ s, I s → Post (f x s) I) → Post (tfold f xs s) I
  | [], s, h0, _ => ⟨s, rfl, h0⟩
  | x :: xs, s, h0, h => by
    obtain ⟨s1, e1, i1⟩ := h x (by simp) s h0
    obtain ⟨s2, e2, i2⟩ := tfold_inv I (xs := xs) i1 fun y hy => h y (List.mem_cons_of_mem _ hy)
    exact ⟨s2, by rw [tfold, e1]; exact e2, i2⟩
theorem tfold_eq {f : A → S → Option S} {g : S → A → S} : ∀ {xs : List A} {s : S}, (∀ x ∈ xs, ∀ s, f x s = some (g s x)) → tfold f xs s = some (xs.foldl g s)
  | [], _, _ => rfl
  | x :: xs, s, h => by rw [tfold, h x (by simp) s, Option.bind_some, tfold_eq fun y hy => h y (List.mem_cons_of_mem _ hy)]; rfl
theorem tforr_go {f : A → S → Option (Ex E S)} (I : S → Prop) : ∀ {xs : List A} {s : S}, I s → (∀ x ∈ xs, ∀ s, I s → Post (f x s) fun r => ∃ s', r = .go s' ∧ I s') → Post (tforr f xs s) fun r => ∃ s', r = .go s' ∧ I s'
  | [], s, h0, _ => ⟨.go s, rfl, s, rfl, h0⟩
  | x :: xs, s, h0, h => by
    obtain ⟨_, e1, s1, rfl, i1⟩ := h x (by simp) s h0
    obtain ⟨r, e2, i2⟩ := tforr_go I (xs := xs) i1 fun y hy => h y (List.mem_cons_of_mem _ hy)
    exact ⟨r, by rw [tforr, e1]; exact e2, i2⟩
theorem tforr_post {f : A → S → Option (Ex E S)} {xs : List A} (I : List A → S → Prop) {s : S} (h0 : I [] s) (h : ∀ pre x suf s, xs = pre ++ x :: suf → I pre s → Post (f x s) fun r => ∃ s', r = .go s' ∧ I (pre ++ [x]) s') : Post (tforr f xs s) fun r => ∃ s', r = .go s' ∧ I xs s' := by
  have main : ∀ (suf pre : List A) (s : S), xs = pre ++ suf → I pre s → Post (tforr f suf s) fun r => ∃ s', r = .go s' ∧ I xs s' := by
    intro suf
    induction suf with
    | nil => intro pre s e i; rw [List.append_nil] at e; subst e; exact ⟨_, rfl, s, rfl, i⟩
    | cons x suf ih =>
      intro pre s e i
      obtain ⟨_, e1, s1, rfl, i1⟩ := h pre x suf s e i
      obtain ⟨s2, e2, i2⟩ := ih (pre ++ [x]) s1 (by rw [e]; simp) i1
      exact ⟨s2, by rw [tforr, e1]; exact e2, i2⟩
  exact main xs [] s rfl h0
theorem tforr_gen {f : A → S → Option (Ex E S)} {xs : List A} (Q : E → Prop) (I : List A → S → Prop) {s : S} (h0 : I [] s) (h : ∀ pre x suf s, xs = pre ++ x :: suf → I pre s → Post (f x s) fun r => (∃ e, r = .ex e ∧ Q e) ∨ ∃ s', r = .go s' ∧ I (pre ++ [x]) s') : Post (tforr f xs s) fun r => (∃ e, r = .ex e ∧ Q e) ∨ ∃ s', r = .go s' ∧ I xs s' := by
  have main : ∀ (suf pre : List A) (s : S), xs = pre ++ suf → I pre s → Post (tforr f suf s) fun r => (∃ e, r = .ex e ∧ Q e) ∨ ∃ s', r = .go s' ∧ I xs s' := by
    intro suf
    induction suf with
    | nil => intro pre s e i; rw [List.append_nil] at e; subst e; exact ⟨_, rfl, .inr ⟨s, rfl, i⟩⟩
    | cons x suf ih =>
      intro pre s e i
      obtain ⟨_, e1, ⟨z, rfl, q⟩ | ⟨s1, rfl, i1⟩⟩ := h pre x suf s e i
      · exact ⟨_, by rw [tforr, e1]; rfl, .inl ⟨z, rfl, q⟩⟩
      · obtain ⟨s2, e2, i2⟩ := ih (pre ++ [x]) s1 (by rw [e]; simp) i1
        exact ⟨s2, by rw [tforr, e1]; exact e2, i2⟩
  exact main xs [] s rfl h0
/-- a loop that leaves with the first one that e tells -/
theorem tforr_find {f : A → Unit → Option (Ex E Unit)} (e : A → Option E) : ∀ {xs : List A}, (∀ x ∈ xs, f x () = some (match e x with | some r => .ex r | none => .go ())) → tforr f xs () = some (match xs.findSome? e with | some r => .ex r | none => .go ())
  | [], _ => rfl
  | x :: xs, h => by
    rw [tforr, h x (by simp), Option.bind_some, List.findSome?_cons]
    cases e x with
    | some r => rfl
    | none => exact tforr_find e fun y hy => h y (List.mem_cons_of_mem _ hy)
/-! least and greatest, sorted -/
def ltI (a b : Int) : Bool := decide (a < b)
abbrev mnI (x : Int) (xs : List Int) : Int := xs.foldl (fun a y => if decide (y < a) = true then y else a) x
theorem tmin_I {x : Int} {xs : List Int} : tmin (fun a b : Int => decide (a < b)) (x :: xs) = some (xs.foldl min x) := by
  show some (xs.foldl (fun a y => if decide (y < a) = true then y else a) x) = _
  rw [show (fun a y : Int => if decide (y < a) = true then y else a) = min by funext a y; by_cases h : y < a <;> simp [h] <;> omega]
theorem tmax_I {x : Int} {xs : List Int} : tmax (fun a b : Int => decide (a < b)) (x :: xs) = some (xs.foldl max x) := by
  show some (xs.foldl (fun a y => if decide (a < y) = true then y else a) x) = _
  rw [show (fun a y : Int => if decide (a < y) = true then y else a) = max by funext a y; by_cases h : a < y <;> simp [h] <;> omega]
theorem foldl_min_le : ∀ (xs : List Int) (x : Int), xs.foldl min x ≤ x ∧ ∀ y ∈ xs, xs.foldl min x ≤ y
  | [], x => ⟨Int.le_refl _, by simp⟩
  | y :: xs, x => by
    obtain ⟨h1, h2⟩ := foldl_min_le xs (min x y)
    rw [List.foldl_cons]
    refine ⟨by omega, fun z hz => ?_⟩
    rcases List.mem_cons.mp hz with rfl | hz
    · omega
    · exact h2 z hz
theorem foldl_min_mem : ∀ (xs : List Int) (x : Int), xs.foldl min x ∈ x :: xs
  | [], x => by simp
  | y :: xs, x => by
    rw [List.foldl_cons]
    have := foldl_min_mem xs (min x y)
    rcases List.mem_cons.mp this with h | h
    · rw [h]; rcases Int.le_total x y with q | q
      · rw [Int.min_eq_left q]; simp
      · rw [Int.min_eq_right q]; simp
    · exact List.mem_cons_of_mem _ (List.mem_cons_of_mem _ h)
theorem foldl_max_le : ∀ (xs : List Int) (x : Int), x ≤ xs.foldl max x ∧ ∀ y ∈ xs, y ≤ xs.foldl max x
  | [], x => ⟨Int.le_refl _, by simp⟩
  | y :: xs, x => by
    obtain ⟨h1, h2⟩ := foldl_max_le xs (max x y)
    rw [List.foldl_cons]
    refine ⟨by omega, fun z hz => ?_⟩
    rcases List.mem_cons.mp hz with rfl | hz
    · omega
    · exact h2 z hz
theorem foldl_max_mem : ∀ (xs : List Int) (x : Int), xs.foldl max x ∈ x :: xs
  | [], x => by simp
  | y :: xs, x => by
    rw [List.foldl_cons]
    have := foldl_max_mem xs (max x y)
    rcases List.mem_cons.mp this with h | h
    · rw [h]; rcases Int.le_total x y with q | q
      · rw [Int.max_eq_right q]; simp
      · rw [Int.max_eq_left q]; simp
    · exact List.mem_cons_of_mem _ (List.mem_cons_of_mem _ h)
/-- the least of numbers that are there, told by what it is -/
theorem tmin_is {xs : List Int} {m : Int} (h : m ∈ xs) (hl : ∀ y ∈ xs, m ≤ y) : tmin (fun a b : Int => decide (a < b)) xs = some m := by
  cases xs with
  | nil => simp at h
  | cons x xs =>
    rw [tmin_I]
    obtain ⟨h1, h2⟩ := foldl_min_le xs x
    have h3 := foldl_min_mem xs x
    have h4 := hl _ h3
    rcases List.mem_cons.mp h with rfl | h
    · congr 1; omega
    · have := h2 m h; congr 1; omega
theorem tmax_is {xs : List Int} {m : Int} (h : m ∈ xs) (hl : ∀ y ∈ xs, y ≤ m) : tmax (fun a b : Int => decide (a < b)) xs = some m := by
  cases xs with
  | nil => simp at h
  | cons x xs =>
    rw [tmax_I]
    obtain ⟨h1, h2⟩ := foldl_max_le xs x
    have h3 := foldl_max_mem xs x
    have h4 := hl _ h3
    rcases List.mem_cons.mp h with rfl | h
    · congr 1; omega
    · have := h2 m h; congr 1; omega
theorem tmin_post {xs : List Int} (h : xs ≠ []) : Post (tmin (fun a b : Int => decide (a < b)) xs) fun m => m ∈ xs ∧ ∀ y ∈ xs, m ≤ y := by
  cases xs with
  | nil => exact absurd rfl h
  | cons x xs =>
    refine ⟨_, tmin_I, foldl_min_mem xs x, fun y hy => ?_⟩
    obtain ⟨h1, h2⟩ := foldl_min_le xs x
    rcases List.mem_cons.mp hy with rfl | hy
    · exact h1
    · exact h2 y hy
theorem tmax_post {xs : List Int} (h : xs ≠ []) : Post (tmax (fun a b : Int => decide (a < b)) xs) fun m => m ∈ xs ∧ ∀ y ∈ xs, y ≤ m := by
  cases xs with
  | nil => exact absurd rfl h
  | cons x xs =>
    refine ⟨_, tmax_I, foldl_max_mem xs x, fun y hy => ?_⟩
    obtain ⟨h1, h2⟩ := foldl_max_le xs x
    rcases List.mem_cons.mp hy with rfl | hy
    · exact h1
    · exact h2 y hy
/-- sorted whole numbers -/
theorem srt_perm (xs : List Int) : (tsort (fun a b : Int => decide (a < b)) xs).Perm xs := List.mergeSort_perm _ _
theorem srt_len (xs : List Int) : (tsort (fun a b : Int => decide (a < b)) xs).length = xs.length := (srt_perm xs).length_eq
theorem srt_mem {xs : List Int} {x : Int} : x ∈ tsort (fun a b : Int => decide (a < b)) xs ↔ x ∈ xs := (srt_perm xs).mem_iff
theorem srt_le (xs : List Int) : (tsort (fun a b : Int => decide (a < b)) xs).Pairwise (· ≤ ·) := by
  have := List.pairwise_mergeSort (le := fun a b : Int => !decide (b < a)) (fun a b c h1 h2 => by simp at *; omega) (fun a b => by simp; omega) xs
  exact this.imp fun h => by simpa using h
theorem srt_at {xs : List Int} {i j : Nat} {x y : Int} (hij : i ≤ j) (hi : (tsort (fun a b : Int => decide (a < b)) xs)[i]? = some x) (hj : (tsort (fun a b : Int => decide (a < b)) xs)[j]? = some y) : x ≤ y := by
  rcases Nat.lt_or_eq_of_le hij with h | h
  · obtain ⟨h1, rfl⟩ := List.getElem?_eq_some_iff.mp hi
    obtain ⟨h2, rfl⟩ := List.getElem?_eq_some_iff.mp hj
    exact List.pairwise_iff_getElem.mp (srt_le xs) i j h1 h2 h
  · subst h; rw [hi] at hj; cases hj; exact Int.le_refl _
theorem srt_eq {xs ys : List Int} (h : xs.Perm ys) : tsort (fun a b : Int => decide (a < b)) xs = tsort (fun a b : Int => decide (a < b)) ys := sort_uniq ((srt_perm xs).trans (h.trans (srt_perm ys).symm)) (srt_le xs) (srt_le ys)
theorem srt_of {xs : List Int} (h : xs.Pairwise (· ≤ ·)) : tsort (fun a b : Int => decide (a < b)) xs = xs := sort_uniq (srt_perm xs) (srt_le xs) h
/-- sorted, to be reckoned -/
def insI (x : Int) : List Int → List Int
  | [] => [x]
  | y :: ys => if x ≤ y then x :: y :: ys else y :: insI x ys
def isrt : List Int → List Int
  | [] => []
  | x :: xs => insI x (isrt xs)
theorem insI_perm (x : Int) : ∀ ys : List Int, (insI x ys).Perm (x :: ys)
  | [] => List.Perm.refl _
  | y :: ys => by
    rw [insI]
    split
    · exact List.Perm.refl _
    · exact ((insI_perm x ys).cons y).trans (List.Perm.swap x y ys)
theorem insI_le (x : Int) : ∀ {ys : List Int}, ys.Pairwise (· ≤ ·) → (insI x ys).Pairwise (· ≤ ·)
  | [], _ => by simp [insI]
  | y :: ys, h => by
    have h1 := List.pairwise_cons.mp h
    rw [insI]
    split
    · rename_i q
      refine List.pairwise_cons.mpr ⟨fun z hz => ?_, h⟩
      rcases List.mem_cons.mp hz with rfl | hz
      · exact q
      · have := h1.1 z hz; omega
    · rename_i q
      refine List.pairwise_cons.mpr ⟨fun z hz => ?_, insI_le x h1.2⟩
      rcases List.mem_cons.mp ((insI_perm x ys).mem_iff.mp hz) with rfl | hz
      · omega
      · exact h1.1 z hz
theorem isrt_ok : ∀ xs : List Int, (isrt xs).Perm xs ∧ (isrt xs).Pairwise (· ≤ ·)
  | [] => ⟨List.Perm.refl _, List.Pairwise.nil⟩
  | x :: xs => ⟨(insI_perm x _).trans ((isrt_ok xs).1.cons x), insI_le x (isrt_ok xs).2⟩
theorem srt_isrt : tsort (fun a b : Int => decide (a < b)) = isrt := by
  funext xs
  exact sort_uniq ((srt_perm xs).trans (isrt_ok xs).1.symm) (srt_le xs) (isrt_ok xs).2
end TL
/-!
TW: sorting by any order of rows of ints, so that the kernel can reckon it
-/
namespace LP
open PySem PySem.Spec PyProof.Rows L2 PF TL
theorem perm_uniq {R : A → A → Prop} (an : ∀ a b, R a b → R b a → a = b) : ∀ {xs ys : List A}, xs.Perm ys → xs.Pairwise R → ys.Pairwise R → xs = ys
  | [], ys, h, _, _ => by rw [List.Perm.nil_eq h]
  | x :: xs, [], h, _, _ => by have := h.length_eq; simp at this
  | x :: xs, y :: ys, h, h1, h2 => by
    cases h1 with | cons a1 b1 =>
    cases h2 with | cons a2 b2 =>
    have hx : x ∈ y :: ys := h.mem_iff.mp (by simp)
    have hy : y ∈ x :: xs := h.mem_iff.mpr (by simp)
    have e : x = y := by
      rcases List.mem_cons.mp hx with e | hx
      · exact e
      · rcases List.mem_cons.mp hy with e | hy
        · exact e.symm
        · exact an x y (a1 y hy) (a2 x hx)
    subst e
    rw [perm_uniq an ((List.perm_cons x).mp h) b1 b2]
structure Lin (lt : A → A → Bool) : Prop where
  tr : ∀ a b c, lt b a = false → lt c b = false → lt c a = false
  to : ∀ a b, lt a b = false ∨ lt b a = false
  an : ∀ a b, lt a b = false → lt b a = false → a = b
theorem lin_int : Lin fun a b : Int => decide (a < b) := by
  refine ⟨fun a b c h1 h2 => ?_, fun a b => ?_, fun a b h1 h2 => ?_⟩
  · rw [decide_eq_false_iff_not] at *; omega
  · rw [decide_eq_false_iff_not, decide_eq_false_iff_not]; omega
  · rw [decide_eq_false_iff_not] at *; omega
theorem lin_lx [DecidableEq A] [DecidableEq B] {l1 : A → A → Bool} {l2 : B → B → Bool} (h1 : Lin l1) (h2 : Lin l2) : Lin (lx l1 l2) := by
  refine ⟨fun a b c p q => ?_, fun a b => ?_, fun a b p q => ?_⟩
  · unfold lx at p q ⊢
    by_cases e1 : b.1 = a.1
    · rw [if_pos e1] at p
      by_cases e2 : c.1 = b.1
      · rw [if_pos e2] at q
        rw [if_pos (e2.trans e1)]
        exact h2.tr _ _ _ p q
      · rw [if_neg e2] at q
        rw [if_neg fun z => e2 (z.trans e1.symm), ← e1]
        exact q
    · rw [if_neg e1] at p
      by_cases e2 : c.1 = b.1
      · rw [if_neg fun z => e1 (e2.symm.trans z), e2]
        exact p
      · rw [if_neg e2] at q
        by_cases e3 : c.1 = a.1
        · exfalso
          rw [e3] at q
          exact e1 (h1.an _ _ p q)
        · rw [if_neg e3]
          exact h1.tr _ _ _ p q
  · unfold lx
    by_cases e : a.1 = b.1
    · rw [if_pos e, if_pos e.symm]; exact h2.to _ _
    · rw [if_neg e, if_neg fun z => e z.symm]; exact h1.to _ _
  · unfold lx at p q
    by_cases e : a.1 = b.1
    · rw [if_pos e] at p
      rw [if_pos e.symm] at q
      exact Prod.ext e (h2.an _ _ p q)
    · rw [if_neg e] at p
      rw [if_neg fun z => e z.symm] at q
      exact absurd (h1.an _ _ p q) e
def insG (lt : A → A → Bool) (x : A) : List A → List A
  | [] => [x]
  | y :: ys => if lt y x = true then y :: insG lt x ys else x :: y :: ys
def isrtG (lt : A → A → Bool) : List A → List A
  | [] => []
  | x :: xs => insG lt x (isrtG lt xs)
theorem insG_perm (lt : A → A → Bool) (x : A) : ∀ ys : List A, (insG lt x ys).Perm (x :: ys)
  | [] => .refl _
  | y :: ys => by
    unfold insG
    split
    · exact ((insG_perm lt x ys).cons y).trans (.swap ..)
    · exact .refl _
theorem insG_le {lt : A → A → Bool} (h : Lin lt) (x : A) : ∀ {ys : List A}, ys.Pairwise (fun a b => lt b a = false) → (insG lt x ys).Pairwise fun a b => lt b a = false
  | [], _ => by unfold insG; exact .cons (fun _ h => by cases h) .nil
  | y :: ys, hp => by
    cases hp with | cons a b =>
    unfold insG
    split
    · rename_i q
      refine .cons (fun z hz => ?_) (insG_le h x b)
      rcases List.mem_cons.mp ((insG_perm lt x ys).mem_iff.mp hz) with rfl | hz
      · rcases h.to z y with e | e
        · exact e
        · rw [q] at e; cases e
      · exact a z hz
    · rename_i q
      have q := Bool.eq_false_iff.mpr q
      refine .cons (fun z hz => ?_) (.cons a b)
      rcases List.mem_cons.mp hz with rfl | hz
      · exact q
      · exact h.tr _ _ _ q (a z hz)
theorem isrtG_ok {lt : A → A → Bool} (h : Lin lt) : ∀ xs : List A, (isrtG lt xs).Perm xs ∧ (isrtG lt xs).Pairwise fun a b => lt b a = false
  | [] => ⟨.refl _, .nil⟩
  | x :: xs => ⟨(insG_perm lt x _).trans ((isrtG_ok h xs).1.cons x), insG_le h x (isrtG_ok h xs).2⟩
theorem tsort_perm (lt : A → A → Bool) (xs : List A) : (tsort lt xs).Perm xs := List.mergeSort_perm _ _
theorem tsort_len (lt : A → A → Bool) (xs : List A) : (tsort lt xs).length = xs.length := (tsort_perm lt xs).length_eq
theorem tsort_le {lt : A → A → Bool} (h : Lin lt) (xs : List A) : (tsort lt xs).Pairwise fun a b => lt b a = false := by
  have := List.pairwise_mergeSort (le := fun a b : A => !lt b a) (fun a b c h1 h2 => by
    simp only [Bool.not_eq_true'] at *; exact h.tr _ _ _ h1 h2) (fun a b => by
    rw [Bool.or_eq_true, Bool.not_eq_true', Bool.not_eq_true']; exact (h.to b a)) xs
  exact this.imp fun {a b} h => by simpa using h
theorem tsort_uniq {lt : A → A → Bool} (h : Lin lt) {xs ys : List A} (hp : ys.Perm xs) (hl : ys.Pairwise fun a b => lt b a = false) : tsort lt xs = ys :=
  perm_uniq (fun a b p q => h.an _ _ q p) ((tsort_perm lt xs).trans hp.symm) (tsort_le h xs) hl
theorem tsort_isrt {lt : A → A → Bool} (h : Lin lt) : tsort lt = isrtG lt := funext fun xs => tsort_uniq h (isrtG_ok h xs).1 (isrtG_ok h xs).2
theorem tsort_eq {lt : A → A → Bool} (h : Lin lt) {xs ys : List A} (p : xs.Perm ys) : tsort lt xs = tsort lt ys := tsort_uniq h ((tsort_perm lt ys).trans p.symm) (tsort_le h ys)
theorem lin2 : Lin (lx (fun a b : Int => decide (a < b)) (fun a b : Int => decide (a < b))) := lin_lx lin_int lin_int
theorem lin3 : Lin (lx (fun a b : Int => decide (a < b)) (lx (fun a b : Int => decide (a < b)) (fun a b : Int => decide (a < b)))) := lin_lx lin_int lin2
theorem sortU_k (xs : List Int) : sortU xs = dedS (isrt xs) := by
  unfold sortU
  congr 1
  exact sort_uniq ((sortI_perm xs).trans (isrt_ok xs).1.symm) (sortI_le xs) (isrt_ok xs).2
theorem tsortU_k : tsortU = fun xs : List Int => if xs.length < 64 then some (dedS (isrt xs)) else none := by
  funext xs; unfold tsortU; rw [sortU_k]
theorem tlenU_k : tlenU = fun xs : List Int => if xs.length ≤ 4000 then some ((dedS (isrt xs)).length : Int) else none := by
  funext xs; unfold tlenU; rw [sortU_k]
end LP
namespace LP
open PySem PySem.Spec PyProof.Rows L2 PF
noncomputable section
/-- entries_by_event(entries): slots ['entries', 'found', 'entry'] -/
def bentries_by_event : FS :=
    sSeq (sSet 1 (fMutD (fDNil)))
      (sSeq (sFor (fiSq (fVar 0)) (tN 2)
      (sDSet (fB gMax2D (fCons (fVar 2) (fCons (fDGet2 (fVar 1) (f2 gIx (fVar 2) (fC (.int 0))) (fVar 2)) (fNil)))) (fVar 1) (f2 gIx (fVar 2) (fC (.int 0)))))
      (sRet (fVar 1)))
def centries_by_event : FnC := runFn false 3 bentries_by_event
abbrev qentries_by_event : FnC := centries_by_event
theorem hqentries_by_event : ∀ ds M r, qentries_by_event ds M = some r → centries_by_event ds M = some r := fun _ _ _ h => h
/-- bulletin_of(entries): slots ['entries', 'told', 'event'] -/
def bbulletin_of : FS :=
    sSeq (sSet 1 (fCall qentries_by_event (fCons (fVar 0) (fNil))))
      (sRet (fB gTuple (fCons (fFz (fLC [2] (fiSq (fFz (fBN gSortX (fCons (fVar 1) (fNil))))) (tN 2) (fYes) (f2 gDGet (fVar 1) (fVar 2)))) (fNil))))
def cbulletin_of : FnC := runFn false 3 bbulletin_of
abbrev qbulletin_of : FnC := cbulletin_of
theorem hqbulletin_of : ∀ ds M r, qbulletin_of ds M = some r → cbulletin_of ds M = some r := fun _ _ _ h => h
/-- told_later(bulletin, entry): slots ['bulletin', 'entry'] -/
def btold_later : FS :=
    sRet (fCall qbulletin_of (fCons (f2 gAdd (fVar 0) (fTup (fCons (fVar 1) (fNil)))) (fNil)))
def ctold_later : FnC := runFn false 2 btold_later
abbrev qtold_later : FnC := ctold_later
theorem hqtold_later : ∀ ds M r, qtold_later ds M = some r → ctold_later ds M = some r := fun _ _ _ h => h
/-- is_bulletin(entries): slots ['entries'] -/
def bis_bulletin : FS :=
    sRet (f2 (gB (gEq)) (fCall qbulletin_of (fCons (fVar 0) (fNil))) (fVar 0))
def cis_bulletin : FnC := runFn false 1 bis_bulletin
abbrev qis_bulletin : FnC := cis_bulletin
theorem hqis_bulletin : ∀ ds M r, qis_bulletin ds M = some r → cis_bulletin ds M = some r := fun _ _ _ h => h
/-- history_of(entries, event): slots ['entries', 'event', 'entry'] -/
def bhistory_of : FS :=
    sRet (fB gTuple (fCons (fFz (fBN gSortU (fCons (fFz (fLC [2] (fiSq (fVar 0)) (tN 2) (f2T (gEq) (f2 gIx (fVar 2) (fC (.int 0))) (fVar 1)) (f2 gIx (fVar 2) (fC (.int 1))))) (fNil)))) (fNil)))
def chistory_of : FnC := runFn false 3 bhistory_of
abbrev qhistory_of : FnC := chistory_of
theorem hqhistory_of : ∀ ds M r, qhistory_of ds M = some r → chistory_of ds M = some r := fun _ _ _ h => h
/-- bulletin_without(entries, cancelled): slots ['entries', 'cancelled', 'found', 'entry', 'event', 'version'] -/
def bbulletin_without : FS :=
    sSeq (sSet 2 (fMut (fLstD (fNil))))
      (sSeq (sFor (fiSq (fCall qbulletin_of (fCons (fVar 0) (fNil)))) (tN 3)
      (sIf (fNot (fTru (fB gAny (fCons (fFz (fLC [4, 5] (fiSq (fVar 1)) (tTA 2 (tsC (tN 4) (tsC (tN 5) (tsN)))) (fYes) (fAndV (f2 (gB (gEq)) (fVar 4) (f2 gIx (fVar 3) (fC (.int 0)))) (f2 (gB (gCmp fun i j => decide (j ≤ i))) (fVar 5) (f2 gIx (fVar 3) (fC (.int 1))))))) (fNil)))))
      (sDrop (fM "list" gAppend (fVar 2) (fCons (fVar 3) (fNil))))
      (sNext)))
      (sRet (fB gTuple (fCons (fVar 2) (fNil)))))
def cbulletin_without : FnC := runFn false 6 bbulletin_without
abbrev qbulletin_without : FnC := cbulletin_without
theorem hqbulletin_without : ∀ ds M r, qbulletin_without ds M = some r → cbulletin_without ds M = some r := fun _ _ _ h => h
/-- _law_draws(script, many): slots ['script', 'many', 'cells', 'cell', 'rest', 'draws', 'k', 'at', 'mingled'] -/
def b_law_draws : FS :=
    sSeq (sSet 2 (fMut (fLC [3] (fiSq (fVar 0)) (tN 3) (fYes) (fB gInt (fCons (fVar 3) (fNil))))))
      (sSeq (sIf (f2T (gEq) (fB gLen (fCons (fVar 2) (fNil))) (fC (.int 0)))
      (sDrop (fM "list" gAppend (fVar 2) (fCons (fC (.int 0)) (fNil))))
      (sNext))
      (sSeq (sSet 4 (fMut (fBN gList (fCons (fVar 2) (fNil)))))
      (sSeq (sSet 5 (fMut (fLstD (fNil))))
      (sSeq (sFor (fiRg1 (fCons (fVar 1) (fNil))) (tN 6)
      (sSeq (sSet 7 (f2 gMod (fVar 6) (fB gLen (fCons (fVar 2) (fNil)))))
      (sIf (fAnd (f2T (gCmp fun i j => decide (j ≤ i)) (f2 gIx (fVar 2) (fVar 7)) (f2 gPow (fC (.int 10)) (fC (.int 18)))) (f2T (gCmp fun i j => decide (j < i)) (f2 gIx (fVar 4) (fVar 7)) (fC (.int 0))))
      (sSeq (sDrop (fM "list" gAppend (fVar 5) (fCons (f2 gMod (fB gInt (fCons (f2 gIx (fVar 4) (fVar 7)) (fNil))) (fC (.int 1000))) (fNil))))
      (sSetIx (f2 gFdiv (f2 gIx (fVar 4) (fVar 7)) (fC (.int 1000))) (fVar 4) (fVar 7)))
      (sSeq (sSet 8 (f2 gMod (fB gInt (fCons (f2 gAdd (f2 gAdd (f2 gMul (f2 gIx (fVar 2) (fVar 7)) (fC (.int 48271))) (f2 gMul (fVar 6) (fC (.int 69621)))) (fC (.int 11))) (fNil))) (fC (.int 2147483647))))
      (sDrop (fM "list" gAppend (fVar 5) (fCons (f2 gMod (fB gInt (fCons (f2 gAdd (f2 gAdd (f2 gMul (fVar 8) (fVar 8)) (f2 gMul (fC (.int 3)) (fVar 8))) (fVar 6)) (fNil))) (fC (.int 1000003))) (fNil))))))))
      (sSeq (sDrop (fM "list" gReverse (fVar 5) (fNil)))
      (sRet (fVar 5)))))))
def c_law_draws : FnC := runFn true 9 b_law_draws
abbrev q_law_draws : FnC := c_law_draws
theorem hq_law_draws : ∀ ds M r, q_law_draws ds M = some r → c_law_draws ds M = some r := fun _ _ _ h => h
/-- _law_take(draws, many): slots ['draws', 'many'] -/
def b_law_take : FS :=
    sSeq (sIf (f2T (gEq) (fB gLen (fCons (fVar 0) (fNil))) (fC (.int 0)))
      (sRet (fC (.int 0)))
      (sNext))
      (sRet (f2 gMod (fB gInt (fCons (fM "list" gPop (fVar 0) (fNil)) (fNil))) (fVar 1)))
def c_law_take : FnC := runFn false 2 b_law_take
abbrev q_law_take : FnC := c_law_take
theorem hq_law_take : ∀ ds M r, q_law_take ds M = some r → c_law_take ds M = some r := fun _ _ _ h => h
/-- _law_cell(script, draws): slots ['script', 'draws', 'cell'] -/
def b_law_cell : FS :=
    sSeq (sIf (f2T (gEq) (fB gLen (fCons (fVar 0) (fNil))) (fC (.int 0)))
      (sRet (fC (.int 0)))
      (sNext))
      (sSeq (sSet 2 (fB gInt (fCons (f2 gIx (fVar 0) (fCallS 0 q_law_take (fCons (fVar 1) (fCons (fB gLen (fCons (fVar 0) (fNil))) (fNil))))) (fNil))))
      (sRet (f2 gMul (f2 gMod (fB gAbs (fCons (fVar 2) (fNil))) (f2 gPow (fC (.int 10)) (fC (.int 60)))) (f2 gIx (fFz (fLstD (fCons (fC (.int 1)) (fCons (f1 gNeg (fC (.int 1))) (fNil))))) (fB gInt (fCons (f2 (gB (gCmp fun i j => decide (i < j))) (fVar 2) (fC (.int 0))) (fNil)))))))
def c_law_cell : FnC := runFn false 3 b_law_cell
abbrev q_law_cell : FnC := c_law_cell
theorem hq_law_cell : ∀ ds M r, q_law_cell ds M = some r → c_law_cell ds M = some r := fun _ _ _ h => h
/-- _law_same(actual, due): slots ['actual', 'due', 'k'] -/
def b_law_same (q_law_same : FnC) : FS :=
    sSeq (sIf (fTru (fIsi .bl (fVar 1)))
      (sRet (fAndV (fIsi .bl (fVar 0)) (f2 (gB (gEq)) (fVar 0) (fVar 1))))
      (sNext))
      (sSeq (sIf (fTru (fIsi .int (fVar 1)))
      (sRet (fAndV (fIsi .int (fVar 0)) (fAndV (fNotV (fIsi .bl (fVar 0))) (f2 (gB (gEq)) (fVar 0) (fVar 1)))))
      (sNext))
      (sSeq (sIf (fTru (fIsi .str (fVar 1)))
      (sRet (fAndV (fIsi .str (fVar 0)) (f2 (gB (gEq)) (fVar 0) (fVar 1))))
      (sNext))
      (sSeq (sIf (f2T (gIs) (fVar 1) (fC .non))
      (sRet (f2 (gB (gIs)) (fVar 0) (fC .non)))
      (sNext))
      (sSeq (sIf (fOr (fNot (fTru (fIsi .tup (fVar 0)))) (f2T (gNe) (fB gLen (fCons (fVar 0) (fNil))) (fB gLen (fCons (fVar 1) (fNil)))))
      (sRet (fC (.bl false)))
      (sNext))
      (sSeq (sFor (fiRg1 (fCons (fB gLen (fCons (fVar 1) (fNil))) (fNil))) (tN 2)
      (sIf (fNot (fTru (fCall q_law_same (fCons (f2 gIx (fVar 0) (fVar 2)) (fCons (f2 gIx (fVar 1) (fVar 2)) (fNil))))))
      (sRet (fC (.bl false)))
      (sNext)))
      (sRet (fC (.bl true))))))))
def c_law_same : Nat → FnC
  | 0, _, _ => none
  | n + 1, ds, M => runFn false 3 (b_law_same (c_law_same n)) ds M
def q_law_same : FnC := c_law_same 12
theorem hq_law_same : ∀ ds M r, q_law_same ds M = some r → c_law_same 12 ds M = some r := fun _ _ _ h => h
/-- _law_entries(script, draws, many): slots ['script', 'draws', 'many', 'cell', 'wide', 'found', 'k', 'event', 'version', 'place', 'entry', 'shared'] -/
def b_law_entries : FS :=
    sSeq (sSet 3 (f2 gMod (fB gInt (fCons (fCallS 1 q_law_cell (fCons (fVar 0) (fCons (fVar 1) (fNil)))) (fNil))) (f2 gPow (fC (.int 10)) (fC (.int 30)))))
      (sSeq (sSet 4 (f2 gIx (fFz (fLstD (fCons (fC (.int 2)) (fCons (fC (.int 4)) (fCons (fC (.int 30)) (fNil)))))) (fCallS 0 q_law_take (fCons (fVar 1) (fCons (fC (.int 3)) (fNil))))))
      (sSeq (sSet 5 (fMut (fLstD (fNil))))
      (sSeq (sFor (fiRg1 (fCons (fVar 2) (fNil))) (tN 6)
      (sSeq (sSet 7 (f2 gIx (fFz (fLstD (fCons (f2 gSub (fCallS 0 q_law_take (fCons (fVar 1) (fCons (fC (.int 5)) (fNil)))) (fC (.int 1))) (fCons (f2 gSub (fCallS 0 q_law_take (fCons (fVar 1) (fCons (fC (.int 5)) (fNil)))) (fC (.int 1))) (fCons (fVar 3) (fNil)))))) (fB gMin2 (fCons (f2 gFdiv (fCallS 0 q_law_take (fCons (fVar 1) (fCons (fC (.int 13)) (fNil)))) (fC (.int 6))) (fCons (fC (.int 2)) (fNil))))))
      (sSeq (sSet 8 (f2 gIx (fFz (fLstD (fCons (fCallS 0 q_law_take (fCons (fVar 1) (fCons (fVar 4) (fNil)))) (fCons (f2 gSub (fCallS 0 q_law_take (fCons (fVar 1) (fCons (fVar 4) (fNil)))) (fC (.int 2))) (fCons (f2 gAdd (fVar 3) (fCallS 0 q_law_take (fCons (fVar 1) (fCons (fC (.int 2)) (fNil))))) (fNil)))))) (fB gMin2 (fCons (f2 gFdiv (fCallS 0 q_law_take (fCons (fVar 1) (fCons (fC (.int 13)) (fNil)))) (fC (.int 6))) (fCons (fC (.int 2)) (fNil))))))
      (sSeq (sSet 9 (fTup (fCons (fCallS 0 q_law_take (fCons (fVar 1) (fCons (fVar 4) (fNil)))) (fCons (f2 gSub (fCallS 0 q_law_take (fCons (fVar 1) (fCons (fVar 4) (fNil)))) (fC (.int 1))) (fNil)))))
      (sSeq (sSet 10 (fTup (fCons (fVar 7) (fCons (fVar 8) (fCons (f2 gSub (fCallS 0 q_law_take (fCons (fVar 1) (fCons (fVar 4) (fNil)))) (fC (.int 1))) (fCons (fVar 9) (fCons (f2 gIx (fFz (fLstD (fCons (fCallS 0 q_law_take (fCons (fVar 1) (fCons (fVar 4) (fNil)))) (fCons (f1 gNeg (fVar 3)) (fNil))))) (fB gInt (fCons (f2 (gB (gEq)) (fCallS 0 q_law_take (fCons (fVar 1) (fCons (fC (.int 9)) (fNil)))) (fC (.int 0))) (fNil)))) (fNil))))))))
      (sSeq (sIf (fAnd (f2T (gCmp fun i j => decide (j < i)) (fVar 6) (fC (.int 0))) (f2T (gEq) (fCallS 0 q_law_take (fCons (fVar 1) (fCons (fC (.int 4)) (fNil)))) (fC (.int 0))))
      (sSeq (sSet 11 (f2 gAdd (fC (.int 1)) (fCallS 0 q_law_take (fCons (fVar 1) (fCons (fC (.int 5)) (fNil))))))
      (sSet 10 (f2 gAdd (fSlice (f2 gIx (fVar 5) (fCallS 0 q_law_take (fCons (fVar 1) (fCons (fVar 6) (fNil))))) (fNoPart) (fPart (fVar 11))) (fSlice (fVar 10) (fPart (fVar 11)) (fNoPart)))))
      (sNext))
      (sDrop (fM "list" gAppend (fVar 5) (fCons (fVar 10) (fNil))))))))))
      (sRet (fVar 5)))))
def c_law_entries : FnC := runFn false 12 b_law_entries
abbrev q_law_entries : FnC := c_law_entries
theorem hq_law_entries : ∀ ds M r, q_law_entries ds M = some r → c_law_entries ds M = some r := fun _ _ _ h => h
/-- _law_bulletin(entries): slots ['entries', 'found', 'event', 'entry', 'rows', 'version', 'agency', 'place', 'time'] -/
def b_law_bulletin : FS :=
    sSeq (sSet 1 (fMut (fLstD (fNil))))
      (sSeq (sFor (fiSq (fFz (fBN gSortU (fCons (fFz (fLC [3] (fiSq (fVar 0)) (tN 3) (fYes) (f2 gIx (fVar 3) (fC (.int 0))))) (fNil))))) (tN 2)
      (sSeq (sSet 4 (fFz (fLC [3] (fiSq (fVar 0)) (tN 3) (f2T (gEq) (f2 gIx (fVar 3) (fC (.int 0))) (fVar 2)) (fVar 3))))
      (sSeq (sSet 5 (fB gMax1 (fCons (fFz (fLC [3] (fiSq (fVar 4)) (tN 3) (fYes) (f2 gIx (fVar 3) (fC (.int 1))))) (fNil))))
      (sSeq (sSet 4 (fFz (fLC [3] (fiSq (fVar 4)) (tN 3) (f2T (gEq) (f2 gIx (fVar 3) (fC (.int 1))) (fVar 5)) (fVar 3))))
      (sSeq (sSet 6 (fB gMax1 (fCons (fFz (fLC [3] (fiSq (fVar 4)) (tN 3) (fYes) (f2 gIx (fVar 3) (fC (.int 2))))) (fNil))))
      (sSeq (sSet 4 (fFz (fLC [3] (fiSq (fVar 4)) (tN 3) (f2T (gEq) (f2 gIx (fVar 3) (fC (.int 2))) (fVar 6)) (fVar 3))))
      (sSeq (sSet 7 (fB gMax1 (fCons (fFz (fLC [3] (fiSq (fVar 4)) (tN 3) (fYes) (f2 gIx (fVar 3) (fC (.int 3))))) (fNil))))
      (sSeq (sSet 8 (fB gMax1 (fCons (fFz (fLC [3] (fiSq (fVar 4)) (tN 3) (f2T (gEq) (f2 gIx (fVar 3) (fC (.int 3))) (fVar 7)) (f2 gIx (fVar 3) (fC (.int 4))))) (fNil))))
      (sDrop (fM "list" gAppend (fVar 1) (fCons (fTup (fCons (fVar 2) (fCons (fVar 5) (fCons (fVar 6) (fCons (fVar 7) (fCons (fVar 8) (fNil))))))) (fNil))))))))))))
      (sRet (fB gTuple (fCons (fVar 1) (fNil)))))
def c_law_bulletin : FnC := runFn false 9 b_law_bulletin
abbrev q_law_bulletin : FnC := c_law_bulletin
theorem hq_law_bulletin : ∀ ds M r, q_law_bulletin ds M = some r → c_law_bulletin ds M = some r := fun _ _ _ h => h
/-- _law_versions(entries, event): slots ['entries', 'event', 'found', 'entry', 'at', 'version'] -/
def b_law_versions : FS :=
    sSeq (sSet 2 (fMut (fLstD (fNil))))
      (sSeq (sFor (fiSq (fVar 0)) (tN 3)
      (sIf (fAnd (f2T (gEq) (f2 gIx (fVar 3) (fC (.int 0))) (fVar 1)) (f2T (gNotInX) (f2 gIx (fVar 3) (fC (.int 1))) (fVar 2)))
      (sSeq (sSet 4 (fB gLen (fCons (fFz (fLC [5] (fiSq (fVar 2)) (tN 5) (f2T (gCmpD PySem.W.dataLt) (fVar 5) (f2 gIx (fVar 3) (fC (.int 1)))) (fVar 5))) (fNil))))
      (sDrop (fM "list" gInsert (fVar 2) (fCons (fVar 4) (fCons (f2 gIx (fVar 3) (fC (.int 1))) (fNil))))))
      (sNext)))
      (sRet (fB gTuple (fCons (fVar 2) (fNil)))))
def c_law_versions : FnC := runFn false 6 b_law_versions
abbrev q_law_versions : FnC := c_law_versions
theorem hq_law_versions : ∀ ds M r, q_law_versions ds M = some r → c_law_versions ds M = some r := fun _ _ _ h => h
/-- _law_left(entries, cancelled): slots ['entries', 'cancelled', 'found', 'entry', 'above', 'pair'] -/
def b_law_left : FS :=
    sSeq (sSet 2 (fMut (fLstD (fNil))))
      (sSeq (sFor (fiSq (fCall q_law_bulletin (fCons (fVar 0) (fNil)))) (tN 3)
      (sSeq (sSet 4 (fFz (fLC [5] (fiSq (fVar 1)) (tN 5) (fAnd (f2T (gEq) (f2 gIx (fVar 5) (fC (.int 0))) (f2 gIx (fVar 3) (fC (.int 0)))) (f2T (gCmp fun i j => decide (j ≤ i)) (f2 gIx (fVar 5) (fC (.int 1))) (f2 gIx (fVar 3) (fC (.int 1))))) (fVar 5))))
      (sIf (f2T (gEq) (fB gLen (fCons (fVar 4) (fNil))) (fC (.int 0)))
      (sDrop (fM "list" gAppend (fVar 2) (fCons (fVar 3) (fNil))))
      (sNext))))
      (sRet (fB gTuple (fCons (fVar 2) (fNil)))))
def c_law_left : FnC := runFn false 6 b_law_left
abbrev q_law_left : FnC := c_law_left
theorem hq_law_left : ∀ ds M r, q_law_left ds M = some r → c_law_left ds M = some r := fun _ _ _ h => h
/-- _law_cancelled(draws, entries, many): slots ['draws', 'entries', 'many', 'found', 'k', 'entry'] -/
def b_law_cancelled : FS :=
    sSeq (sSet 3 (fMut (fLstD (fNil))))
      (sSeq (sFor (fiRg1 (fCons (fVar 2) (fNil))) (tN 4)
      (sIf (fAnd (f2T (gCmp fun i j => decide (j < i)) (fB gLen (fCons (fVar 1) (fNil))) (fC (.int 0))) (f2T (gCmp fun i j => decide (j < i)) (fCallS 0 q_law_take (fCons (fVar 0) (fCons (fC (.int 5)) (fNil)))) (fC (.int 0))))
      (sSeq (sSet 5 (f2 gIx (fVar 1) (fCallS 0 q_law_take (fCons (fVar 0) (fCons (fB gLen (fCons (fVar 1) (fNil))) (fNil))))))
      (sDrop (fM "list" gAppend (fVar 3) (fCons (fTup (fCons (f2 gIx (fVar 5) (fC (.int 0))) (fCons (f2 gSub (f2 gAdd (f2 gIx (fVar 5) (fC (.int 1))) (fCallS 0 q_law_take (fCons (fVar 0) (fCons (fC (.int 3)) (fNil))))) (fC (.int 1))) (fNil)))) (fNil)))))
      (sDrop (fM "list" gAppend (fVar 3) (fCons (fTup (fCons (f2 gSub (fCallS 0 q_law_take (fCons (fVar 0) (fCons (fC (.int 9)) (fNil)))) (fC (.int 3))) (fCons (fCallS 0 q_law_take (fCons (fVar 0) (fCons (fC (.int 9)) (fNil)))) (fNil)))) (fNil))))))
      (sRet (fVar 3)))
def c_law_cancelled : FnC := runFn false 6 b_law_cancelled
abbrev q_law_cancelled : FnC := c_law_cancelled
theorem hq_law_cancelled : ∀ ds M r, q_law_cancelled ds M = some r → c_law_cancelled ds M = some r := fun _ _ _ h => h
/-- _law_come_back(draws, entries, cancelled, left): slots ['draws', 'entries', 'cancelled', 'left', 'entry', 'own', 'pair', 'top', 'back', 'now', 'one', 'older'] -/
def b_law_come_back : FS :=
    sSeq (sFor (fiSq (fSlice (fCall q_law_bulletin (fCons (fVar 1) (fNil))) (fNoPart) (fPart (fC (.int 4))))) (tN 4)
      (sSeq (sSet 5 (fFz (fLC [6] (fiSq (fVar 2)) (tN 6) (f2T (gEq) (f2 gIx (fVar 6) (fC (.int 0))) (f2 gIx (fVar 4) (fC (.int 0)))) (f2 gIx (fVar 6) (fC (.int 1))))))
      (sSeq (sSet 7 (fB gMax1 (fCons (f2 gAdd (fFz (fLstD (fCons (f2 gIx (fVar 4) (fC (.int 1))) (fNil)))) (fVar 5)) (fNil))))
      (sSeq (sSet 8 (f2 gAdd (fTup (fCons (f2 gIx (fVar 4) (fC (.int 0))) (fCons (f2 gAdd (fVar 7) (fC (.int 1))) (fNil)))) (fSlice (fVar 4) (fPart (fC (.int 2))) (fNoPart))))
      (sSeq (sSet 9 (fCall qbulletin_without (fCons (f2 gAdd (fB gTuple (fCons (fVar 1) (fNil))) (fTup (fCons (fVar 8) (fNil)))) (fCons (fVar 2) (fNil)))))
      (sSeq (sIf (fOr (fNot (fTru (fIsi .tup (fVar 9)))) (fOr (f2T (gNotInX) (fVar 8) (fVar 9)) (f2T (gCmp fun i j => decide (j < i)) (fB gLen (fCons (fFz (fLC [10] (fiSq (fVar 3)) (tN 10) (fAnd (f2T (gNe) (f2 gIx (fVar 10) (fC (.int 0))) (f2 gIx (fVar 4) (fC (.int 0)))) (f2T (gNotInX) (fVar 10) (fVar 9))) (fVar 10))) (fNil))) (fC (.int 0)))))
      (sRet (fC (.bl false)))
      (sNext))
      (sSeq (sSet 11 (f2 gAdd (fTup (fCons (f2 gIx (fVar 4) (fC (.int 0))) (fCons (f2 gSub (f2 gSub (f2 gIx (fVar 4) (fC (.int 1))) (fC (.int 1))) (fCallS 0 q_law_take (fCons (fVar 0) (fCons (fC (.int 3)) (fNil))))) (fNil)))) (fSlice (fVar 4) (fPart (fC (.int 2))) (fNoPart))))
      (sIf (fNot (fTru (fCall q_law_same (fCons (fCall qbulletin_without (fCons (f2 gAdd (fB gTuple (fCons (fVar 1) (fNil))) (fTup (fCons (fVar 11) (fNil)))) (fCons (fVar 2) (fNil)))) (fCons (fVar 3) (fNil))))))
      (sRet (fC (.bl false)))
      (sNext)))))))))
      (sRet (fC (.bl true)))
def c_law_come_back : FnC := runFn false 12 b_law_come_back
abbrev q_law_come_back : FnC := c_law_come_back
theorem hq_law_come_back : ∀ ds M r, q_law_come_back ds M = some r → c_law_come_back ds M = some r := fun _ _ _ h => h
/-- law(script): slots ['script', 'draws', 'entries', 'told', 'events', 'entry', 'event', 'versions', 'own', 'many', 'cancelled', 'left', 'more', 'rows'] -/
def blaw : FS :=
    sSeq (sSet 1 (fCall q_law_draws (fCons (fVar 0) (fCons (fC (.int 420)) (fNil)))))
      (sSeq (sSet 2 (fCallS 1 q_law_entries (fCons (fVar 0) (fCons (fVar 1) (fCons (fCallS 0 q_law_take (fCons (fVar 1) (fCons (fC (.int 15)) (fNil)))) (fNil))))))
      (sSeq (sSet 3 (fCall qbulletin_of (fCons (fB gTuple (fCons (fVar 2) (fNil))) (fNil))))
      (sSeq (sIf (fNot (fTru (fCall q_law_same (fCons (fVar 3) (fCons (fCall q_law_bulletin (fCons (fVar 2) (fNil))) (fNil))))))
      (sRet (fC (.bl false)))
      (sNext))
      (sSeq (sSet 4 (fFz (fBN gSortU (fCons (f2 gAdd (fFz (fLC [5] (fiSq (fVar 2)) (tN 5) (fYes) (f2 gIx (fVar 5) (fC (.int 0))))) (fFz (fLstD (fCons (fC (.int 77)) (fNil))))) (fNil)))))
      (sSeq (sFor (fiSq (fVar 4)) (tN 6)
      (sSeq (sSet 7 (fCall q_law_versions (fCons (fVar 2) (fCons (fVar 6) (fNil)))))
      (sSeq (sIf (fOr (fNot (fTru (fCall q_law_same (fCons (fCall qhistory_of (fCons (fB gTuple (fCons (fVar 2) (fNil))) (fCons (fVar 6) (fNil)))) (fCons (fVar 7) (fNil)))))) (fNot (fTru (fCall q_law_same (fCons (fCall qhistory_of (fCons (fB gTuple (fCons (fRevA (fVar 2)) (fNil))) (fCons (fVar 6) (fNil)))) (fCons (fVar 7) (fNil)))))))
      (sRet (fC (.bl false)))
      (sNext))
      (sSeq (sSet 8 (fFz (fLC [5] (fiSq (fVar 3)) (tN 5) (f2T (gEq) (f2 gIx (fVar 5) (fC (.int 0))) (fVar 6)) (fVar 5))))
      (sIf (fOr (f2T (gNe) (f2 (gB (gEq)) (fB gLen (fCons (fVar 8) (fNil))) (fC (.int 0))) (f2 (gB (gEq)) (fVar 7) (fTup (fNil)))) (fAnd (f2T (gCmp fun i j => decide (j < i)) (fB gLen (fCons (fVar 8) (fNil))) (fC (.int 0))) (f2T (gNe) (f2 gIx (f2 gIx (fVar 8) (fC (.int 0))) (fC (.int 1))) (f2 gIx (fVar 7) (f1 gNeg (fC (.int 1)))))))
      (sRet (fC (.bl false)))
      (sNext))))))
      (sSeq (sFor (fiSq (fFz (fLstD (fCons (fC (.int 0)) (fCons (f2 gAdd (fC (.int 1)) (fCallS 0 q_law_take (fCons (fVar 1) (fCons (fC (.int 3)) (fNil))))) (fCons (fCallS 0 q_law_take (fCons (fVar 1) (fCons (fC (.int 8)) (fNil)))) (fNil))))))) (tN 9)
      (sSeq (sSet 10 (fCallS 0 q_law_cancelled (fCons (fVar 1) (fCons (fVar 2) (fCons (fVar 9) (fNil))))))
      (sSeq (sSet 11 (fCall q_law_left (fCons (fVar 2) (fCons (fVar 10) (fNil)))))
      (sSeq (sIf (fOr (fNot (fTru (fCall q_law_same (fCons (fCall qbulletin_without (fCons (fB gTuple (fCons (fVar 2) (fNil))) (fCons (fB gTuple (fCons (fVar 10) (fNil))) (fNil)))) (fCons (fVar 11) (fNil)))))) (f2T (gIsNot) (fCall qis_bulletin (fCons (fVar 11) (fNil))) (fC (.bl true))))
      (sRet (fC (.bl false)))
      (sNext))
      (sSeq (sIf (fOr (fNot (fTru (fCall q_law_same (fCons (fCall qbulletin_without (fCons (fVar 3) (fCons (fB gTuple (fCons (f2 gAdd (fRevA (fVar 10)) (fSlice (fVar 10) (fNoPart) (fPart (fC (.int 1))))) (fNil))) (fNil)))) (fCons (fVar 11) (fNil)))))) (fAnd (f2T (gEq) (fVar 9) (fC (.int 0))) (f2T (gNe) (fVar 11) (fVar 3))))
      (sRet (fC (.bl false)))
      (sNext))
      (sSeq (sSet 12 (fCall qbulletin_without (fCons (fB gTuple (fCons (fVar 2) (fNil))) (fCons (fB gTuple (fCons (f2 gAdd (fVar 10) (fCallS 0 q_law_cancelled (fCons (fVar 1) (fCons (fVar 2) (fCons (fC (.int 1)) (fNil)))))) (fNil))) (fNil)))))
      (sSeq (sIf (fOr (fNot (fTru (fIsi .tup (fVar 12)))) (f2T (gCmp fun i j => decide (j < i)) (fB gLen (fCons (fFz (fLC [5] (fiSq (fVar 12)) (tN 5) (f2T (gNotInX) (fVar 5) (fVar 11)) (fVar 5))) (fNil))) (fC (.int 0))))
      (sRet (fC (.bl false)))
      (sNext))
      (sSeq (sIf (fNot (fTru (fCallS 0 q_law_come_back (fCons (fVar 1) (fCons (fVar 2) (fCons (fB gTuple (fCons (fVar 10) (fNil))) (fCons (fVar 11) (fNil))))))))
      (sRet (fC (.bl false)))
      (sNext))
      (sFor (fiSq (fSlice (fVar 2) (fNoPart) (fPart (fC (.int 2))))) (tN 5)
      (sIf (fNot (fTru (fCall q_law_same (fCons (fCall qbulletin_without (fCons (fCall qtold_later (fCons (fVar 3) (fCons (fVar 5) (fNil)))) (fCons (fB gTuple (fCons (fVar 10) (fNil))) (fNil)))) (fCons (fVar 11) (fNil))))))
      (sRet (fC (.bl false)))
      (sNext)))))))))))
      (sSeq (sSet 13 (fTup (fCons (fTup (fCons (fC (.int 7)) (fCons (fC (.int 1)) (fCons (fC (.int 2)) (fCons (fTup (fCons (fC (.int 0)) (fCons (fC (.int 0)) (fNil)))) (fCons (fC (.int 5)) (fNil))))))) (fCons (fTup (fCons (fC (.int 3)) (fCons (fC (.int 0)) (fCons (fC (.int 1)) (fCons (fTup (fCons (fC (.int 1)) (fCons (fC (.int 1)) (fNil)))) (fCons (fC (.int 5)) (fNil))))))) (fCons (fTup (fCons (fC (.int 7)) (fCons (fC (.int 3)) (fCons (fC (.int 1)) (fCons (fTup (fCons (fC (.int 9)) (fCons (fC (.int 0)) (fNil)))) (fCons (fC (.int 4)) (fNil))))))) (fCons (fTup (fCons (fC (.int 7)) (fCons (fC (.int 1)) (fCons (fC (.int 1)) (fCons (fTup (fCons (fC (.int 9)) (fCons (fC (.int 1)) (fNil)))) (fCons (fC (.int 0)) (fNil))))))) (fNil)))))))
      (sSeq (sIf (fOr (fNot (fTru (fCall q_law_same (fCons (fCall qhistory_of (fCons (fVar 13) (fCons (fC (.int 7)) (fNil)))) (fCons (fTup (fCons (fC (.int 1)) (fCons (fC (.int 3)) (fNil)))) (fNil)))))) (fNot (fTru (fCall q_law_same (fCons (fCall qhistory_of (fCons (fVar 13) (fCons (fC (.int 4)) (fNil)))) (fCons (fTup (fNil)) (fNil)))))))
      (sRet (fC (.bl false)))
      (sNext))
      (sSeq (sIf (fOr (fNot (fTru (fCall q_law_same (fCons (fCall qbulletin_without (fCons (fVar 13) (fCons (fTup (fCons (fTup (fCons (fC (.int 7)) (fCons (fC (.int 2)) (fNil)))) (fCons (fTup (fCons (fC (.int 3)) (fCons (fC (.int 0)) (fNil)))) (fNil)))) (fNil)))) (fCons (fSlice (fVar 13) (fPart (fC (.int 2))) (fPart (fC (.int 3)))) (fNil)))))) (fNot (fTru (fCall q_law_same (fCons (fCall qbulletin_without (fCons (fVar 13) (fCons (fTup (fCons (fTup (fCons (fC (.int 7)) (fCons (fC (.int 3)) (fNil)))) (fNil))) (fNil)))) (fCons (fSlice (fVar 13) (fPart (fC (.int 1))) (fPart (fC (.int 2)))) (fNil)))))))
      (sRet (fC (.bl false)))
      (sNext))
      (sRet (fAndV (fCall q_law_same (fCons (fCall qbulletin_without (fCons (fTup (fNil)) (fCons (fTup (fCons (fTup (fCons (fC (.int 1)) (fCons (fC (.int 1)) (fNil)))) (fNil))) (fNil)))) (fCons (fTup (fNil)) (fNil)))) (fCall q_law_same (fCons (fCall qbulletin_of (fCons (fB gTuple (fCons (fVar 2) (fNil))) (fNil))) (fCons (fVar 3) (fNil)))))))))))))))
def claw : FnC := runFn false 14 blaw
end
end LP
namespace LP
open PySem PySem.Spec PyProof.Rows L2 PF TL
theorem fin_bl (b : Bool) : fin false 0 (.bl b) [] = some (.bl b, []) := fin_nr rfl rfl
theorem gLen_t (xs : List D) (M : Mem) : gLen [.tup xs] M = some (.int xs.length) := rfl
theorem same_loop {n : Nat} {zs : List (D × D)} {f : D × D → Bool} (h : ∀ z ∈ zs, c_law_same n [z.1, z.2] [] = some (.bl (f z), [])) (h1 : D.nrs (zs.map Prod.fst) = true) (h2 : D.nrs (zs.map Prod.snd) = true) {xs ys : List D} (hx : xs = zs.map Prod.fst) (hy : ys = zs.map Prod.snd) : ∀ (m k : Nat) (x : Option D), k + m = zs.length → ∃ o, sLoop (chk none (rgD 0 zs.length)) (sStep (tN 2) (sIf (fNot (fTru (fCall (c_law_same n) (fCons (f2 gIx (fVar 0) (fVar 2)) (fCons (f2 gIx (fVar 1) (fVar 2)) (fNil))))))
      (sRet (fC (.bl false))) (sNext))) ((List.range m).map fun i => D.int ((k + i : Nat) : Int)) [some (.tup xs), some (.tup ys), x] [] = some (o, []) ∧ ((zs.drop k).all f = false → o = .ret (.bl false)) ∧ ((zs.drop k).all f = true → ∃ y, o = .nx [some (.tup xs), some (.tup ys), y])
  | 0, k, x, hk => by
    refine ⟨.nx _, by rw [List.range_zero, List.map_nil, sLoop, if_pos (show chk none (rgD 0 zs.length) [] = true from rfl)], fun hh => ?_, fun _ => ⟨_, rfl⟩⟩
    rw [List.drop_eq_nil_of_le (by omega)] at hh; cases hh
  | m + 1, k, x, hk => by
    have hlt : k < zs.length := by omega
    obtain ⟨z, hz⟩ : ∃ z, zs[k]? = some z := ⟨_, List.getElem?_eq_getElem hlt⟩
    have hm : z ∈ zs := List.mem_of_getElem? hz
    have e := h z hm
    have a1 : L2.atI xs (k : Int) = some z.1 := at_nat (by rw [hx, List.getElem?_map, hz]; rfl)
    have a2 : L2.atI ys (k : Int) = some z.2 := at_nat (by rw [hy, List.getElem?_map, hz]; rfl)
    have n1 : z.1.nr = true := by
      have : ∀ {l : List D} {d : D}, D.nrs l = true → d ∈ l → d.nr = true := by
        intro l
        induction l with
        | nil => intro d _ h; cases h
        | cons y l ih =>
          intro d hn hd
          rw [D.nrs, Bool.and_eq_true] at hn
          rcases List.mem_cons.mp hd with rfl | hd
          · exact hn.1
          · exact ih hn.2 hd
      exact this h1 (List.mem_map_of_mem hm)
    have n2 : z.2.nr = true := by
      have : ∀ {l : List D} {d : D}, D.nrs l = true → d ∈ l → d.nr = true := by
        intro l
        induction l with
        | nil => intro d _ h; cases h
        | cons y l ih =>
          intro d hn hd
          rw [D.nrs, Bool.and_eq_true] at hn
          rcases List.mem_cons.mp hd with rfl | hd
          · exact hn.1
          · exact ih hn.2 hd
      exact this h2 (List.mem_map_of_mem hm)
    have hc : callP (c_law_same n) [z.1, z.2] [] = some (.bl (f z), []) := p_v (cR := eB) (av_d n1 (av_d n2 av_nil)) e
    have hd : zs.drop k = z :: zs.drop (k + 1) := by
      obtain ⟨hl, he⟩ := List.getElem?_eq_some_iff.mp hz
      rw [List.drop_eq_getElem_cons hl, he]
    obtain ⟨o, i1, i2, i3⟩ := same_loop h h1 h2 hx hy m (k + 1) (some (.int k)) (by omega)
    have er : (List.range (m + 1)).map (fun i => D.int ((k + i : Nat) : Int)) = .int k :: (List.range m).map fun i => D.int ((k + 1 + i : Nat) : Int) := by
      rw [List.range_succ_eq_map, List.map_cons, List.map_map]
      congr 1
      exact List.map_congr_left fun i _ => by show D.int ((k + (i + 1) : Nat) : Int) = _; rw [show k + (i + 1) = k + 1 + i by omega]
    rw [er, sLoop, if_pos (show chk none (rgD 0 zs.length) [] = true from rfl)]
    have st : sStep (tN 2) (sIf (fNot (fTru (fCall (c_law_same n) (fCons (f2 gIx (fVar 0) (fVar 2)) (fCons (f2 gIx (fVar 1) (fVar 2)) (fNil))))))
      (sRet (fC (.bl false))) (sNext)) (.int k) [some (.tup xs), some (.tup ys), x] [] = if f z = true then some (.nx [some (.tup xs), some (.tup ys), some (.int k)], []) else some (.ret (.bl false), []) := by
      simp [a1, a2, hc]
      cases f z <;> rfl
    rw [st]
    cases hf : f z with
    | true =>
      refine ⟨o, i1, fun hh => i2 ?_, fun hh => i3 ?_⟩
      · rw [hd, List.all_cons, hf, Bool.true_and] at hh; exact hh
      · rw [hd, List.all_cons, hf, Bool.true_and] at hh; exact hh
    | false =>
      refine ⟨_, rfl, fun _ => rfl, fun hh => ?_⟩
      rw [hd, List.all_cons, hf] at hh; cases hh
theorem same_fn : SameFn c_law_same where
  bl := fun n a b => by cases a <;> cases b <;> simp [c_law_same, b_law_same, runFn, startR, noDct, isi, tyOf, isNn, fin, Mem.nr, D.nr, gEq, D.val, D.dp, D.py, PyData.eqv]
  int := fun n a b => by simp [c_law_same, b_law_same, runFn, startR, noDct, isi, tyOf, isNn, fin, Mem.nr, D.nr]
  str := fun n a b h1 h2 => by
    have e : gEq (.str a) (.str b) [] = some (decide (a = b)) := by
      unfold gEq
      simp [D.val, D.dp, D.py, h1, h2, PyData.eqv]
      by_cases h : a = b <;> simp [h]
    simp [c_law_same, b_law_same, runFn, startR, noDct, isi, tyOf, isNn, fin, Mem.nr, D.nr, e]
  nn := fun n d h => by simp [c_law_same, b_law_same, runFn, startR, noDct, isi, tyOf, isNn, fin, Mem.nr, D.nr]
  nx := fun n d h hl hn => by
    have e0 : (D.non).nr = true := rfl
    cases d with
    | non => cases hn
    | ref _ => cases h
    | lst _ => rw [D.nl] at hl; cases hl
    | kst _ => rw [D.nl] at hl; cases hl
    | dct _ _ => rw [D.nl] at hl; cases hl
    | bl b => simp [c_law_same, b_law_same, runFn, startR, noDct, isi, tyOf, isNn, fin, Mem.nr, D.nr]
    | int b => simp [c_law_same, b_law_same, runFn, startR, noDct, isi, tyOf, isNn, fin, Mem.nr, D.nr]
    | str b => simp [c_law_same, b_law_same, runFn, startR, noDct, isi, tyOf, isNn, fin, Mem.nr, D.nr]
    | tup b => simp [c_law_same, b_law_same, runFn, startR, noDct, isi, tyOf, isNn, fin, Mem.nr, D.nr]
  tn := fun n xs ys h1 h2 hl => by
    have hl2 : ¬ ((xs.length : Int) = ys.length) := by omega
    simp [c_law_same, b_law_same, runFn, startR, noDct, isi, tyOf, isNn, fin, Mem.nr, D.nr, hl2, hl]
  tt := fun n zs f hlen h1 h2 hz => by
    have ok : okR 0 (zs.length : Int) = true := okR_of (by omega) (by omega) (by omega) (by omega)
    obtain ⟨o, e, e2, e3⟩ := same_loop hz h1 h2 rfl rfl zs.length 0 none (by omega)
    have er : (List.range zs.length).map (fun i => D.int ((0 + i : Nat) : Int)) = rgD 0 zs.length := by
      unfold rgD
      exact List.map_congr_left fun i _ => by rw [Nat.zero_add, Int.zero_add]
    rw [er] at e
    rw [List.drop_zero] at e2 e3
    cases hf : zs.all f with
    | false =>
      rw [e2 hf] at e
      simp [c_law_same, b_law_same, runFn, startR, noDct, isi, tyOf, isNn, gIs, ev_rgh1 _ ok, e, fin, Mem.nr, D.nr]
    | true =>
      obtain ⟨y, rfl⟩ := e3 hf
      simp [c_law_same, b_law_same, runFn, startR, noDct, isi, tyOf, isNn, gIs, ev_rgh1 _ ok, e, fin, Mem.nr, D.nr]
theorem p_same {A : Type} {n : Nat} {c : Ec A} {ok : A → Bool} [DecidableEq A] [t : Sm n c ok] [o : OkAll ok] {M : Mem} (a b : A) (hn : Nat.ble n 12 = true := by decide) : callP q_law_same [c.e a, c.e b] M = some (eB.e (decide (a = b)), M) := p_sameG rfl same_fn (o.t a) (o.t b) hn
theorem p_sameT {A : Type} {n : Nat} {c : Ec A} {ok : A → Bool} [DecidableEq A] [t : Sm n c ok] {M : Mem} {a b : A} {r : Bool} (h : tsame ok a b = some r) (hn : Nat.ble n 12 = true := by decide) : callP q_law_same [c.e a, c.e b] M = some (eB.e r, M) := p_sameG2 rfl same_fn h hn
end LP
namespace LP
open PySem PySem.Spec PyProof.Rows L2 PF TL
/-- _law_draws(v_script: script[int], v_many: int) -> list[int] -/
def t_law_draws (v_script : (List Int)) (v_many : Int) : Option (List Int) :=
  tlet ((List.map (fun (cell_1 : Int) => cell_1) v_script)) fun cells_2 =>
  Option.bind (α := (List Int)) (if (decide ((List.length cells_2 : Int) = (0 : Int))) = true then (Option.bind (tapp cells_2 ((0 : Int))) fun cells_4 => some cells_4) else (some cells_2)) fun s_3 =>
  Option.bind (trg ((0 : Int)) v_many) fun r_5 =>
  Option.bind (α := ((List Int) × (List Int))) (tfold (fun (k_10 : Int) (s_6 : ((List Int) × (List Int))) => Option.bind (tmod k_10 ((List.length s_3 : Int))) fun m_11 => Option.bind (tat s_3 m_11) fun x_12 => Option.bind (if (decide (x_12 ≥ ((10 : Int) ^ 18))) = true then Option.bind (tat s_6.1 m_11) fun x_13 => some ((decide (x_13 > (0 : Int)))) else some false) fun w_14 => Option.bind (α := ((List Int) × (List Int))) (if w_14 = true then (Option.bind (tat s_6.1 m_11) fun x_17 => Option.bind (tapp s_6.2 ((Int.fmod x_17 ((1000 : Int))))) fun draws_18 => Option.bind (tat s_6.1 m_11) fun x_19 => Option.bind (tset s_6.1 m_11 ((Int.fdiv x_19 ((1000 : Int))))) fun a_20 => some ((a_20, draws_18))) else (Option.bind (tat s_3 m_11) fun x_21 => tlet ((Int.fmod ((((x_21 * (48271 : Int)) + (k_10 * (69621 : Int))) + (11 : Int))) ((2147483647 : Int)))) fun mingled_22 => Option.bind (tmul mingled_22 mingled_22) fun m_23 => Option.bind (tapp s_6.2 ((Int.fmod (((m_23 + ((3 : Int) * mingled_22)) + k_10)) ((1000003 : Int))))) fun draws_24 => some ((s_6.1, draws_24)))) fun s_15 => some ((s_15.1, s_15.2))) r_5 ((s_3, ([] : (List Int))))) fun s_25 =>
  some ((List.reverse s_25.2))
/-- _law_take(v_draws: list[int], v_many: int) -> int -/
def t_law_take (v_draws : (List Int)) (v_many : Int) : Option (Int × List Int) :=
  if (decide ((List.length v_draws : Int) = (0 : Int))) = true then (some (((0 : Int), v_draws))) else
  Option.bind (tpop v_draws) fun p_1 =>
  Option.bind (tmod p_1.1 v_many) fun m_2 =>
  some ((m_2, p_1.2))
/-- _law_cell(v_script: script[int], v_draws: list[int]) -> int -/
def t_law_cell (v_script : (List Int)) (v_draws : (List Int)) : Option (Int × List Int) :=
  if (decide ((List.length v_script : Int) = (0 : Int))) = true then (some (((0 : Int), v_draws))) else
  Option.bind (t_law_take v_draws ((List.length v_script : Int))) fun y_1 =>
  Option.bind (tat v_script y_1.1) fun x_2 =>
  Option.bind (tat ([(1 : Int), (-1 : Int)]) ((if (decide (x_2 < (0 : Int))) = true then (1 : Int) else 0))) fun x_3 =>
  Option.bind (tmul ((Int.fmod ((Int.natAbs x_2 : Int)) (((10 : Int) ^ 60)))) x_3) fun m_4 =>
  some ((m_4, y_1.2))
/-- _law_entries(v_script: script[int], v_draws: list[int], v_many: int) -> list[(int, int, int, (int, int), int)] -/
def t_law_entries (v_script : (List Int)) (v_draws : (List Int)) (v_many : Int) : Option ((List (Int × Int × Int × (Int × Int) × Int)) × List Int) :=
  Option.bind (t_law_cell v_script v_draws) fun y_1 =>
  tlet ((Int.fmod y_1.1 (((10 : Int) ^ 30)))) fun cell_2 =>
  Option.bind (t_law_take y_1.2 ((3 : Int))) fun y_3 =>
  Option.bind (tat ([(2 : Int), (4 : Int), (30 : Int)]) y_3.1) fun x_4 =>
  Option.bind (trg ((0 : Int)) v_many) fun r_5 =>
  Option.bind (α := ((List Int) × (List (Int × Int × Int × (Int × Int) × Int)))) (tfold (fun (k_13 : Int) (s_6 : ((List Int) × (List (Int × Int × Int × (Int × Int) × Int)))) => Option.bind (t_law_take s_6.1 ((5 : Int))) fun y_14 => Option.bind (t_law_take y_14.2 ((5 : Int))) fun y_15 => Option.bind (t_law_take y_15.2 ((13 : Int))) fun y_16 => Option.bind (tat ([(y_14.1 - (1 : Int)), (y_15.1 - (1 : Int)), cell_2]) ((min ((Int.fdiv y_16.1 ((6 : Int)))) ((2 : Int))))) fun x_17 => Option.bind (t_law_take y_16.2 x_4) fun y_18 => Option.bind (t_law_take y_18.2 x_4) fun y_19 => Option.bind (t_law_take y_19.2 ((2 : Int))) fun y_20 => Option.bind (t_law_take y_20.2 ((13 : Int))) fun y_21 => Option.bind (tat ([y_18.1, (y_19.1 - (2 : Int)), (cell_2 + y_20.1)]) ((min ((Int.fdiv y_21.1 ((6 : Int)))) ((2 : Int))))) fun x_22 => Option.bind (t_law_take y_21.2 x_4) fun y_23 => Option.bind (t_law_take y_23.2 x_4) fun y_24 => tlet ((y_23.1, (y_24.1 - (1 : Int)))) fun place_25 => Option.bind (t_law_take y_24.2 x_4) fun y_26 => Option.bind (t_law_take y_26.2 x_4) fun y_27 => Option.bind (t_law_take y_27.2 ((9 : Int))) fun y_28 => Option.bind (tat ([y_27.1, (-cell_2)]) ((if (decide (y_28.1 = (0 : Int))) = true then (1 : Int) else 0))) fun x_29 => tlet ((x_17, x_22, (y_26.1 - (1 : Int)), place_25, x_29)) fun entry_30 => Option.bind (if (decide (k_13 > (0 : Int))) = true then Option.bind (t_law_take y_28.2 ((4 : Int))) fun y_31 => some ((decide (y_31.1 = (0 : Int))), y_31.2) else some (false, y_28.2)) fun w_33 => Option.bind (α := ((Int × Int × Int × (Int × Int) × Int) × (List Int))) (if w_33.1 = true then (Option.bind (t_law_take w_33.2 ((5 : Int))) fun y_36 => tlet (((1 : Int) + y_36.1)) fun shared_37 => Option.bind (t_law_take y_36.2 k_13) fun y_38 => Option.bind (tat s_6.2 y_38.1) fun x_39 => tlet ((mix5 shared_37 x_39 entry_30)) fun entry_40 => some ((entry_40, y_38.2))) else (some ((entry_30, w_33.2)))) fun s_34 => Option.bind (tapp s_6.2 s_34.1) fun found_41 => some ((s_34.2, found_41))) r_5 ((y_3.2, ([] : (List (Int × Int × Int × (Int × Int) × Int)))))) fun s_42 =>
  some ((s_42.2, s_42.1))
/-- entries_by_event(v_entries: tuple[(int, int, int, (int, int), int)]) -> dict[int, (int, int, int, (int, int), int)] -/
def t_entries_by_event (v_entries : (List (Int × Int × Int × (Int × Int) × Int))) : Option (List (Int × (Int × Int × Int × (Int × Int) × Int))) :=
  Option.bind (α := (List (Int × (Int × Int × Int × (Int × Int) × Int)))) (tfold (fun (entry_3 : (Int × Int × Int × (Int × Int) × Int)) (s_1 : (List (Int × (Int × Int × Int × (Int × Int) × Int)))) => Option.bind (tdput s_1 entry_3.1 ((if (lx (fun a b : Int => decide (a < b)) (lx (fun a b : Int => decide (a < b)) (lx (fun a b : Int => decide (a < b)) (lx (lx (fun a b : Int => decide (a < b)) (fun a b : Int => decide (a < b))) (fun a b : Int => decide (a < b)))))) entry_3 (((dget s_1 entry_3.1).getD entry_3)) = true then (((dget s_1 entry_3.1).getD entry_3)) else entry_3))) fun d_4 => some d_4) v_entries (([] : (List (Int × (Int × Int × Int × (Int × Int) × Int)))))) fun s_5 =>
  some s_5
/-- bulletin_of(v_entries: tuple[(int, int, int, (int, int), int)]) -> tuple[(int, int, int, (int, int), int)] -/
def t_bulletin_of (v_entries : (List (Int × Int × Int × (Int × Int) × Int))) : Option (List (Int × Int × Int × (Int × Int) × Int)) :=
  Option.bind (t_entries_by_event v_entries) fun y_1 =>
  Option.bind (tmap (fun (event_2 : Int) => Option.bind (dget y_1 event_2) fun x_3 => some (x_3)) ((tsort (fun a b : Int => decide (a < b)) (dkeys y_1)))) fun l_4 =>
  some l_4
/-- _law_bulletin(v_entries: list[(int, int, int, (int, int), int)]) -> tuple[(int, int, int, (int, int), int)] -/
def t_law_bulletin (v_entries : (List (Int × Int × Int × (Int × Int) × Int))) : Option (List (Int × Int × Int × (Int × Int) × Int)) :=
  Option.bind (tsortU ((List.map (fun (entry_1 : (Int × Int × Int × (Int × Int) × Int)) => entry_1.1) v_entries))) fun u_2 =>
  Option.bind (α := (List (Int × Int × Int × (Int × Int) × Int))) (tfold (fun (event_10 : Int) (s_3 : (List (Int × Int × Int × (Int × Int) × Int))) => tlet ((List.map (fun (entry_11 : (Int × Int × Int × (Int × Int) × Int)) => entry_11) ((List.filter (fun (entry_11 : (Int × Int × Int × (Int × Int) × Int)) => (decide (entry_11.1 = event_10))) v_entries)))) fun rows_12 => Option.bind (tmax (fun a b : Int => decide (a < b)) ((List.map (fun (entry_13 : (Int × Int × Int × (Int × Int) × Int)) => entry_13.2.1) rows_12))) fun max_14 => tlet ((List.map (fun (entry_15 : (Int × Int × Int × (Int × Int) × Int)) => entry_15) ((List.filter (fun (entry_15 : (Int × Int × Int × (Int × Int) × Int)) => (decide (entry_15.2.1 = max_14))) rows_12)))) fun rows_16 => Option.bind (tmax (fun a b : Int => decide (a < b)) ((List.map (fun (entry_17 : (Int × Int × Int × (Int × Int) × Int)) => entry_17.2.2.1) rows_16))) fun max_18 => tlet ((List.map (fun (entry_19 : (Int × Int × Int × (Int × Int) × Int)) => entry_19) ((List.filter (fun (entry_19 : (Int × Int × Int × (Int × Int) × Int)) => (decide (entry_19.2.2.1 = max_18))) rows_16)))) fun rows_20 => Option.bind (tmax (lx (fun a b : Int => decide (a < b)) (fun a b : Int => decide (a < b))) ((List.map (fun (entry_21 : (Int × Int × Int × (Int × Int) × Int)) => entry_21.2.2.2.1) rows_20))) fun max_22 => Option.bind (tmax (fun a b : Int => decide (a < b)) ((List.map (fun (entry_23 : (Int × Int × Int × (Int × Int) × Int)) => entry_23.2.2.2.2) ((List.filter (fun (entry_23 : (Int × Int × Int × (Int × Int) × Int)) => (decide (entry_23.2.2.2.1 = max_22))) rows_20))))) fun max_24 => Option.bind (tapp s_3 ((event_10, max_14, max_18, max_22, max_24))) fun found_25 => some found_25) u_2 (([] : (List (Int × Int × Int × (Int × Int) × Int))))) fun s_26 =>
  some s_26
/-- _law_versions(v_entries: list[(int, int, int, (int, int), int)], v_event: int) -> tuple[int] -/
def t_law_versions (v_entries : (List (Int × Int × Int × (Int × Int) × Int))) (v_event : Int) : Option (List Int) :=
  Option.bind (α := (List Int)) (tfold (fun (entry_4 : (Int × Int × Int × (Int × Int) × Int)) (s_1 : (List Int)) => Option.bind (α := (List Int)) (if ((decide (entry_4.1 = v_event)) && (!(tin entry_4.2.1 s_1))) = true then (tlet ((List.length ((List.map (fun (version_7 : Int) => version_7) ((List.filter (fun (version_7 : Int) => (decide (version_7 < entry_4.2.1))) s_1)))) : Int)) fun at_8 => Option.bind (tins s_1 at_8 entry_4.2.1) fun a_9 => some a_9) else (some s_1)) fun s_5 => some s_5) v_entries (([] : (List Int)))) fun s_10 =>
  some s_10
/-- history_of(v_entries: tuple[(int, int, int, (int, int), int)], v_event: int) -> tuple[int] -/
def t_history_of (v_entries : (List (Int × Int × Int × (Int × Int) × Int))) (v_event : Int) : Option (List Int) :=
  Option.bind (tsortU ((List.map (fun (entry_1 : (Int × Int × Int × (Int × Int) × Int)) => entry_1.2.1) ((List.filter (fun (entry_1 : (Int × Int × Int × (Int × Int) × Int)) => (decide (entry_1.1 = v_event))) v_entries))))) fun u_2 =>
  some u_2
/-- _law_cancelled(v_draws: list[int], v_entries: list[(int, int, int, (int, int), int)], v_many: int) -> list[(int, int)] -/
def t_law_cancelled (v_draws : (List Int)) (v_entries : (List (Int × Int × Int × (Int × Int) × Int))) (v_many : Int) : Option ((List (Int × Int)) × List Int) :=
  Option.bind (trg ((0 : Int)) v_many) fun r_1 =>
  Option.bind (α := ((List Int) × (List (Int × Int)))) (tfold (fun (k_5 : Int) (s_2 : ((List Int) × (List (Int × Int)))) => Option.bind (if (decide ((List.length v_entries : Int) > (0 : Int))) = true then Option.bind (t_law_take s_2.1 ((5 : Int))) fun y_6 => some ((decide (y_6.1 > (0 : Int))), y_6.2) else some (false, s_2.1)) fun w_8 => Option.bind (α := ((List Int) × (List (Int × Int)))) (if w_8.1 = true then (Option.bind (t_law_take w_8.2 ((List.length v_entries : Int))) fun y_11 => Option.bind (tat v_entries y_11.1) fun x_12 => Option.bind (t_law_take y_11.2 ((3 : Int))) fun y_13 => Option.bind (tapp s_2.2 ((x_12.1, ((x_12.2.1 + y_13.1) - (1 : Int))))) fun found_14 => some ((y_13.2, found_14))) else (Option.bind (t_law_take w_8.2 ((9 : Int))) fun y_15 => Option.bind (t_law_take y_15.2 ((9 : Int))) fun y_16 => Option.bind (tapp s_2.2 (((y_15.1 - (3 : Int)), y_16.1))) fun found_17 => some ((y_16.2, found_17)))) fun s_9 => some ((s_9.1, s_9.2))) r_1 ((v_draws, ([] : (List (Int × Int)))))) fun s_18 =>
  some ((s_18.2, s_18.1))
/-- _law_left(v_entries: list[(int, int, int, (int, int), int)], v_cancelled: list[(int, int)]) -> tuple[(int, int, int, (int, int), int)] -/
def t_law_left (v_entries : (List (Int × Int × Int × (Int × Int) × Int))) (v_cancelled : (List (Int × Int))) : Option (List (Int × Int × Int × (Int × Int) × Int)) :=
  Option.bind (t_law_bulletin v_entries) fun y_1 =>
  Option.bind (α := (List (Int × Int × Int × (Int × Int) × Int))) (tfold (fun (entry_5 : (Int × Int × Int × (Int × Int) × Int)) (s_2 : (List (Int × Int × Int × (Int × Int) × Int))) => tlet ((List.map (fun (pair_6 : (Int × Int)) => pair_6) ((List.filter (fun (pair_6 : (Int × Int)) => ((decide (pair_6.1 = entry_5.1)) && (decide (pair_6.2 ≥ entry_5.2.1)))) v_cancelled)))) fun above_7 => Option.bind (α := (List (Int × Int × Int × (Int × Int) × Int))) (if (decide ((List.length above_7 : Int) = (0 : Int))) = true then (Option.bind (tapp s_2 entry_5) fun found_9 => some found_9) else (some s_2)) fun s_8 => some s_8) y_1 (([] : (List (Int × Int × Int × (Int × Int) × Int))))) fun s_10 =>
  some s_10
/-- bulletin_without(v_entries: tuple[(int, int, int, (int, int), int)], v_cancelled: tuple[(int, int)]) -> tuple[(int, int, int, (int, int), int)] -/
def t_bulletin_without (v_entries : (List (Int × Int × Int × (Int × Int) × Int))) (v_cancelled : (List (Int × Int))) : Option (List (Int × Int × Int × (Int × Int) × Int)) :=
  Option.bind (t_bulletin_of v_entries) fun y_1 =>
  Option.bind (α := (List (Int × Int × Int × (Int × Int) × Int))) (tfold (fun (entry_4 : (Int × Int × Int × (Int × Int) × Int)) (s_2 : (List (Int × Int × Int × (Int × Int) × Int))) => Option.bind (α := (List (Int × Int × Int × (Int × Int) × Int))) (if (!((List.any ((List.map (fun (e_5 : (Int × Int)) => ((decide (e_5.1 = entry_4.1)) && (decide (e_5.2 ≥ entry_4.2.1)))) v_cancelled)) id))) = true then (Option.bind (tapp s_2 entry_4) fun found_7 => some found_7) else (some s_2)) fun s_6 => some s_6) y_1 (([] : (List (Int × Int × Int × (Int × Int) × Int))))) fun s_8 =>
  some s_8
/-- is_bulletin(v_entries: tuple[(int, int, int, (int, int), int)]) -> bool -/
def t_is_bulletin (v_entries : (List (Int × Int × Int × (Int × Int) × Int))) : Option Bool :=
  Option.bind (t_bulletin_of v_entries) fun y_1 =>
  some ((decide (y_1 = v_entries)))
/-- _law_come_back(v_draws: list[int], v_entries: list[(int, int, int, (int, int), int)], v_cancelled: tuple[(int, int)], v_left: tuple[(int, int, int, (int, int), int)]) -> bool -/
def t_law_come_back (v_draws : (List Int)) (v_entries : (List (Int × Int × Int × (Int × Int) × Int))) (v_cancelled : (List (Int × Int))) (v_left : (List (Int × Int × Int × (Int × Int) × Int))) : Option (Bool × List Int) :=
  Option.bind (t_law_bulletin v_entries) fun y_1 =>
  Option.bind (α := Ex (Bool × (List Int)) (List Int)) (tforr (E := (Bool × (List Int))) (fun (entry_9 : (Int × Int × Int × (Int × Int) × Int)) (s_2 : (List Int)) => tlet ((List.map (fun (pair_10 : (Int × Int)) => pair_10.2) ((List.filter (fun (pair_10 : (Int × Int)) => (decide (pair_10.1 = entry_9.1))) v_cancelled)))) fun own_11 => Option.bind (tcat ([entry_9.2.1]) own_11) fun w_12 => Option.bind (tmax (fun a b : Int => decide (a < b)) w_12) fun max_13 => tlet ((((entry_9.1, (max_13 + (1 : Int)))).1, ((entry_9.1, (max_13 + (1 : Int)))).2, ((entry_9.2.2.1, entry_9.2.2.2.1, entry_9.2.2.2.2)).1, ((entry_9.2.2.1, entry_9.2.2.2.1, entry_9.2.2.2.2)).2.1, ((entry_9.2.2.1, entry_9.2.2.2.1, entry_9.2.2.2.2)).2.2)) fun back_14 => Option.bind (tcat v_entries ([back_14])) fun w_15 => Option.bind (t_bulletin_without w_15 v_cancelled) fun y_16 => if ((!true) || ((!(tin back_14 y_16)) || (decide ((List.length ((List.map (fun (one_17 : (Int × Int × Int × (Int × Int) × Int)) => one_17) ((List.filter (fun (one_17 : (Int × Int × Int × (Int × Int) × Int)) => ((!(decide (one_17.1 = entry_9.1))) && (!(tin one_17 y_16)))) v_left)))) : Int) > (0 : Int))))) = true then (some ((Ex.ex ((false, s_2))))) else Option.bind (t_law_take s_2 ((3 : Int))) fun y_18 => tlet ((((entry_9.1, ((entry_9.2.1 - (1 : Int)) - y_18.1))).1, ((entry_9.1, ((entry_9.2.1 - (1 : Int)) - y_18.1))).2, ((entry_9.2.2.1, entry_9.2.2.2.1, entry_9.2.2.2.2)).1, ((entry_9.2.2.1, entry_9.2.2.2.1, entry_9.2.2.2.2)).2.1, ((entry_9.2.2.1, entry_9.2.2.2.1, entry_9.2.2.2.2)).2.2)) fun older_19 => Option.bind (tcat v_entries ([older_19])) fun w_20 => Option.bind (t_bulletin_without w_20 v_cancelled) fun y_21 => Option.bind (tsame (okV (okP okA (okP okA (okP okA (okP (okP okA okA) okA))))) y_21 v_left) fun q_22 => if (!q_22) = true then (some ((Ex.ex ((false, y_18.2))))) else some (Ex.go y_18.2)) ((cut y_1 none (some ((4 : Int))))) v_draws) fun r_30 => Ex.cas r_30 (fun e => some e) fun s_23 =>
  some ((true, s_23))
/-- told_later(v_bulletin: tuple[(int, int, int, (int, int), int)], v_entry: (int, int, int, (int, int), int)) -> tuple[(int, int, int, (int, int), int)] -/
def t_told_later (v_bulletin : (List (Int × Int × Int × (Int × Int) × Int))) (v_entry : (Int × Int × Int × (Int × Int) × Int)) : Option (List (Int × Int × Int × (Int × Int) × Int)) :=
  Option.bind (tcat v_bulletin ([v_entry])) fun w_1 =>
  Option.bind (t_bulletin_of w_1) fun y_2 =>
  some y_2
/-- law(v_script: script[int]) -> bool -/
def t_law (v_script : (List Int)) : Option Bool :=
  Option.bind (t_law_draws v_script ((420 : Int))) fun y_1 =>
  Option.bind (t_law_take y_1 ((15 : Int))) fun y_2 =>
  Option.bind (t_law_entries v_script y_2.2 y_2.1) fun y_3 =>
  Option.bind (t_bulletin_of y_3.1) fun y_4 =>
  Option.bind (t_law_bulletin y_3.1) fun y_5 =>
  Option.bind (tsame (okV (okP okA (okP okA (okP okA (okP (okP okA okA) okA))))) y_4 y_5) fun q_6 =>
  if (!q_6) = true then (some false) else
  Option.bind (tcat ((List.map (fun (entry_7 : (Int × Int × Int × (Int × Int) × Int)) => entry_7.1) y_3.1)) ([(77 : Int)])) fun w_8 =>
  Option.bind (tsortU w_8) fun u_9 =>
  Option.bind (α := Ex Bool Unit) (tforr (E := Bool) (fun (event_14 : Int) (s_10 : Unit) => Option.bind (t_law_versions y_3.1 event_14) fun y_15 => Option.bind (t_history_of y_3.1 event_14) fun y_16 => Option.bind (tsame (okV okA) y_16 y_15) fun q_17 => Option.bind (if (!q_17) = true then some true else Option.bind (t_history_of ((List.reverse y_3.1)) event_14) fun y_18 => Option.bind (tsame (okV okA) y_18 y_15) fun q_19 => some ((!q_19))) fun w_20 => if w_20 = true then (some ((Ex.ex false))) else tlet ((List.map (fun (entry_21 : (Int × Int × Int × (Int × Int) × Int)) => entry_21) ((List.filter (fun (entry_21 : (Int × Int × Int × (Int × Int) × Int)) => (decide (entry_21.1 = event_14))) y_4)))) fun own_22 => Option.bind (if (!(decide ((decide ((List.length own_22 : Int) = (0 : Int))) = (decide (y_15 = ([] : (List Int))))))) = true then some true else Option.bind (if (decide ((List.length own_22 : Int) > (0 : Int))) = true then Option.bind (tat own_22 ((0 : Int))) fun x_23 => Option.bind (tat y_15 ((-1 : Int))) fun x_24 => some ((!(decide (x_23.2.1 = x_24)))) else some false) fun w_25 => some (w_25)) fun w_26 => if w_26 = true then (some ((Ex.ex false))) else some (Ex.go (()))) u_9 (())) fun r_86 => Ex.cas r_86 (fun e => some e) fun s_27 =>
  Option.bind (t_law_take y_3.2 ((3 : Int))) fun y_31 =>
  Option.bind (t_law_take y_31.2 ((8 : Int))) fun y_32 =>
  Option.bind (α := Ex Bool (List Int)) (tforr (E := Bool) (fun (many_39 : Int) (s_33 : (List Int)) => Option.bind (t_law_cancelled s_33 y_3.1 many_39) fun y_40 => Option.bind (t_law_left y_3.1 y_40.1) fun y_41 => Option.bind (t_bulletin_without y_3.1 y_40.1) fun y_42 => Option.bind (tsame (okV (okP okA (okP okA (okP okA (okP (okP okA okA) okA))))) y_42 y_41) fun q_43 => Option.bind (if (!q_43) = true then some true else Option.bind (t_is_bulletin y_41) fun y_44 => some ((!(decide (y_44 = true))))) fun w_45 => if w_45 = true then (some ((Ex.ex false))) else Option.bind (tcat ((List.reverse y_40.1)) ((cut y_40.1 none (some ((1 : Int)))))) fun w_46 => Option.bind (t_bulletin_without y_4 w_46) fun y_47 => Option.bind (tsame (okV (okP okA (okP okA (okP okA (okP (okP okA okA) okA))))) y_47 y_41) fun q_48 => if ((!q_48) || ((decide (many_39 = (0 : Int))) && (!(decide (y_41 = y_4))))) = true then (some ((Ex.ex false))) else Option.bind (t_law_cancelled y_40.2 y_3.1 ((1 : Int))) fun y_49 => Option.bind (tcat y_40.1 y_49.1) fun w_50 => Option.bind (t_bulletin_without y_3.1 w_50) fun y_51 => if ((!true) || (decide ((List.length ((List.map (fun (entry_52 : (Int × Int × Int × (Int × Int) × Int)) => entry_52) ((List.filter (fun (entry_52 : (Int × Int × Int × (Int × Int) × Int)) => (!(tin entry_52 y_41))) y_51)))) : Int) > (0 : Int)))) = true then (some ((Ex.ex false))) else Option.bind (t_law_come_back y_49.2 y_3.1 y_40.1 y_41) fun y_53 => if (!y_53.1) = true then (some ((Ex.ex false))) else Option.bind (α := Ex Bool Unit) (tforr (E := Bool) (fun (entry_56 : (Int × Int × Int × (Int × Int) × Int)) (s_54 : Unit) => Option.bind (t_told_later y_4 entry_56) fun y_57 => Option.bind (t_bulletin_without y_57 y_40.1) fun y_58 => Option.bind (tsame (okV (okP okA (okP okA (okP okA (okP (okP okA okA) okA))))) y_58 y_41) fun q_59 => if (!q_59) = true then (some ((Ex.ex false))) else some (Ex.go (()))) ((cut y_3.1 none (some ((2 : Int))))) (())) fun r_62 => Ex.cas r_62 (fun e => some ((Ex.ex e))) fun s_60 => some (Ex.go y_53.2)) ([(0 : Int), ((1 : Int) + y_31.1), y_32.1]) y_32.2) fun r_85 => Ex.cas r_85 (fun e => some e) fun s_63 =>
  tlet ((((7 : Int), (1 : Int), (2 : Int), ((0 : Int), (0 : Int)), (5 : Int)), ((3 : Int), (0 : Int), (1 : Int), ((1 : Int), (1 : Int)), (5 : Int)), ((7 : Int), (3 : Int), (1 : Int), ((9 : Int), (0 : Int)), (4 : Int)), ((7 : Int), (1 : Int), (1 : Int), ((9 : Int), (1 : Int)), (0 : Int)))) fun rows_69 =>
  Option.bind (t_history_of ([rows_69.1, rows_69.2.1, rows_69.2.2.1, rows_69.2.2.2]) ((7 : Int))) fun y_70 =>
  Option.bind (tsame (okV okA) y_70 ([(((1 : Int), (3 : Int))).1, (((1 : Int), (3 : Int))).2])) fun q_71 =>
  Option.bind (if (!q_71) = true then some true else Option.bind (t_history_of ([rows_69.1, rows_69.2.1, rows_69.2.2.1, rows_69.2.2.2]) ((4 : Int))) fun y_72 => Option.bind (tsame (okV okA) y_72 (([] : (List Int)))) fun q_73 => some ((!q_73))) fun w_74 =>
  if w_74 = true then (some false) else
  Option.bind (t_bulletin_without ([rows_69.1, rows_69.2.1, rows_69.2.2.1, rows_69.2.2.2]) ([((((7 : Int), (2 : Int)), ((3 : Int), (0 : Int)))).1, ((((7 : Int), (2 : Int)), ((3 : Int), (0 : Int)))).2])) fun y_75 =>
  Option.bind (tsame (okV (okP okA (okP okA (okP okA (okP (okP okA okA) okA))))) y_75 ([rows_69.2.2.1])) fun q_76 =>
  Option.bind (if (!q_76) = true then some true else Option.bind (t_bulletin_without ([rows_69.1, rows_69.2.1, rows_69.2.2.1, rows_69.2.2.2]) ([(((7 : Int), (3 : Int)))])) fun y_77 => Option.bind (tsame (okV (okP okA (okP okA (okP okA (okP (okP okA okA) okA))))) y_77 ([rows_69.2.1])) fun q_78 => some ((!q_78))) fun w_79 =>
  if w_79 = true then (some false) else
  Option.bind (t_bulletin_without (([] : (List (Int × Int × Int × (Int × Int) × Int)))) ([(((1 : Int), (1 : Int)))])) fun y_80 =>
  Option.bind (tsame (okV (okP okA (okP okA (okP okA (okP (okP okA okA) okA))))) y_80 (([] : (List (Int × Int × Int × (Int × Int) × Int))))) fun q_81 =>
  Option.bind (if q_81 = true then Option.bind (t_bulletin_of y_3.1) fun y_82 => Option.bind (tsame (okV (okP okA (okP okA (okP okA (okP (okP okA okA) okA))))) y_82 y_4) fun q_83 => some (q_83) else some false) fun w_84 =>
  some w_84
end LP
namespace LP
open PySem PySem.Spec PyProof.Rows L2 PF TL
theorem r_law_draws {v_script : (List Int)} {v_many : Int} {r : (List Int)} (h : t_law_draws v_script v_many = some r) : c_law_draws [(eK eI).e v_script, eI.e v_many] [] = some (.ref 0, [cl eI r]) := by
  unfold t_law_draws at h
  refine run_wp (f := b_law_draws) (n := 9) ?_
  refine w_add ?_
  refine w_assoc ?_
  obtain ⟨cells_2, h1, h⟩ := lbnd h
  refine w_setR (x_mutE (c := eI) (x_lc0 (cB := eI) (g := fun (cell_1 : Int) => cell_1) (i_sq (c := eI) (x_var rfl) s_K rfl) chk_0 (fun cell_1 => ⟨_, rfl, x_b (x_cons (x_var rfl) (x_nil)) (b_int _)⟩)) h1) ?_
  refine w_assoc ?_
  obtain ⟨s_3, hs, h⟩ := bnd h
  refine w_cut (fun ρ M => ρ = [some ((eK eI).e v_script), some (eI.e v_many), some (.ref 0), none, none, none, none, none, none] ∧ M = [cl eI s_3]) (w_ifT (x_f2T (x_b (x_cons (x_var rfl) (x_nil)) (b_len (c := eI) (s_R rfl))) (x_int _) (c_eq (c := eI) (v_ec _ _) (v_ec _ _))) hs (fun h => ?_) (fun h => ?_)) ?_
  · obtain ⟨cells_4, h3, h⟩ := bnd h
    refine w_drop (x_m (c := eI) (xs := cells_2) (x_var rfl) rfl (x_cons (x_int _) (x_nil)) (m_app rfl h3 rfl)) ?_
    obtain rfl := Option.some.inj h
    exact w_endC ⟨rfl, rfl⟩
  · refine w_next ?_
    obtain rfl := Option.some.inj h
    exact w_endC ⟨rfl, rfl⟩
  · rintro _ _ ⟨rfl, rfl⟩
    refine w_assoc ?_
    refine w_setR (x_mut (c := eI) (x_bN (x_cons (x_var rfl) (x_nil)) (n_list (c := eI) (s_R rfl)))) ?_
    refine w_assoc ?_
    refine w_setR (x_mut (c := eN) (x_lst (c := eN) ([] : List Unit) (x_nil) rfl rfl)) ?_
    refine w_assoc ?_
    obtain ⟨r_5, h4, h⟩ := bnd h
    obtain ⟨s_25, hs, h⟩ := bnd h
    refine w_fold (fun (s_6 : ((List Int) × (List Int))) ρ M => ∃ j_7 : Option D, ∃ j_8 : Option D, ∃ j_9 : Option D, ρ = [some ((eK eI).e v_script), some (eI.e v_many), some (.ref 0), none, some (.ref 1), some (.ref 2), j_7, j_8, j_9] ∧ M = [cl eI s_3, cl eI s_6.1, cl eI s_6.2]) (cA := eI) (s := (s_3, ([] : (List Int)))) (i_rg1 (x_cons (x_var rfl) (x_nil)) h4) hs ⟨_, _, _, rfl, rfl⟩ (fun _ _ _ _ => chk_0) ?_ ?_
    · rintro k_10 s_6 _ _ _ h ⟨j_7, j_8, j_9, rfl, rfl⟩
      refine w_stp rfl ?_
      refine w_add ?_
      refine w_assoc ?_
      obtain ⟨m_11, h6, h⟩ := bnd h
      refine w_set (c := eI) (x_f2 (x_var rfl) (x_b (x_cons (x_var rfl) (x_nil)) (b_len (c := eI) (s_R rfl))) (g_mod h6)) ?_
      obtain ⟨x_12, h7, h⟩ := bnd h
      obtain ⟨w_14, h9, h⟩ := bnd h
      obtain ⟨s_15, hs, h⟩ := bnd h
      refine w_cut (fun ρ M => ∃ j_16 : Option D, ρ = [some ((eK eI).e v_script), some (eI.e v_many), some (.ref 0), none, some (.ref 1), some (.ref 2), some (eI.e k_10), some (eI.e m_11), j_16] ∧ M = [cl eI s_3, cl eI s_15.1, cl eI s_15.2]) (w_ifT (k_andM (x_f2T (x_f2 (x_var rfl) (x_var rfl) (g_at (c := eI) (s_R rfl) h7)) (x_f2 (x_int _) (x_int _) (g_powL (by decide) rfl)) (c_int _)) h9 (fun h => by obtain ⟨x_13, h8, h⟩ := bnd h; obtain rfl := Option.some.inj h; exact x_f2T (x_f2 (x_var rfl) (x_var rfl) (g_at (c := eI) (s_R rfl) h8)) (x_int _) (c_int _))) hs (fun h => ?_) (fun h => ?_)) ?_
      · refine w_assoc ?_
        obtain ⟨x_17, h11, h⟩ := bnd h
        obtain ⟨draws_18, h12, h⟩ := bnd h
        refine w_drop (x_m (c := eI) (xs := s_6.2) (x_var rfl) rfl (x_cons (x_f2 (x_b (x_cons (x_f2 (x_var rfl) (x_var rfl) (g_at (c := eI) (s_R rfl) h11)) (x_nil)) (b_int _)) (x_int _) (g_modL (by decide))) (x_nil)) (m_app rfl h12 rfl)) ?_
        obtain ⟨x_19, h13, h⟩ := bnd h
        obtain ⟨a_20, h14, h⟩ := bnd h
        refine w_setIx (c := eI) (x_f2 (x_f2 (x_var rfl) (x_var rfl) (g_at (c := eI) (s_R rfl) h13)) (x_int _) (g_divL (by decide) (by decide))) (x_var rfl) (x_var rfl) rfl h14 ?_
        obtain rfl := Option.some.inj h
        exact w_endC ⟨_, rfl, rfl⟩
      · refine w_assoc ?_
        obtain ⟨x_21, h15, h⟩ := bnd h
        obtain ⟨mingled_22, h16, h⟩ := lbnd h
        refine w_setE (c := eI) (x_f2 (x_b (x_cons (x_f2 (x_f2 (x_f2 (x_f2 (x_var rfl) (x_var rfl) (g_at (c := eI) (s_R rfl) h15)) (x_int _) (g_mulR (by decide))) (x_f2 (x_var rfl) (x_int _) (g_mulR (by decide))) (g_add _ _)) (x_int _) (g_add _ _)) (x_nil)) (b_int _)) (x_int _) (g_modL (by decide))) h16 ?_
        obtain ⟨m_23, h17, h⟩ := bnd h
        obtain ⟨draws_24, h18, h⟩ := bnd h
        refine w_drop (x_m (c := eI) (xs := s_6.2) (x_var rfl) rfl (x_cons (x_f2 (x_b (x_cons (x_f2 (x_f2 (x_f2 (x_var rfl) (x_var rfl) (g_mul h17)) (x_f2 (x_int _) (x_var rfl) (g_mulL (by decide))) (g_add _ _)) (x_var rfl) (g_add _ _)) (x_nil)) (b_int _)) (x_int _) (g_modL (by decide))) (x_nil)) (m_app rfl h18 rfl)) ?_
        obtain rfl := Option.some.inj h
        exact w_endC ⟨_, rfl, rfl⟩
      · rintro _ _ ⟨j_16, rfl, rfl⟩
        obtain rfl := Option.some.inj h
        exact w_end (e_0 ⟨_, _, _, rfl, rfl⟩)
    · rintro _ _ ⟨j_26, j_27, j_28, rfl, rfl⟩
      refine w_assoc ?_
      refine w_drop (x_m (c := eI) (x_var rfl) rfl x_nil (m_rev rfl rfl)) ?_
      obtain rfl := Option.some.inj h
      refine w_ret (x_var rfl) ?_
      exact f_m0 rfl
theorem r_law_take {v_draws : (List Int)} {v_many : Int} {r : (Int × List Int)} (h : t_law_take v_draws v_many = some r) : c_law_take [.ref 0, eI.e v_many] [cl eI v_draws] = some (eI.e r.1, [cl eI r.2]) := by
  unfold t_law_take at h
  refine run_wp (f := b_law_take) (n := 2) ?_
  refine w_add ?_
  refine w_assoc ?_
  refine w_ifT (x_f2T (x_b (x_cons (x_var rfl) (x_nil)) (b_len (c := eI) (s_R rfl))) (x_int _) (c_eq (c := eI) (v_ec _ _) (v_ec _ _))) h (fun h => ?_) (fun h => ?_)
  · obtain rfl := Option.some.inj h
    refine w_ret (x_int _) ?_
    exact f_v1 eI _
  · refine w_next ?_
    obtain ⟨p_1, h1, h⟩ := bnd h
    obtain ⟨m_2, h2, h⟩ := bnd h
    obtain rfl := Option.some.inj h
    refine w_ret (x_f2 (x_b (x_cons (x_m (c := eI) (x_var rfl) rfl x_nil (m_pop rfl h1 rfl)) (x_nil)) (b_int _)) (x_var rfl) (g_mod h2)) ?_
    exact f_v1 eI _
theorem r_law_cell {v_script : (List Int)} {v_draws : (List Int)} {r : (Int × List Int)} (h : t_law_cell v_script v_draws = some r) : c_law_cell [(eK eI).e v_script, .ref 0] [cl eI v_draws] = some (eI.e r.1, [cl eI r.2]) := by
  unfold t_law_cell at h
  refine run_wp (f := b_law_cell) (n := 3) ?_
  refine w_add ?_
  refine w_assoc ?_
  refine w_ifT (x_f2T (x_b (x_cons (x_var rfl) (x_nil)) (b_len (c := eI) s_K)) (x_int _) (c_eq (c := eI) (v_ec _ _) (v_ec _ _))) h (fun h => ?_) (fun h => ?_)
  · obtain rfl := Option.some.inj h
    refine w_ret (x_int _) ?_
    exact f_v1 eI _
  · refine w_next ?_
    refine w_assoc ?_
    obtain ⟨y_1, h1, h⟩ := bnd h
    obtain ⟨x_2, h2, h⟩ := bnd h
    refine w_set (c := eI) (x_b (x_cons (x_f2 (x_var rfl) (x_callS (x_cons (x_var rfl) (x_cons (x_b (x_cons (x_var rfl) (x_nil)) (b_len (c := eI) s_K)) (x_nil))) (p_s (cR := eI) (c := eI) rfl rfl (av_c eN () (av_c _ _ (av_nil))) (r_law_take h1) rfl)) (g_at (c := eI) s_K h2)) (x_nil)) (b_int _)) ?_
    obtain ⟨x_3, h3, h⟩ := bnd h
    obtain ⟨m_4, h4, h⟩ := bnd h
    obtain rfl := Option.some.inj h
    refine w_ret (x_f2 (x_f2 (x_b (x_cons (x_var rfl) (x_nil)) (b_abs _)) (x_f2 (x_int _) (x_int _) (g_powL (by decide) rfl)) (g_modL (by decide))) (x_f2 (x_fz (c := eI) (x_lst (c := eI) [(1 : Int), (-1 : Int)] (x_cons (x_int _) (x_cons (x_f1 (x_int _) (g_neg _)) (x_nil))) rfl rfl)) (x_b (x_cons (x_f2 (x_var rfl) (x_int _) (g_B (c_int _))) (x_nil)) (b_intb _)) (g_at (c := eI) s_L h3)) (g_mul h4)) ?_
    exact f_v1 eI _
theorem r_law_entries {v_script : (List Int)} {v_draws : (List Int)} {v_many : Int} {r : ((List (Int × Int × Int × (Int × Int) × Int)) × List Int)} (h : t_law_entries v_script v_draws v_many = some r) : c_law_entries [(eK eI).e v_script, .ref 0, eI.e v_many] [cl eI v_draws] = some ((eL (e5 eI eI eI (e2 eI eI) eI)).e r.1, [cl eI r.2]) := by
  unfold t_law_entries at h
  refine run_wp (f := b_law_entries) (n := 12) ?_
  refine w_add ?_
  refine w_assoc ?_
  obtain ⟨y_1, h1, h⟩ := bnd h
  obtain ⟨cell_2, h2, h⟩ := lbnd h
  refine w_setE (c := eI) (x_f2 (x_b (x_cons (x_callS (x_cons (x_var rfl) (x_cons (x_var rfl) (x_nil))) (p_s (cR := eI) (c := eI) rfl rfl (av_c _ _ (av_c eN () (av_nil))) (r_law_cell h1) rfl)) (x_nil)) (b_int _)) (x_f2 (x_int _) (x_int _) (g_powL (by decide) rfl)) (g_modL (by decide))) h2 ?_
  refine w_assoc ?_
  obtain ⟨y_3, h3, h⟩ := bnd h
  obtain ⟨x_4, h4, h⟩ := bnd h
  refine w_set (c := eI) (x_f2 (x_fz (c := eI) (x_lst (c := eI) [(2 : Int), (4 : Int), (30 : Int)] (x_cons (x_int _) (x_cons (x_int _) (x_cons (x_int _) (x_nil)))) rfl rfl)) (x_callS (x_cons (x_var rfl) (x_cons (x_int _) (x_nil))) (p_s (cR := eI) (c := eI) rfl rfl (av_c eN () (av_c _ _ (av_nil))) (r_law_take h3) rfl)) (g_at (c := eI) s_L h4)) ?_
  refine w_assoc ?_
  refine w_setR (x_mut (c := eN) (x_lst (c := eN) ([] : List Unit) (x_nil) rfl rfl)) ?_
  change WP _ [some ((eK eI).e v_script), some (.ref 0), some (eI.e v_many), some (eI.e cell_2), some (eI.e x_4), some (.ref 1), none, none, none, none, none, none] _ _
  refine w_assoc ?_
  obtain ⟨r_5, h5, h⟩ := bnd h
  obtain ⟨s_42, hs, h⟩ := bnd h
  refine w_fold (fun (s_6 : ((List Int) × (List (Int × Int × Int × (Int × Int) × Int)))) ρ M => ∃ j_7 : Option D, ∃ j_8 : Option D, ∃ j_9 : Option D, ∃ j_10 : Option D, ∃ j_11 : Option D, ∃ j_12 : Option D, ρ = [some ((eK eI).e v_script), some (.ref 0), some (eI.e v_many), some (eI.e cell_2), some (eI.e x_4), some (.ref 1), j_7, j_8, j_9, j_10, j_11, j_12] ∧ M = [cl eI s_6.1, cl (e5 eI eI eI (e2 eI eI) eI) s_6.2]) (cA := eI) (s := (y_3.2, ([] : (List (Int × Int × Int × (Int × Int) × Int))))) (i_rg1 (x_cons (x_var rfl) (x_nil)) h5) hs ⟨_, _, _, _, _, _, rfl, rfl⟩ (fun _ _ _ _ => chk_0) ?_ ?_
  · rintro k_13 s_6 _ _ _ h ⟨j_7, j_8, j_9, j_10, j_11, j_12, rfl, rfl⟩
    refine w_stp rfl ?_
    refine w_add ?_
    refine w_assoc ?_
    obtain ⟨y_14, h7, h⟩ := bnd h
    obtain ⟨y_15, h8, h⟩ := bnd h
    obtain ⟨y_16, h9, h⟩ := bnd h
    obtain ⟨x_17, h10, h⟩ := bnd h
    refine w_set (c := eI) (x_f2 (x_fz (c := eI) (x_lst (c := eI) [(y_14.1 - (1 : Int)), (y_15.1 - (1 : Int)), cell_2] (x_cons (x_f2 (x_callS (x_cons (x_var rfl) (x_cons (x_int _) (x_nil))) (p_s (cR := eI) (c := eI) rfl rfl (av_c eN () (av_c _ _ (av_nil))) (r_law_take h7) rfl)) (x_int _) (g_sub _ _)) (x_cons (x_f2 (x_callS (x_cons (x_var rfl) (x_cons (x_int _) (x_nil))) (p_s (cR := eI) (c := eI) rfl rfl (av_c eN () (av_c _ _ (av_nil))) (r_law_take h8) rfl)) (x_int _) (g_sub _ _)) (x_cons (x_var rfl) (x_nil)))) rfl rfl)) (x_b (x_cons (x_f2 (x_callS (x_cons (x_var rfl) (x_cons (x_int _) (x_nil))) (p_s (cR := eI) (c := eI) rfl rfl (av_c eN () (av_c _ _ (av_nil))) (r_law_take h9) rfl)) (x_int _) (g_divL (by decide) (by decide))) (x_cons (x_int _) (x_nil))) (b_min2 _ _)) (g_at (c := eI) s_L h10)) ?_
    refine w_assoc ?_
    obtain ⟨y_18, h11, h⟩ := bnd h
    obtain ⟨y_19, h12, h⟩ := bnd h
    obtain ⟨y_20, h13, h⟩ := bnd h
    obtain ⟨y_21, h14, h⟩ := bnd h
    obtain ⟨x_22, h15, h⟩ := bnd h
    refine w_set (c := eI) (x_f2 (x_fz (c := eI) (x_lst (c := eI) [y_18.1, (y_19.1 - (2 : Int)), (cell_2 + y_20.1)] (x_cons (x_callS (x_cons (x_var rfl) (x_cons (x_var rfl) (x_nil))) (p_s (cR := eI) (c := eI) rfl rfl (av_c eN () (av_c _ _ (av_nil))) (r_law_take h11) rfl)) (x_cons (x_f2 (x_callS (x_cons (x_var rfl) (x_cons (x_var rfl) (x_nil))) (p_s (cR := eI) (c := eI) rfl rfl (av_c eN () (av_c _ _ (av_nil))) (r_law_take h12) rfl)) (x_int _) (g_sub _ _)) (x_cons (x_f2 (x_var rfl) (x_callS (x_cons (x_var rfl) (x_cons (x_int _) (x_nil))) (p_s (cR := eI) (c := eI) rfl rfl (av_c eN () (av_c _ _ (av_nil))) (r_law_take h13) rfl)) (g_add _ _)) (x_nil)))) rfl rfl)) (x_b (x_cons (x_f2 (x_callS (x_cons (x_var rfl) (x_cons (x_int _) (x_nil))) (p_s (cR := eI) (c := eI) rfl rfl (av_c eN () (av_c _ _ (av_nil))) (r_law_take h14) rfl)) (x_int _) (g_divL (by decide) (by decide))) (x_cons (x_int _) (x_nil))) (b_min2 _ _)) (g_at (c := eI) s_L h15)) ?_
    refine w_assoc ?_
    obtain ⟨y_23, h16, h⟩ := bnd h
    obtain ⟨y_24, h17, h⟩ := bnd h
    obtain ⟨place_25, h18, h⟩ := lbnd h
    refine w_setE (c := (e2 eI eI)) (x_tup2 (x_cons (x_callS (x_cons (x_var rfl) (x_cons (x_var rfl) (x_nil))) (p_s (cR := eI) (c := eI) rfl rfl (av_c eN () (av_c _ _ (av_nil))) (r_law_take h16) rfl)) (x_cons (x_f2 (x_callS (x_cons (x_var rfl) (x_cons (x_var rfl) (x_nil))) (p_s (cR := eI) (c := eI) rfl rfl (av_c eN () (av_c _ _ (av_nil))) (r_law_take h17) rfl)) (x_int _) (g_sub _ _)) (x_nil)))) h18 ?_
    change WP _ [some ((eK eI).e v_script), some (.ref 0), some (eI.e v_many), some (eI.e cell_2), some (eI.e x_4), some (.ref 1), some (eI.e k_13), some (eI.e x_17), some (eI.e x_22), some ((e2 eI eI).e place_25), j_11, j_12] _ _
    refine w_assoc ?_
    obtain ⟨y_26, h19, h⟩ := bnd h
    obtain ⟨y_27, h20, h⟩ := bnd h
    obtain ⟨y_28, h21, h⟩ := bnd h
    obtain ⟨x_29, h22, h⟩ := bnd h
    obtain ⟨entry_30, h23, h⟩ := lbnd h
    refine w_setE (c := (e5 eI eI eI (e2 eI eI) eI)) (x_tup5 (x_cons (x_var rfl) (x_cons (x_var rfl) (x_cons (x_f2 (x_callS (x_cons (x_var rfl) (x_cons (x_var rfl) (x_nil))) (p_s (cR := eI) (c := eI) rfl rfl (av_c eN () (av_c _ _ (av_nil))) (r_law_take h19) rfl)) (x_int _) (g_sub _ _)) (x_cons (x_var rfl) (x_cons (x_f2 (x_fz (c := eI) (x_lst (c := eI) [y_27.1, (-cell_2)] (x_cons (x_callS (x_cons (x_var rfl) (x_cons (x_var rfl) (x_nil))) (p_s (cR := eI) (c := eI) rfl rfl (av_c eN () (av_c _ _ (av_nil))) (r_law_take h20) rfl)) (x_cons (x_f1 (x_var rfl) (g_neg _)) (x_nil))) rfl rfl)) (x_b (x_cons (x_f2 (x_callS (x_cons (x_var rfl) (x_cons (x_int _) (x_nil))) (p_s (cR := eI) (c := eI) rfl rfl (av_c eN () (av_c _ _ (av_nil))) (r_law_take h21) rfl)) (x_int _) (g_B (c_eq (c := eI) (v_ec _ _) (v_ec _ _)))) (x_nil)) (b_intb _)) (g_at (c := eI) s_L h22)) (x_nil))))))) h23 ?_
    refine w_assoc ?_
    obtain ⟨w_33, h25, h⟩ := bnd h
    obtain ⟨s_34, hs, h⟩ := bnd h
    refine w_cut (fun ρ M => ∃ j_35 : Option D, ρ = [some ((eK eI).e v_script), some (.ref 0), some (eI.e v_many), some (eI.e cell_2), some (eI.e x_4), some (.ref 1), some (eI.e k_13), some (eI.e x_17), some (eI.e x_22), some ((e2 eI eI).e place_25), some ((e5 eI eI eI (e2 eI eI) eI).e s_34.1), j_35] ∧ M = [cl eI s_34.2, cl (e5 eI eI eI (e2 eI eI) eI) s_6.2]) (w_ifT (k_andS (S := (List Int)) (s0 := y_28.2) (r := w_33) (fun (s_32 : (List Int)) => [cl eI s_32, cl (e5 eI eI eI (e2 eI eI) eI) s_6.2]) (x_f2T (x_var rfl) (x_int _) (c_int _)) h25 (fun h => by obtain ⟨y_31, h24, h⟩ := bnd h; obtain rfl := Option.some.inj h; exact x_f2T (x_callS (x_cons (x_var rfl) (x_cons (x_int _) (x_nil))) (p_s (cR := eI) (c := eI) rfl rfl (av_c eN () (av_c _ _ (av_nil))) (r_law_take h24) rfl)) (x_int _) (c_eq (c := eI) (v_ec _ _) (v_ec _ _)))) hs (fun h => ?_) (fun h => ?_)) ?_
    · refine w_assoc ?_
      obtain ⟨y_36, h27, h⟩ := bnd h
      obtain ⟨shared_37, h28, h⟩ := lbnd h
      refine w_setE (c := eI) (x_f2 (x_int _) (x_callS (x_cons (x_var rfl) (x_cons (x_int _) (x_nil))) (p_s (cR := eI) (c := eI) rfl rfl (av_c eN () (av_c _ _ (av_nil))) (r_law_take h27) rfl)) (g_add _ _)) h28 ?_
      obtain ⟨y_38, h29, h⟩ := bnd h
      obtain ⟨x_39, h30, h⟩ := bnd h
      obtain ⟨entry_40, h31, h⟩ := lbnd h
      refine w_setE (c := (e5 eI eI eI (e2 eI eI) eI)) (x_mix5 (x_f2 (x_var rfl) (x_callS (x_cons (x_var rfl) (x_cons (x_var rfl) (x_nil))) (p_s (cR := eI) (c := eI) rfl rfl (av_c eN () (av_c _ _ (av_nil))) (r_law_take h29) rfl)) (g_at (c := (e5 eI eI eI (e2 eI eI) eI)) (s_R rfl) h30)) (x_var rfl) (x_var rfl) (x_var rfl)) h31 ?_
      change WP _ [some ((eK eI).e v_script), some (.ref 0), some (eI.e v_many), some (eI.e cell_2), some (eI.e x_4), some (.ref 1), some (eI.e k_13), some (eI.e x_17), some (eI.e x_22), some ((e2 eI eI).e place_25), some ((e5 eI eI eI (e2 eI eI) eI).e entry_40), some (eI.e shared_37)] _ _
      obtain rfl := Option.some.inj h
      exact w_endC ⟨_, rfl, rfl⟩
    · refine w_next ?_
      obtain rfl := Option.some.inj h
      exact w_endC ⟨_, rfl, rfl⟩
    · rintro _ _ ⟨j_35, rfl, rfl⟩
      obtain ⟨found_41, h32, h⟩ := bnd h
      refine w_drop (x_m (c := (e5 eI eI eI (e2 eI eI) eI)) (xs := s_6.2) (x_var rfl) rfl (x_cons (x_var rfl) (x_nil)) (m_app rfl h32 rfl)) ?_
      obtain rfl := Option.some.inj h
      exact w_end (e_0 ⟨_, _, _, _, _, _, rfl, rfl⟩)
  · rintro _ _ ⟨j_43, j_44, j_45, j_46, j_47, j_48, rfl, rfl⟩
    obtain rfl := Option.some.inj h
    refine w_ret (x_var rfl) ?_
    exact f_r1 (mo := cl (e5 eI eI eI (e2 eI eI) eI) s_42.2) rfl rfl
theorem r_entries_by_event {v_entries : (List (Int × Int × Int × (Int × Int) × Int))} {r : (List (Int × (Int × Int × Int × (Int × Int) × Int)))} (h : t_entries_by_event v_entries = some r) : centries_by_event [(eV (e5 eI eI eI (e2 eI eI) eI)).e v_entries] [] = some ((eM eI (e5 eI eI eI (e2 eI eI) eI)).e r, []) := by
  unfold t_entries_by_event at h
  refine run_wp (f := bentries_by_event) (n := 3) ?_
  refine w_add ?_
  refine w_assoc ?_
  refine w_setR (x_dmut (c := eN) (v := eN) (m := ([] : List (Unit × Unit))) (x_dnil)) ?_
  refine w_assoc ?_
  obtain ⟨s_5, hs, h⟩ := bnd h
  refine w_fold (fun (s_1 : (List (Int × (Int × Int × Int × (Int × Int) × Int)))) ρ M => ∃ j_2 : Option D, ρ = [some ((eV (e5 eI eI eI (e2 eI eI) eI)).e v_entries), some (.ref 0), j_2] ∧ M = [cd eI (e5 eI eI eI (e2 eI eI) eI) s_1]) (cA := (e5 eI eI eI (e2 eI eI) eI)) (s := ([] : (List (Int × (Int × Int × Int × (Int × Int) × Int))))) (i_sq (c := (e5 eI eI eI (e2 eI eI) eI)) (x_var rfl) s_V rfl) hs ⟨_, rfl, rfl⟩ (fun _ _ _ _ => chk_0) ?_ ?_
  · rintro entry_3 s_1 _ _ _ h ⟨j_2, rfl, rfl⟩
    refine w_stp rfl ?_
    refine w_add ?_
    obtain ⟨d_4, h2, h⟩ := bnd h
    refine w_dset (c := eI) (v := (e5 eI eI eI (e2 eI eI) eI)) (m := s_1) (x_b (x_cons (x_var rfl) (x_cons (x_dget2 (c := eI) (v := (e5 eI eI eI (e2 eI eI) eI)) (x_var rfl) (k_R rfl) (x_f2 (x_var rfl) (x_int _) (g_ix at0)) (x_var rfl) (k_R rfl)) (x_nil))) (b_max2D (c := (e5 eI eI eI (e2 eI eI) eI)) _ _)) (x_var rfl) (x_f2 (x_var rfl) (x_int _) (g_ix at0)) rfl h2 ?_
    obtain rfl := Option.some.inj h
    exact w_end (e_0 ⟨_, rfl, rfl⟩)
  · rintro _ _ ⟨j_6, rfl, rfl⟩
    obtain rfl := Option.some.inj h
    refine w_ret (x_var rfl) ?_
    exact f_r0 (mo := cd eI (e5 eI eI eI (e2 eI eI) eI) s_5) rfl
theorem r_bulletin_of {v_entries : (List (Int × Int × Int × (Int × Int) × Int))} {r : (List (Int × Int × Int × (Int × Int) × Int))} (h : t_bulletin_of v_entries = some r) : cbulletin_of [(eV (e5 eI eI eI (e2 eI eI) eI)).e v_entries] [] = some ((eV (e5 eI eI eI (e2 eI eI) eI)).e r, []) := by
  unfold t_bulletin_of at h
  refine run_wp (f := bbulletin_of) (n := 3) ?_
  refine w_add ?_
  refine w_assoc ?_
  obtain ⟨y_1, h1, h⟩ := bnd h
  refine w_set (c := (eM eI (e5 eI eI eI (e2 eI eI) eI))) (x_call (x_cons (x_var rfl) (x_nil)) (p_v (cR := (eM eI (e5 eI eI eI (e2 eI eI) eI))) (av_c _ _ (av_nil)) (r_entries_by_event h1))) ?_
  obtain ⟨l_4, h3, h⟩ := bnd h
  obtain rfl := Option.some.inj h
  refine w_ret (x_b (x_cons (x_fz (c := (e5 eI eI eI (e2 eI eI) eI)) (x_lcM (cB := (e5 eI eI eI (e2 eI eI) eI)) (i_sq (c := eI) (x_fz (c := eI) (x_bN (x_cons (x_var rfl) (x_nil)) (n_sortX (c := eI) (v := (e5 eI eI eI (e2 eI eI) eI)) k_M))) s_L rfl) chk_0 h3 (fun event_2 => ⟨_, rfl, fun _ h => by obtain ⟨x_3, h2, h⟩ := bnd h; obtain rfl := Option.some.inj h; exact x_f2 (x_var rfl) (x_var rfl) (g_dget (c := eI) (v := (e5 eI eI eI (e2 eI eI) eI)) k_M h2)⟩))) (x_nil)) (b_tuple (c := (e5 eI eI eI (e2 eI eI) eI)) s_L)) ?_
  exact f_v0 (eV (e5 eI eI eI (e2 eI eI) eI)) _
theorem r_law_bulletin {v_entries : (List (Int × Int × Int × (Int × Int) × Int))} {r : (List (Int × Int × Int × (Int × Int) × Int))} (h : t_law_bulletin v_entries = some r) : c_law_bulletin [(eL (e5 eI eI eI (e2 eI eI) eI)).e v_entries] [] = some ((eV (e5 eI eI eI (e2 eI eI) eI)).e r, []) := by
  unfold t_law_bulletin at h
  refine run_wp (f := b_law_bulletin) (n := 9) ?_
  refine w_add ?_
  refine w_assoc ?_
  refine w_setR (x_mut (c := eN) (x_lst (c := eN) ([] : List Unit) (x_nil) rfl rfl)) ?_
  refine w_assoc ?_
  obtain ⟨u_2, h1, h⟩ := bnd h
  obtain ⟨s_26, hs, h⟩ := bnd h
  refine w_fold (fun (s_3 : (List (Int × Int × Int × (Int × Int) × Int))) ρ M => ∃ j_4 : Option D, ∃ j_5 : Option D, ∃ j_6 : Option D, ∃ j_7 : Option D, ∃ j_8 : Option D, ∃ j_9 : Option D, ρ = [some ((eL (e5 eI eI eI (e2 eI eI) eI)).e v_entries), some (.ref 0), j_4, none, j_5, j_6, j_7, j_8, j_9] ∧ M = [cl (e5 eI eI eI (e2 eI eI) eI) s_3]) (cA := eI) (s := ([] : (List (Int × Int × Int × (Int × Int) × Int)))) (i_sq (c := eI) (x_fz (c := eI) (x_bN (x_cons (x_fz (c := eI) (x_lc0 (cB := eI) (g := fun (entry_1 : (Int × Int × Int × (Int × Int) × Int)) => entry_1.1) (i_sq (c := (e5 eI eI eI (e2 eI eI) eI)) (x_var rfl) s_L rfl) chk_0 (fun entry_1 => ⟨_, rfl, x_f2 (x_var rfl) (x_int _) (g_ix at0)⟩))) (x_nil)) (n_sortU s_L h1))) s_L rfl) hs ⟨_, _, _, _, _, _, rfl, rfl⟩ (fun _ _ _ _ => chk_0) ?_ ?_
  · rintro event_10 s_3 _ _ _ h ⟨j_4, j_5, j_6, j_7, j_8, j_9, rfl, rfl⟩
    refine w_stp rfl ?_
    refine w_add ?_
    refine w_assoc ?_
    obtain ⟨rows_12, h3, h⟩ := lbnd h
    refine w_setE (c := (eL (e5 eI eI eI (e2 eI eI) eI))) (x_fz (c := (e5 eI eI eI (e2 eI eI) eI)) (x_lc0f (cB := (e5 eI eI eI (e2 eI eI) eI)) (p := fun (entry_11 : (Int × Int × Int × (Int × Int) × Int)) => (decide (entry_11.1 = event_10))) (g := fun (entry_11 : (Int × Int × Int × (Int × Int) × Int)) => entry_11) (i_sq (c := (e5 eI eI eI (e2 eI eI) eI)) (x_var rfl) s_L rfl) chk_0 (fun entry_11 => ⟨_, rfl, x_f2T (x_f2 (x_var rfl) (x_int _) (g_ix at0)) (x_var rfl) (c_eq (c := eI) (v_ec _ _) (v_ec _ _)), x_var rfl⟩))) h3 ?_
    refine w_assoc ?_
    obtain ⟨max_14, h4, h⟩ := bnd h
    refine w_set (c := eI) (x_b (x_cons (x_fz (c := eI) (x_lc0 (cB := eI) (g := fun (entry_13 : (Int × Int × Int × (Int × Int) × Int)) => entry_13.2.1) (i_sq (c := (e5 eI eI eI (e2 eI eI) eI)) (x_var rfl) s_L rfl) chk_0 (fun entry_13 => ⟨_, rfl, x_f2 (x_var rfl) (x_int _) (g_ix at1)⟩))) (x_nil)) (b_max (c := eI) s_L h4)) ?_
    refine w_assoc ?_
    obtain ⟨rows_16, h5, h⟩ := lbnd h
    refine w_setE (c := (eL (e5 eI eI eI (e2 eI eI) eI))) (x_fz (c := (e5 eI eI eI (e2 eI eI) eI)) (x_lc0f (cB := (e5 eI eI eI (e2 eI eI) eI)) (p := fun (entry_15 : (Int × Int × Int × (Int × Int) × Int)) => (decide (entry_15.2.1 = max_14))) (g := fun (entry_15 : (Int × Int × Int × (Int × Int) × Int)) => entry_15) (i_sq (c := (e5 eI eI eI (e2 eI eI) eI)) (x_var rfl) s_L rfl) chk_0 (fun entry_15 => ⟨_, rfl, x_f2T (x_f2 (x_var rfl) (x_int _) (g_ix at1)) (x_var rfl) (c_eq (c := eI) (v_ec _ _) (v_ec _ _)), x_var rfl⟩))) h5 ?_
    change WP _ [some ((eL (e5 eI eI eI (e2 eI eI) eI)).e v_entries), some (.ref 0), some (eI.e event_10), none, some ((eL (e5 eI eI eI (e2 eI eI) eI)).e rows_16), some (eI.e max_14), j_7, j_8, j_9] _ _
    refine w_assoc ?_
    obtain ⟨max_18, h6, h⟩ := bnd h
    refine w_set (c := eI) (x_b (x_cons (x_fz (c := eI) (x_lc0 (cB := eI) (g := fun (entry_17 : (Int × Int × Int × (Int × Int) × Int)) => entry_17.2.2.1) (i_sq (c := (e5 eI eI eI (e2 eI eI) eI)) (x_var rfl) s_L rfl) chk_0 (fun entry_17 => ⟨_, rfl, x_f2 (x_var rfl) (x_int _) (g_ix at2)⟩))) (x_nil)) (b_max (c := eI) s_L h6)) ?_
    refine w_assoc ?_
    obtain ⟨rows_20, h7, h⟩ := lbnd h
    refine w_setE (c := (eL (e5 eI eI eI (e2 eI eI) eI))) (x_fz (c := (e5 eI eI eI (e2 eI eI) eI)) (x_lc0f (cB := (e5 eI eI eI (e2 eI eI) eI)) (p := fun (entry_19 : (Int × Int × Int × (Int × Int) × Int)) => (decide (entry_19.2.2.1 = max_18))) (g := fun (entry_19 : (Int × Int × Int × (Int × Int) × Int)) => entry_19) (i_sq (c := (e5 eI eI eI (e2 eI eI) eI)) (x_var rfl) s_L rfl) chk_0 (fun entry_19 => ⟨_, rfl, x_f2T (x_f2 (x_var rfl) (x_int _) (g_ix at2)) (x_var rfl) (c_eq (c := eI) (v_ec _ _) (v_ec _ _)), x_var rfl⟩))) h7 ?_
    refine w_assoc ?_
    obtain ⟨max_22, h8, h⟩ := bnd h
    refine w_set (c := (e2 eI eI)) (x_b (x_cons (x_fz (c := (e2 eI eI)) (x_lc0 (cB := (e2 eI eI)) (g := fun (entry_21 : (Int × Int × Int × (Int × Int) × Int)) => entry_21.2.2.2.1) (i_sq (c := (e5 eI eI eI (e2 eI eI) eI)) (x_var rfl) s_L rfl) chk_0 (fun entry_21 => ⟨_, rfl, x_f2 (x_var rfl) (x_int _) (g_ix at3)⟩))) (x_nil)) (b_max (c := (e2 eI eI)) s_L h8)) ?_
    change WP _ [some ((eL (e5 eI eI eI (e2 eI eI) eI)).e v_entries), some (.ref 0), some (eI.e event_10), none, some ((eL (e5 eI eI eI (e2 eI eI) eI)).e rows_20), some (eI.e max_14), some (eI.e max_18), some ((e2 eI eI).e max_22), j_9] _ _
    refine w_assoc ?_
    obtain ⟨max_24, h9, h⟩ := bnd h
    refine w_set (c := eI) (x_b (x_cons (x_fz (c := eI) (x_lc0f (cB := eI) (p := fun (entry_23 : (Int × Int × Int × (Int × Int) × Int)) => (decide (entry_23.2.2.2.1 = max_22))) (g := fun (entry_23 : (Int × Int × Int × (Int × Int) × Int)) => entry_23.2.2.2.2) (i_sq (c := (e5 eI eI eI (e2 eI eI) eI)) (x_var rfl) s_L rfl) chk_0 (fun entry_23 => ⟨_, rfl, x_f2T (x_f2 (x_var rfl) (x_int _) (g_ix at3)) (x_var rfl) (c_eq (c := (e2 eI eI)) (v_ec _ _) (v_ec _ _)), x_f2 (x_var rfl) (x_int _) (g_ix at4)⟩))) (x_nil)) (b_max (c := eI) s_L h9)) ?_
    obtain ⟨found_25, h10, h⟩ := bnd h
    refine w_drop (x_m (c := (e5 eI eI eI (e2 eI eI) eI)) (xs := s_3) (x_var rfl) rfl (x_cons (x_tup5 (x_cons (x_var rfl) (x_cons (x_var rfl) (x_cons (x_var rfl) (x_cons (x_var rfl) (x_cons (x_var rfl) (x_nil))))))) (x_nil)) (m_app rfl h10 rfl)) ?_
    obtain rfl := Option.some.inj h
    exact w_end (e_0 ⟨_, _, _, _, _, _, rfl, rfl⟩)
  · rintro _ _ ⟨j_27, j_28, j_29, j_30, j_31, j_32, rfl, rfl⟩
    obtain rfl := Option.some.inj h
    refine w_ret (x_b (x_cons (x_var rfl) (x_nil)) (b_tuple (c := (e5 eI eI eI (e2 eI eI) eI)) (s_R rfl))) ?_
    exact f_v0 (eV (e5 eI eI eI (e2 eI eI) eI)) _
theorem r_law_versions {v_entries : (List (Int × Int × Int × (Int × Int) × Int))} {v_event : Int} {r : (List Int)} (h : t_law_versions v_entries v_event = some r) : c_law_versions [(eL (e5 eI eI eI (e2 eI eI) eI)).e v_entries, eI.e v_event] [] = some ((eV eI).e r, []) := by
  unfold t_law_versions at h
  refine run_wp (f := b_law_versions) (n := 6) ?_
  refine w_add ?_
  refine w_assoc ?_
  refine w_setR (x_mut (c := eN) (x_lst (c := eN) ([] : List Unit) (x_nil) rfl rfl)) ?_
  refine w_assoc ?_
  obtain ⟨s_10, hs, h⟩ := bnd h
  refine w_fold (fun (s_1 : (List Int)) ρ M => ∃ j_2 : Option D, ∃ j_3 : Option D, ρ = [some ((eL (e5 eI eI eI (e2 eI eI) eI)).e v_entries), some (eI.e v_event), some (.ref 0), j_2, j_3, none] ∧ M = [cl eI s_1]) (cA := (e5 eI eI eI (e2 eI eI) eI)) (s := ([] : (List Int))) (i_sq (c := (e5 eI eI eI (e2 eI eI) eI)) (x_var rfl) s_L rfl) hs ⟨_, _, rfl, rfl⟩ (fun _ _ _ _ => chk_0) ?_ ?_
  · rintro entry_4 s_1 _ _ _ h ⟨j_2, j_3, rfl, rfl⟩
    refine w_stp rfl ?_
    refine w_add ?_
    obtain ⟨s_5, hs, h⟩ := bnd h
    refine w_cut (fun ρ M => ∃ j_6 : Option D, ρ = [some ((eL (e5 eI eI eI (e2 eI eI) eI)).e v_entries), some (eI.e v_event), some (.ref 0), some ((e5 eI eI eI (e2 eI eI) eI).e entry_4), j_6, none] ∧ M = [cl eI s_5]) (w_ifT (k_and (x_f2T (x_f2 (x_var rfl) (x_int _) (g_ix at0)) (x_var rfl) (c_eq (c := eI) (v_ec _ _) (v_ec _ _))) (x_f2T (x_f2 (x_var rfl) (x_int _) (g_ix at1)) (x_var rfl) (c_notIn (c_in (c := eI) (v_ec _ _) (i_R rfl))))) hs (fun h => ?_) (fun h => ?_)) ?_
    · refine w_assoc ?_
      obtain ⟨at_8, h3, h⟩ := lbnd h
      refine w_setE (c := eI) (x_b (x_cons (x_fz (c := eI) (x_lc0f (cB := eI) (p := fun (version_7 : Int) => (decide (version_7 < entry_4.2.1))) (g := fun (version_7 : Int) => version_7) (i_ref (c := eI) (x_var rfl) rfl) (chk_r rfl) (fun version_7 => ⟨_, rfl, x_f2T (x_var rfl) (x_f2 (x_var rfl) (x_int _) (g_ix at1)) (c_lt (c := eI) _ _), x_var rfl⟩))) (x_nil)) (b_len (c := eI) s_L)) h3 ?_
      obtain ⟨a_9, h4, h⟩ := bnd h
      refine w_drop (x_m (c := eI) (x_var rfl) rfl (x_cons (x_var rfl) (x_cons (x_f2 (x_var rfl) (x_int _) (g_ix at1)) (x_nil))) (m_ins (c := eI) (xs := s_1) rfl h4 rfl)) ?_
      obtain rfl := Option.some.inj h
      exact w_endC ⟨_, rfl, rfl⟩
    · refine w_next ?_
      obtain rfl := Option.some.inj h
      exact w_endC ⟨_, rfl, rfl⟩
    · rintro _ _ ⟨j_6, rfl, rfl⟩
      obtain rfl := Option.some.inj h
      exact w_end (e_0 ⟨_, _, rfl, rfl⟩)
  · rintro _ _ ⟨j_11, j_12, rfl, rfl⟩
    obtain rfl := Option.some.inj h
    refine w_ret (x_b (x_cons (x_var rfl) (x_nil)) (b_tuple (c := eI) (s_R rfl))) ?_
    exact f_v0 (eV eI) _
theorem r_history_of {v_entries : (List (Int × Int × Int × (Int × Int) × Int))} {v_event : Int} {r : (List Int)} (h : t_history_of v_entries v_event = some r) : chistory_of [(eV (e5 eI eI eI (e2 eI eI) eI)).e v_entries, eI.e v_event] [] = some ((eV eI).e r, []) := by
  unfold t_history_of at h
  refine run_wp (f := bhistory_of) (n := 3) ?_
  refine w_add ?_
  obtain ⟨u_2, h1, h⟩ := bnd h
  obtain rfl := Option.some.inj h
  refine w_ret (x_b (x_cons (x_fz (c := eI) (x_bN (x_cons (x_fz (c := eI) (x_lc0f (cB := eI) (p := fun (entry_1 : (Int × Int × Int × (Int × Int) × Int)) => (decide (entry_1.1 = v_event))) (g := fun (entry_1 : (Int × Int × Int × (Int × Int) × Int)) => entry_1.2.1) (i_sq (c := (e5 eI eI eI (e2 eI eI) eI)) (x_var rfl) s_V rfl) chk_0 (fun entry_1 => ⟨_, rfl, x_f2T (x_f2 (x_var rfl) (x_int _) (g_ix at0)) (x_var rfl) (c_eq (c := eI) (v_ec _ _) (v_ec _ _)), x_f2 (x_var rfl) (x_int _) (g_ix at1)⟩))) (x_nil)) (n_sortU s_L h1))) (x_nil)) (b_tuple (c := eI) s_L)) ?_
  exact f_v0 (eV eI) _
theorem r_law_cancelled {v_draws : (List Int)} {v_entries : (List (Int × Int × Int × (Int × Int) × Int))} {v_many : Int} {r : ((List (Int × Int)) × List Int)} (h : t_law_cancelled v_draws v_entries v_many = some r) : c_law_cancelled [.ref 0, (eL (e5 eI eI eI (e2 eI eI) eI)).e v_entries, eI.e v_many] [cl eI v_draws] = some ((eL (e2 eI eI)).e r.1, [cl eI r.2]) := by
  unfold t_law_cancelled at h
  refine run_wp (f := b_law_cancelled) (n := 6) ?_
  refine w_add ?_
  refine w_assoc ?_
  refine w_setR (x_mut (c := eN) (x_lst (c := eN) ([] : List Unit) (x_nil) rfl rfl)) ?_
  refine w_assoc ?_
  obtain ⟨r_1, h1, h⟩ := bnd h
  obtain ⟨s_18, hs, h⟩ := bnd h
  refine w_fold (fun (s_2 : ((List Int) × (List (Int × Int)))) ρ M => ∃ j_3 : Option D, ∃ j_4 : Option D, ρ = [some (.ref 0), some ((eL (e5 eI eI eI (e2 eI eI) eI)).e v_entries), some (eI.e v_many), some (.ref 1), j_3, j_4] ∧ M = [cl eI s_2.1, cl (e2 eI eI) s_2.2]) (cA := eI) (s := (v_draws, ([] : (List (Int × Int))))) (i_rg1 (x_cons (x_var rfl) (x_nil)) h1) hs ⟨_, _, rfl, rfl⟩ (fun _ _ _ _ => chk_0) ?_ ?_
  · rintro k_5 s_2 _ _ _ h ⟨j_3, j_4, rfl, rfl⟩
    refine w_stp rfl ?_
    refine w_add ?_
    obtain ⟨w_8, h4, h⟩ := bnd h
    obtain ⟨s_9, hs, h⟩ := bnd h
    refine w_cut (fun ρ M => ∃ j_10 : Option D, ρ = [some (.ref 0), some ((eL (e5 eI eI eI (e2 eI eI) eI)).e v_entries), some (eI.e v_many), some (.ref 1), some (eI.e k_5), j_10] ∧ M = [cl eI s_9.1, cl (e2 eI eI) s_9.2]) (w_ifT (k_andS (S := (List Int)) (s0 := s_2.1) (r := w_8) (fun (s_7 : (List Int)) => [cl eI s_7, cl (e2 eI eI) s_2.2]) (x_f2T (x_b (x_cons (x_var rfl) (x_nil)) (b_len (c := (e5 eI eI eI (e2 eI eI) eI)) s_L)) (x_int _) (c_int _)) h4 (fun h => by obtain ⟨y_6, h3, h⟩ := bnd h; obtain rfl := Option.some.inj h; exact x_f2T (x_callS (x_cons (x_var rfl) (x_cons (x_int _) (x_nil))) (p_s (cR := eI) (c := eI) rfl rfl (av_c eN () (av_c _ _ (av_nil))) (r_law_take h3) rfl)) (x_int _) (c_int _))) hs (fun h => ?_) (fun h => ?_)) ?_
    · refine w_assoc ?_
      obtain ⟨y_11, h6, h⟩ := bnd h
      obtain ⟨x_12, h7, h⟩ := bnd h
      refine w_set (c := (e5 eI eI eI (e2 eI eI) eI)) (x_f2 (x_var rfl) (x_callS (x_cons (x_var rfl) (x_cons (x_b (x_cons (x_var rfl) (x_nil)) (b_len (c := (e5 eI eI eI (e2 eI eI) eI)) s_L)) (x_nil))) (p_s (cR := eI) (c := eI) rfl rfl (av_c eN () (av_c _ _ (av_nil))) (r_law_take h6) rfl)) (g_at (c := (e5 eI eI eI (e2 eI eI) eI)) s_L h7)) ?_
      obtain ⟨y_13, h8, h⟩ := bnd h
      obtain ⟨found_14, h9, h⟩ := bnd h
      refine w_drop (x_m (c := (e2 eI eI)) (xs := s_2.2) (x_var rfl) rfl (x_cons (x_tup2 (x_cons (x_f2 (x_var rfl) (x_int _) (g_ix at0)) (x_cons (x_f2 (x_f2 (x_f2 (x_var rfl) (x_int _) (g_ix at1)) (x_callS (x_cons (x_var rfl) (x_cons (x_int _) (x_nil))) (p_s (cR := eI) (c := eI) rfl rfl (av_c eN () (av_c _ _ (av_nil))) (r_law_take h8) rfl)) (g_add _ _)) (x_int _) (g_sub _ _)) (x_nil)))) (x_nil)) (m_app rfl h9 rfl)) ?_
      obtain rfl := Option.some.inj h
      exact w_endC ⟨_, rfl, rfl⟩
    · obtain ⟨y_15, h10, h⟩ := bnd h
      obtain ⟨y_16, h11, h⟩ := bnd h
      obtain ⟨found_17, h12, h⟩ := bnd h
      refine w_drop (x_m (c := (e2 eI eI)) (xs := s_2.2) (x_var rfl) rfl (x_cons (x_tup2 (x_cons (x_f2 (x_callS (x_cons (x_var rfl) (x_cons (x_int _) (x_nil))) (p_s (cR := eI) (c := eI) rfl rfl (av_c eN () (av_c _ _ (av_nil))) (r_law_take h10) rfl)) (x_int _) (g_sub _ _)) (x_cons (x_callS (x_cons (x_var rfl) (x_cons (x_int _) (x_nil))) (p_s (cR := eI) (c := eI) rfl rfl (av_c eN () (av_c _ _ (av_nil))) (r_law_take h11) rfl)) (x_nil)))) (x_nil)) (m_app rfl h12 rfl)) ?_
      obtain rfl := Option.some.inj h
      exact w_endC ⟨_, rfl, rfl⟩
    · rintro _ _ ⟨j_10, rfl, rfl⟩
      obtain rfl := Option.some.inj h
      exact w_end (e_0 ⟨_, _, rfl, rfl⟩)
  · rintro _ _ ⟨j_19, j_20, rfl, rfl⟩
    obtain rfl := Option.some.inj h
    refine w_ret (x_var rfl) ?_
    exact f_r1 (mo := cl (e2 eI eI) s_18.2) rfl rfl
theorem r_law_left {v_entries : (List (Int × Int × Int × (Int × Int) × Int))} {v_cancelled : (List (Int × Int))} {r : (List (Int × Int × Int × (Int × Int) × Int))} (h : t_law_left v_entries v_cancelled = some r) : c_law_left [(eL (e5 eI eI eI (e2 eI eI) eI)).e v_entries, (eL (e2 eI eI)).e v_cancelled] [] = some ((eV (e5 eI eI eI (e2 eI eI) eI)).e r, []) := by
  unfold t_law_left at h
  refine run_wp (f := b_law_left) (n := 6) ?_
  refine w_add ?_
  refine w_assoc ?_
  refine w_setR (x_mut (c := eN) (x_lst (c := eN) ([] : List Unit) (x_nil) rfl rfl)) ?_
  refine w_assoc ?_
  obtain ⟨y_1, h1, h⟩ := bnd h
  obtain ⟨s_10, hs, h⟩ := bnd h
  refine w_fold (fun (s_2 : (List (Int × Int × Int × (Int × Int) × Int))) ρ M => ∃ j_3 : Option D, ∃ j_4 : Option D, ρ = [some ((eL (e5 eI eI eI (e2 eI eI) eI)).e v_entries), some ((eL (e2 eI eI)).e v_cancelled), some (.ref 0), j_3, j_4, none] ∧ M = [cl (e5 eI eI eI (e2 eI eI) eI) s_2]) (cA := (e5 eI eI eI (e2 eI eI) eI)) (s := ([] : (List (Int × Int × Int × (Int × Int) × Int)))) (i_sq (c := (e5 eI eI eI (e2 eI eI) eI)) (x_call (x_cons (x_var rfl) (x_nil)) (p_v (cR := (eV (e5 eI eI eI (e2 eI eI) eI))) (av_c _ _ (av_nil)) (r_law_bulletin h1))) s_V rfl) hs ⟨_, _, rfl, rfl⟩ (fun _ _ _ _ => chk_0) ?_ ?_
  · rintro entry_5 s_2 _ _ _ h ⟨j_3, j_4, rfl, rfl⟩
    refine w_stp rfl ?_
    refine w_add ?_
    refine w_assoc ?_
    obtain ⟨above_7, h3, h⟩ := lbnd h
    refine w_setE (c := (eL (e2 eI eI))) (x_fz (c := (e2 eI eI)) (x_lc0f (cB := (e2 eI eI)) (p := fun (pair_6 : (Int × Int)) => ((decide (pair_6.1 = entry_5.1)) && (decide (pair_6.2 ≥ entry_5.2.1)))) (g := fun (pair_6 : (Int × Int)) => pair_6) (i_sq (c := (e2 eI eI)) (x_var rfl) s_L rfl) chk_0 (fun pair_6 => ⟨_, rfl, k_and (x_f2T (x_f2 (x_var rfl) (x_int _) (g_ix at0)) (x_f2 (x_var rfl) (x_int _) (g_ix at0)) (c_eq (c := eI) (v_ec _ _) (v_ec _ _))) (x_f2T (x_f2 (x_var rfl) (x_int _) (g_ix at1)) (x_f2 (x_var rfl) (x_int _) (g_ix at1)) (c_int _)), x_var rfl⟩))) h3 ?_
    obtain ⟨s_8, hs, h⟩ := bnd h
    refine w_cut (fun ρ M => ρ = [some ((eL (e5 eI eI eI (e2 eI eI) eI)).e v_entries), some ((eL (e2 eI eI)).e v_cancelled), some (.ref 0), some ((e5 eI eI eI (e2 eI eI) eI).e entry_5), some ((eL (e2 eI eI)).e above_7), none] ∧ M = [cl (e5 eI eI eI (e2 eI eI) eI) s_8]) (w_ifT (x_f2T (x_b (x_cons (x_var rfl) (x_nil)) (b_len (c := (e2 eI eI)) s_L)) (x_int _) (c_eq (c := eI) (v_ec _ _) (v_ec _ _))) hs (fun h => ?_) (fun h => ?_)) ?_
    · obtain ⟨found_9, h5, h⟩ := bnd h
      refine w_drop (x_m (c := (e5 eI eI eI (e2 eI eI) eI)) (xs := s_2) (x_var rfl) rfl (x_cons (x_var rfl) (x_nil)) (m_app rfl h5 rfl)) ?_
      obtain rfl := Option.some.inj h
      exact w_endC ⟨rfl, rfl⟩
    · refine w_next ?_
      obtain rfl := Option.some.inj h
      exact w_endC ⟨rfl, rfl⟩
    · rintro _ _ ⟨rfl, rfl⟩
      obtain rfl := Option.some.inj h
      exact w_end (e_0 ⟨_, _, rfl, rfl⟩)
  · rintro _ _ ⟨j_11, j_12, rfl, rfl⟩
    obtain rfl := Option.some.inj h
    refine w_ret (x_b (x_cons (x_var rfl) (x_nil)) (b_tuple (c := (e5 eI eI eI (e2 eI eI) eI)) (s_R rfl))) ?_
    exact f_v0 (eV (e5 eI eI eI (e2 eI eI) eI)) _
theorem r_bulletin_without {v_entries : (List (Int × Int × Int × (Int × Int) × Int))} {v_cancelled : (List (Int × Int))} {r : (List (Int × Int × Int × (Int × Int) × Int))} (h : t_bulletin_without v_entries v_cancelled = some r) : cbulletin_without [(eV (e5 eI eI eI (e2 eI eI) eI)).e v_entries, (eV (e2 eI eI)).e v_cancelled] [] = some ((eV (e5 eI eI eI (e2 eI eI) eI)).e r, []) := by
  unfold t_bulletin_without at h
  refine run_wp (f := bbulletin_without) (n := 6) ?_
  refine w_add ?_
  refine w_assoc ?_
  refine w_setR (x_mut (c := eN) (x_lst (c := eN) ([] : List Unit) (x_nil) rfl rfl)) ?_
  refine w_assoc ?_
  obtain ⟨y_1, h1, h⟩ := bnd h
  obtain ⟨s_8, hs, h⟩ := bnd h
  refine w_fold (fun (s_2 : (List (Int × Int × Int × (Int × Int) × Int))) ρ M => ∃ j_3 : Option D, ρ = [some ((eV (e5 eI eI eI (e2 eI eI) eI)).e v_entries), some ((eV (e2 eI eI)).e v_cancelled), some (.ref 0), j_3, none, none] ∧ M = [cl (e5 eI eI eI (e2 eI eI) eI) s_2]) (cA := (e5 eI eI eI (e2 eI eI) eI)) (s := ([] : (List (Int × Int × Int × (Int × Int) × Int)))) (i_sq (c := (e5 eI eI eI (e2 eI eI) eI)) (x_call (x_cons (x_var rfl) (x_nil)) (p_v (cR := (eV (e5 eI eI eI (e2 eI eI) eI))) (av_c _ _ (av_nil)) (r_bulletin_of h1))) s_V rfl) hs ⟨_, rfl, rfl⟩ (fun _ _ _ _ => chk_0) ?_ ?_
  · rintro entry_4 s_2 _ _ _ h ⟨j_3, rfl, rfl⟩
    refine w_stp rfl ?_
    refine w_add ?_
    obtain ⟨s_6, hs, h⟩ := bnd h
    refine w_cut (fun ρ M => ρ = [some ((eV (e5 eI eI eI (e2 eI eI) eI)).e v_entries), some ((eV (e2 eI eI)).e v_cancelled), some (.ref 0), some ((e5 eI eI eI (e2 eI eI) eI).e entry_4), none, none] ∧ M = [cl (e5 eI eI eI (e2 eI eI) eI) s_6]) (w_ifT (k_not (k_tru (x_b (x_cons (x_fz (c := eB) (x_lc0 (cB := eB) (g := fun (e_5 : (Int × Int)) => ((decide (e_5.1 = entry_4.1)) && (decide (e_5.2 ≥ entry_4.2.1)))) (i_sq (c := (e2 eI eI)) (x_var rfl) s_V rfl) chk_0 (fun e_5 => ⟨_, rfl, x_and (x_f2 (x_var rfl) (x_f2 (x_var rfl) (x_int _) (g_ix at0)) (g_B (c_eq (c := eI) (v_ec _ _) (v_ec _ _)))) (x_f2 (x_var rfl) (x_f2 (x_var rfl) (x_int _) (g_ix at1)) (g_B (c_int _)))⟩))) (x_nil)) (b_any l_L)) (tr_B _))) hs (fun h => ?_) (fun h => ?_)) ?_
    · obtain ⟨found_7, h4, h⟩ := bnd h
      refine w_drop (x_m (c := (e5 eI eI eI (e2 eI eI) eI)) (xs := s_2) (x_var rfl) rfl (x_cons (x_var rfl) (x_nil)) (m_app rfl h4 rfl)) ?_
      obtain rfl := Option.some.inj h
      exact w_endC ⟨rfl, rfl⟩
    · refine w_next ?_
      obtain rfl := Option.some.inj h
      exact w_endC ⟨rfl, rfl⟩
    · rintro _ _ ⟨rfl, rfl⟩
      obtain rfl := Option.some.inj h
      exact w_end (e_0 ⟨_, rfl, rfl⟩)
  · rintro _ _ ⟨j_9, rfl, rfl⟩
    obtain rfl := Option.some.inj h
    refine w_ret (x_b (x_cons (x_var rfl) (x_nil)) (b_tuple (c := (e5 eI eI eI (e2 eI eI) eI)) (s_R rfl))) ?_
    exact f_v0 (eV (e5 eI eI eI (e2 eI eI) eI)) _
theorem r_is_bulletin {v_entries : (List (Int × Int × Int × (Int × Int) × Int))} {r : Bool} (h : t_is_bulletin v_entries = some r) : cis_bulletin [(eV (e5 eI eI eI (e2 eI eI) eI)).e v_entries] [] = some (eB.e r, []) := by
  unfold t_is_bulletin at h
  refine run_wp (f := bis_bulletin) (n := 1) ?_
  refine w_add ?_
  obtain ⟨y_1, h1, h⟩ := bnd h
  obtain rfl := Option.some.inj h
  refine w_ret (x_f2 (x_call (x_cons (x_var rfl) (x_nil)) (p_v (cR := (eV (e5 eI eI eI (e2 eI eI) eI))) (av_c _ _ (av_nil)) (r_bulletin_of h1))) (x_var rfl) (g_B (c_eq (c := (eV (e5 eI eI eI (e2 eI eI) eI))) (v_ec _ _) (v_ec _ _)))) ?_
  exact f_v0 eB _
theorem r_law_come_back {v_draws : (List Int)} {v_entries : (List (Int × Int × Int × (Int × Int) × Int))} {v_cancelled : (List (Int × Int))} {v_left : (List (Int × Int × Int × (Int × Int) × Int))} {r : (Bool × List Int)} (h : t_law_come_back v_draws v_entries v_cancelled v_left = some r) : c_law_come_back [.ref 0, (eL (e5 eI eI eI (e2 eI eI) eI)).e v_entries, (eV (e2 eI eI)).e v_cancelled, (eV (e5 eI eI eI (e2 eI eI) eI)).e v_left] [cl eI v_draws] = some (eB.e r.1, [cl eI r.2]) := by
  unfold t_law_come_back at h
  refine run_wp (f := b_law_come_back) (n := 12) ?_
  refine w_add ?_
  refine w_assoc ?_
  obtain ⟨y_1, h1, h⟩ := bnd h
  obtain ⟨r_30, hs, h2⟩ := bnd h
  refine w_forr (fun (s_2 : (List Int)) ρ M => ∃ j_3 : Option D, ∃ j_4 : Option D, ∃ j_5 : Option D, ∃ j_6 : Option D, ∃ j_7 : Option D, ∃ j_8 : Option D, ρ = [some (.ref 0), some ((eL (e5 eI eI eI (e2 eI eI) eI)).e v_entries), some ((eV (e2 eI eI)).e v_cancelled), some ((eV (e5 eI eI eI (e2 eI eI) eI)).e v_left), j_3, j_4, none, j_5, j_6, j_7, none, j_8] ∧ M = [cl eI s_2]) (fun (e : (Bool × (List Int))) d M => fin false 1 d M = some (eB.e e.1, [cl eI e.2])) (cA := (e5 eI eI eI (e2 eI eI) eI)) (s := v_draws) (i_sq (c := (e5 eI eI eI (e2 eI eI) eI)) (x_slice (x_call (x_cons (x_var rfl) (x_nil)) (p_v (cR := (eV (e5 eI eI eI (e2 eI eI) eI))) (av_c _ _ (av_nil)) (r_law_bulletin h1))) (o_none) (o_part (x_int _)) g_slV) s_V rfl) hs ⟨_, _, _, _, _, _, rfl, rfl⟩ (fun _ _ _ _ => chk_0) ?_ ?_ ?_
  · rintro entry_9 s_2 _ _ _ h ⟨j_3, j_4, j_5, j_6, j_7, j_8, rfl, rfl⟩
    refine w_stp rfl ?_
    refine w_add ?_
    refine w_assoc ?_
    obtain ⟨own_11, h3, h⟩ := lbnd h
    refine w_setE (c := (eL eI)) (x_fz (c := eI) (x_lc0f (cB := eI) (p := fun (pair_10 : (Int × Int)) => (decide (pair_10.1 = entry_9.1))) (g := fun (pair_10 : (Int × Int)) => pair_10.2) (i_sq (c := (e2 eI eI)) (x_var rfl) s_V rfl) chk_0 (fun pair_10 => ⟨_, rfl, x_f2T (x_f2 (x_var rfl) (x_int _) (g_ix at0)) (x_f2 (x_var rfl) (x_int _) (g_ix at0)) (c_eq (c := eI) (v_ec _ _) (v_ec _ _)), x_f2 (x_var rfl) (x_int _) (g_ix at1)⟩))) h3 ?_
    refine w_assoc ?_
    obtain ⟨w_12, h4, h⟩ := bnd h
    obtain ⟨max_13, h5, h⟩ := bnd h
    refine w_set (c := eI) (x_b (x_cons (x_f2 (x_fz (c := eI) (x_lst (c := eI) [entry_9.2.1] (x_cons (x_f2 (x_var rfl) (x_int _) (g_ix at1)) (x_nil)) rfl rfl)) (x_var rfl) (g_catL (c := eI) t_L t_L h4)) (x_nil)) (b_max (c := eI) s_L h5)) ?_
    refine w_assoc ?_
    obtain ⟨back_14, h6, h⟩ := lbnd h
    refine w_setE (c := (e5 eI eI eI (e2 eI eI) eI)) ((show _ = some ((e5 eI eI eI (e2 eI eI) eI).e ((((entry_9.1, (max_13 + (1 : Int)))).1, ((entry_9.1, (max_13 + (1 : Int)))).2, ((entry_9.2.2.1, entry_9.2.2.2.1, entry_9.2.2.2.2)).1, ((entry_9.2.2.1, entry_9.2.2.2.1, entry_9.2.2.2.2)).2.1, ((entry_9.2.2.1, entry_9.2.2.2.1, entry_9.2.2.2.2)).2.2)), _) from x_f2 (x_tup2 (x_cons (x_f2 (x_var rfl) (x_int _) (g_ix at0)) (x_cons (x_f2 (x_var rfl) (x_int _) (g_add _ _)) (x_nil)))) ((show _ = some ((e3 eI (e2 eI eI) eI).e ((entry_9.2.2.1, entry_9.2.2.2.1, entry_9.2.2.2.2)), _) from x_slice (x_var rfl) (o_part (x_int _)) (o_none) (g_slT (by rfl)))) (g_catT rfl))) h6 ?_
    change WP _ [some (.ref 0), some ((eL (e5 eI eI eI (e2 eI eI) eI)).e v_entries), some ((eV (e2 eI eI)).e v_cancelled), some ((eV (e5 eI eI eI (e2 eI eI) eI)).e v_left), some ((e5 eI eI eI (e2 eI eI) eI).e entry_9), some ((eL eI).e own_11), none, some (eI.e max_13), some ((e5 eI eI eI (e2 eI eI) eI).e back_14), j_7, none, j_8] _ _
    refine w_assoc ?_
    obtain ⟨w_15, h7, h⟩ := bnd h
    obtain ⟨y_16, h8, h⟩ := bnd h
    refine w_set (c := (eV (e5 eI eI eI (e2 eI eI) eI))) (x_call (x_cons (x_f2 (x_b (x_cons (x_var rfl) (x_nil)) (b_tuple (c := (e5 eI eI eI (e2 eI eI) eI)) s_L)) (x_co (x_tup1 (x_cons (x_var rfl) (x_nil))) (show (eV (e5 eI eI eI (e2 eI eI) eI)).e ([back_14]) = (e1 (e5 eI eI eI (e2 eI eI) eI)).e back_14 from (fun _ => rfl) back_14)) (g_catV (c := (e5 eI eI eI (e2 eI eI) eI)) h7)) (x_cons (x_var rfl) (x_nil))) (p_v (cR := (eV (e5 eI eI eI (e2 eI eI) eI))) (av_c _ _ (av_c _ _ (av_nil))) (r_bulletin_without h8))) ?_
    refine w_assoc ?_
    refine w_ifT (k_or (k_not (k_tru (x_isi .tup (x_var rfl) rfl) (tr_B _))) (k_or (x_f2T (x_var rfl) (x_var rfl) (c_notIn (c_in (c := (e5 eI eI eI (e2 eI eI) eI)) (v_ec _ _) i_V))) (x_f2T (x_b (x_cons (x_fz (c := (e5 eI eI eI (e2 eI eI) eI)) (x_lc0f (cB := (e5 eI eI eI (e2 eI eI) eI)) (p := fun (one_17 : (Int × Int × Int × (Int × Int) × Int)) => ((!(decide (one_17.1 = entry_9.1))) && (!(tin one_17 y_16)))) (g := fun (one_17 : (Int × Int × Int × (Int × Int) × Int)) => one_17) (i_sq (c := (e5 eI eI eI (e2 eI eI) eI)) (x_var rfl) s_V rfl) chk_0 (fun one_17 => ⟨_, rfl, k_and (x_f2T (x_f2 (x_var rfl) (x_int _) (g_ix at0)) (x_f2 (x_var rfl) (x_int _) (g_ix at0)) (c_ne (c := eI) (v_ec _ _) (v_ec _ _))) (x_f2T (x_var rfl) (x_var rfl) (c_notIn (c_in (c := (e5 eI eI eI (e2 eI eI) eI)) (v_ec _ _) i_V))), x_var rfl⟩))) (x_nil)) (b_len (c := (e5 eI eI eI (e2 eI eI) eI)) s_L)) (x_int _) (c_int _)))) h (fun h => ?_) (fun h => ?_)
    · obtain rfl := Option.some.inj h
      refine w_ret (x_bl _) ?_
      exact r_r (f_v1 eB _)
    · refine w_next ?_
      refine w_assoc ?_
      obtain ⟨y_18, h9, h⟩ := bnd h
      obtain ⟨older_19, h10, h⟩ := lbnd h
      refine w_setE (c := (e5 eI eI eI (e2 eI eI) eI)) ((show _ = some ((e5 eI eI eI (e2 eI eI) eI).e ((((entry_9.1, ((entry_9.2.1 - (1 : Int)) - y_18.1))).1, ((entry_9.1, ((entry_9.2.1 - (1 : Int)) - y_18.1))).2, ((entry_9.2.2.1, entry_9.2.2.2.1, entry_9.2.2.2.2)).1, ((entry_9.2.2.1, entry_9.2.2.2.1, entry_9.2.2.2.2)).2.1, ((entry_9.2.2.1, entry_9.2.2.2.1, entry_9.2.2.2.2)).2.2)), _) from x_f2 (x_tup2 (x_cons (x_f2 (x_var rfl) (x_int _) (g_ix at0)) (x_cons (x_f2 (x_f2 (x_f2 (x_var rfl) (x_int _) (g_ix at1)) (x_int _) (g_sub _ _)) (x_callS (x_cons (x_var rfl) (x_cons (x_int _) (x_nil))) (p_s (cR := eI) (c := eI) rfl rfl (av_c eN () (av_c _ _ (av_nil))) (r_law_take h9) rfl)) (g_sub _ _)) (x_nil)))) ((show _ = some ((e3 eI (e2 eI eI) eI).e ((entry_9.2.2.1, entry_9.2.2.2.1, entry_9.2.2.2.2)), _) from x_slice (x_var rfl) (o_part (x_int _)) (o_none) (g_slT (by rfl)))) (g_catT rfl))) h10 ?_
      obtain ⟨w_20, h11, h⟩ := bnd h
      obtain ⟨y_21, h12, h⟩ := bnd h
      obtain ⟨q_22, h13, h⟩ := bnd h
      refine w_ifT (k_not (k_tru (x_call (x_cons (x_call (x_cons (x_f2 (x_b (x_cons (x_var rfl) (x_nil)) (b_tuple (c := (e5 eI eI eI (e2 eI eI) eI)) s_L)) (x_co (x_tup1 (x_cons (x_var rfl) (x_nil))) (show (eV (e5 eI eI eI (e2 eI eI) eI)).e ([older_19]) = (e1 (e5 eI eI eI (e2 eI eI) eI)).e older_19 from (fun _ => rfl) older_19)) (g_catV (c := (e5 eI eI eI (e2 eI eI) eI)) h11)) (x_cons (x_var rfl) (x_nil))) (p_v (cR := (eV (e5 eI eI eI (e2 eI eI) eI))) (av_c _ _ (av_c _ _ (av_nil))) (r_bulletin_without h12))) (x_cons (x_var rfl) (x_nil))) (p_sameT (c := (eV (e5 eI eI eI (e2 eI eI) eI))) h13)) (tr_B _))) h (fun h => ?_) (fun h => ?_)
      · obtain rfl := Option.some.inj h
        refine w_ret (x_bl _) ?_
        exact r_r (f_v1 eB _)
      · refine w_next ?_
        obtain rfl := Option.some.inj h
        exact w_end (e_r _ ⟨_, _, _, _, _, _, rfl, rfl⟩)
  · rintro e _ _ rfl hq
    obtain rfl := Option.some.inj h2
    exact hq
  · rintro s_23 _ _ rfl ⟨j_24, j_25, j_26, j_27, j_28, j_29, rfl, rfl⟩
    have h := h2
    rw [cas_go] at h
    obtain rfl := Option.some.inj h
    refine w_ret (x_bl _) ?_
    exact f_v1 eB _
theorem r_told_later {v_bulletin : (List (Int × Int × Int × (Int × Int) × Int))} {v_entry : (Int × Int × Int × (Int × Int) × Int)} {r : (List (Int × Int × Int × (Int × Int) × Int))} (h : t_told_later v_bulletin v_entry = some r) : ctold_later [(eV (e5 eI eI eI (e2 eI eI) eI)).e v_bulletin, (e5 eI eI eI (e2 eI eI) eI).e v_entry] [] = some ((eV (e5 eI eI eI (e2 eI eI) eI)).e r, []) := by
  unfold t_told_later at h
  refine run_wp (f := btold_later) (n := 2) ?_
  refine w_add ?_
  obtain ⟨w_1, h1, h⟩ := bnd h
  obtain ⟨y_2, h2, h⟩ := bnd h
  obtain rfl := Option.some.inj h
  refine w_ret (x_call (x_cons (x_f2 (x_var rfl) (x_co (x_tup1 (x_cons (x_var rfl) (x_nil))) (show (eV (e5 eI eI eI (e2 eI eI) eI)).e ([v_entry]) = (e1 (e5 eI eI eI (e2 eI eI) eI)).e v_entry from (fun _ => rfl) v_entry)) (g_catV (c := (e5 eI eI eI (e2 eI eI) eI)) h1)) (x_nil)) (p_v (cR := (eV (e5 eI eI eI (e2 eI eI) eI))) (av_c _ _ (av_nil)) (r_bulletin_of h2))) ?_
  exact f_v0 (eV (e5 eI eI eI (e2 eI eI) eI)) _
theorem r_law {v_script : (List Int)} {r : Bool} (h : t_law v_script = some r) : claw [(eK eI).e v_script] [] = some (eB.e r, []) := by
  unfold t_law at h
  refine run_wp (f := blaw) (n := 14) ?_
  refine w_add ?_
  refine w_assoc ?_
  obtain ⟨y_1, h1, h⟩ := bnd h
  refine w_setR (x_call (x_cons (x_var rfl) (x_cons (x_int _) (x_nil))) (p_m (av_c _ _ (av_c _ _ (av_nil))) (r_law_draws h1))) ?_
  refine w_assoc ?_
  obtain ⟨y_2, h2, h⟩ := bnd h
  obtain ⟨y_3, h3, h⟩ := bnd h
  refine w_set (c := (eL (e5 eI eI eI (e2 eI eI) eI))) (x_callS (x_cons (x_var rfl) (x_cons (x_var rfl) (x_cons (x_callS (x_cons (x_var rfl) (x_cons (x_int _) (x_nil))) (p_s (cR := eI) (c := eI) rfl rfl (av_c eN () (av_c _ _ (av_nil))) (r_law_take h2) rfl)) (x_nil)))) (p_s (cR := (eL (e5 eI eI eI (e2 eI eI) eI))) (c := eI) rfl rfl (av_c _ _ (av_c eN () (av_c _ _ (av_nil)))) (r_law_entries h3) rfl)) ?_
  refine w_assoc ?_
  obtain ⟨y_4, h4, h⟩ := bnd h
  refine w_set (c := (eV (e5 eI eI eI (e2 eI eI) eI))) (x_call (x_cons (x_b (x_cons (x_var rfl) (x_nil)) (b_tuple (c := (e5 eI eI eI (e2 eI eI) eI)) s_L)) (x_nil)) (p_v (cR := (eV (e5 eI eI eI (e2 eI eI) eI))) (av_c _ _ (av_nil)) (r_bulletin_of h4))) ?_
  change WP _ [some ((eK eI).e v_script), some (.ref 0), some ((eL (e5 eI eI eI (e2 eI eI) eI)).e y_3.1), some ((eV (e5 eI eI eI (e2 eI eI) eI)).e y_4), none, none, none, none, none, none, none, none, none, none] _ _
  refine w_assoc ?_
  obtain ⟨y_5, h5, h⟩ := bnd h
  obtain ⟨q_6, h6, h⟩ := bnd h
  refine w_ifT (k_not (k_tru (x_call (x_cons (x_var rfl) (x_cons (x_call (x_cons (x_var rfl) (x_nil)) (p_v (cR := (eV (e5 eI eI eI (e2 eI eI) eI))) (av_c _ _ (av_nil)) (r_law_bulletin h5))) (x_nil))) (p_sameT (c := (eV (e5 eI eI eI (e2 eI eI) eI))) h6)) (tr_B _))) h (fun h => ?_) (fun h => ?_)
  · obtain rfl := Option.some.inj h
    refine w_ret (x_bl _) ?_
    exact f_v0 eB _
  · refine w_next ?_
    refine w_assoc ?_
    obtain ⟨w_8, h7, h⟩ := bnd h
    obtain ⟨u_9, h8, h⟩ := bnd h
    refine w_set (c := (eL eI)) (x_fz (c := eI) (x_bN (x_cons (x_f2 (x_fz (c := eI) (x_lc0 (cB := eI) (g := fun (entry_7 : (Int × Int × Int × (Int × Int) × Int)) => entry_7.1) (i_sq (c := (e5 eI eI eI (e2 eI eI) eI)) (x_var rfl) s_L rfl) chk_0 (fun entry_7 => ⟨_, rfl, x_f2 (x_var rfl) (x_int _) (g_ix at0)⟩))) (x_fz (c := eI) (x_lst (c := eI) [(77 : Int)] (x_cons (x_int _) (x_nil)) rfl rfl)) (g_catL (c := eI) t_L t_L h7)) (x_nil)) (n_sortU s_L h8))) ?_
    refine w_assoc ?_
    obtain ⟨r_86, hs, h9⟩ := bnd h
    refine w_forr (fun (s_10 : Unit) ρ M => ∃ j_11 : Option D, ∃ j_12 : Option D, ∃ j_13 : Option D, ρ = [some ((eK eI).e v_script), some (.ref 0), some ((eL (e5 eI eI eI (e2 eI eI) eI)).e y_3.1), some ((eV (e5 eI eI eI (e2 eI eI) eI)).e y_4), some ((eL eI).e u_9), none, j_11, j_12, j_13, none, none, none, none, none] ∧ M = [cl eI y_3.2]) (fun (e : Bool) d M => fin false 0 d M = some (eB.e e, [])) (cA := eI) (s := ()) (i_sq (c := eI) (x_var rfl) s_L rfl) hs ⟨_, _, _, rfl, rfl⟩ (fun _ _ _ _ => chk_0) ?_ ?_ ?_
    · rintro event_14 s_10 _ _ _ h ⟨j_11, j_12, j_13, rfl, rfl⟩
      refine w_stp rfl ?_
      refine w_add ?_
      refine w_assoc ?_
      obtain ⟨y_15, h10, h⟩ := bnd h
      refine w_set (c := (eV eI)) (x_call (x_cons (x_var rfl) (x_cons (x_var rfl) (x_nil))) (p_v (cR := (eV eI)) (av_c _ _ (av_c _ _ (av_nil))) (r_law_versions h10))) ?_
      refine w_assoc ?_
      obtain ⟨y_16, h11, h⟩ := bnd h
      obtain ⟨q_17, h12, h⟩ := bnd h
      obtain ⟨w_20, h15, h⟩ := bnd h
      refine w_ifT (k_orM (k_not (k_tru (x_call (x_cons (x_call (x_cons (x_b (x_cons (x_var rfl) (x_nil)) (b_tuple (c := (e5 eI eI eI (e2 eI eI) eI)) s_L)) (x_cons (x_var rfl) (x_nil))) (p_v (cR := (eV eI)) (av_c _ _ (av_c _ _ (av_nil))) (r_history_of h11))) (x_cons (x_var rfl) (x_nil))) (p_sameT (c := (eV eI)) h12)) (tr_B _))) h15 (fun h => by obtain ⟨y_18, h13, h⟩ := bnd h; obtain ⟨q_19, h14, h⟩ := bnd h; obtain rfl := Option.some.inj h; exact k_not (k_tru (x_call (x_cons (x_call (x_cons (x_b (x_cons (x_revL (c := (e5 eI eI eI (e2 eI eI) eI)) (x_var rfl) l_L) (x_nil)) (b_tuple (c := (e5 eI eI eI (e2 eI eI) eI)) s_L)) (x_cons (x_var rfl) (x_nil))) (p_v (cR := (eV eI)) (av_c _ _ (av_c _ _ (av_nil))) (r_history_of h13))) (x_cons (x_var rfl) (x_nil))) (p_sameT (c := (eV eI)) h14)) (tr_B _)))) h (fun h => ?_) (fun h => ?_)
      · obtain rfl := Option.some.inj h
        refine w_ret (x_bl _) ?_
        exact r_r (f_v0 eB _)
      · refine w_next ?_
        refine w_assoc ?_
        obtain ⟨own_22, h16, h⟩ := lbnd h
        refine w_setE (c := (eL (e5 eI eI eI (e2 eI eI) eI))) (x_fz (c := (e5 eI eI eI (e2 eI eI) eI)) (x_lc0f (cB := (e5 eI eI eI (e2 eI eI) eI)) (p := fun (entry_21 : (Int × Int × Int × (Int × Int) × Int)) => (decide (entry_21.1 = event_14))) (g := fun (entry_21 : (Int × Int × Int × (Int × Int) × Int)) => entry_21) (i_sq (c := (e5 eI eI eI (e2 eI eI) eI)) (x_var rfl) s_V rfl) chk_0 (fun entry_21 => ⟨_, rfl, x_f2T (x_f2 (x_var rfl) (x_int _) (g_ix at0)) (x_var rfl) (c_eq (c := eI) (v_ec _ _) (v_ec _ _)), x_var rfl⟩))) h16 ?_
        obtain ⟨w_26, h20, h⟩ := bnd h
        refine w_ifT (k_orM (x_f2T (x_f2 (x_b (x_cons (x_var rfl) (x_nil)) (b_len (c := (e5 eI eI eI (e2 eI eI) eI)) s_L)) (x_int _) (g_B (c_eq (c := eI) (v_ec _ _) (v_ec _ _)))) (x_f2 (x_var rfl) (x_co (x_tup0 (x_nil)) (show (eV eI).e (([] : (List Int))) = e0.e (()) from (fun _ => rfl) (()))) (g_B (c_eq (c := (eV eI)) (v_ec _ _) (v_ec _ _)))) (c_ne (c := eB) (v_ec _ _) (v_ec _ _))) h20 (fun h => by obtain ⟨w_25, h19, h⟩ := bnd h; obtain rfl := Option.some.inj h; exact k_andM (x_f2T (x_b (x_cons (x_var rfl) (x_nil)) (b_len (c := (e5 eI eI eI (e2 eI eI) eI)) s_L)) (x_int _) (c_int _)) h19 (fun h => by obtain ⟨x_23, h17, h⟩ := bnd h; obtain ⟨x_24, h18, h⟩ := bnd h; obtain rfl := Option.some.inj h; exact x_f2T (x_f2 (x_f2 (x_var rfl) (x_int _) (g_at (c := (e5 eI eI eI (e2 eI eI) eI)) s_L h17)) (x_int _) (g_ix at1)) (x_f2 (x_var rfl) (x_f1 (x_int _) (g_neg _)) (g_at (c := eI) s_V h18)) (c_ne (c := eI) (v_ec _ _) (v_ec _ _))))) h (fun h => ?_) (fun h => ?_)
        · obtain rfl := Option.some.inj h
          refine w_ret (x_bl _) ?_
          exact r_r (f_v0 eB _)
        · refine w_next ?_
          obtain rfl := Option.some.inj h
          exact w_end (e_r _ ⟨_, _, _, rfl, rfl⟩)
    · rintro e _ _ rfl hq
      obtain rfl := Option.some.inj h9
      exact hq
    · rintro s_27 _ _ rfl ⟨j_28, j_29, j_30, rfl, rfl⟩
      have h := h9
      rw [cas_go] at h
      refine w_assoc ?_
      obtain ⟨y_31, h21, h⟩ := bnd h
      obtain ⟨y_32, h22, h⟩ := bnd h
      obtain ⟨r_85, hs, h23⟩ := bnd h
      refine w_forr (fun (s_33 : (List Int)) ρ M => ∃ j_34 : Option D, ∃ j_35 : Option D, ∃ j_36 : Option D, ∃ j_37 : Option D, ∃ j_38 : Option D, ρ = [some ((eK eI).e v_script), some (.ref 0), some ((eL (e5 eI eI eI (e2 eI eI) eI)).e y_3.1), some ((eV (e5 eI eI eI (e2 eI eI) eI)).e y_4), some ((eL eI).e u_9), j_34, j_28, j_29, j_30, j_35, j_36, j_37, j_38, none] ∧ M = [cl eI s_33]) (fun (e : Bool) d M => fin false 0 d M = some (eB.e e, [])) (cA := eI) (s := y_32.2) (i_sq (c := eI) (x_fz (c := eI) (x_lst (c := eI) [(0 : Int), ((1 : Int) + y_31.1), y_32.1] (x_cons (x_int _) (x_cons (x_f2 (x_int _) (x_callS (x_cons (x_var rfl) (x_cons (x_int _) (x_nil))) (p_s (cR := eI) (c := eI) rfl rfl (av_c eN () (av_c _ _ (av_nil))) (r_law_take h21) rfl)) (g_add _ _)) (x_cons (x_callS (x_cons (x_var rfl) (x_cons (x_int _) (x_nil))) (p_s (cR := eI) (c := eI) rfl rfl (av_c eN () (av_c _ _ (av_nil))) (r_law_take h22) rfl)) (x_nil)))) rfl rfl)) s_L rfl) hs ⟨_, _, _, _, _, rfl, rfl⟩ (fun _ _ _ _ => chk_0) ?_ ?_ ?_
      · rintro many_39 s_33 _ _ _ h ⟨j_34, j_35, j_36, j_37, j_38, rfl, rfl⟩
        refine w_stp rfl ?_
        refine w_add ?_
        refine w_assoc ?_
        obtain ⟨y_40, h24, h⟩ := bnd h
        refine w_set (c := (eL (e2 eI eI))) (x_callS (x_cons (x_var rfl) (x_cons (x_var rfl) (x_cons (x_var rfl) (x_nil)))) (p_s (cR := (eL (e2 eI eI))) (c := eI) rfl rfl (av_c eN () (av_c _ _ (av_c _ _ (av_nil)))) (r_law_cancelled h24) rfl)) ?_
        refine w_assoc ?_
        obtain ⟨y_41, h25, h⟩ := bnd h
        refine w_set (c := (eV (e5 eI eI eI (e2 eI eI) eI))) (x_call (x_cons (x_var rfl) (x_cons (x_var rfl) (x_nil))) (p_v (cR := (eV (e5 eI eI eI (e2 eI eI) eI))) (av_c _ _ (av_c _ _ (av_nil))) (r_law_left h25))) ?_
        refine w_assoc ?_
        obtain ⟨y_42, h26, h⟩ := bnd h
        obtain ⟨q_43, h27, h⟩ := bnd h
        obtain ⟨w_45, h29, h⟩ := bnd h
        refine w_ifT (k_orM (k_not (k_tru (x_call (x_cons (x_call (x_cons (x_b (x_cons (x_var rfl) (x_nil)) (b_tuple (c := (e5 eI eI eI (e2 eI eI) eI)) s_L)) (x_cons (x_b (x_cons (x_var rfl) (x_nil)) (b_tuple (c := (e2 eI eI)) s_L)) (x_nil))) (p_v (cR := (eV (e5 eI eI eI (e2 eI eI) eI))) (av_c _ _ (av_c _ _ (av_nil))) (r_bulletin_without h26))) (x_cons (x_var rfl) (x_nil))) (p_sameT (c := (eV (e5 eI eI eI (e2 eI eI) eI))) h27)) (tr_B _))) h29 (fun h => by obtain ⟨y_44, h28, h⟩ := bnd h; obtain rfl := Option.some.inj h; exact x_f2T (x_call (x_cons (x_var rfl) (x_nil)) (p_v (cR := eB) (av_c _ _ (av_nil)) (r_is_bulletin h28))) (x_bl _) (is_not (is_B _ _)))) h (fun h => ?_) (fun h => ?_)
        · obtain rfl := Option.some.inj h
          refine w_ret (x_bl _) ?_
          exact r_r (f_v0 eB _)
        · refine w_next ?_
          refine w_assoc ?_
          obtain ⟨w_46, h30, h⟩ := bnd h
          obtain ⟨y_47, h31, h⟩ := bnd h
          obtain ⟨q_48, h32, h⟩ := bnd h
          refine w_ifT (k_or (k_not (k_tru (x_call (x_cons (x_call (x_cons (x_var rfl) (x_cons (x_b (x_cons (x_f2 (x_revL (c := (e2 eI eI)) (x_var rfl) l_L) (x_slice (x_var rfl) (o_none) (o_part (x_int _)) (g_slL (c := (e2 eI eI)) l_L)) (g_catL (c := (e2 eI eI)) t_L t_L h30)) (x_nil)) (b_tuple (c := (e2 eI eI)) s_L)) (x_nil))) (p_v (cR := (eV (e5 eI eI eI (e2 eI eI) eI))) (av_c _ _ (av_c _ _ (av_nil))) (r_bulletin_without h31))) (x_cons (x_var rfl) (x_nil))) (p_sameT (c := (eV (e5 eI eI eI (e2 eI eI) eI))) h32)) (tr_B _))) (k_and (x_f2T (x_var rfl) (x_int _) (c_eq (c := eI) (v_ec _ _) (v_ec _ _))) (x_f2T (x_var rfl) (x_var rfl) (c_ne (c := (eV (e5 eI eI eI (e2 eI eI) eI))) (v_ec _ _) (v_ec _ _))))) h (fun h => ?_) (fun h => ?_)
          · obtain rfl := Option.some.inj h
            refine w_ret (x_bl _) ?_
            exact r_r (f_v0 eB _)
          · refine w_next ?_
            refine w_assoc ?_
            obtain ⟨y_49, h33, h⟩ := bnd h
            obtain ⟨w_50, h34, h⟩ := bnd h
            obtain ⟨y_51, h35, h⟩ := bnd h
            refine w_set (c := (eV (e5 eI eI eI (e2 eI eI) eI))) (x_call (x_cons (x_b (x_cons (x_var rfl) (x_nil)) (b_tuple (c := (e5 eI eI eI (e2 eI eI) eI)) s_L)) (x_cons (x_b (x_cons (x_f2 (x_var rfl) (x_callS (x_cons (x_var rfl) (x_cons (x_var rfl) (x_cons (x_int _) (x_nil)))) (p_s (cR := (eL (e2 eI eI))) (c := eI) rfl rfl (av_c eN () (av_c _ _ (av_c _ _ (av_nil)))) (r_law_cancelled h33) rfl)) (g_catL (c := (e2 eI eI)) t_L t_L h34)) (x_nil)) (b_tuple (c := (e2 eI eI)) s_L)) (x_nil))) (p_v (cR := (eV (e5 eI eI eI (e2 eI eI) eI))) (av_c _ _ (av_c _ _ (av_nil))) (r_bulletin_without h35))) ?_
            change WP _ [some ((eK eI).e v_script), some (.ref 0), some ((eL (e5 eI eI eI (e2 eI eI) eI)).e y_3.1), some ((eV (e5 eI eI eI (e2 eI eI) eI)).e y_4), some ((eL eI).e u_9), j_34, j_28, j_29, j_30, some (eI.e many_39), some ((eL (e2 eI eI)).e y_40.1), some ((eV (e5 eI eI eI (e2 eI eI) eI)).e y_41), some ((eV (e5 eI eI eI (e2 eI eI) eI)).e y_51), none] _ _
            refine w_assoc ?_
            refine w_ifT (k_or (k_not (k_tru (x_isi .tup (x_var rfl) rfl) (tr_B _))) (x_f2T (x_b (x_cons (x_fz (c := (e5 eI eI eI (e2 eI eI) eI)) (x_lc0f (cB := (e5 eI eI eI (e2 eI eI) eI)) (p := fun (entry_52 : (Int × Int × Int × (Int × Int) × Int)) => (!(tin entry_52 y_41))) (g := fun (entry_52 : (Int × Int × Int × (Int × Int) × Int)) => entry_52) (i_sq (c := (e5 eI eI eI (e2 eI eI) eI)) (x_var rfl) s_V rfl) chk_0 (fun entry_52 => ⟨_, rfl, x_f2T (x_var rfl) (x_var rfl) (c_notIn (c_in (c := (e5 eI eI eI (e2 eI eI) eI)) (v_ec _ _) i_V)), x_var rfl⟩))) (x_nil)) (b_len (c := (e5 eI eI eI (e2 eI eI) eI)) s_L)) (x_int _) (c_int _))) h (fun h => ?_) (fun h => ?_)
            · obtain rfl := Option.some.inj h
              refine w_ret (x_bl _) ?_
              exact r_r (f_v0 eB _)
            · refine w_next ?_
              refine w_assoc ?_
              obtain ⟨y_53, h36, h⟩ := bnd h
              refine w_ifT (k_not (k_tru (x_callS (x_cons (x_var rfl) (x_cons (x_var rfl) (x_cons (x_b (x_cons (x_var rfl) (x_nil)) (b_tuple (c := (e2 eI eI)) s_L)) (x_cons (x_var rfl) (x_nil))))) (p_s (cR := eB) (c := eI) rfl rfl (av_c eN () (av_c _ _ (av_c _ _ (av_c _ _ (av_nil))))) (r_law_come_back h36) rfl)) (tr_B _))) h (fun h => ?_) (fun h => ?_)
              · obtain rfl := Option.some.inj h
                refine w_ret (x_bl _) ?_
                exact r_r (f_v0 eB _)
              · refine w_next ?_
                obtain ⟨r_62, hs, h37⟩ := bnd h
                refine w_forr (fun (s_54 : Unit) ρ M => ∃ j_55 : Option D, ρ = [some ((eK eI).e v_script), some (.ref 0), some ((eL (e5 eI eI eI (e2 eI eI) eI)).e y_3.1), some ((eV (e5 eI eI eI (e2 eI eI) eI)).e y_4), some ((eL eI).e u_9), j_55, j_28, j_29, j_30, some (eI.e many_39), some ((eL (e2 eI eI)).e y_40.1), some ((eV (e5 eI eI eI (e2 eI eI) eI)).e y_41), some ((eV (e5 eI eI eI (e2 eI eI) eI)).e y_51), none] ∧ M = [cl eI y_53.2]) (fun (e : Bool) d M => fin false 0 d M = some (eB.e e, [])) (cA := (e5 eI eI eI (e2 eI eI) eI)) (s := ()) (i_sq (c := (e5 eI eI eI (e2 eI eI) eI)) (x_slice (x_var rfl) (o_none) (o_part (x_int _)) (g_slL (c := (e5 eI eI eI (e2 eI eI) eI)) l_L)) s_L rfl) hs ⟨_, rfl, rfl⟩ (fun _ _ _ _ => chk_0) ?_ ?_ ?_
                · rintro entry_56 s_54 _ _ _ h ⟨j_55, rfl, rfl⟩
                  refine w_stp rfl ?_
                  refine w_add ?_
                  obtain ⟨y_57, h38, h⟩ := bnd h
                  obtain ⟨y_58, h39, h⟩ := bnd h
                  obtain ⟨q_59, h40, h⟩ := bnd h
                  refine w_ifT (k_not (k_tru (x_call (x_cons (x_call (x_cons (x_call (x_cons (x_var rfl) (x_cons (x_var rfl) (x_nil))) (p_v (cR := (eV (e5 eI eI eI (e2 eI eI) eI))) (av_c _ _ (av_c _ _ (av_nil))) (r_told_later h38))) (x_cons (x_b (x_cons (x_var rfl) (x_nil)) (b_tuple (c := (e2 eI eI)) s_L)) (x_nil))) (p_v (cR := (eV (e5 eI eI eI (e2 eI eI) eI))) (av_c _ _ (av_c _ _ (av_nil))) (r_bulletin_without h39))) (x_cons (x_var rfl) (x_nil))) (p_sameT (c := (eV (e5 eI eI eI (e2 eI eI) eI))) h40)) (tr_B _))) h (fun h => ?_) (fun h => ?_)
                  · obtain rfl := Option.some.inj h
                    refine w_ret (x_bl _) ?_
                    exact r_r (f_v0 eB _)
                  · refine w_next ?_
                    obtain rfl := Option.some.inj h
                    exact w_end (e_r _ ⟨_, rfl, rfl⟩)
                · rintro e _ _ rfl hq
                  obtain rfl := Option.some.inj h37
                  exact r_r (hq)
                · rintro s_60 _ _ rfl ⟨j_61, rfl, rfl⟩
                  have h := h37
                  rw [cas_go] at h
                  obtain rfl := Option.some.inj h
                  exact w_end (e_r _ ⟨_, _, _, _, _, rfl, rfl⟩)
      · rintro e _ _ rfl hq
        obtain rfl := Option.some.inj h23
        exact hq
      · rintro s_63 _ _ rfl ⟨j_64, j_65, j_66, j_67, j_68, rfl, rfl⟩
        have h := h23
        rw [cas_go] at h
        refine w_assoc ?_
        obtain ⟨rows_69, h41, h⟩ := lbnd h
        refine w_setE (c := (e4 (e5 eI eI eI (e2 eI eI) eI) (e5 eI eI eI (e2 eI eI) eI) (e5 eI eI eI (e2 eI eI) eI) (e5 eI eI eI (e2 eI eI) eI))) (x_tup4 (x_cons (x_tup5 (x_cons (x_int _) (x_cons (x_int _) (x_cons (x_int _) (x_cons (x_tup2 (x_cons (x_int _) (x_cons (x_int _) (x_nil)))) (x_cons (x_int _) (x_nil))))))) (x_cons (x_tup5 (x_cons (x_int _) (x_cons (x_int _) (x_cons (x_int _) (x_cons (x_tup2 (x_cons (x_int _) (x_cons (x_int _) (x_nil)))) (x_cons (x_int _) (x_nil))))))) (x_cons (x_tup5 (x_cons (x_int _) (x_cons (x_int _) (x_cons (x_int _) (x_cons (x_tup2 (x_cons (x_int _) (x_cons (x_int _) (x_nil)))) (x_cons (x_int _) (x_nil))))))) (x_cons (x_tup5 (x_cons (x_int _) (x_cons (x_int _) (x_cons (x_int _) (x_cons (x_tup2 (x_cons (x_int _) (x_cons (x_int _) (x_nil)))) (x_cons (x_int _) (x_nil))))))) (x_nil)))))) h41 ?_
        refine w_assoc ?_
        obtain ⟨y_70, h42, h⟩ := bnd h
        obtain ⟨q_71, h43, h⟩ := bnd h
        obtain ⟨w_74, h46, h⟩ := bnd h
        refine w_ifT (k_orM (k_not (k_tru (x_call (x_cons (x_call (x_cons (x_co (x_var rfl) (show (eV (e5 eI eI eI (e2 eI eI) eI)).e ([rows_69.1, rows_69.2.1, rows_69.2.2.1, rows_69.2.2.2]) = (e4 (e5 eI eI eI (e2 eI eI) eI) (e5 eI eI eI (e2 eI eI) eI) (e5 eI eI eI (e2 eI eI) eI) (e5 eI eI eI (e2 eI eI) eI)).e rows_69 from (fun _ => rfl) rows_69)) (x_cons (x_int _) (x_nil))) (p_v (cR := (eV eI)) (av_c _ _ (av_c _ _ (av_nil))) (r_history_of h42))) (x_cons (x_co (x_tup2 (x_cons (x_int _) (x_cons (x_int _) (x_nil)))) (show (eV eI).e ([(((1 : Int), (3 : Int))).1, (((1 : Int), (3 : Int))).2]) = (e2 eI eI).e (((1 : Int), (3 : Int))) from (fun _ => rfl) (((1 : Int), (3 : Int))))) (x_nil))) (p_sameT (c := (eV eI)) h43)) (tr_B _))) h46 (fun h => by obtain ⟨y_72, h44, h⟩ := bnd h; obtain ⟨q_73, h45, h⟩ := bnd h; obtain rfl := Option.some.inj h; exact k_not (k_tru (x_call (x_cons (x_call (x_cons (x_co (x_var rfl) (show (eV (e5 eI eI eI (e2 eI eI) eI)).e ([rows_69.1, rows_69.2.1, rows_69.2.2.1, rows_69.2.2.2]) = (e4 (e5 eI eI eI (e2 eI eI) eI) (e5 eI eI eI (e2 eI eI) eI) (e5 eI eI eI (e2 eI eI) eI) (e5 eI eI eI (e2 eI eI) eI)).e rows_69 from (fun _ => rfl) rows_69)) (x_cons (x_int _) (x_nil))) (p_v (cR := (eV eI)) (av_c _ _ (av_c _ _ (av_nil))) (r_history_of h44))) (x_cons (x_co (x_tup0 (x_nil)) (show (eV eI).e (([] : (List Int))) = e0.e (()) from (fun _ => rfl) (()))) (x_nil))) (p_sameT (c := (eV eI)) h45)) (tr_B _)))) h (fun h => ?_) (fun h => ?_)
        · obtain rfl := Option.some.inj h
          refine w_ret (x_bl _) ?_
          exact f_v0 eB _
        · refine w_next ?_
          refine w_assoc ?_
          obtain ⟨y_75, h47, h⟩ := bnd h
          obtain ⟨q_76, h48, h⟩ := bnd h
          obtain ⟨w_79, h51, h⟩ := bnd h
          refine w_ifT (k_orM (k_not (k_tru (x_call (x_cons (x_call (x_cons (x_co (x_var rfl) (show (eV (e5 eI eI eI (e2 eI eI) eI)).e ([rows_69.1, rows_69.2.1, rows_69.2.2.1, rows_69.2.2.2]) = (e4 (e5 eI eI eI (e2 eI eI) eI) (e5 eI eI eI (e2 eI eI) eI) (e5 eI eI eI (e2 eI eI) eI) (e5 eI eI eI (e2 eI eI) eI)).e rows_69 from (fun _ => rfl) rows_69)) (x_cons (x_co (x_tup2 (x_cons (x_tup2 (x_cons (x_int _) (x_cons (x_int _) (x_nil)))) (x_cons (x_tup2 (x_cons (x_int _) (x_cons (x_int _) (x_nil)))) (x_nil)))) (show (eV (e2 eI eI)).e ([((((7 : Int), (2 : Int)), ((3 : Int), (0 : Int)))).1, ((((7 : Int), (2 : Int)), ((3 : Int), (0 : Int)))).2]) = (e2 (e2 eI eI) (e2 eI eI)).e ((((7 : Int), (2 : Int)), ((3 : Int), (0 : Int)))) from (fun _ => rfl) ((((7 : Int), (2 : Int)), ((3 : Int), (0 : Int)))))) (x_nil))) (p_v (cR := (eV (e5 eI eI eI (e2 eI eI) eI))) (av_c _ _ (av_c _ _ (av_nil))) (r_bulletin_without h47))) (x_cons (x_co ((show _ = some ((e1 (e5 eI eI eI (e2 eI eI) eI)).e rows_69.2.2.1, _) from x_slice (x_var rfl) (o_part (x_int _)) (o_part (x_int _)) (g_slT (by rfl)))) (show (eV (e5 eI eI eI (e2 eI eI) eI)).e ([rows_69.2.2.1]) = (e1 (e5 eI eI eI (e2 eI eI) eI)).e rows_69.2.2.1 from (fun _ => rfl) rows_69.2.2.1)) (x_nil))) (p_sameT (c := (eV (e5 eI eI eI (e2 eI eI) eI))) h48)) (tr_B _))) h51 (fun h => by obtain ⟨y_77, h49, h⟩ := bnd h; obtain ⟨q_78, h50, h⟩ := bnd h; obtain rfl := Option.some.inj h; exact k_not (k_tru (x_call (x_cons (x_call (x_cons (x_co (x_var rfl) (show (eV (e5 eI eI eI (e2 eI eI) eI)).e ([rows_69.1, rows_69.2.1, rows_69.2.2.1, rows_69.2.2.2]) = (e4 (e5 eI eI eI (e2 eI eI) eI) (e5 eI eI eI (e2 eI eI) eI) (e5 eI eI eI (e2 eI eI) eI) (e5 eI eI eI (e2 eI eI) eI)).e rows_69 from (fun _ => rfl) rows_69)) (x_cons (x_co (x_tup1 (x_cons (x_tup2 (x_cons (x_int _) (x_cons (x_int _) (x_nil)))) (x_nil))) (show (eV (e2 eI eI)).e ([(((7 : Int), (3 : Int)))]) = (e1 (e2 eI eI)).e (((7 : Int), (3 : Int))) from (fun _ => rfl) (((7 : Int), (3 : Int))))) (x_nil))) (p_v (cR := (eV (e5 eI eI eI (e2 eI eI) eI))) (av_c _ _ (av_c _ _ (av_nil))) (r_bulletin_without h49))) (x_cons (x_co ((show _ = some ((e1 (e5 eI eI eI (e2 eI eI) eI)).e rows_69.2.1, _) from x_slice (x_var rfl) (o_part (x_int _)) (o_part (x_int _)) (g_slT (by rfl)))) (show (eV (e5 eI eI eI (e2 eI eI) eI)).e ([rows_69.2.1]) = (e1 (e5 eI eI eI (e2 eI eI) eI)).e rows_69.2.1 from (fun _ => rfl) rows_69.2.1)) (x_nil))) (p_sameT (c := (eV (e5 eI eI eI (e2 eI eI) eI))) h50)) (tr_B _)))) h (fun h => ?_) (fun h => ?_)
          · obtain rfl := Option.some.inj h
            refine w_ret (x_bl _) ?_
            exact f_v0 eB _
          · refine w_next ?_
            obtain ⟨y_80, h52, h⟩ := bnd h
            obtain ⟨q_81, h53, h⟩ := bnd h
            obtain ⟨w_84, h56, h⟩ := bnd h
            obtain rfl := Option.some.inj h
            refine w_ret (x_andM (x_call (x_cons (x_call (x_cons (x_co (x_tup0 (x_nil)) (show (eV (e5 eI eI eI (e2 eI eI) eI)).e (([] : (List (Int × Int × Int × (Int × Int) × Int)))) = e0.e (()) from (fun _ => rfl) (()))) (x_cons (x_co (x_tup1 (x_cons (x_tup2 (x_cons (x_int _) (x_cons (x_int _) (x_nil)))) (x_nil))) (show (eV (e2 eI eI)).e ([(((1 : Int), (1 : Int)))]) = (e1 (e2 eI eI)).e (((1 : Int), (1 : Int))) from (fun _ => rfl) (((1 : Int), (1 : Int))))) (x_nil))) (p_v (cR := (eV (e5 eI eI eI (e2 eI eI) eI))) (av_c _ _ (av_c _ _ (av_nil))) (r_bulletin_without h52))) (x_cons (x_co (x_tup0 (x_nil)) (show (eV (e5 eI eI eI (e2 eI eI) eI)).e (([] : (List (Int × Int × Int × (Int × Int) × Int)))) = e0.e (()) from (fun _ => rfl) (()))) (x_nil))) (p_sameT (c := (eV (e5 eI eI eI (e2 eI eI) eI))) h53)) h56 (fun h => by obtain ⟨y_82, h54, h⟩ := bnd h; obtain ⟨q_83, h55, h⟩ := bnd h; obtain rfl := Option.some.inj h; exact x_call (x_cons (x_call (x_cons (x_b (x_cons (x_var rfl) (x_nil)) (b_tuple (c := (e5 eI eI eI (e2 eI eI) eI)) s_L)) (x_nil)) (p_v (cR := (eV (e5 eI eI eI (e2 eI eI) eI))) (av_c _ _ (av_nil)) (r_bulletin_of h54))) (x_cons (x_var rfl) (x_nil))) (p_sameT (c := (eV (e5 eI eI eI (e2 eI eI) eI))) h55))) ?_
            exact f_v0 eB _
end LP
namespace LP
open PySem PySem.Spec PyProof.Rows L2 PF TL
theorem take_sp {ds : List Int} {m : Int} (hm : 0 < m) : Post (t_law_take ds m) fun r => 0 ≤ r.1 ∧ r.1 < m := by
  unfold t_law_take
  refine Post.ite (fun _ => Post.pure ⟨Int.le_refl _, hm⟩) fun h => ?_
  have hl : ds.length - 1 < ds.length := by
    have : ds.length ≠ 0 := fun z => h (by simp [z])
    omega
  refine Post.bind (P := fun _ => True) ⟨_, by unfold tpop; rw [List.getElem?_eq_getElem hl]; rfl, trivial⟩ fun p _ => ?_
  refine Post.eqb (tmod_ok (by omega)) (Post.pure ?_)
  exact fmod_pos hm
theorem draws_sp (ns : List Int) {many : Int} (h0 : 0 ≤ many) (h1 : many ≤ 100000) (hn : ns.length ≤ 1000) : Post (t_law_draws ns many) fun _ => True := by
  unfold t_law_draws
  refine Post.let ?_
  refine Post.bind (P := fun s : List Int => 0 < s.length) ?_ fun s3 hs => ?_
  · refine Post.ite (fun h => ?_) fun h => Post.pure ?_
    · refine Post.eqb (tapp_ok (by rw [List.length_map]; omega)) (Post.pure ?_)
      simp
    · have : ns ≠ [] := fun z => h (by simp [z])
      have := List.length_pos_iff.mpr this
      simpa using this
  refine Post.eqb (trg_of (by omega) (by omega) (by omega) (by omega)) ?_
  refine Post.bind (P := fun _ => True) ?_ fun s _ => Post.pure trivial
  refine Post.imp (tfold_post (fun pre (s : List Int × List Int) => s.1.length = s3.length ∧ s.2.length ≤ pre.length) ⟨rfl, Nat.le_refl _⟩ ?_) fun _ _ => trivial
  rintro pre k suf ⟨rest, draws⟩ hxs ⟨i1, i2⟩
  have hp : pre.length < 100000 := by
    have := congrArg List.length hxs
    simp only [len_upto, List.length_append, List.length_cons] at this
    omega
  have hk : 0 ≤ k := by
    have : k ∈ upto 0 (many - 0).toNat := by rw [hxs]; simp
    exact (mem_upto.mp this).1
  dsimp only at i1 i2 ⊢
  have hm := fmod_pos (a := k) (b := s3.length) (by omega)
  refine Post.eqb (tmod_ok (by omega)) ?_
  obtain ⟨x, hx, _, _⟩ := tat_in (xs := s3) hm.1 hm.2
  obtain ⟨y, hy, _, _⟩ := tat_in (xs := rest) (i := k.fmod s3.length) hm.1 (by omega)
  rw [hx, Option.bind_some]
  refine Post.bind (P := fun _ => True) ?_ fun b _ => ?_
  · refine Post.ite (fun _ => ?_) fun _ => Post.pure trivial
    rw [hy]; exact Post.pure trivial
  refine Post.bind (P := fun s : List Int × List Int => s.1.length = s3.length ∧ s.2.length ≤ pre.length + 1) ?_ fun s h => Post.pure (by simpa using h)
  refine Post.ite (fun _ => ?_) fun _ => ?_
  · rw [hy, Option.bind_some, tapp_ok (by omega), Option.bind_some, Option.bind_some]
    have e : tset rest (k.fmod s3.length) (y.fdiv 1000) = some (rest.set (k.fmod s3.length).toNat (y.fdiv 1000)) := by
      unfold tset L2.ixN
      rw [if_pos hm.1, if_pos (by omega)]; rfl
    rw [e]
    exact Post.pure ⟨by simp [i1], by simp; omega⟩
  · rw [Option.bind_some]
    refine Post.let ?_
    have hv := fmod_pos (a := x * 48271 + k * 69621 + 11) (b := 2147483647) (by decide)
    refine Post.eqb (tmul_r (by omega)) (Post.eqb (tapp_ok (by omega)) (Post.pure ⟨i1, by simp; omega⟩))
theorem cell_sp (ns ds : List Int) : Post (t_law_cell ns ds) fun r => r.1.natAbs < 10 ^ 60 := by
  unfold t_law_cell
  refine Post.ite (fun _ => Post.pure (show (0 : Int).natAbs < 10 ^ 60 from by decide)) fun h => ?_
  have hl : 0 < (ns.length : Int) := by
    have : (ns.length : Int) ≠ 0 := fun z => h (by simpa using z)
    omega
  refine Post.bind (take_sp hl) fun y hy => ?_
  obtain ⟨x, hx, _, _⟩ := tat_in (xs := ns) hy.1 hy.2
  rw [hx, Option.bind_some]
  have hv := fmod_pos (a := (x.natAbs : Int)) (b := (10 : Int) ^ 60) (by decide)
  by_cases hc : x < 0
  · refine Post.eqb (a := -1) (by rw [if_pos (decide_eq_true hc)]; rfl) (Post.eqb (tmul_r (by decide)) (Post.pure ?_))
    show (Int.fmod (x.natAbs : Int) (10 ^ 60) * -1).natAbs < 10 ^ 60
    omega
  · refine Post.eqb (a := 1) (by rw [if_neg (by simpa using hc)]; rfl) (Post.eqb (tmul_r (by decide)) (Post.pure ?_))
    show (Int.fmod (x.natAbs : Int) (10 ^ 60) * 1).natAbs < 10 ^ 60
    omega
theorem okV_of {A : Type} {f : A → Bool} {xs : List A} (h : xs.length ≤ 1000000) (h2 : ∀ x ∈ xs, f x = true) : okV f xs = true := by
  unfold okV
  rw [Bool.and_eq_true, List.all_eq_true]
  exact ⟨Nat.ble_eq.mpr h, h2⟩
theorem tsame_ok {A : Type} [DecidableEq A] {ok : A → Bool} {a : A} (h : ok a = true) : tsame ok a a = some true := by
  unfold tsame
  rw [h]; simp
/-- a loop that appends g x where q x says so -/
theorem fold_sel {A B : Type} {f : A → List B → Option (List B)} {q : A → Bool} {g : A → B} : ∀ (xs : List A) (acc : List B), (∀ x ∈ xs, ∀ s : List B, s.length < 10000000 → f x s = some (if q x = true then s ++ [g x] else s)) → acc.length + xs.length ≤ 10000000 → tfold f xs acc = some (acc ++ (xs.filter q).map g)
  | [], acc, _, _ => by simp [tfold]
  | x :: xs, acc, h, hl => by
    rw [List.length_cons] at hl
    rw [tfold, h x (by simp) acc (by omega), Option.bind_some]
    by_cases hq : q x = true
    · rw [if_pos hq, fold_sel xs _ (fun y hy => h y (List.mem_cons_of_mem _ hy)) (by simp; omega), List.filter_cons_of_pos hq, List.map_cons, List.append_assoc]; rfl
    · rw [if_neg hq, fold_sel xs _ (fun y hy => h y (List.mem_cons_of_mem _ hy)) (by omega), List.filter_cons_of_neg hq]
/-- the same, nothing before it and x itself appended -/
theorem fold_self {A : Type} {f : A → List A → Option (List A)} {q : A → Bool} {xs : List A} (h : ∀ x ∈ xs, ∀ s : List A, s.length < 10000000 → f x s = some (if q x = true then s ++ [x] else s)) (hl : xs.length ≤ 10000000) : tfold f xs [] = some (xs.filter q) := by
  have := fold_sel (g := id) xs [] h (by simpa using hl)
  rw [this, List.map_id]; rfl
theorem idx_map {A : Type} {xs : List A} {G : Int → A} (h : ∀ (k : Nat) x, xs[k]? = some x → G k = x) : (upto 0 xs.length).map G = xs := by
  apply List.ext_getElem?
  intro k
  rw [List.getElem?_map]
  by_cases hk : k < xs.length
  · rw [get_upto hk, List.getElem?_eq_getElem hk, Option.map_some]
    rw [Int.zero_add, h k _ (List.getElem?_eq_getElem hk)]
  · rw [List.getElem?_eq_none (by simpa using Nat.le_of_not_lt hk), List.getElem?_eq_none (by simpa [len_upto] using Nat.le_of_not_lt hk)]; rfl
theorem idx_filter {A : Type} {xs : List A} {G : Int → A} {q : A → Bool} {q' : Int → Bool} (h : ∀ (k : Nat) x, xs[k]? = some x → G k = x) (h2 : ∀ (k : Nat) x, xs[k]? = some x → q' k = q x) : ((upto 0 xs.length).filter q').map G = xs.filter q := by
  have e : (upto 0 xs.length).filter q' = (upto 0 xs.length).filter (q ∘ G) := by
    refine List.filter_congr fun x hx => ?_
    obtain ⟨a, b⟩ := mem_upto.mp hx
    obtain ⟨k, rfl⟩ := Int.eq_ofNat_of_zero_le a
    have hk : k < xs.length := by omega
    have := List.getElem?_eq_getElem hk
    rw [Function.comp_apply, h k _ this, h2 k _ this]
  rw [e]
  rw [← List.filter_map, idx_map h]
theorem upto_nodup (lo : Int) (n : Nat) : (upto lo n).Nodup := by
  unfold upto
  exact List.Pairwise.map _ (fun a b (h : a ≠ b) => by omega) List.nodup_range
theorem small_div {b : Int} (h : b.natAbs < 2 ^ 400) : b.natAbs < 2 ^ 9000 := Nat.lt_of_lt_of_le h (Nat.pow_le_pow_right (by decide) (by decide))
theorem sIx_n {n d k : Nat} : HT.sIx n d (some (k : Int)) = min k n := by
  unfold HT.sIx
  simp only []
  try split <;> omega
theorem cut_to {A : Type} (xs : List A) (k : Nat) : cut xs none (some (k : Int)) = xs.take k := by
  unfold cut
  rw [sIx_n]
  show (xs.drop 0).take (min k xs.length - 0) = _
  rw [List.drop_zero, Nat.sub_zero]
  rcases Nat.le_total k xs.length with h | h
  · rw [Nat.min_eq_left h]
  · rw [Nat.min_eq_right h, List.take_of_length_le (Nat.le_refl _), List.take_of_length_le h]
theorem cut_from {A : Type} (xs : List A) (k : Nat) : cut xs (some (k : Int)) none = xs.drop k := by
  unfold cut
  rw [sIx_n]
  show (xs.drop (min k xs.length)).take (xs.length - min k xs.length) = _
  rw [List.take_of_length_le (by simp)]
  rcases Nat.le_total k xs.length with h | h
  · rw [Nat.min_eq_left h]
  · rw [Nat.min_eq_right h, List.drop_of_length_le (Nat.le_refl _), List.drop_of_length_le h]
theorem cut_mid {A : Type} (xs : List A) (j k : Nat) : cut xs (some (j : Int)) (some (k : Int)) = (xs.drop j).take (k - j) := by
  unfold cut
  rw [sIx_n, sIx_n]
  rcases Nat.le_total j xs.length with h | h
  · rw [Nat.min_eq_left h]
    rcases Nat.le_total k xs.length with g | g
    · rw [Nat.min_eq_left g]
    · rw [Nat.min_eq_right g, List.take_of_length_le (by simp), List.take_of_length_le (by simp; omega)]
  · rw [Nat.min_eq_right h, List.drop_of_length_le (Nat.le_refl _), List.drop_of_length_le h, List.take_nil, List.take_nil]
/-- a list without its k-th -/
theorem cut_out {A : Type} {xs : List A} {k : Nat} {x : A} (h : xs[k]? = some x) : xs = xs.take k ++ x :: xs.drop (k + 1) := by
  obtain ⟨hk, rfl⟩ := List.getElem?_eq_some_iff.mp h
  rw [List.getElem_cons_drop, List.take_append_drop]
theorem foldl_pick {A : Type} {lt : A → A → Bool} : ∀ (xs : List A) (x : A), xs.foldl (fun a y => if lt y a = true then y else a) x ∈ x :: xs
  | [], x => by simp
  | y :: ys, x => by
    rw [List.foldl_cons]
    have := foldl_pick (lt := lt) ys (if lt y x = true then y else x)
    rcases List.mem_cons.mp this with e | e
    · rw [e]; split <;> simp
    · exact List.mem_cons_of_mem _ (List.mem_cons_of_mem _ e)
theorem tmin_mem {A : Type} {lt : A → A → Bool} {xs : List A} (h : xs ≠ []) : Post (tmin lt xs) (· ∈ xs) := by
  cases xs with
  | nil => exact absurd rfl h
  | cons x xs => exact ⟨_, rfl, foldl_pick xs x⟩
theorem foldl_least {A : Type} {lt : A → A → Bool} (h : Lin lt) : ∀ (xs : List A) (x : A), ∀ y ∈ x :: xs, lt y (xs.foldl (fun a y => if lt y a = true then y else a) x) = false
  | [], x, y, hy => by
    rw [List.mem_singleton] at hy
    rw [hy]
    rcases h.to x x with e | e <;> exact e
  | z :: zs, x, y, hy => by
    rw [List.foldl_cons]
    have ih := foldl_least h zs (if lt z x = true then z else x)
    by_cases e : lt z x = true
    · rw [if_pos e] at ih ⊢
      rcases List.mem_cons.mp hy with rfl | hy
      · refine h.tr _ z _ (ih z (by simp)) ?_
        rcases h.to z y with q | q
        · rw [e] at q; cases q
        · exact q
      · exact ih y hy
    · rw [if_neg e] at ih ⊢
      rcases List.mem_cons.mp hy with rfl | hy
      · exact ih y (by simp)
      · rcases List.mem_cons.mp hy with rfl | hy
        · exact h.tr _ x _ (ih x (by simp)) (Bool.eq_false_iff.mpr e)
        · exact ih y (List.mem_cons_of_mem _ hy)
theorem tmin_least {A : Type} {lt : A → A → Bool} (h : Lin lt) {xs : List A} (hne : xs ≠ []) : Post (tmin lt xs) fun m => m ∈ xs ∧ ∀ y ∈ xs, lt y m = false := by
  cases xs with
  | nil => exact absurd rfl hne
  | cons x xs => exact ⟨_, rfl, foldl_pick xs x, foldl_least h xs x⟩
theorem tminG_is {A : Type} {lt : A → A → Bool} (h : Lin lt) {xs : List A} {m : A} (hm : m ∈ xs) (hl : ∀ y ∈ xs, lt y m = false) : tmin lt xs = some m := by
  have hne : xs ≠ [] := fun e => by rw [e] at hm; cases hm
  obtain ⟨k, e, h1, h2⟩ := tmin_least h hne
  rw [e, h.an k m (hl k h1) (h2 m hm)]
theorem lin_ltV {A : Type} [DecidableEq A] {l : A → A → Bool} (h : Lin l) : Lin (ltV l) := by
  have irr : ∀ x, l x x = false := fun x => by rcases h.to x x with e | e <;> exact e
  refine ⟨?_, ?_, ?_⟩
  · intro a
    induction a with
    | nil =>
      intro b c p q
      cases c <;> cases b <;> simp_all [ltV]
    | cons x xs ih =>
      intro b c p q
      cases b with
      | nil => simp [ltV] at p
      | cons y ys =>
        cases c with
        | nil => simp [ltV] at q
        | cons z zs =>
          rw [ltV] at p q ⊢
          by_cases e1 : y = x
          · rw [if_pos e1] at p
            by_cases e2 : z = y
            · rw [if_pos e2] at q
              rw [if_pos (e2.trans e1)]
              exact ih _ _ p q
            · rw [if_neg e2] at q
              rw [if_neg fun w => e2 (w.trans e1.symm), ← e1]
              exact q
          · rw [if_neg e1] at p
            by_cases e2 : z = y
            · rw [if_neg fun w => e1 (e2.symm.trans w), e2]
              exact p
            · rw [if_neg e2] at q
              by_cases e3 : z = x
              · exfalso
                rw [e3] at q
                exact e1 (h.an _ _ p q)
              · rw [if_neg e3]
                exact h.tr _ _ _ p q
  · intro a
    induction a with
    | nil => intro b; cases b <;> simp [ltV]
    | cons x xs ih =>
      intro b
      cases b with
      | nil => simp [ltV]
      | cons y ys =>
        rw [ltV, ltV]
        by_cases e : x = y
        · rw [if_pos e, if_pos e.symm]; exact ih ys
        · rw [if_neg e, if_neg fun w => e w.symm]; exact h.to _ _
  · intro a
    induction a with
    | nil => intro b p q; cases b with
      | nil => rfl
      | cons y ys => simp [ltV] at p
    | cons x xs ih =>
      intro b p q
      cases b with
      | nil => simp [ltV] at q
      | cons y ys =>
        rw [ltV] at p q
        by_cases e : x = y
        · rw [if_pos e] at p
          rw [if_pos e.symm] at q
          rw [e, ih ys p q]
        · rw [if_neg e] at p
          rw [if_neg fun w => e w.symm] at q
          exact absurd (h.an _ _ p q) e
/-! the k-th least -/
theorem kth_iff : ∀ {L : List Int}, L.Pairwise (· ≤ ·) → ∀ {j : Nat} {x v : Int}, L[j]? = some x → (x ≤ v ↔ j < L.countP fun y => decide (y ≤ v))
  | [], _, j, x, v, h => by simp at h
  | a :: L, hs, j, x, v, h => by
    have h1 := List.pairwise_cons.mp hs
    rw [List.countP_cons]
    by_cases ha : a ≤ v
    · rw [if_pos (decide_eq_true ha)]
      cases j with
      | zero => simp at h; subst h; simp [ha]
      | succ j =>
        rw [kth_iff h1.2 (by simpa using h : L[j]? = some x)]
        omega
    · rw [if_neg (by simpa using ha)]
      have hz : L.countP (fun y => decide (y ≤ v)) = 0 := List.countP_eq_zero.mpr fun y hy => by
        have := h1.1 y hy
        simp; omega
      have hx : a ≤ x := by
        cases j with
        | zero => simp at h; omega
        | succ j => exact h1.1 x (List.mem_of_getElem? (by simpa using h : L[j]? = some x))
      omega
theorem srt_iff {xs : List Int} {j : Nat} {x v : Int} (h : (tsort (fun a b : Int => decide (a < b)) xs)[j]? = some x) : x ≤ v ↔ j < xs.countP fun y => decide (y ≤ v) := by
  rw [kth_iff (srt_le xs) h, (srt_perm xs).countP_eq]
theorem srt_some {xs : List Int} {j : Nat} (h : j < xs.length) : ∃ x, (tsort (fun a b : Int => decide (a < b)) xs)[j]? = some x ∧ x ∈ xs := by
  have hl : j < (tsort (fun a b : Int => decide (a < b)) xs).length := by rw [srt_len]; exact h
  exact ⟨(tsort (fun a b : Int => decide (a < b)) xs)[j], List.getElem?_eq_getElem hl, srt_mem.mp (List.getElem_mem hl)⟩
theorem srt_none {xs : List Int} {j : Nat} (h : xs.length ≤ j) : (tsort (fun a b : Int => decide (a < b)) xs)[j]? = none := List.getElem?_eq_none (by rw [srt_len]; exact h)
theorem countP_mono : ∀ {xs ys : List Int} {v : Int}, xs.length = ys.length → (∀ (i : Nat) (x y : Int), xs[i]? = some x → ys[i]? = some y → x ≤ y) → ys.countP (fun y => decide (y ≤ v)) ≤ xs.countP fun y => decide (y ≤ v)
  | [], [], v, _, _ => Nat.le_refl _
  | [], _ :: _, _, h, _ => by simp at h
  | _ :: _, [], _, h, _ => by simp at h
  | x :: xs, y :: ys, v, h, hp => by
    have ih := countP_mono (xs := xs) (ys := ys) (v := v) (by simpa using h) fun i a b ha hb => hp (i + 1) a b (by simpa using ha) (by simpa using hb)
    have h0 := hp 0 x y rfl rfl
    rw [List.countP_cons, List.countP_cons]
    by_cases hy : y ≤ v
    · rw [if_pos (decide_eq_true hy), if_pos (decide_eq_true (by omega))]; omega
    · rw [if_neg (by simpa using hy)]; split <;> omega
theorem srt_mono {xs ys : List Int} (hl : xs.length = ys.length) (hp : ∀ (i : Nat) (x y : Int), xs[i]? = some x → ys[i]? = some y → x ≤ y) {j : Nat} {x y : Int} (hx : (tsort (fun a b : Int => decide (a < b)) xs)[j]? = some x) (hy : (tsort (fun a b : Int => decide (a < b)) ys)[j]? = some y) : x ≤ y := by
  rw [srt_iff hx]
  exact Nat.lt_of_lt_of_le ((srt_iff hy).mp (Int.le_refl _)) (countP_mono hl hp)
theorem srt_more {xs : List Int} {z : Int} {j : Nat} {x y : Int} (hx : (tsort (fun a b : Int => decide (a < b)) (xs ++ [z]))[j]? = some x) (hy : (tsort (fun a b : Int => decide (a < b)) xs)[j]? = some y) : x ≤ y := by
  rw [srt_iff hx, List.countP_append]
  have := (srt_iff hy).mp (Int.le_refl _)
  omega
theorem srt_add (xs : List Int) (t : Int) : tsort (fun a b : Int => decide (a < b)) (xs.map (t + ·)) = (tsort (fun a b : Int => decide (a < b)) xs).map (t + ·) := by
  refine sort_uniq ((srt_perm _).trans ((srt_perm xs).map _).symm) (srt_le _) ?_
  exact List.Pairwise.map _ (fun a b (h : a ≤ b) => by show t + a ≤ t + b; omega) (srt_le xs)
end LP
namespace LP
open PySem PySem.Spec PyProof.Rows L2 PF TL
abbrev lt2 := lx (fun a b : Int => decide (a < b)) (fun a b : Int => decide (a < b))
abbrev En := Int × Int × Int × (Int × Int) × Int
abbrev ltI1 : Int → Int → Bool := fun a b => decide (a < b)
abbrev ltE : En → En → Bool := lx (fun a b : Int => decide (a < b)) (lx (fun a b : Int => decide (a < b)) (lx (fun a b : Int => decide (a < b)) (lx (lx (fun a b : Int => decide (a < b)) (fun a b : Int => decide (a < b))) (fun a b : Int => decide (a < b)))))
theorem linE : Lin ltE := lin_lx lin_int (lin_lx lin_int (lin_lx lin_int (lin_lx lin2 lin_int)))
theorem Lin.ir {A : Type} {lt : A → A → Bool} (h : Lin lt) (a : A) : lt a a = false := by rcases h.to a a with q | q <;> exact q
theorem Lin.flip {A : Type} {lt : A → A → Bool} (h : Lin lt) : Lin fun a b => lt b a := ⟨fun a b c p q => h.tr c b a q p, fun a b => (h.to a b).symm, fun a b p q => h.an a b q p⟩
theorem tmaxG_is {A : Type} {lt : A → A → Bool} (h : Lin lt) {xs : List A} {m : A} (hm : m ∈ xs) (hl : ∀ y ∈ xs, lt m y = false) : tmax lt xs = some m := by
  have e : tmax lt xs = tmin (fun a b => lt b a) xs := by cases xs <;> rfl
  rw [e]
  exact tminG_is h.flip hm hl
theorem lx_le {A B : Type} [DecidableEq A] {l1 : A → A → Bool} {l2 : B → B → Bool} (h : Lin l1) {b e : A × B} : lx l1 l2 b e = false ↔ l1 b.1 e.1 = false ∧ (b.1 = e.1 → l2 b.2 e.2 = false) := by
  unfold lx
  by_cases c : b.1 = e.1
  · rw [if_pos c]
    exact ⟨fun z => ⟨by rw [c]; exact h.ir _, fun _ => z⟩, fun z => z.2 c⟩
  · rw [if_neg c]
    exact ⟨fun z => ⟨z, fun y => absurd y c⟩, fun z => z.1⟩
/-- no more than -/
abbrev LeE (e b : En) : Prop := ltE b e = false
theorem leE_iff {e b : En} : LeE e b ↔ e.1 ≤ b.1 ∧ (b.1 = e.1 → e.2.1 ≤ b.2.1 ∧ (b.2.1 = e.2.1 → e.2.2.1 ≤ b.2.2.1 ∧ (b.2.2.1 = e.2.2.1 → lt2 b.2.2.2.1 e.2.2.2.1 = false ∧ (b.2.2.2.1 = e.2.2.2.1 → e.2.2.2.2 ≤ b.2.2.2.2)))) := by
  unfold LeE ltE lt2
  rw [lx_le lin_int, lx_le lin_int, lx_le lin_int, lx_le lin2]
  simp only [decide_eq_false_iff_not, Int.not_lt]
/-- the greatest of its event -/
def Top (es : List En) (b : En) : Prop := b ∈ es ∧ ∀ e ∈ es, e.1 = b.1 → LeE e b
theorem Top.eq {es : List En} {a b : En} (ha : Top es a) (hb : Top es b) (h : a.1 = b.1) : a = b := linE.an a b (ha.2 b hb.1 h.symm) (hb.2 a ha.1 h)
structure IsB (es B : List En) : Prop where
  lt : B.Pairwise fun a b => a.1 < b.1
  m : ∀ b, b ∈ B ↔ Top es b
theorem isB_sort {es B : List En} (h : IsB es B) : tsort ltE B = B := tsort_uniq linE (List.Perm.refl _) (h.lt.imp fun {a b} z => by
  have : LeE a b := leE_iff.mpr ⟨by omega, fun y => by omega⟩
  exact this)
theorem isB_nodup {es B : List En} (h : IsB es B) : B.Nodup := h.lt.imp fun {a b} z e => by rw [e] at z; omega
theorem IsB.uniq {es es' B B' : List En} (h : IsB es B) (h' : IsB es' B') (he : ∀ b, Top es b ↔ Top es' b) : B = B' := by
  rw [← isB_sort h, ← isB_sort h']
  exact tsort_eq linE ((List.perm_ext_iff_of_nodup (isB_nodup h) (isB_nodup h')).mpr fun b => by rw [h.m, h'.m, he])
/-- what entries_by_event keeps -/
def EvD (pre : List En) (d : List (Int × En)) : Prop := ∀ v, (dget d v = none → ∀ e ∈ pre, e.1 ≠ v) ∧ ∀ b, dget d v = some b → b.1 = v ∧ Top pre b
theorem EvD.put {pre : List En} {d : List (Int × En)} (h : EvD pre d) (e : En) : EvD (pre ++ [e]) (dput d e.1 (if ltE e ((dget d e.1).getD e) = true then (dget d e.1).getD e else e)) := by
  have old : ∀ {b : En}, Top pre b → LeE e b → Top (pre ++ [e]) b := fun {b} hb hl => ⟨List.mem_append.mpr (.inl hb.1), fun x hx hv => by
    rcases List.mem_append.mp hx with q | q
    · exact hb.2 x q hv
    · rw [List.mem_singleton.mp q]; exact hl⟩
  intro v
  rw [dget_put]
  by_cases c : e.1 = v
  · subst c
    rw [if_pos rfl]
    refine ⟨fun z => (nomatch z), fun b hb => ?_⟩
    cases hb
    cases hd : dget d e.1 with
    | none =>
      rw [Option.getD_none, ite_self]
      refine ⟨rfl, by simp, fun x hx hv => ?_⟩
      rcases List.mem_append.mp hx with q | q
      · exact absurd hv ((h e.1).1 hd x q)
      · rw [List.mem_singleton.mp q]; exact linE.ir e
    | some w =>
      rw [Option.getD_some]
      obtain ⟨w1, w2⟩ := (h e.1).2 w hd
      by_cases l : ltE e w = true
      · rw [if_pos l]
        refine ⟨w1, old w2 ?_⟩
        rcases linE.to e w with q | q
        · rw [q] at l; cases l
        · exact q
      · rw [if_neg l]
        have l' : LeE w e := by
          show ltE e w = false
          cases q : ltE e w with
          | false => rfl
          | true => exact absurd q l
        refine ⟨rfl, by simp, fun x hx hv => ?_⟩
        rcases List.mem_append.mp hx with q | q
        · have := w2.2 x q (by rw [hv, w1])
          exact linE.tr x w e this l' |> fun z => z
        · rw [List.mem_singleton.mp q]; exact linE.ir e
  · rw [if_neg c]
    refine ⟨fun z x hx => ?_, fun b hb => ?_⟩
    · rcases List.mem_append.mp hx with q | q
      · exact (h v).1 z x q
      · rw [List.mem_singleton.mp q]; exact c
    · obtain ⟨b1, b2⟩ := (h v).2 b hb
      refine ⟨b1, List.mem_append.mpr (.inl b2.1), fun x hx hv => ?_⟩
      rcases List.mem_append.mp hx with q | q
      · exact b2.2 x q hv
      · rw [List.mem_singleton.mp q] at hv
        exact absurd (hv.trans b1) c
theorem bul_sp {es : List En} (hl : es.length ≤ 1000) : ∃ B, t_bulletin_of es = some B ∧ IsB es B ∧ B.length ≤ es.length := by
  suffices h : Post (t_bulletin_of es) fun B => IsB es B ∧ B.length ≤ es.length by
    obtain ⟨B, e, p⟩ := h
    exact ⟨B, e, p⟩
  unfold t_bulletin_of
  refine Post.bind (P := fun d => EvD es d ∧ (dkeys d).Nodup ∧ d.length ≤ es.length) ?_ fun d hd => ?_
  · unfold t_entries_by_event
    rw [bind_some']
    refine tfold_post (fun pre d => EvD pre d ∧ (dkeys d).Nodup ∧ d.length ≤ pre.length) ⟨fun v => ⟨fun _ e he => (nomatch he), fun b hb => (nomatch hb)⟩, List.nodup_nil, Nat.le_refl _⟩ ?_
    rintro pre e suf d hxs ⟨h1, h2, h3⟩
    have hpn : pre.length ≤ 1000 := by rw [hxs, List.length_append] at hl; omega
    rw [tdput_of _ _ _ (by omega)]
    refine Post.pure ⟨h1.put e, nodup_put h2, ?_⟩
    have := len_put d e.1 (if ltE e ((dget d e.1).getD e) = true then (dget d e.1).getD e else e)
    rw [List.length_append, List.length_singleton]
    exact Nat.le_trans this (by omega)
  · obtain ⟨h1, h2, h3⟩ := hd
    have hks : (tsort (fun a b : Int => decide (a < b)) (dkeys d)).Pairwise (· < ·) := by
      have hn : (tsort (fun a b : Int => decide (a < b)) (dkeys d)).Nodup := (srt_perm _).nodup_iff.mpr h2
      have hle := srt_le (dkeys d)
      revert hle hn
      generalize tsort (fun a b : Int => decide (a < b)) (dkeys d) = L
      intro hn hle
      induction L with
      | nil => exact .nil
      | cons x L ih =>
        rw [List.pairwise_cons] at hle ⊢
        rw [List.nodup_cons] at hn
        exact ⟨fun y hy => by have := hle.1 y hy; have : x ≠ y := fun e => hn.1 (by rw [e]; exact hy); omega, ih hn.2 hle.2⟩
    have hat : ∀ v ∈ tsort (fun a b : Int => decide (a < b)) (dkeys d), ∃ b, dget d v = some b ∧ b.1 = v ∧ Top es b := fun v hv => by
      obtain ⟨b, hb⟩ := dget_in (srt_mem.mp hv)
      exact ⟨b, hb, (h1 v).2 b hb⟩
    rw [tmap_eq (g := fun v => (dget d v).getD (0, 0, 0, (0, 0), 0)) fun v hv => by
      obtain ⟨b, hb, _⟩ := hat v hv
      rw [hb]; rfl]
    refine Post.pure ⟨⟨?_, fun b => ?_⟩, ?_⟩
    · rw [List.pairwise_map]
      refine hks.imp_of_mem fun {v w} hv hw z => ?_
      obtain ⟨b, hb, b1, _⟩ := hat v hv
      obtain ⟨c, hc, c1, _⟩ := hat w hw
      rw [hb, hc]
      show b.1 < c.1
      omega
    · rw [List.mem_map]
      constructor
      · rintro ⟨v, hv, rfl⟩
        obtain ⟨b, hb, _, b2⟩ := hat v hv
        rw [hb]; exact b2
      · intro hb
        cases hd : dget d b.1 with
        | none => exact absurd rfl ((h1 b.1).1 hd b hb.1)
        | some c =>
          obtain ⟨c1, c2⟩ := (h1 b.1).2 c hd
          refine ⟨b.1, srt_mem.mpr (dget_some hd), ?_⟩
          rw [hd]
          exact c2.eq hb c1
    · rw [List.length_map, srt_len]
      unfold dkeys
      rw [List.length_map]; exact h3
theorem top_of {es : List En} {e : En} (he : e ∈ es) : ∃ b, Top es b ∧ b.1 = e.1 := by
  obtain ⟨m, hm, h1, h2⟩ := tmin_least (lt := fun a b => ltE b a) linE.flip (xs := es.filter fun x => decide (x.1 = e.1)) (List.ne_nil_of_mem (List.mem_filter.mpr ⟨he, decide_eq_true rfl⟩))
  obtain ⟨a, b⟩ := List.mem_filter.mp h1
  rw [decide_eq_true_eq] at b
  exact ⟨m, ⟨a, fun x hx hv => h2 x (List.mem_filter.mpr ⟨hx, by rw [decide_eq_true_eq, hv, b]⟩)⟩, b⟩
/-- the same, by the law's own steps -/
theorem lbul_sp {es : List En} (hl : es.length < 64) : ∃ B, t_law_bulletin es = some B ∧ IsB es B ∧ B.length ≤ es.length := by
  suffices h : Post (t_law_bulletin es) fun B => IsB es B ∧ B.length ≤ es.length by
    obtain ⟨B, e, p⟩ := h
    exact ⟨B, e, p⟩
  unfold t_law_bulletin
  rw [tsortU, if_pos (by rw [List.length_map]; exact hl), Option.bind_some, bind_some']
  have hul := sortU_len (es.map fun e => e.1)
  rw [List.length_map] at hul
  have hat : ∀ v ∈ sortU (es.map fun e => e.1), ∃ b, Top es b ∧ b.1 = v := fun v hv => by
    obtain ⟨e, he, rfl⟩ := List.mem_map.mp ((sortU_mem _ v).mp hv)
    exact top_of he
  classical
  let g : Int → En := fun v => if h : ∃ b, Top es b ∧ b.1 = v then h.choose else (0, 0, 0, (0, 0), 0)
  have hg : ∀ v ∈ sortU (es.map fun e => e.1), Top es (g v) ∧ (g v).1 = v := fun v hv => by
    have h := hat v hv
    show Top es (if h : ∃ b, Top es b ∧ b.1 = v then h.choose else _) ∧ (if h : ∃ b, Top es b ∧ b.1 = v then h.choose else _).1 = v
    rw [dif_pos h]
    exact h.choose_spec
  have hf := fold_sel (q := fun _ => true) (g := g) (f := fun (event_10 : Int) (s_3 : (List (Int × Int × Int × (Int × Int) × Int))) => tlet ((List.map (fun (entry_11 : (Int × Int × Int × (Int × Int) × Int)) => entry_11) ((List.filter (fun (entry_11 : (Int × Int × Int × (Int × Int) × Int)) => (decide (entry_11.1 = event_10))) es)))) fun rows_12 => Option.bind (tmax (fun a b : Int => decide (a < b)) ((List.map (fun (entry_13 : (Int × Int × Int × (Int × Int) × Int)) => entry_13.2.1) rows_12))) fun max_14 => tlet ((List.map (fun (entry_15 : (Int × Int × Int × (Int × Int) × Int)) => entry_15) ((List.filter (fun (entry_15 : (Int × Int × Int × (Int × Int) × Int)) => (decide (entry_15.2.1 = max_14))) rows_12)))) fun rows_16 => Option.bind (tmax (fun a b : Int => decide (a < b)) ((List.map (fun (entry_17 : (Int × Int × Int × (Int × Int) × Int)) => entry_17.2.2.1) rows_16))) fun max_18 => tlet ((List.map (fun (entry_19 : (Int × Int × Int × (Int × Int) × Int)) => entry_19) ((List.filter (fun (entry_19 : (Int × Int × Int × (Int × Int) × Int)) => (decide (entry_19.2.2.1 = max_18))) rows_16)))) fun rows_20 => Option.bind (tmax (lx (fun a b : Int => decide (a < b)) (fun a b : Int => decide (a < b))) ((List.map (fun (entry_21 : (Int × Int × Int × (Int × Int) × Int)) => entry_21.2.2.2.1) rows_20))) fun max_22 => Option.bind (tmax (fun a b : Int => decide (a < b)) ((List.map (fun (entry_23 : (Int × Int × Int × (Int × Int) × Int)) => entry_23.2.2.2.2) ((List.filter (fun (entry_23 : (Int × Int × Int × (Int × Int) × Int)) => (decide (entry_23.2.2.2.1 = max_22))) rows_20))))) fun max_24 => Option.bind (tapp s_3 ((event_10, max_14, max_18, max_22, max_24))) fun found_25 => some found_25) (sortU (es.map fun e => e.1)) [] (fun v hv s hs => ?_) (by simp only [List.length_nil]; omega)
  · rw [List.filter_eq_self.mpr fun _ _ => rfl, List.nil_append] at hf
    rw [hf]
    refine Post.pure ⟨⟨?_, fun b => ?_⟩, by rw [List.length_map]; exact hul⟩
    · rw [List.pairwise_map]
      refine (sortU_lt _).imp_of_mem fun {v w} hv hw z => ?_
      rw [(hg v hv).2, (hg w hw).2]; exact z
    · rw [List.mem_map]
      constructor
      · rintro ⟨v, hv, rfl⟩; exact (hg v hv).1
      · intro hb
        have hv : b.1 ∈ sortU (es.map fun e => e.1) := (sortU_mem _ _).mpr (List.mem_map.mpr ⟨b, hb.1, rfl⟩)
        exact ⟨b.1, hv, (hg _ hv).1.eq hb (hg _ hv).2⟩
  · obtain ⟨hT, h1⟩ := hg v hv
    generalize g v = b at hT h1
    rw [if_pos rfl, tlet_eq, List.map_id']
    have hle : ∀ e ∈ es, e.1 = v → LeE e b := fun e he hv => hT.2 e he (hv.trans h1.symm)
    have r0 : ∀ e, e ∈ es.filter (fun e => decide (e.1 = v)) ↔ e ∈ es ∧ e.1 = v := fun e => by rw [List.mem_filter, decide_eq_true_eq]
    have b0 := (r0 b).mpr ⟨hT.1, h1⟩
    rw [tmax_is (m := b.2.1) (List.mem_map.mpr ⟨b, b0, rfl⟩) fun y hy => by
      obtain ⟨e, he, rfl⟩ := List.mem_map.mp hy
      obtain ⟨e1, e2⟩ := (r0 e).mp he
      exact ((leE_iff.mp (hle e e1 e2)).2 (h1.trans e2.symm)).1, Option.bind_some, tlet_eq, List.map_id']
    have r1 : ∀ e, e ∈ (es.filter (fun e => decide (e.1 = v))).filter (fun e => decide (e.2.1 = b.2.1)) ↔ (e ∈ es ∧ e.1 = v) ∧ e.2.1 = b.2.1 := fun e => by rw [List.mem_filter, r0, decide_eq_true_eq]
    rw [tmax_is (m := b.2.2.1) (List.mem_map.mpr ⟨b, (r1 b).mpr ⟨⟨hT.1, h1⟩, rfl⟩, rfl⟩) fun y hy => by
      obtain ⟨e, he, rfl⟩ := List.mem_map.mp hy
      obtain ⟨⟨e1, e2⟩, e3⟩ := (r1 e).mp he
      exact (((leE_iff.mp (hle e e1 e2)).2 (h1.trans e2.symm)).2 e3.symm).1, Option.bind_some, tlet_eq, List.map_id']
    have r2 : ∀ e, e ∈ ((es.filter (fun e => decide (e.1 = v))).filter (fun e => decide (e.2.1 = b.2.1))).filter (fun e => decide (e.2.2.1 = b.2.2.1)) ↔ ((e ∈ es ∧ e.1 = v) ∧ e.2.1 = b.2.1) ∧ e.2.2.1 = b.2.2.1 := fun e => by rw [List.mem_filter, r1, decide_eq_true_eq]
    rw [tmaxG_is lin2 (m := b.2.2.2.1) (List.mem_map.mpr ⟨b, (r2 b).mpr ⟨⟨⟨hT.1, h1⟩, rfl⟩, rfl⟩, rfl⟩) fun y hy => by
      obtain ⟨e, he, rfl⟩ := List.mem_map.mp hy
      obtain ⟨⟨⟨e1, e2⟩, e3⟩, e4⟩ := (r2 e).mp he
      exact ((((leE_iff.mp (hle e e1 e2)).2 (h1.trans e2.symm)).2 e3.symm).2 e4.symm).1, Option.bind_some]
    have r3 : ∀ e, e ∈ (((es.filter (fun e => decide (e.1 = v))).filter (fun e => decide (e.2.1 = b.2.1))).filter (fun e => decide (e.2.2.1 = b.2.2.1))).filter (fun e => decide (e.2.2.2.1 = b.2.2.2.1)) ↔ (((e ∈ es ∧ e.1 = v) ∧ e.2.1 = b.2.1) ∧ e.2.2.1 = b.2.2.1) ∧ e.2.2.2.1 = b.2.2.2.1 := fun e => by rw [List.mem_filter, r2, decide_eq_true_eq]
    rw [tmax_is (m := b.2.2.2.2) (List.mem_map.mpr ⟨b, (r3 b).mpr ⟨⟨⟨⟨hT.1, h1⟩, rfl⟩, rfl⟩, rfl⟩, rfl⟩) fun y hy => by
      obtain ⟨e, he, rfl⟩ := List.mem_map.mp hy
      obtain ⟨⟨⟨⟨e1, e2⟩, e3⟩, e4⟩, e5⟩ := (r3 e).mp he
      exact ((((leE_iff.mp (hle e e1 e2)).2 (h1.trans e2.symm)).2 e3.symm).2 e4.symm).2 e5.symm, Option.bind_some, tapp_ok hs, ← h1]
    rfl
end LP
namespace LP
open PySem PySem.Spec PyProof.Rows L2 PF TL
/-- not cancelled -/
def kept (c : List (Int × Int)) (b : En) : Bool := !c.any fun q => decide (q.1 = b.1) && decide (q.2 ≥ b.2.1)
theorem kept_iff {c : List (Int × Int)} {b : En} : kept c b = true ↔ ∀ q ∈ c, ¬ (q.1 = b.1 ∧ q.2 ≥ b.2.1) := by
  unfold kept
  rw [Bool.not_eq_true', List.any_eq_false]
  simp only [Bool.and_eq_true, decide_eq_true_eq]
theorem without_sp {es : List En} (hl : es.length ≤ 1000) (c : List (Int × Int)) {B : List En} (hB : IsB es B) : t_bulletin_without es c = some (B.filter (kept c)) := by
  unfold t_bulletin_without
  obtain ⟨B', h1, h2, h3⟩ := bul_sp hl
  have : B' = B := h2.uniq hB fun _ => Iff.rfl
  subst this
  rw [h1, Option.bind_some, bind_some']
  refine fold_self (fun e he s hs => ?_) (by omega)
  rw [bind_some', List.any_map]
  show (if kept c e = true then _ else _) = _
  by_cases k : kept c e = true
  · rw [if_pos k, if_pos k, tapp_ok hs]; rfl
  · rw [if_neg k, if_neg k]
theorem left_sp {es : List En} (hl : es.length < 64) (c : List (Int × Int)) {B : List En} (hB : IsB es B) : t_law_left es c = some (B.filter (kept c)) := by
  unfold t_law_left
  obtain ⟨B', h1, h2, h3⟩ := lbul_sp hl
  have : B' = B := h2.uniq hB fun _ => Iff.rfl
  subst this
  rw [h1, Option.bind_some, bind_some']
  refine fold_self (fun e he s hs => ?_) (by omega)
  rw [tlet_eq, bind_some', List.map_id']
  have e1 : decide (((c.filter fun q => decide (q.1 = e.1) && decide (q.2 ≥ e.2.1)).length : Int) = 0) = kept c e := by
    unfold kept
    rw [Bool.eq_iff_iff, decide_eq_true_eq, Bool.not_eq_true', List.any_eq_false]
    constructor
    · intro z q hq
      have : c.filter (fun q => decide (q.1 = e.1) && decide (q.2 ≥ e.2.1)) = [] := List.length_eq_zero_iff.mp (by omega)
      exact List.filter_eq_nil_iff.mp this q hq
    · intro z
      rw [List.filter_eq_nil_iff.mpr z]; rfl
  rw [e1]
  by_cases k : kept c e = true
  · rw [if_pos k, if_pos k, tapp_ok hs]; rfl
  · rw [if_neg k, if_neg k]
/-- a part of a bulletin is one -/
theorem isB_part {es B : List En} (h : IsB es B) (p : En → Bool) : IsB (B.filter p) (B.filter p) := by
  have hlt := h.lt.filter p
  refine ⟨hlt, fun b => ⟨fun hb => ⟨hb, fun e he hv => ?_⟩, fun hb => hb.1⟩⟩
  have e1 := (h.m e).mp (List.mem_filter.mp he).1
  have b1 := (h.m b).mp (List.mem_filter.mp hb).1
  rw [e1.eq b1 hv]
  exact linE.ir b
theorem isB_self {es B : List En} (h : IsB es B) : IsB B B := by
  have := isB_part h fun _ => true
  rw [List.filter_eq_self.mpr fun _ _ => rfl] at this
  exact this
theorem filter_len {A : Type} (p : A → Bool) (xs : List A) : (xs.filter p).length ≤ xs.length := List.length_filter_le _ _
/-- an entry that is no more than its event's own changes nothing -/
theorem isB_more {es B : List En} (h : IsB es B) {e : En} (he : ∃ b, Top es b ∧ b.1 = e.1 ∧ LeE e b) : IsB (es ++ [e]) B := by
  refine ⟨h.lt, fun b => ?_⟩
  rw [h.m]
  obtain ⟨t, ht, t1, t2⟩ := he
  constructor
  · intro hb
    refine ⟨List.mem_append.mpr (.inl hb.1), fun x hx hv => ?_⟩
    rcases List.mem_append.mp hx with q | q
    · exact hb.2 x q hv
    · rw [List.mem_singleton.mp q] at hv ⊢
      rw [hb.eq ht (hv.symm.trans t1.symm)]
      exact t2
  · intro hb
    have hsub : ∀ x ∈ es, x.1 = b.1 → LeE x b := fun x hx hv => hb.2 x (List.mem_append.mpr (.inl hx)) hv
    rcases List.mem_append.mp hb.1 with q | q
    · exact ⟨q, hsub⟩
    · have hbe := List.mem_singleton.mp q
      have h1 := hsub t ht.1 (by rw [t1, hbe])
      have : b = t := linE.an b t h1 (by rw [hbe]; exact t2)
      rw [this]; exact ht
theorem isB_tail {es B : List En} (h : IsB es B) {e : En} (he : e ∈ es) : IsB (B ++ [e]) B := by
  obtain ⟨b, hb, hv⟩ := top_of he
  have hbB : Top B b := ((isB_self h).m b).mp ((h.m b).mpr hb)
  exact isB_more (isB_self h) ⟨b, hbB, hv, hb.2 e he hv.symm⟩
theorem countP_take {L : List Int} (h : L.Pairwise (· < ·)) (x : Int) : L.filter (fun y => decide (y < x)) = L.take (L.countP fun y => decide (y < x)) ∧ L.drop (L.countP fun y => decide (y < x)) = L.filter (fun y => !decide (y < x)) := by
  induction L with
  | nil => exact ⟨rfl, rfl⟩
  | cons a L ih =>
    rw [List.pairwise_cons] at h
    obtain ⟨i1, i2⟩ := ih h.2
    by_cases c : a < x
    · rw [List.countP_cons_of_pos (p := fun y => decide (y < x)) (decide_eq_true c), List.filter_cons_of_pos (p := fun y => decide (y < x)) (decide_eq_true c), List.filter_cons_of_neg (p := fun y => !decide (y < x)) (by rw [decide_eq_true c]; decide), List.take_succ_cons, List.drop_succ_cons]
      exact ⟨by rw [i1], i2⟩
    · have hz : L.countP (fun y => decide (y < x)) = 0 := List.countP_eq_zero.mpr fun y hy => by
        have := h.1 y hy
        rw [decide_eq_true_eq]; omega
      rw [List.countP_cons_of_neg (p := fun y => decide (y < x)) (by simpa using c), hz, List.filter_cons_of_neg (p := fun y => decide (y < x)) (by simpa using c), List.filter_cons_of_pos (p := fun y => !decide (y < x)) (by simpa using c), List.take_zero, List.drop_zero]
      refine ⟨List.filter_eq_nil_iff.mpr fun y hy => ?_, ?_⟩
      · have := h.1 y hy
        rw [decide_eq_true_eq]; omega
      · rw [List.filter_eq_self.mpr fun y hy => ?_]
        have := h.1 y hy
        rw [decide_eq_false (by omega)]; rfl
theorem lt_nodup {xs : List Int} (h : xs.Pairwise (· < ·)) : xs.Nodup := h.imp fun {a b} (z : a < b) => by omega
theorem lt_ext {xs ys : List Int} (h1 : xs.Pairwise (· < ·)) (h2 : ys.Pairwise (· < ·)) (h : ∀ x, x ∈ xs ↔ x ∈ ys) : xs = ys :=
  sort_uniq ((List.perm_ext_iff_of_nodup (lt_nodup h1) (lt_nodup h2)).mpr h) (h1.imp fun {a b} (z : a < b) => by omega) (h2.imp fun {a b} (z : a < b) => by omega)
def vs (es : List En) (v : Int) : List Int := sortU ((es.filter fun e => decide (e.1 = v)).map fun e => e.2.1)
theorem vs_mem {es : List En} {v x : Int} : x ∈ vs es v ↔ ∃ e ∈ es, e.1 = v ∧ e.2.1 = x := by
  unfold vs
  rw [sortU_mem, List.mem_map]
  constructor
  · rintro ⟨e, he, rfl⟩
    obtain ⟨a, b⟩ := List.mem_filter.mp he
    exact ⟨e, a, of_decide_eq_true b, rfl⟩
  · rintro ⟨e, he, hv, rfl⟩
    exact ⟨e, List.mem_filter.mpr ⟨he, decide_eq_true hv⟩, rfl⟩
theorem hist_sp {es : List En} (hl : es.length < 64) (v : Int) : t_history_of es v = some (vs es v) := by
  unfold t_history_of
  rw [tsortU, if_pos (by rw [List.length_map]; exact Nat.lt_of_le_of_lt (List.length_filter_le _ _) hl)]; rfl
theorem vs_len (es : List En) (v : Int) : (vs es v).length ≤ es.length := by
  unfold vs
  have := sortU_len ((es.filter fun e => decide (e.1 = v)).map fun e => e.2.1)
  rw [List.length_map] at this
  have := List.length_filter_le (fun e : En => decide (e.1 = v)) es
  omega
theorem versions_sp {es : List En} (hl : es.length ≤ 1000) (v : Int) : t_law_versions es v = some (vs es v) := by
  suffices h : Post (t_law_versions es v) fun r => r = vs es v by
    obtain ⟨r, e, rfl⟩ := h
    exact e
  unfold t_law_versions
  rw [bind_some']
  refine Post.imp (tfold_post (fun pre (s : List Int) => s.Pairwise (· < ·) ∧ (∀ x, x ∈ s ↔ ∃ e ∈ pre, e.1 = v ∧ e.2.1 = x) ∧ s.length ≤ pre.length) ⟨.nil, fun x => ⟨fun h => (nomatch h), fun ⟨e, he, _⟩ => (nomatch he)⟩, Nat.le_refl _⟩ ?_) fun s hs => lt_ext hs.1 (sortU_lt _) fun x => by
    rw [hs.2.1]
    exact vs_mem.symm
  rintro pre e suf s hxs ⟨h1, h2, h3⟩
  have hpn : pre.length ≤ 1000 := by rw [hxs, List.length_append] at hl; omega
  rw [bind_some']
  have keep : ¬ (e.1 = v ∧ e.2.1 ∉ s) → ∀ x, x ∈ s ↔ ∃ d ∈ pre ++ [e], d.1 = v ∧ d.2.1 = x := fun hn x => by
    rw [h2]
    constructor
    · rintro ⟨d, hd, p, q⟩; exact ⟨d, List.mem_append.mpr (.inl hd), p, q⟩
    · rintro ⟨d, hd, p, rfl⟩
      rcases List.mem_append.mp hd with z | z
      · exact ⟨d, z, p, rfl⟩
      · have := List.mem_singleton.mp z
        subst this
        have hm : d.2.1 ∈ s := Classical.byContradiction fun y => hn ⟨p, y⟩
        exact (h2 _).mp hm
  by_cases c : e.1 = v ∧ e.2.1 ∉ s
  · obtain ⟨c1, c2⟩ := c
    have ht : tin e.2.1 s = false := Bool.eq_false_iff.mpr fun z => c2 (tin_mem.mp z)
    rw [if_pos (by rw [decide_eq_true c1, ht]; rfl), tlet_eq, List.map_id']
    rw [show (List.filter (fun version_7 => decide (version_7 < e.2.1)) s).length = s.countP fun y => decide (y < e.2.1) from List.countP_eq_length_filter.symm]
    have hcl : (s.countP fun y => decide (y < e.2.1)) ≤ s.length := List.countP_le_length
    rw [tins_ok (by omega) (by omega), Option.bind_some]
    obtain ⟨t1, t2⟩ := countP_take h1 e.2.1
    refine Post.pure ⟨?_, fun x => ?_, ?_⟩
    · rw [← t1, t2, List.append_assoc, List.pairwise_append]
      refine ⟨h1.filter _, ?_, fun a ha b hb => ?_⟩
      · rw [List.singleton_append, List.pairwise_cons]
        refine ⟨fun y hy => ?_, h1.filter _⟩
        obtain ⟨y1, y2⟩ := List.mem_filter.mp hy
        rw [Bool.not_eq_true', decide_eq_false_iff_not] at y2
        have : y ≠ e.2.1 := fun z => c2 (by rw [← z]; exact y1)
        omega
      · have a2 := of_decide_eq_true (List.mem_filter.mp ha).2
        rcases List.mem_append.mp hb with q | q
        · rw [List.mem_singleton.mp q]; exact a2
        · have b2 := (List.mem_filter.mp q).2
          rw [Bool.not_eq_true', decide_eq_false_iff_not] at b2
          omega
    · have hmem : x ∈ s.take (s.countP fun y => decide (y < e.2.1)) ++ [e.2.1] ++ s.drop (s.countP fun y => decide (y < e.2.1)) ↔ x ∈ s ∨ x = e.2.1 := by
        have e0 : x ∈ s ↔ x ∈ s.take (s.countP fun y => decide (y < e.2.1)) ∨ x ∈ s.drop (s.countP fun y => decide (y < e.2.1)) := by
          rw [← List.mem_append, List.take_append_drop]
        rw [e0]
        simp only [List.mem_append, List.mem_singleton]
        constructor
        · rintro ((p | p) | p)
          · exact .inl (.inl p)
          · exact .inr p
          · exact .inl (.inr p)
        · rintro ((p | p) | p)
          · exact .inl (.inl p)
          · exact .inr p
          · exact .inl (.inr p)
      rw [hmem, h2]
      constructor
      · rintro (⟨d, hd, p, q⟩ | p)
        · exact ⟨d, List.mem_append.mpr (.inl hd), p, q⟩
        · exact ⟨e, by simp, c1, p.symm⟩
      · rintro ⟨d, hd, p, rfl⟩
        rcases List.mem_append.mp hd with z | z
        · exact .inl ⟨d, z, p, rfl⟩
        · rw [List.mem_singleton.mp z]; exact .inr rfl
    · rw [List.length_append, List.length_append, List.length_take, List.length_drop, List.length_append, List.length_singleton, List.length_singleton]
      omega
  · rw [if_neg ?_]
    · exact Post.pure ⟨h1, keep c, by rw [List.length_append]; omega⟩
    · intro z
      rw [Bool.and_eq_true, decide_eq_true_eq, Bool.not_eq_true'] at z
      refine c ⟨z.1, fun y => ?_⟩
      rw [tin_mem.mpr y] at z
      cases z.2
theorem isb_sp {es B : List En} (hl : es.length ≤ 1000) (h : IsB es B) (he : B = es) : t_is_bulletin es = some true := by
  unfold t_is_bulletin
  obtain ⟨B', h1, h2, _⟩ := bul_sp hl
  have : B' = B := h2.uniq h fun _ => Iff.rfl
  subst this
  rw [h1, Option.bind_some, decide_eq_true he]
end LP
namespace LP
open PySem PySem.Spec PyProof.Rows L2 PF TL
theorem upto_split {lo : Int} {n : Nat} {pre suf : List Int} {x : Int} (h : upto lo n = pre ++ x :: suf) : pre.length < n ∧ x = lo + pre.length := by
  have hl := congrArg List.length h
  rw [len_upto] at hl
  simp only [List.length_append, List.length_cons] at hl
  have hx : (upto lo n)[pre.length]? = some x := by rw [h]; simp
  rw [get_upto (by omega)] at hx
  exact ⟨by omega, by simpa using hx.symm⟩
theorem tat_last {A : Type} (xs : List A) (l : A) : tat (xs ++ [l]) (-1) = some l := by
  obtain ⟨a, h, h2, _⟩ := tat_neg (xs := xs ++ [l]) (i := -1) (by decide) (by simp; omega)
  have e : (((xs ++ [l]).length : Int) + -1).toNat = xs.length := by simp; omega
  rw [e, List.getElem?_append_right (Nat.le_refl _), Nat.sub_self] at h2
  have : l = a := by simpa using h2
  subst this
  exact h
theorem tset_last {A : Type} (xs : List A) (l w : A) : tset (xs ++ [l]) (-1) w = some (xs ++ [w]) := by
  unfold tset L2.ixN
  rw [if_neg (by decide), if_pos (by simp; omega)]
  have e : (-1 + (((xs ++ [l]).length : Nat) : Int)).toNat = xs.length := by simp; omega
  rw [Option.map_some]
  congr 1
  show (xs ++ [l]).set _ w = _
  rw [e, List.set_append_right _ _ (Nat.le_refl _), Nat.sub_self]; rfl
theorem entries_sp (ns ds : List Int) {many : Int} (h0 : 0 ≤ many) (h1 : many ≤ 40) : Post (t_law_entries ns ds many) fun r => (r.1.length : Int) = many := by
  unfold t_law_entries
  refine Post.bind (cell_sp ns ds) fun y1 _ => Post.let (Post.bind (take_sp (by decide)) fun y3 h3 => ?_)
  obtain ⟨w, hw, _, hwm⟩ := tat_in (xs := [(2 : Int), 4, 30]) h3.1 (by simpa using h3.2)
  have hwp : 0 < w := by
    simp only [List.mem_cons, List.not_mem_nil, or_false] at hwm
    omega
  rw [hw, Option.bind_some, trg_of (by decide) (by omega) (by decide) (by omega), Option.bind_some]
  refine Post.bind (P := fun s : List Int × List En => (s.2.length : Int) = many) ?_ fun s hs => Post.pure hs
  refine Post.imp (tfold_post (fun pre (s : List Int × List En) => s.2.length = pre.length) rfl ?_) fun s hs => by rw [hs, len_upto]; omega
  rintro pre k suf ⟨d, found⟩ hxs hI
  obtain ⟨hk, rfl⟩ := upto_split hxs
  dsimp only at hI ⊢
  have pick : ∀ (a b c : Int) {y : Int}, 0 ≤ y → y < 13 → Post (tat [a, b, c] (min (Int.fdiv y 6) 2)) fun _ => True := fun a b c {y} y0 y1 => by
    have e : Int.fdiv y 6 = y / 6 := Int.fdiv_eq_ediv_of_nonneg _ (by decide)
    obtain ⟨x, hx, _, _⟩ := tat_in (xs := [a, b, c]) (i := min (Int.fdiv y 6) 2) (by rw [e]; omega) (by rw [e]; simp; omega)
    exact ⟨x, hx, trivial⟩
  refine Post.bind (take_sp (by decide)) fun y14 _ => Post.bind (take_sp (by decide)) fun y15 _ => Post.bind (take_sp (by decide)) fun y16 h16 => Post.bind (pick _ _ _ h16.1 h16.2) fun x17 _ => ?_
  refine Post.bind (take_sp hwp) fun y18 _ => Post.bind (take_sp hwp) fun y19 _ => Post.bind (take_sp (by decide)) fun y20 _ => Post.bind (take_sp (by decide)) fun y21 h21 => Post.bind (pick _ _ _ h21.1 h21.2) fun x22 _ => ?_
  refine Post.bind (take_sp hwp) fun y23 _ => Post.bind (take_sp hwp) fun y24 _ => Post.let (Post.bind (take_sp hwp) fun y26 _ => Post.bind (take_sp hwp) fun y27 _ => Post.bind (take_sp (by decide)) fun y28 _ => ?_)
  refine Post.bind (P := fun _ => True) ?_ fun x29 _ => Post.let ?_
  · split
    · exact ⟨_, rfl, trivial⟩
    · exact ⟨_, rfl, trivial⟩
  refine Post.bind (P := fun w : Bool × List Int => w.1 = true → 0 < pre.length) ?_ fun w33 h33 => ?_
  · refine Post.ite (fun c => ?_) fun _ => Post.pure (fun z => (nomatch z))
    rw [decide_eq_true_eq] at c
    exact Post.bind (take_sp (by decide)) fun y31 _ => Post.pure fun _ => by omega
  refine Post.bind (P := fun _ => True) ?_ fun s34 _ => ?_
  · refine Post.ite (fun c => ?_) fun _ => Post.pure trivial
    have hp := h33 c
    refine Post.bind (take_sp (by decide)) fun y36 _ => Post.let (Post.bind (take_sp (by omega)) fun y38 h38 => ?_)
    obtain ⟨x, hx, _, _⟩ := tat_in (xs := found) h38.1 (by omega)
    rw [hx, Option.bind_some]
    exact Post.let (Post.pure trivial)
  exact Post.eqb (tapp_ok (by omega)) (Post.pure (by dsimp only; rw [List.length_append, List.length_append, hI]; rfl))
theorem cancelled_sp (ds : List Int) {es : List En} {many : Int} (h0 : 0 ≤ many) (h1 : many ≤ 40) : Post (t_law_cancelled ds es many) fun r => (r.1.length : Int) = many := by
  unfold t_law_cancelled
  rw [trg_of (by decide) (by omega) (by decide) (by omega), Option.bind_some]
  refine Post.bind (P := fun s : List Int × List (Int × Int) => (s.2.length : Int) = many) ?_ fun s hs => Post.pure hs
  refine Post.imp (tfold_post (fun pre (s : List Int × List (Int × Int)) => s.2.length = pre.length) rfl ?_) fun s hs => by rw [hs, len_upto]; omega
  rintro pre k suf ⟨d, found⟩ hxs hI
  obtain ⟨hk, rfl⟩ := upto_split hxs
  dsimp only at hI ⊢
  refine Post.bind (P := fun w : Bool × List Int => w.1 = true → 0 < es.length) ?_ fun w8 h8 => ?_
  · refine Post.ite (fun c => ?_) fun _ => Post.pure (fun z => (nomatch z))
    rw [decide_eq_true_eq] at c
    exact Post.bind (take_sp (by decide)) fun y6 _ => Post.pure fun _ => by omega
  refine Post.bind (P := fun s : List Int × List (Int × Int) => s.2.length = (pre ++ [0 + (pre.length : Int)]).length) ?_ fun s hs => Post.pure hs
  refine Post.ite (fun c => ?_) fun _ => ?_
  · have := h8 c
    refine Post.bind (take_sp (by omega)) fun y11 h11 => ?_
    obtain ⟨x, hx, _, _⟩ := tat_in (xs := es) h11.1 h11.2
    rw [hx, Option.bind_some]
    refine Post.bind (take_sp (by decide)) fun y13 _ => Post.eqb (tapp_ok (by omega)) (Post.pure (by dsimp only; rw [List.length_append, List.length_append, hI]; rfl))
  · exact Post.bind (take_sp (by decide)) fun y15 _ => Post.bind (take_sp (by decide)) fun y16 _ => Post.eqb (tapp_ok (by omega)) (Post.pure (by dsimp only; rw [List.length_append, List.length_append, hI]; rfl))
theorem sameE {B : List En} (h : B.length ≤ 1000) : tsame (okV (okP okA (okP okA (okP okA (okP (okP okA okA) okA))))) B B = some true := tsame_ok (okV_of (by omega) fun _ _ => rfl)
theorem back_sp (ds : List Int) {es B : List En} (hl : es.length < 60) (hB : IsB es B) (hBl : B.length ≤ es.length) {c : List (Int × Int)} (hcl : c.length ≤ 100) : Post (t_law_come_back ds es c (B.filter (kept c))) fun r => r.1 = true := by
  unfold t_law_come_back
  obtain ⟨B', h1, h2, h3⟩ := lbul_sp (es := es) (by omega)
  have : B' = B := h2.uniq hB fun _ => Iff.rfl
  subst this
  rw [h1, Option.bind_some]
  refine Post.go (P := fun _ => True) (tforr_go (fun _ => True) trivial fun en hen s _ => ?_) fun s23 _ => Post.pure rfl
  have hen2 : en ∈ B' := by
    have e4 : cut B' none (some (4 : Int)) = B'.take 4 := cut_to B' 4
    rw [e4] at hen
    exact List.mem_of_mem_take hen
  have hT := (hB.m en).mp hen2
  refine Post.let ?_
  have hol : (List.map (fun (pair_10 : (Int × Int)) => pair_10.2) ((List.filter (fun (pair_10 : (Int × Int)) => (decide (pair_10.1 = en.1))) c))).length ≤ 100 := by
    rw [List.length_map]
    exact Nat.le_trans (List.length_filter_le _ _) hcl
  rw [tcat_of (by simp only [List.length_singleton]; omega), Option.bind_some]
  obtain ⟨m, hm, m1, m2⟩ := tmax_post (xs := [en.2.1] ++ List.map (fun (pair_10 : (Int × Int)) => pair_10.2) ((List.filter (fun (pair_10 : (Int × Int)) => (decide (pair_10.1 = en.1))) c))) (by simp)
  have hmv : en.2.1 ≤ m := m2 _ (by simp)
  have hmc : ∀ q ∈ c, q.1 = en.1 → q.2 ≤ m := fun q hq hv => m2 _ (List.mem_append.mpr (.inr (List.mem_map.mpr ⟨q, List.mem_filter.mpr ⟨hq, decide_eq_true hv⟩, rfl⟩)))
  rw [hm, Option.bind_some]
  refine Post.let ?_
  dsimp only
  rw [tcat_of (by simp only [List.length_singleton]; omega), Option.bind_some]
  obtain ⟨B2, _, hB2, _⟩ := bul_sp (es := es ++ [(en.1, m + 1, en.2.2.1, en.2.2.2.1, en.2.2.2.2)]) (by rw [List.length_append, List.length_singleton]; omega)
  rw [without_sp (by rw [List.length_append, List.length_singleton]; omega) c hB2, Option.bind_some]
  have hbT : Top (es ++ [(en.1, m + 1, en.2.2.1, en.2.2.2.1, en.2.2.2.2)]) (en.1, m + 1, en.2.2.1, en.2.2.2.1, en.2.2.2.2) := by
    refine ⟨by simp, fun x hx hv => ?_⟩
    rcases List.mem_append.mp hx with q | q
    · have hle := (leE_iff.mp (hT.2 x q hv)).2 hv.symm
      refine leE_iff.mpr ⟨by dsimp only at hv ⊢; omega, fun _ => ⟨by dsimp only; omega, fun z => ?_⟩⟩
      have := hle.1
      dsimp only at z
      omega
    · rw [List.mem_singleton.mp q]; exact linE.ir _
  have hb2 : (en.1, m + 1, en.2.2.1, en.2.2.2.1, en.2.2.2.2) ∈ B2.filter (kept c) := List.mem_filter.mpr ⟨(hB2.m _).mpr hbT, kept_iff.mpr fun q hq hv => by
    have := hmc q hq hv.1
    have := hv.2
    dsimp only at this
    omega⟩
  refine Post.iff ?_ ?_
  · rw [tin_mem.mpr hb2, List.length_map, List.filter_eq_nil_iff.mpr fun one hone => ?_]
    · simp
    · intro z
      obtain ⟨o1, o2⟩ := List.mem_filter.mp hone
      rw [Bool.and_eq_true, Bool.not_eq_true', decide_eq_false_iff_not, Bool.not_eq_true'] at z
      have hoT := (hB.m one).mp o1
      have : one ∈ B2.filter (kept c) := List.mem_filter.mpr ⟨(hB2.m _).mpr ⟨List.mem_append.mpr (.inl hoT.1), fun x hx hv => by
        rcases List.mem_append.mp hx with q | q
        · exact hoT.2 x q hv
        · rw [List.mem_singleton.mp q] at hv
          exact absurd hv.symm z.1⟩, o2⟩
      rw [tin_mem.mpr this] at z
      cases z.2
  refine Post.bind (take_sp (by decide)) fun y18 h18 => Post.let ?_
  rw [tcat_of (by simp only [List.length_singleton]; omega), Option.bind_some]
  have hB3 : IsB (es ++ [(en.1, en.2.1 - 1 - y18.1, en.2.2.1, en.2.2.2.1, en.2.2.2.2)]) B' := isB_more hB ⟨en, hT, rfl, leE_iff.mpr ⟨by dsimp only; omega, fun _ => ⟨by dsimp only; omega, fun z => by dsimp only at z; omega⟩⟩⟩
  rw [without_sp (by rw [List.length_append, List.length_singleton]; omega) c hB3, Option.bind_some, sameE (Nat.le_trans (List.length_filter_le _ _) (by omega)), Option.bind_some]
  exact Post.iff (by simp) (Post.pure ⟨_, rfl, trivial⟩)
theorem last_split {A : Type} {xs : List A} (h : xs ≠ []) : ∃ ys z, xs = ys ++ [z] := ⟨xs.dropLast, xs.getLast h, (List.dropLast_concat_getLast h).symm⟩
theorem law_t (ns : List Int) (hn : ns.length ≤ 63) : t_law ns = some true := by
  suffices h : Post (t_law ns) (fun r => r = true) by
    obtain ⟨r, e, rfl⟩ := h
    exact e
  unfold t_law
  refine Post.bind (draws_sp ns (by decide) (by decide) (by omega)) fun y1 _ => Post.bind (take_sp (by decide)) fun y2 h2 => Post.bind (entries_sp ns y2.2 h2.1 (by omega)) fun y3 h3 => ?_
  generalize y3.1 = es at h3 ⊢
  obtain ⟨B, b1, hB, hBl⟩ := bul_sp (es := es) (by omega)
  obtain ⟨B', b2, hB', _⟩ := lbul_sp (es := es) (by omega)
  have : B' = B := hB'.uniq hB fun _ => Iff.rfl
  subst this
  rw [b1, Option.bind_some, b2, Option.bind_some, sameE (by omega), Option.bind_some]
  refine Post.iff (by simp) ?_
  rw [tcat_of (by rw [List.length_map]; simp; omega), Option.bind_some, tsortU, if_pos (by rw [List.length_append, List.length_map]; simp; omega), Option.bind_some]
  refine Post.go (P := fun _ => True) (tforr_go (fun _ => True) trivial fun v _ s _ => ?_) fun s27 _ => ?_
  · have hvl := vs_len es v
    have hrev : vs es.reverse v = vs es v := lt_ext (sortU_lt _) (sortU_lt _) fun x => by
      have a := vs_mem (es := es.reverse) (v := v) (x := x)
      have b := vs_mem (es := es) (v := v) (x := x)
      simp only [List.mem_reverse] at a
      exact a.trans b.symm
    rw [versions_sp (by omega), Option.bind_some, hist_sp (by omega), Option.bind_some, tsame_ok (ok := okV okA) (okV_of (by omega) fun _ _ => rfl), Option.bind_some]
    refine Post.eqb (a := false) ?_ (Post.iff (by simp) (Post.let ?_))
    · rw [if_neg (by simp), hist_sp (by rw [List.length_reverse]; omega), Option.bind_some, hrev, tsame_ok (ok := okV okA) (okV_of (by omega) fun _ _ => rfl)]; rfl
    rw [List.map_id']
    by_cases c : ∃ e ∈ es, e.1 = v
    · obtain ⟨e, he, rfl⟩ := c
      obtain ⟨b, hb, hbv⟩ := top_of he
      have hbB := (hB.m b).mpr hb
      obtain ⟨z, zs, ez⟩ : ∃ z zs, B'.filter (fun x => decide (x.1 = e.1)) = z :: zs := List.exists_cons_of_ne_nil (List.ne_nil_of_mem (List.mem_filter.mpr ⟨hbB, decide_eq_true hbv⟩))
      have hz : z ∈ B'.filter (fun x => decide (x.1 = e.1)) := by rw [ez]; simp
      obtain ⟨z1, z2⟩ := List.mem_filter.mp hz
      have hzb : z = b := ((hB.m z).mp z1).eq hb ((of_decide_eq_true z2).trans hbv.symm)
      subst hzb
      have hne : vs es e.1 ≠ [] := List.ne_nil_of_mem (vs_mem.mpr ⟨e, he, rfl, rfl⟩)
      obtain ⟨ys, l, el⟩ := last_split hne
      have hlm : l ∈ vs es e.1 := by rw [el]; simp
      obtain ⟨x, hx, hxv, hxl⟩ := vs_mem.mp hlm
      have h5 := ((leE_iff.mp (hb.2 x hx (hxv.trans hbv.symm))).2 (hbv.trans hxv.symm)).1
      have h6 : z.2.1 ∈ ys ++ [l] := by rw [← el]; exact vs_mem.mpr ⟨z, hb.1, hbv, rfl⟩
      have h7 : (ys ++ [l]).Pairwise (· < ·) := by rw [← el]; exact sortU_lt _
      have h8 : z.2.1 ≤ l := by
        rcases List.mem_append.mp h6 with q | q
        · have := (List.pairwise_append.mp h7).2.2 _ q l (by simp)
          omega
        · rw [List.mem_singleton.mp q]; exact Int.le_refl _
      have t0 : tat (z :: zs) 0 = some z := tat_n (n := 0) rfl
      refine Post.eqb (a := false) ?_ (Post.iff (by simp) (Post.pure ⟨_, rfl, trivial⟩))
      rw [ez, decide_eq_false (show ¬ ((z :: zs).length : Int) = 0 by rw [List.length_cons]; omega), decide_eq_false hne, if_neg (by simp), if_pos (by rw [decide_eq_true_eq, List.length_cons]; omega), t0, Option.bind_some, el, tat_last, Option.bind_some, decide_eq_true (by omega)]; rfl
    · have e1 : B'.filter (fun x => decide (x.1 = v)) = [] := List.filter_eq_nil_iff.mpr fun x hx z => c ⟨x, ((hB.m x).mp hx).1, of_decide_eq_true z⟩
      have e2 : vs es v = [] := List.eq_nil_iff_forall_not_mem.mpr fun x hx => by
        obtain ⟨e, he, hv, _⟩ := vs_mem.mp hx
        exact c ⟨e, he, hv⟩
      rw [e1, e2]
      exact Post.eqb (a := false) rfl (Post.iff (by simp) (Post.pure ⟨_, rfl, trivial⟩))
  refine Post.bind (take_sp (by decide)) fun y31 h31 => Post.bind (take_sp (by decide)) fun y32 h32 => ?_
  refine Post.go (P := fun _ => True) (tforr_go (fun _ => True) trivial fun many hmany s _ => ?_) fun s63 _ => ?_
  · have hmb : 0 ≤ many ∧ many ≤ 8 := by
      simp only [List.mem_cons, List.not_mem_nil, or_false] at hmany
      omega
    refine Post.bind (cancelled_sp s hmb.1 (by omega)) fun y40 h40 => ?_
    generalize y40.1 = c at h40 ⊢
    have hfl : ∀ p : En → Bool, (B'.filter p).length ≤ 1000 := fun p => Nat.le_trans (List.length_filter_le _ _) (by omega)
    rw [left_sp (by omega) c hB, Option.bind_some, without_sp (by omega) c hB, Option.bind_some, sameE (hfl _), Option.bind_some]
    refine Post.eqb (a := false) ?_ (Post.iff (by simp) ?_)
    · rw [if_neg (by simp), isb_sp (hfl _) (isB_part hB (kept c)) rfl]; rfl
    have h1t : cut c none (some (1 : Int)) = c.take 1 := cut_to c 1
    rw [h1t, tcat_of (by rw [List.length_reverse, List.length_take]; omega), Option.bind_some, without_sp (by omega) _ (isB_self hB), Option.bind_some]
    have hk : B'.filter (kept (c.reverse ++ c.take 1)) = B'.filter (kept c) := List.filter_congr fun b _ => by
      rw [Bool.eq_iff_iff, kept_iff, kept_iff]
      constructor
      · intro h q hq
        exact h q (List.mem_append.mpr (.inl (List.mem_reverse.mpr hq)))
      · intro h q hq
        rcases List.mem_append.mp hq with z | z
        · exact h q (List.mem_reverse.mp z)
        · exact h q (List.mem_of_mem_take z)
    rw [hk, sameE (hfl _), Option.bind_some]
    refine Post.iff ?_ ?_
    · by_cases z : many = 0
      · have hc0 : c = [] := List.length_eq_zero_iff.mp (by omega)
        have : B'.filter (kept c) = B' := by rw [hc0]; exact List.filter_eq_self.mpr fun _ _ => rfl
        rw [this]; simp
      · rw [decide_eq_false z]; simp
    refine Post.bind (cancelled_sp y40.2 (by decide) (by decide)) fun y49 h49 => ?_
    rw [tcat_of (by omega), Option.bind_some, without_sp (by omega) _ hB, Option.bind_some]
    refine Post.iff ?_ ?_
    · rw [List.length_map, List.filter_eq_nil_iff.mpr fun x hx => ?_]
      · simp
      · obtain ⟨x1, x2⟩ := List.mem_filter.mp hx
        rw [kept_iff] at x2
        have : x ∈ B'.filter (kept c) := List.mem_filter.mpr ⟨x1, kept_iff.mpr fun q hq => x2 q (List.mem_append.mpr (.inl hq))⟩
        rw [tin_mem.mpr this]; decide
    refine Post.bind (back_sp y49.2 (by omega) hB hBl (by omega)) fun y53 h53 => Post.iff (by rw [h53]; simp) ?_
    refine Post.go (P := fun _ => True) (tforr_go (fun _ => True) trivial fun e he s _ => ?_) fun _ _ => Post.pure ⟨_, rfl, trivial⟩
    have he2 : e ∈ es := by
      have e4 : cut es none (some (2 : Int)) = es.take 2 := cut_to es 2
      rw [e4] at he
      exact List.mem_of_mem_take he
    have hlate : t_told_later B' e = some B' := by
      unfold t_told_later
      obtain ⟨B3, q1, q2, _⟩ := bul_sp (es := B' ++ [e]) (by rw [List.length_append, List.length_singleton]; omega)
      have : B3 = B' := q2.uniq (isB_tail hB he2) fun _ => Iff.rfl
      subst this
      rw [tcat_of (by rw [List.length_singleton]; omega), Option.bind_some, q1]; rfl
    rw [hlate, Option.bind_some, without_sp (by omega) _ (isB_self hB), Option.bind_some, sameE (hfl _), Option.bind_some]
    exact Post.iff (by simp) (Post.pure ⟨_, rfl, trivial⟩)
  refine Post.let ?_
  have hb : t_bulletin_of [(7, 1, 2, (0, 0), 5), (3, 0, 1, (1, 1), 5), (7, 3, 1, (9, 0), 4), (7, 1, 1, (9, 1), 0)] = some [(3, 0, 1, (1, 1), 5), (7, 3, 1, (9, 0), 4)] := by
    unfold t_bulletin_of
    rw [srt_isrt]
    rfl
  have hb0 : t_bulletin_of [] = some [] := by
    unfold t_bulletin_of
    rw [srt_isrt]
    rfl
  have c1 : t_history_of [(7, 1, 2, (0, 0), 5), (3, 0, 1, (1, 1), 5), (7, 3, 1, (9, 0), 4), (7, 1, 1, (9, 1), 0)] 7 = some [1, 3] := by
    unfold t_history_of; rw [tsortU_k]; rfl
  have c2 : t_history_of [(7, 1, 2, (0, 0), 5), (3, 0, 1, (1, 1), 5), (7, 3, 1, (9, 0), 4), (7, 1, 1, (9, 1), 0)] 4 = some [] := by
    unfold t_history_of; rw [tsortU_k]; rfl
  have c3 : t_bulletin_without [(7, 1, 2, (0, 0), 5), (3, 0, 1, (1, 1), 5), (7, 3, 1, (9, 0), 4), (7, 1, 1, (9, 1), 0)] [(7, 2), (3, 0)] = some [(7, 3, 1, (9, 0), 4)] := by
    unfold t_bulletin_without; rw [hb]; rfl
  have c4 : t_bulletin_without [(7, 1, 2, (0, 0), 5), (3, 0, 1, (1, 1), 5), (7, 3, 1, (9, 0), 4), (7, 1, 1, (9, 1), 0)] [(7, 3)] = some [(3, 0, 1, (1, 1), 5)] := by
    unfold t_bulletin_without; rw [hb]; rfl
  have c5 : t_bulletin_without [] [(1, 1)] = some [] := by
    unfold t_bulletin_without; rw [hb0]; rfl
  refine Post.eqb (show t_history_of _ 7 = some [1, 3] from c1) (Post.eqb (tsame_ok (ok := okV okA) (a := [1, 3]) rfl) (Post.eqb (a := false) ?_ (Post.iff (by simp) ?_)))
  · rw [if_neg (by simp)]
    show Option.bind (t_history_of [(7, 1, 2, (0, 0), 5), (3, 0, 1, (1, 1), 5), (7, 3, 1, (9, 0), 4), (7, 1, 1, (9, 1), 0)] 4) _ = _
    rw [c2]; rfl
  refine Post.eqb (show t_bulletin_without _ _ = some [(7, 3, 1, (9, 0), 4)] from c3) (Post.eqb (show tsame _ _ _ = some true from sameE (B := [(7, 3, 1, (9, 0), 4)]) (by decide)) (Post.eqb (a := false) ?_ (Post.iff (by simp) ?_)))
  · rw [if_neg (by simp)]
    show Option.bind (t_bulletin_without [(7, 1, 2, (0, 0), 5), (3, 0, 1, (1, 1), 5), (7, 3, 1, (9, 0), 4), (7, 1, 1, (9, 1), 0)] [(7, 3)]) _ = _
    rw [c4]; rfl
  refine Post.eqb (show t_bulletin_without _ _ = some [] from c5) (Post.eqb (show tsame _ _ _ = some true from sameE (B := []) (by decide)) (Post.eqb (a := true) ?_ (Post.pure rfl)))
  rw [if_pos rfl, Option.bind_some, sameE (by omega)]; rfl
theorem law_data (ns : List Int) (hn : ns.length ≤ 63) : claw [.kst (ns.map .int)] [] = some (.bl true, []) := r_law (law_t ns hn)
end LP
namespace LP
open PySem PySem.Spec PyProof.Rows L2 PF
section
variable {P : Program} {w : World} {K : PySem.W.Frag} {mg : Str → Option Value} {base : Heap}
theorem scentries_by_event : FnScope ["entries", "found", "entry"] ["entries"] (defScope stentries_by_event) := ⟨rfl, rfl, rfl, by decide +kernel, rfl, by decide +kernel, by decide +kernel⟩
theorem okentries_by_event {f : Addr} {fd : FuncData} (F : FunD K "entries_by_event" "entries_by_event" (defArgs stentries_by_event) (defBody stentries_by_event) (defScope stentries_by_event) [] [] f fd) (g : mg "entries_by_event" = some (.ref f)) (B : Bn mg)  : Cal P w K mg base 1 "entries_by_event" centries_by_event 1 := by
  have nd := scentries_by_event.nd
  refine cal_of (ps := ["entries"]) g F.kp (F.bindsN fun _ _ _ _ _ _ us hl => match us, hl with | [_], _ => rfl) (fn_ok (k := 0) F scentries_by_event fun cdv A outer s H E hr => ?_)
  exact pfs_cons (pfs_set (i := 1) nd rfl (by first | exact Or.inl rfl | exact Or.inr rfl) (pf_mutD (pfd_nil)))
      (pfs_cons (pfs_for (vs := [2]) PassesOwn.never rfl (pfi_sq (pf_var 0)) (pfg_name (i := 2) nd rfl (by first | exact Or.inl rfl | exact Or.inr rfl))
      (pfs_one (pfs_dset hr.units (pf_b (cr_max2Dt rfl hr.units) o_mm2 (by rfl) B.max boot_max (pfa_cons (pf_var 2) (pfa_cons (pf_dget2 hr.units (pf_var 1) (pf_ix ix_seq o_ix (pf_var 2) (pf_int) (fun _ _ => rfl)) (pf_var 2)) (pfa_nil)))) (pf_var 1) (pf_ix ix_seq o_ix (pf_var 2) (pf_int) (fun _ _ => rfl)))))
      (pfs_one (pfs_ret (pf_var 1))))
theorem scbulletin_of : FnScope ["entries", "told", "event"] ["entries"] (defScope stbulletin_of) := ⟨rfl, rfl, rfl, by decide +kernel, rfl, by decide +kernel, by decide +kernel⟩
theorem okbulletin_of {f : Addr} {fd : FuncData} (F : FunD K "bulletin_of" "bulletin_of" (defArgs stbulletin_of) (defBody stbulletin_of) (defScope stbulletin_of) [] [] f fd) (g : mg "bulletin_of" = some (.ref f)) (B : Bn mg) (Centries_by_event : Cal P w K mg base 1 "entries_by_event" qentries_by_event 1) : Cal P w K mg base 2 "bulletin_of" cbulletin_of 1 := by
  have nd := scbulletin_of.nd
  refine cal_of (ps := ["entries"]) g F.kp (F.bindsN fun _ _ _ _ _ _ us hl => match us, hl with | [_], _ => rfl) (fn_ok (k := 1) F scbulletin_of fun cdv A outer s H E hr => ?_)
  exact pfs_cons (pfs_set (i := 1) nd rfl (by first | exact Or.inl rfl | exact Or.inr rfl) (pf_callC Centries_by_event (hr.mono (by decide)) (by rfl) (pfa_cons (pf_var 0) (pfa_nil)) (len_cons len_nil)))
      (pfs_one (pfs_ret (pf_ty call_tuple_of o_tuple (by rfl) B.tuple boot_tuple (pfa_cons (pf_fz (pfn_lc (own := [("event", 2)]) rfl nd (pfi_sq (pf_fz (pfn_b (cr_sortX rfl hr.units) o_sortX (by rfl) B.sorted boot_sorted (pfa_cons (pf_var 1) (pfa_nil))))) (blkOk_by (own := [("event", 2)]) (N := ["entries", "told", "event"]) (by with_unfolding_all rfl)) (fun _ _ _ _ _ => pfg_name (i := 2) nd rfl (by first | exact Or.inl rfl | exact Or.inr rfl)) (fun _ _ _ _ _ => pfts_nil) (fun _ _ _ _ _ => pf_dget hr.units (pf_var 1) (pf_var 2) (fun _ _ => rfl)))) (pfa_nil)))))
theorem sctold_later : FnScope ["bulletin", "entry"] ["bulletin", "entry"] (defScope sttold_later) := ⟨rfl, rfl, rfl, by decide +kernel, rfl, by decide +kernel, by decide +kernel⟩
theorem oktold_later {f : Addr} {fd : FuncData} (F : FunD K "told_later" "told_later" (defArgs sttold_later) (defBody sttold_later) (defScope sttold_later) [] [] f fd) (g : mg "told_later" = some (.ref f)) (B : Bn mg) (Cbulletin_of : Cal P w K mg base 2 "bulletin_of" qbulletin_of 1) : Cal P w K mg base 3 "told_later" ctold_later 2 := by
  have nd := sctold_later.nd
  refine cal_of (ps := ["bulletin", "entry"]) g F.kp (F.bindsN fun _ _ _ _ _ _ us hl => match us, hl with | [_, _], _ => rfl) (fn_ok (k := 2) F sctold_later fun cdv A outer s H E hr => ?_)
  exact pfs_one (pfs_ret (pf_callC Cbulletin_of (hr.mono (by decide)) (by rfl) (pfa_cons (pf_bin op_addA o_add (pf_var 0) (pf_tup (pfa_cons (pf_var 1) (pfa_nil)))) (pfa_nil)) (len_cons len_nil)))
theorem scis_bulletin : FnScope ["entries"] ["entries"] (defScope stis_bulletin) := ⟨rfl, rfl, rfl, by decide +kernel, rfl, by decide +kernel, by decide +kernel⟩
theorem okis_bulletin {f : Addr} {fd : FuncData} (F : FunD K "is_bulletin" "is_bulletin" (defArgs stis_bulletin) (defBody stis_bulletin) (defScope stis_bulletin) [] [] f fd) (g : mg "is_bulletin" = some (.ref f)) (B : Bn mg) (Cbulletin_of : Cal P w K mg base 2 "bulletin_of" qbulletin_of 1) : Cal P w K mg base 3 "is_bulletin" cis_bulletin 1 := by
  have nd := scis_bulletin.nd
  refine cal_of (ps := ["entries"]) g F.kp (F.bindsN fun _ _ _ _ _ _ us hl => match us, hl with | [_], _ => rfl) (fn_ok (k := 2) F scis_bulletin fun cdv A outer s H E hr => ?_)
  exact pfs_one (pfs_ret (pf_cmp (op_eqD hr.units) o_eq (pf_callC Cbulletin_of (hr.mono (by decide)) (by rfl) (pfa_cons (pf_var 0) (pfa_nil)) (len_cons len_nil)) (pf_var 0) (nomark _)))
theorem schistory_of : FnScope ["entries", "event", "entry"] ["entries", "event"] (defScope sthistory_of) := ⟨rfl, rfl, rfl, by decide +kernel, rfl, by decide +kernel, by decide +kernel⟩
theorem okhistory_of {f : Addr} {fd : FuncData} (F : FunD K "history_of" "history_of" (defArgs sthistory_of) (defBody sthistory_of) (defScope sthistory_of) [] [] f fd) (g : mg "history_of" = some (.ref f)) (B : Bn mg)  : Cal P w K mg base 1 "history_of" chistory_of 2 := by
  have nd := schistory_of.nd
  refine cal_of (ps := ["entries", "event"]) g F.kp (F.bindsN fun _ _ _ _ _ _ us hl => match us, hl with | [_, _], _ => rfl) (fn_ok (k := 0) F schistory_of fun cdv A outer s H E hr => ?_)
  exact pfs_one (pfs_ret (pf_ty call_tuple_of o_tuple (by rfl) B.tuple boot_tuple (pfa_cons (pf_fz (pfn_sortU (by rfl) B.sorted (by rfl) B.set (pfa_cons (pf_fz (pfn_lc (own := [("entry", 2)]) rfl nd (pfi_sq (pf_var 0)) (blkOk_by (own := [("entry", 2)]) (N := ["entries", "event", "entry"]) (by with_unfolding_all rfl)) (fun _ _ _ _ _ => pfg_name (i := 2) nd rfl (by first | exact Or.inl rfl | exact Or.inr rfl)) (fun _ _ _ _ _ => pfts_one (pft_cmp (op_eqD hr.units) o_eq (pf_ix ix_seq o_ix (pf_var 2) (pf_int) (fun _ _ => rfl)) (pf_var 1) (nomark _))) (fun _ _ _ _ _ => pf_ix ix_seq o_ix (pf_var 2) (pf_int) (fun _ _ => rfl)))) (pfa_nil)))) (pfa_nil))))
theorem scbulletin_without : FnScope ["entries", "cancelled", "found", "entry", "event", "version"] ["entries", "cancelled"] (defScope stbulletin_without) := ⟨rfl, rfl, rfl, by decide +kernel, rfl, by decide +kernel, by decide +kernel⟩
theorem okbulletin_without {f : Addr} {fd : FuncData} (F : FunD K "bulletin_without" "bulletin_without" (defArgs stbulletin_without) (defBody stbulletin_without) (defScope stbulletin_without) [] [] f fd) (g : mg "bulletin_without" = some (.ref f)) (B : Bn mg) (Cbulletin_of : Cal P w K mg base 2 "bulletin_of" qbulletin_of 1) : Cal P w K mg base 3 "bulletin_without" cbulletin_without 2 := by
  have nd := scbulletin_without.nd
  refine cal_of (ps := ["entries", "cancelled"]) g F.kp (F.bindsN fun _ _ _ _ _ _ us hl => match us, hl with | [_, _], _ => rfl) (fn_ok (k := 2) F scbulletin_without fun cdv A outer s H E hr => ?_)
  exact pfs_cons (pfs_set (i := 2) nd rfl (by first | exact Or.inl rfl | exact Or.inr rfl) (pf_mut (pfn_lst (pfa_nil))))
      (pfs_cons (pfs_for (vs := [3]) PassesOwn.never rfl (pfi_sq (pf_callC Cbulletin_of (hr.mono (by decide)) (by rfl) (pfa_cons (pf_var 0) (pfa_nil)) (len_cons len_nil))) (pfg_name (i := 3) nd rfl (by first | exact Or.inl rfl | exact Or.inr rfl))
      (pfs_one (pfs_if (pft_not (pft_tru (pf_b (cr_any rfl) o_any (by rfl) B.any boot_any (pfa_cons (pf_fz (pfn_lc (own := [("event", 4), ("version", 5)]) rfl nd (pfi_sq (pf_var 1)) (blkOk_by (own := [("event", 4), ("version", 5)]) (N := ["entries", "cancelled", "found", "entry", "event", "version"]) (by with_unfolding_all rfl)) (fun _ _ _ _ _ => pfg_any rfl (pfgs_cons (pfg_name (i := 4) nd rfl (by first | exact Or.inl rfl | exact Or.inr rfl)) (pfgs_cons (pfg_name (i := 5) nd rfl (by first | exact Or.inl rfl | exact Or.inr rfl)) (pfgs_nil)))) (fun _ _ _ _ _ => pfts_nil) (fun _ _ _ _ _ => pf_and (pf_cmp (op_eqD hr.units) o_eq (pf_var 4) (pf_ix ix_seq o_ix (pf_var 3) (pf_int) (fun _ _ => rfl)) (nomark _)) (pf_one (pf_cmp op_ge o_cmp (pf_var 5) (pf_ix ix_seq o_ix (pf_var 3) (pf_int) (fun _ _ => rfl)) (nomark _)))))) (pfa_nil)))))
      (pfs_one (pfs_expr (pf_m PySem.F.plainAttrs_list PySem.F.slot_list_append PySem.F.type_list_append mt_append o_append (pf_var 2) (pfa_cons (pf_var 3) (pfa_nil)))))
      (pfs_nil))))
      (pfs_one (pfs_ret (pf_ty call_tuple_of o_tuple (by rfl) B.tuple boot_tuple (pfa_cons (pf_var 2) (pfa_nil))))))
theorem sc_law_draws : FnScope ["script", "many", "cells", "cell", "rest", "draws", "k", "at", "mingled"] ["script", "many"] (defScope st_law_draws) := ⟨rfl, rfl, rfl, by decide +kernel, rfl, by decide +kernel, by decide +kernel⟩
theorem ok_law_draws {f : Addr} {fd : FuncData} (F : FunD K "_law_draws" "_law_draws" (defArgs st_law_draws) (defBody st_law_draws) (defScope st_law_draws) [] [] f fd) (g : mg "_law_draws" = some (.ref f)) (B : Bn mg)  : Cal P w K mg base 1 "_law_draws" c_law_draws 2 := by
  have nd := sc_law_draws.nd
  refine cal_of (ps := ["script", "many"]) g F.kp (F.bindsN fun _ _ _ _ _ _ us hl => match us, hl with | [_, _], _ => rfl) (fn_ok (k := 0) F sc_law_draws fun cdv A outer s H E hr => ?_)
  exact pfs_cons (pfs_setLcM (own := [("cell", 3)]) (i := 2) rfl nd rfl rfl (sw_true rfl rfl rfl (by decide +kernel)) (pfi_sq (pf_var 0)) (blkOk_by (own := [("cell", 3)]) (N := ["script", "many", "cells", "cell", "rest", "draws", "k", "at", "mingled"]) (by with_unfolding_all rfl)) (fun _ _ _ _ _ => pfg_name (i := 3) nd rfl (by first | exact Or.inl rfl | exact Or.inr rfl)) (fun _ _ _ _ _ => pfts_nil) (fun _ _ _ _ _ => pf_ty call_int1 o_int (by rfl) B.int boot_int (pfa_cons (pf_var 3) (pfa_nil))))
      (pfs_cons (pfs_if (pft_cmp (op_eqD hr.units) o_eq (pf_b call_len o_len (by rfl) B.len boot_len (pfa_cons (pf_var 2) (pfa_nil))) (pf_int) (nomark _))
      (pfs_one (pfs_expr (pf_m PySem.F.plainAttrs_list PySem.F.slot_list_append PySem.F.type_list_append mt_append o_append (pf_var 2) (pfa_cons (pf_int) (pfa_nil)))))
      (pfs_nil))
      (pfs_cons (pfs_set (i := 4) nd rfl (by first | exact Or.inl rfl | exact Or.inr rfl) (pf_mut (pfn_ty call_list_of o_list (by rfl) B.list boot_list (pfa_cons (pf_var 2) (pfa_nil)))))
      (pfs_cons (pfs_set (i := 5) nd rfl (by first | exact Or.inl rfl | exact Or.inr rfl) (pf_mut (pfn_lst (pfa_nil))))
      (pfs_cons (pfs_for (vs := [6]) PassesOwn.never rfl (pfi_rg1 (by rfl) B.range (pfa_cons (pf_var 1) (pfa_nil))) (pfg_name (i := 6) nd rfl (by first | exact Or.inl rfl | exact Or.inr rfl))
      (pfs_cons (pfs_set (i := 7) nd rfl (by first | exact Or.inl rfl | exact Or.inr rfl) (pf_bin op_modN o_mod (pf_var 6) (pf_b call_len o_len (by rfl) B.len boot_len (pfa_cons (pf_var 2) (pfa_nil)))))
      (pfs_one (pfs_if (PW.pt (pfw_and (pft_cmp op_ge o_cmp (pf_ix ix_seq o_ix (pf_var 2) (pf_var 7) (fun _ _ => rfl)) (pf_bin op_pow o_pow (pf_int) (pf_int)) (nomark _)) (pfw_and1 (pft_cmp op_gt o_cmp (pf_ix ix_seq o_ix (pf_var 4) (pf_var 7) (fun _ _ => rfl)) (pf_int) (nomark _)))))
      (pfs_cons (pfs_expr (pf_m PySem.F.plainAttrs_list PySem.F.slot_list_append PySem.F.type_list_append mt_append o_append (pf_var 5) (pfa_cons (pf_bin op_modN o_mod (pf_ty call_int1 o_int (by rfl) B.int boot_int (pfa_cons (pf_ix ix_seq o_ix (pf_var 4) (pf_var 7) (fun _ _ => rfl)) (pfa_nil))) (pf_int)) (pfa_nil))))
      (pfs_one (pfs_setIx (pf_bin op_fdivA o_fdiv (pf_ix ix_seq o_ix (pf_var 4) (pf_var 7) (fun _ _ => rfl)) (pf_int)) (pf_var 4) (pf_var 7))))
      (pfs_cons (pfs_set (i := 8) nd rfl (by first | exact Or.inl rfl | exact Or.inr rfl) (pf_bin op_modN o_mod (pf_ty call_int1 o_int (by rfl) B.int boot_int (pfa_cons (pf_bin op_addA o_add (pf_bin op_addA o_add (pf_bin op_mulA o_mul (pf_ix ix_seq o_ix (pf_var 2) (pf_var 7) (fun _ _ => rfl)) (pf_int)) (pf_bin op_mulA o_mul (pf_var 6) (pf_int))) (pf_int)) (pfa_nil))) (pf_int)))
      (pfs_one (pfs_expr (pf_m PySem.F.plainAttrs_list PySem.F.slot_list_append PySem.F.type_list_append mt_append o_append (pf_var 5) (pfa_cons (pf_bin op_modN o_mod (pf_ty call_int1 o_int (by rfl) B.int boot_int (pfa_cons (pf_bin op_addA o_add (pf_bin op_addA o_add (pf_bin op_mulA o_mul (pf_var 8) (pf_var 8)) (pf_bin op_mulA o_mul (pf_int) (pf_var 8))) (pf_var 6)) (pfa_nil))) (pf_int)) (pfa_nil))))))))))
      (pfs_cons (pfs_expr (pf_m0 PySem.F.plainAttrs_list PySem.F.slot_list_reverse PySem.F.type_list_reverse mt_reverse o_reverse (pf_var 5)))
      (pfs_one (pfs_ret (pf_var 5))))))))
theorem sc_law_take : FnScope ["draws", "many"] ["draws", "many"] (defScope st_law_take) := ⟨rfl, rfl, rfl, by decide +kernel, rfl, by decide +kernel, by decide +kernel⟩
theorem ok_law_take {f : Addr} {fd : FuncData} (F : FunD K "_law_take" "_law_take" (defArgs st_law_take) (defBody st_law_take) (defScope st_law_take) [] [] f fd) (g : mg "_law_take" = some (.ref f)) (B : Bn mg)  : Cal P w K mg base 1 "_law_take" c_law_take 2 := by
  have nd := sc_law_take.nd
  refine cal_of (ps := ["draws", "many"]) g F.kp (F.bindsN fun _ _ _ _ _ _ us hl => match us, hl with | [_, _], _ => rfl) (fn_ok (k := 0) F sc_law_take fun cdv A outer s H E hr => ?_)
  exact pfs_cons (pfs_if (pft_cmp (op_eqD hr.units) o_eq (pf_b call_len o_len (by rfl) B.len boot_len (pfa_cons (pf_var 0) (pfa_nil))) (pf_int) (nomark _))
      (pfs_one (pfs_ret (pf_int)))
      (pfs_nil))
      (pfs_one (pfs_ret (pf_bin op_modN o_mod (pf_ty call_int1 o_int (by rfl) B.int boot_int (pfa_cons (pf_m0 PySem.F.plainAttrs_list PySem.F.slot_list_pop PySem.F.type_list_pop mt_pop o_pop (pf_var 0)) (pfa_nil))) (pf_var 1))))
theorem sc_law_cell : FnScope ["script", "draws", "cell"] ["script", "draws"] (defScope st_law_cell) := ⟨rfl, rfl, rfl, by decide +kernel, rfl, by decide +kernel, by decide +kernel⟩
theorem ok_law_cell {f : Addr} {fd : FuncData} (F : FunD K "_law_cell" "_law_cell" (defArgs st_law_cell) (defBody st_law_cell) (defScope st_law_cell) [] [] f fd) (g : mg "_law_cell" = some (.ref f)) (B : Bn mg) (C_law_take : Cal P w K mg base 1 "_law_take" q_law_take 2) : Cal P w K mg base 2 "_law_cell" c_law_cell 2 := by
  have nd := sc_law_cell.nd
  refine cal_of (ps := ["script", "draws"]) g F.kp (F.bindsN fun _ _ _ _ _ _ us hl => match us, hl with | [_, _], _ => rfl) (fn_ok (k := 1) F sc_law_cell fun cdv A outer s H E hr => ?_)
  exact pfs_cons (pfs_if (pft_cmp (op_eqD hr.units) o_eq (pf_b call_len o_len (by rfl) B.len boot_len (pfa_cons (pf_var 0) (pfa_nil))) (pf_int) (nomark _))
      (pfs_one (pfs_ret (pf_int)))
      (pfs_nil))
      (pfs_cons (pfs_set (i := 2) nd rfl (by first | exact Or.inl rfl | exact Or.inr rfl) (pf_ty call_int1 o_int (by rfl) B.int boot_int (pfa_cons (pf_ix ix_seq o_ix (pf_var 0) (pf_callCS 0 C_law_take (hr.mono (by decide)) (by rfl) (pfa_cons (pf_var 1) (pfa_cons (pf_b call_len o_len (by rfl) B.len boot_len (pfa_cons (pf_var 0) (pfa_nil))) (pfa_nil))) (len_cons (len_cons len_nil))) (fun _ _ => rfl)) (pfa_nil))))
      (pfs_one (pfs_ret (pf_bin op_mulA o_mul (pf_bin op_modN o_mod (pf_b call_abs o_i1 (by rfl) B.abs boot_abs (pfa_cons (pf_var 2) (pfa_nil))) (pf_bin op_pow o_pow (pf_int) (pf_int))) (pf_ix ix_seq o_ix (pf_fz (pfn_lst (pfa_cons (pf_int) (pfa_cons (pf_un un_neg o_neg (pf_int)) (pfa_nil))))) (pf_ty call_int1 o_int (by rfl) B.int boot_int (pfa_cons (pf_cmp op_lt o_cmp (pf_var 2) (pf_int) (nomark _)) (pfa_nil))) (fun _ _ => rfl))))))
theorem sc_law_same : FnScope ["actual", "due", "k"] ["actual", "due"] (defScope st_law_same) := ⟨rfl, rfl, rfl, by decide +kernel, rfl, by decide +kernel, by decide +kernel⟩
theorem ok_law_same {f : Addr} {fd : FuncData} (F : FunD K "_law_same" "_law_same" (defArgs st_law_same) (defBody st_law_same) (defScope st_law_same) [] [] f fd) (g : mg "_law_same" = some (.ref f)) (B : Bn mg)  : ∀ n, Cal P w K mg base (1 + n) "_law_same" (c_law_same n) 2 := by
  have nd := sc_law_same.nd
  intro n
  induction n with
  | zero => exact cal_none (ps := ["actual", "due"]) g F.kp (F.bindsN fun _ _ _ _ _ _ us hl => match us, hl with | [_, _], _ => rfl) F (fun _ _ => rfl)
  | succ n ih =>
    refine cal_of (ps := ["actual", "due"]) g F.kp (F.bindsN fun _ _ _ _ _ _ us hl => match us, hl with | [_, _], _ => rfl) (fn_ok (k := 1 + n) F sc_law_same fun cdv A outer s H E hr => ?_)
    exact pfs_cons (pfs_if (pft_tru (pf_isi .bl (by decide) (by rfl) B.isinstance (pf_var 1) (by rfl) B.bool boot_bool))
      (pfs_one (pfs_ret (pf_and (pf_isi .bl (by decide) (by rfl) B.isinstance (pf_var 0) (by rfl) B.bool boot_bool) (pf_one (pf_cmp (op_eqD hr.units) o_eq (pf_var 0) (pf_var 1) (nomark _))))))
      (pfs_nil))
      (pfs_cons (pfs_if (pft_tru (pf_isi .int (by decide) (by rfl) B.isinstance (pf_var 1) (by rfl) B.int boot_int))
      (pfs_one (pfs_ret (pf_and (pf_isi .int (by decide) (by rfl) B.isinstance (pf_var 0) (by rfl) B.int boot_int) (pf_and (pf_not (pf_isi .bl (by decide) (by rfl) B.isinstance (pf_var 0) (by rfl) B.bool boot_bool)) (pf_one (pf_cmp (op_eqD hr.units) o_eq (pf_var 0) (pf_var 1) (nomark _)))))))
      (pfs_nil))
      (pfs_cons (pfs_if (pft_tru (pf_isi .str (by decide) (by rfl) B.isinstance (pf_var 1) (by rfl) B.str boot_str))
      (pfs_one (pfs_ret (pf_and (pf_isi .str (by decide) (by rfl) B.isinstance (pf_var 0) (by rfl) B.str boot_str) (pf_one (pf_cmp (op_eqD hr.units) o_eq (pf_var 0) (pf_var 1) (nomark _))))))
      (pfs_nil))
      (pfs_cons (pfs_if (pft_cmp op_isA o_is (pf_var 1) (pf_non) (nomark _))
      (pfs_one (pfs_ret (pf_cmp op_isA o_is (pf_var 0) (pf_non) (nomark _))))
      (pfs_nil))
      (pfs_cons (pfs_if (PW.pt (pfw_or (pft_not (pft_tru (pf_isi .tup (by decide) (by rfl) B.isinstance (pf_var 0) (by rfl) B.tuple boot_tuple))) (pfw_or1 (pft_cmp (op_neD hr.units) o_ne (pf_b call_len o_len (by rfl) B.len boot_len (pfa_cons (pf_var 0) (pfa_nil))) (pf_b call_len o_len (by rfl) B.len boot_len (pfa_cons (pf_var 1) (pfa_nil))) (nomark _)))))
      (pfs_one (pfs_ret (pf_bl)))
      (pfs_nil))
      (pfs_cons (pfs_for (vs := [2]) PassesOwn.never rfl (pfi_rg1 (by rfl) B.range (pfa_cons (pf_b call_len o_len (by rfl) B.len boot_len (pfa_cons (pf_var 1) (pfa_nil))) (pfa_nil))) (pfg_name (i := 2) nd rfl (by first | exact Or.inl rfl | exact Or.inr rfl))
      (pfs_one (pfs_if (pft_not (pft_tru (pf_callC ih (hr.mono (Nat.le_refl _)) (by rfl) (pfa_cons (pf_ix ix_seq o_ix (pf_var 0) (pf_var 2) (fun _ _ => rfl)) (pfa_cons (pf_ix ix_seq o_ix (pf_var 1) (pf_var 2) (fun _ _ => rfl)) (pfa_nil))) (len_cons (len_cons len_nil)))))
      (pfs_one (pfs_ret (pf_bl)))
      (pfs_nil))))
      (pfs_one (pfs_ret (pf_bl))))))))
theorem sc_law_entries : FnScope ["script", "draws", "many", "cell", "wide", "found", "k", "event", "version", "place", "entry", "shared"] ["script", "draws", "many"] (defScope st_law_entries) := ⟨rfl, rfl, rfl, by decide +kernel, rfl, by decide +kernel, by decide +kernel⟩
theorem ok_law_entries {f : Addr} {fd : FuncData} (F : FunD K "_law_entries" "_law_entries" (defArgs st_law_entries) (defBody st_law_entries) (defScope st_law_entries) [] [] f fd) (g : mg "_law_entries" = some (.ref f)) (B : Bn mg) (C_law_cell : Cal P w K mg base 2 "_law_cell" q_law_cell 2) (C_law_take : Cal P w K mg base 1 "_law_take" q_law_take 2) : Cal P w K mg base 3 "_law_entries" c_law_entries 3 := by
  have nd := sc_law_entries.nd
  refine cal_of (ps := ["script", "draws", "many"]) g F.kp (F.bindsN fun _ _ _ _ _ _ us hl => match us, hl with | [_, _, _], _ => rfl) (fn_ok (k := 2) F sc_law_entries fun cdv A outer s H E hr => ?_)
  exact pfs_cons (pfs_set (i := 3) nd rfl (by first | exact Or.inl rfl | exact Or.inr rfl) (pf_bin op_modN o_mod (pf_ty call_int1 o_int (by rfl) B.int boot_int (pfa_cons (pf_callCS 1 C_law_cell (hr.mono (by decide)) (by rfl) (pfa_cons (pf_var 0) (pfa_cons (pf_var 1) (pfa_nil))) (len_cons (len_cons len_nil))) (pfa_nil))) (pf_bin op_pow o_pow (pf_int) (pf_int))))
      (pfs_cons (pfs_set (i := 4) nd rfl (by first | exact Or.inl rfl | exact Or.inr rfl) (pf_ix ix_seq o_ix (pf_fz (pfn_lst (pfa_cons (pf_int) (pfa_cons (pf_int) (pfa_cons (pf_int) (pfa_nil)))))) (pf_callCS 0 C_law_take (hr.mono (by decide)) (by rfl) (pfa_cons (pf_var 1) (pfa_cons (pf_int) (pfa_nil))) (len_cons (len_cons len_nil))) (fun _ _ => rfl)))
      (pfs_cons (pfs_set (i := 5) nd rfl (by first | exact Or.inl rfl | exact Or.inr rfl) (pf_mut (pfn_lst (pfa_nil))))
      (pfs_cons (pfs_for (vs := [6]) PassesOwn.never rfl (pfi_rg1 (by rfl) B.range (pfa_cons (pf_var 2) (pfa_nil))) (pfg_name (i := 6) nd rfl (by first | exact Or.inl rfl | exact Or.inr rfl))
      (pfs_cons (pfs_set (i := 7) nd rfl (by first | exact Or.inl rfl | exact Or.inr rfl) (pf_ix ix_seq o_ix (pf_fz (pfn_lst (pfa_cons (pf_bin op_sub o_sub (pf_callCS 0 C_law_take (hr.mono (by decide)) (by rfl) (pfa_cons (pf_var 1) (pfa_cons (pf_int) (pfa_nil))) (len_cons (len_cons len_nil))) (pf_int)) (pfa_cons (pf_bin op_sub o_sub (pf_callCS 0 C_law_take (hr.mono (by decide)) (by rfl) (pfa_cons (pf_var 1) (pfa_cons (pf_int) (pfa_nil))) (len_cons (len_cons len_nil))) (pf_int)) (pfa_cons (pf_var 3) (pfa_nil)))))) (pf_b (call_min2 rfl) o_i2 (by rfl) B.min boot_min (pfa_cons (pf_bin op_fdivA o_fdiv (pf_callCS 0 C_law_take (hr.mono (by decide)) (by rfl) (pfa_cons (pf_var 1) (pfa_cons (pf_int) (pfa_nil))) (len_cons (len_cons len_nil))) (pf_int)) (pfa_cons (pf_int) (pfa_nil)))) (fun _ _ => rfl)))
      (pfs_cons (pfs_set (i := 8) nd rfl (by first | exact Or.inl rfl | exact Or.inr rfl) (pf_ix ix_seq o_ix (pf_fz (pfn_lst (pfa_cons (pf_callCS 0 C_law_take (hr.mono (by decide)) (by rfl) (pfa_cons (pf_var 1) (pfa_cons (pf_var 4) (pfa_nil))) (len_cons (len_cons len_nil))) (pfa_cons (pf_bin op_sub o_sub (pf_callCS 0 C_law_take (hr.mono (by decide)) (by rfl) (pfa_cons (pf_var 1) (pfa_cons (pf_var 4) (pfa_nil))) (len_cons (len_cons len_nil))) (pf_int)) (pfa_cons (pf_bin op_addA o_add (pf_var 3) (pf_callCS 0 C_law_take (hr.mono (by decide)) (by rfl) (pfa_cons (pf_var 1) (pfa_cons (pf_int) (pfa_nil))) (len_cons (len_cons len_nil)))) (pfa_nil)))))) (pf_b (call_min2 rfl) o_i2 (by rfl) B.min boot_min (pfa_cons (pf_bin op_fdivA o_fdiv (pf_callCS 0 C_law_take (hr.mono (by decide)) (by rfl) (pfa_cons (pf_var 1) (pfa_cons (pf_int) (pfa_nil))) (len_cons (len_cons len_nil))) (pf_int)) (pfa_cons (pf_int) (pfa_nil)))) (fun _ _ => rfl)))
      (pfs_cons (pfs_set (i := 9) nd rfl (by first | exact Or.inl rfl | exact Or.inr rfl) (pf_tup (pfa_cons (pf_callCS 0 C_law_take (hr.mono (by decide)) (by rfl) (pfa_cons (pf_var 1) (pfa_cons (pf_var 4) (pfa_nil))) (len_cons (len_cons len_nil))) (pfa_cons (pf_bin op_sub o_sub (pf_callCS 0 C_law_take (hr.mono (by decide)) (by rfl) (pfa_cons (pf_var 1) (pfa_cons (pf_var 4) (pfa_nil))) (len_cons (len_cons len_nil))) (pf_int)) (pfa_nil)))))
      (pfs_cons (pfs_set (i := 10) nd rfl (by first | exact Or.inl rfl | exact Or.inr rfl) (pf_tup (pfa_cons (pf_var 7) (pfa_cons (pf_var 8) (pfa_cons (pf_bin op_sub o_sub (pf_callCS 0 C_law_take (hr.mono (by decide)) (by rfl) (pfa_cons (pf_var 1) (pfa_cons (pf_var 4) (pfa_nil))) (len_cons (len_cons len_nil))) (pf_int)) (pfa_cons (pf_var 9) (pfa_cons (pf_ix ix_seq o_ix (pf_fz (pfn_lst (pfa_cons (pf_callCS 0 C_law_take (hr.mono (by decide)) (by rfl) (pfa_cons (pf_var 1) (pfa_cons (pf_var 4) (pfa_nil))) (len_cons (len_cons len_nil))) (pfa_cons (pf_un un_neg o_neg (pf_var 3)) (pfa_nil))))) (pf_ty call_int1 o_int (by rfl) B.int boot_int (pfa_cons (pf_cmp (op_eqD hr.units) o_eq (pf_callCS 0 C_law_take (hr.mono (by decide)) (by rfl) (pfa_cons (pf_var 1) (pfa_cons (pf_int) (pfa_nil))) (len_cons (len_cons len_nil))) (pf_int) (nomark _)) (pfa_nil))) (fun _ _ => rfl)) (pfa_nil))))))))
      (pfs_cons (pfs_if (PW.pt (pfw_and (pft_cmp op_gt o_cmp (pf_var 6) (pf_int) (nomark _)) (pfw_and1 (pft_cmp (op_eqD hr.units) o_eq (pf_callCS 0 C_law_take (hr.mono (by decide)) (by rfl) (pfa_cons (pf_var 1) (pfa_cons (pf_int) (pfa_nil))) (len_cons (len_cons len_nil))) (pf_int) (nomark _)))))
      (pfs_cons (pfs_set (i := 11) nd rfl (by first | exact Or.inl rfl | exact Or.inr rfl) (pf_bin op_addA o_add (pf_int) (pf_callCS 0 C_law_take (hr.mono (by decide)) (by rfl) (pfa_cons (pf_var 1) (pfa_cons (pf_int) (pfa_nil))) (len_cons (len_cons len_nil)))))
      (pfs_one (pfs_set (i := 10) nd rfl (by first | exact Or.inl rfl | exact Or.inr rfl) (pf_bin op_addA o_add (pf_slice (pf_ix ix_seq o_ix (pf_var 5) (pf_callCS 0 C_law_take (hr.mono (by decide)) (by rfl) (pfa_cons (pf_var 1) (pfa_cons (pf_var 6) (pfa_nil))) (len_cons (len_cons len_nil))) (fun _ _ => rfl)) (pfo_none) (pfo_some (pf_var 11))) (pf_slice (pf_var 10) (pfo_some (pf_var 11)) (pfo_none))))))
      (pfs_nil))
      (pfs_one (pfs_expr (pf_m PySem.F.plainAttrs_list PySem.F.slot_list_append PySem.F.type_list_append mt_append o_append (pf_var 5) (pfa_cons (pf_var 10) (pfa_nil)))))))))))
      (pfs_one (pfs_ret (pf_var 5))))))
theorem sc_law_bulletin : FnScope ["entries", "found", "event", "entry", "rows", "version", "agency", "place", "time"] ["entries"] (defScope st_law_bulletin) := ⟨rfl, rfl, rfl, by decide +kernel, rfl, by decide +kernel, by decide +kernel⟩
theorem ok_law_bulletin {f : Addr} {fd : FuncData} (F : FunD K "_law_bulletin" "_law_bulletin" (defArgs st_law_bulletin) (defBody st_law_bulletin) (defScope st_law_bulletin) [] [] f fd) (g : mg "_law_bulletin" = some (.ref f)) (B : Bn mg)  : Cal P w K mg base 1 "_law_bulletin" c_law_bulletin 1 := by
  have nd := sc_law_bulletin.nd
  refine cal_of (ps := ["entries"]) g F.kp (F.bindsN fun _ _ _ _ _ _ us hl => match us, hl with | [_], _ => rfl) (fn_ok (k := 0) F sc_law_bulletin fun cdv A outer s H E hr => ?_)
  exact pfs_cons (pfs_set (i := 1) nd rfl (by first | exact Or.inl rfl | exact Or.inr rfl) (pf_mut (pfn_lst (pfa_nil))))
      (pfs_cons (pfs_for (vs := [2]) PassesOwn.never rfl (pfi_sq (pf_fz (pfn_sortU (by rfl) B.sorted (by rfl) B.set (pfa_cons (pf_fz (pfn_lc (own := [("entry", 3)]) rfl nd (pfi_sq (pf_var 0)) (blkOk_by (own := [("entry", 3)]) (N := ["entries", "found", "event", "entry", "rows", "version", "agency", "place", "time"]) (by with_unfolding_all rfl)) (fun _ _ _ _ _ => pfg_name (i := 3) nd rfl (by first | exact Or.inl rfl | exact Or.inr rfl)) (fun _ _ _ _ _ => pfts_nil) (fun _ _ _ _ _ => pf_ix ix_seq o_ix (pf_var 3) (pf_int) (fun _ _ => rfl)))) (pfa_nil))))) (pfg_name (i := 2) nd rfl (by first | exact Or.inl rfl | exact Or.inr rfl))
      (pfs_cons (pfs_setLcF (own := [("entry", 3)]) (i := 4) rfl nd rfl rfl (sw_true rfl rfl rfl (by decide +kernel)) (pfi_sq (pf_var 0)) (blkOk_by (own := [("entry", 3)]) (N := ["entries", "found", "event", "entry", "rows", "version", "agency", "place", "time"]) (by with_unfolding_all rfl)) (fun _ _ _ _ _ => pfg_name (i := 3) nd rfl (by first | exact Or.inl rfl | exact Or.inr rfl)) (fun _ _ _ _ _ => pfts_one (pft_cmp (op_eqD hr.units) o_eq (pf_ix ix_seq o_ix (pf_var 3) (pf_int) (fun _ _ => rfl)) (pf_var 2) (nomark _))) (fun _ _ _ _ _ => pf_var 3))
      (pfs_cons (pfs_set (i := 5) nd rfl (by first | exact Or.inl rfl | exact Or.inr rfl) (pf_b (cr_maxDt rfl hr.units) o_max1 (by rfl) B.max boot_max (pfa_cons (pf_fz (pfn_lc (own := [("entry", 3)]) rfl nd (pfi_sq (pf_var 4)) (blkOk_by (own := [("entry", 3)]) (N := ["entries", "found", "event", "entry", "rows", "version", "agency", "place", "time"]) (by with_unfolding_all rfl)) (fun _ _ _ _ _ => pfg_name (i := 3) nd rfl (by first | exact Or.inl rfl | exact Or.inr rfl)) (fun _ _ _ _ _ => pfts_nil) (fun _ _ _ _ _ => pf_ix ix_seq o_ix (pf_var 3) (pf_int) (fun _ _ => rfl)))) (pfa_nil))))
      (pfs_cons (pfs_setLcF (own := [("entry", 3)]) (i := 4) rfl nd rfl rfl (sw_true rfl rfl rfl (by decide +kernel)) (pfi_sq (pf_var 4)) (blkOk_by (own := [("entry", 3)]) (N := ["entries", "found", "event", "entry", "rows", "version", "agency", "place", "time"]) (by with_unfolding_all rfl)) (fun _ _ _ _ _ => pfg_name (i := 3) nd rfl (by first | exact Or.inl rfl | exact Or.inr rfl)) (fun _ _ _ _ _ => pfts_one (pft_cmp (op_eqD hr.units) o_eq (pf_ix ix_seq o_ix (pf_var 3) (pf_int) (fun _ _ => rfl)) (pf_var 5) (nomark _))) (fun _ _ _ _ _ => pf_var 3))
      (pfs_cons (pfs_set (i := 6) nd rfl (by first | exact Or.inl rfl | exact Or.inr rfl) (pf_b (cr_maxDt rfl hr.units) o_max1 (by rfl) B.max boot_max (pfa_cons (pf_fz (pfn_lc (own := [("entry", 3)]) rfl nd (pfi_sq (pf_var 4)) (blkOk_by (own := [("entry", 3)]) (N := ["entries", "found", "event", "entry", "rows", "version", "agency", "place", "time"]) (by with_unfolding_all rfl)) (fun _ _ _ _ _ => pfg_name (i := 3) nd rfl (by first | exact Or.inl rfl | exact Or.inr rfl)) (fun _ _ _ _ _ => pfts_nil) (fun _ _ _ _ _ => pf_ix ix_seq o_ix (pf_var 3) (pf_int) (fun _ _ => rfl)))) (pfa_nil))))
      (pfs_cons (pfs_setLcF (own := [("entry", 3)]) (i := 4) rfl nd rfl rfl (sw_true rfl rfl rfl (by decide +kernel)) (pfi_sq (pf_var 4)) (blkOk_by (own := [("entry", 3)]) (N := ["entries", "found", "event", "entry", "rows", "version", "agency", "place", "time"]) (by with_unfolding_all rfl)) (fun _ _ _ _ _ => pfg_name (i := 3) nd rfl (by first | exact Or.inl rfl | exact Or.inr rfl)) (fun _ _ _ _ _ => pfts_one (pft_cmp (op_eqD hr.units) o_eq (pf_ix ix_seq o_ix (pf_var 3) (pf_int) (fun _ _ => rfl)) (pf_var 6) (nomark _))) (fun _ _ _ _ _ => pf_var 3))
      (pfs_cons (pfs_set (i := 7) nd rfl (by first | exact Or.inl rfl | exact Or.inr rfl) (pf_b (cr_maxDt rfl hr.units) o_max1 (by rfl) B.max boot_max (pfa_cons (pf_fz (pfn_lc (own := [("entry", 3)]) rfl nd (pfi_sq (pf_var 4)) (blkOk_by (own := [("entry", 3)]) (N := ["entries", "found", "event", "entry", "rows", "version", "agency", "place", "time"]) (by with_unfolding_all rfl)) (fun _ _ _ _ _ => pfg_name (i := 3) nd rfl (by first | exact Or.inl rfl | exact Or.inr rfl)) (fun _ _ _ _ _ => pfts_nil) (fun _ _ _ _ _ => pf_ix ix_seq o_ix (pf_var 3) (pf_int) (fun _ _ => rfl)))) (pfa_nil))))
      (pfs_cons (pfs_set (i := 8) nd rfl (by first | exact Or.inl rfl | exact Or.inr rfl) (pf_b (cr_maxDt rfl hr.units) o_max1 (by rfl) B.max boot_max (pfa_cons (pf_fz (pfn_lc (own := [("entry", 3)]) rfl nd (pfi_sq (pf_var 4)) (blkOk_by (own := [("entry", 3)]) (N := ["entries", "found", "event", "entry", "rows", "version", "agency", "place", "time"]) (by with_unfolding_all rfl)) (fun _ _ _ _ _ => pfg_name (i := 3) nd rfl (by first | exact Or.inl rfl | exact Or.inr rfl)) (fun _ _ _ _ _ => pfts_one (pft_cmp (op_eqD hr.units) o_eq (pf_ix ix_seq o_ix (pf_var 3) (pf_int) (fun _ _ => rfl)) (pf_var 7) (nomark _))) (fun _ _ _ _ _ => pf_ix ix_seq o_ix (pf_var 3) (pf_int) (fun _ _ => rfl)))) (pfa_nil))))
      (pfs_one (pfs_expr (pf_m PySem.F.plainAttrs_list PySem.F.slot_list_append PySem.F.type_list_append mt_append o_append (pf_var 1) (pfa_cons (pf_tup (pfa_cons (pf_var 2) (pfa_cons (pf_var 5) (pfa_cons (pf_var 6) (pfa_cons (pf_var 7) (pfa_cons (pf_var 8) (pfa_nil))))))) (pfa_nil)))))))))))))
      (pfs_one (pfs_ret (pf_ty call_tuple_of o_tuple (by rfl) B.tuple boot_tuple (pfa_cons (pf_var 1) (pfa_nil))))))
theorem sc_law_versions : FnScope ["entries", "event", "found", "entry", "at", "version"] ["entries", "event"] (defScope st_law_versions) := ⟨rfl, rfl, rfl, by decide +kernel, rfl, by decide +kernel, by decide +kernel⟩
theorem ok_law_versions {f : Addr} {fd : FuncData} (F : FunD K "_law_versions" "_law_versions" (defArgs st_law_versions) (defBody st_law_versions) (defScope st_law_versions) [] [] f fd) (g : mg "_law_versions" = some (.ref f)) (B : Bn mg)  : Cal P w K mg base 1 "_law_versions" c_law_versions 2 := by
  have nd := sc_law_versions.nd
  refine cal_of (ps := ["entries", "event"]) g F.kp (F.bindsN fun _ _ _ _ _ _ us hl => match us, hl with | [_, _], _ => rfl) (fn_ok (k := 0) F sc_law_versions fun cdv A outer s H E hr => ?_)
  exact pfs_cons (pfs_set (i := 2) nd rfl (by first | exact Or.inl rfl | exact Or.inr rfl) (pf_mut (pfn_lst (pfa_nil))))
      (pfs_cons (pfs_for (vs := [3]) PassesOwn.never rfl (pfi_sq (pf_var 0)) (pfg_name (i := 3) nd rfl (by first | exact Or.inl rfl | exact Or.inr rfl))
      (pfs_one (pfs_if (PW.pt (pfw_and (pft_cmp (op_eqD hr.units) o_eq (pf_ix ix_seq o_ix (pf_var 3) (pf_int) (fun _ _ => rfl)) (pf_var 1) (nomark _)) (pfw_and1 (pft_cmp (op_notInX hr.units) o_notInX (pf_ix ix_seq o_ix (pf_var 3) (pf_int) (fun _ _ => rfl)) (pf_var 2) (by with_unfolding_all rfl)))))
      (pfs_cons (pfs_set (i := 4) nd rfl (by first | exact Or.inl rfl | exact Or.inr rfl) (pf_b call_len o_len (by rfl) B.len boot_len (pfa_cons (pf_fz (pfn_lc (own := [("version", 5)]) rfl nd (pfi_sq (pf_var 2)) (blkOk_by (own := [("version", 5)]) (N := ["entries", "event", "found", "entry", "at", "version"]) (by with_unfolding_all rfl)) (fun _ _ _ _ _ => pfg_name (i := 5) nd rfl (by first | exact Or.inl rfl | exact Or.inr rfl)) (fun _ _ _ _ _ => pfts_one (pft_cmp (op_ltDt hr.units) o_cmpD (pf_var 5) (pf_ix ix_seq o_ix (pf_var 3) (pf_int) (fun _ _ => rfl)) (nomark _))) (fun _ _ _ _ _ => pf_var 5))) (pfa_nil))))
      (pfs_one (pfs_expr (pf_m PySem.F.plainAttrs_list PySem.F.slot_list_insert PySem.F.type_list_insert mt_insertA o_insert (pf_var 2) (pfa_cons (pf_var 4) (pfa_cons (pf_ix ix_seq o_ix (pf_var 3) (pf_int) (fun _ _ => rfl)) (pfa_nil)))))))
      (pfs_nil))))
      (pfs_one (pfs_ret (pf_ty call_tuple_of o_tuple (by rfl) B.tuple boot_tuple (pfa_cons (pf_var 2) (pfa_nil))))))
theorem sc_law_left : FnScope ["entries", "cancelled", "found", "entry", "above", "pair"] ["entries", "cancelled"] (defScope st_law_left) := ⟨rfl, rfl, rfl, by decide +kernel, rfl, by decide +kernel, by decide +kernel⟩
theorem ok_law_left {f : Addr} {fd : FuncData} (F : FunD K "_law_left" "_law_left" (defArgs st_law_left) (defBody st_law_left) (defScope st_law_left) [] [] f fd) (g : mg "_law_left" = some (.ref f)) (B : Bn mg) (C_law_bulletin : Cal P w K mg base 1 "_law_bulletin" q_law_bulletin 1) : Cal P w K mg base 2 "_law_left" c_law_left 2 := by
  have nd := sc_law_left.nd
  refine cal_of (ps := ["entries", "cancelled"]) g F.kp (F.bindsN fun _ _ _ _ _ _ us hl => match us, hl with | [_, _], _ => rfl) (fn_ok (k := 1) F sc_law_left fun cdv A outer s H E hr => ?_)
  exact pfs_cons (pfs_set (i := 2) nd rfl (by first | exact Or.inl rfl | exact Or.inr rfl) (pf_mut (pfn_lst (pfa_nil))))
      (pfs_cons (pfs_for (vs := [3]) PassesOwn.never rfl (pfi_sq (pf_callC C_law_bulletin (hr.mono (by decide)) (by rfl) (pfa_cons (pf_var 0) (pfa_nil)) (len_cons len_nil))) (pfg_name (i := 3) nd rfl (by first | exact Or.inl rfl | exact Or.inr rfl))
      (pfs_cons (pfs_setLcF (own := [("pair", 5)]) (i := 4) rfl nd rfl rfl (sw_true rfl rfl rfl (by decide +kernel)) (pfi_sq (pf_var 1)) (blkOk_by (own := [("pair", 5)]) (N := ["entries", "cancelled", "found", "entry", "above", "pair"]) (by with_unfolding_all rfl)) (fun _ _ _ _ _ => pfg_name (i := 5) nd rfl (by first | exact Or.inl rfl | exact Or.inr rfl)) (fun _ _ _ _ _ => pfts_one (PW.pt (pfw_and (pft_cmp (op_eqD hr.units) o_eq (pf_ix ix_seq o_ix (pf_var 5) (pf_int) (fun _ _ => rfl)) (pf_ix ix_seq o_ix (pf_var 3) (pf_int) (fun _ _ => rfl)) (nomark _)) (pfw_and1 (pft_cmp op_ge o_cmp (pf_ix ix_seq o_ix (pf_var 5) (pf_int) (fun _ _ => rfl)) (pf_ix ix_seq o_ix (pf_var 3) (pf_int) (fun _ _ => rfl)) (nomark _)))))) (fun _ _ _ _ _ => pf_var 5))
      (pfs_one (pfs_if (pft_cmp (op_eqD hr.units) o_eq (pf_b call_len o_len (by rfl) B.len boot_len (pfa_cons (pf_var 4) (pfa_nil))) (pf_int) (nomark _))
      (pfs_one (pfs_expr (pf_m PySem.F.plainAttrs_list PySem.F.slot_list_append PySem.F.type_list_append mt_append o_append (pf_var 2) (pfa_cons (pf_var 3) (pfa_nil)))))
      (pfs_nil)))))
      (pfs_one (pfs_ret (pf_ty call_tuple_of o_tuple (by rfl) B.tuple boot_tuple (pfa_cons (pf_var 2) (pfa_nil))))))
theorem sc_law_cancelled : FnScope ["draws", "entries", "many", "found", "k", "entry"] ["draws", "entries", "many"] (defScope st_law_cancelled) := ⟨rfl, rfl, rfl, by decide +kernel, rfl, by decide +kernel, by decide +kernel⟩
theorem ok_law_cancelled {f : Addr} {fd : FuncData} (F : FunD K "_law_cancelled" "_law_cancelled" (defArgs st_law_cancelled) (defBody st_law_cancelled) (defScope st_law_cancelled) [] [] f fd) (g : mg "_law_cancelled" = some (.ref f)) (B : Bn mg) (C_law_take : Cal P w K mg base 1 "_law_take" q_law_take 2) : Cal P w K mg base 2 "_law_cancelled" c_law_cancelled 3 := by
  have nd := sc_law_cancelled.nd
  refine cal_of (ps := ["draws", "entries", "many"]) g F.kp (F.bindsN fun _ _ _ _ _ _ us hl => match us, hl with | [_, _, _], _ => rfl) (fn_ok (k := 1) F sc_law_cancelled fun cdv A outer s H E hr => ?_)
  exact pfs_cons (pfs_set (i := 3) nd rfl (by first | exact Or.inl rfl | exact Or.inr rfl) (pf_mut (pfn_lst (pfa_nil))))
      (pfs_cons (pfs_for (vs := [4]) PassesOwn.never rfl (pfi_rg1 (by rfl) B.range (pfa_cons (pf_var 2) (pfa_nil))) (pfg_name (i := 4) nd rfl (by first | exact Or.inl rfl | exact Or.inr rfl))
      (pfs_one (pfs_if (PW.pt (pfw_and (pft_cmp op_gt o_cmp (pf_b call_len o_len (by rfl) B.len boot_len (pfa_cons (pf_var 1) (pfa_nil))) (pf_int) (nomark _)) (pfw_and1 (pft_cmp op_gt o_cmp (pf_callCS 0 C_law_take (hr.mono (by decide)) (by rfl) (pfa_cons (pf_var 0) (pfa_cons (pf_int) (pfa_nil))) (len_cons (len_cons len_nil))) (pf_int) (nomark _)))))
      (pfs_cons (pfs_set (i := 5) nd rfl (by first | exact Or.inl rfl | exact Or.inr rfl) (pf_ix ix_seq o_ix (pf_var 1) (pf_callCS 0 C_law_take (hr.mono (by decide)) (by rfl) (pfa_cons (pf_var 0) (pfa_cons (pf_b call_len o_len (by rfl) B.len boot_len (pfa_cons (pf_var 1) (pfa_nil))) (pfa_nil))) (len_cons (len_cons len_nil))) (fun _ _ => rfl)))
      (pfs_one (pfs_expr (pf_m PySem.F.plainAttrs_list PySem.F.slot_list_append PySem.F.type_list_append mt_append o_append (pf_var 3) (pfa_cons (pf_tup (pfa_cons (pf_ix ix_seq o_ix (pf_var 5) (pf_int) (fun _ _ => rfl)) (pfa_cons (pf_bin op_sub o_sub (pf_bin op_addA o_add (pf_ix ix_seq o_ix (pf_var 5) (pf_int) (fun _ _ => rfl)) (pf_callCS 0 C_law_take (hr.mono (by decide)) (by rfl) (pfa_cons (pf_var 0) (pfa_cons (pf_int) (pfa_nil))) (len_cons (len_cons len_nil)))) (pf_int)) (pfa_nil)))) (pfa_nil))))))
      (pfs_one (pfs_expr (pf_m PySem.F.plainAttrs_list PySem.F.slot_list_append PySem.F.type_list_append mt_append o_append (pf_var 3) (pfa_cons (pf_tup (pfa_cons (pf_bin op_sub o_sub (pf_callCS 0 C_law_take (hr.mono (by decide)) (by rfl) (pfa_cons (pf_var 0) (pfa_cons (pf_int) (pfa_nil))) (len_cons (len_cons len_nil))) (pf_int)) (pfa_cons (pf_callCS 0 C_law_take (hr.mono (by decide)) (by rfl) (pfa_cons (pf_var 0) (pfa_cons (pf_int) (pfa_nil))) (len_cons (len_cons len_nil))) (pfa_nil)))) (pfa_nil))))))))
      (pfs_one (pfs_ret (pf_var 3))))
theorem sc_law_come_back : FnScope ["draws", "entries", "cancelled", "left", "entry", "own", "pair", "top", "back", "now", "one", "older"] ["draws", "entries", "cancelled", "left"] (defScope st_law_come_back) := ⟨rfl, rfl, rfl, by decide +kernel, rfl, by decide +kernel, by decide +kernel⟩
theorem ok_law_come_back {f : Addr} {fd : FuncData} (F : FunD K "_law_come_back" "_law_come_back" (defArgs st_law_come_back) (defBody st_law_come_back) (defScope st_law_come_back) [] [] f fd) (g : mg "_law_come_back" = some (.ref f)) (B : Bn mg) (C_law_bulletin : Cal P w K mg base 1 "_law_bulletin" q_law_bulletin 1) (Cbulletin_without : Cal P w K mg base 3 "bulletin_without" qbulletin_without 2) (C_law_take : Cal P w K mg base 1 "_law_take" q_law_take 2) (C_law_same : Cal P w K mg base 13 "_law_same" q_law_same 2) : Cal P w K mg base 14 "_law_come_back" c_law_come_back 4 := by
  have nd := sc_law_come_back.nd
  refine cal_of (ps := ["draws", "entries", "cancelled", "left"]) g F.kp (F.bindsN fun _ _ _ _ _ _ us hl => match us, hl with | [_, _, _, _], _ => rfl) (fn_ok (k := 13) F sc_law_come_back fun cdv A outer s H E hr => ?_)
  exact pfs_cons (pfs_for (vs := [4]) PassesOwn.never rfl (pfi_sq (pf_slice (pf_callC C_law_bulletin (hr.mono (by decide)) (by rfl) (pfa_cons (pf_var 1) (pfa_nil)) (len_cons len_nil)) (pfo_none) (pfo_some (pf_int)))) (pfg_name (i := 4) nd rfl (by first | exact Or.inl rfl | exact Or.inr rfl))
      (pfs_cons (pfs_setLcF (own := [("pair", 6)]) (i := 5) rfl nd rfl rfl (sw_true rfl rfl rfl (by decide +kernel)) (pfi_sq (pf_var 2)) (blkOk_by (own := [("pair", 6)]) (N := ["draws", "entries", "cancelled", "left", "entry", "own", "pair", "top", "back", "now", "one", "older"]) (by with_unfolding_all rfl)) (fun _ _ _ _ _ => pfg_name (i := 6) nd rfl (by first | exact Or.inl rfl | exact Or.inr rfl)) (fun _ _ _ _ _ => pfts_one (pft_cmp (op_eqD hr.units) o_eq (pf_ix ix_seq o_ix (pf_var 6) (pf_int) (fun _ _ => rfl)) (pf_ix ix_seq o_ix (pf_var 4) (pf_int) (fun _ _ => rfl)) (nomark _))) (fun _ _ _ _ _ => pf_ix ix_seq o_ix (pf_var 6) (pf_int) (fun _ _ => rfl)))
      (pfs_cons (pfs_set (i := 7) nd rfl (by first | exact Or.inl rfl | exact Or.inr rfl) (pf_b (cr_maxDt rfl hr.units) o_max1 (by rfl) B.max boot_max (pfa_cons (pf_bin op_addA o_add (pf_fz (pfn_lst (pfa_cons (pf_ix ix_seq o_ix (pf_var 4) (pf_int) (fun _ _ => rfl)) (pfa_nil)))) (pf_var 5)) (pfa_nil))))
      (pfs_cons (pfs_set (i := 8) nd rfl (by first | exact Or.inl rfl | exact Or.inr rfl) (pf_bin op_addA o_add (pf_tup (pfa_cons (pf_ix ix_seq o_ix (pf_var 4) (pf_int) (fun _ _ => rfl)) (pfa_cons (pf_bin op_addA o_add (pf_var 7) (pf_int)) (pfa_nil)))) (pf_slice (pf_var 4) (pfo_some (pf_int)) (pfo_none))))
      (pfs_cons (pfs_set (i := 9) nd rfl (by first | exact Or.inl rfl | exact Or.inr rfl) (pf_callC Cbulletin_without (hr.mono (by decide)) (by rfl) (pfa_cons (pf_bin op_addA o_add (pf_ty call_tuple_of o_tuple (by rfl) B.tuple boot_tuple (pfa_cons (pf_var 1) (pfa_nil))) (pf_tup (pfa_cons (pf_var 8) (pfa_nil)))) (pfa_cons (pf_var 2) (pfa_nil))) (len_cons (len_cons len_nil))))
      (pfs_cons (pfs_if (PW.pt (pfw_or (pft_not (pft_tru (pf_isi .tup (by decide) (by rfl) B.isinstance (pf_var 9) (by rfl) B.tuple boot_tuple))) (pfw_or (pft_cmp (op_notInX hr.units) o_notInX (pf_var 8) (pf_var 9) (by with_unfolding_all rfl)) (pfw_or1 (pft_cmp op_gt o_cmp (pf_b call_len o_len (by rfl) B.len boot_len (pfa_cons (pf_fz (pfn_lc (own := [("one", 10)]) rfl nd (pfi_sq (pf_var 3)) (blkOk_by (own := [("one", 10)]) (N := ["draws", "entries", "cancelled", "left", "entry", "own", "pair", "top", "back", "now", "one", "older"]) (by with_unfolding_all rfl)) (fun _ _ _ _ _ => pfg_name (i := 10) nd rfl (by first | exact Or.inl rfl | exact Or.inr rfl)) (fun _ _ _ _ _ => pfts_one (PW.pt (pfw_and (pft_cmp (op_neD hr.units) o_ne (pf_ix ix_seq o_ix (pf_var 10) (pf_int) (fun _ _ => rfl)) (pf_ix ix_seq o_ix (pf_var 4) (pf_int) (fun _ _ => rfl)) (nomark _)) (pfw_and1 (pft_cmp (op_notInX hr.units) o_notInX (pf_var 10) (pf_var 9) (by with_unfolding_all rfl)))))) (fun _ _ _ _ _ => pf_var 10))) (pfa_nil))) (pf_int) (nomark _))))))
      (pfs_one (pfs_ret (pf_bl)))
      (pfs_nil))
      (pfs_cons (pfs_set (i := 11) nd rfl (by first | exact Or.inl rfl | exact Or.inr rfl) (pf_bin op_addA o_add (pf_tup (pfa_cons (pf_ix ix_seq o_ix (pf_var 4) (pf_int) (fun _ _ => rfl)) (pfa_cons (pf_bin op_sub o_sub (pf_bin op_sub o_sub (pf_ix ix_seq o_ix (pf_var 4) (pf_int) (fun _ _ => rfl)) (pf_int)) (pf_callCS 0 C_law_take (hr.mono (by decide)) (by rfl) (pfa_cons (pf_var 0) (pfa_cons (pf_int) (pfa_nil))) (len_cons (len_cons len_nil)))) (pfa_nil)))) (pf_slice (pf_var 4) (pfo_some (pf_int)) (pfo_none))))
      (pfs_one (pfs_if (pft_not (pft_tru (pf_callC C_law_same (hr.mono (by decide)) (by rfl) (pfa_cons (pf_callC Cbulletin_without (hr.mono (by decide)) (by rfl) (pfa_cons (pf_bin op_addA o_add (pf_ty call_tuple_of o_tuple (by rfl) B.tuple boot_tuple (pfa_cons (pf_var 1) (pfa_nil))) (pf_tup (pfa_cons (pf_var 11) (pfa_nil)))) (pfa_cons (pf_var 2) (pfa_nil))) (len_cons (len_cons len_nil))) (pfa_cons (pf_var 3) (pfa_nil))) (len_cons (len_cons len_nil)))))
      (pfs_one (pfs_ret (pf_bl)))
      (pfs_nil))))))))))
      (pfs_one (pfs_ret (pf_bl)))
theorem sclaw : FnScope ["script", "draws", "entries", "told", "events", "entry", "event", "versions", "own", "many", "cancelled", "left", "more", "rows"] ["script"] (defScope stlaw) := ⟨rfl, rfl, rfl, by decide +kernel, rfl, by decide +kernel, by decide +kernel⟩
theorem oklaw {f : Addr} {fd : FuncData} (F : FunD K "law" "law" (defArgs stlaw) (defBody stlaw) (defScope stlaw) [] [] f fd) (g : mg "law" = some (.ref f)) (B : Bn mg) (C_law_draws : Cal P w K mg base 1 "_law_draws" q_law_draws 2) (C_law_entries : Cal P w K mg base 3 "_law_entries" q_law_entries 3) (C_law_take : Cal P w K mg base 1 "_law_take" q_law_take 2) (Cbulletin_of : Cal P w K mg base 2 "bulletin_of" qbulletin_of 1) (C_law_same : Cal P w K mg base 13 "_law_same" q_law_same 2) (C_law_bulletin : Cal P w K mg base 1 "_law_bulletin" q_law_bulletin 1) (C_law_versions : Cal P w K mg base 1 "_law_versions" q_law_versions 2) (Chistory_of : Cal P w K mg base 1 "history_of" qhistory_of 2) (C_law_cancelled : Cal P w K mg base 2 "_law_cancelled" q_law_cancelled 3) (C_law_left : Cal P w K mg base 2 "_law_left" q_law_left 2) (Cbulletin_without : Cal P w K mg base 3 "bulletin_without" qbulletin_without 2) (Cis_bulletin : Cal P w K mg base 3 "is_bulletin" qis_bulletin 1) (C_law_come_back : Cal P w K mg base 14 "_law_come_back" q_law_come_back 4) (Ctold_later : Cal P w K mg base 3 "told_later" qtold_later 2) : FnOk P w K mg base CX0 15 f fd ["script"] (spOf K claw 1) := by
  have nd := sclaw.nd
  refine (fn_ok (k := 14) F sclaw fun cdv A outer s H E hr => ?_)
  exact pfs_cons (pfs_set (i := 1) nd rfl (by first | exact Or.inl rfl | exact Or.inr rfl) (pf_callC C_law_draws (hr.mono (by decide)) (by rfl) (pfa_cons (pf_var 0) (pfa_cons (pf_int) (pfa_nil))) (len_cons (len_cons len_nil))))
      (pfs_cons (pfs_set (i := 2) nd rfl (by first | exact Or.inl rfl | exact Or.inr rfl) (pf_callCS 1 C_law_entries (hr.mono (by decide)) (by rfl) (pfa_cons (pf_var 0) (pfa_cons (pf_var 1) (pfa_cons (pf_callCS 0 C_law_take (hr.mono (by decide)) (by rfl) (pfa_cons (pf_var 1) (pfa_cons (pf_int) (pfa_nil))) (len_cons (len_cons len_nil))) (pfa_nil)))) (len_cons (len_cons (len_cons len_nil)))))
      (pfs_cons (pfs_set (i := 3) nd rfl (by first | exact Or.inl rfl | exact Or.inr rfl) (pf_callC Cbulletin_of (hr.mono (by decide)) (by rfl) (pfa_cons (pf_ty call_tuple_of o_tuple (by rfl) B.tuple boot_tuple (pfa_cons (pf_var 2) (pfa_nil))) (pfa_nil)) (len_cons len_nil)))
      (pfs_cons (pfs_if (pft_not (pft_tru (pf_callC C_law_same (hr.mono (by decide)) (by rfl) (pfa_cons (pf_var 3) (pfa_cons (pf_callC C_law_bulletin (hr.mono (by decide)) (by rfl) (pfa_cons (pf_var 2) (pfa_nil)) (len_cons len_nil)) (pfa_nil))) (len_cons (len_cons len_nil)))))
      (pfs_one (pfs_ret (pf_bl)))
      (pfs_nil))
      (pfs_cons (pfs_set (i := 4) nd rfl (by first | exact Or.inl rfl | exact Or.inr rfl) (pf_fz (pfn_sortU (by rfl) B.sorted (by rfl) B.set (pfa_cons (pf_bin op_addA o_add (pf_fz (pfn_lc (own := [("entry", 5)]) rfl nd (pfi_sq (pf_var 2)) (blkOk_by (own := [("entry", 5)]) (N := ["script", "draws", "entries", "told", "events", "entry", "event", "versions", "own", "many", "cancelled", "left", "more", "rows"]) (by with_unfolding_all rfl)) (fun _ _ _ _ _ => pfg_name (i := 5) nd rfl (by first | exact Or.inl rfl | exact Or.inr rfl)) (fun _ _ _ _ _ => pfts_nil) (fun _ _ _ _ _ => pf_ix ix_seq o_ix (pf_var 5) (pf_int) (fun _ _ => rfl)))) (pf_fz (pfn_lst (pfa_cons (pf_int) (pfa_nil))))) (pfa_nil)))))
      (pfs_cons (pfs_for (vs := [6]) PassesOwn.never rfl (pfi_sq (pf_var 4)) (pfg_name (i := 6) nd rfl (by first | exact Or.inl rfl | exact Or.inr rfl))
      (pfs_cons (pfs_set (i := 7) nd rfl (by first | exact Or.inl rfl | exact Or.inr rfl) (pf_callC C_law_versions (hr.mono (by decide)) (by rfl) (pfa_cons (pf_var 2) (pfa_cons (pf_var 6) (pfa_nil))) (len_cons (len_cons len_nil))))
      (pfs_cons (pfs_if (PW.pt (pfw_or (pft_not (pft_tru (pf_callC C_law_same (hr.mono (by decide)) (by rfl) (pfa_cons (pf_callC Chistory_of (hr.mono (by decide)) (by rfl) (pfa_cons (pf_ty call_tuple_of o_tuple (by rfl) B.tuple boot_tuple (pfa_cons (pf_var 2) (pfa_nil))) (pfa_cons (pf_var 6) (pfa_nil))) (len_cons (len_cons len_nil))) (pfa_cons (pf_var 7) (pfa_nil))) (len_cons (len_cons len_nil))))) (pfw_or1 (pft_not (pft_tru (pf_callC C_law_same (hr.mono (by decide)) (by rfl) (pfa_cons (pf_callC Chistory_of (hr.mono (by decide)) (by rfl) (pfa_cons (pf_ty call_tuple_of o_tuple (by rfl) B.tuple boot_tuple (pfa_cons (pf_revA (pf_var 2)) (pfa_nil))) (pfa_cons (pf_var 6) (pfa_nil))) (len_cons (len_cons len_nil))) (pfa_cons (pf_var 7) (pfa_nil))) (len_cons (len_cons len_nil))))))))
      (pfs_one (pfs_ret (pf_bl)))
      (pfs_nil))
      (pfs_cons (pfs_setLcF (own := [("entry", 5)]) (i := 8) rfl nd rfl rfl (sw_true rfl rfl rfl (by decide +kernel)) (pfi_sq (pf_var 3)) (blkOk_by (own := [("entry", 5)]) (N := ["script", "draws", "entries", "told", "events", "entry", "event", "versions", "own", "many", "cancelled", "left", "more", "rows"]) (by with_unfolding_all rfl)) (fun _ _ _ _ _ => pfg_name (i := 5) nd rfl (by first | exact Or.inl rfl | exact Or.inr rfl)) (fun _ _ _ _ _ => pfts_one (pft_cmp (op_eqD hr.units) o_eq (pf_ix ix_seq o_ix (pf_var 5) (pf_int) (fun _ _ => rfl)) (pf_var 6) (nomark _))) (fun _ _ _ _ _ => pf_var 5))
      (pfs_one (pfs_if (PW.pt (pfw_or (pft_cmp (op_neD hr.units) o_ne (pf_cmp (op_eqD hr.units) o_eq (pf_b call_len o_len (by rfl) B.len boot_len (pfa_cons (pf_var 8) (pfa_nil))) (pf_int) (nomark _)) (pf_cmp (op_eqD hr.units) o_eq (pf_var 7) (pf_tup (pfa_nil)) (nomark _)) (nomark _)) (pfw_or1 (PW.pt (pfw_and (pft_cmp op_gt o_cmp (pf_b call_len o_len (by rfl) B.len boot_len (pfa_cons (pf_var 8) (pfa_nil))) (pf_int) (nomark _)) (pfw_and1 (pft_cmp (op_neD hr.units) o_ne (pf_ix ix_seq o_ix (pf_ix ix_seq o_ix (pf_var 8) (pf_int) (fun _ _ => rfl)) (pf_int) (fun _ _ => rfl)) (pf_ix ix_seq o_ix (pf_var 7) (pf_un un_neg o_neg (pf_int)) (fun _ _ => rfl)) (nomark _))))))))
      (pfs_one (pfs_ret (pf_bl)))
      (pfs_nil)))))))
      (pfs_cons (pfs_for (vs := [9]) PassesOwn.never rfl (pfi_sq (pf_fz (pfn_lst (pfa_cons (pf_int) (pfa_cons (pf_bin op_addA o_add (pf_int) (pf_callCS 0 C_law_take (hr.mono (by decide)) (by rfl) (pfa_cons (pf_var 1) (pfa_cons (pf_int) (pfa_nil))) (len_cons (len_cons len_nil)))) (pfa_cons (pf_callCS 0 C_law_take (hr.mono (by decide)) (by rfl) (pfa_cons (pf_var 1) (pfa_cons (pf_int) (pfa_nil))) (len_cons (len_cons len_nil))) (pfa_nil))))))) (pfg_name (i := 9) nd rfl (by first | exact Or.inl rfl | exact Or.inr rfl))
      (pfs_cons (pfs_set (i := 10) nd rfl (by first | exact Or.inl rfl | exact Or.inr rfl) (pf_callCS 0 C_law_cancelled (hr.mono (by decide)) (by rfl) (pfa_cons (pf_var 1) (pfa_cons (pf_var 2) (pfa_cons (pf_var 9) (pfa_nil)))) (len_cons (len_cons (len_cons len_nil)))))
      (pfs_cons (pfs_set (i := 11) nd rfl (by first | exact Or.inl rfl | exact Or.inr rfl) (pf_callC C_law_left (hr.mono (by decide)) (by rfl) (pfa_cons (pf_var 2) (pfa_cons (pf_var 10) (pfa_nil))) (len_cons (len_cons len_nil))))
      (pfs_cons (pfs_if (PW.pt (pfw_or (pft_not (pft_tru (pf_callC C_law_same (hr.mono (by decide)) (by rfl) (pfa_cons (pf_callC Cbulletin_without (hr.mono (by decide)) (by rfl) (pfa_cons (pf_ty call_tuple_of o_tuple (by rfl) B.tuple boot_tuple (pfa_cons (pf_var 2) (pfa_nil))) (pfa_cons (pf_ty call_tuple_of o_tuple (by rfl) B.tuple boot_tuple (pfa_cons (pf_var 10) (pfa_nil))) (pfa_nil))) (len_cons (len_cons len_nil))) (pfa_cons (pf_var 11) (pfa_nil))) (len_cons (len_cons len_nil))))) (pfw_or1 (pft_cmp op_isNotA o_isNot (pf_callC Cis_bulletin (hr.mono (by decide)) (by rfl) (pfa_cons (pf_var 11) (pfa_nil)) (len_cons len_nil)) (pf_bl) (nomark _)))))
      (pfs_one (pfs_ret (pf_bl)))
      (pfs_nil))
      (pfs_cons (pfs_if (PW.pt (pfw_or (pft_not (pft_tru (pf_callC C_law_same (hr.mono (by decide)) (by rfl) (pfa_cons (pf_callC Cbulletin_without (hr.mono (by decide)) (by rfl) (pfa_cons (pf_var 3) (pfa_cons (pf_ty call_tuple_of o_tuple (by rfl) B.tuple boot_tuple (pfa_cons (pf_bin op_addA o_add (pf_revA (pf_var 10)) (pf_slice (pf_var 10) (pfo_none) (pfo_some (pf_int)))) (pfa_nil))) (pfa_nil))) (len_cons (len_cons len_nil))) (pfa_cons (pf_var 11) (pfa_nil))) (len_cons (len_cons len_nil))))) (pfw_or1 (PW.pt (pfw_and (pft_cmp (op_eqD hr.units) o_eq (pf_var 9) (pf_int) (nomark _)) (pfw_and1 (pft_cmp (op_neD hr.units) o_ne (pf_var 11) (pf_var 3) (nomark _))))))))
      (pfs_one (pfs_ret (pf_bl)))
      (pfs_nil))
      (pfs_cons (pfs_set (i := 12) nd rfl (by first | exact Or.inl rfl | exact Or.inr rfl) (pf_callC Cbulletin_without (hr.mono (by decide)) (by rfl) (pfa_cons (pf_ty call_tuple_of o_tuple (by rfl) B.tuple boot_tuple (pfa_cons (pf_var 2) (pfa_nil))) (pfa_cons (pf_ty call_tuple_of o_tuple (by rfl) B.tuple boot_tuple (pfa_cons (pf_bin op_addA o_add (pf_var 10) (pf_callCS 0 C_law_cancelled (hr.mono (by decide)) (by rfl) (pfa_cons (pf_var 1) (pfa_cons (pf_var 2) (pfa_cons (pf_int) (pfa_nil)))) (len_cons (len_cons (len_cons len_nil))))) (pfa_nil))) (pfa_nil))) (len_cons (len_cons len_nil))))
      (pfs_cons (pfs_if (PW.pt (pfw_or (pft_not (pft_tru (pf_isi .tup (by decide) (by rfl) B.isinstance (pf_var 12) (by rfl) B.tuple boot_tuple))) (pfw_or1 (pft_cmp op_gt o_cmp (pf_b call_len o_len (by rfl) B.len boot_len (pfa_cons (pf_fz (pfn_lc (own := [("entry", 5)]) rfl nd (pfi_sq (pf_var 12)) (blkOk_by (own := [("entry", 5)]) (N := ["script", "draws", "entries", "told", "events", "entry", "event", "versions", "own", "many", "cancelled", "left", "more", "rows"]) (by with_unfolding_all rfl)) (fun _ _ _ _ _ => pfg_name (i := 5) nd rfl (by first | exact Or.inl rfl | exact Or.inr rfl)) (fun _ _ _ _ _ => pfts_one (pft_cmp (op_notInX hr.units) o_notInX (pf_var 5) (pf_var 11) (by with_unfolding_all rfl))) (fun _ _ _ _ _ => pf_var 5))) (pfa_nil))) (pf_int) (nomark _)))))
      (pfs_one (pfs_ret (pf_bl)))
      (pfs_nil))
      (pfs_cons (pfs_if (pft_not (pft_tru (pf_callCS 0 C_law_come_back (hr.mono (by decide)) (by rfl) (pfa_cons (pf_var 1) (pfa_cons (pf_var 2) (pfa_cons (pf_ty call_tuple_of o_tuple (by rfl) B.tuple boot_tuple (pfa_cons (pf_var 10) (pfa_nil))) (pfa_cons (pf_var 11) (pfa_nil))))) (len_cons (len_cons (len_cons (len_cons len_nil)))))))
      (pfs_one (pfs_ret (pf_bl)))
      (pfs_nil))
      (pfs_one (pfs_for (vs := [5]) PassesOwn.never rfl (pfi_sq (pf_slice (pf_var 2) (pfo_none) (pfo_some (pf_int)))) (pfg_name (i := 5) nd rfl (by first | exact Or.inl rfl | exact Or.inr rfl))
      (pfs_one (pfs_if (pft_not (pft_tru (pf_callC C_law_same (hr.mono (by decide)) (by rfl) (pfa_cons (pf_callC Cbulletin_without (hr.mono (by decide)) (by rfl) (pfa_cons (pf_callC Ctold_later (hr.mono (by decide)) (by rfl) (pfa_cons (pf_var 3) (pfa_cons (pf_var 5) (pfa_nil))) (len_cons (len_cons len_nil))) (pfa_cons (pf_ty call_tuple_of o_tuple (by rfl) B.tuple boot_tuple (pfa_cons (pf_var 10) (pfa_nil))) (pfa_nil))) (len_cons (len_cons len_nil))) (pfa_cons (pf_var 11) (pfa_nil))) (len_cons (len_cons len_nil)))))
      (pfs_one (pfs_ret (pf_bl)))
      (pfs_nil)))))))))))))
      (pfs_cons (pfs_set (i := 13) nd rfl (by first | exact Or.inl rfl | exact Or.inr rfl) (pf_tup (pfa_cons (pf_tup (pfa_cons (pf_int) (pfa_cons (pf_int) (pfa_cons (pf_int) (pfa_cons (pf_tup (pfa_cons (pf_int) (pfa_cons (pf_int) (pfa_nil)))) (pfa_cons (pf_int) (pfa_nil))))))) (pfa_cons (pf_tup (pfa_cons (pf_int) (pfa_cons (pf_int) (pfa_cons (pf_int) (pfa_cons (pf_tup (pfa_cons (pf_int) (pfa_cons (pf_int) (pfa_nil)))) (pfa_cons (pf_int) (pfa_nil))))))) (pfa_cons (pf_tup (pfa_cons (pf_int) (pfa_cons (pf_int) (pfa_cons (pf_int) (pfa_cons (pf_tup (pfa_cons (pf_int) (pfa_cons (pf_int) (pfa_nil)))) (pfa_cons (pf_int) (pfa_nil))))))) (pfa_cons (pf_tup (pfa_cons (pf_int) (pfa_cons (pf_int) (pfa_cons (pf_int) (pfa_cons (pf_tup (pfa_cons (pf_int) (pfa_cons (pf_int) (pfa_nil)))) (pfa_cons (pf_int) (pfa_nil))))))) (pfa_nil)))))))
      (pfs_cons (pfs_if (PW.pt (pfw_or (pft_not (pft_tru (pf_callC C_law_same (hr.mono (by decide)) (by rfl) (pfa_cons (pf_callC Chistory_of (hr.mono (by decide)) (by rfl) (pfa_cons (pf_var 13) (pfa_cons (pf_int) (pfa_nil))) (len_cons (len_cons len_nil))) (pfa_cons (pf_tup (pfa_cons (pf_int) (pfa_cons (pf_int) (pfa_nil)))) (pfa_nil))) (len_cons (len_cons len_nil))))) (pfw_or1 (pft_not (pft_tru (pf_callC C_law_same (hr.mono (by decide)) (by rfl) (pfa_cons (pf_callC Chistory_of (hr.mono (by decide)) (by rfl) (pfa_cons (pf_var 13) (pfa_cons (pf_int) (pfa_nil))) (len_cons (len_cons len_nil))) (pfa_cons (pf_tup (pfa_nil)) (pfa_nil))) (len_cons (len_cons len_nil))))))))
      (pfs_one (pfs_ret (pf_bl)))
      (pfs_nil))
      (pfs_cons (pfs_if (PW.pt (pfw_or (pft_not (pft_tru (pf_callC C_law_same (hr.mono (by decide)) (by rfl) (pfa_cons (pf_callC Cbulletin_without (hr.mono (by decide)) (by rfl) (pfa_cons (pf_var 13) (pfa_cons (pf_tup (pfa_cons (pf_tup (pfa_cons (pf_int) (pfa_cons (pf_int) (pfa_nil)))) (pfa_cons (pf_tup (pfa_cons (pf_int) (pfa_cons (pf_int) (pfa_nil)))) (pfa_nil)))) (pfa_nil))) (len_cons (len_cons len_nil))) (pfa_cons (pf_slice (pf_var 13) (pfo_some (pf_int)) (pfo_some (pf_int))) (pfa_nil))) (len_cons (len_cons len_nil))))) (pfw_or1 (pft_not (pft_tru (pf_callC C_law_same (hr.mono (by decide)) (by rfl) (pfa_cons (pf_callC Cbulletin_without (hr.mono (by decide)) (by rfl) (pfa_cons (pf_var 13) (pfa_cons (pf_tup (pfa_cons (pf_tup (pfa_cons (pf_int) (pfa_cons (pf_int) (pfa_nil)))) (pfa_nil))) (pfa_nil))) (len_cons (len_cons len_nil))) (pfa_cons (pf_slice (pf_var 13) (pfo_some (pf_int)) (pfo_some (pf_int))) (pfa_nil))) (len_cons (len_cons len_nil))))))))
      (pfs_one (pfs_ret (pf_bl)))
      (pfs_nil))
      (pfs_one (pfs_ret (pf_and (pf_callC C_law_same (hr.mono (by decide)) (by rfl) (pfa_cons (pf_callC Cbulletin_without (hr.mono (by decide)) (by rfl) (pfa_cons (pf_tup (pfa_nil)) (pfa_cons (pf_tup (pfa_cons (pf_tup (pfa_cons (pf_int) (pfa_cons (pf_int) (pfa_nil)))) (pfa_nil))) (pfa_nil))) (len_cons (len_cons len_nil))) (pfa_cons (pf_tup (pfa_nil)) (pfa_nil))) (len_cons (len_cons len_nil))) (pf_one (pf_callC C_law_same (hr.mono (by decide)) (by rfl) (pfa_cons (pf_callC Cbulletin_of (hr.mono (by decide)) (by rfl) (pfa_cons (pf_ty call_tuple_of o_tuple (by rfl) B.tuple boot_tuple (pfa_cons (pf_var 2) (pfa_nil))) (pfa_nil)) (len_cons len_nil)) (pfa_cons (pf_var 3) (pfa_nil))) (len_cons (len_cons len_nil))))))))))))))))
end
end LP
namespace LP
open PySem PySem.Spec PyProof.Rows L2 PF
section
open L2
theorem bnL : ∀ (i : Nat) (x : Str), bnNames[i]? = some x → faL[i]? = some (He.Fa.free x) := by
  intro i x h
  match i, h with
  | 0, h => cases h; rfl
  | 1, h => cases h; rfl
  | 2, h => cases h; rfl
  | 3, h => cases h; rfl
  | 4, h => cases h; rfl
  | 5, h => cases h; rfl
  | 6, h => cases h; rfl
  | 7, h => cases h; rfl
  | 8, h => cases h; rfl
  | 9, h => cases h; rfl
  | 10, h => cases h; rfl
  | 11, h => cases h; rfl
  | 12, h => cases h; rfl
  | 13, h => cases h; rfl
  | 14, h => cases h; rfl
  | 15, h => cases h; rfl
  | 16, h => cases h; rfl
  | 17, h => cases h; rfl
  | n + 18, h => cases (show (none : Option Str) = _ from h)
theorem factsL {P : Program} {w : World} {K : PySem.W.Frag} {h : Heap} {mg : Str → Option Value} {f : Addr} (X : K.In h) (G : h.Ns mainGlobals mg) (hfa : mg ("law" : Str) = some (.ref f)) (c : SaysX imL faL fnL K) :
    ∃ fd : FuncData, (∀ (s : Shared) (v : Value), BindsTo s fd ⟨[v], []⟩ [("script", v)]) ∧ ∀ base : Heap, K.In base → base.Ns mainGlobals mg → FnOk P w K mg base CX0 15 f fd ["script"] (spLaw K) := by
  have B : Bn mg := bn_at X G c bnL
  obtain ⟨fd, F⟩ := c.d.def_ 16 rfl
  have e := hfa.symm.trans (fun_at X G c (x := "law") 34 rfl)
  cases e
  have b := FunD.bindsA (ps := ["script"]) F fun _ _ _ _ _ _ us hl => match us, hl with | [_], _ => rfl
  refine ⟨fd, fun s v => b s [v] rfl, fun base _ _ => ?_⟩
  obtain ⟨_, Fentries_by_event⟩ := c.d.def_ 0 rfl
  have Centries_by_event : Cal P w K mg base 1 "entries_by_event" qentries_by_event 1 := (okentries_by_event Fentries_by_event (fun_at X G c (x := "entries_by_event") 18 rfl) B).as hqentries_by_event
  obtain ⟨_, Fbulletin_of⟩ := c.d.def_ 1 rfl
  have Cbulletin_of : Cal P w K mg base 2 "bulletin_of" qbulletin_of 1 := (okbulletin_of Fbulletin_of (fun_at X G c (x := "bulletin_of") 19 rfl) B Centries_by_event).as hqbulletin_of
  obtain ⟨_, Ftold_later⟩ := c.d.def_ 2 rfl
  have Ctold_later : Cal P w K mg base 3 "told_later" qtold_later 2 := (oktold_later Ftold_later (fun_at X G c (x := "told_later") 20 rfl) B Cbulletin_of).as hqtold_later
  obtain ⟨_, Fis_bulletin⟩ := c.d.def_ 3 rfl
  have Cis_bulletin : Cal P w K mg base 3 "is_bulletin" qis_bulletin 1 := (okis_bulletin Fis_bulletin (fun_at X G c (x := "is_bulletin") 21 rfl) B Cbulletin_of).as hqis_bulletin
  obtain ⟨_, Fhistory_of⟩ := c.d.def_ 4 rfl
  have Chistory_of : Cal P w K mg base 1 "history_of" qhistory_of 2 := (okhistory_of Fhistory_of (fun_at X G c (x := "history_of") 22 rfl) B).as hqhistory_of
  obtain ⟨_, Fbulletin_without⟩ := c.d.def_ 5 rfl
  have Cbulletin_without : Cal P w K mg base 3 "bulletin_without" qbulletin_without 2 := (okbulletin_without Fbulletin_without (fun_at X G c (x := "bulletin_without") 23 rfl) B Cbulletin_of).as hqbulletin_without
  obtain ⟨_, F_law_draws⟩ := c.d.def_ 6 rfl
  have C_law_draws : Cal P w K mg base 1 "_law_draws" q_law_draws 2 := (ok_law_draws F_law_draws (fun_at X G c (x := "_law_draws") 24 rfl) B).as hq_law_draws
  obtain ⟨_, F_law_take⟩ := c.d.def_ 7 rfl
  have C_law_take : Cal P w K mg base 1 "_law_take" q_law_take 2 := (ok_law_take F_law_take (fun_at X G c (x := "_law_take") 25 rfl) B).as hq_law_take
  obtain ⟨_, F_law_cell⟩ := c.d.def_ 8 rfl
  have C_law_cell : Cal P w K mg base 2 "_law_cell" q_law_cell 2 := (ok_law_cell F_law_cell (fun_at X G c (x := "_law_cell") 26 rfl) B C_law_take).as hq_law_cell
  obtain ⟨_, F_law_same⟩ := c.d.def_ 9 rfl
  have C_law_same : Cal P w K mg base 13 "_law_same" q_law_same 2 := (ok_law_same F_law_same (fun_at X G c (x := "_law_same") 27 rfl) B 12).as hq_law_same
  obtain ⟨_, F_law_entries⟩ := c.d.def_ 10 rfl
  have C_law_entries : Cal P w K mg base 3 "_law_entries" q_law_entries 3 := (ok_law_entries F_law_entries (fun_at X G c (x := "_law_entries") 28 rfl) B C_law_cell C_law_take).as hq_law_entries
  obtain ⟨_, F_law_bulletin⟩ := c.d.def_ 11 rfl
  have C_law_bulletin : Cal P w K mg base 1 "_law_bulletin" q_law_bulletin 1 := (ok_law_bulletin F_law_bulletin (fun_at X G c (x := "_law_bulletin") 29 rfl) B).as hq_law_bulletin
  obtain ⟨_, F_law_versions⟩ := c.d.def_ 12 rfl
  have C_law_versions : Cal P w K mg base 1 "_law_versions" q_law_versions 2 := (ok_law_versions F_law_versions (fun_at X G c (x := "_law_versions") 30 rfl) B).as hq_law_versions
  obtain ⟨_, F_law_left⟩ := c.d.def_ 13 rfl
  have C_law_left : Cal P w K mg base 2 "_law_left" q_law_left 2 := (ok_law_left F_law_left (fun_at X G c (x := "_law_left") 31 rfl) B C_law_bulletin).as hq_law_left
  obtain ⟨_, F_law_cancelled⟩ := c.d.def_ 14 rfl
  have C_law_cancelled : Cal P w K mg base 2 "_law_cancelled" q_law_cancelled 3 := (ok_law_cancelled F_law_cancelled (fun_at X G c (x := "_law_cancelled") 32 rfl) B C_law_take).as hq_law_cancelled
  obtain ⟨_, F_law_come_back⟩ := c.d.def_ 15 rfl
  have C_law_come_back : Cal P w K mg base 14 "_law_come_back" q_law_come_back 4 := (ok_law_come_back F_law_come_back (fun_at X G c (x := "_law_come_back") 33 rfl) B C_law_bulletin Cbulletin_without C_law_take C_law_same).as hq_law_come_back
  exact (oklaw F (fun_at X G c (x := "law") 34 rfl) B C_law_draws C_law_entries C_law_take Cbulletin_of C_law_same C_law_bulletin C_law_versions Chistory_of C_law_cancelled C_law_left Cbulletin_without Cis_bulletin C_law_come_back Ctold_later).imp (law_sp law_data)
end
end LP
open PySem PySem.W PySem.Calls PyProof.Rows
theorem PySem.Challenge.cw_shocksknown_k20_whole_histories_and_canc_holds : PySem.Challenge.rw_shocksknown_k20_whole_histories_and_canc.Holds := by
  w_on; o_law
  refine HandSHeadRun.head_any (r := LP.LR) (q := view LP.LR.prog [18]) (H := LP.hkL) (ob := LP.obL) (M := 3000) (loose := [("entries_by_event" : Str), ("bulletin_of" : Str), ("told_later" : Str), ("is_bulletin" : Str), ("history_of" : Str), ("bulletin_without" : Str), ("_law_draws" : Str), ("_law_take" : Str), ("_law_cell" : Str), ("_law_same" : Str), ("_law_entries" : Str), ("_law_bulletin" : Str), ("_law_versions" : Str), ("_law_left" : Str), ("_law_cancelled" : Str), ("_law_come_back" : Str)]) (d := HandSHeadRun.topDef LP.LR.prog 18) (kwd := []) LP.obL_eq
    (by kernel_rfl) (fun s => by kernel_rfl) LP.runL (by kernel_rfl) (by kernel_rfl) (by kernel_rfl) (by rfl) (by first | assumption | decide +kernel) (by decide +kernel) ⟨rfl, rfl, rfl, rfl, rfl, by decide +kernel⟩ ?hw ?hc
  case hw => w_witness2
  case hc =>
    refine L2.walk_ofE (l := PySem.Challenge.rw_shocksknown_k20_whole_histories_and_canc) (n := 63) (k := 15) (x := "script") (CX := L2.CX0) rfl (by decide) (by kernel_rfl) ⟨rfl, by decide, by decide⟩ ?F (fun _ _ _ _ z => z)
    intro w mg fa h Y G hmg0
    obtain ⟨K, KX, c⟩ := Y
    have hmg : mg ("law" : PySem.Str) = some (.ref fa) := by
      have e : (HandSHeadRun.topDef LP.LR.prog 18).name = ("law" : PySem.Str) := by kernel_rfl
      rw [← e]
      exact hmg0
    obtain ⟨fd, hb, hF⟩ := LP.factsL (P := (PySem.Challenge.rw_shocksknown_k20_whole_histories_and_canc).prog) (w := w) KX G hmg c
    exact ⟨K, fd, PF.spLaw K, KX, hb, fun H a ns hl hO hS => ⟨a, ns, rfl, hS, hO, hl, fun _ => rfl⟩, hF⟩
