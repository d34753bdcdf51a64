import PyProof.Rows.All
import Wide.All
import OpenK.AllK
import Wide.FinOn
import HandS.ForMost
import HandS.IsInst
import HandS.Flow
import HandS.Style
import HandS.Wide
import HandS.Defaults
import HandS.Conv
import HandS.Zip
import HandS.RaiseMore
import HandS.TupAny
import KE.KDictPairs
import HandS.More
import PyProof.ReprLen
import PySem.Challenge.RW_letterfolk_k02_worths
import PyProof.Rows.StrMeet
set_option Elab.async false
set_option linter.all false
set_option maxRecDepth 100000
set_option maxHeartbeats 4000000
namespace Dx
/-! Dx: a layer of data over HandS. A value is plain data (PyData); the heap is hidden: what is plain stands in a part F of
the heap that never changes, a list or dict that is still written stands in one slot alone. -/
open PySem PySem.Spec L2

abbrev Dt := PyData
/-- a thing that may still be written, held by one slot -/
inductive Ob where
  | lst (xs : List Dt)
  | dic (kvs : List (Str × Dt))
  | hid (P : List (Str × Dt) → Prop)
/-- what a slot holds -/
inductive Dv where
  | dat (d : Dt)
  | obj (o : Ob)
/-- what an expression gives: plain data, the very thing of slot i, a new thing -/
inductive Ev where
  | dat (d : Dt)
  | var (i : Nat)
  | new (o : Ob)
abbrev Dn := List (Option Dv)

/-! ### plain data: lists that stand by themselves, tuples that do, or are written -/
def TObj (o : Obj) : Prop := o.cls = .type "tuple" ∧ o.dict = none
def TuA (K : PySem.W.Frag) (F : Hp) (a : Addr) (xs : List V) : Prop := (∃ o, F a = some (.frz o (.tup xs)) ∧ TObj o) ∨
  ∃ (o : Obj) (its : Array Value) (n : Nat), K.lookup a = some o ∧ TObj o ∧ o.data = .seq its n ∧ its.size ≤ sizeLine ∧ Vals xs its.toList
theorem TuA.sq {K : PySem.W.Frag} {F : Hp} {a : Addr} {xs : List V} (h : TuA K F a xs) : SqT K F a xs := by
  rcases h with ⟨o, h, _⟩ | ⟨o, its, n, h1, h2, h3⟩
  · exact .inl (.inr ⟨o, h⟩)
  · exact .inr ⟨o, its, n, h1, h2.1, h3⟩
mutual
inductive Rp (K : PySem.W.Frag) (F : Hp) : V → Dt → Prop
  | non : Rp K F .non .none
  | bl (b : Bool) : Rp K F (.bl b) (.bool b)
  | int (i : Int) : Rp K F (.int i) (.int i)
  | str (x : Str) : Rp K F (.str x) (.str x)
  | lst {a : Addr} {xs : List V} {ds : List Dt} : F a = some (.lst xs) → RpAll K F xs ds → Rp K F (.ref a) (.list ds)
  | tup {a : Addr} {xs : List V} {ds : List Dt} : TuA K F a xs → RpAll K F xs ds → Rp K F (.ref a) (.tuple ds)
inductive RpAll (K : PySem.W.Frag) (F : Hp) : List V → List Dt → Prop
  | nil : RpAll K F [] []
  | cons {v : V} {vs : List V} {d : Dt} {ds : List Dt} : Rp K F v d → RpAll K F vs ds → RpAll K F (v :: vs) (d :: ds)
end
/-! ### plain data stays -/
section
variable {K : PySem.W.Frag} {F G H H' : Hp}
theorem seqT_same {a : Addr} {xs : List V} (e : Same F G) (h : TuA K F a xs) : TuA K G a xs := by
  rcases h with ⟨o, h, ho⟩ | h
  · exact .inl ⟨o, e _ _ h, ho⟩
  · exact .inr h
mutual
theorem dp_same (e : Same F G) : ∀ {v : V} {d : Dt}, Rp K F v d → Rp K G v d
  | _, _, .non => .non
  | _, _, .bl b => .bl b
  | _, _, .int i => .int i
  | _, _, .str x => .str x
  | _, _, .lst s t => .lst (e _ _ s) (dpAll_same e t)
  | _, _, .tup s t => .tup (seqT_same e s) (dpAll_same e t)
theorem dpAll_same (e : Same F G) : ∀ {vs : List V} {ds : List Dt}, RpAll K F vs ds → RpAll K G vs ds
  | _, _, .nil => .nil
  | _, _, .cons h t => .cons (dp_same e h) (dpAll_same e t)
end
mutual
theorem Rp.dp : ∀ {v : V} {d : Dt}, Rp K F v d → Dp K F v d
  | _, _, .non => .non
  | _, _, .bl b => .bl b
  | _, _, .int i => .int i
  | _, _, .str x => .str x
  | _, _, .lst s t => .lst (SqL.of s) (RpAll.dp t)
  | _, _, .tup s t => .tup s.sq (RpAll.dp t)
theorem RpAll.dp : ∀ {vs : List V} {ds : List Dt}, RpAll K F vs ds → DpAll K F vs ds
  | _, _, .nil => .nil
  | _, _, .cons h t => .cons (Rp.dp h) (RpAll.dp t)
end
theorem RpAll.length : ∀ {vs : List V} {ds : List Dt}, RpAll K F vs ds → vs.length = ds.length
  | _, _, .nil => rfl
  | _, _, .cons _ t => by simp [RpAll.length t]
theorem RpAll.get : ∀ {vs : List V} {ds : List Dt} {i : Nat} {d : Dt}, RpAll K F vs ds → ds[i]? = some d → ∃ v, vs[i]? = some v ∧ Rp K F v d
  | _, _, _, _, .nil, e => by simp at e
  | _, _, 0, _, .cons h _, e => by simp at e; subst e; exact ⟨_, rfl, h⟩
  | _, _, i + 1, _, .cons _ t, e => by
    obtain ⟨v, h1, h2⟩ := RpAll.get (i := i) t (by simpa using e)
    exact ⟨v, by simpa using h1, h2⟩
theorem RpAll.getV : ∀ {vs : List V} {ds : List Dt} {i : Nat} {v : V}, RpAll K F vs ds → vs[i]? = some v → ∃ d, ds[i]? = some d ∧ Rp K F v d
  | _, _, _, _, .nil, e => by simp at e
  | _, _, 0, _, .cons h _, e => by simp at e; subst e; exact ⟨_, rfl, h⟩
  | _, _, i + 1, _, .cons _ t, e => by
    obtain ⟨v, h1, h2⟩ := RpAll.getV (i := i) t (by simpa using e)
    exact ⟨v, by simpa using h1, h2⟩
theorem RpAll.append : ∀ {vs us : List V} {ds es : List Dt}, RpAll K F vs ds → RpAll K F us es → RpAll K F (vs ++ us) (ds ++ es)
  | _, _, _, _, .nil, s => s
  | _, _, _, _, .cons r t, s => .cons r (RpAll.append t s)
theorem RpAll.take : ∀ {vs : List V} {ds : List Dt} (n : Nat), RpAll K F vs ds → RpAll K F (vs.take n) (ds.take n)
  | _, _, 0, _ => .nil
  | _, _, _ + 1, .nil => .nil
  | _, _, n + 1, .cons r t => .cons r (RpAll.take n t)
theorem RpAll.drop : ∀ {vs : List V} {ds : List Dt} (n : Nat), RpAll K F vs ds → RpAll K F (vs.drop n) (ds.drop n)
  | _, _, 0, r => r
  | _, _, _ + 1, .nil => .nil
  | _, _, n + 1, .cons _ t => RpAll.drop n t
theorem RpAll.reverse : ∀ {vs : List V} {ds : List Dt}, RpAll K F vs ds → RpAll K F vs.reverse ds.reverse
  | _, _, .nil => .nil
  | _, _, .cons r t => by
    rw [List.reverse_cons, List.reverse_cons]
    exact RpAll.append (RpAll.reverse t) (.cons r .nil)
theorem RpAll.snoc {vs : List V} {ds : List Dt} {v : V} {d : Dt} (a : RpAll K F vs ds) (h : Rp K F v d) : RpAll K F (vs ++ [v]) (ds ++ [d]) := RpAll.append a (.cons h .nil)
end

/-! ### a thing that may be written, at its place -/
def KvR (K : PySem.W.Frag) (F : Hp) : List (Key × V) → List (Str × Dt) → Prop
  | [], [] => True
  | (k, v) :: r, (x, d) :: s => k = Sum.inr x ∧ Rp K F v d ∧ KvR K F r s
  | _, _ => False
theorem kvR_same {K : PySem.W.Frag} {F G : Hp} (e : Same F G) : ∀ {a : List (Key × V)} {b : List (Str × Dt)}, KvR K F a b → KvR K G a b
  | [], [], _ => trivial
  | (_, _) :: _, (_, _) :: _, ⟨h1, h2, h3⟩ => ⟨h1, dp_same e h2, kvR_same e h3⟩
  | [], _ :: _, h => h.elim
  | _ :: _, [], h => h.elim
def RepO (K : PySem.W.Frag) (F H : Hp) (p : Addr) : Ob → Prop
  | .lst xs => ∃ vs, H p = some (.lst vs) ∧ RpAll K F vs xs
  | .dic kvs => ∃ vs, H p = some (.dK vs) ∧ KvR K F vs kvs
  | .hid P => ∃ kvs vs, P kvs ∧ H p = some (.dK vs) ∧ KvR K F vs kvs
theorem RepO.some {K : PySem.W.Frag} {F H : Hp} {p : Addr} {o : Ob} (h : RepO K F H p o) : ∃ u, H p = some u := by
  cases o with
  | lst xs => obtain ⟨vs, h, _⟩ := h; exact ⟨_, h⟩
  | dic xs => obtain ⟨vs, h, _⟩ := h; exact ⟨_, h⟩
  | hid P => obtain ⟨_, vs, _, h, _⟩ := h; exact ⟨_, h⟩
theorem RepO.move {K : PySem.W.Frag} {F G H H' : Hp} {p : Addr} {o : Ob} (h : RepO K F H p o) (e : Same F G) (k : H' p = H p) : RepO K G H' p o := by
  cases o with
  | lst xs => obtain ⟨vs, h, r⟩ := h; exact ⟨vs, k.trans h, dpAll_same e r⟩
  | dic xs => obtain ⟨vs, h, r⟩ := h; exact ⟨vs, k.trans h, kvR_same e r⟩
  | hid P => obtain ⟨kvs, vs, q, h, r⟩ := h; exact ⟨kvs, vs, q, k.trans h, kvR_same e r⟩

def RepV (K : PySem.W.Frag) (F H : Hp) (v : V) : Dv → Prop
  | .dat d => Rp K F v d
  | .obj o => ∃ p, v = .ref p ∧ F p = none ∧ RepO K F H p o

/-- slot i's thing stands at a -/
def Ow (σ : St) (env : Dn) (a : Addr) : Prop := ∃ (i : Nat) (o : Ob), env[i]? = some (some (Dv.obj o)) ∧ σ[i]? = some (some (V.ref a))

structure Rep (K : PySem.W.Frag) (F H : Hp) (σ : St) (env : Dn) : Prop where
  sub : Same F H
  len : env.length = σ.length
  val : ∀ (i : Nat) (dv : Dv), env[i]? = some (some dv) → ∃ v, σ[i]? = some (some v) ∧ RepV K F H v dv
  inj : ∀ (i j : Nat) (o o' : Ob) (p : Addr), env[i]? = some (some (.obj o)) → env[j]? = some (some (.obj o')) → σ[i]? = some (some (.ref p)) → σ[j]? = some (some (.ref p)) → i = j

/-- from one state to a later one -/
structure Ext (σ : St) (env : Dn) (F H : Hp) (σ' : St) (env' : Dn) (F' H' : Hp) : Prop where
  same : Same F F'
  keep : ∀ a o, H a = some o → ¬ Ow σ env a → H' a = some o
  there : ∀ a o, H a = some o → ∃ o', H' a = some o'
  new : ∀ a o, F' a = some o → F a = none → H a = none ∨ Ow σ env a
  ow : ∀ a, Ow σ' env' a → Ow σ env a ∨ H a = none
theorem Ext.refl {σ : St} {env : Dn} {F H : Hp} : Ext σ env F H σ env F H :=
  ⟨Same.refl _, fun _ _ h _ => h, fun _ o h => ⟨o, h⟩, fun a o h n => (by rw [n] at h; cases h), fun _ h => .inl h⟩
theorem Ext.trans {σ σ1 σ2 : St} {env env1 env2 : Dn} {F F1 F2 H H1 H2 : Hp} (a : Ext σ env F H σ1 env1 F1 H1) (b : Ext σ1 env1 F1 H1 σ2 env2 F2 H2) : Ext σ env F H σ2 env2 F2 H2 := by
  have back : ∀ p o, H p = some o → ¬ Ow σ env p → ¬ Ow σ1 env1 p := fun p o h n w => by
    rcases a.ow p w with z | z
    · exact n z
    · rw [h] at z; cases z
  refine ⟨a.same.trans b.same, fun p o h n => b.keep p o (a.keep p o h n) (back p o h n), fun p o h => ?_, fun p o h n => ?_, fun p h => ?_⟩
  · obtain ⟨o1, h1⟩ := a.there p o h
    exact b.there p o1 h1
  · by_cases z : Ow σ env p
    · exact .inr z
    · cases q : H p with
      | none => exact .inl rfl
      | some u =>
        cases q1 : F1 p with
        | some w =>
          rcases a.new p w q1 n with z' | z'
          · rw [q] at z'; cases z'
          · exact absurd z' z
        | none =>
          rcases b.new p o h q1 with z' | z'
          · rw [a.keep p u q z] at z'; cases z'
          · exact absurd z' (back p u q z)
  · rcases b.ow p h with z | z
    · exact a.ow p z
    · cases q : H p with
      | none => exact .inr rfl
      | some u =>
        obtain ⟨o1, h1⟩ := a.there p u q
        rw [h1] at z; cases z

def RepE (K : PySem.W.Frag) (F H : Hp) (σ : St) (env : Dn) (H0 : Hp) (v : V) : Ev → Prop
  | .dat d => Rp K F v d
  | .var i => σ[i]? = some (some v)
  | .new o => ∃ p, v = .ref p ∧ F p = none ∧ RepO K F H p o ∧ ¬ Ow σ env p ∧ H0 p = none
theorem RepE.move {K : PySem.W.Frag} {F F' H H' H0 : Hp} {σ : St} {env env' : Dn} {v : V} {ev : Ev} (h : RepE K F H σ env H0 v ev) (e : Ext σ env F H σ env' F' H') : RepE K F' H' σ env' H0 v ev := by
  cases ev with
  | dat d => exact dp_same e.same h
  | var i => exact h
  | new o =>
    obtain ⟨p, hv, hf, r, n, h0⟩ := h
    obtain ⟨u, hu⟩ := r.some
    have hk := e.keep p u hu n
    refine ⟨p, hv, ?_, r.move e.same (hk.trans hu.symm), fun w => ?_, h0⟩
    · cases q : F' p with
      | none => rfl
      | some w =>
        rcases e.new p w q hf with z | z
        · rw [hu] at z; cases z
        · exact absurd z n
    · rcases e.ow p w with z | z
      · exact n z
      · rw [hu] at z; cases z
theorem RepE.back {K : PySem.W.Frag} {F H H0 H1 : Hp} {σ : St} {env : Dn} {v : V} {ev : Ev} (h : RepE K F H σ env H1 v ev) (e : ∀ a o, H0 a = some o → ∃ o', H1 a = some o') : RepE K F H σ env H0 v ev := by
  cases ev with
  | dat d => exact h
  | var i => exact h
  | new o =>
    obtain ⟨p, hv, hf, r, n, h0⟩ := h
    refine ⟨p, hv, hf, r, n, ?_⟩
    cases q : H0 p with
    | none => rfl
    | some u =>
      obtain ⟨o', z⟩ := e p u q
      rw [h0] at z; cases z

/-! ### the judgements -/
abbrev Dk := Ev → Dn → Prop
abbrev DT := Dn → Dk → Prop
def MonoD (t : DT) : Prop := ∀ (env : Dn) (Q Q' : Dk), (∀ ev env', Q ev env' → Q' ev env') → t env Q → t env Q'
def tD (K : PySem.W.Frag) (t : DT) : TE := fun σ H Q => ∃ F env, Rep K F H σ env ∧ t env fun ev env' => ∀ F' H' v, Ext σ env F H σ env' F' H' → Rep K F' H' σ env' → RepE K F' H' σ env' H v ev → Q v H'
structure DE (X : Cx) (e : Expr) (t : DT) : Prop where
  mono : MonoD t
  run : PE X e (tD X.K t)
abbrev DTb := Dn → (Bool → Dn → Prop) → Prop
def MonoB (t : DTb) : Prop := ∀ (env : Dn) (Q Q' : Bool → Dn → Prop), (∀ ev env', Q ev env' → Q' ev env') → t env Q → t env Q'
def tDb (K : PySem.W.Frag) (t : DTb) : TT := fun σ H Q => ∃ F env, Rep K F H σ env ∧ t env fun b env' => ∀ F' H', Ext σ env F H σ env' F' H' → Rep K F' H' σ env' → Q b H'
structure DB (X : Cx) (e : Expr) (t : DTb) : Prop where
  mono : MonoB t
  run : PT X e (tDb X.K t)
structure DW (X : Cx) (e : Expr) (t : DTb) : Prop where
  mono : MonoB t
  run : PW X e (tDb X.K t)
abbrev DTa := Dn → (List Ev → Dn → Prop) → Prop
def MonoA (t : DTa) : Prop := ∀ (env : Dn) (Q Q' : List Ev → Dn → Prop), (∀ ev env', Q ev env' → Q' ev env') → t env Q → t env Q'
/-- the value of a new thing at p is among these -/
def NewAt (p : Addr) : List V → List Ev → Prop
  | v :: vs, e :: es => (v = .ref p ∧ ∃ o, e = .new o) ∨ NewAt p vs es
  | _, _ => False
inductive RepA (K : PySem.W.Frag) (F H : Hp) (σ : St) (env : Dn) (H0 : Hp) : List V → List Ev → Prop
  | nil : RepA K F H σ env H0 [] []
  | cons {v : V} {vs : List V} {e : Ev} {es : List Ev} : RepE K F H σ env H0 v e → RepA K F H σ env H0 vs es → (∀ p o, v = .ref p → e = .new o → ¬ NewAt p vs es) → RepA K F H σ env H0 (v :: vs) (e :: es)
theorem RepA.back {K : PySem.W.Frag} {F H H0 H1 : Hp} {σ : St} {env : Dn} : ∀ {vs : List V} {es : List Ev}, RepA K F H σ env H1 vs es → (∀ a o, H0 a = some o → ∃ o', H1 a = some o') → RepA K F H σ env H0 vs es
  | _, _, .nil, _ => .nil
  | _, _, .cons h t n, e => .cons (h.back e) (t.back e) n
theorem RepA.length {K : PySem.W.Frag} {F H H0 : Hp} {σ : St} {env : Dn} : ∀ {vs : List V} {es : List Ev}, RepA K F H σ env H0 vs es → vs.length = es.length
  | _, _, .nil => rfl
  | _, _, .cons _ t _ => by simp [t.length]
theorem RepA.newNone {K : PySem.W.Frag} {F H H0 : Hp} {σ : St} {env : Dn} {p : Addr} : ∀ {vs : List V} {es : List Ev}, RepA K F H σ env H0 vs es → NewAt p vs es → H0 p = none
  | _, _, .nil, n => n.elim
  | _, _, .cons h t _, n => by
    rcases n with ⟨rfl, o, rfl⟩ | n
    · obtain ⟨q, e, _, _, _, z⟩ := h
      cases e
      exact z
    · exact t.newNone n
def tDa (K : PySem.W.Frag) (t : DTa) : TA := fun σ H Q => ∃ F env, Rep K F H σ env ∧ t env fun evs env' => ∀ F' H' vs, Ext σ env F H σ env' F' H' → Rep K F' H' σ env' → RepA K F' H' σ env' H vs evs → Q vs H'
structure DA (X : Cx) (es : List Expr) (t : DTa) : Prop where
  mono : MonoA t
  run : PA X es (tDa X.K t)
theorem _root_.L2.PE.mono {X : Cx} {e : Expr} {t t' : TE} (h : PE X e t) (i : ∀ σ H Q, t' σ H Q → t σ H Q) : PE X e t' := ⟨fun pins s σ H Q I q => h.run pins s σ H Q I (i σ H Q q)⟩
theorem _root_.L2.PT.mono {X : Cx} {e : Expr} {t t' : TT} (h : PT X e t) (i : ∀ σ H Q, t' σ H Q → t σ H Q) : PT X e t' := ⟨fun pins s σ H Q I q => h.run pins s σ H Q I (i σ H Q q)⟩
theorem _root_.L2.PW.mono {X : Cx} {e : Expr} {t t' : TT} (h : PW X e t) (i : ∀ σ H Q, t' σ H Q → t σ H Q) : PW X e t' := ⟨fun w pins s σ H Q I q => h.run w pins s σ H Q I (i σ H Q q)⟩
theorem _root_.L2.PA.mono {X : Cx} {e : List Expr} {t t' : TA} (h : PA X e t) (i : ∀ σ H Q, t' σ H Q → t σ H Q) : PA X e t' := ⟨fun p pins s σ H Q I q => h.run p pins s σ H Q I (i σ H Q q)⟩
theorem _root_.L2.PS.mono {X : Cx} {e : Stmt} {t t' : TS} (h : PS X e t) (i : ∀ D σ H, t' D σ H → t D σ H) : PS X e t' := ⟨fun pins s σ H D I q => h.run pins s σ H D I (i D σ H q)⟩
theorem _root_.L2.PSs.mono {X : Cx} {e : List Stmt} {t t' : TS} (h : PSs X e t) (i : ∀ D σ H, t' D σ H → t D σ H) : PSs X e t' := ⟨fun pins s σ H D I q => h.run pins s σ H D I (i D σ H q)⟩

/-! ### what an operand shows where it is used -/
/-- the data that a value shows in the state env -/
def rs (env : Dn) : Ev → Option Dt
  | .dat d => some d
  | .var i => match env[i]? with
    | some (some (.dat d)) => some d
    | some (some (.obj (.lst xs))) => some (.list xs)
    | _ => none
  | .new (.lst xs) => some (.list xs)
  | .new _ => none
/-- the top of a data: what stands within is in F -/
inductive Tp (K : PySem.W.Frag) (F H : Hp) : V → Dt → Prop
  | non : Tp K F H .non .none
  | bl (b : Bool) : Tp K F H (.bl b) (.bool b)
  | int (i : Int) : Tp K F H (.int i) (.int i)
  | str (x : Str) : Tp K F H (.str x) (.str x)
  | lst {a : Addr} {xs : List V} {ds : List Dt} : H a = some (.lst xs) → RpAll K F xs ds → Tp K F H (.ref a) (.list ds)
  | tup {a : Addr} {xs : List V} {ds : List Dt} : TuA K F a xs → RpAll K F xs ds → Tp K F H (.ref a) (.tuple ds)
theorem Tp.of {K : PySem.W.Frag} {F H : Hp} {v : V} {d : Dt} (e : Same F H) (h : Rp K F v d) : Tp K F H v d := by
  cases h with
  | non => exact .non
  | bl b => exact .bl b
  | int i => exact .int i
  | str x => exact .str x
  | lst s t => exact .lst (e _ _ s) t
  | tup s t => exact .tup s t
theorem Tp.rp {K : PySem.W.Frag} {F H : Hp} {v : V} {d : Dt} (e : Same F H) (h : Tp K F H v d) : Rp K H v d := by
  cases h with
  | non => exact .non
  | bl b => exact .bl b
  | int i => exact .int i
  | str x => exact .str x
  | lst s t => exact .lst s (dpAll_same e t)
  | tup s t => exact .tup (seqT_same e s) (dpAll_same e t)
theorem tp_of {K : PySem.W.Frag} {F H H0 : Hp} {σ : St} {env : Dn} {v : V} {ev : Ev} {d : Dt} (R : Rep K F H σ env) (h : RepE K F H σ env H0 v ev) (e : rs env ev = some d) : Tp K F H v d := by
  cases ev with
  | dat d' => cases e; exact .of R.sub h
  | var i =>
    simp only [rs] at e
    split at e
    · rename_i d' q
      cases e
      obtain ⟨v', e1, e2⟩ := R.val i _ q
      rw [show σ[i]? = some (some v) from h] at e1; cases e1
      exact .of R.sub e2
    · rename_i xs q
      cases e
      obtain ⟨v', e1, p, e3, e4, vs, e5, e6⟩ := R.val i _ q
      rw [show σ[i]? = some (some v) from h] at e1; cases e1
      subst e3
      exact .lst e5 e6
    · cases e
  | new o =>
    cases o with
    | lst xs =>
      cases e
      obtain ⟨p, e3, e4, ⟨vs, e5, e6⟩, _⟩ := h
      subst e3
      exact .lst e5 e6
    | dic _ => cases e
    | hid _ => cases e
open PySem PySem.Spec L2

def wr {α : Type} (o : Option α) (Q : α → Prop) : Prop := match o with
  | some a => Q a
  | none => False
theorem wr_get {α : Type} {o : Option α} {Q : α → Prop} (h : wr o Q) : ∃ a, o = some a ∧ Q a := by
  cases o with
  | none => exact h.elim
  | some a => exact ⟨a, rfl, h⟩
theorem wr_mono {α : Type} {o : Option α} {Q Q' : α → Prop} (i : ∀ a, Q a → Q' a) (h : wr o Q) : wr o Q' := by
  cases o with
  | none => exact h.elim
  | some a => exact i a h
theorem wr_of {α : Type} {o : Option α} {Q : α → Prop} {a : α} (e : o = some a) (h : Q a) : wr o Q := by subst e; exact h

/-! ### the state grows -/
section
variable {K : PySem.W.Frag} {F H : Hp} {σ : L2.St} {env : Dn} {p : Addr} {o : HO}
theorem Rep.fnone (R : Rep K F H σ env) (hp : H p = none) : F p = none := by
  cases q : F p with
  | none => rfl
  | some u => rw [R.sub p u q] at hp; cases hp
theorem Rep.ow_some (R : Rep K F H σ env) {a : Addr} (w : Ow σ env a) : ∃ u, H a = some u ∧ F a = none := by
  obtain ⟨i, ob, e1, e2⟩ := w
  obtain ⟨v, e3, q, e4, e5, r⟩ := R.val i _ e1
  rw [e2] at e3; cases e3; cases e4
  obtain ⟨u, hu⟩ := r.some
  exact ⟨u, hu, e5⟩
theorem Rep.not_ow (R : Rep K F H σ env) (hp : H p = none) : ¬ Ow σ env p := fun w => by
  obtain ⟨u, hu, _⟩ := R.ow_some w
  rw [hp] at hu; cases hu
theorem same_upd (hp : F p = none) : Same F (upd F p o) := fun a u h => by
  rw [upd_ne (ne_of_none h hp)]; exact h
theorem Rep.grow (R : Rep K F H σ env) (hp : H p = none) (o : HO) : Rep K (upd F p o) (upd H p o) σ env ∧ Ext σ env F H σ env (upd F p o) (upd H p o) := by
  have hf := R.fnone hp
  have sm : Same F (upd F p o) := same_upd hf
  refine ⟨⟨fun a u h => ?_, R.len, fun i dv e => ?_, R.inj⟩, ⟨sm, fun a u h _ => ?_, fun a u h => ?_, fun a u h n => ?_, fun _ w => .inl w⟩⟩
  · by_cases q : a = p
    · subst q; rw [upd_same] at h ⊢; exact h
    · rw [upd_ne q] at h ⊢; exact R.sub a u h
  · obtain ⟨v, e1, r⟩ := R.val i dv e
    refine ⟨v, e1, ?_⟩
    cases dv with
    | dat d => exact dp_same sm r
    | obj ob =>
      obtain ⟨q, e2, e3, r⟩ := r
      obtain ⟨u, hu⟩ := r.some
      have ne : q ≠ p := ne_of_none hu hp
      exact ⟨q, e2, by rw [upd_ne ne]; exact e3, r.move sm (upd_ne ne)⟩
  · rw [upd_ne (ne_of_none h hp)]; exact h
  · exact ⟨u, by rw [upd_ne (ne_of_none h hp)]; exact h⟩
  · by_cases q : a = p
    · subst q; exact .inl hp
    · rw [upd_ne q] at h; rw [n] at h; cases h
theorem Rep.growN (R : Rep K F H σ env) (hp : H p = none) (o : HO) : Rep K F (upd H p o) σ env ∧ Ext σ env F H σ env F (upd H p o) := by
  refine ⟨⟨fun a u h => ?_, R.len, fun i dv e => ?_, R.inj⟩, ⟨Same.refl _, fun a u h _ => ?_, fun a u h => ?_, fun a u h n => ?_, fun _ w => .inl w⟩⟩
  · have z := R.sub a u h
    rw [upd_ne (ne_of_none z hp)]; exact z
  · obtain ⟨v, e1, r⟩ := R.val i dv e
    refine ⟨v, e1, ?_⟩
    cases dv with
    | dat d => exact r
    | obj ob =>
      obtain ⟨q, e2, e3, r⟩ := r
      obtain ⟨u, hu⟩ := r.some
      exact ⟨q, e2, e3, r.move (Same.refl _) (upd_ne (ne_of_none hu hp))⟩
  · rw [upd_ne (ne_of_none h hp)]; exact h
  · exact ⟨u, by rw [upd_ne (ne_of_none h hp)]; exact h⟩
  · rw [n] at h; cases h
/-- a list that nobody's slot holds becomes plain -/
theorem Rep.seal (R : Rep K F H σ env) (hf : F p = none) (hp : H p = some o) (n : ¬ Ow σ env p) : Rep K (upd F p o) H σ env := by
  have sm : Same F (upd F p o) := same_upd hf
  refine ⟨fun a u h => ?_, R.len, fun i dv e => ?_, R.inj⟩
  · by_cases q : a = p
    · subst q; rw [upd_same] at h; rw [hp]; exact h
    · rw [upd_ne q] at h; exact R.sub a u h
  · obtain ⟨v, e1, r⟩ := R.val i dv e
    refine ⟨v, e1, ?_⟩
    cases dv with
    | dat d => exact dp_same sm r
    | obj ob =>
      obtain ⟨q, e2, e3, r⟩ := r
      have ne : q ≠ p := fun z => n ⟨i, ob, e, by rw [e1, e2, z]⟩
      exact ⟨q, e2, by rw [upd_ne ne]; exact e3, r.move sm rfl⟩
end

/-- what an operation gives: a thing that stood, or a new list or tuple of things that stood -/
inductive Res (K : PySem.W.Frag) (F H : Hp) : Hp → V → Dt → Prop
  | old {v : V} {d : Dt} : Rp K F v d → Res K F H H v d
  | lst {p : Addr} {vs : List V} {ds : List Dt} : H p = none → RpAll K F vs ds → Res K F H (upd H p (.lst vs)) (.ref p) (.list ds)
  | tup {p : Addr} {o : Obj} {vs : List V} {ds : List Dt} : H p = none → TObj o → RpAll K F vs ds → Res K F H (upd H p (.frz o (.tup vs))) (.ref p) (.tuple ds)
theorem Res.frz {K : PySem.W.Frag} {F H H' : Hp} {σ : L2.St} {env : Dn} {v : V} {d : Dt} (R : Rep K F H σ env) (r : Res K F H H' v d) : ∃ F', Ext σ env F H σ env F' H' ∧ Rep K F' H' σ env ∧ Rp K F' v d := by
  cases r with
  | old r => exact ⟨F, Ext.refl, R, r⟩
  | lst hp r =>
    obtain ⟨R', E⟩ := R.grow hp (.lst _)
    exact ⟨_, E, R', .lst upd_same (dpAll_same E.same r)⟩
  | @tup p o vs ds hp ho r =>
    obtain ⟨R', E⟩ := R.grow hp (.frz o (.tup vs))
    exact ⟨_, E, R', .tup (.inl ⟨o, upd_same, ho⟩) (dpAll_same E.same r)⟩

section
variable {X : Cx}
/-! ### constants, names -/
def kC (d : Dt) : DT := fun env Q => Q (.dat d) env
theorem de_c {e : Expr} {v : V} {d : Dt} (h : PE X e (tC v)) (r : Rp X.K (fun _ => none) v d) : DE X e (kC d) := by
  refine ⟨fun env Q Q' i h => i _ _ h, h.mono fun σ H Q => ?_⟩
  rintro ⟨F, env, R, q⟩
  exact q F H v Ext.refl R (dp_same (fun _ u z => absurd (show (none : Option HO) = some u from z) (by simp)) r)
theorem de_int {i j pos} : DE X (.Constant (.int i) j pos) (kC (.int i)) := de_c pe_int (.int i)
theorem de_bl {i j pos} : DE X (.Constant (.bool i) j pos) (kC (.bool i)) := de_c pe_bl (.bl i)
theorem de_str {i j pos} : DE X (.Constant (.str i) j pos) (kC (.str i)) := de_c pe_str (.str i)
theorem de_non {j pos} : DE X (.Constant .none j pos) (kC .none) := de_c pe_non .non
/-- a name of the module that holds plain data -/
theorem de_glob {x : Str} {v : V} {u : Value} {d : Dt} {pos : Pos} (hg : Gl X x) (hm : X.mg x = some u) (r : RelV v u) (q : Rp X.K (fun _ => none) v d) (hd : (x == ("__debug__" : Str)) = false := by decide) : DE X (.Name x pos) (kC d) :=
  de_c (pe_glob hg hm r hd) q
def kVar (i : Nat) : DT := fun env Q => match env[i]? with
  | some (some (.dat d)) => Q (.dat d) env
  | some (some (.obj _)) => Q (.var i) env
  | _ => False
theorem de_var (i : Nat) {x : Str} {pos : Pos} (hN : X.N[i]? = some x := by rfl) (hv : Vis X.env.scope x := by first | exact Or.inl rfl | exact Or.inr (Or.inl rfl) | exact Or.inr (Or.inr rfl)) (hd : (x == ("__debug__" : Str)) = false := by decide)
    (hcd : (x == ("__classdict__" : Str)) = false := by decide) : DE X (.Name x pos) (kVar i) := by
  refine ⟨fun env Q Q' i h => ?_, (pe_var hN hv hd hcd).mono fun σ H Q => ?_⟩
  · unfold kVar at h ⊢
    split <;> simp_all
  · rintro ⟨F, env, R, q⟩
    unfold kVar at q
    split at q
    · rename_i d e
      obtain ⟨v, e1, r⟩ := R.val i _ e
      exact ⟨v, e1, q F H v Ext.refl R r⟩
    · rename_i o e
      obtain ⟨v, e1, r⟩ := R.val i _ e
      exact ⟨v, e1, q F H v Ext.refl R e1⟩
    · exact q.elim
theorem set_get {α : Type} {l : List (Option α)} {i j : Nat} {x : Option α} {y : α} (h : (l.set i x)[j]? = some (some y)) : (j = i ∧ x = some y ∧ i < l.length) ∨ (j ≠ i ∧ l[j]? = some (some y)) := by
  by_cases e : j = i
  · subst e
    by_cases hl : j < l.length
    · rw [List.getElem?_set_self hl] at h
      exact .inl ⟨rfl, Option.some.inj h, hl⟩
    · rw [List.getElem?_eq_none (by simpa using hl)] at h; cases h
  · rw [List.getElem?_set_ne (Ne.symm e)] at h
    exact .inr ⟨e, h⟩
/-- the thing of slot i becomes plain -/
theorem Rep.freeze {K : PySem.W.Frag} {F H : Hp} {σ : L2.St} {env : Dn} {i : Nat} {p : Addr} {xs : List Dt} {vs : List V} (R : Rep K F H σ env) (e : env[i]? = some (some (.obj (.lst xs)))) (es : σ[i]? = some (some (.ref p))) (hf : F p = none) (hp : H p = some (.lst vs)) (ha : RpAll K F vs xs) :
    Rep K (upd F p (.lst vs)) H σ (env.set i (some (.dat (.list xs)))) ∧ Ext σ env F H σ (env.set i (some (.dat (.list xs)))) (upd F p (.lst vs)) H := by
  have sm : Same F (upd F p (.lst vs)) := same_upd hf
  refine ⟨⟨fun a u h => ?_, by rw [List.length_set]; exact R.len, fun j dv q => ?_, fun j k o o' a h1 h2 h3 h4 => ?_⟩, ⟨sm, fun _ _ h _ => h, fun _ u h => ⟨u, h⟩, fun a u h n => ?_, fun a w => .inl ?_⟩⟩
  · by_cases q : a = p
    · subst q; rw [upd_same] at h; rw [hp]; exact h
    · rw [upd_ne q] at h; exact R.sub a u h
  · rcases set_get q with ⟨rfl, q, _⟩ | ⟨ne, q⟩
    · cases q
      exact ⟨_, es, .lst upd_same (dpAll_same sm ha)⟩
    · obtain ⟨v, e1, r⟩ := R.val j dv q
      refine ⟨v, e1, ?_⟩
      cases dv with
      | dat d => exact dp_same sm r
      | obj ob =>
        obtain ⟨a, e2, e3, r⟩ := r
        have nep : a ≠ p := fun z => ne (R.inj j i ob _ p q e (by rw [e1, e2, z]) es)
        exact ⟨a, e2, by rw [upd_ne nep]; exact e3, r.move sm rfl⟩
  · rcases set_get h1 with ⟨_, z, _⟩ | ⟨_, h1⟩
    · cases z
    · rcases set_get h2 with ⟨_, z, _⟩ | ⟨_, h2⟩
      · cases z
      · exact R.inj j k o o' a h1 h2 h3 h4
  · by_cases q : a = p
    · subst q; exact .inr ⟨i, _, e, es⟩
    · rw [upd_ne q] at h; rw [n] at h; cases h
  · obtain ⟨j, o, q, h⟩ := w
    rcases set_get q with ⟨_, z, _⟩ | ⟨_, q⟩
    · cases z
    · exact ⟨j, o, q, h⟩
def kFrz (i : Nat) : DT := fun env Q => match env[i]? with
  | some (some (.dat d)) => Q (.dat d) env
  | some (some (.obj (.lst xs))) => Q (.dat (.list xs)) (env.set i (some (.dat (.list xs))))
  | _ => False
theorem de_frz (i : Nat) {x : Str} {pos : Pos} (hN : X.N[i]? = some x := by rfl) (hv : Vis X.env.scope x := by first | exact Or.inl rfl | exact Or.inr (Or.inl rfl) | exact Or.inr (Or.inr rfl)) (hd : (x == ("__debug__" : Str)) = false := by decide)
    (hcd : (x == ("__classdict__" : Str)) = false := by decide) : DE X (.Name x pos) (kFrz i) := by
  refine ⟨fun env Q Q' i h => ?_, (pe_var hN hv hd hcd).mono fun σ H Q => ?_⟩
  · unfold kFrz at h ⊢
    split <;> simp_all
  · rintro ⟨F, env, R, q⟩
    unfold kFrz at q
    split at q
    · rename_i d e
      obtain ⟨v, e1, r⟩ := R.val i _ e
      exact ⟨v, e1, q F H v Ext.refl R r⟩
    · rename_i xs e
      obtain ⟨v, e1, p, e2, hf, vs, hp, ha⟩ := R.val i _ e
      subst e2
      obtain ⟨R', E⟩ := R.freeze e e1 hf hp ha
      exact ⟨_, e1, q _ H _ E R' (.lst upd_same (dpAll_same E.same ha))⟩
    · exact q.elim

/-! ### arguments, displays -/
def kNil : DTa := fun env Q => Q [] env
def kCons (t : DT) (u : DTa) : DTa := fun env Q => t env fun ev env1 => u env1 fun evs env2 => Q (ev :: evs) env2
theorem da_nil : DA X [] kNil := by
  refine ⟨fun env Q Q' i h => i _ _ h, pa_nil.mono fun σ H Q => ?_⟩
  rintro ⟨F, env, R, q⟩
  exact q F H [] Ext.refl R .nil
theorem da_cons {e : Expr} {es : List Expr} {t : DT} {u : DTa} (ha : DE X e t) (hr : DA X es u) (hs : starEach (e :: es) X.env = (false, eval e X.env) :: starEach es X.env := by rfl) : DA X (e :: es) (kCons t u) := by
  refine ⟨fun env Q Q' i h => ha.mono _ _ _ (fun ev env1 h1 => hr.mono _ _ _ (fun evs env2 h2 => i _ _ h2) h1) h, (pa_cons ha.run hr.run hs).mono fun σ H Q => ?_⟩
  rintro ⟨F, env, R, q⟩
  refine ⟨F, env, R, ha.mono _ _ _ (fun ev env1 h1 F1 H1 v E1 R1 V1 => ⟨F1, env1, R1, hr.mono _ _ _ (fun evs env2 h2 F2 H2 vs E2 R2 V2 => ?_) h1⟩) q⟩
  refine h2 F2 H2 (v :: vs) (E1.trans E2) R2 (.cons (V1.move E2) (V2.back E1.there) fun p o e1 e2 nw => ?_)
  have z := V2.newNone nw
  subst e1 e2
  obtain ⟨q, e, _, r, _⟩ := V1
  cases e
  obtain ⟨u, hu⟩ := r.some
  rw [z] at hu; cases hu
def asD : List Ev → (List Dt → Prop) → Prop
  | [], Q => Q []
  | .dat d :: r, Q => asD r fun ds => Q (d :: ds)
  | _ :: _, _ => False
theorem asD_get : ∀ {evs : List Ev} {Q : List Dt → Prop}, asD evs Q → ∃ ds, evs = ds.map Ev.dat ∧ Q ds
  | [], _, h => ⟨[], rfl, h⟩
  | .dat d :: r, _, h => by
    obtain ⟨ds, e, q⟩ := asD_get (evs := r) h
    exact ⟨d :: ds, by rw [e]; rfl, q⟩
  | .var _ :: _, _, h => h.elim
  | .new _ :: _, _, h => h.elim
theorem asD_mono : ∀ {evs : List Ev} {Q Q' : List Dt → Prop}, (∀ ds, Q ds → Q' ds) → asD evs Q → asD evs Q'
  | [], _, _, i, h => i _ h
  | .dat d :: r, _, _, i, h => asD_mono (evs := r) (fun ds q => i _ q) h
  | .var _ :: _, _, _, _, h => h.elim
  | .new _ :: _, _, _, _, h => h.elim
theorem RepA.dats {K : PySem.W.Frag} {F H H0 : Hp} {σ : L2.St} {env : Dn} : ∀ {vs : List V} {ds : List Dt}, RepA K F H σ env H0 vs (ds.map Ev.dat) → RpAll K F vs ds
  | _, [], h => by cases h; exact .nil
  | _, d :: ds, h => by
    cases h with
    | cons h t _ => exact .cons h (RepA.dats t)
def lenOk (n : Nat) : Prop := n ≤ sizeLine
theorem lenOk_lit {n : Nat} (h : n ≤ 1000) : lenOk n := Nat.le_trans h (by decide)
/-- a new tuple, its object told -/
theorem lay_tup {pins : List (Addr × Obj)} {σ : L2.St} {H : Hp} {s : Shared} {xs : List V} {us : List Value} {Q : VK} (I : Inv X pins σ H s) (r : Vals xs us) (hz : xs.length ≤ sizeLine) (q : ∀ p o, H p = none → TObj o → Q (.ref p) (upd H p (.frz o (.tup xs)))) :
    EP X pins σ Q (.ref s.heap.objs.size) { s with heap := s.heap.push { cls := .type "tuple", data := .seq us.toArray } } := by
  have hf : H s.heap.objs.size = none := I.hok.fresh (Nat.le_refl _)
  refine ⟨.ref s.heap.objs.size, upd H s.heap.objs.size (.frz { cls := .type "tuple", data := .seq us.toArray } (.tup xs)), ?_, rfl, q _ _ hf ⟨rfl, rfl⟩⟩
  refine I.laid (t' := s.toks) (fun b u e => Heap.get?_push_of_some _ e) (Nat.le_refl _) ⟨Heap.get?_push_size _ rfl, ?_⟩
  exact ⟨hz, us, r, PyProof.Rows.IsTup.new _ _⟩
def tTupF (t : TA) : TE := fun σ H Q => t σ H fun xs H1 => xs.length ≤ sizeLine ∧ ∀ p o, H1 p = none → TObj o → Q (.ref p) (upd H1 p (.frz o (.tup xs)))
theorem pe_tupF {es : List Expr} {t : TA} {x1} {pos : Pos} (h : PA X es t) : PE X (.Tuple es x1 pos) (tTupF t) := by
  constructor
  intro pins s σ H Q I hq
  apply wpAny_Tuple_spliced
  refine thn (h.run pos pins s σ H _ I hq) ?_
  rintro us s1 ⟨xs, H1, I1, r, z, q⟩
  exact ⟨by rw [← r.length]; exact z, lay_tup I1 r z q⟩
def kTup (t : DTa) : DT := fun env Q => t env fun evs env1 => asD evs fun ds => lenOk ds.length ∧ Q (.dat (.tuple ds)) env1
theorem de_tup {es : List Expr} {t : DTa} {x1} {pos : Pos} (h : DA X es t) : DE X (.Tuple es x1 pos) (kTup t) := by
  refine ⟨fun env Q Q' i q => h.mono _ _ _ (fun evs env1 q => asD_mono (fun ds q => ⟨q.1, i _ _ q.2⟩) q) q, (pe_tupF h.run).mono fun σ H Q => ?_⟩
  rintro ⟨F, env, R, q⟩
  refine ⟨F, env, R, h.mono _ _ _ (fun evs env1 q F1 H1 vs E1 R1 V1 => ?_) q⟩
  obtain ⟨ds, rfl, z, q⟩ := asD_get q
  have a := V1.dats
  refine ⟨by rw [a.length]; exact z, fun p o hp ho => ?_⟩
  obtain ⟨F2, E2, R2, r2⟩ := Res.frz R1 (Res.tup (K := X.K) hp ho a)
  exact q F2 _ _ (E1.trans E2) R2 r2

/-! ### a new list -/
abbrev DTl := Dn → (List Dt → Dn → Prop) → Prop
def MonoL (t : DTl) : Prop := ∀ (env : Dn) (Q Q' : List Dt → Dn → Prop), (∀ ev env', Q ev env' → Q' ev env') → t env Q → t env Q'
def tDl (K : PySem.W.Frag) (t : DTl) : TE := fun σ H Q => ∃ F env, Rep K F H σ env ∧ t env fun ds env' => ∀ F' H' p vs, Ext σ env F H σ env' F' H' → Rep K F' H' σ env' → F' p = none → H' p = some (.lst vs) → RpAll K F' vs ds → ¬ Ow σ env' p → H p = none → Q (.ref p) H'
structure DL (X : Cx) (e : Expr) (t : DTl) : Prop where
  mono : MonoL t
  run : PE X e (tDl X.K t)
def kLF (t : DTl) : DT := fun env Q => t env fun ds env' => Q (.dat (.list ds)) env'
def kLN (t : DTl) : DT := fun env Q => t env fun ds env' => Q (.new (.lst ds)) env'
theorem dl_F {e : Expr} {t : DTl} (h : DL X e t) : DE X e (kLF t) := by
  refine ⟨fun env Q Q' i q => h.mono _ _ _ (fun ds env1 q => i _ _ q) q, h.run.mono fun σ H Q => ?_⟩
  rintro ⟨F, env, R, q⟩
  refine ⟨F, env, R, h.mono _ _ _ (fun ds env1 q F1 H1 p vs E1 R1 hf hp a n h0 => ?_) q⟩
  have R2 := R1.seal hf hp n
  refine q (upd F1 p (.lst vs)) H1 (.ref p) ⟨E1.same.trans (same_upd hf), E1.keep, E1.there, fun b u z zn => ?_, E1.ow⟩ R2 (.lst upd_same (dpAll_same (same_upd hf) a))
  by_cases e : b = p
  · subst e; exact .inl h0
  · rw [upd_ne e] at z; exact E1.new b u z zn
theorem dl_N {e : Expr} {t : DTl} (h : DL X e t) : DE X e (kLN t) := by
  refine ⟨fun env Q Q' i q => h.mono _ _ _ (fun ds env1 q => i _ _ q) q, h.run.mono fun σ H Q => ?_⟩
  rintro ⟨F, env, R, q⟩
  refine ⟨F, env, R, h.mono _ _ _ (fun ds env1 q F1 H1 p vs E1 R1 hf hp a n h0 => ?_) q⟩
  exact q F1 H1 (.ref p) E1 R1 ⟨p, rfl, hf, ⟨vs, hp, a⟩, n, h0⟩
def kLst (t : DTa) : DTl := fun env Q => t env fun evs env1 => asD evs fun ds => lenOk ds.length ∧ Q ds env1
theorem dl_lst {es : List Expr} {t : DTa} {pos : Pos} (h : DA X es t) : DL X (.List es pos) (kLst t) := by
  refine ⟨fun env Q Q' i q => h.mono _ _ _ (fun evs env1 q => asD_mono (fun ds q => ⟨q.1, i _ _ q.2⟩) q) q, (pe_lst h.run).mono fun σ H Q => ?_⟩
  rintro ⟨F, env, R, q⟩
  refine ⟨F, env, R, h.mono _ _ _ (fun evs env1 q F1 H1 vs E1 R1 V1 => ?_) q⟩
  obtain ⟨ds, rfl, z, q⟩ := asD_get q
  have a := V1.dats
  refine ⟨by rw [a.length]; exact z, fun p hp => ?_⟩
  obtain ⟨R2, E2⟩ := R1.growN hp (.lst vs)
  refine q F1 _ p vs (E1.trans E2) R2 (R1.fnone hp) upd_same a (R1.not_ow hp) ?_
  cases e : H p with
  | none => rfl
  | some u =>
    obtain ⟨u', z⟩ := E1.there p u e
    rw [hp] at z; cases z

/-! ### operations by values -/
def LkOp (K : PySem.W.Frag) (r : R2) (f : Dt → Dt → Option Dt) : Prop := ∀ (F H : Hp) (x y : V) (dx dy d : Dt) (Q : VK), Same F H → Tp K F H x dx → Tp K F H y dy → f dx dy = some d → (∀ H' v, Res K F H H' v d → Q v H') → r x y H Q
def kOp (f : Dt → Dt → Option Dt) (ta tb : DT) : DT := fun env Q => ta env fun a env1 => tb env1 fun b env2 => wr (rs env2 a) fun dx => wr (rs env2 b) fun dy => wr (f dx dy) fun d => Q (.dat d) env2
theorem kOp_mono {f : Dt → Dt → Option Dt} {ta tb : DT} (ma : MonoD ta) (mb : MonoD tb) : MonoD (kOp f ta tb) := fun env Q Q' i q =>
  ma _ _ _ (fun a env1 q => mb _ _ _ (fun b env2 q => wr_mono (fun dx q => wr_mono (fun dy q => wr_mono (fun d q => i _ _ q) q) q) q) q) q
theorem kOp_run {a b : Expr} {ta tb : DT} {r : R2} {f : Dt → Dt → Option Dt} (lk : LkOp X.K r f) (ha : DE X a ta) (hb : DE X b tb) {σ : L2.St} {H : Hp} {Q : VK} (h : tD X.K (kOp f ta tb) σ H Q) : tOp r (tD X.K ta) (tD X.K tb) σ H Q := by
  obtain ⟨F, env, R, q⟩ := h
  refine ⟨F, env, R, ha.mono _ _ _ (fun ea env1 h1 F1 H1 x E1 R1 V1 => ⟨F1, env1, R1, hb.mono _ _ _ (fun eb env2 h2 F2 H2 y E2 R2 V2 => ?_) h1⟩) q⟩
  obtain ⟨dx, e1, h2⟩ := wr_get h2
  obtain ⟨dy, e2, h2⟩ := wr_get h2
  obtain ⟨d, e3, h2⟩ := wr_get h2
  refine lk F2 H2 x y dx dy d Q R2.sub (tp_of R2 (V1.move E2) e1) (tp_of R2 V2 e2) e3 fun H3 v r => ?_
  obtain ⟨F3, E3, R3, r3⟩ := Res.frz R2 r
  exact h2 F3 H3 v ((E1.trans E2).trans E3) R3 r3
theorem de_op {a b : Expr} {ta tb : DT} {r : R2} {f : Dt → Dt → Option Dt} {op : Operator} {pos : Pos} (ho : OpR X (binaryOp op) r) (lk : LkOp X.K r f) (ha : DE X a ta) (hb : DE X b tb) : DE X (.BinOp a op b pos) (kOp f ta tb) :=
  ⟨kOp_mono ha.mono hb.mono, (pe_op ho ha.run hb.run).mono fun _ _ _ h => kOp_run lk ha hb h⟩
theorem de_cmp {a b : Expr} {ta tb : DT} {r : R2} {f : Dt → Dt → Option Dt} {op : CmpOp} {pos : Pos} (ho : OpR X (compareOp op) r) (lk : LkOp X.K r f) (ha : DE X a ta) (hb : DE X b tb) (hm : behindInMarks op b = false) : DE X (.Compare a [op] [b] pos) (kOp f ta tb) :=
  ⟨kOp_mono ha.mono hb.mono, (pe_cmpR ho ha.run hb.run hm).mono fun _ _ _ h => kOp_run lk ha hb h⟩
def asB : Ev → (Bool → Prop) → Prop
  | .dat (.bool b), Q => Q b
  | _, _ => False
theorem asB_get {ev : Ev} {Q : Bool → Prop} (h : asB ev Q) : ∃ b, ev = .dat (.bool b) ∧ Q b := by
  unfold asB at h
  split at h
  · exact ⟨_, rfl, h⟩
  · exact h.elim
def kB (t : DT) : DTb := fun env Q => t env fun ev env1 => asB ev fun b => Q b env1
theorem kB_mono {t : DT} (m : MonoD t) : MonoB (kB t) := fun env Q Q' i q => m _ _ _ (fun ev env1 q => by
  obtain ⟨b, rfl, q⟩ := asB_get q
  exact i _ _ q) q
theorem tB_of {t : DT} (m : MonoD t) {σ : L2.St} {H : Hp} {Q : Bool → Hp → Prop} (h : tDb X.K (kB t) σ H Q) : tD X.K t σ H fun x H1 => ∃ k, x = .bl k ∧ Q k H1 := by
  obtain ⟨F, env, R, q⟩ := h
  refine ⟨F, env, R, m _ _ _ (fun ev env1 q F1 H1 v E1 R1 V1 => ?_) q⟩
  obtain ⟨b, rfl, q⟩ := asB_get q
  have V1 : Rp X.K F1 v (.bool b) := V1
  cases V1
  exact ⟨b, rfl, q F1 H1 E1 R1⟩
theorem db_cmp {a b : Expr} {ta tb : DT} {r : R2} {f : Dt → Dt → Option Dt} {op : CmpOp} {pos : Pos} (ho : OpR X (compareOp op) r) (lk : LkOp X.K r f) (ha : DE X a ta) (hb : DE X b tb) (hm : behindInMarks op b = false) : DB X (.Compare a [op] [b] pos) (kB (kOp f ta tb)) := by
  have m : MonoD (kOp f ta tb) := kOp_mono ha.mono hb.mono
  exact ⟨kB_mono m, (pt_cmpR ho ha.run hb.run hm).mono fun _ _ _ h => kOp_run lk ha hb (tB_of m h)⟩
theorem db_val {e : Expr} {t : DT} (h : DE X e t) (he : ∀ whole, isTrue e X.env whole = (do let v ← whole; standAt e.pos; holding [v] (truthy v)) := by intro _; rfl) : DB X e (kB t) :=
  ⟨kB_mono h.mono, (pt_val h.run he).mono fun _ _ _ q => tB_of h.mono q⟩

/-! ### and, or, not; a if t else b -/
def kAndB (t u : DTb) : DTb := fun env Q => t env fun b env1 => if b = true then u env1 Q else Q false env1
def kOrB (t u : DTb) : DTb := fun env Q => t env fun b env1 => if b = true then Q true env1 else u env1 Q
def kNotB (t : DTb) : DTb := fun env Q => t env fun b env1 => Q (!b) env1
theorem kAndB_mono {t u : DTb} (m : MonoB t) (n : MonoB u) : MonoB (kAndB t u) := fun env Q Q' i q => m _ _ _ (fun b env1 q => by
  cases b
  · exact i _ _ q
  · exact n _ _ _ i q) q
theorem kOrB_mono {t u : DTb} (m : MonoB t) (n : MonoB u) : MonoB (kOrB t u) := fun env Q Q' i q => m _ _ _ (fun b env1 q => by
  cases b
  · exact n _ _ _ i q
  · exact i _ _ q) q
theorem dw_and1 {a : Expr} {t : DTb} {pos : Pos} (h : DB X a t) : DW X (.BoolOp .And [a] pos) t := ⟨h.mono, pw_and1 h.run⟩
theorem dw_or1 {a : Expr} {t : DTb} {pos : Pos} (h : DB X a t) : DW X (.BoolOp .Or [a] pos) t := ⟨h.mono, pw_or1 h.run⟩
theorem dw_and {a b : Expr} {rest : List Expr} {t u : DTb} {pos : Pos} (h : DB X a t) (g : DW X (.BoolOp .And (b :: rest) pos) u) : DW X (.BoolOp .And (a :: b :: rest) pos) (kAndB t u) := by
  refine ⟨kAndB_mono h.mono g.mono, (pw_and h.run g.run).mono fun σ H Q => ?_⟩
  rintro ⟨F, env, R, q⟩
  refine ⟨F, env, R, h.mono _ _ _ (fun b env1 q F1 H1 E1 R1 => ?_) q⟩
  cases b
  · exact q F1 H1 E1 R1
  · exact ⟨F1, env1, R1, g.mono _ _ _ (fun b2 env2 q F2 H2 E2 R2 => q F2 H2 (E1.trans E2) R2) q⟩
theorem dw_or {a b : Expr} {rest : List Expr} {t u : DTb} {pos : Pos} (h : DB X a t) (g : DW X (.BoolOp .Or (b :: rest) pos) u) : DW X (.BoolOp .Or (a :: b :: rest) pos) (kOrB t u) := by
  refine ⟨kOrB_mono h.mono g.mono, (pw_or h.run g.run).mono fun σ H Q => ?_⟩
  rintro ⟨F, env, R, q⟩
  refine ⟨F, env, R, h.mono _ _ _ (fun b env1 q F1 H1 E1 R1 => ?_) q⟩
  cases b
  · exact ⟨F1, env1, R1, g.mono _ _ _ (fun b2 env2 q F2 H2 E2 R2 => q F2 H2 (E1.trans E2) R2) q⟩
  · exact q F1 H1 E1 R1
theorem dw_b {e : Expr} {t : DTb} (h : DW X e t) : DB X e t := ⟨h.mono, h.run.pt⟩
theorem db_not {a : Expr} {t : DTb} {pos : Pos} (h : DB X a t) : DB X (.UnaryOp .Not a pos) (kNotB t) := by
  refine ⟨fun env Q Q' i q => h.mono _ _ _ (fun b env1 q => i _ _ q) q, (pt_not h.run).mono fun σ H Q => ?_⟩
  rintro ⟨F, env, R, q⟩
  exact ⟨F, env, R, q⟩
def kIf (t : DTb) (ta tb : DT) : DT := fun env Q => t env fun b env1 => if b = true then ta env1 Q else tb env1 Q
theorem de_if {c a b : Expr} {t : DTb} {ta tb : DT} {pos : Pos} (h : DB X c t) (ha : DE X a ta) (hb : DE X b tb) : DE X (.IfExp c a b pos) (kIf t ta tb) := by
  refine ⟨fun env Q Q' i q => h.mono _ _ _ (fun b env1 q => ?_) q, (pe_ifExp h.run ha.run hb.run).mono fun σ H Q => ?_⟩
  · cases b
    · exact hb.mono _ _ _ i q
    · exact ha.mono _ _ _ i q
  · rintro ⟨F, env, R, q⟩
    refine ⟨F, env, R, h.mono _ _ _ (fun b env1 q F1 H1 E1 R1 => ?_) q⟩
    cases b
    · exact ⟨F1, env1, R1, hb.mono _ _ _ (fun b2 env2 q F2 H2 v E2 R2 V2 => q F2 H2 v (E1.trans E2) R2 (V2.back E1.there)) q⟩
    · exact ⟨F1, env1, R1, ha.mono _ _ _ (fun b2 env2 q F2 H2 v E2 R2 V2 => q F2 H2 v (E1.trans E2) R2 (V2.back E1.there)) q⟩
/-- as values: all but the last are truths -/
def kAndV (t u : DT) : DT := fun env Q => t env fun ev env1 => asB ev fun b => if b = true then u env1 Q else Q (.dat (.bool false)) env1
def kOrV (t u : DT) : DT := fun env Q => t env fun ev env1 => asB ev fun b => if b = true then Q (.dat (.bool true)) env1 else u env1 Q
def kNotV (t : DT) : DT := fun env Q => t env fun ev env1 => asB ev fun b => Q (.dat (.bool (!b))) env1
theorem de_one {op} {a : Expr} {t : DT} {pos : Pos} (h : DE X a t) : DE X (.BoolOp op [a] pos) t := ⟨h.mono, pe_one h.run⟩
theorem de_and {a b : Expr} {rest : List Expr} {t u : DT} {pos : Pos} (h : DE X a t) (g : DE X (.BoolOp .And (b :: rest) pos) u) : DE X (.BoolOp .And (a :: b :: rest) pos) (kAndV t u) := by
  refine ⟨fun env Q Q' i q => h.mono _ _ _ (fun ev env1 q => ?_) q, (pe_and h.run g.run).mono fun σ H Q => ?_⟩
  · obtain ⟨b, rfl, q⟩ := asB_get q
    cases b
    · exact i _ _ q
    · exact g.mono _ _ _ i q
  · rintro ⟨F, env, R, q⟩
    refine ⟨F, env, R, h.mono _ _ _ (fun ev env1 q F1 H1 v E1 R1 V1 => ?_) q⟩
    obtain ⟨b, rfl, q⟩ := asB_get q
    have V1 : Rp X.K F1 v (.bool b) := V1
    cases V1
    refine ⟨b, rfl, ?_⟩
    cases b
    · exact q F1 H1 (.bl false) E1 R1 (.bl false)
    · exact ⟨F1, env1, R1, g.mono _ _ _ (fun b2 env2 q F2 H2 v E2 R2 V2 => q F2 H2 v (E1.trans E2) R2 (V2.back E1.there)) q⟩
theorem de_or {a b : Expr} {rest : List Expr} {t u : DT} {pos : Pos} (h : DE X a t) (g : DE X (.BoolOp .Or (b :: rest) pos) u) : DE X (.BoolOp .Or (a :: b :: rest) pos) (kOrV t u) := by
  refine ⟨fun env Q Q' i q => h.mono _ _ _ (fun ev env1 q => ?_) q, (pe_or h.run g.run).mono fun σ H Q => ?_⟩
  · obtain ⟨b, rfl, q⟩ := asB_get q
    cases b
    · exact g.mono _ _ _ i q
    · exact i _ _ q
  · rintro ⟨F, env, R, q⟩
    refine ⟨F, env, R, h.mono _ _ _ (fun ev env1 q F1 H1 v E1 R1 V1 => ?_) q⟩
    obtain ⟨b, rfl, q⟩ := asB_get q
    have V1 : Rp X.K F1 v (.bool b) := V1
    cases V1
    refine ⟨b, rfl, ?_⟩
    cases b
    · exact ⟨F1, env1, R1, g.mono _ _ _ (fun b2 env2 q F2 H2 v E2 R2 V2 => q F2 H2 v (E1.trans E2) R2 (V2.back E1.there)) q⟩
    · exact q F1 H1 (.bl true) E1 R1 (.bl true)
theorem de_not {a : Expr} {t : DT} {pos : Pos} (h : DE X a t) : DE X (.UnaryOp .Not a pos) (kNotV t) := by
  refine ⟨fun env Q Q' i q => h.mono _ _ _ (fun ev env1 q => ?_) q, (pe_not h.run).mono fun σ H Q => ?_⟩
  · obtain ⟨b, rfl, q⟩ := asB_get q
    exact i _ _ q
  · rintro ⟨F, env, R, q⟩
    refine ⟨F, env, R, h.mono _ _ _ (fun ev env1 q F1 H1 v E1 R1 V1 => ?_) q⟩
    obtain ⟨b, rfl, q⟩ := asB_get q
    have V1 : Rp X.K F1 v (.bool b) := V1
    cases V1
    exact ⟨b, rfl, q F1 H1 (.bl (!b)) E1 R1 (.bl (!b))⟩
end
open PySem PySem.Spec L2

/-! ### operators on data -/
def addD : Dt → Dt → Option Dt
  | .int a, .int b => some (.int (a + b))
  | .str a, .str b => if a.length + b.length ≤ sizeLine then some (.str (a ++ b)) else none
  | .list a, .list b => if a.length + b.length ≤ sizeLine then some (.list (a ++ b)) else none
  | .tuple a, .tuple b => if a.length + b.length ≤ sizeLine then some (.tuple (a ++ b)) else none
  | _, _ => none
def intD (g : Int → Int → Int) : Dt → Dt → Option Dt
  | .int a, .int b => some (.int (g a b))
  | _, _ => none
def intDc (C : Int → Int → Prop) [∀ a b, Decidable (C a b)] (g : Int → Int → Int) : Dt → Dt → Option Dt
  | .int a, .int b => if C a b then some (.int (g a b)) else none
  | _, _ => none
def cmpD (g : Int → Int → Bool) : Dt → Dt → Option Dt
  | .int a, .int b => some (.bool (g a b))
  | _, _ => none
instance (i j : Int) : Decidable (CMulW i j) := by unfold CMulW; infer_instance
instance (i j : Int) : Decidable (CMul i j) := by unfold CMul; infer_instance
def CMulB (i j : Int) : Prop := CMul i j ∨ CMulW i j
instance (i j : Int) : Decidable (CMulB i j) := by unfold CMulB; infer_instance
instance (i j : Int) : Decidable (CDiv i j) := by unfold CDiv; infer_instance
instance (i j : Int) : Decidable (CPow i j) := by unfold CPow; infer_instance
abbrev subD := intD fun a b => a - b
abbrev mulD := intDc CMulB fun a b => a * b
abbrev modD := intDc (fun _ b => 0 < b) fun a b => a % b
abbrev fdvD := intDc CDiv fun a b => a / b
abbrev powD := intDc CPow fun a b => a ^ b.toNat
abbrev ltD := cmpD fun a b => decide (a < b)
abbrev leD := cmpD fun a b => decide (a ≤ b)
abbrev gtD := cmpD fun a b => decide (b < a)
abbrev geD := cmpD fun a b => decide (b ≤ a)
def strStr : Dt → Dt → Bool
  | .str _, .str _ => true
  | _, _ => false
def eqOk (d e : Dt) : Bool := strStr d e || (d.canLay0 && e.canLay0 && decide (min d.depth e.depth ≤ 64))
def eqD (d e : Dt) : Option Dt := if eqOk d e = true then some (.bool (PyData.eqv d e)) else none
def neD (d e : Dt) : Option Dt := if eqOk d e = true then some (.bool (!PyData.eqv d e)) else none
def isND (d e : Dt) : Option Dt := match d, e with
  | .none, .none => some (.bool true)
  | _, .none => some (.bool false)
  | _, _ => none
def notND (d e : Dt) : Option Dt := match d, e with
  | .none, .none => some (.bool false)
  | _, .none => some (.bool true)
  | _, _ => none
def flatD : Dt → Bool
  | .none | .bool _ | .int _ | .str _ => true
  | _ => false
def seqD : Dt → Option (List Dt)
  | .list ds | .tuple ds => some ds
  | _ => none
def memD (d : Dt) (ds : List Dt) : Bool := ds.any fun e => PyData.eqv e d
def inD (d e : Dt) : Option Dt := (seqD e).bind fun ds => if (flatD d && ds.all flatD) = true then some (.bool (memD d ds)) else none
def ninD (d e : Dt) : Option Dt := (seqD e).bind fun ds => if (flatD d && ds.all flatD) = true then some (.bool (!memD d ds)) else none

section
variable {X : Cx}
theorem lk_int {g : Int → Int → Int} : LkOp X.K (rI0 fun i j => .int (g i j)) (intD g) := by
  intro F H x y dx dy d Q sm tx ty e q
  unfold intD at e
  split at e
  · cases tx; cases ty; cases e
    exact ⟨_, _, rfl, rfl, q _ _ (.old (.int _))⟩
  · cases e
theorem lk_intc {C : Int → Int → Prop} [∀ a b, Decidable (C a b)] {g : Int → Int → Int} : LkOp X.K (rI C fun i j => .int (g i j)) (intDc C g) := by
  intro F H x y dx dy d Q sm tx ty e q
  unfold intDc at e
  split at e
  · split at e
    · rename_i hc
      cases tx; cases ty; cases e
      exact ⟨_, _, rfl, rfl, hc, q _ _ (.old (.int _))⟩
    · cases e
  · cases e
theorem lk_cmp {g : Int → Int → Bool} : LkOp X.K (rI0 fun i j => .bl (g i j)) (cmpD g) := by
  intro F H x y dx dy d Q sm tx ty e q
  unfold cmpD at e
  split at e
  · cases tx; cases ty; cases e
    exact ⟨_, _, rfl, rfl, q _ _ (.old (.bl _))⟩
  · cases e
/-- t + u: a tuple that is void gives the other one itself -/
theorem op_mulB : OpR X (binaryOp .Mult) (rI CMulB fun i j => .int (i * j)) := by
  intro pins s σ H x y v u Q I rx ry h
  obtain ⟨i, j, rfl, rfl, hc, q⟩ := h
  rcases hc with hc | hc
  · exact op_mul pins s σ H _ _ v u Q I rx ry ⟨i, j, rfl, rfl, hc, q⟩
  · exact op_mulW pins s σ H _ _ v u Q I rx ry ⟨i, j, rfl, rfl, hc, q⟩
def rCatF (K : PySem.W.Frag) : R2 := fun x y H Q => ∃ a b xs ys, x = .ref a ∧ y = .ref b ∧ SqT K H a xs ∧ SqT K H b ys ∧ xs.length + ys.length ≤ sizeLine ∧
  (xs = [] → Q (.ref b) H) ∧ (xs ≠ [] → ys = [] → Q (.ref a) H) ∧ (xs ≠ [] → ys ≠ [] → ∀ p o, H p = none → TObj o → Q (.ref p) (upd H p (.frz o (.tup (xs ++ ys)))))
theorem op_catF : OpR X (binaryOp .Add) (rCatF X.K) := by
  intro pins s σ H x y v u Q I rx ry h
  obtain ⟨a, b, xs, ys, rfl, rfl, ha, hb, hz, q0, q1, q2⟩ := h
  cases rx
  cases ry
  obtain ⟨its, r1, p1, _⟩ := I.tuple ha
  obtain ⟨its2, r2, p2, _⟩ := I.tuple hb
  by_cases hx : xs = []
  · subst hx
    cases r1
    exact cat_tup0 p1 p2 ⟨.ref b, H, I, rfl, q0 rfl⟩
  · apply HT.cat_tup p1 p2 (fun z => hx (r1.nil_iff.mp z))
    · exact fun z => ⟨.ref a, H, I, rfl, q1 hx (r2.nil_iff.mp z)⟩
    · exact fun z => lay_tup I (r1.append r2) (by rw [List.length_append]; exact hz) (q2 hx fun w => z (r2.nil_iff.mpr w))
    · rw [← r1.length, ← r2.length]; exact hz
def rAddD (K : PySem.W.Frag) : R2 := fun x y H Q => (rI0 (fun i j => .int (i + j)) x y H Q) ∨ (∃ i j, x = .str i ∧ y = .str j ∧ i.length + j.length ≤ sizeLine ∧ Q (.str (i ++ j)) H) ∨ rCat x y H Q ∨ rCatF K x y H Q
theorem op_addD : OpR X (binaryOp .Add) (rAddD X.K) := op_add.or (op_add_str.or (op_cat.or op_catF))
theorem lk_add : LkOp X.K (rAddD X.K) addD := by
  intro F H x y dx dy d Q sm tx ty e q
  unfold addD at e
  split at e
  · cases tx; cases ty; cases e
    exact .inl ⟨_, _, rfl, rfl, q _ _ (.old (.int _))⟩
  · split at e
    · rename_i hz
      cases tx; cases ty; cases e
      exact .inr (.inl ⟨_, _, rfl, rfl, hz, q _ _ (.old (.str _))⟩)
    · cases e
  · split at e
    · rename_i hz
      cases tx with
      | lst h1 a1 =>
        cases ty with
        | lst h2 a2 =>
          cases e
          refine .inr (.inr (.inl ⟨_, _, _, _, rfl, rfl, h1, h2, by rw [a1.length, a2.length]; exact hz, fun p hp => q _ _ (.lst hp (a1.append a2))⟩))
    · cases e
  · split at e
    · rename_i hz
      cases tx with
      | tup h1 a1 =>
        cases ty with
        | tup h2 a2 =>
          cases e
          refine .inr (.inr (.inr ⟨_, _, _, _, rfl, rfl, (seqT_same sm h1).sq, (seqT_same sm h2).sq, by rw [a1.length, a2.length]; exact hz, fun z => ?_, fun _ z => ?_, fun _ _ p o hp ho => q _ _ (.tup hp ho (a1.append a2))⟩))
          · subst z
            cases a1
            exact q _ _ (.old (.tup h2 a2))
          · subst z
            cases a2
            refine q _ _ (.old ?_)
            rw [List.append_nil]
            exact .tup h1 a1
    · cases e
  · cases e
theorem eqOk_get {d e : Dt} (h : eqOk d e = true) : (∃ x y, d = .str x ∧ e = .str y) ∨ (d.canLay0 = true ∧ e.canLay0 = true ∧ min d.depth e.depth ≤ 64) := by
  unfold eqOk at h
  simp only [Bool.or_eq_true, Bool.and_eq_true, decide_eq_true_eq] at h
  rcases h with h | h
  · left
    unfold strStr at h
    split at h
    · exact ⟨_, _, rfl, rfl⟩
    · cases h
  · exact .inr ⟨h.1.1, h.1.2, h.2⟩
def rEqE (K : PySem.W.Frag) (neg : Bool) : R2 := fun x y H Q => ∃ d e, Dp K H x d ∧ Dp K H y e ∧ eqOk d e = true ∧ Q (.bl (if neg then !PyData.eqv d e else PyData.eqv d e)) H
theorem op_eqE (hu : X.A.units + 64 < cLine) : OpR X (compareOp .Eq) (rEqE X.K false) := by
  intro pins s σ H x y v u Q I rx ry h
  obtain ⟨d, e, hd, he, ok, q⟩ := h
  rcases eqOk_get ok with ⟨a, b, rfl, rfl⟩ | ⟨c1, c2, c3⟩
  · cases hd; cases he
    refine op_eq pins s σ H _ _ v u Q I rx ry ⟨rfl, ?_⟩
    rw [dec_str]
    simpa [PyData.eqv] using q
  obtain ⟨as, r1⟩ := Dp.reads I d x v hd rx
  obtain ⟨bs, r2⟩ := Dp.reads I e y u he ry
  exact SeqAt.compareEq_reads r1 r2 c1 c2 (by omega) ⟨.bl _, H, I, rfl, q⟩
theorem op_neE (hu : X.A.units + 64 < cLine) : OpR X (compareOp .NotEq) (rEqE X.K true) := by
  intro pins s σ H x y v u Q I rx ry h
  obtain ⟨d, e, hd, he, ok, q⟩ := h
  rcases eqOk_get ok with ⟨a, b, rfl, rfl⟩ | ⟨c1, c2, c3⟩
  · cases hd; cases he
    refine op_ne pins s σ H _ _ v u Q I rx ry ⟨rfl, ?_⟩
    rw [dec_str]
    simpa [PyData.eqv] using q
  obtain ⟨as, r1⟩ := Dp.reads I d x v hd rx
  obtain ⟨bs, r2⟩ := Dp.reads I e y u he ry
  exact SeqAt.compareNe_reads r1 r2 c1 c2 (by omega) ⟨.bl _, H, I, rfl, q⟩
theorem lk_eq : LkOp X.K (rEqE X.K false) eqD := by
  intro F H x y dx dy d Q sm tx ty e q
  unfold eqD at e
  split at e
  · rename_i ok
    cases e
    exact ⟨dx, dy, (tx.rp sm).dp, (ty.rp sm).dp, ok, q _ _ (.old (.bl _))⟩
  · cases e
theorem lk_ne : LkOp X.K (rEqE X.K true) neD := by
  intro F H x y dx dy d Q sm tx ty e q
  unfold neD at e
  split at e
  · rename_i ok
    cases e
    exact ⟨dx, dy, (tx.rp sm).dp, (ty.rp sm).dp, ok, q _ _ (.old (.bl _))⟩
  · cases e
theorem lk_isN : LkOp X.K (fun x y H Q => y = .non ∧ Q (.bl (decide (x = .non))) H) isND := by
  intro F H x y dx dy d Q sm tx ty e q
  unfold isND at e
  split at e
  · cases tx; cases ty; cases e
    exact ⟨rfl, q _ _ (.old (.bl _))⟩
  · rename_i hn
    cases ty; cases e
    refine ⟨rfl, ?_⟩
    have : ¬ x = .non := fun z => by subst z; cases tx; exact hn rfl
    rw [decide_eq_false this]
    exact q _ _ (.old (.bl _))
  · cases e
theorem lk_notN : LkOp X.K (fun x y H Q => y = .non ∧ Q (.bl (!decide (x = .non))) H) notND := by
  intro F H x y dx dy d Q sm tx ty e q
  unfold notND at e
  split at e
  · cases tx; cases ty; cases e
    exact ⟨rfl, q _ _ (.old (.bl _))⟩
  · rename_i hn
    cases ty; cases e
    refine ⟨rfl, ?_⟩
    have : ¬ x = .non := fun z => by subst z; cases tx; exact hn rfl
    rw [decide_eq_false this]
    exact q _ _ (.old (.bl _))
  · cases e
theorem flat_tp {K : PySem.W.Frag} {F H : Hp} {v : V} {d : Dt} (h : Tp K F H v d) (f : flatD d = true) : flatV v = true ∧ Rp K F v d := by
  cases h with
  | non => exact ⟨rfl, .non⟩
  | bl b => exact ⟨rfl, .bl b⟩
  | int b => exact ⟨rfl, .int b⟩
  | str b => exact ⟨rfl, .str b⟩
  | lst _ _ => exact absurd f (by simp [flatD])
  | tup _ _ => exact absurd f (by simp [flatD])
theorem flat_eqv {K : PySem.W.Frag} {F : Hp} {v w : V} {d e : Dt} (h : Rp K F v d) (g : Rp K F w e) (fd : flatD d = true) (fe : flatD e = true) : eqV v w = PyData.eqv d e ∧ flatV v = true := by
  cases h <;> cases g <;> first | exact ⟨rfl, rfl⟩ | (exact absurd fd (by simp [flatD])) | (exact absurd fe (by simp [flatD])) | (refine ⟨?_, rfl⟩; simp [eqV, PyData.eqv])
theorem flat_in {K : PySem.W.Frag} {F : Hp} {w : V} {e : Dt} (g : Rp K F w e) (fe : flatD e = true) : ∀ {vs : List V} {ds : List Dt}, RpAll K F vs ds → ds.all flatD = true → inV w vs = memD e ds ∧ vs.all flatV = true
  | _, _, .nil, _ => ⟨rfl, rfl⟩
  | _, _, .cons h t, f => by
    simp only [List.all_cons, Bool.and_eq_true] at f
    obtain ⟨e1, e2⟩ := flat_eqv h g f.1 fe
    obtain ⟨e3, e4⟩ := flat_in g fe t f.2
    unfold inV memD at e3 ⊢
    simp only [List.any_cons, List.all_cons, Bool.and_eq_true]
    rw [e1, e3]
    exact ⟨rfl, e2, e4⟩
theorem lk_inG {neg : Bool} {f : Dt → Dt → Option Dt} (hf : ∀ d e, f d e = (seqD e).bind fun ds => if (flatD d && ds.all flatD) = true then some (.bool (if neg then !memD d ds else memD d ds)) else none) : LkOp X.K (rIn X.K neg) f := by
  intro F H x y dx dy d Q sm tx ty e q
  rw [hf] at e
  cases ty with
  | lst h a =>
    simp only [seqD, Option.bind_some] at e
    split at e
    · rename_i ok
      simp only [Bool.and_eq_true] at ok
      cases e
      obtain ⟨z1, z2⟩ := flat_tp tx ok.1
      obtain ⟨z3, z4⟩ := flat_in z2 ok.1 a ok.2
      refine ⟨_, _, rfl, .inl (SqL.of h), z1, z4, ?_⟩
      rw [z3]
      exact q _ _ (.old (.bl _))
    · cases e
  | tup h a =>
    simp only [seqD, Option.bind_some] at e
    split at e
    · rename_i ok
      simp only [Bool.and_eq_true] at ok
      cases e
      obtain ⟨z1, z2⟩ := flat_tp tx ok.1
      obtain ⟨z3, z4⟩ := flat_in z2 ok.1 a ok.2
      refine ⟨_, _, rfl, .inr (seqT_same sm h).sq, z1, z4, ?_⟩
      rw [z3]
      exact q _ _ (.old (.bl _))
    · cases e
  | _ => cases e
theorem lk_in : LkOp X.K (rIn X.K false) inD := lk_inG fun _ _ => rfl
theorem lk_nin : LkOp X.K (rIn X.K true) ninD := lk_inG fun _ _ => rfl

/-! ### the forms -/
variable {a b : Expr} {ta tb : DT} {pos : Pos}
theorem de_add (ha : DE X a ta) (hb : DE X b tb) : DE X (.BinOp a .Add b pos) (kOp addD ta tb) := de_op op_addD lk_add ha hb
theorem de_sub (ha : DE X a ta) (hb : DE X b tb) : DE X (.BinOp a .Sub b pos) (kOp subD ta tb) := de_op op_sub lk_int ha hb
theorem de_mul (ha : DE X a ta) (hb : DE X b tb) : DE X (.BinOp a .Mult b pos) (kOp mulD ta tb) := de_op op_mulB lk_intc ha hb
theorem de_mod (ha : DE X a ta) (hb : DE X b tb) : DE X (.BinOp a .Mod b pos) (kOp modD ta tb) := de_op op_mod lk_intc ha hb
theorem de_fdv (ha : DE X a ta) (hb : DE X b tb) : DE X (.BinOp a .FloorDiv b pos) (kOp fdvD ta tb) := de_op op_fdiv lk_intc ha hb
theorem de_pow (ha : DE X a ta) (hb : DE X b tb) : DE X (.BinOp a .Pow b pos) (kOp powD ta tb) := de_op op_pow lk_intc ha hb
theorem de_lt (ha : DE X a ta) (hb : DE X b tb) : DE X (.Compare a [.Lt] [b] pos) (kOp ltD ta tb) := de_cmp op_lt lk_cmp ha hb (nomark _)
theorem de_le (ha : DE X a ta) (hb : DE X b tb) : DE X (.Compare a [.LtE] [b] pos) (kOp leD ta tb) := de_cmp op_le lk_cmp ha hb (nomark _)
theorem de_gt (ha : DE X a ta) (hb : DE X b tb) : DE X (.Compare a [.Gt] [b] pos) (kOp gtD ta tb) := de_cmp op_gt lk_cmp ha hb (nomark _)
theorem de_ge (ha : DE X a ta) (hb : DE X b tb) : DE X (.Compare a [.GtE] [b] pos) (kOp geD ta tb) := de_cmp op_ge lk_cmp ha hb (nomark _)
theorem de_eq (hu : X.A.units + 64 < cLine) (ha : DE X a ta) (hb : DE X b tb) : DE X (.Compare a [.Eq] [b] pos) (kOp eqD ta tb) := de_cmp (op_eqE hu) lk_eq ha hb (nomark _)
theorem de_ne (hu : X.A.units + 64 < cLine) (ha : DE X a ta) (hb : DE X b tb) : DE X (.Compare a [.NotEq] [b] pos) (kOp neD ta tb) := de_cmp (op_neE hu) lk_ne ha hb (nomark _)
theorem de_isN (ha : DE X a ta) (hb : DE X b tb) : DE X (.Compare a [.Is] [b] pos) (kOp isND ta tb) := de_cmp op_isN lk_isN ha hb (nomark _)
theorem de_notN (ha : DE X a ta) (hb : DE X b tb) : DE X (.Compare a [.IsNot] [b] pos) (kOp notND ta tb) := de_cmp op_notN lk_notN ha hb (nomark _)
theorem de_in (ha : DE X a ta) (hb : DE X b tb) (hm : behindInMarks .In b = false := by rfl) : DE X (.Compare a [.In] [b] pos) (kOp inD ta tb) := de_cmp op_in_seq lk_in ha hb hm
theorem de_nin (ha : DE X a ta) (hb : DE X b tb) (hm : behindInMarks .NotIn b = false := by rfl) : DE X (.Compare a [.NotIn] [b] pos) (kOp ninD ta tb) := de_cmp op_notIn_seq lk_nin ha hb hm
theorem db_lt (ha : DE X a ta) (hb : DE X b tb) : DB X (.Compare a [.Lt] [b] pos) (kB (kOp ltD ta tb)) := db_cmp op_lt lk_cmp ha hb (nomark _)
theorem db_le (ha : DE X a ta) (hb : DE X b tb) : DB X (.Compare a [.LtE] [b] pos) (kB (kOp leD ta tb)) := db_cmp op_le lk_cmp ha hb (nomark _)
theorem db_gt (ha : DE X a ta) (hb : DE X b tb) : DB X (.Compare a [.Gt] [b] pos) (kB (kOp gtD ta tb)) := db_cmp op_gt lk_cmp ha hb (nomark _)
theorem db_ge (ha : DE X a ta) (hb : DE X b tb) : DB X (.Compare a [.GtE] [b] pos) (kB (kOp geD ta tb)) := db_cmp op_ge lk_cmp ha hb (nomark _)
theorem db_eq (hu : X.A.units + 64 < cLine) (ha : DE X a ta) (hb : DE X b tb) : DB X (.Compare a [.Eq] [b] pos) (kB (kOp eqD ta tb)) := db_cmp (op_eqE hu) lk_eq ha hb (nomark _)
theorem db_ne (hu : X.A.units + 64 < cLine) (ha : DE X a ta) (hb : DE X b tb) : DB X (.Compare a [.NotEq] [b] pos) (kB (kOp neD ta tb)) := db_cmp (op_neE hu) lk_ne ha hb (nomark _)
theorem db_isN (ha : DE X a ta) (hb : DE X b tb) : DB X (.Compare a [.Is] [b] pos) (kB (kOp isND ta tb)) := db_cmp op_isN lk_isN ha hb (nomark _)
theorem db_notN (ha : DE X a ta) (hb : DE X b tb) : DB X (.Compare a [.IsNot] [b] pos) (kB (kOp notND ta tb)) := db_cmp op_notN lk_notN ha hb (nomark _)
theorem db_in (ha : DE X a ta) (hb : DE X b tb) (hm : behindInMarks .In b = false := by rfl) : DB X (.Compare a [.In] [b] pos) (kB (kOp inD ta tb)) := db_cmp op_in_seq lk_in ha hb hm
theorem db_nin (ha : DE X a ta) (hb : DE X b tb) (hm : behindInMarks .NotIn b = false := by rfl) : DB X (.Compare a [.NotIn] [b] pos) (kB (kOp ninD ta tb)) := db_cmp op_notIn_seq lk_nin ha hb hm

/-! ### one operand -/
def LkUn (K : PySem.W.Frag) (r : V → Hp → VK → Prop) (f : Dt → Option Dt) : Prop := ∀ (F H : Hp) (x : V) (dx d : Dt) (Q : VK), Same F H → Tp K F H x dx → f dx = some d → (∀ H' v, Res K F H H' v d → Q v H') → r x H Q
def kUn (f : Dt → Option Dt) (ta : DT) : DT := fun env Q => ta env fun ea env1 => wr (rs env1 ea) fun dx => wr (f dx) fun d => Q (.dat d) env1
theorem kUn_mono {f : Dt → Option Dt} (m : MonoD ta) : MonoD (kUn f ta) := fun env Q Q' i q => m _ _ _ (fun ea env1 q => wr_mono (fun dx q => wr_mono (fun d q => i _ _ q) q) q) q
theorem kUn_run {r : V → Hp → VK → Prop} {f : Dt → Option Dt} (lk : LkUn X.K r f) (ha : DE X a ta) {σ : L2.St} {H : Hp} {Q : VK} (h : tD X.K (kUn f ta) σ H Q) : tUn r (tD X.K ta) σ H Q := by
  obtain ⟨F, env, R, q⟩ := h
  refine ⟨F, env, R, ha.mono _ _ _ (fun ea env1 h1 F1 H1 x E1 R1 V1 => ?_) q⟩
  obtain ⟨dx, e1, h2⟩ := wr_get h1
  obtain ⟨d, e3, h2⟩ := wr_get h2
  refine lk F1 H1 x dx d Q R1.sub (tp_of R1 V1 e1) e3 fun H3 v r => ?_
  obtain ⟨F3, E3, R3, r3⟩ := Res.frz R1 r
  exact h2 F3 H3 v (E1.trans E3) R3 r3
def negD : Dt → Option Dt
  | .int i => some (.int (-i))
  | _ => none
theorem de_neg (ha : DE X a ta) : DE X (.UnaryOp .USub a pos) (kUn negD ta) := by
  refine ⟨kUn_mono ha.mono, (pe_un un_neg ha.run).mono fun _ _ _ h => kUn_run ?_ ha h⟩
  intro F H x dx d Q sm tx e q
  unfold negD at e
  split at e
  · cases tx; cases e
    exact ⟨_, rfl, q _ _ (.old (.int _))⟩
  · cases e

/-! ### subscripts -/
def ixD : Dt → Dt → Option Dt
  | .list ds, .int i => atI ds i
  | .tuple ds, .int i => atI ds i
  | .str z, .int i => if z.length ≤ sizeLine then (atI z.cps.toList i).map fun c => .str ⟨#[c]⟩ else none
  | _, _ => none
def rIxD (K : PySem.W.Frag) : R2 := fun x y H Q => rIxL K x y H Q ∨ rIxT K x y H Q ∨ rIxS x y H Q
theorem ix_D : IxR X (rIxD X.K) := by
  intro value slice pins s σ H x y v u Q I rx ry h hs
  rcases h with h | h | h
  · exact ix_list value slice pins s σ H x y v u Q I rx ry h hs
  · exact ix_tup value slice pins s σ H x y v u Q I rx ry h hs
  · exact ix_str value slice pins s σ H x y v u Q I rx ry h hs
theorem atI_rp {K : PySem.W.Frag} {F : Hp} {vs : List V} {ds : List Dt} {i : Int} {d : Dt} (h : RpAll K F vs ds) (e : atI ds i = some d) : ∃ v, atI vs i = some v ∧ Rp K F v d := by
  unfold atI at e ⊢
  rw [h.length]
  cases q : ixN ds.length i with
  | none => rw [q] at e; cases e
  | some j =>
    rw [q] at e
    simp only [Option.bind_some] at e ⊢
    exact h.get e
theorem lk_ix : LkOp X.K (rIxD X.K) ixD := by
  intro F H x y dx dy d Q sm tx ty e q
  unfold ixD at e
  split at e
  · cases tx with
    | lst h r =>
      cases ty
      obtain ⟨v, e1, e2⟩ := atI_rp r e
      exact .inl ⟨_, _, _, v, rfl, rfl, SqL.of h, e1, q _ _ (.old e2)⟩
  · cases tx with
    | tup h r =>
      cases ty
      obtain ⟨v, e1, e2⟩ := atI_rp r e
      exact .inr (.inl ⟨_, _, _, v, rfl, rfl, (seqT_same sm h).sq, e1, q _ _ (.old e2)⟩)
  · split at e
    · rename_i hz
      cases tx; cases ty
      obtain ⟨c, e1, e2⟩ := Option.map_eq_some_iff.mp e
      subst e2
      exact .inr (.inr ⟨_, _, c, rfl, rfl, hz, e1, q _ _ (.old (.str _))⟩)
    · cases e
  · cases e
theorem de_ix (ha : DE X a ta) (hb : DE X b tb) (hs : PlainIx b := by exact fun _ _ => rfl) : DE X (.Subscript a b pos) (kOp ixD ta tb) :=
  ⟨kOp_mono ha.mono hb.mono, (pe_ix ix_D ha.run hb.run hs).mono fun _ _ _ h => kOp_run lk_ix ha hb h⟩

/-! ### calls of built-ins -/
def rsL (env : Dn) : List Ev → Option (List Dt)
  | [] => some []
  | e :: r => match rs env e, rsL env r with
    | some d, some ds => some (d :: ds)
    | _, _ => none
inductive TpAll (K : PySem.W.Frag) (F H : Hp) : List V → List Dt → Prop
  | nil : TpAll K F H [] []
  | cons {v : V} {vs : List V} {d : Dt} {ds : List Dt} : Tp K F H v d → TpAll K F H vs ds → TpAll K F H (v :: vs) (d :: ds)
theorem tpA_of {K : PySem.W.Frag} {F H H0 : Hp} {σ : L2.St} {env : Dn} (R : Rep K F H σ env) : ∀ {vs : List V} {es : List Ev} {ds : List Dt}, RepA K F H σ env H0 vs es → rsL env es = some ds → TpAll K F H vs ds
  | _, _, _, .nil, e => by cases e; exact .nil
  | _, e :: es, ds, .cons h t _, q => by
    unfold rsL at q
    split at q
    · rename_i d ds' e1 e2
      cases q
      exact .cons (tp_of R h e1) (tpA_of R t e2)
    · cases q
def LkC (K : PySem.W.Frag) (r : List V → Hp → VK → Prop) (f : List Dt → Option Dt) : Prop := ∀ (F H : Hp) (vs : List V) (ds : List Dt) (d : Dt) (Q : VK), Same F H → TpAll K F H vs ds → f ds = some d → (∀ H' v, Res K F H H' v d → Q v H') → r vs H Q
def kCall (f : List Dt → Option Dt) (t : DTa) : DT := fun env Q => t env fun evs env1 => wr (rsL env1 evs) fun ds => wr (f ds) fun d => Q (.dat d) env1
theorem kCall_mono {f : List Dt → Option Dt} {t : DTa} (m : MonoA t) : MonoD (kCall f t) := fun env Q Q' i q => m _ _ _ (fun evs env1 q => wr_mono (fun ds q => wr_mono (fun d q => i _ _ q) q) q) q
theorem kCall_run {es : List Expr} {r : List V → Hp → VK → Prop} {f : List Dt → Option Dt} {t : DTa} (lk : LkC X.K r f) (ha : DA X es t) {σ : L2.St} {H : Hp} {Q : VK} (h : tD X.K (kCall f t) σ H Q) : tCB r (tDa X.K t) σ H Q := by
  obtain ⟨F, env, R, q⟩ := h
  refine ⟨F, env, R, ha.mono _ _ _ (fun evs env1 h1 F1 H1 vs E1 R1 V1 => ?_) q⟩
  obtain ⟨ds, e1, h2⟩ := wr_get h1
  obtain ⟨d, e3, h2⟩ := wr_get h2
  refine lk F1 H1 vs ds d Q R1.sub (tpA_of R1 V1 e1) e3 fun H3 v r => ?_
  obtain ⟨F3, E3, R3, r3⟩ := Res.frz R1 r
  exact h2 F3 H3 v (E1.trans E3) R3 r3
theorem de_callB {e : Expr} {es : List Expr} {x : Str} {p : Pos} {id : String} {r : List V → Hp → VK → Prop} {f : List Dt → Option Dt} {t : DTa} (hc : CallR X (.builtin id) r) (lk : LkC X.K r f) (hg : Gl X x) (hm : X.mg x = none) (hv : bootBuiltins x = some (.builtin id)) (ha : DA X (e :: es) t)
    (hn : x ≠ "__name__" := by decide) (hdb : (x == ("__debug__" : Str)) = false := by decide) (he : starEach (e :: es) X.env = (false, eval e X.env) :: starEach es X.env := by rfl) (hpl : (backTo pos (starEach es X.env)).any (·.1) = false := by rfl) : DE X (.Call (.Name x p) (e :: es) [] pos) (kCall f t) :=
  ⟨kCall_mono ha.mono, (pe_callB hc hg hm hv ha.run hn hdb he hpl).mono fun _ _ _ h => kCall_run lk ha h⟩
theorem de_callT {e : Expr} {es : List Expr} {x : Str} {p : Pos} {T : String} {r : List V → Hp → VK → Prop} {f : List Dt → Option Dt} {t : DTa} (hc : CallR X (.type T) r) (lk : LkC X.K r f) (hg : Gl X x) (hm : X.mg x = none) (hv : bootBuiltins x = some (.type T)) (ha : DA X (e :: es) t)
    (hn : x ≠ "__name__" := by decide) (hdb : (x == ("__debug__" : Str)) = false := by decide) (he : starEach (e :: es) X.env = (false, eval e X.env) :: starEach es X.env := by rfl) (hpl : (backTo pos (starEach es X.env)).any (·.1) = false := by rfl) : DE X (.Call (.Name x p) (e :: es) [] pos) (kCall f t) :=
  ⟨kCall_mono ha.mono, (pe_callTy hc hg hm hv ha.run hn hdb he hpl).mono fun _ _ _ h => kCall_run lk ha h⟩
def lenD : List Dt → Option Dt
  | [.list ds] => some (.int ds.length)
  | [.tuple ds] => some (.int ds.length)
  | [.str z] => if z.length ≤ sizeLine then some (.int z.length) else none
  | _ => none
theorem lk_len : LkC X.K (fun xs H Q => ∃ x n, xs = [x] ∧ LenV X.K x H n ∧ Q (.int n) H) lenD := by
  intro F H vs ds d Q sm tv e q
  unfold lenD at e
  split at e
  · cases tv with
    | cons h t =>
      cases t
      cases h with
      | lst h r =>
        cases e
        exact ⟨_, _, rfl, .inl ⟨_, SqL.of h, rfl⟩, by rw [r.length]; exact q _ _ (.old (.int _))⟩
  · cases tv with
    | cons h t =>
      cases t
      cases h with
      | tup h r =>
        cases e
        exact ⟨_, _, rfl, .inr ⟨_, (seqT_same sm h).sq, rfl⟩, by rw [r.length]; exact q _ _ (.old (.int _))⟩
  · split at e
    · rename_i hz
      cases tv with
      | cons h t =>
        cases t
        cases h
        cases e
        exact ⟨_, _, rfl, ⟨hz, rfl⟩, q _ _ (.old (.int _))⟩
    · cases e
  · cases e
def toIntD : List Dt → Option Dt
  | [.int i] => some (.int i)
  | [.bool b] => some (.int (if b then 1 else 0))
  | _ => none
theorem lk_toInt : LkC X.K (fun xs H Q => (∃ i, xs = [.int i] ∧ Q (.int i) H) ∨ ∃ k, xs = [.bl k] ∧ Q (.int (if k then 1 else 0)) H) toIntD := by
  intro F H vs ds d Q sm tv e q
  unfold toIntD at e
  split at e
  · cases tv with
    | cons h t => cases t; cases h; cases e; exact .inl ⟨_, rfl, q _ _ (.old (.int _))⟩
  · cases tv with
    | cons h t => cases t; cases h; cases e; exact .inr ⟨_, rfl, q _ _ (.old (.int _))⟩
  · cases e
def toTupD : List Dt → Option Dt
  | [.list ds] => some (.tuple ds)
  | [.tuple ds] => some (.tuple ds)
  | _ => none
def rToTup (K : PySem.W.Frag) : List V → Hp → VK → Prop := fun xs H Q => ∃ p ys, xs = [.ref p] ∧ ((SqL K H p ys ∧ ∀ l o, H l = none → TObj o → Q (.ref l) (upd H l (.frz o (.tup ys)))) ∨ (SqT K H p ys ∧ Q (.ref p) H))
theorem call_toTup : CallR X (.type "tuple") (rToTup X.K) := by
  intro pins s σ H xs us Q I r h
  obtain ⟨p, ys, rfl, h⟩ := h
  obtain ⟨u, rfl, rx⟩ := vals1 r
  cases rx
  rcases h with ⟨hq, q⟩ | ⟨hq, q⟩
  · obtain ⟨its, r', pl, hz⟩ := I.list hq
    have hlen := r'.length
    have hs : its.toArray.size ≤ sizeLine := by
      simp only [List.size_toArray]
      omega
    refine call_tuple_list pl.isList (fun h' kp => ?_) hs
    have I1 : Inv X pins σ H { s with heap := h' } := I.kept (t' := s.toks) kp
    exact lay_tup I1 r' hz q
  · obtain ⟨its, r', pl, hz⟩ := I.tuple hq
    exact call_tuple_same pl ⟨.ref p, H, I, rfl, q⟩
theorem lk_toTup : LkC X.K (rToTup X.K) toTupD := by
  intro F H vs ds d Q sm tv e q
  unfold toTupD at e
  split at e
  · cases tv with
    | cons h t =>
      cases t
      cases h with
      | lst h r => cases e; exact ⟨_, _, rfl, .inl ⟨SqL.of h, fun l o hl ho => q _ _ (.tup hl ho r)⟩⟩
  · cases tv with
    | cons h t =>
      cases t
      cases h with
      | tup h r => cases e; exact ⟨_, _, rfl, .inr ⟨(seqT_same sm h).sq, q _ _ (.old (.tup h r))⟩⟩
  · cases e
/-- list(x): a new list -/
def kToLst (t : DTa) : DTl := fun env Q => t env fun evs env1 => wr (rsL env1 evs) fun ds => match ds with
  | [d] => wr (seqD d) fun xs => Q xs env1
  | _ => False
theorem dl_list {e : Expr} {p : Pos} {t : DTa} (hg : Gl X "list") (hm : X.mg "list" = none) (ha : DA X [e] t)
    (he : starEach [e] X.env = [(false, eval e X.env)] := by rfl) : DL X (.Call (.Name "list" p) [e] [] pos) (kToLst t) := by
  refine ⟨fun env Q Q' i q => ha.mono _ _ _ (fun evs env1 q => wr_mono (fun ds q => ?_) q) q, (pe_callTy call_list_of hg hm (by decide +kernel) ha.run (by decide) (by decide) he (by rfl)).mono fun σ H Q => ?_⟩
  · revert q
    dsimp only
    split
    · exact fun q => wr_mono (fun xs q => i _ _ q) q
    · exact fun q => q
  · rintro ⟨F, env, R, q⟩
    refine ⟨F, env, R, ha.mono _ _ _ (fun evs env1 h1 F1 H1 vs E1 R1 V1 => ?_) q⟩
    obtain ⟨ds, e1, h2⟩ := wr_get h1
    dsimp only at h2
    split at h2
    · rename_i d
      obtain ⟨xs, e2, h2⟩ := wr_get h2
      have tv := tpA_of R1 V1 e1
      have fin : ∀ ys l, RpAll X.K F1 ys xs → H1 l = none → Q (.ref l) (upd H1 l (.lst ys)) := fun ys l r hl => by
        obtain ⟨R2, E2⟩ := R1.growN hl (.lst ys)
        refine h2 F1 _ l ys (E1.trans E2) R2 (R1.fnone hl) upd_same r (R1.not_ow hl) ?_
        cases e : H l with
        | none => rfl
        | some u =>
          obtain ⟨u', z⟩ := E1.there l u e
          rw [hl] at z; cases z
      cases tv with
      | cons h t =>
        cases t
        cases h with
        | lst h r => cases e2; exact ⟨_, _, rfl, .inl (SqL.of h), fun l hl => fin _ l r hl⟩
        | tup h r => cases e2; exact ⟨_, _, rfl, .inr (seqT_same R1.sub h).sq, fun l hl => fin _ l r hl⟩
        | _ => cases e2
    · exact h2.elim
def tyN : Dt → String
  | .none => "NoneType"
  | .bool _ => "bool"
  | .int _ => "int"
  | .str _ => "str"
  | .list _ => "list"
  | .tuple _ => "tuple"
  | .dict _ => "dict"
/-- what isinstance asks of a value: its type, or it is a told tuple -/
def TyD (K : PySem.W.Frag) (H : Hp) (v : V) (d : Dt) : Prop := TyX K H v (.type (tyN d)) ∨ (tyN d = "tuple" ∧ ∃ a o xs, v = .ref a ∧ H a = some (.frz o (.tup xs)) ∧ TObj o)
theorem tyD_of {K : PySem.W.Frag} {F H : Hp} {v : V} {d : Dt} (sm : Same F H) (h : Tp K F H v d) : TyD K H v d := by
  cases h with
  | non => exact .inl (.base .non)
  | bl b => exact .inl (.base (.bl b))
  | int i => exact .inl (.base (.int i))
  | str x => exact .inl (.base (.str x))
  | lst h r => exact .inl (.base (.lst h))
  | tup h r =>
    rcases h with ⟨o, h, ho⟩ | ⟨o, its, n, h1, h2, h3⟩
    · exact .inr ⟨rfl, _, o, _, rfl, sm _ _ h, ho⟩
    · exact .inl (.kTuple h1 h2.1)
def rIsiD (K : PySem.W.Frag) : List V → Hp → VK → Prop := fun xs H Q => ∃ (x c : V) (d : Dt) (u : Value) (b : Bool), xs = [x, c] ∧ ClsV c u ∧ TyD K H x d ∧ PySem.W.kitOne K (.type (tyN d)) u = some b ∧ Q (.bl b) H
theorem call_isiD : CallR X (.builtin "isinstance") (rIsiD X.K) := by
  intro pins s σ H xs us Q I r h
  obtain ⟨x, c, d, u, b, rfl, k, ty, e, q⟩ := h
  rcases ty with ty | ⟨tn, a, o, ys, rfl, ha, ho⟩
  · exact call_isi pins s σ H _ us Q I r ⟨x, c, _, u, b, rfl, k, ty, e, q⟩
  · obtain ⟨u1, u2, rfl, r1, r2⟩ := vals2 r
    have e2 := k.eq r2
    subst e2
    cases r1
    rw [tn] at e
    obtain ⟨h1, _⟩ := (show ObjOk X.prog X.w H s.heap a (.frz o (.tup ys)) from I.hok a _ ha)
    exact PySem.W.kia_one PySem.W.kitx_tuple I.kIn ⟨_, h1, ho.1⟩ e (fun z => nomatch z) fun tk => ⟨.bl b, H, I.tok tk, rfl, q⟩
def isIntD : Dt → Bool
  | .int _ | .bool _ => true
  | _ => false
def isBlD : Dt → Bool
  | .bool _ => true
  | _ => false
def isStrD : Dt → Bool
  | .str _ => true
  | _ => false
def isTupD : Dt → Bool
  | .tuple _ => true
  | _ => false
def isLstD : Dt → Bool
  | .list _ => true
  | _ => false
def kIsi (g : Dt → Bool) (t : DT) : DT := fun env Q => t env fun ev env1 => wr (rs env1 ev) fun d => Q (.dat (.bool (g d))) env1
theorem de_isi {e : Expr} {T : Str} {t : DT} {g : Dt → Bool} {n : String} {p q pos : Pos} (hk : ∀ d, kitB (tyN d) n = some (g d)) (hg : Gl X "isinstance") (hm : X.mg "isinstance" = none) (hgT : Gl X T) (hmT : X.mg T = none) (hvT : bootBuiltins T = some (.type n)) (h : DE X e t)
    (hnT : T ≠ "__name__" := by decide) (hdT : (T == ("__debug__" : Str)) = false := by decide)
    (he : starEach [e, .Name T q] X.env = (false, eval e X.env) :: starEach [.Name T q] X.env := by rfl) : DE X (.Call (.Name "isinstance" p) [e, .Name T q] [] pos) (kIsi g t) := by
  refine ⟨fun env Q Q' i q => h.mono _ _ _ (fun ev env1 q => wr_mono (fun d q => i _ _ q) q) q, ?_⟩
  have c : PE X (.Name T q) (tC (.ty n)) := pe_bltn hgT hmT hvT rfl hnT hdT
  refine (pe_callB call_isiD hg hm (by decide +kernel) (pa_cons h.run (pa_cons c pa_nil (by rfl)) he) (by decide) (by decide) he (by rfl)).mono fun σ H Q => ?_
  rintro ⟨F, env, R, q⟩
  refine ⟨F, env, R, h.mono _ _ _ (fun ev env1 h1 F1 H1 v E1 R1 V1 => ?_) q⟩
  obtain ⟨d, e1, h2⟩ := wr_get h1
  exact ⟨v, .ty n, d, _, g d, rfl, .ty n, tyD_of R1.sub (tp_of R1 V1 e1), kit_ty (hk d), h2 F1 H1 _ E1 R1 (.bl _)⟩
end
open PySem PySem.Spec L2

def Dv.ev : Dv → Ev
  | .dat d => .dat d
  | .obj o => .new o

/-! ### statements -/
structure DEnds where
  nx : Dn → Prop
  rt : Dv → Dn → Prop
  bk : Dn → Prop := fun _ => False
  ct : Dn → Prop := fun _ => False
abbrev DTS := DEnds → Dn → Prop
/-- the first n slots (the parameters) hold what they held -/
structure ExtS (n : Nat) (σ : L2.St) (env : Dn) (F H : Hp) (σ' : L2.St) (env' : Dn) (F' H' : Hp) : Prop where
  ext : Ext σ env F H σ' env' F' H'
  par : ∀ i, i < n → σ'[i]? = σ[i]?
theorem ExtS.refl {n : Nat} {σ : L2.St} {env : Dn} {F H : Hp} : ExtS n σ env F H σ env F H := ⟨Ext.refl, fun _ _ => rfl⟩
theorem ExtS.trans {n : Nat} {σ σ1 σ2 : L2.St} {env env1 env2 : Dn} {F F1 F2 H H1 H2 : Hp} (a : ExtS n σ env F H σ1 env1 F1 H1) (b : ExtS n σ1 env1 F1 H1 σ2 env2 F2 H2) : ExtS n σ env F H σ2 env2 F2 H2 :=
  ⟨a.ext.trans b.ext, fun i h => (b.par i h).trans (a.par i h)⟩
theorem _root_.Dx.Ext.s {n : Nat} {σ : L2.St} {env env' : Dn} {F F' H H' : Hp} (e : Ext σ env F H σ env' F' H') : ExtS n σ env F H σ env' F' H' := ⟨e, fun _ _ => rfl⟩
structure Lnk (K : PySem.W.Frag) (n : Nat) (σ : L2.St) (env : Dn) (F H : Hp) (E : DEnds) (D : Ends) : Prop where
  nx : ∀ σ' env' F' H', ExtS n σ env F H σ' env' F' H' → Rep K F' H' σ' env' → E.nx env' → D.nx σ' H'
  bk : ∀ σ' env' F' H', ExtS n σ env F H σ' env' F' H' → Rep K F' H' σ' env' → E.bk env' → D.bk σ' H'
  ct : ∀ σ' env' F' H', ExtS n σ env F H σ' env' F' H' → Rep K F' H' σ' env' → E.ct env' → D.ct σ' H'
  rt : ∀ r v σ' env' F' H', ExtS n σ env F H σ' env' F' H' → Rep K F' H' σ' env' → RepE K F' H' σ' env' H v (Dv.ev r) → E.rt r env' → D.rt v H'
theorem Lnk.move {K : PySem.W.Frag} {n : Nat} {σ σ1 : L2.St} {env env1 : Dn} {F F1 H H1 : Hp} {E : DEnds} {D : Ends} (l : Lnk K n σ env F H E D) (e : ExtS n σ env F H σ1 env1 F1 H1) : Lnk K n σ1 env1 F1 H1 E D :=
  ⟨fun _ _ _ _ x => l.nx _ _ _ _ (e.trans x), fun _ _ _ _ x => l.bk _ _ _ _ (e.trans x), fun _ _ _ _ x => l.ct _ _ _ _ (e.trans x), fun _ _ _ _ _ _ x R V => l.rt _ _ _ _ _ _ (e.trans x) R (V.back e.ext.there)⟩
def tDs (K : PySem.W.Frag) (n : Nat) (t : DTS) : TS := fun D σ H => ∃ F env E, Rep K F H σ env ∧ t E env ∧ Lnk K n σ env F H E D
structure DS (X : Cx) (n : Nat) (st : Stmt) (t : DTS) : Prop where
  run : PS X st (tDs X.K n t)
structure DSs (X : Cx) (n : Nat) (st : List Stmt) (t : DTS) : Prop where
  run : PSs X st (tDs X.K n t)

section
variable {X : Cx} {n : Nat} {pos : Pos}
def sNx : DTS := fun E env => E.nx env
def sSeq (t u : DTS) : DTS := fun E env => t { E with nx := u E } env
theorem dss_nil : DSs X n [] sNx := ⟨pss_nil.mono fun D σ H => by
  rintro ⟨F, env, E, R, q, l⟩
  exact l.nx _ _ _ _ ExtS.refl R q⟩
theorem dss_cons {st : Stmt} {rest : List Stmt} {t u : DTS} (h : DS X n st t) (g : DSs X n rest u) : DSs X n (st :: rest) (sSeq t u) := ⟨(pss_cons h.run g.run).mono fun D σ H => by
  rintro ⟨F, env, E, R, q, l⟩
  refine ⟨F, env, _, R, q, ⟨fun σ' env' F' H' e R' z => ?_, l.bk, l.ct, l.rt⟩⟩
  exact ⟨F', env', E, R', z, l.move e⟩⟩
theorem dss_one {st : Stmt} {t : DTS} (h : DS X n st t) : DSs X n [st] t := ⟨pss_one h.run⟩
theorem ds_pass : DS X n (.Pass pos) sNx := ⟨ps_pass.mono fun D σ H => by
  rintro ⟨F, env, E, R, q, l⟩
  exact l.nx _ _ _ _ ExtS.refl R q⟩
def sBk : DTS := fun E env => E.bk env
def sCt : DTS := fun E env => E.ct env
theorem ds_break : DS X n (.Break pos) sBk := ⟨ps_break.mono fun D σ H => by
  rintro ⟨F, env, E, R, q, l⟩
  exact l.bk _ _ _ _ ExtS.refl R q⟩
theorem ds_cont : DS X n (.Continue pos) sCt := ⟨ps_continue.mono fun D σ H => by
  rintro ⟨F, env, E, R, q, l⟩
  exact l.ct _ _ _ _ ExtS.refl R q⟩
def sDrop (te : DT) : DTS := fun E env => te env fun _ env1 => E.nx env1
theorem ds_expr {e : Expr} {te : DT} (he : DE X e te) (hs : swapsWith e none pos.line X.env = pure false := by rfl) : DS X n (.Expr e pos) (sDrop te) := ⟨(ps_expr he.run hs).mono fun D σ H => by
  rintro ⟨F, env, E, R, q, l⟩
  exact ⟨F, env, R, he.mono _ _ _ (fun ev env1 q F1 H1 v E1 R1 V1 => l.nx _ _ _ _ E1.s R1 q) q⟩⟩
def retE (ev : Ev) (Q : Dv → Prop) : Prop := match ev with
  | .dat d => Q (.dat d)
  | .new o => Q (.obj o)
  | .var _ => False
theorem retE_get {ev : Ev} {Q : Dv → Prop} (h : retE ev Q) : ∃ r : Dv, ev = r.ev ∧ Q r := by
  cases ev with
  | dat d => exact ⟨.dat d, rfl, h⟩
  | new o => exact ⟨.obj o, rfl, h⟩
  | var i => exact h.elim
def sRet (te : DT) : DTS := fun E env => te env fun ev env1 => retE ev fun r => E.rt r env1
theorem ds_ret {e : Expr} {te : DT} (he : DE X e te) : DS X n (.Return (some e) pos) (sRet te) := ⟨(ps_ret he.run).mono fun D σ H => by
  rintro ⟨F, env, E, R, q, l⟩
  refine ⟨F, env, R, he.mono _ _ _ (fun ev env1 q F1 H1 v E1 R1 V1 => ?_) q⟩
  obtain ⟨r, rfl, q'⟩ := retE_get q
  exact l.rt r _ _ _ _ _ E1.s R1 V1 q'⟩
def sRetN : DTS := fun E env => E.rt (.dat .none) env
theorem ds_retN : DS X n (.Return none pos) sRetN := ⟨ps_retN.mono fun D σ H => by
  rintro ⟨F, env, E, R, q, l⟩
  exact l.rt (.dat .none) _ _ _ _ _ ExtS.refl R (show Rp X.K F .non .none from .non) q⟩
def sIf (c : DTb) (t u : DTS) : DTS := fun E env => c env fun b env1 => if b = true then t E env1 else u E env1
theorem ds_if {c : Expr} {a b : List Stmt} {tc : DTb} {t u : DTS} (hc : DB X c tc) (ha : DSs X n a t) (hb : DSs X n b u) : DS X n (.If c a b pos) (sIf tc t u) := ⟨(ps_if hc.run ha.run hb.run).mono fun D σ H => by
  rintro ⟨F, env, E, R, q, l⟩
  refine ⟨F, env, R, hc.mono _ _ _ (fun b env1 q F1 H1 E1 R1 => ?_) q⟩
  cases b
  · exact ⟨F1, env1, E, R1, q, l.move E1.s⟩
  · exact ⟨F1, env1, E, R1, q, l.move E1.s⟩⟩

/-! ### a name is given a value -/
theorem rep_set {K : PySem.W.Frag} {F H H0 : Hp} {σ : L2.St} {env : Dn} {v : V} {r : Dv} {i : Nat} (R : Rep K F H σ env) (hV : RepE K F H σ env H0 v r.ev) : Rep K F H (σ.set i (some v)) (env.set i (some r)) := by
  refine ⟨R.sub, by rw [List.length_set, List.length_set]; exact R.len, fun j dv e => ?_, fun j k o o' p h1 h2 h3 h4 => ?_⟩
  · rcases set_get e with ⟨rfl, q, hl⟩ | ⟨ne, q⟩
    · cases q
      refine ⟨v, by rw [List.getElem?_set_self (by rw [← R.len]; exact hl)], ?_⟩
      cases r with
      | dat d => exact hV
      | obj o =>
        obtain ⟨p, e1, e2, e3, _⟩ := hV
        exact ⟨p, e1, e2, e3⟩
    · obtain ⟨v', e1, e2⟩ := R.val j dv q
      exact ⟨v', by rw [List.getElem?_set_ne (Ne.symm ne)]; exact e1, e2⟩
  · have key : ∀ m ob, (env.set i (some r))[m]? = some (some (.obj ob)) → (σ.set i (some v))[m]? = some (some (V.ref p)) → (m = i ∧ ¬ Ow σ env p) ∨ (m ≠ i ∧ env[m]? = some (some (.obj ob)) ∧ σ[m]? = some (some (V.ref p))) := fun m ob a b => by
      rcases set_get a with ⟨rfl, q, hl⟩ | ⟨ne, q⟩
      · left
        cases q
        obtain ⟨p', e1, e2, e3, e4, _⟩ := hV
        rw [List.getElem?_set_self (by rw [← R.len]; exact hl)] at b
        have b' : v = .ref p := Option.some.inj (Option.some.inj b)
        rw [e1] at b'
        cases b'
        exact ⟨rfl, e4⟩
      · right
        rw [List.getElem?_set_ne (Ne.symm ne)] at b
        exact ⟨ne, q, b⟩
    rcases key j o h1 h3 with ⟨a1, a2⟩ | ⟨a1, a2, a3⟩
    · rcases key k o' h2 h4 with ⟨b1, b2⟩ | ⟨b1, b2, b3⟩
      · rw [a1, b1]
      · exact absurd ⟨k, o', b2, b3⟩ a2
    · rcases key k o' h2 h4 with ⟨b1, b2⟩ | ⟨b1, b2, b3⟩
      · exact absurd ⟨j, o, a2, a3⟩ b2
      · exact R.inj j k o o' p a2 b2 a3 b3
theorem ext_set {K : PySem.W.Frag} {n : Nat} {F0 H0 F H : Hp} {σ : L2.St} {env0 env : Dn} {v : V} {r : Dv} {i : Nat} (E : Ext σ env0 F0 H0 σ env F H) (R : Rep K F H σ env) (V : RepE K F H σ env H0 v r.ev) (hi : n ≤ i) : ExtS n σ env0 F0 H0 (σ.set i (some v)) (env.set i (some r)) F H := by
  refine ⟨⟨E.same, E.keep, E.there, E.new, fun a w => ?_⟩, fun j hj => by rw [List.getElem?_set_ne (by omega)]⟩
  obtain ⟨m, o, h1, h2⟩ := w
  rcases set_get h1 with ⟨rfl, q, hl⟩ | ⟨ne, q⟩
  · cases q
    obtain ⟨p', e1, e2, e3, e4, e5⟩ := V
    rw [List.getElem?_set_self (by rw [← R.len]; exact hl)] at h2
    have b' : v = .ref a := Option.some.inj (Option.some.inj h2)
    rw [e1] at b'
    cases b'
    exact .inr e5
  · rw [List.getElem?_set_ne (Ne.symm ne)] at h2
    exact E.ow a ⟨m, o, q, h2⟩
def setE (i : Nat) (ev : Ev) (env : Dn) (Q : Dn → Prop) : Prop := retE ev fun r => Q (env.set i (some r))
def sSet (i : Nat) (te : DT) : DTS := fun E env => te env fun ev env1 => setE i ev env1 E.nx
theorem ds_set {i : Nat} {x : Str} {e : Expr} {te : DT} {pos' : Pos} (hN : X.N.Nodup) (hi : X.N[i]? = some x) (hx : Loc X.env.scope x) (he : DE X e te) (hn : n ≤ i := by decide) (hs : swapsWith e (some (.Name x pos')) pos.line X.env = pure false := by rfl) (hf : X.fn x = true ∨ X.env.scope.names.lookup x = some .local := by first | exact .inl rfl | exact .inr rfl | assumption) :
    DS X n (.Assign [.Name x pos'] e pos) (sSet i te) := ⟨(ps_set hN hi hx he.run hs hf).mono fun D σ H => by
  rintro ⟨F, env, E, R, q, l⟩
  refine ⟨F, env, R, he.mono _ _ _ (fun ev env1 q F1 H1 v E1 R1 V1 => ?_) q⟩
  obtain ⟨r, rfl, q'⟩ := retE_get q
  exact l.nx _ _ _ _ (ext_set E1 R1 V1 hn) (rep_set R1 V1) q'⟩
/-! ### several names at once -/
def setL : List Nat → List Ev → Dn → (Dn → Prop) → Prop
  | [], [], env, Q => Q env
  | i :: is, ev :: evs, env, Q => retE ev fun r => setL is evs (env.set i (some r)) Q
  | _, _, _, _ => False
def sets : List Nat → List V → L2.St → L2.St
  | i :: is, v :: vs, σ => sets is vs (σ.set i (some v))
  | _, _, σ => σ
/-- a list of new things and data, behind a store of one of them -/
theorem repA_set {K : PySem.W.Frag} {F H H0 : Hp} {σ : L2.St} {env : Dn} {v : V} {r : Dv} {i : Nat} : ∀ {vs : List V} {rs : List Dv}, RepA K F H σ env H0 vs (rs.map Dv.ev) → (∀ p o, v = .ref p → r = .obj o → ¬ NewAt p vs (rs.map Dv.ev)) → σ.length = env.length → RepA K F H (σ.set i (some v)) (env.set i (some r)) H0 vs (rs.map Dv.ev)
  | _, [], h, _, _ => by cases h; exact .nil
  | _, r' :: rs, h, n, hl => by
    cases h with
    | cons h t d =>
      refine .cons ?_ (repA_set t (fun p o e1 e2 z => n p o e1 e2 (.inr z)) hl) d
      cases r' with
      | dat d => exact h
      | obj o =>
        obtain ⟨p, e1, e2, e3, e4, e5⟩ := h
        refine ⟨p, e1, e2, e3, fun w => ?_, e5⟩
        obtain ⟨m, ob, h1, h2⟩ := w
        rcases set_get h1 with ⟨rfl, q, hlt⟩ | ⟨ne, q⟩
        · cases q
          rw [List.getElem?_set_self (by rw [hl]; exact hlt)] at h2
          exact n p ob (Option.some.inj (Option.some.inj h2)) rfl (.inl ⟨e1, o, rfl⟩)
        · rw [List.getElem?_set_ne (Ne.symm ne)] at h2
          exact e4 ⟨m, ob, q, h2⟩
theorem sets_ok {K : PySem.W.Frag} {n : Nat} {F H H0 F0 : Hp} {σ0 : L2.St} {env0 : Dn} : ∀ {is : List Nat} {vs : List V} {evs : List Ev} {σ : L2.St} {env : Dn} {Q : Dn → Prop}, RepA K F H σ env H0 vs evs → Rep K F H σ env → ExtS n σ0 env0 F0 H0 σ env F H → (∀ i ∈ is, n ≤ i) → setL is evs env Q →
    ∃ env', Q env' ∧ Rep K F H (sets is vs σ) env' ∧ ExtS n σ0 env0 F0 H0 (sets is vs σ) env' F H := by
  have conv : ∀ {is : List Nat} {evs : List Ev} {env : Dn} {Q : Dn → Prop}, setL is evs env Q → ∃ rs : List Dv, evs = rs.map Dv.ev := by
    intro is
    induction is with
    | nil =>
      intro evs env Q h
      cases evs with
      | nil => exact ⟨[], rfl⟩
      | cons _ _ => exact h.elim
    | cons i is ih =>
      intro evs env Q h
      cases evs with
      | nil => exact h.elim
      | cons e es =>
        obtain ⟨r, rfl, h'⟩ := retE_get h
        obtain ⟨rs, rfl⟩ := ih h'
        exact ⟨r :: rs, rfl⟩
  intro is
  induction is with
  | nil =>
    intro vs evs σ env Q A R E hn h
    cases evs with
    | nil => cases A; exact ⟨env, h, R, E⟩
    | cons _ _ => exact h.elim
  | cons i is ih =>
    intro vs evs σ env Q A R E hn h
    cases evs with
    | nil => exact h.elim
    | cons e es =>
      obtain ⟨r, rfl, h'⟩ := retE_get h
      obtain ⟨rs, rfl⟩ := conv h'
      cases A with
      | @cons v vs _ _ hv ht hd =>
        have E1 : ExtS n σ0 env0 F0 H0 (σ.set i (some v)) (env.set i (some r)) F H := by
          refine ⟨⟨E.ext.same, E.ext.keep, E.ext.there, E.ext.new, fun a w => ?_⟩, fun j hj => by rw [List.getElem?_set_ne (by have := hn i (List.mem_cons_self ..); omega)]; exact E.par j hj⟩
          obtain ⟨m, o, h1, h2⟩ := w
          rcases set_get h1 with ⟨rfl, q, hl⟩ | ⟨ne, q⟩
          · cases q
            obtain ⟨p', e1, e2, e3, e4, e5⟩ := hv
            rw [List.getElem?_set_self (by rw [← R.len]; exact hl)] at h2
            have b' : v = .ref a := Option.some.inj (Option.some.inj h2)
            rw [e1] at b'
            cases b'
            exact .inr e5
          · rw [List.getElem?_set_ne (Ne.symm ne)] at h2
            exact E.ext.ow a ⟨m, o, q, h2⟩
        refine ih (repA_set ht (fun p o e1 e2 z => hd p o e1 (by rw [e2]; rfl) z) R.len.symm) (rep_set R hv) E1 (fun j hj => hn j (List.mem_cons_of_mem _ hj)) h'
/-- a, b = e1, e2 and a, b, c = e1, e2, e3: names of the def alone -/
def sPar (is : List Nat) (ta : DTa) : DTS := fun E env => ta env fun evs env1 => setL is evs env1 E.nx
theorem ds_par {i j : Nat} {x y : Str} {a b : Expr} {ta : DTa} {px py pt : Pos} {kt k2 pt2} (hc : X.calm = true) (hN : X.N.Nodup) (hi : X.N[i]? = some x) (hj : X.N[j]? = some y) (hij : i ≠ j)
    (hx : X.env.scope.names.lookup x = some .local) (hy : X.env.scope.names.lookup y = some .local) (ha : DA X [a, b] ta)
    (hw : swappedStores [.Tuple [.Name x px, .Name y py] kt pt] (.Tuple [a, b] k2 pt2) X.env = pure (some [x, y]))
    (hn : ∀ m ∈ [i, j], n ≤ m := by decide)
    (hs : swapsWithSole [.Tuple [.Name x px, .Name y py] kt pt] (.Tuple [a, b] k2 pt2) pos.line X.env = pure false := by rfl) :
    DS X n (.Assign [.Tuple [.Name x px, .Name y py] kt pt] (.Tuple [a, b] k2 pt2) pos) (sPar [i, j] ta) := ⟨(ps_par hc hN hi hj hij hx hy ha.run hw hs).mono fun D σ H => by
  rintro ⟨F, env, E, R, q, l⟩
  refine ⟨F, env, R, ha.mono _ _ _ (fun evs env1 q F1 H1 vs E1 R1 V1 => ?_) q⟩
  have q0 := q
  obtain ⟨env', q, R2, E2⟩ := sets_ok V1 R1 E1.s hn q
  have hl : vs.length = 2 := by
    rw [V1.length]
    match evs, q, q0 with
    | [_, _], _, _ => rfl
    | [], _, h => exact h.elim
    | [e], _, h => obtain ⟨r, _, h⟩ := retE_get h; exact h.elim
    | e :: e' :: _ :: _, _, h => obtain ⟨r, _, h⟩ := retE_get h; obtain ⟨r, _, h⟩ := retE_get h; exact h.elim
  match vs, hl with
  | [v, w], _ => exact ⟨v, w, rfl, l.nx _ _ _ _ E2 R2 q⟩⟩
end
open PySem PySem.Spec L2

section
variable {X : Cx} {n : Nat} {pos : Pos}
/-! ### three names at once -/
theorem setL_len : ∀ {is : List Nat} {evs : List Ev} {env : Dn} {Q : Dn → Prop}, setL is evs env Q → evs.length = is.length
  | [], [], _, _, _ => rfl
  | [], _ :: _, _, _, h => h.elim
  | _ :: _, [], _, _, h => h.elim
  | i :: is, e :: es, env, Q, h => by
    obtain ⟨r, _, h'⟩ := retE_get h
    rw [List.length_cons, List.length_cons, setL_len h']
theorem ds_par3 {i j m : Nat} {x y z : Str} {a b c : Expr} {ta : DTa} {px py pz pt : Pos} {kt k2 pt2} (hc : X.calm = true) (hN : X.N.Nodup) (hi : X.N[i]? = some x) (hj : X.N[j]? = some y) (hm : X.N[m]? = some z) (hij : i ≠ j) (him : i ≠ m) (hjm : j ≠ m)
    (hx : X.env.scope.names.lookup x = some .local) (hy : X.env.scope.names.lookup y = some .local) (hz : X.env.scope.names.lookup z = some .local) (ha : DA X [a, b, c] ta)
    (hw : swappedStores [.Tuple [.Name x px, .Name y py, .Name z pz] kt pt] (.Tuple [a, b, c] k2 pt2) X.env = pure (some [x, y, z]))
    (hn : ∀ q ∈ [i, j, m], n ≤ q := by decide)
    (hs : swapsWithSole [.Tuple [.Name x px, .Name y py, .Name z pz] kt pt] (.Tuple [a, b, c] k2 pt2) pos.line X.env = pure false := by rfl) :
    DS X n (.Assign [.Tuple [.Name x px, .Name y py, .Name z pz] kt pt] (.Tuple [a, b, c] k2 pt2) pos) (sPar [i, j, m] ta) := ⟨(ps_par3 hc hN hi hj hm hij him hjm hx hy hz ha.run hw hs).mono fun D σ H => by
  rintro ⟨F, env, E, R, q, l⟩
  refine ⟨F, env, R, ha.mono _ _ _ (fun evs env1 q F1 H1 vs E1 R1 V1 => ?_) q⟩
  have hl : vs.length = 3 := by rw [V1.length, setL_len q]; rfl
  obtain ⟨env', q', R2, E2⟩ := sets_ok V1 R1 E1.s hn q
  match vs, hl with
  | [v, w, u], _ => exact ⟨v, w, u, rfl, l.nx _ _ _ _ E2 R2 q'⟩⟩

/-! ### targets that take plain data -/
abbrev DTg := Dt → Dn → (Dn → Prop) → Prop
/-- how a value that is stored shows its data: plain, or a tuple just laid by a walk -/
abbrev IR := Hp → Hp → V → Dt → Prop
def RpR (K : PySem.W.Frag) : IR := fun F _ v d => Rp K F v d
def PrR (K : PySem.W.Frag) : IR := fun F H v d => ∃ p vs ds, v = .ref p ∧ H p = some (.tup vs) ∧ RpAll K F vs ds ∧ d = .tuple ds
/-- vs: the slots that may be turned -/
def tDg (K : PySem.W.Frag) (n : Nat) (vs : List Nat) (rel : IR) (g : DTg) : TG := fun v σ H Q => ∃ F env d, Rep K F H σ env ∧ rel F H v d ∧ g d env fun env' => ∀ σ', ExtS n σ env F H σ' env' F H → Rep K F H σ' env' → wipe σ' vs = wipe σ vs → Q σ' H
structure DG (X : Cx) (n : Nat) (vs : List Nat) (rel : IR) (tg : Expr) (g : DTg) : Prop where
  mono : ∀ d env (Q Q' : Dn → Prop), (∀ e, Q e → Q' e) → g d env Q → g d env Q'
  run : PG X tg (tDg X.K n vs rel g)
theorem wipe_get {σ : L2.St} {i : Nat} : ∀ {vs : List Nat}, (wipe σ vs)[i]? = if i ∈ vs then (if i < σ.length then some none else none) else σ[i]?
  | [] => by simp [wipe]
  | v :: vs => by
    show ((wipe σ vs).set v none)[i]? = _
    rw [List.getElem?_set, wipe_length]
    by_cases e : v = i
    · subst e
      simp
    · have e' : ¬ i = v := fun z => e z.symm
      rw [if_neg e, wipe_get (vs := vs)]
      simp [e']
theorem wipe_set {σ : L2.St} {i : Nat} {x : Option V} {vs : List Nat} (h : i ∈ vs) : wipe (σ.set i x) vs = wipe σ vs := by
  apply List.ext_getElem?
  intro j
  rw [wipe_get, wipe_get, List.length_set]
  by_cases e : j ∈ vs
  · simp [e]
  · have ne : i ≠ j := fun z => e (z ▸ h)
    rw [if_neg e, if_neg e, List.getElem?_set_ne ne]
theorem _root_.L2.PG.mono {e : Expr} {t t' : TG} (h : PG X e t) (i : ∀ v σ H Q, t' v σ H Q → t v σ H Q) : PG X e t' := ⟨fun pins s σ H v u Q I r q => h.run pins s σ H v u Q I r (i v σ H Q q)⟩
theorem _root_.L2.PGs.mono {e : List Expr} {t t' : TGs} (h : PGs X e t) (i : ∀ v σ H Q, t' v σ H Q → t v σ H Q) : PGs X e t' := ⟨fun pins s σ H v u Q I r q => h.run pins s σ H v u Q I r (i v σ H Q q)⟩
def gN (i : Nat) : DTg := fun d env Q => Q (env.set i (some (.dat d)))
theorem dg_name {i : Nat} {x : Str} {vs : List Nat} (hN : X.N.Nodup) (hi : X.N[i]? = some x) (hx : Loc X.env.scope x) (hn : n ≤ i := by decide) (hm : i ∈ vs := by decide) (hf : X.fn x = true ∨ X.env.scope.names.lookup x = some .local := by first | exact .inl rfl | exact .inr rfl | assumption) : DG X n vs (RpR X.K) (.Name x pos) (gN i) :=
  ⟨fun d env Q Q' i q => i _ q, (pg_name hN hi hx hf).mono fun v σ H Q => by
    rintro ⟨F, env, d, R, r, q⟩
    have V : RepE X.K F H σ env H v (Dv.ev (.dat d)) := r
    exact q _ (ext_set Ext.refl R V hn) (rep_set R V) (wipe_set hm)⟩
abbrev DTgs := List Dt → Dn → (Dn → Prop) → Prop
def tDgs (K : PySem.W.Frag) (n : Nat) (ws : List Nat) (g : DTgs) : TGs := fun vs σ H Q => ∃ F env ds, Rep K F H σ env ∧ RpAll K F vs ds ∧ g ds env fun env' => ∀ σ', ExtS n σ env F H σ' env' F H → Rep K F H σ' env' → wipe σ' ws = wipe σ ws → Q σ' H
structure DGs (X : Cx) (n : Nat) (ws : List Nat) (tg : List Expr) (g : DTgs) : Prop where
  mono : ∀ d env (Q Q' : Dn → Prop), (∀ e, Q e → Q' e) → g d env Q → g d env Q'
  run : PGs X tg (tDgs X.K n ws g)
def gsN : DTgs := fun ds env Q => match ds with
  | [] => Q env
  | _ => False
def gsC (g : DTg) (gs : DTgs) : DTgs := fun ds env Q => match ds with
  | d :: r => g d env fun env1 => gs r env1 Q
  | [] => False
theorem dgs_nil {ws : List Nat} : DGs X n ws [] gsN := ⟨fun d env Q Q' i q => by
    unfold gsN at q ⊢
    split at q
    · exact i _ q
    · exact q.elim, pgs_nil.mono fun v σ H Q => by
    rintro ⟨F, env, ds, R, r, q⟩
    unfold gsN at q
    split at q
    · cases r
      exact ⟨rfl, q _ ExtS.refl R rfl⟩
    · exact q.elim⟩
theorem dgs_cons {e : Expr} {es : List Expr} {ws : List Nat} {g : DTg} {gs : DTgs} (h : DG X n ws (RpR X.K) e g) (t : DGs X n ws es gs) (hs : (assignEach (e :: es) X.env).map (·.2) = assign e X.env :: (assignEach es X.env).map (·.2) := by rfl) : DGs X n ws (e :: es) (gsC g gs) :=
  ⟨fun d env Q Q' i q => by
    unfold gsC at q ⊢
    split at q
    · exact h.mono _ _ _ _ (fun env1 q => t.mono _ _ _ _ i q) q
    · exact q.elim, (pgs_cons h.run t.run hs).mono fun v σ H Q => by
    rintro ⟨F, env, ds, R, r, q⟩
    unfold gsC at q
    split at q
    · cases r with
      | cons r1 r2 =>
        refine ⟨_, _, rfl, F, env, _, R, r1, h.mono _ _ _ _ (fun env1 q σ1 E1 R1 w1 => ⟨F, env1, _, R1, r2, t.mono _ _ _ _ (fun env2 q σ2 E2 R2 w2 => q σ2 (E1.trans E2) R2 (w2.trans w1)) q⟩) q⟩
    · exact q.elim⟩
def gT (k : Nat) (gs : DTgs) : DTg := fun d env Q => match d with
  | .tuple ds => ds.length = k ∧ gs ds env Q
  | _ => False
theorem dg_tup {es : List Expr} {ws : List Nat} {kk k : Nat} {gs : DTgs} (hc : X.calm = true) (h : DGs X n ws es gs) (hn : (assignEach es X.env).length = k := by rfl) (hst : (assignEach es X.env).findIdx? (·.1) = none := by rfl) : DG X n ws (RpR X.K) (.Tuple es kk pos) (gT k gs) :=
  ⟨fun d env Q Q' i q => by
    unfold gT at q ⊢
    split at q
    · exact ⟨q.1, h.mono _ _ _ _ i q.2⟩
    · exact q.elim, (pg_tup hc h.run hn hst).mono fun v σ H Q => by
    rintro ⟨F, env, d, R, r, q⟩
    unfold gT at q
    split at q
    · cases r with
      | tup h1 a =>
        exact ⟨_, _, rfl, (seqT_same R.sub h1).sq, by rw [a.length]; exact q.1, F, env, _, R, a, q.2⟩
    · exact q.elim⟩
theorem dg_tupP {es : List Expr} {ws : List Nat} {kk k : Nat} {gs : DTgs} (hc : X.calm = true) (h : DGs X n ws es gs) (hn : (assignEach es X.env).length = k := by rfl) (hst : (assignEach es X.env).findIdx? (·.1) = none := by rfl) : DG X n ws (PrR X.K) (.Tuple es kk pos) (gT k gs) :=
  ⟨fun d env Q Q' i q => by
    unfold gT at q ⊢
    split at q
    · exact ⟨q.1, h.mono _ _ _ _ i q.2⟩
    · exact q.elim, (pg_tup hc h.run hn hst).mono fun v σ H Q => by
    rintro ⟨F, env, d, R, ⟨p, vs, ds, rfl, hp, a, rfl⟩, q⟩
    exact ⟨_, _, rfl, SqT.of hp, by rw [a.length]; exact q.1, F, env, _, R, a, q.2⟩⟩
def as1 (ev : Ev) (Q : Dt → Prop) : Prop := match ev with
  | .dat d => Q d
  | _ => False
theorem as1_get {ev : Ev} {Q : Dt → Prop} (h : as1 ev Q) : ∃ d, ev = .dat d ∧ Q d := by
  cases ev with
  | dat d => exact ⟨d, rfl, h⟩
  | _ => exact h.elim
theorem as1_mono {ev : Ev} {Q Q' : Dt → Prop} (i : ∀ d, Q d → Q' d) (h : as1 ev Q) : as1 ev Q' := by
  cases ev with
  | dat d => exact i d h
  | _ => exact h.elim
def sAsg (te : DT) (g : DTg) : DTS := fun E env => te env fun ev env1 => as1 ev fun d => g d env1 E.nx
theorem ds_asg {tg e : Expr} {te : DT} {g : DTg} {ws : List Nat} (he : DE X e te) (hg : DG X n ws (RpR X.K) tg g) (hs : swapsWithSole [tg] e pos.line X.env = pure false := by rfl) (hw : swappedStores [tg] e X.env = pure none := by rfl)
    (h1 : (assignEach [tg] X.env).map (·.2) = [assign tg X.env] := by rfl) : DS X n (.Assign [tg] e pos) (sAsg te g) := ⟨(ps_asg he.run hg.run hs hw h1).mono fun D σ H => by
  rintro ⟨F, env, E, R, q, l⟩
  refine ⟨F, env, R, he.mono _ _ _ (fun ev env1 q F1 H1 v E1 R1 V1 => ?_) q⟩
  obtain ⟨d, rfl, q'⟩ := as1_get q
  exact ⟨F1, env1, d, R1, V1, hg.mono _ _ _ _ (fun env2 q σ2 E2 R2 _ => l.nx _ _ _ _ (E1.s.trans E2) R2 q) q'⟩⟩

/-! ### what is walked -/
/-- the walk J gives the data ds, one by one, as long as F stands -/
def Yl (rel : IR) (F H H' : Hp) (x : V) (d : Dt) : Prop := (H' = H ∧ rel F H x d) ∨ ∃ p o, H p = none ∧ H' = upd H p o ∧ rel F H' x d
def Wk (rel : IR) (J : It) (F : Hp) (ds : List Dt) : Prop := ∀ (i : Nat) (F' H : Hp), Same F F' → Same F' H →
  (∀ d, ds[i]? = some d → J.go i H ∧ ∀ x H', J.yld i H x H' → Yl rel F' H H' x d) ∧ (ds.length ≤ i → J.stop i H)
theorem Yl.rep {K : PySem.W.Frag} {rel : IR} {F H H' : Hp} {x : V} {d : Dt} {σ : L2.St} {env : Dn} (y : Yl rel F H H' x d) (R : Rep K F H σ env) : Rep K F H' σ env ∧ Ext σ env F H σ env F H' ∧ rel F H' x d := by
  rcases y with ⟨rfl, r⟩ | ⟨p, o, hp, rfl, r⟩
  · exact ⟨R, Ext.refl, r⟩
  · obtain ⟨R', E⟩ := R.growN hp o
    exact ⟨R', E, r⟩
def tDi (K : PySem.W.Frag) (rel : IR) (t : DTl) : TI := fun σ H R => ∃ F env, Rep K F H σ env ∧ t env fun ds env' => ∀ F' H' J, Ext σ env F H σ env' F' H' → Rep K F' H' σ env' → Wk rel J F' ds → R J H'
structure DI (X : Cx) (rel : IR) (tg iter : Expr) (t : DTl) : Prop where
  mono : MonoL t
  run : PI X tg iter (tDi X.K rel t)
theorem _root_.L2.PI.mono {tg e : Expr} {t t' : TI} (h : PI X tg e t) (i : ∀ σ H Q, t' σ H Q → t σ H Q) : PI X tg e t' := ⟨fun pins s σ H Q I q => h.run pins s σ H Q I (i σ H Q q)⟩
def iSq (K : PySem.W.Frag) (tl : TE) : TI := fun σ H R => tl σ H fun x H1 => ∃ a, x = .ref a ∧ (((∃ xs, SqL K H1 a xs) ∧ R (Itl K a) H1) ∨ ((∃ xs, SqT K H1 a xs) ∧ R (Itt K a) H1))
theorem pi_sq {tg l : Expr} {tl : TE} (hl : PE X l tl) : PI X tg l (iSq X.K tl) := by
  constructor
  intro pins s σ H R I h
  refine thn (hl.run pins s σ H _ I h) ?_
  rintro v s1 ⟨x, H1, I1, r1, a, rfl, w⟩
  cases r1
  have fp : ∀ b ∈ [s1.heap.objs.size], FpOk X pins H1 b := by
    intro b hb
    obtain rfl : b = s1.heap.objs.size := by simpa using hb
    exact I1.fpOk (Nat.le_refl _) (I1.hok.fresh (Nat.le_refl _))
  rcases w with ⟨⟨xs, hq⟩, q⟩ | ⟨⟨xs, hq⟩, q⟩
  · obtain ⟨its, _, p, _⟩ := I1.list hq
    apply wpAny_pyIter_list p.isList
    exact ⟨_, _, _, _, H1, rfl, I1.kept (t' := s1.toks) (fun b o e => Heap.get?_push_of_some _ e), turn_list a _, ⟨_, Heap.get?_push_size _ rfl, rfl, rfl⟩, fp, q⟩
  · obtain ⟨its, _, p, _⟩ := I1.tuple hq
    apply wpAny_pyIter_tuple (show s1.heap.IsTuple a its.toArray from p)
    exact ⟨_, _, _, _, H1, rfl, I1.kept (t' := s1.toks) (fun b o e => Heap.get?_push_of_some _ e), turn_tuple a _, ⟨_, Heap.get?_push_size _ rfl, rfl, rfl⟩, fp, q⟩
theorem wk_list {K : PySem.W.Frag} {F : Hp} {a : Addr} {vs : List V} {ds : List Dt} (h : F a = some (.lst vs)) (r : RpAll K F vs ds) : Wk (RpR K) (Itl K a) F ds := by
  intro i F' H s1 s2
  have hq : SqL K H a vs := SqL.of (s2 _ _ (s1 _ _ h))
  refine ⟨fun d e => ?_, fun hl => ⟨vs, hq, by rw [r.length]; exact hl⟩⟩
  obtain ⟨v, e1, e2⟩ := r.get e
  refine ⟨⟨vs, v, hq, e1⟩, fun x H' ⟨e3, e4⟩ => ?_⟩
  subst e3
  have e5 := e4 vs hq
  rw [e1] at e5; cases e5
  exact .inl ⟨rfl, dp_same s1 e2⟩
theorem wk_tup {K : PySem.W.Frag} {F : Hp} {a : Addr} {vs : List V} {ds : List Dt} (h : TuA K F a vs) (r : RpAll K F vs ds) : Wk (RpR K) (Itt K a) F ds := by
  intro i F' H s1 s2
  have hq : SqT K H a vs := (seqT_same s2 (seqT_same s1 h)).sq
  refine ⟨fun d e => ?_, fun hl => ⟨vs, hq, by rw [r.length]; exact hl⟩⟩
  obtain ⟨v, e1, e2⟩ := r.get e
  refine ⟨⟨vs, v, hq, e1⟩, fun x H' ⟨e3, e4⟩ => ?_⟩
  subst e3
  have e5 := e4 vs hq
  rw [e1] at e5; cases e5
  exact .inl ⟨rfl, dp_same s1 e2⟩
theorem wk_range {K : PySem.W.Frag} {F : Hp} {lo : Int} {m : Nat} : Wk (RpR K) (Itr lo m) F ((List.range m).map fun k => PyData.int (lo + (k : Nat))) := by
  intro i F' H s1 s2
  refine ⟨fun d e => ?_, fun hl => show m ≤ i by simpa using hl⟩
  rw [List.getElem?_map] at e
  obtain ⟨k, e1, e2⟩ := Option.map_eq_some_iff.mp e
  have hk := List.getElem?_eq_some_iff.mp e1
  obtain ⟨h1, h2⟩ := hk
  rw [List.getElem_range] at h2
  subst h2 e2
  refine ⟨show i < m by simpa using h1, fun x H' ⟨e3, e4⟩ => ?_⟩
  subst e3 e4
  exact .inl ⟨rfl, .int _⟩
def iSeq (te : DT) : DTl := fun env Q => te env fun ev env1 => as1 ev fun d => wr (seqD d) fun ds => Q ds env1
theorem di_seq {tg e : Expr} {te : DT} (h : DE X e te) : DI X (RpR X.K) tg e (iSeq te) := by
  refine ⟨fun env Q Q' i q => h.mono _ _ _ (fun ev env1 q => as1_mono (fun d q => wr_mono (fun ds q => i _ _ q) q) q) q, (pi_sq h.run).mono fun σ H Q => ?_⟩
  rintro ⟨F, env, R, q⟩
  refine ⟨F, env, R, h.mono _ _ _ (fun ev env1 q F1 H1 v E1 R1 V1 => ?_) q⟩
  obtain ⟨d, rfl, q'⟩ := as1_get q
  obtain ⟨ds, e, q⟩ := wr_get q'
  have V1 : Rp X.K F1 v d := V1
  cases V1 with
  | lst h1 a => cases e; exact ⟨_, rfl, .inl ⟨⟨_, SqL.of (R1.sub _ _ h1)⟩, q F1 H1 _ E1 R1 (wk_list h1 a)⟩⟩
  | tup h1 a => cases e; exact ⟨_, rfl, .inr ⟨⟨_, (seqT_same R1.sub h1).sq⟩, q F1 H1 _ E1 R1 (wk_tup h1 a)⟩⟩
  | _ => cases e
def rngL (lo : Int) (hi : Int) : List Dt := (List.range (hi - lo).toNat).map fun k => PyData.int (lo + (k : Nat))
def big62 : Int := 4611686018427387904
def iRng (te : DT) : DTl := fun env Q => te env fun ev env1 => as1 ev fun d => match d with
  | .int j => (-(2 ^ 62) ≤ j ∧ j < 2 ^ 62) ∧ Q (rngL 0 j) env1
  | _ => False
theorem di_range {tg e : Expr} {te : DT} {p : Pos} (hg : Gl X "range") (hm : X.mg "range" = none) (h : DE X e te) (hs : starEach [e] X.env = [(false, eval e X.env)] := by rfl) : DI X (RpR X.K) tg (.Call (.Name "range" p) [e] [] pos) (iRng te) := by
  refine ⟨fun env Q Q' i q => h.mono _ _ _ (fun ev env1 q => as1_mono (fun d q => ?_) q) q, (pi_range1 hg hm (pa_cons h.run pa_nil hs) hs).mono fun σ H Q => ?_⟩
  · revert q
    dsimp only
    split
    · exact fun q => ⟨q.1, i _ _ q.2⟩
    · exact fun q => q
  · rintro ⟨F, env, R, q⟩
    refine ⟨F, env, R, h.mono _ _ _ (fun ev env1 q F1 H1 v E1 R1 V1 => ?_) q⟩
    obtain ⟨d, rfl, q'⟩ := as1_get q
    replace q := q'
    dsimp only at q
    split at q
    · rename_i j
      have V1 : Rp X.K F1 v (.int j) := V1
      cases V1
      refine ⟨j, rfl, q.1.1, q.1.2, q.2 F1 H1 _ E1 R1 ?_⟩
      have := wk_range (K := X.K) (F := F1) (lo := 0) (m := j.toNat)
      unfold rngL
      rw [Int.sub_zero]
      exact this
    · exact q.elim
def iRng2 (ta : DTa) : DTl := fun env Q => ta env fun evs env1 => asD evs fun ds => match ds with
  | [.int i, .int j] => (-(2 ^ 62) ≤ i ∧ i < 2 ^ 62 ∧ -(2 ^ 62) ≤ j ∧ j < 2 ^ 62) ∧ Q (rngL i j) env1
  | _ => False
theorem di_range2 {tg a b : Expr} {ta : DTa} {p : Pos} (hg : Gl X "range") (hm : X.mg "range" = none) (h : DA X [a, b] ta) (hs : starEach [a, b] X.env = [(false, eval a X.env), (false, eval b X.env)] := by rfl) (hs2 : starEach [b] X.env = [(false, eval b X.env)] := by rfl) :
    DI X (RpR X.K) tg (.Call (.Name "range" p) [a, b] [] pos) (iRng2 ta) := by
  refine ⟨fun env Q Q' i q => h.mono _ _ _ (fun ev env1 q => asD_mono (fun d q => ?_) q) q, (pi_range2 hg hm h.run hs hs2).mono fun σ H Q => ?_⟩
  · revert q
    dsimp only
    split
    · exact fun q => ⟨q.1, i _ _ q.2⟩
    · exact fun q => q
  · rintro ⟨F, env, R, q⟩
    refine ⟨F, env, R, h.mono _ _ _ (fun evs env1 q F1 H1 vs E1 R1 V1 => ?_) q⟩
    obtain ⟨ds, rfl, q'⟩ := asD_get q
    replace q := q'
    have a := V1.dats
    dsimp only at q
    split at q
    · cases a with
      | cons a1 a =>
        cases a with
        | cons a2 a =>
          cases a
          cases a1
          cases a2
          exact ⟨_, _, rfl, q.1, q.2 F1 H1 _ E1 R1 wk_range⟩
    · exact q.elim

/-! ### for -/
/-- the turns, one by one -/
def dFor (g : DTg) (tb : DTS) (E : DEnds) : List Dt → Dn → Prop
  | [], env => E.nx env
  | d :: ds, env => g d env fun env1 => tb { nx := dFor g tb E ds, ct := dFor g tb E ds, bk := E.nx, rt := E.rt } env1
def sFor (ti : DTl) (g : DTg) (tb : DTS) : DTS := fun E env => ti env fun ds env1 => dFor g tb E ds env1
theorem ds_for {tg iter : Expr} {body : List Stmt} {ti : DTl} {g : DTg} {tb : DTS} (hp : PassesOwn (model X.prog X.w) X.A X.env X.xe) (hc : X.calm = true) {rel : IR} {ws : List Nat} (hi : DI X rel tg iter ti) (hg : DG X n ws rel tg g) (hb : DSs X n body tb)
    (hs : ∀ x, foldedSetIterable iter X.env x = pure x := by intro _; rfl) : DS X n (.For tg iter body [] pos) (sFor ti g tb) := ⟨(ps_for hp hc hi.run hg.run hb.run hs).mono fun D σ H => by
  rintro ⟨F, env, E, R, q, l⟩
  refine ⟨F, env, R, hi.mono _ _ _ (fun ds env1 q F1 H1 J E1 R1 hw => ?_) q⟩
  have l1 := l.move (E1.s (n := n))
  refine ⟨fun i m σ' H' => m = ds.length - i ∧ i ≤ ds.length ∧ ∃ F' env', ExtS n σ env1 F1 H1 σ' env' F' H' ∧ Rep X.K F' H' σ' env' ∧ dFor g tb E (ds.drop i) env', ⟨_, rfl, Nat.zero_le _, F1, env1, ExtS.refl, R1, by simpa using q⟩, ?_⟩
  rintro i m σ' H' ⟨rfl, hi', F', env', E', R', w⟩
  obtain ⟨k1, k2⟩ := hw i F' H' E'.ext.same R'.sub
  by_cases hlt : i < ds.length
  · right
    have e : ds[i]? = some ds[i] := List.getElem?_eq_getElem hlt
    obtain ⟨go, yl⟩ := k1 _ e
    rw [List.drop_eq_getElem_cons hlt] at w
    refine ⟨go, fun σ2 H2 => i + 1 ≤ ds.length ∧ ∃ F2 env2, ExtS n σ env1 F1 H1 σ2 env2 F2 H2 ∧ Rep X.K F2 H2 σ2 env2 ∧ dFor g tb E (ds.drop (i + 1)) env2, fun σ2 H2 ⟨z1, z2⟩ => ⟨_, by omega, rfl, z1, z2⟩, fun x H2 y => ?_⟩
    obtain ⟨R2, E2, r2⟩ := (yl x H2 y).rep R'
    refine ⟨F', env', _, R2, r2, hg.mono _ _ _ _ (fun env3 q σ3 E3 R3 _ => ?_) w⟩
    have E13 : ExtS n σ env1 F1 H1 σ3 env3 F' H2 := (E'.trans E2.s).trans E3
    refine ⟨F', env3, _, R3, q, ⟨fun σ4 env4 F4 H4 E4 R4 z => ⟨hlt, F4, env4, E13.trans E4, R4, z⟩, fun σ4 env4 F4 H4 E4 R4 z => l1.nx _ _ _ _ (E13.trans E4) R4 z, fun σ4 env4 F4 H4 E4 R4 z => ⟨hlt, F4, env4, E13.trans E4, R4, z⟩, fun r v σ4 env4 F4 H4 E4 R4 V4 z => l1.rt _ _ _ _ _ _ (E13.trans E4) R4 (V4.back E13.ext.there) z⟩⟩
  · left
    have e : i = ds.length := by omega
    subst e
    rw [List.drop_length] at w
    exact ⟨k2 (Nat.le_refl _), l1.nx _ _ _ _ E' R' w⟩⟩
/-! ### while: by a word and a measure -/
def sWhile (c : DTb) (tb : DTS) : DTS := fun E env => ∃ W : Nat → Dn → Prop, (∃ m, W m env) ∧ ∀ m env, W m env → c env fun b env1 => if b = true then tb { nx := fun e => ∃ m', m' < m ∧ W m' e, ct := fun e => ∃ m', m' < m ∧ W m' e, bk := E.nx, rt := E.rt } env1 else E.nx env1
theorem ds_while {c : Expr} {body : List Stmt} {tc : DTb} {tb : DTS} (hp : PassesOwn (model X.prog X.w) X.A X.env X.xe) (hc : DB X c tc) (hb : DSs X n body tb) : DS X n (.While c body [] pos) (sWhile tc tb) := ⟨(ps_while hp hc.run hb.run).mono fun D σ H => by
  rintro ⟨F, env, E, R, ⟨W, ⟨m0, w0⟩, turn⟩, l⟩
  refine ⟨fun m σ' H' => ∃ F' env', ExtS n σ env F H σ' env' F' H' ∧ Rep X.K F' H' σ' env' ∧ W m env', ⟨m0, F, env, ExtS.refl, R, w0⟩, ?_⟩
  rintro m σ' H' ⟨F', env', E', R', w⟩
  refine ⟨F', env', R', hc.mono _ _ _ (fun b env1 q F1 H1 E1 R1 => ?_) (turn m env' w)⟩
  cases b
  · exact l.nx _ _ _ _ (E'.trans E1.s) R1 q
  · have E2 : ExtS n σ env F H σ' env1 F1 H1 := E'.trans E1.s
    refine ⟨fun σ2 H2 => ∃ m', m' < m ∧ ∃ F2 env2, ExtS n σ env F H σ2 env2 F2 H2 ∧ Rep X.K F2 H2 σ2 env2 ∧ W m' env2, fun σ2 H2 ⟨m', z1, z2⟩ => ⟨m', z1, z2⟩, F1, env1, _, R1, q, ⟨fun σ4 env4 F4 H4 E4 R4 ⟨m', z1, z2⟩ => ⟨m', z1, F4, env4, E2.trans E4, R4, z2⟩, fun σ4 env4 F4 H4 E4 R4 z => l.nx _ _ _ _ (E2.trans E4) R4 z, fun σ4 env4 F4 H4 E4 R4 ⟨m', z1, z2⟩ => ⟨m', z1, F4, env4, E2.trans E4, R4, z2⟩, fun r v σ4 env4 F4 H4 E4 R4 V4 z => l.rt _ _ _ _ _ _ (E2.trans E4) R4 (V4.back E2.ext.there) z⟩⟩⟩
end
open PySem PySem.Spec L2

/-! ### the block of a comprehension: its own slots are forgotten -/
def wipeD (env : Dn) : List Nat → Dn
  | [] => env
  | v :: vs => (wipeD env vs).set v none
theorem wipeD_length (env : Dn) : ∀ vs : List Nat, (wipeD env vs).length = env.length
  | [] => rfl
  | v :: vs => by unfold wipeD; rw [List.length_set, wipeD_length env vs]
theorem wipeD_some {env : Dn} {i : Nat} {x : Dv} : ∀ {vs : List Nat}, (wipeD env vs)[i]? = some (some x) → env[i]? = some (some x) ∧ i ∉ vs
  | [], h => ⟨h, by simp⟩
  | v :: vs, h => by
    rcases set_get (show ((wipeD env vs).set v none)[i]? = some (some x) from h) with ⟨_, z, _⟩ | ⟨ne, z⟩
    · cases z
    · obtain ⟨h1, h2⟩ := wipeD_some z
      exact ⟨h1, by simp [ne, h2]⟩
section
variable {K : PySem.W.Frag} {F H : Hp} {σ : L2.St} {env : Dn} {vs : List Nat}
theorem wipe_keep {i : Nat} (h : i ∉ vs) : (wipe σ vs)[i]? = σ[i]? := by rw [wipe_get, if_neg h]
theorem Rep.wipe (R : Rep K F H σ env) : Rep K F H (wipe σ vs) (wipeD env vs) := by
  refine ⟨R.sub, by rw [wipeD_length, wipe_length]; exact R.len, fun i dv e => ?_, fun i j o o' p h1 h2 h3 h4 => ?_⟩
  · obtain ⟨e1, e2⟩ := wipeD_some e
    obtain ⟨v, e3, e4⟩ := R.val i dv e1
    exact ⟨v, by rw [wipe_keep e2]; exact e3, e4⟩
  · exact R.inj i j o o' p (wipeD_some h1).1 (wipeD_some h2).1 (wipe_some h3).1 (wipe_some h4).1
theorem Rep.unwipe (R : Rep K F H (L2.wipe σ vs) env) : Rep K F H σ env := by
  have up : ∀ (i : Nat) (o : Ob) (p : Addr), env[i]? = some (some (.obj o)) → σ[i]? = some (some (V.ref p)) → (L2.wipe σ vs)[i]? = some (some (V.ref p)) := fun i o p e h => by
    obtain ⟨v, e1, _⟩ := R.val i _ e
    have e2 := (wipe_some e1).1
    rw [h] at e2; cases e2
    exact e1
  refine ⟨R.sub, by rw [R.len, wipe_length], fun i dv e => ?_, fun i j o o' p h1 h2 h3 h4 => R.inj i j o o' p h1 h2 (up i o p h1 h3) (up j o' p h2 h4)⟩
  obtain ⟨v, e1, e2⟩ := R.val i dv e
  exact ⟨v, (wipe_some e1).1, e2⟩
theorem ow_unwipe (R : Rep K F H (L2.wipe σ vs) env) {a : Addr} (w : Ow σ env a) : Ow (L2.wipe σ vs) env a := by
  obtain ⟨i, o, e, h⟩ := w
  obtain ⟨v, e1, _⟩ := R.val i _ e
  have e2 := (wipe_some e1).1
  rw [h] at e2; cases e2
  exact ⟨i, o, e, e1⟩
theorem ow_wipe {a : Addr} (w : Ow (L2.wipe σ vs) (wipeD env vs) a) : Ow σ env a := by
  obtain ⟨i, o, e, h⟩ := w
  exact ⟨i, o, (wipeD_some e).1, (wipe_some h).1⟩
end

/-! ### comprehensions of one for, with tests or none -/
def dComp (vs : List Nat) (g : DTg) (tt : DTb) (te : DT) (Q : List Dt → Dn → Prop) : List Dt → List Dt → Dn → Prop
  | [], acc, env => Q acc env
  | d :: ds, acc, env => g d env fun env1 => tt env1 fun b env2 => if b = true then te env2 fun ev env3 => as1 ev fun r => dComp vs g tt te Q ds (acc ++ [r]) (wipeD env3 vs) else dComp vs g tt te Q ds acc (wipeD env2 vs)
def kComp (vs : List Nat) (ti : DTl) (g : DTg) (tt : DTb) (te : DT) : DTl := fun env Q => ti env fun ds env1 => lenOk ds.length ∧ dComp vs g tt te Q ds [] (wipeD env1 vs)
theorem dComp_mono {vs : List Nat} {g : DTg} {tt : DTb} {te : DT} (mg : ∀ d env (Q Q' : Dn → Prop), (∀ e, Q e → Q' e) → g d env Q → g d env Q') (mt : MonoB tt) (me : MonoD te) {Q Q' : List Dt → Dn → Prop} (i : ∀ ds env, Q ds env → Q' ds env) :
    ∀ (ds acc : List Dt) (env : Dn), dComp vs g tt te Q ds acc env → dComp vs g tt te Q' ds acc env
  | [], acc, env, h => i _ _ h
  | d :: ds, acc, env, h => mg _ _ _ _ (fun env1 h => mt _ _ _ (fun b env2 h => by
      cases b
      · exact dComp_mono mg mt me i ds _ _ h
      · exact me _ _ _ (fun ev env3 h => as1_mono (fun r h => dComp_mono mg mt me i ds _ _ h) h) h) h) h
def tYesD : DTb := fun env Q => Q true env
structure DTs (X : Cx) (ifs : List Expr) (t : DTb) : Prop where
  mono : MonoB t
  run : PTs X ifs (tDb X.K t)
theorem _root_.L2.PTs.mono {X : Cx} {e : List Expr} {t t' : TT} (h : PTs X e t) (i : ∀ σ H Q, t' σ H Q → t σ H Q) : PTs X e t' := ⟨fun pins s σ H Q I q => h.run pins s σ H Q I (i σ H Q q)⟩
theorem dts_nil {X : Cx} : DTs X [] tYesD := ⟨fun _ _ _ i h => i _ _ h, pts_nil.mono fun σ H Q => by
  rintro ⟨F, env, R, q⟩
  exact q F H Ext.refl R⟩
theorem dts_one {X : Cx} {c : Expr} {t : DTb} (h : DB X c t) : DTs X [c] t := ⟨h.mono, pts_one h.run⟩
section
variable {X : Cx} {n : Nat} {pos : Pos}
theorem comp_run {ti : DTl} {rel : IR} {g : DTg} {tt : DTb} {te : DT} {vs : List Nat} (mi : MonoL ti) (mg : ∀ d env (Q Q' : Dn → Prop), (∀ e, Q e → Q' e) → g d env Q → g d env Q') (mt : MonoB tt) (me : MonoD te) {σ : L2.St} {H : Hp} {Q : VK}
    (h : tDl X.K (kComp vs ti g tt te) σ H Q) : tLc (tDi X.K rel ti) (tDg X.K n vs rel g) (tDb X.K tt) (tD X.K te) vs σ H Q := by
  obtain ⟨F, env, R, q⟩ := h
  refine ⟨F, env, R, mi _ _ _ (fun ds env1 q F1 H1 J E1 R1 hw D hD => ?_) q⟩
  obtain ⟨hz, q⟩ := q
  have R1w : Rep X.K F1 H1 (wipe σ vs) (wipeD env1 vs) := R1.wipe
  obtain ⟨R2w, E2w⟩ := R1w.growN hD (.lst [])
  have ww : wipe (wipe σ vs) vs = wipe σ vs := by
    apply List.ext_getElem?
    intro j
    rw [wipe_get, wipe_get, wipe_length]
    by_cases hj : j ∈ vs <;> simp [hj]
  -- what holds between two turns
  refine ⟨fun i m H' => m = ds.length - i ∧ i ≤ ds.length ∧ ∃ F' env' acc av, Rep X.K F' H' (wipe σ vs) env' ∧ Ext (wipe σ vs) (wipeD env1 vs) F1 H1 (wipe σ vs) env' F' H' ∧ H' D = some (.lst av) ∧ RpAll X.K F' av acc ∧ F' D = none ∧ ¬ Ow (wipe σ vs) env' D ∧ acc.length ≤ i ∧
      dComp vs g tt te (fun ds env' => ∀ F' H' p vs, Ext σ env F H σ env' F' H' → Rep X.K F' H' σ env' → F' p = none → H' p = some (.lst vs) → RpAll X.K F' vs ds → ¬ Ow σ env' p → H p = none → Q (.ref p) H') (ds.drop i) acc env',
    ⟨_, rfl, Nat.zero_le _, F1, wipeD env1 vs, [], [], R2w, E2w, upd_same, .nil, R1.fnone hD, fun w => R1.not_ow hD (ow_wipe w), Nat.le_refl _, by simpa using q⟩, ?_⟩
  rintro i m H' ⟨rfl, hi, F', env', acc, av, R', E', hp, ha, hf, no, hl, w⟩
  obtain ⟨k1, k2⟩ := hw i F' H' E'.same R'.sub
  by_cases hlt : i < ds.length
  · right
    have e : ds[i]? = some ds[i] := List.getElem?_eq_getElem hlt
    obtain ⟨go, yl⟩ := k1 _ e
    rw [List.drop_eq_getElem_cons hlt] at w
    refine ⟨go, _, fun H'' z => ⟨ds.length - (i + 1), by omega, z⟩, fun x H2 y => ?_⟩
    obtain ⟨R2, E2, r2⟩ := (yl x H2 y).rep R'
    refine ⟨F', env', _, R2, r2, mg _ _ _ _ (fun env3 q3 σ3 E3 R3 w3 => ⟨w3.trans ww, F', env3, R3, mt _ _ _ (fun b env4 q4 F4 H4 E4 R4 => ?_) q3⟩) w⟩
    have E24 : Ext (wipe σ vs) env' F' H' σ3 env4 F4 H4 := (E2.trans E3.ext).trans E4
    have hp4 : H4 D = some (.lst av) := E24.keep D _ hp no
    have hf4 : ∀ {σ5 : L2.St} {env5 : Dn} {F5 H5 : Hp}, Ext (wipe σ vs) env' F' H' σ5 env5 F5 H5 → F5 D = none := fun {σ5 env5 F5 H5} E => by
      cases q : F5 D with
      | none => rfl
      | some u =>
        rcases E.new D u q hf with z | z
        · rw [hp] at z; cases z
        · exact absurd z no
    have no4 : ∀ {σ5 : L2.St} {env5 : Dn} {F5 H5 : Hp}, Ext (wipe σ vs) env' F' H' σ5 env5 F5 H5 → ¬ Ow σ5 env5 D := fun {σ5 env5 F5 H5} E z => by
      rcases E.ow D z with z | z
      · exact no z
      · rw [hp] at z; cases z
    -- back to the wiped slots
    have back : ∀ {env5 : Dn} {F5 H5 : Hp}, Rep X.K F5 H5 σ3 env5 → Ext (wipe σ vs) env' F' H' σ3 env5 F5 H5 → Rep X.K F5 H5 (wipe σ vs) (wipeD env5 vs) ∧ Ext (wipe σ vs) env' F' H' (wipe σ vs) (wipeD env5 vs) F5 H5 := fun {env5 F5 H5} R5 E5 => by
      have z : Rep X.K F5 H5 (wipe σ3 vs) (wipeD env5 vs) := R5.wipe
      rw [w3, ww] at z
      refine ⟨z, E5.same, E5.keep, E5.there, E5.new, fun a q => E5.ow a ?_⟩
      rw [show wipe σ vs = wipe σ3 vs from (w3.trans ww).symm] at q
      exact ow_wipe q
    cases b
    · obtain ⟨R5, E5⟩ := back R4 E24
      exact ⟨rfl, hlt, F4, wipeD env4 vs, acc, av, R5, E'.trans E5, hp4, dpAll_same E24.same ha, hf4 E5, no4 E5, by omega, q4⟩
    · refine ⟨F4, env4, R4, me _ _ _ (fun ev env5 q5 F5 H5 y E5 R5 V5 => ?_) q4⟩
      obtain ⟨r, rfl, q5⟩ := as1_get q5
      have E25 := E24.trans E5
      have hp5 : H5 D = some (.lst av) := E25.keep D _ hp no
      obtain ⟨R6, E6⟩ := back R5 E25
      have lz : av.length < sizeLine := by
        have h1 := ha.length
        have h2 : ds.length ≤ sizeLine := hz
        omega
      refine ⟨av, hp5, lz, rfl, hlt, F5, wipeD env5 vs, acc ++ [r], av ++ [y], ?_, ?_, upd_same, (dpAll_same E25.same ha).snoc V5, hf4 E25, no4 E6, by simp; omega, q5⟩
      · refine ⟨fun a u z => ?_, R6.len, fun j dv ej => ?_, R6.inj⟩
        · have z1 := R6.sub a u z
          rw [upd_ne]
          · exact z1
          · intro eq
            subst eq
            rw [hf4 E25] at z; cases z
        · obtain ⟨v, e1, e2⟩ := R6.val j dv ej
          refine ⟨v, e1, ?_⟩
          cases dv with
          | dat d => exact e2
          | obj ob =>
            obtain ⟨p, e3, e4, e5⟩ := e2
            have ne : p ≠ D := fun eq => no4 E6 ⟨j, ob, ej, by rw [e1, e3, eq]⟩
            exact ⟨p, e3, e4, e5.move (Same.refl _) (upd_ne ne)⟩
      · have E7 := E'.trans E6
        refine ⟨E7.same, fun a u z nz => ?_, fun a u z => ?_, E7.new, E7.ow⟩
        · rw [upd_ne (ne_of_none z hD)]; exact E7.keep a u z nz
        · obtain ⟨u', z'⟩ := E7.there a u z
          exact ⟨u', by rw [upd_ne (ne_of_none z hD)]; exact z'⟩
  · left
    have e : i = ds.length := by omega
    subst e
    rw [List.drop_length] at w
    refine ⟨k2 (Nat.le_refl _), ?_⟩
    have E8 : Ext σ env1 F1 H1 σ env' F' H' := ⟨E'.same, fun a u z nz => E'.keep a u z fun o => nz (ow_wipe o), E'.there, fun a u z nz => (E'.new a u z nz).imp id ow_wipe, fun a z => (E'.ow a (ow_unwipe R' z)).imp ow_wipe id⟩
    refine w F' H' D av (E1.trans E8) R'.unwipe hf hp ha (fun z => no (ow_unwipe R' z)) ?_
    cases q : H D with
    | none => rfl
    | some u =>
      obtain ⟨u', z⟩ := E1.there D u q
      rw [hD] at z; cases z
theorem dl_comp {elt tg iter : Expr} {ifs : List Expr} {scope : Scope} {own : List (Str × Nat)} {rel : IR} {ti : DTl} {g : DTg} {tt : DTb} {te : DT} (hc : X.calm = true) (hN : X.N.Nodup) (hi : DI X rel tg iter ti) (ok : BlkOk X.N X.env.scope scope own)
    (hg : ∀ (s : Shared) (H : Hp) (C : Addr) (cl : List (Str × Addr)) (fp : List Addr), DG (X.blk s H scope (compEnvC scope cl C X.env) fp) n (own.map (·.2)) rel tg g) (ht : ∀ (s : Shared) (H : Hp) (C : Addr) (cl : List (Str × Addr)) (fp : List Addr), DTs (X.blk s H scope (compEnvC scope cl C X.env) fp) ifs tt)
    (he : ∀ (s : Shared) (H : Hp) (C : Addr) (cl : List (Str × Addr)) (fp : List Addr), DE (X.blk s H scope (compEnvC scope cl C X.env) fp) elt te) (mg : ∀ d env (Q Q' : Dn → Prop), (∀ e, Q e → Q' e) → g d env Q → g d env Q') (mt : MonoB tt) (me : MonoD te)
    (hs : ∀ x, foldedSetIterable iter X.env x = pure x := by intro _; rfl) : DL X (.ListComp elt [⟨tg, iter, ifs, 0⟩] scope pos) (kComp (own.map (·.2)) ti g tt te) :=
  ⟨fun env Q Q' i q => hi.mono _ _ _ (fun ds env1 q => ⟨q.1, dComp_mono mg mt me i _ _ _ q.2⟩) q, (pe_lc hc hN hi.run ok (fun s H C cl fp => (hg s H C cl fp).run) (fun s H C cl fp => (ht s H C cl fp).run) (fun s H C cl fp => (he s H C cl fp).run) hs).mono fun σ H Q h => comp_run (n := n) hi.mono mg mt me h⟩
end
open PySem PySem.Spec L2

section
variable {X : Cx} {n : Nat} {pos : Pos}
/-! ### name = [.. for ..] -/
theorem lF_imp {t : DTl} (m : MonoL t) {σ : L2.St} {H : Hp} {Q : VK} (h : tD X.K (kLF t) σ H Q) : tDl X.K t σ H Q := by
  obtain ⟨F, env, R, q⟩ := h
  refine ⟨F, env, R, m _ _ _ (fun ds env1 q F1 H1 p vs E1 R1 hf hp a no h0 => ?_) q⟩
  have R2 := R1.seal hf hp no
  refine q (upd F1 p (.lst vs)) H1 (.ref p) ⟨E1.same.trans (same_upd hf), E1.keep, E1.there, fun b u z zn => ?_, E1.ow⟩ R2 (.lst upd_same (dpAll_same (same_upd hf) a))
  by_cases e : b = p
  · subst e; exact .inl h0
  · rw [upd_ne e] at z; exact E1.new b u z zn
theorem lN_imp {t : DTl} (m : MonoL t) {σ : L2.St} {H : Hp} {Q : VK} (h : tD X.K (kLN t) σ H Q) : tDl X.K t σ H Q := by
  obtain ⟨F, env, R, q⟩ := h
  exact ⟨F, env, R, m _ _ _ (fun ds env1 q F1 H1 p vs E1 R1 hf hp a no h0 => q F1 H1 (.ref p) E1 R1 ⟨p, rfl, hf, ⟨vs, hp, a⟩, no, h0⟩) q⟩
theorem set_imp {i : Nat} {te : DT} (m : MonoD te) (hn : n ≤ i) {D : Ends} {σ : L2.St} {H : Hp} (h : tDs X.K n (sSet i te) D σ H) : tD X.K te σ H fun x H1 => D.nx (σ.set i (some x)) H1 := by
  obtain ⟨F, env, E, R, q, l⟩ := h
  refine ⟨F, env, R, m _ _ _ (fun ev env1 q F1 H1 v E1 R1 V1 => ?_) q⟩
  obtain ⟨r, rfl, q'⟩ := retE_get q
  exact l.nx _ _ _ _ (ext_set E1 R1 V1 hn) (rep_set R1 V1) q'
theorem kComp_mono {vs : List Nat} {ti : DTl} {g : DTg} {tt : DTb} {te : DT} (mi : MonoL ti) (mg : ∀ d env (Q Q' : Dn → Prop), (∀ e, Q e → Q' e) → g d env Q → g d env Q') (mt : MonoB tt) (me : MonoD te) : MonoL (kComp vs ti g tt te) :=
  fun env Q Q' i q => mi _ _ _ (fun ds env1 q => ⟨q.1, dComp_mono mg mt me i _ _ _ q.2⟩) q
theorem kLF_mono {t : DTl} (m : MonoL t) : MonoD (kLF t) := fun env Q Q' i q => m _ _ _ (fun ds env1 q => i _ _ q) q
theorem kLN_mono {t : DTl} (m : MonoL t) : MonoD (kLN t) := fun env Q Q' i q => m _ _ _ (fun ds env1 q => i _ _ q) q
section
variable {i : Nat} {y : Str} {py spos : Pos} {elt tg iter : Expr} {ifs : List Expr} {scope : Scope} {own : List (Str × Nat)} {rel : IR} {ti : DTl} {g : DTg} {tt : DTb} {te : DT}
theorem ds_setLcF (hc : X.calm = true) (hN : X.N.Nodup) (hy : X.N[i]? = some y) (hyl : X.env.scope.names.lookup y = some .local)
    (hsw : swapsWith (.ListComp elt [⟨tg, iter, ifs, 0⟩] scope pos) (some (.Name y py)) spos.line X.env = pure true) (hi : DI X rel tg iter ti) (ok : BlkOk X.N X.env.scope scope own)
    (hg : ∀ (s : Shared) (H : Hp) (C : Addr) (cl : List (Str × Addr)) (fp : List Addr), DG (X.blk s H scope (compEnvC scope cl C X.env) fp) n (own.map (·.2)) rel tg g) (ht : ∀ (s : Shared) (H : Hp) (C : Addr) (cl : List (Str × Addr)) (fp : List Addr), DTs (X.blk s H scope (compEnvC scope cl C X.env) fp) ifs tt)
    (he : ∀ (s : Shared) (H : Hp) (C : Addr) (cl : List (Str × Addr)) (fp : List Addr), DE (X.blk s H scope (compEnvC scope cl C X.env) fp) elt te) (mg : ∀ d env (Q Q' : Dn → Prop), (∀ e, Q e → Q' e) → g d env Q → g d env Q') (mt : MonoB tt) (me : MonoD te)
    (hn : n ≤ i := by decide) (hs : ∀ x, foldedSetIterable iter X.env x = pure x := by intro _; rfl) : DS X n (.Assign [.Name y py] (.ListComp elt [⟨tg, iter, ifs, 0⟩] scope pos) spos) (sSet i (kLF (kComp (own.map (·.2)) ti g tt te))) :=
  ⟨(ps_setLc hc hN hy hyl hsw hi.run ok (fun s H C cl fp => (hg s H C cl fp).run) (fun s H C cl fp => (ht s H C cl fp).run) (fun s H C cl fp => (he s H C cl fp).run) hs).mono fun D σ H h =>
    comp_run (n := n) hi.mono mg mt me (lF_imp (kComp_mono hi.mono mg mt me) (set_imp (kLF_mono (kComp_mono hi.mono mg mt me)) hn h))⟩
theorem ds_setLcN (hc : X.calm = true) (hN : X.N.Nodup) (hy : X.N[i]? = some y) (hyl : X.env.scope.names.lookup y = some .local)
    (hsw : swapsWith (.ListComp elt [⟨tg, iter, ifs, 0⟩] scope pos) (some (.Name y py)) spos.line X.env = pure true) (hi : DI X rel tg iter ti) (ok : BlkOk X.N X.env.scope scope own)
    (hg : ∀ (s : Shared) (H : Hp) (C : Addr) (cl : List (Str × Addr)) (fp : List Addr), DG (X.blk s H scope (compEnvC scope cl C X.env) fp) n (own.map (·.2)) rel tg g) (ht : ∀ (s : Shared) (H : Hp) (C : Addr) (cl : List (Str × Addr)) (fp : List Addr), DTs (X.blk s H scope (compEnvC scope cl C X.env) fp) ifs tt)
    (he : ∀ (s : Shared) (H : Hp) (C : Addr) (cl : List (Str × Addr)) (fp : List Addr), DE (X.blk s H scope (compEnvC scope cl C X.env) fp) elt te) (mg : ∀ d env (Q Q' : Dn → Prop), (∀ e, Q e → Q' e) → g d env Q → g d env Q') (mt : MonoB tt) (me : MonoD te)
    (hn : n ≤ i := by decide) (hs : ∀ x, foldedSetIterable iter X.env x = pure x := by intro _; rfl) : DS X n (.Assign [.Name y py] (.ListComp elt [⟨tg, iter, ifs, 0⟩] scope pos) spos) (sSet i (kLN (kComp (own.map (·.2)) ti g tt te))) :=
  ⟨(ps_setLc hc hN hy hyl hsw hi.run ok (fun s H C cl fp => (hg s H C cl fp).run) (fun s H C cl fp => (ht s H C cl fp).run) (fun s H C cl fp => (he s H C cl fp).run) hs).mono fun D σ H h =>
    comp_run (n := n) hi.mono mg mt me (lN_imp (kComp_mono hi.mono mg mt me) (set_imp (kLN_mono (kComp_mono hi.mono mg mt me)) hn h))⟩
end

/-! ### a thing that is written in its place -/
theorem Rep.write {K : PySem.W.Frag} {F H : Hp} {σ : L2.St} {env : Dn} {i : Nat} {p : Addr} {o o' : Ob} {ho : HO} (R : Rep K F H σ env) (e : env[i]? = some (some (.obj o))) (es : σ[i]? = some (some (.ref p))) (hf : F p = none) (r : RepO K F (upd H p ho) p o') :
    Rep K F (upd H p ho) σ (env.set i (some (.obj o'))) ∧ Ext σ env F H σ (env.set i (some (.obj o'))) F (upd H p ho) := by
  have ow : Ow σ env p := ⟨i, o, e, es⟩
  have key : ∀ (j : Nat) (ob : Ob), (env.set i (some (.obj o')))[j]? = some (some (.obj ob)) → ∃ ob', env[j]? = some (some (.obj ob')) := fun j ob q => by
    rcases set_get q with ⟨rfl, _, _⟩ | ⟨_, q⟩
    · exact ⟨o, e⟩
    · exact ⟨ob, q⟩
  refine ⟨⟨fun a u h => ?_, by rw [List.length_set]; exact R.len, fun j dv q => ?_, fun j k ob ob' a h1 h2 h3 h4 => ?_⟩, ⟨Same.refl _, fun a u h no => ?_, fun a u h => ?_, fun a u h z => ?_, fun a w => .inl ?_⟩⟩
  · have ne : a ≠ p := fun z => by rw [z, hf] at h; cases h
    rw [upd_ne ne]; exact R.sub a u h
  · rcases set_get q with ⟨rfl, q, _⟩ | ⟨ne, q⟩
    · cases q
      exact ⟨_, es, p, rfl, hf, r⟩
    · obtain ⟨v, e1, e2⟩ := R.val j dv q
      refine ⟨v, e1, ?_⟩
      cases dv with
      | dat d => exact e2
      | obj ob =>
        obtain ⟨a, e3, e4, e5⟩ := e2
        have nep : a ≠ p := fun z => ne (R.inj j i ob o p q e (by rw [e1, e3, z]) es)
        exact ⟨a, e3, e4, e5.move (Same.refl _) (upd_ne nep)⟩
  · obtain ⟨b1, q1⟩ := key j ob h1
    obtain ⟨b2, q2⟩ := key k ob' h2
    exact R.inj j k b1 b2 a q1 q2 h3 h4
  · have ne : a ≠ p := fun z => no (z ▸ ow)
    rw [upd_ne ne]; exact h
  · by_cases q : a = p
    · subst q; exact ⟨_, upd_same⟩
    · exact ⟨u, by rw [upd_ne q]; exact h⟩
  · rw [z] at h; cases h
  · obtain ⟨j, ob, q, h⟩ := w
    obtain ⟨b1, q1⟩ := key j ob q
    exact ⟨j, b1, q1, h⟩
/-- slot i holds a list that may be written -/
def gL (env : Dn) (i : Nat) (Q : List Dt → Prop) : Prop := match env[i]? with
  | some (some (.obj (.lst xs))) => Q xs
  | _ => False
theorem gL_get {env : Dn} {i : Nat} {Q : List Dt → Prop} (h : gL env i Q) : ∃ xs, env[i]? = some (some (.obj (.lst xs))) ∧ Q xs := by
  unfold gL at h
  split at h
  · exact ⟨_, by assumption, h⟩
  · exact h.elim
theorem gL_mono {env : Dn} {i : Nat} {Q Q' : List Dt → Prop} (m : ∀ xs, Q xs → Q' xs) (h : gL env i Q) : gL env i Q' := by
  unfold gL at h ⊢
  split at h
  · exact m _ h
  · exact h.elim
def kApp (i : Nat) (te : DT) : DT := fun env Q => gL env i fun _ => te env fun ev env1 => as1 ev fun d => gL env1 i fun xs => xs.length < sizeLine ∧ Q (.dat .none) (env1.set i (some (.obj (.lst (xs ++ [d])))))
section
variable {x : Str} {e : Expr} {te : DT} {p apos cpos : Pos}
theorem de_app (i : Nat) (he : DE X e te) (hN : X.N[i]? = some x := by rfl) (hv : Vis X.env.scope x := by first | exact Or.inl rfl | exact Or.inr (Or.inl rfl) | exact Or.inr (Or.inr rfl)) (hd : (x == ("__debug__" : Str)) = false := by decide) (hcd : (x == ("__classdict__" : Str)) = false := by decide)
    (hs : starEach [e] X.env = (false, eval e X.env) :: starEach [] X.env := by rfl) (hbase : attributeBase (.Name x p) "append" X.env (eval (.Name x p) X.env) = eval (.Name x p) X.env := by rfl)
    (hfew : ((backTo cpos (starEach [e] X.env)).all (fun x => !x.1) && (backToKw cpos (keywordEach [] X.env)).all (fun x => x.1.isSome) && decide (([e] : List Expr).length + ([] : List Keyword).length + (if ([] : List Keyword).isEmpty then 0 else 1) < 30)) = true := by rfl) (hline : (apos.endLine == cpos.line) = true := by rfl) :
    DE X (.Call (.Attribute (.Name x p) "append" apos) [e] [] cpos) (kApp i te) := by
  refine ⟨fun env Q Q' m q => gL_mono (fun _ q => he.mono _ _ _ (fun ev env1 q => as1_mono (fun d q => gL_mono (fun xs q => ⟨q.1, m _ _ q.2⟩) q) q) q) q, ?_⟩
  have pe : PE X (.Call (.Attribute (.Name x p) "append" apos) [e] [] cpos) _ := pe_bm PySem.F.plainAttrs_list PySem.F.slot_list_append PySem.F.type_list_append mt_append (pe_var hN hv hd hcd) (pa_cons he.run pa_nil hs) hbase hfew hline hs rfl
  refine pe.mono fun σ H Q => ?_
  rintro ⟨F, env, R, q⟩
  obtain ⟨xs0, e0, q⟩ := gL_get q
  obtain ⟨v0, es, a0, ev0, hf0, vs0, hp0, _⟩ := R.val i _ e0
  subst ev0
  refine ⟨_, es, .inl ⟨rfl, vs0, SqL.of hp0⟩, F, env, R, he.mono _ _ _ (fun ev env1 q F1 H1 y E1 R1 V1 => ?_) q⟩
  obtain ⟨d, rfl, q⟩ := as1_get q
  obtain ⟨xs, e1, hz, q⟩ := gL_get q
  obtain ⟨v1, es1, a1, ev1, hf1, vs1, hp1, ra⟩ := R1.val i _ e1
  rw [es] at es1; cases es1; cases ev1
  obtain ⟨R2, E2⟩ := R1.write (o' := .lst (xs ++ [d])) (ho := .lst (vs1 ++ [y])) e1 es hf1 ⟨_, upd_same, ra.snoc V1⟩
  exact ⟨a0, vs1, y, rfl, rfl, hp1, by rw [ra.length]; exact hz, q F1 _ .non (E1.trans E2) R2 .non⟩
def kExt (i : Nat) (te : DT) : DT := fun env Q => gL env i fun _ => te env fun ev env1 => as1 ev fun d => gL env1 i fun xs => match d with
  | .list ys => xs.length + ys.length ≤ sizeLine ∧ Q (.dat .none) (env1.set i (some (.obj (.lst (xs ++ ys)))))
  | _ => False
theorem de_ext (i : Nat) (he : DE X e te) (hN : X.N[i]? = some x := by rfl) (hv : Vis X.env.scope x := by first | exact Or.inl rfl | exact Or.inr (Or.inl rfl) | exact Or.inr (Or.inr rfl)) (hd : (x == ("__debug__" : Str)) = false := by decide) (hcd : (x == ("__classdict__" : Str)) = false := by decide)
    (hs : starEach [e] X.env = (false, eval e X.env) :: starEach [] X.env := by rfl) (hbase : attributeBase (.Name x p) "extend" X.env (eval (.Name x p) X.env) = eval (.Name x p) X.env := by rfl)
    (hfew : ((backTo cpos (starEach [e] X.env)).all (fun x => !x.1) && (backToKw cpos (keywordEach [] X.env)).all (fun x => x.1.isSome) && decide (([e] : List Expr).length + ([] : List Keyword).length + (if ([] : List Keyword).isEmpty then 0 else 1) < 30)) = true := by rfl) (hline : (apos.endLine == cpos.line) = true := by rfl) :
    DE X (.Call (.Attribute (.Name x p) "extend" apos) [e] [] cpos) (kExt i te) := by
  refine ⟨fun env Q Q' m q => gL_mono (fun _ q => he.mono _ _ _ (fun ev env1 q => as1_mono (fun d q => gL_mono (fun xs q => ?_) q) q) q) q, ?_⟩
  · revert q
    dsimp only
    split
    · exact fun q => ⟨q.1, m _ _ q.2⟩
    · exact fun q => q
  have pe : PE X (.Call (.Attribute (.Name x p) "extend" apos) [e] [] cpos) _ := pe_bm PySem.F.plainAttrs_list PySem.F.slot_list_extend PySem.F.type_list_extend mt_extend (pe_var hN hv hd hcd) (pa_cons he.run pa_nil hs) hbase hfew hline hs rfl
  refine pe.mono fun σ H Q => ?_
  rintro ⟨F, env, R, q⟩
  obtain ⟨xs0, e0, q⟩ := gL_get q
  obtain ⟨v0, es, a0, ev0, hf0, vs0, hp0, _⟩ := R.val i _ e0
  subst ev0
  refine ⟨_, es, .inl ⟨rfl, vs0, SqL.of hp0⟩, F, env, R, he.mono _ _ _ (fun ev env1 q F1 H1 y E1 R1 V1 => ?_) q⟩
  obtain ⟨d, rfl, q'⟩ := as1_get q
  obtain ⟨xs, e1, q⟩ := gL_get q'
  obtain ⟨v1, es1, a1, ev1, hf1, vs1, hp1, ra⟩ := R1.val i _ e1
  rw [es] at es1; cases es1; cases ev1
  dsimp only at q
  split at q
  · have V1 : Rp X.K F1 y _ := V1
    cases V1 with
    | lst hb rb =>
      obtain ⟨R2, E2⟩ := R1.write (o' := .lst (xs ++ _)) (ho := .lst (vs1 ++ _)) e1 es hf1 ⟨_, upd_same, RpAll.append ra rb⟩
      exact ⟨a0, _, vs1, _, rfl, rfl, hp1, R1.sub _ _ hb, by rw [ra.length, rb.length]; exact q.1, q.2 F1 _ .non (E1.trans E2) R2 .non⟩
  · exact q.elim
def kPop (i : Nat) : DT := fun env Q => gL env i fun xs => wr xs.getLast? fun d => Q (.dat d) (env.set i (some (.obj (.lst xs.dropLast))))
theorem de_pop (i : Nat) (hN : X.N[i]? = some x := by rfl) (hv : Vis X.env.scope x := by first | exact Or.inl rfl | exact Or.inr (Or.inl rfl) | exact Or.inr (Or.inr rfl)) (hd : (x == ("__debug__" : Str)) = false := by decide) (hcd : (x == ("__classdict__" : Str)) = false := by decide)
    (hbase : attributeBase (.Name x p) "pop" X.env (eval (.Name x p) X.env) = eval (.Name x p) X.env := by rfl) (hline : (apos.endLine == cpos.line) = true := by rfl) :
    DE X (.Call (.Attribute (.Name x p) "pop" apos) [] [] cpos) (kPop i) := by
  refine ⟨fun env Q Q' m q => gL_mono (fun _ q => wr_mono (fun d q => m _ _ q) q) q, ?_⟩
  have pe : PE X (.Call (.Attribute (.Name x p) "pop" apos) [] [] cpos) _ := pe_bm0 PySem.F.plainAttrs_list PySem.F.slot_list_pop PySem.F.type_list_pop mt_pop (pe_var hN hv hd hcd) hbase hline
  refine pe.mono fun σ H Q => ?_
  rintro ⟨F, env, R, q⟩
  obtain ⟨xs, e0, q⟩ := gL_get q
  obtain ⟨d, ed, q⟩ := wr_get q
  obtain ⟨v0, es, a0, ev0, hf0, vs, hp, ra⟩ := R.val i _ e0
  subst ev0
  rw [List.getLast?_eq_getElem?] at ed
  obtain ⟨v, ev, rv⟩ := ra.get ed
  have hd : RpAll X.K F vs.dropLast xs.dropLast := by
    rw [List.dropLast_eq_take, List.dropLast_eq_take, ra.length]
    exact RpAll.take _ ra
  obtain ⟨R2, E2⟩ := R.write (o' := .lst xs.dropLast) (ho := .lst vs.dropLast) e0 es hf0 ⟨_, upd_same, hd⟩
  exact ⟨_, es, .inl ⟨rfl, vs, SqL.of hp⟩, a0, vs, v, rfl, rfl, hp, by rw [ra.length]; exact ev, q F _ v E2 R2 rv⟩
end

/-! ### xs[::-1] of a list -/
def kRev (te : DT) : DTl := fun env Q => te env fun ev env1 => wr (rs env1 ev) fun d => match d with
  | .list ds => Q ds.reverse env1
  | _ => False
theorem dl_rev {e : Expr} {te : DT} {k : Nat} {p1 p2 p3 : Pos} (h : DE X e te) : DL X (.Subscript e (.Slice none none (some (.UnaryOp .USub (.Constant (.int 1) k p1) p2)) p3) pos) (kRev te) := by
  refine ⟨fun env Q Q' i q => h.mono _ _ _ (fun ev env1 q => wr_mono (fun d q => ?_) q) q, (pe_revL h.run).mono fun σ H Q => ?_⟩
  · revert q
    dsimp only
    split
    · exact fun q => i _ _ q
    · exact fun q => q
  · rintro ⟨F, env, R, q⟩
    refine ⟨F, env, R, h.mono _ _ _ (fun ev env1 q F1 H1 v E1 R1 V1 => ?_) q⟩
    obtain ⟨d, e1, q⟩ := wr_get q
    have tp := tp_of R1 V1 e1
    dsimp only at q
    split at q
    · cases tp with
      | lst hp r =>
        refine ⟨_, _, rfl, SqL.of hp, fun l hl => ?_⟩
        obtain ⟨R2, E2⟩ := R1.growN hl (.lst _)
        refine q F1 _ l _ (E1.trans E2) R2 (R1.fnone hl) upd_same r.reverse (R1.not_ow hl) ?_
        cases e : H l with
        | none => rfl
        | some u =>
          obtain ⟨u', z⟩ := E1.there l u e
          rw [hl] at z; cases z
    · exact q.elim

/-! ### repr -/
def shOk (d : Dt) : Bool := d.showable && !d.hasDict && decide (d.depth ≤ 100) && decide (d.shown.length ≤ sizeLine)
def reprD : List Dt → Option Dt
  | [d] => if shOk d = true then some (.str d.shown) else none
  | _ => none
theorem shOk_get {d : Dt} (h : shOk d = true) : d.showable = true ∧ d.hasDict = false ∧ d.depth ≤ 100 ∧ d.shown.length ≤ sizeLine := by
  unfold shOk at h
  simp only [Bool.and_eq_true, decide_eq_true_eq, Bool.not_eq_true'] at h
  exact ⟨h.1.1.1, h.1.1.2, h.1.2, h.2⟩
def rRepr (K : PySem.W.Frag) : List V → Hp → VK → Prop := fun xs H Q => ∃ x d, xs = [x] ∧ Dp K H x d ∧ shOk d = true ∧ Q (.str d.shown) H
theorem call_reprD (hg : X.A.guards = some []) (hu : X.A.units + 150 < cLine) : CallR X (.builtin "repr") (rRepr X.K) := by
  intro pins s σ H xs us Q I r h
  obtain ⟨x, d, rfl, hd, ok, q⟩ := h
  obtain ⟨u, rfl, ru⟩ := vals1 r
  obtain ⟨as, rd⟩ := Dp.reads I d x u hd ru
  obtain ⟨o1, o2, o3, o4⟩ := shOk_get ok
  have fin : ∀ (h' : Heap) (u : Tok) (tk : Nat), (∀ b o, s.heap.get? b = some o → h'.get? b = some o) → EP X pins σ Q (.str d.shown u) { s with heap := h', toks := tk } := fun h' u tk k => ⟨.str d.shown, H, I.kept k, ⟨u, rfl⟩, q⟩
  cases hd with
  | non =>
    cases ru
    exact P.repr_of_none (by simpa [PyData.shown] using fin s.heap _ _ fun _ _ e => e)
  | bl b =>
    cases ru
    exact P.repr_of_bool (by simpa [PyData.shown] using fin s.heap _ _ fun _ _ e => e)
  | int i =>
    obtain ⟨t, rfl⟩ := ru
    exact P.repr_of_int (by simpa [PyData.showable] using o1) (by simpa [PyData.shown] using fin s.heap _ _ fun _ _ e => e)
  | str y =>
    obtain ⟨t, rfl⟩ := ru
    exact P.repr_of_str (by simpa [PyData.shown] using fin s.heap _ _ fun _ _ e => e) (by simpa [PyData.shown] using o4)
  | lst _ _ =>
    cases ru
    exact repr_of_reads' rd o1 (PyData.noDict_hsm o2) hg (by omega) (fun _ _ e => e) (fun h' u tk k => fin h' u tk k) o4
  | tup _ _ =>
    cases ru
    exact repr_of_reads' rd o1 (PyData.noDict_hsm o2) hg (by omega) (fun _ _ e => e) (fun h' u tk k => fin h' u tk k) o4
theorem lk_repr : LkC X.K (rRepr X.K) reprD := by
  intro F H vs ds d Q sm tv e q
  unfold reprD at e
  split at e
  · split at e
    · rename_i ok
      cases tv with
      | cons h t =>
        cases t
        cases e
        exact ⟨_, _, rfl, (h.rp sm).dp, ok, q _ _ (.old (.str _))⟩
    · cases e
  · cases e
end
open PySem PySem.Spec L2

/-! ### what a def promises, by data -/
abbrev DSp := List Dv → (Dv → Dn → Prop) → Prop
/-- what the first n parameters hold at the end; the others are not told -/
def outP (n m : Nat) (env : Dn) : Dn := env.take n ++ List.replicate (m - n) none
def tSp (K : PySem.W.Frag) (sp : DSp) (vs : List V) (H : Hp) (Q : VK) : Prop := ∃ F as, Rep K F H (vs.map some) (as.map some) ∧
  sp as fun r outs => ∀ F' H' v, Ext (vs.map some) (as.map some) F H (vs.map some) outs F' H' → Rep K F' H' (vs.map some) outs → RepE K F' H' (vs.map some) outs H v r.ev → Q v H'
structure FnG (P : Program) (w : World) (K : PySem.W.Frag) (mg : Str → Option Value) (base : Heap) (k : Nat) (f : Addr) (fd : FuncData) (ps : List Str) (sp : DSp) : Prop where
  mono : ∀ as (Q Q' : Dv → Dn → Prop), (∀ r o, Q r o → Q' r o) → sp as Q → sp as Q'
  run : ∀ (A : Around) (outer : List Env) (s : Shared) (H : Hp) (args : Args) (us : List Value) (vs : List V) (Q : VK), Room k A → A.guards = some [] → Env0 P w K mg base A outer s H → BindsTo s fd args (ps.zip us) → Vals vs us → vs.length = ps.length → tSp K sp vs H Q →
    codeAny (model P w) A (.call (.ref f) args) (CR CX0 outer P w H s Q E0) s
theorem FnG.up {P : Program} {w : World} {K : PySem.W.Frag} {mg : Str → Option Value} {base : Heap} {j k : Nat} {f : Addr} {fd : FuncData} {ps : List Str} {sp : DSp} (F : FnG P w K mg base j f fd ps sp) (h : j ≤ k) : FnG P w K mg base k f fd ps sp :=
  ⟨F.mono, fun A outer s H args us vs Q hr => F.run A outer s H args us vs Q (hr.mono h)⟩
/-- a weaker promise -/
theorem FnG.imp {P : Program} {w : World} {K : PySem.W.Frag} {mg : Str → Option Value} {base : Heap} {k : Nat} {f : Addr} {fd : FuncData} {ps : List Str} {sp sp' : DSp} (F : FnG P w K mg base k f fd ps sp) (m : ∀ as (Q Q' : Dv → Dn → Prop), (∀ r o, Q r o → Q' r o) → sp' as Q → sp' as Q')
    (h : ∀ as Q, sp' as Q → sp as Q) : FnG P w K mg base k f fd ps sp' :=
  ⟨m, fun A outer s H args us vs Q hr hg e0 hb r hl ⟨F0, as, R, q⟩ => F.run A outer s H args us vs Q hr hg e0 hb r hl ⟨F0, as, R, h _ _ q⟩⟩
def startD (N : List Str) (as : List Dv) : Dn := as.map some ++ List.replicate (N.length - as.length) none
theorem startD_some {N : List Str} {as : List Dv} {i : Nat} {d : Dv} (h : (startD N as)[i]? = some (some d)) : as[i]? = some d := by
  unfold startD at h
  by_cases hi : i < as.length
  · rw [List.getElem?_append_left (by simpa using hi), List.getElem?_map] at h
    cases e : as[i]? with
    | none => rw [e] at h; cases h
    | some a => rw [e] at h; cases h; rfl
  · rw [List.getElem?_append_right (by simpa using hi), List.getElem?_replicate] at h
    split at h <;> cases h
theorem start_at {N : List Str} {vs : List V} {i : Nat} {v : V} (h : vs[i]? = some v) : (L2.start N vs)[i]? = some (some v) := by
  have hi := (List.getElem?_eq_some_iff.mp h).1
  unfold L2.start
  rw [List.getElem?_append_left (by simpa using hi), List.getElem?_map, h]
  rfl
theorem start_le {N : List Str} {vs : List V} {i : Nat} {v : V} (h : (L2.start N vs)[i]? = some (some v)) : vs[i]? = some v := by
  unfold L2.start at h
  by_cases hi : i < vs.length
  · rw [List.getElem?_append_left (by simpa using hi), List.getElem?_map] at h
    cases e : vs[i]? with
    | none => rw [e] at h; cases h
    | some a => rw [e] at h; cases h; rfl
  · rw [List.getElem?_append_right (by simpa using hi), List.getElem?_replicate] at h
    split at h <;> cases h
theorem map_some_at {α : Type} {l : List α} {i : Nat} {d : α} : (l.map some)[i]? = some (some d) ↔ l[i]? = some d := by
  rw [List.getElem?_map]
  constructor
  · intro h
    cases e : l[i]? with
    | none => rw [e] at h; cases h
    | some a => rw [e] at h; cases h; rfl
  · intro h
    rw [h]; rfl
theorem outP_some {n m : Nat} {env : Dn} {i : Nat} {d : Dv} (h : (outP n m env)[i]? = some (some d)) : i < n ∧ env[i]? = some (some d) := by
  unfold outP at h
  by_cases hi : i < (env.take n).length
  · rw [List.getElem?_append_left hi] at h
    rw [List.length_take] at hi
    exact ⟨by omega, by rw [← List.getElem?_take_of_lt (by omega : i < n)]; exact h⟩
  · rw [List.getElem?_append_right (by omega), List.getElem?_replicate] at h
    split at h <;> cases h
section
variable {P : Program} {w : World} {K : PySem.W.Frag} {mg : Str → Option Value} {base : Heap}
/-- a def by its body: the body's word of data, at the parameters' data -/
theorem fng_of {k n : Nat} {f : Addr} {name qual : Str} {params : Arguments} {body : List Stmt} {scope : Scope} {dV kV doc pm cdv ct oc : Value} {an od : Option Addr} {osl : Array (Option Value)} {N ps : List Str} {sp : DSp}
    (lk : K.lookup f = some ⟨oc, od, .func (PySem.W.fnOf name qual params body scope dV kV doc pm an cdv ct), osl⟩) (hcd : PySem.W.codeIn K cdv qual = true) (S : FnScope N ps scope) (hn : n ≤ ps.length)
    (mono : ∀ as (Q Q' : Dv → Dn → Prop), (∀ r o, Q r o → Q' r o) → sp as Q → sp as Q')
    (hbody : ∀ (A : Around) (outer : List Env) (s : Shared) (H : Hp) (E : XK), Room k (A.deeper (PyProof.Rows.envOfC qual scope s.heap.objs.size f cdv)) → A.guards = some [] →
      ∃ t, DSs (cxOf CX0 P w K mg base N qual scope f cdv A outer s H E).nox n body t ∧ ∀ as Q, as.length = ps.length → sp as Q → t { nx := fun env => Q (.dat .none) (outP n ps.length env), rt := fun r env => Q r (outP n ps.length env) } (startD N as)) :
    FnG P w K mg base (k + 1) f (PySem.W.fnOf name qual params body scope dV kV doc pm an cdv ct) ps sp := by
  refine ⟨mono, ?_⟩
  intro A outer s H args us vs Q hr hgd e0 hb r hl hsp
  obtain ⟨F, as, R, hsp⟩ := hsp
  have la : as.length = ps.length := by
    have := R.len
    rw [List.length_map, List.length_map] at this
    omega
  have hpl : ps.length ≤ N.length := by have := congrArg List.length S.pre; rw [List.length_take] at this; omega
  have KX : K.In s.heap := e0.mod.kin.keeps fun b o e => (e0.bs b o e).1
  have lim : s.heap.NoLimit := e0.mod.nolimit.keeps fun b o e => (e0.bs b o e).1
  have hkind : ∀ y ∈ ps.zip us, scope.names.lookup y.1 = some .local ∨ (scope.names.lookup y.1 = some .cell ∧ ((cellsFrom (s.heap.objs.size + 1) scope.names []).lookup y.1).isSome = true) := by
    rintro ⟨x, v⟩ hy
    rcases S.par x (List.of_mem_zip hy).1 with q | q
    · exact .inl q
    · exact .inr ⟨q, PySem.W.cellsFrom_some _ _ _ (.inl q)⟩
  apply codeAny_call_function hr.depth (KX _ _ lk) rfl S.co S.gen rfl (PySem.W.codeRec_of KX hcd)
  apply hb
  apply wpAny_newFunctionEnv_cells S.kind hkind
  intro env he s1 x
  subst he
  refine ⟨lim.keeps x.toInCall.keep, codeAny_func ?_⟩
  obtain ⟨t, ht, hq⟩ := hbody A outer s H E0 (hr.deeper _) hgd
  have hq := hq as _ la hsp
  have I : Inv (cxOf CX0 P w K mg base N qual scope f cdv A outer s H E0) [] (L2.start N vs) H s1 := inv_start S hr.hd e0 hl r x
  -- the state at the entry
  have R0 : Rep K F H (L2.start N vs) (startD N as) := by
    refine ⟨R.sub, ?_, fun i dv e => ?_, fun i j o o' p h1 h2 h3 h4 => ?_⟩
    · unfold L2.start startD
      simp only [List.length_append, List.length_map, List.length_replicate]
      omega
    · obtain ⟨v, e1, e2⟩ := R.val i dv (map_some_at.mpr (startD_some e))
      exact ⟨v, start_at (map_some_at.mp e1), e2⟩
    · exact R.inj i j o o' p (map_some_at.mpr (startD_some h1)) (map_some_at.mpr (startD_some h2)) (map_some_at.mpr (start_le h3)) (map_some_at.mpr (start_le h4))
  have ow0 : ∀ a, Ow (L2.start N vs) (startD N as) a → Ow (vs.map some) (as.map some) a := fun a ⟨i, o, h1, h2⟩ => ⟨i, o, map_some_at.mpr (startD_some h1), map_some_at.mpr (start_le h2)⟩
  -- the state at an end
  have fin : ∀ {σ' : L2.St} {env' : Dn} {F' H' : Hp}, ExtS n (L2.start N vs) (startD N as) F H σ' env' F' H' → Rep K F' H' σ' env' → Rep K F' H' (vs.map some) (outP n ps.length env') ∧ Ext (vs.map some) (as.map some) F H (vs.map some) (outP n ps.length env') F' H' ∧ (∀ a, Ow (vs.map some) (outP n ps.length env') a → Ow σ' env' a) := by
    intro σ' env' F' H' E R'
    have at' : ∀ {i : Nat} {d : Dv}, (outP n ps.length env')[i]? = some (some d) → env'[i]? = some (some d) ∧ ∃ v, σ'[i]? = some (some v) ∧ (vs.map some)[i]? = some (some v) := by
      intro i d h
      obtain ⟨hi, e⟩ := outP_some h
      obtain ⟨v, e1, _⟩ := R'.val i d e
      refine ⟨e, v, e1, ?_⟩
      rw [E.par i hi] at e1
      exact map_some_at.mpr (start_le e1)
    have ow' : ∀ a, Ow (vs.map some) (outP n ps.length env') a → Ow σ' env' a := by
      rintro a ⟨i, o, h1, h2⟩
      obtain ⟨e, v, e1, e2⟩ := at' h1
      rw [e2] at h2; cases h2
      exact ⟨i, o, e, e1⟩
    have hlen : n ≤ env'.length := by
      rw [R'.len]
      by_cases hz : n = 0
      · omega
      · have hpar := E.par (n - 1) (by omega)
        have hv : n - 1 < vs.length := by omega
        have := start_at (N := N) (List.getElem?_eq_getElem hv)
        rw [← hpar] at this
        have := (List.getElem?_eq_some_iff.mp this).1
        omega
    refine ⟨⟨R'.sub, ?_, fun i dv e => ?_, fun i j o o' p h1 h2 h3 h4 => ?_⟩, ⟨E.ext.same, fun a u h nw => E.ext.keep a u h fun z => nw (ow0 a z), E.ext.there, fun a u h z => (E.ext.new a u h z).imp id (ow0 a), fun a z => (E.ext.ow a (ow' a z)).imp (ow0 a) id⟩, ow'⟩
    · unfold outP
      rw [List.length_append, List.length_take, List.length_replicate, List.length_map]
      omega
    · obtain ⟨e1, v, e2, e3⟩ := at' e
      obtain ⟨v', e4, e5⟩ := R'.val i dv e1
      rw [e2] at e4; cases e4
      exact ⟨v, e3, e5⟩
    · obtain ⟨a1, v1, a2, a3⟩ := at' h1
      obtain ⟨b1, v2, b2, b3⟩ := at' h2
      rw [a3] at h3; cases h3
      rw [b3] at h4; cases h4
      exact R'.inj i j o o' p a1 b1 a2 b2
  refine wpAny_mono (ht.run.nox.run [] s1 (L2.start N vs) H { nx := fun _ H' => Q .non H', rt := Q } I ⟨F, startD N as, _, R0, hq, ?_⟩) (fun fl s' hs => ?_) fun e s' hs => hs
  · refine ⟨fun σ' env' F' H' E R' z => ?_, fun _ _ _ _ _ _ z => z.elim, fun _ _ _ _ _ _ z => z.elim, fun rr v σ' env' F' H' E R' V z => ?_⟩
    · obtain ⟨R2, E2, _⟩ := fin E R'
      exact z F' H' .non E2 R2 (show Rp K F' .non .none from .non)
    · obtain ⟨R2, E2, o2⟩ := fin E R'
      refine z F' H' v E2 R2 ?_
      cases rr with
      | dat d => exact V
      | obj o =>
        obtain ⟨p, e1, e2, e3, e4, e5⟩ := V
        exact ⟨p, e1, e2, e3, fun z => e4 (o2 p z), e5⟩
  · have done : ∀ {σ' : L2.St} {H' : Hp} {v : V} {u : Value}, Inv (cxOf CX0 P w K mg base N qual scope f cdv A outer s H E0) [] σ' H' s' → RelV v u → Q v H' → CE outer P w H s Q u s' := fun {σ' H' v u} J rv q => ⟨v, H', J.os, J.bare, J.base, J.hok, rv, q⟩
    cases fl with
    | ret u =>
      obtain ⟨v, σ', H', J, rv, q⟩ := hs
      exact done J rv q
    | next =>
      obtain ⟨σ', H', J, q⟩ := hs
      exact done (v := V.non) (u := Value.none) J rfl q
    | brk => obtain ⟨_, _, _, q⟩ := hs; exact q.elim
    | cont => obtain ⟨_, _, _, q⟩ := hs; exact q.elim
end
open PySem PySem.Spec L2

/-! ### arguments by places -/
def getP {α : Type} (l : List α) : List Nat → List α
  | [] => []
  | j :: js => match l[j]? with
    | some a => a :: getP l js
    | none => getP l js
def argO (env : Dn) : Ev → Option Dv
  | .dat d => some (.dat d)
  | .var i => match env[i]? with
    | some o => o
    | none => none
  | .new o => some (.obj o)
def argsO (env : Dn) : List Ev → Option (List Dv)
  | [] => some []
  | e :: r => match argO env e, argsO env r with
    | some d, some ds => some (d :: ds)
    | _, _ => none
/-- behind a call: the slots that were handed on hold what the parameters held at the end -/
def bkA : List Ev → Dn → Dn → Dn
  | .var i :: es, o :: os, env => bkA es os (env.set i o)
  | _ :: es, _ :: os, env => bkA es os env
  | _, _, env => env
def isVar : Ev → Nat → Bool
  | .var i, j => i == j
  | _, _ => false
/-- no slot is handed on twice -/
def okV : List Ev → Bool
  | [] => true
  | .var i :: es => (!es.any fun e => isVar e i) && okV es
  | _ :: es => okV es

section
variable {K : PySem.W.Frag} {F H H0 : Hp} {σ : L2.St} {env : Dn}
/-- the arguments, one by one, apart -/
structure RepP (K : PySem.W.Frag) (F H : Hp) (σ : L2.St) (env : Dn) (H0 : Hp) (vs : List V) (es : List Ev) : Prop where
  len : vs.length = es.length
  val : ∀ (j : Nat) (e : Ev), es[j]? = some e → ∃ v, vs[j]? = some v ∧ RepE K F H σ env H0 v e
  dis : ∀ (j k : Nat) (o o' : Ob) (p : Addr), es[j]? = some (Ev.new o) → es[k]? = some (Ev.new o') → vs[j]? = some (.ref p) → vs[k]? = some (.ref p) → j = k
theorem newAt_of {p : Addr} {o : Ob} : ∀ {vs : List V} {es : List Ev} {k : Nat}, es[k]? = some (Ev.new o) → vs[k]? = some (.ref p) → NewAt p vs es
  | [], _, _, _, h => by simp at h
  | _ :: _, [], _, h, _ => by simp at h
  | v :: vs, e :: es, 0, h1, h2 => by
    simp at h1 h2
    exact .inl ⟨h2, o, h1⟩
  | v :: vs, e :: es, k + 1, h1, h2 => .inr (newAt_of (k := k) (by simpa using h1) (by simpa using h2))
theorem RepA.p : ∀ {vs : List V} {es : List Ev}, RepA K F H σ env H0 vs es → RepP K F H σ env H0 vs es
  | _, _, .nil => ⟨rfl, fun j e h => by simp at h, fun j k o o' p h => by simp at h⟩
  | _, _, .cons h t d => by
    have ih := RepA.p t
    refine ⟨by simp [ih.len], fun j e q => ?_, fun j k o o' p h1 h2 h3 h4 => ?_⟩
    · cases j with
      | zero => simp at q; subst q; exact ⟨_, rfl, h⟩
      | succ j => simpa using ih.val j e (by simpa using q)
    · cases j with
      | zero =>
        cases k with
        | zero => rfl
        | succ k =>
          simp at h1 h2 h3 h4
          exact absurd (newAt_of h2 h4) (d p o h3 h1)
      | succ j =>
        cases k with
        | zero =>
          simp at h1 h2 h3 h4
          exact absurd (newAt_of h1 h3) (d p o' h4 h2)
        | succ k =>
          simp at h1 h2 h3 h4
          rw [ih.dis j k o o' p h1 h2 h3 h4]
theorem argsO_at : ∀ {es : List Ev} {as : List Dv}, argsO env es = some as → as.length = es.length ∧ ∀ (j : Nat) (d : Dv), as[j]? = some d → ∃ e, es[j]? = some e ∧ argO env e = some d
  | [], as, h => by cases h; exact ⟨rfl, fun j d h => by simp at h⟩
  | e :: es, as, h => by
    unfold argsO at h
    split at h
    · rename_i d ds e1 e2
      cases h
      obtain ⟨l, ih⟩ := argsO_at e2
      refine ⟨by simp [l], fun j x q => ?_⟩
      cases j with
      | zero => simp at q; subst q; exact ⟨e, rfl, e1⟩
      | succ j => simpa using ih j x (by simpa using q)
    · cases h
theorem okV_at : ∀ {es : List Ev}, okV es = true → ∀ (j k i : Nat), es[j]? = some (Ev.var i) → es[k]? = some (Ev.var i) → j = k
  | [], _, j, _, _, h, _ => by simp at h
  | e :: es, h, j, k, i, h1, h2 => by
    have ih : okV es = true := by
      cases e <;> simp [okV] at h <;> first | exact h.2 | exact h
    have no : ∀ m, e = Ev.var i → es[m]? = some (Ev.var i) → False := fun m he hm => by
      subst he
      simp only [okV, Bool.and_eq_true, Bool.not_eq_true'] at h
      have := List.any_eq_false.mp h.1 _ (List.mem_of_getElem? hm)
      simp [isVar] at this
    cases j with
    | zero =>
      cases k with
      | zero => rfl
      | succ k => simp at h1 h2; exact (no k h1 h2).elim
    | succ j =>
      cases k with
      | zero => simp at h1 h2; exact (no j h2 h1).elim
      | succ k =>
        simp at h1 h2
        rw [okV_at ih j k i h1 h2]
/-- the callee's state at its entry -/
theorem rep_args {vs : List V} {es : List Ev} {as : List Dv} (R : Rep K F H σ env) (A : RepP K F H σ env H0 vs es) (ok : okV es = true) (ea : argsO env es = some as) : Rep K F H (vs.map some) (as.map some) := by
  obtain ⟨la, at'⟩ := argsO_at ea
  have objAt : ∀ (j : Nat) (o : Ob) (p : Addr), as[j]? = some (.obj o) → vs[j]? = some (.ref p) → (∃ (i : Nat), es[j]? = some (Ev.var i) ∧ env[i]? = some (some (.obj o)) ∧ σ[i]? = some (some (.ref p))) ∨ (es[j]? = some (Ev.new o) ∧ ¬ Ow σ env p) := by
    intro j o p h1 h2
    obtain ⟨e, e1, e2⟩ := at' j _ h1
    obtain ⟨v, e3, e4⟩ := A.val j e e1
    rw [h2] at e3; cases e3
    cases e with
    | dat d => cases e2
    | var i =>
      left
      refine ⟨i, e1, ?_, e4⟩
      simp only [argO] at e2
      cases q : env[i]? with
      | none => rw [q] at e2; cases e2
      | some x => rw [q] at e2; simp at e2; rw [e2]
    | new ob =>
      right
      cases e2
      obtain ⟨p', q1, _, _, q4, _⟩ := e4
      cases q1
      exact ⟨e1, q4⟩
  refine ⟨R.sub, by rw [List.length_map, List.length_map, la, A.len], fun j dv q => ?_, fun j k o o' p h1 h2 h3 h4 => ?_⟩
  · obtain ⟨e, e1, e2⟩ := at' j dv (map_some_at.mp q)
    obtain ⟨v, e3, e4⟩ := A.val j e e1
    refine ⟨v, map_some_at.mpr e3, ?_⟩
    cases e with
    | dat d => cases e2; exact e4
    | var i =>
      simp only [argO] at e2
      cases q : env[i]? with
      | none => rw [q] at e2; cases e2
      | some x =>
        rw [q] at e2
        simp at e2
        subst e2
        obtain ⟨v', q1, q2⟩ := R.val i dv q
        rw [show σ[i]? = some (some v) from e4] at q1; cases q1
        exact q2
    | new ob =>
      cases e2
      obtain ⟨p', q1, q2, q3, _⟩ := e4
      exact ⟨p', q1, q2, q3⟩
  · rcases objAt j o p (map_some_at.mp h1) (map_some_at.mp h3) with ⟨i, a1, a2, a3⟩ | ⟨a1, a2⟩
    · rcases objAt k o' p (map_some_at.mp h2) (map_some_at.mp h4) with ⟨i', b1, b2, b3⟩ | ⟨b1, b2⟩
      · have := R.inj i i' o o' p a2 b2 a3 b3
        subst this
        exact okV_at ok j k i a1 b1
      · exact absurd ⟨i, o, a2, a3⟩ b2
    · rcases objAt k o' p (map_some_at.mp h2) (map_some_at.mp h4) with ⟨i', b1, b2, b3⟩ | ⟨b1, b2⟩
      · exact absurd ⟨i', o', b2, b3⟩ a2
      · exact A.dis j k o o' p a1 b1 (map_some_at.mp h3) (map_some_at.mp h4)
theorem bkA_at : ∀ {es : List Ev} {outs : Dn} {env : Dn} {m : Nat} {dv : Dv}, es.length = outs.length → (bkA es outs env)[m]? = some (some dv) →
    (∃ (j : Nat), es[j]? = some (Ev.var m) ∧ outs[j]? = some (some dv)) ∨ ((∀ (j : Nat), es[j]? ≠ some (Ev.var m)) ∧ env[m]? = some (some dv))
  | [], outs, env, m, dv, _, h => .inr ⟨fun j => by simp, by simpa [bkA] using h⟩
  | e :: es, [], env, m, dv, hl, _ => by simp at hl
  | e :: es, o :: outs, env, m, dv, hl, h => by
    have hl' : es.length = outs.length := by simpa using hl
    have step : ∀ env', (bkA es outs env')[m]? = some (some dv) → (e = Ev.var m → env'[m]? = some o ∨ env'[m]? = none) → (∀ x, e ≠ Ev.var m → env'[m]? = some x → env[m]? = some x) →
        (∃ (j : Nat), (e :: es)[j]? = some (Ev.var m) ∧ (o :: outs)[j]? = some (some dv)) ∨ ((∀ (j : Nat), (e :: es)[j]? ≠ some (Ev.var m)) ∧ env[m]? = some (some dv)) := by
      intro env' h' hm hk
      rcases bkA_at hl' h' with ⟨j, a, b⟩ | ⟨a, b⟩
      · exact .inl ⟨j + 1, by simpa using a, by simpa using b⟩
      · by_cases he : e = Ev.var m
        · left
          refine ⟨0, by simp [he], ?_⟩
          rcases hm he with z | z
          · rw [b] at z; cases z; simp
          · rw [b] at z; cases z
        · right
          refine ⟨fun j q => ?_, hk _ he b⟩
          cases j with
          | zero => simp at q; exact he q
          | succ j => exact a j (by simpa using q)
    cases e with
    | var i =>
      refine step (env.set i o) h (fun he => ?_) (fun x he z => ?_)
      · cases he
        by_cases hlt : m < env.length
        · exact .inl (by rw [List.getElem?_set_self hlt])
        · exact .inr (List.getElem?_eq_none (by simpa using hlt))
      · have ne : i ≠ m := fun q => he (by rw [q])
        rw [List.getElem?_set_ne ne] at z
        exact z
    | dat d => exact step env h (fun he => nomatch he) (fun x _ z => z)
    | new ob => exact step env h (fun he => nomatch he) (fun x _ z => z)
theorem bkA_length : ∀ {es : List Ev} {outs : Dn} {env : Dn}, (bkA es outs env).length = env.length
  | [], _, _ => by simp [bkA]
  | _ :: _, [], env => by cases ‹Ev› <;> simp [bkA]
  | e :: es, o :: os, env => by
    cases e with
    | var i => show (bkA es os (env.set i o)).length = _; rw [bkA_length, List.length_set]
    | dat d => show (bkA es os env).length = _; exact bkA_length
    | new d => show (bkA es os env).length = _; exact bkA_length
/-- the caller's state behind the call -/
theorem rep_back {F0 F' H' : Hp} {env0 : Dn} {vs : List V} {es : List Ev} {as : List Dv} {outs : Dn} (E1 : Ext σ env0 F0 H0 σ env F H) (R : Rep K F H σ env) (A : RepP K F H σ env H0 vs es) (ok : okV es = true) (ea : argsO env es = some as)
    (E : Ext (vs.map some) (as.map some) F H (vs.map some) outs F' H') (R' : Rep K F' H' (vs.map some) outs) :
    Rep K F' H' σ (bkA es outs env) ∧ Ext σ env0 F0 H0 σ (bkA es outs env) F' H' ∧ (∀ p, H p = none → ¬ Ow (vs.map some) outs p → ¬ Ow σ (bkA es outs env) p) := by
  obtain ⟨la, at'⟩ := argsO_at ea
  have lo : es.length = outs.length := by rw [R'.len, List.length_map, A.len]
  -- what was handed on and is owned by the callee was the caller's, or a new thing
  have owA : ∀ a, Ow (vs.map some) (as.map some) a → Ow σ env a ∨ (∃ (j : Nat) (o : Ob), es[j]? = some (Ev.new o) ∧ vs[j]? = some (.ref a)) := by
    rintro a ⟨j, o, h1, h2⟩
    obtain ⟨e, e1, e2⟩ := at' j _ (map_some_at.mp h1)
    obtain ⟨v, e3, e4⟩ := A.val j e e1
    rw [map_some_at.mp h2] at e3; cases e3
    cases e with
    | dat d => cases e2
    | var i =>
      left
      refine ⟨i, o, ?_, e4⟩
      simp only [argO] at e2
      cases q : env[i]? with
      | none => rw [q] at e2; cases e2
      | some x => rw [q] at e2; simp at e2; rw [e2]
    | new ob => exact .inr ⟨j, ob, e1, map_some_at.mp h2⟩
  have newOk : ∀ a, (∃ (j : Nat) (o : Ob), es[j]? = some (Ev.new o) ∧ vs[j]? = some (.ref a)) → H0 a = none := by
    rintro a ⟨j, o, h1, h2⟩
    obtain ⟨v, e3, p, q1, _, _, _, q5⟩ := A.val j _ h1
    rw [h2] at e3; cases e3; cases q1
    exact q5
  have owA0 : ∀ a, Ow (vs.map some) (as.map some) a → Ow σ env0 a ∨ H0 a = none := fun a w => by
    rcases owA a w with z | z
    · exact E1.ow a z
    · exact .inr (newOk a z)
  have hn0 : ∀ a, H a = none → H0 a = none := fun a h => by
    cases q : H0 a with
    | none => rfl
    | some u =>
      obtain ⟨u', z⟩ := E1.there a u q
      rw [h] at z; cases z
  -- a slot that was not handed on
  have apart : ∀ (m : Nat) (o : Ob) (p : Addr), (∀ (j : Nat), es[j]? ≠ some (Ev.var m)) → env[m]? = some (some (.obj o)) → σ[m]? = some (some (.ref p)) → ¬ Ow (vs.map some) (as.map some) p := by
    intro m o p no h1 h2 w
    obtain ⟨j, ob, q1, q2⟩ := w
    obtain ⟨e, e1, e2⟩ := at' j _ (map_some_at.mp q1)
    obtain ⟨v, e3, e4⟩ := A.val j e e1
    rw [map_some_at.mp q2] at e3; cases e3
    cases e with
    | dat d => cases e2
    | var i =>
      simp only [argO] at e2
      cases q : env[i]? with
      | none => rw [q] at e2; cases e2
      | some x =>
        rw [q] at e2
        simp at e2
        subst e2
        have := R.inj i m ob o p q h1 e4 h2
        subst this
        exact no j e1
    | new ob' =>
      obtain ⟨p', z1, _, _, z4, _⟩ := e4
      cases z1
      exact z4 ⟨m, o, h1, h2⟩
  -- what a slot of the caller's holds behind it
  have slot : ∀ (m : Nat) (dv : Dv), (bkA es outs env)[m]? = some (some dv) → ∃ v, σ[m]? = some (some v) ∧ RepV K F' H' v dv ∧ ((∃ (j : Nat), es[j]? = some (Ev.var m) ∧ outs[j]? = some (some dv) ∧ vs[j]? = some v) ∨ ((∀ (j : Nat), es[j]? ≠ some (Ev.var m)) ∧ env[m]? = some (some dv))) := by
    intro m dv h
    rcases bkA_at lo h with ⟨j, a, b⟩ | ⟨a, b⟩
    · obtain ⟨v, e3, e4⟩ := A.val j _ a
      obtain ⟨v', e5, e6⟩ := R'.val j dv b
      have e7 := map_some_at.mp e5
      rw [e3] at e7; cases e7
      exact ⟨v, e4, e6, .inl ⟨j, a, b, e3⟩⟩
    · obtain ⟨v, e1, e2⟩ := R.val m dv b
      refine ⟨v, e1, ?_, .inr ⟨a, b⟩⟩
      cases dv with
      | dat d => exact dp_same E.same e2
      | obj o =>
        obtain ⟨p, e3, e4, e5⟩ := e2
        subst e3
        have ap := apart m o p a b e1
        obtain ⟨u, hu⟩ := e5.some
        refine ⟨p, rfl, ?_, e5.move E.same ((E.keep p u hu ap).trans hu.symm)⟩
        cases q : F' p with
        | none => rfl
        | some x =>
          rcases E.new p x q e4 with z | z
          · rw [hu] at z; cases z
          · exact absurd z ap
  refine ⟨⟨R'.sub, by rw [bkA_length]; exact R.len, fun m dv h => ?_, fun m k o o' p h1 h2 h3 h4 => ?_⟩, ⟨E1.same.trans E.same, fun a u h no => ?_, fun a u h => ?_, fun a u h z => ?_, fun a w => ?_⟩, fun p hp no w => ?_⟩
  · obtain ⟨v, e1, e2, _⟩ := slot m dv h
    exact ⟨v, e1, e2⟩
  · obtain ⟨v, e1, e2, e3⟩ := slot m _ h1
    obtain ⟨v', b1, b2, b3⟩ := slot k _ h2
    rw [h3] at e1; cases e1
    rw [h4] at b1; cases b1
    rcases e3 with ⟨j, x1, x2, x3⟩ | ⟨x1, x2⟩
    · rcases b3 with ⟨j', y1, y2, y3⟩ | ⟨y1, y2⟩
      · have := R'.inj j j' o o' p x2 y2 (map_some_at.mpr x3) (map_some_at.mpr y3)
        subst this
        rw [x1] at y1; cases y1; rfl
      · exfalso
        have ap := apart k o' p y1 y2 h4
        rcases E.ow p ⟨j, o, x2, map_some_at.mpr x3⟩ with z | z
        · exact ap z
        · obtain ⟨q, hq, _⟩ := R.ow_some ⟨k, o', y2, h4⟩
          rw [z] at hq; cases hq
    · rcases b3 with ⟨j', y1, y2, y3⟩ | ⟨y1, y2⟩
      · exfalso
        have ap := apart m o p x1 x2 h3
        rcases E.ow p ⟨j', o', y2, map_some_at.mpr y3⟩ with z | z
        · exact ap z
        · obtain ⟨q, hq, _⟩ := R.ow_some ⟨m, o, x2, h3⟩
          rw [z] at hq; cases hq
      · exact R.inj m k o o' p x2 y2 h3 h4
  · refine E.keep a u (E1.keep a u h no) fun w => ?_
    rcases owA0 a w with z | z
    · exact no z
    · rw [h] at z; cases z
  · obtain ⟨u1, h1⟩ := E1.there a u h
    exact E.there a u1 h1
  · cases q : F a with
    | some x => exact E1.new a x q z
    | none =>
      rcases E.new a u h q with y | y
      · exact .inl (hn0 a y)
      · exact (owA0 a y).symm
  · obtain ⟨m, o, h1, h2⟩ := w
    obtain ⟨v, e1, e2, e3⟩ := slot m _ h1
    rw [h2] at e1; cases e1
    rcases e3 with ⟨j, x1, x2, x3⟩ | ⟨x1, x2⟩
    · rcases E.ow a ⟨j, o, x2, map_some_at.mpr x3⟩ with z | z
      · exact owA0 a z
      · exact .inr (hn0 a z)
    · exact E1.ow a ⟨m, o, x2, h2⟩
  · obtain ⟨m, o, h1, h2⟩ := w
    obtain ⟨v, e1, e2, e3⟩ := slot m _ h1
    rw [h2] at e1; cases e1
    rcases e3 with ⟨j, x1, x2, x3⟩ | ⟨x1, x2⟩
    · exact no ⟨j, o, x2, map_some_at.mpr x3⟩
    · obtain ⟨q, hq, _⟩ := R.ow_some ⟨m, o, x2, h2⟩
      rw [hp] at hq; cases hq
end
open PySem PySem.Spec L2

/-! ### picking -/
theorem getP_at {α : Type} {l : List α} : ∀ {pick : List Nat}, (∀ j ∈ pick, j < l.length) → ∀ i : Nat, (getP l pick)[i]? = pick[i]?.bind fun j => l[j]?
  | [], _, i => by simp [getP]
  | j :: js, h, i => by
    have hj : j < l.length := h j (List.mem_cons_self ..)
    have e : l[j]? = some l[j] := List.getElem?_eq_getElem hj
    have ih := getP_at (pick := js) fun k hk => h k (List.mem_cons_of_mem _ hk)
    unfold getP
    rw [e]
    cases i with
    | zero => simp [e]
    | succ i => simpa using ih i
theorem getP_len {α : Type} {l : List α} : ∀ {pick : List Nat}, (∀ j ∈ pick, j < l.length) → (getP l pick).length = pick.length
  | [], _ => rfl
  | j :: js, h => by
    have hj : j < l.length := h j (List.mem_cons_self ..)
    have e : l[j]? = some l[j] := List.getElem?_eq_getElem hj
    unfold getP
    rw [e]
    simp [getP_len (pick := js) fun k hk => h k (List.mem_cons_of_mem _ hk)]
theorem vals_getP {vs : List V} {us : List Value} (r : Vals vs us) : ∀ (pick : List Nat), Vals (getP vs pick) (getP us pick)
  | [] => .nil
  | j :: js => by
    unfold getP
    cases e : vs[j]? with
    | none => rw [r.none_of e]; exact vals_getP r js
    | some v =>
      obtain ⟨u, e1, e2⟩ := r.get e
      rw [e1]
      exact .cons e2 (vals_getP r js)
theorem nodup_nat {l : List Nat} (h : l.Nodup) {i k j : Nat} (a : l[i]? = some j) (b : l[k]? = some j) : i = k := by
  obtain ⟨l1, e1⟩ := List.getElem?_eq_some_iff.mp a
  obtain ⟨l2, e2⟩ := List.getElem?_eq_some_iff.mp b
  have hp := List.pairwise_iff_getElem.mp h
  rcases Nat.lt_trichotomy i k with z | z | z
  · exact absurd (e1.trans e2.symm) (hp i k l1 l2 z)
  · exact z
  · exact absurd (e2.trans e1.symm) (hp k i l2 l1 z)
section
variable {K : PySem.W.Frag} {F H H0 : Hp} {σ : L2.St} {env : Dn}
theorem RepP.pick {vs : List V} {es : List Ev} {pick : List Nat} (A : RepP K F H σ env H0 vs es) (hp : ∀ j ∈ pick, j < es.length) (nd : pick.Nodup) : RepP K F H σ env H0 (getP vs pick) (getP es pick) := by
  have hp' : ∀ j ∈ pick, j < vs.length := fun j hj => by rw [A.len]; exact hp j hj
  have get : ∀ {i : Nat} {e : Ev}, (getP es pick)[i]? = some e → ∃ j, pick[i]? = some j ∧ es[j]? = some e := by
    intro i e h
    rw [getP_at hp] at h
    obtain ⟨j, h1, h2⟩ := Option.bind_eq_some_iff.mp h
    exact ⟨j, h1, h2⟩
  have getV : ∀ {i j : Nat} {v : V}, pick[i]? = some j → ((getP vs pick)[i]? = some v ↔ vs[j]? = some v) := by
    intro i j v h
    rw [getP_at hp', h]
    rfl
  refine ⟨by rw [getP_len hp, getP_len hp'], fun i e h => ?_, fun i k o o' p h1 h2 h3 h4 => ?_⟩
  · obtain ⟨j, e1, e2⟩ := get h
    obtain ⟨v, e3, e4⟩ := A.val j e e2
    exact ⟨v, (getV e1).mpr e3, e4⟩
  · obtain ⟨j, a1, a2⟩ := get h1
    obtain ⟨j', b1, b2⟩ := get h2
    have := A.dis j j' o o' p a2 b2 ((getV a1).mp h3) ((getV b1).mp h4)
    subst this
    exact nodup_nat nd a1 b1
theorem RepA.move {F' H' : Hp} {env' : Dn} : ∀ {vs : List V} {es : List Ev}, RepA K F H σ env H0 vs es → Ext σ env F H σ env' F' H' → RepA K F' H' σ env' H0 vs es
  | _, _, .nil, _ => .nil
  | _, _, .cons h t d, e => .cons (h.move e) (RepA.move t e) d
theorem RepA.newSome {p : Addr} : ∀ {vs : List V} {es : List Ev}, RepA K F H σ env H0 vs es → NewAt p vs es → ∃ u, H p = some u
  | _, _, .nil, n => n.elim
  | _, _, .cons h t _, n => by
    rcases n with ⟨rfl, o, rfl⟩ | n
    · obtain ⟨q, e, _, r, _⟩ := h
      cases e
      exact r.some
    · exact t.newSome n
theorem newAt_append {p : Addr} : ∀ {vs ws : List V} {es fs : List Ev}, vs.length = es.length → NewAt p (vs ++ ws) (es ++ fs) → NewAt p vs es ∨ NewAt p ws fs
  | [], _, [], _, _, h => .inr h
  | [], _, _ :: _, _, hl, _ => by simp at hl
  | _ :: _, _, [], _, hl, _ => by simp at hl
  | v :: vs, ws, e :: es, fs, hl, h => by
    rcases h with h | h
    · exact .inl (.inl h)
    · rcases newAt_append (by simpa using hl) h with z | z
      · exact .inl (.inr z)
      · exact .inr z
theorem RepA.append {ws : List V} {fs : List Ev} (B : RepA K F H σ env H0 ws fs) : ∀ {vs : List V} {es : List Ev}, RepA K F H σ env H0 vs es → (∀ p, NewAt p vs es → ¬ NewAt p ws fs) → RepA K F H σ env H0 (vs ++ ws) (es ++ fs)
  | _, _, .nil, _ => B
  | _, _, .cons h t d, n => .cons h (RepA.append B t fun p z => n p (.inr z)) fun p o e1 e2 z => by
    rcases newAt_append t.length z with z | z
    · exact d p o e1 e2 z
    · exact n p (.inl ⟨e1, o, e2⟩) z
theorem repA_dats : ∀ {vs : List V} {ds : List Dt}, RpAll K F vs ds → RepA K F H σ env H0 vs (ds.map Ev.dat)
  | _, _, .nil => .nil
  | _, _, .cons h t => .cons h (repA_dats t) fun p o _ e => by cases e
theorem newAt_dats {p : Addr} : ∀ {vs : List V} {ds : List Dt}, ¬ NewAt p vs (ds.map Ev.dat)
  | [], _, h => by cases ‹List Dt› <;> exact h
  | _ :: _, [], h => h
  | _ :: _, _ :: _, h => by
    rcases h with ⟨_, _, e⟩ | h
    · cases e
    · exact newAt_dats h
end

/-! ### keywords of a call -/
structure DKw (X : Cx) (kws : List Keyword) (t : DTa) : Prop where
  mono : MonoA t
  run : PK X kws (tDa X.K t)
theorem _root_.L2.PK.mono {X : Cx} {e : List Keyword} {t t' : TA} (h : PK X e t) (i : ∀ σ H Q, t' σ H Q → t σ H Q) : PK X e t' := ⟨fun pos pins s σ H Q I q => h.run pos pins s σ H Q I (i σ H Q q)⟩
section
variable {X : Cx} {n : Nat} {pos : Pos}
theorem dk_nil : DKw X [] kNil := by
  refine ⟨fun env Q Q' i h => i _ _ h, pk_nil.mono fun σ H Q => ?_⟩
  rintro ⟨F, env, R, q⟩
  exact q F H [] Ext.refl R .nil
theorem dk_cons {nm : Option Str} {e : Expr} {kpos : Pos} {kws : List Keyword} {t : DT} {u : DTa} (ha : DE X e t) (hr : DKw X kws u) : DKw X (⟨nm, e, kpos⟩ :: kws) (kCons t u) := by
  refine ⟨fun env Q Q' i h => ha.mono _ _ _ (fun ev env1 h1 => hr.mono _ _ _ (fun evs env2 h2 => i _ _ h2) h1) h, (pk_cons ha.run hr.run).mono fun σ H Q => ?_⟩
  rintro ⟨F, env, R, q⟩
  refine ⟨F, env, R, ha.mono _ _ _ (fun ev env1 h1 F1 H1 v E1 R1 V1 => ⟨F1, env1, R1, hr.mono _ _ _ (fun evs env2 h2 F2 H2 vs E2 R2 V2 => ?_) h1⟩) q⟩
  refine h2 F2 H2 (v :: vs) (E1.trans E2) R2 (.cons (V1.move E2) (V2.back E1.there) fun p o e1 e2 nw => ?_)
  have z := V2.newNone nw
  subst e1 e2
  obtain ⟨q, e, _, r, _⟩ := V1
  cases e
  obtain ⟨u, hu⟩ := r.some
  rw [z] at hu; cases hu
/-- how the parameters are bound at a call of this form: nP places, keywords ks, the defaults dvs, each parameter by its place in all of these -/
structure BindP (K : PySem.W.Frag) (fd : FuncData) (ps : List Str) (nP : Nat) (ks : List Str) (dvs : List V) (pick : List Nat) : Prop where
  to : ∃ ds : List Value, Vals dvs ds ∧ ∀ (s : Shared) (us ws : List Value), K.In s.heap → us.length = nP → ws.length = ks.length → BindsTo s fd ⟨us, ks.zip ws⟩ (ps.zip (getP (us ++ ws ++ ds) pick))
  len : pick.length = ps.length
  lt : ∀ j ∈ pick, j < nP + ks.length + dvs.length
  nd : pick.Nodup
def kFn (sp : DSp) (nP nK : Nat) (dd : List Dt) (pick : List Nat) (t tk : DTa) : DT := fun env Q => t env fun evs env1 => tk env1 fun kevs env2 => evs.length = nP ∧ kevs.length = nK ∧
  okV (getP (evs ++ kevs ++ dd.map Ev.dat) pick) = true ∧ wr (argsO env2 (getP (evs ++ kevs ++ dd.map Ev.dat) pick)) fun as => sp as fun r outs => Q r.ev (bkA (getP (evs ++ kevs ++ dd.map Ev.dat) pick) outs env2)
theorem run_g {k : Nat} {f : Addr} {fd : FuncData} {ps : List Str} {sp : DSp} {pins : List (Addr × Obj)} {σ : L2.St} {H : Hp} {s : Shared} {Q : VK} {us us' : List Value} {kw : List (Str × Value)} {vs' : List V} (F : FnG X.prog X.w X.K X.mg X.base k f fd ps sp) (hr : Room k X.A) (hgd : X.A.guards = some [])
    (I : Inv X pins σ H s) (b : BindsTo s fd ⟨us, kw⟩ (ps.zip us')) (r : Vals vs' us') (hl : vs'.length = ps.length) (h : tSp X.K sp vs' H Q) : wpAny (model X.prog X.w) X.A (call (.ref f) us kw) (EP X pins σ Q) X.xe s := by
  refine wpAny_call (codeAny_mono (F.run X.A X.stack s H ⟨us, kw⟩ us' vs' Q hr hgd I.env0 b r hl h) ?_)
  intro rr s' hq
  cases rr with
  | error e => exact (show False from hq).elim
  | ok fl =>
    cases fl with
    | ret u => exact I.after hq
    | next => exact (show False from hq).elim
    | brk => exact (show False from hq).elim
    | cont => exact (show False from hq).elim
def tCG (K : PySem.W.Frag) (sp : DSp) (nP nK : Nat) (dvs : List V) (pick : List Nat) (t tk : TA) : TE := fun σ H Q => t σ H fun vs H1 => tk σ H1 fun zs H2 => vs.length = nP ∧ zs.length = nK ∧ tSp K sp (getP (vs ++ zs ++ dvs) pick) H2 Q
section
variable {k nP : Nat} {f : Addr} {fd : FuncData} {ps ks : List Str} {sp : DSp} {dvs : List V} {dd : List Dt} {pick : List Nat} {x : Str} {p : Pos} {e : Expr} {es : List Expr} {kws : List Keyword} {t tk : DTa}
theorem kFn_mono (F : FnG X.prog X.w X.K X.mg X.base k f fd ps sp) {nK : Nat} (mt : MonoA t) (mk : MonoA tk) : MonoD (kFn sp nP nK dd pick t tk) := fun env Q Q' i q =>
  mt _ _ _ (fun evs env1 q => mk _ _ _ (fun kevs env2 q => ⟨q.1, q.2.1, q.2.2.1, wr_mono (fun as q => F.mono _ _ _ (fun r o q => i _ _ q) q) q.2.2.2⟩) q) q
theorem kFn_run (F : FnG X.prog X.w X.K X.mg X.base k f fd ps sp) (hb : BindP X.K fd ps nP ks dvs pick) (hd : RpAll X.K (fun _ => none) dvs dd) (mt : MonoA t) (mk : MonoA tk) {σ : L2.St} {H : Hp} {Q : VK} (h : tD X.K (kFn sp nP ks.length dd pick t tk) σ H Q) : tCG X.K sp nP ks.length dvs pick (tDa X.K t) (tDa X.K tk) σ H Q := by
  obtain ⟨F0, env, R, q⟩ := h
  refine ⟨F0, env, R, mt _ _ _ (fun evs env1 q F1 H1 vs E1 R1 V1 => ⟨F1, env1, R1, mk _ _ _ (fun kevs env2 q F2 H2 zs E2 R2 V2 => ?_) q⟩) q⟩
  obtain ⟨l1, l2, ok, q⟩ := q
  obtain ⟨as, ea, q⟩ := wr_get q
  have E12 := E1.trans E2
  have A1 : RepA X.K F2 H2 σ env2 H vs evs := V1.move E2
  have A2 : RepA X.K F2 H2 σ env2 H zs kevs := V2.back E1.there
  have A12 : RepA X.K F2 H2 σ env2 H (vs ++ zs) (evs ++ kevs) := A2.append A1 fun p n1 n2 => by
    obtain ⟨u, hu⟩ := V1.newSome n1
    have z := V2.newNone n2
    rw [hu] at z; cases z
  have hd' : RpAll X.K F2 dvs dd := dpAll_same (fun _ u z => absurd (show (none : Option HO) = some u from z) (by simp)) hd
  have A3 : RepA X.K F2 H2 σ env2 H (vs ++ zs ++ dvs) (evs ++ kevs ++ dd.map Ev.dat) := (repA_dats hd').append A12 fun p _ n2 => newAt_dats n2
  have hl : (evs ++ kevs ++ dd.map Ev.dat).length = nP + ks.length + dvs.length := by
    rw [List.length_append, List.length_append, l1, l2, List.length_map, hd.length]
  have AP := A3.p.pick (pick := pick) (fun j hj => by rw [hl]; exact hb.lt j hj) hb.nd
  refine ⟨by rw [V1.length]; exact l1, by rw [V2.length]; exact l2, F2, as, rep_args R2 AP ok ea, F.mono _ _ _ (fun r outs q F3 H3 v E3 R3 V3 => ?_) q⟩
  obtain ⟨R4, E4, n4⟩ := rep_back E12 R2 AP ok ea E3 R3
  refine q F3 H3 v E4 R4 ?_
  cases r with
  | dat d => exact V3
  | obj o =>
    obtain ⟨p, e1, e2, e3, e4, e5⟩ := V3
    refine ⟨p, e1, e2, e3, n4 p e5 e4, ?_⟩
    cases z : H p with
    | none => rfl
    | some u =>
      obtain ⟨u', z'⟩ := E12.there p u z
      rw [e5] at z'; cases z'
/-- f(e, ..) -/
theorem de_fn (F : FnG X.prog X.w X.K X.mg X.base k f fd ps sp) (hr : Room k X.A) (hgd : X.A.guards = some []) (hg : Gl X x) (hm : X.mg x = some (.ref f)) (hk : PySem.W.keepIn X.K (.ref f) = true) (hb : BindP X.K fd ps nP [] dvs pick) (hd : RpAll X.K (fun _ => none) dvs dd) (ha : DA X (e :: es) t)
    (hdb : (x == ("__debug__" : Str)) = false := by decide) (he : starEach (e :: es) X.env = (false, eval e X.env) :: starEach es X.env := by rfl) (hpl : (backTo pos (starEach es X.env)).any (·.1) = false := by rfl) :
    DE X (.Call (.Name x p) (e :: es) [] pos) (kFn sp nP 0 dd pick t kNil) := by
  have mk : MonoA kNil := fun env Q Q' i h => i _ _ h
  have pe : PE X (.Call (.Name x p) (e :: es) [] pos) (tCG X.K sp nP 0 dvs pick (tDa X.K t) tNil) := by
    constructor
    intro pins s σ H Q I h
    apply wpAny_Call_Name_kw
    apply ld_glob I hg hm _ hdb
    refine PySem.W.callWith_K (h₀ := X.base) I.ok.mod.kin hk (thn (ha.run.run pos pins s σ H _ I h) ?_) he hpl
    rintro us s1 ⟨vs, H1, I1, r, l1, _, q⟩
    refine ⟨I1.kIn, ?_⟩
    obtain ⟨ds, rd, to⟩ := hb.to
    have b := to s1 us [] I1.kIn (by rw [← r.length]; exact l1) rfl
    have rr : Vals (getP (vs ++ [] ++ dvs) pick) (getP (us ++ [] ++ ds) pick) := vals_getP (by rw [List.append_nil, List.append_nil]; exact r.append rd) pick
    refine run_g F hr hgd I1 b rr ?_ q
    rw [getP_len]
    · exact hb.len
    · intro j hj
      have := hb.lt j hj
      rw [List.length_append, List.length_append, l1]
      exact this
  exact ⟨kFn_mono F ha.mono mk, pe.mono fun σ H Q h => by
    have z := kFn_run (ks := []) F hb hd ha.mono mk h
    obtain ⟨F0, env, R, q⟩ := z
    refine ⟨F0, env, R, ha.mono _ _ _ (fun evs env1 q F1 H1 vs E1 R1 V1 => ?_) q⟩
    obtain ⟨F2, env2, R2, q2⟩ := q F1 H1 vs E1 R1 V1
    exact q2 F2 H1 [] Ext.refl R2 .nil⟩
/-- f() -/
theorem de_fn0 (F : FnG X.prog X.w X.K X.mg X.base k f fd ps sp) (hr : Room k X.A) (hgd : X.A.guards = some []) (hg : Gl X x) (hm : X.mg x = some (.ref f)) (hk : PySem.W.keepIn X.K (.ref f) = true) (hb : BindP X.K fd ps 0 [] dvs pick) (hd : RpAll X.K (fun _ => none) dvs dd)
    (hdb : (x == ("__debug__" : Str)) = false := by decide) : DE X (.Call (.Name x p) [] [] pos) (kFn sp 0 0 dd pick kNil kNil) := by
  have mk : MonoA kNil := fun env Q Q' i h => i _ _ h
  have pe : PE X (.Call (.Name x p) [] [] pos) (tCG X.K sp 0 0 dvs pick tNil tNil) := by
    constructor
    intro pins s σ H Q I h
    apply wpAny_Call_Name_kw
    apply ld_glob I hg hm _ hdb
    obtain ⟨_, _, q⟩ := h
    obtain ⟨ds, rd, to⟩ := hb.to
    have b := to s [] [] I.kIn rfl rfl
    have rr : Vals (getP ([] ++ [] ++ dvs) pick) (getP ([] ++ [] ++ ds) pick) := vals_getP rd pick
    refine PySem.W.callWith_K0 I.kIn hk (run_g F hr hgd I b rr ?_ q)
    rw [getP_len]
    · exact hb.len
    · intro j hj
      have := hb.lt j hj
      simpa using this
  exact ⟨kFn_mono F mk mk, pe.mono fun σ H Q h => by
    obtain ⟨F0, env, R, q⟩ := kFn_run (ks := []) F hb hd mk mk h
    obtain ⟨F2, env2, R2, q2⟩ := q F0 H [] Ext.refl R .nil
    exact q2 F2 H [] Ext.refl R2 .nil⟩
/-- f(e, .., k = v, ..) -/
theorem de_fnK (F : FnG X.prog X.w X.K X.mg X.base k f fd ps sp) (hr : Room k X.A) (hgd : X.A.guards = some []) (hg : Gl X x) (hm : X.mg x = some (.ref f)) (hk : PySem.W.keepIn X.K (.ref f) = true) (hb : BindP X.K fd ps nP ks dvs pick) (hd : RpAll X.K (fun _ => none) dvs dd) (ha : DA X (e :: es) t) (hkw : DKw X kws tk)
    (hall : (backToKw pos (keywordEach kws X.env)).all (·.1.isSome) = true := by rfl) (hks : (backToKw pos (keywordEach kws X.env)).filterMap (·.1) = ks := by rfl)
    (hdb : (x == ("__debug__" : Str)) = false := by decide) (he : starEach (e :: es) X.env = (false, eval e X.env) :: starEach es X.env := by rfl)
    (hpl : ((backTo pos (starEach (e :: es) X.env)).any (·.1) || (backToKw pos (keywordEach kws X.env)).any (·.1.isNone)) = false := by rfl) :
    DE X (.Call (.Name x p) (e :: es) kws pos) (kFn sp nP ks.length dd pick t tk) := by
  have pe : PE X (.Call (.Name x p) (e :: es) kws pos) (tCG X.K sp nP ks.length dvs pick (tDa X.K t) (tDa X.K tk)) := by
    constructor
    intro pins s σ H Q I h
    apply wpAny_Call_Name_kw
    apply ld_glob I hg hm _ hdb
    refine PySem.W.callWith_KW (h₀ := X.base) I.ok.mod.kin hk hall (thn (ha.run.run pos pins s σ H _ I h) ?_) hpl he
    rintro us s1 ⟨vs, H1, I1, r, q⟩
    refine thn (hkw.run.run pos pins s1 σ H1 _ I1 q) ?_
    rintro ws s2 ⟨zs, H2, I2, rz, l1, l2, q2⟩
    refine ⟨I2.kIn, ?_⟩
    rw [hks]
    obtain ⟨ds, rd, to⟩ := hb.to
    have b := to s2 us ws I2.kIn (by rw [← r.length]; exact l1) (by rw [← rz.length]; exact l2)
    refine run_g F hr hgd I2 b (vals_getP ((r.append rz).append rd) pick) ?_ q2
    rw [getP_len]
    · exact hb.len
    · intro j hj
      have := hb.lt j hj
      rw [List.length_append, List.length_append, l1, l2]
      exact this
  exact ⟨kFn_mono F ha.mono hkw.mono, pe.mono fun σ H Q h => kFn_run F hb hd ha.mono hkw.mono h⟩
end
end
open PySem PySem.Spec L2

/-! ### dicts with text keys, held by a slot -/
def getS (kvs : List (Str × Dt)) (k : Str) : Option Dt := (kvs.find? fun kv => decide (kv.1 = k)).map (·.2)
def putS (kvs : List (Str × Dt)) (k : Str) (d : Dt) : List (Str × Dt) := if (kvs.any fun kv => decide (kv.1 = k)) = true then kvs.map (fun kv => if kv.1 = k then (kv.1, d) else kv) else kvs ++ [(k, d)]
def mergeS (kvs more : List (Str × Dt)) : List (Str × Dt) := more.foldl (fun acc kv => putS acc kv.1 kv.2) kvs
def parS : List Dt → Option (List (Str × Dt))
  | [] => some []
  | .tuple [.str k, d] :: r => (parS r).map fun l => (k, d) :: l
  | _ :: _ => none
section
variable {K : PySem.W.Frag} {F : Hp}
theorem inr_dec (a b : Str) : decide ((Sum.inr a : Key) = Sum.inr b) = decide (a = b) := by
  by_cases e : a = b
  · subst e; simp
  · rw [decide_eq_false e, decide_eq_false fun z => e (Sum.inr.inj z)]
theorem kvR_get {k : Str} : ∀ {vs : List (Key × V)} {kvs : List (Str × Dt)}, KvR K F vs kvs → (getS kvs k = none ∧ valV vs (Sum.inr k) = none) ∨ ∃ d v, getS kvs k = some d ∧ valV vs (Sum.inr k) = some v ∧ Rp K F v d
  | [], [], _ => .inl ⟨rfl, rfl⟩
  | (a, v) :: vs, (x, d) :: kvs, ⟨h1, h2, h3⟩ => by
    subst h1
    have ih := kvR_get (k := k) h3
    unfold getS valV at ih ⊢
    simp only [List.find?_cons, inr_dec]
    by_cases e : x = k
    · simp only [decide_eq_true e]
      exact .inr ⟨d, v, rfl, rfl, h2⟩
    · simp only [decide_eq_false e]
      exact ih
  | [], _ :: _, h => h.elim
  | _ :: _, [], h => h.elim
theorem kvR_any {k : Str} : ∀ {vs : List (Key × V)} {kvs : List (Str × Dt)}, KvR K F vs kvs → (vs.any fun kv => decide (kv.1 = Sum.inr k)) = kvs.any fun kv => decide (kv.1 = k)
  | [], [], _ => rfl
  | (a, v) :: vs, (x, d) :: kvs, ⟨h1, _, h3⟩ => by
    subst h1
    simp only [List.any_cons, kvR_any h3, inr_dec]
  | [], _ :: _, h => h.elim
  | _ :: _, [], h => h.elim
theorem kvR_map {k : Str} {v : V} {d : Dt} (r : Rp K F v d) : ∀ {vs : List (Key × V)} {kvs : List (Str × Dt)}, KvR K F vs kvs → KvR K F (vs.map fun kv => if kv.1 = Sum.inr k then (kv.1, v) else kv) (kvs.map fun kv => if kv.1 = k then (kv.1, d) else kv)
  | [], [], _ => trivial
  | (a, u) :: vs, (x, e) :: kvs, ⟨h1, h2, h3⟩ => by
    subst h1
    have ih := kvR_map (k := k) r h3
    by_cases q : x = k
    · subst q
      simp only [List.map_cons, if_true]
      exact ⟨rfl, r, ih⟩
    · have q' : ¬ (Sum.inr x : Key) = Sum.inr k := fun z => q (Sum.inr.inj z)
      simp only [List.map_cons, if_neg q, if_neg q']
      exact ⟨rfl, h2, ih⟩
  | [], _ :: _, h => h.elim
  | _ :: _, [], h => h.elim
theorem kvR_snoc {k : Str} {v : V} {d : Dt} (r : Rp K F v d) : ∀ {vs : List (Key × V)} {kvs : List (Str × Dt)}, KvR K F vs kvs → KvR K F (vs ++ [(Sum.inr k, v)]) (kvs ++ [(k, d)])
  | [], [], _ => ⟨rfl, r, trivial⟩
  | (a, u) :: vs, (x, e) :: kvs, ⟨h1, h2, h3⟩ => ⟨h1, h2, kvR_snoc r h3⟩
  | [], _ :: _, h => h.elim
  | _ :: _, [], h => h.elim
theorem kvR_put {k : Str} {v : V} {d : Dt} (r : Rp K F v d) {vs : List (Key × V)} {kvs : List (Str × Dt)} (h : KvR K F vs kvs) : KvR K F (putK vs (Sum.inr k) v) (putS kvs k d) := by
  unfold putK putS
  rw [kvR_any h]
  split
  · exact kvR_map r h
  · exact kvR_snoc r h
theorem kvR_len : ∀ {vs : List (Key × V)} {kvs : List (Str × Dt)}, KvR K F vs kvs → vs.length = kvs.length
  | [], [], _ => rfl
  | (a, u) :: vs, (x, e) :: kvs, ⟨_, _, h3⟩ => by simp [kvR_len h3]
  | [], _ :: _, h => h.elim
  | _ :: _, [], h => h.elim
theorem kvR_merge : ∀ {more : List (Key × V)} {mr : List (Str × Dt)} {vs : List (Key × V)} {kvs : List (Str × Dt)}, KvR K F more mr → KvR K F vs kvs → KvR K F (mergeK vs more) (mergeS kvs mr)
  | [], [], _, _, _, h => h
  | (a, u) :: more, (x, e) :: mr, _, _, ⟨h1, h2, h3⟩, h => by
    subst h1
    have z := kvR_merge h3 (kvR_put (k := x) h2 h)
    exact z
  | [], _ :: _, _, _, h, _ => h.elim
  | _ :: _, [], _, _, h, _ => h.elim
theorem kvR_keys : ∀ {vs : List (Key × V)} {kvs : List (Str × Dt)}, KvR K F vs kvs → vs.map (·.1) = (kvs.map (·.1)).map Sum.inr
  | [], [], _ => rfl
  | (a, u) :: vs, (x, e) :: kvs, ⟨h1, _, h3⟩ => by simp [kvR_keys h3, h1]
  | [], _ :: _, h => h.elim
  | _ :: _, [], h => h.elim
end
section
variable {X : Cx} {n : Nat} {pos : Pos}
/-- slot i holds such a dict -/
def gD (env : Dn) (i : Nat) (Q : List (Str × Dt) → Prop) : Prop := match env[i]? with
  | some (some (.obj (.dic kvs))) => Q kvs
  | _ => False
theorem gD_get {env : Dn} {i : Nat} {Q : List (Str × Dt) → Prop} (h : gD env i Q) : ∃ xs, env[i]? = some (some (.obj (.dic xs))) ∧ Q xs := by
  unfold gD at h
  split at h
  · exact ⟨_, by assumption, h⟩
  · exact h.elim
theorem gD_mono {env : Dn} {i : Nat} {Q Q' : List (Str × Dt) → Prop} (m : ∀ xs, Q xs → Q' xs) (h : gD env i Q) : gD env i Q' := by
  unfold gD at h ⊢
  split at h
  · exact m _ h
  · exact h.elim
def strK : Dt → Option Str
  | .str k => some k
  | _ => none
theorem rp_str {K : PySem.W.Frag} {F H : Hp} {v : V} {d : Dt} {k : Str} (h : Tp K F H v d) (e : strK d = some k) : v = .str k := by
  cases h <;> simp [strK] at e
  rw [e]
def kDnew : DT := fun env Q => Q (.new (.dic [])) env
theorem de_dnew : DE X (.Dict [] [] pos) kDnew := by
  refine ⟨fun env Q Q' i h => i _ _ h, pe_dnewK.mono fun σ H Q => ?_⟩
  rintro ⟨F, env, R, q⟩ p hp
  obtain ⟨R2, E2⟩ := R.growN hp (.dK [])
  exact q F _ (.ref p) E2 R2 ⟨p, rfl, R.fnone hp, ⟨[], upd_same, trivial⟩, R.not_ow hp, hp⟩
/-- x.get(k, d) -/
def kDget2 (i : Nat) (tk td : DT) : DT := fun env Q => gD env i fun _ => tk env fun ek env1 => td env1 fun ed env2 => as1 ed fun d0 => gD env2 i fun kvs => wr ((rs env2 ek).bind strK) fun k => Q (.dat ((getS kvs k).getD d0)) env2
theorem de_dget2 (i : Nat) {x : Str} {e f : Expr} {tk td : DT} {p apos cpos : Pos} (hu : X.A.units + 1 < cLine) (he : DE X e tk) (hf : DE X f td) (m : M2 X (.Name x p) "get" apos e f cpos) (hN : X.N[i]? = some x := by rfl) (hv : Vis X.env.scope x := by first | exact Or.inl rfl | exact Or.inr (Or.inl rfl) | exact Or.inr (Or.inr rfl)) (hd : (x == ("__debug__" : Str)) = false := by decide) (hcd : (x == ("__classdict__" : Str)) = false := by decide) :
    DE X (.Call (.Attribute (.Name x p) "get" apos) [e, f] [] cpos) (kDget2 i tk td) := by
  refine ⟨fun env Q Q' m q => gD_mono (fun _ q => he.mono _ _ _ (fun ek env1 q => hf.mono _ _ _ (fun ed env2 q => as1_mono (fun d0 q => gD_mono (fun kvs q => wr_mono (fun k q => m _ _ q) q) q) q) q) q) q, (pe_dget2 hu (pe_var hN hv hd hcd) he.run hf.run m).mono fun σ H Q => ?_⟩
  rintro ⟨F, env, R, q⟩
  obtain ⟨kvs0, e0, q⟩ := gD_get q
  obtain ⟨v0, es, a0, ev0, hf0, vs0, hp0, _⟩ := R.val i _ e0
  subst ev0
  refine ⟨_, es, a0, rfl, .inl ⟨vs0, .inl hp0⟩, F, env, R, he.mono _ _ _ (fun ek env1 q F1 H1 y E1 R1 V1 => ⟨F1, env1, R1, hf.mono _ _ _ (fun ed env2 q F2 H2 z E2 R2 V2 => ?_) q⟩) q⟩
  obtain ⟨d0, rfl, q⟩ := as1_get q
  obtain ⟨kvs, e1, q⟩ := gD_get q
  obtain ⟨k, e2, q⟩ := wr_get q
  obtain ⟨dk, e3, e4⟩ := Option.bind_eq_some_iff.mp e2
  have ey := rp_str (tp_of R2 (V1.move E2) e3) e4
  subst ey
  obtain ⟨v1, es1, a1, ev1, hf1, vs1, hp1, rk⟩ := R2.val i _ e1
  rw [es] at es1; cases es1; cases ev1
  have V2 : Rp X.K F2 z d0 := V2
  refine ⟨valV vs1 (Sum.inr k), DGet.k (k := Sum.inr k) hp1, ?_⟩
  rcases kvR_get (k := k) rk with ⟨g1, g2⟩ | ⟨d, v, g1, g2, g3⟩
  · rw [g2]; rw [g1] at q
    exact q F2 H2 z (E1.trans E2) R2 V2
  · rw [g2]; rw [g1] at q
    exact q F2 H2 v (E1.trans E2) R2 g3
/-- x[k] -/
def kDix (i : Nat) (tk : DT) : DT := fun env Q => gD env i fun _ => tk env fun ek env1 => gD env1 i fun kvs => wr ((rs env1 ek).bind strK) fun k => wr (getS kvs k) fun d => Q (.dat d) env1
theorem de_dix (i : Nat) {x : Str} {e : Expr} {tk : DT} {p : Pos} (hu : X.A.units + 1 < cLine) (he : DE X e tk) (hs : NoSl e := by exact fun _ _ => rfl) (hN : X.N[i]? = some x := by rfl) (hv : Vis X.env.scope x := by first | exact Or.inl rfl | exact Or.inr (Or.inl rfl) | exact Or.inr (Or.inr rfl)) (hd : (x == ("__debug__" : Str)) = false := by decide) (hcd : (x == ("__classdict__" : Str)) = false := by decide) :
    DE X (.Subscript (.Name x p) e pos) (kDix i tk) := by
  refine ⟨fun env Q Q' m q => gD_mono (fun _ q => he.mono _ _ _ (fun ek env1 q => gD_mono (fun kvs q => wr_mono (fun k q => wr_mono (fun d q => m _ _ q) q) q) q) q) q, (pe_dget hu (pe_var hN hv hd hcd) he.run hs).mono fun σ H Q => ?_⟩
  rintro ⟨F, env, R, q⟩
  obtain ⟨kvs0, e0, q⟩ := gD_get q
  obtain ⟨v0, es, a0, ev0, hf0, vs0, hp0, _⟩ := R.val i _ e0
  subst ev0
  refine ⟨_, es, F, env, R, he.mono _ _ _ (fun ek env1 q F1 H1 y E1 R1 V1 => ?_) q⟩
  obtain ⟨kvs, e1, q⟩ := gD_get q
  obtain ⟨k, e2, q⟩ := wr_get q
  obtain ⟨d, ed, q⟩ := wr_get q
  obtain ⟨dk, e3, e4⟩ := Option.bind_eq_some_iff.mp e2
  have ey := rp_str (tp_of R1 V1 e3) e4
  subst ey
  obtain ⟨v1, es1, a1, ev1, hf1, vs1, hp1, rk⟩ := R1.val i _ e1
  rw [es] at es1; cases es1; cases ev1
  rcases kvR_get (k := k) rk with ⟨g1, g2⟩ | ⟨d', v, g1, g2, g3⟩
  · rw [g1] at ed; cases ed
  · rw [g1] at ed; cases ed
    exact ⟨a0, v, rfl, by have := DGet.k (k := Sum.inr k) hp1; rw [g2] at this; exact this, q F1 H1 v E1 R1 g3⟩
/-- x[k] = v -/
def sDput (i : Nat) (tk tv : DT) : DTS := fun E env => tv env fun ev env1 => as1 ev fun d => gD env1 i fun _ => tk env1 fun ek env2 => gD env2 i fun kvs => wr ((rs env2 ek).bind strK) fun k => kvs.length < sizeLine ∧ E.nx (env2.set i (some (.obj (.dic (putS kvs k d)))))
theorem ds_dput (i : Nat) {x : Str} {e value : Expr} {tk tv : DT} {p pos' : Pos} (hu : X.A.units + 1 < cLine) (he : DE X e tk) (hvl : DE X value tv) (hs : swapsWith value (some (.Subscript (.Name x p) e pos')) pos.line X.env = pure false := by rfl) (hN : X.N[i]? = some x := by rfl) (hv : Vis X.env.scope x := by first | exact Or.inl rfl | exact Or.inr (Or.inl rfl) | exact Or.inr (Or.inr rfl)) (hd : (x == ("__debug__" : Str)) = false := by decide) (hcd : (x == ("__classdict__" : Str)) = false := by decide) :
    DS X n (.Assign [.Subscript (.Name x p) e pos'] value pos) (sDput i tk tv) := ⟨(ps_dput hu (pe_var hN hv hd hcd) he.run hvl.run hs).mono fun D σ H => by
  rintro ⟨F, env, E, R, q, l⟩
  refine ⟨F, env, R, hvl.mono _ _ _ (fun ev env1 q F1 H1 v E1 R1 V1 => ?_) q⟩
  obtain ⟨d, rfl, q'⟩ := as1_get q
  obtain ⟨kvs0, e0, q⟩ := gD_get q'
  obtain ⟨v0, es, a0, ev0, hf0, vs0, hp0, _⟩ := R1.val i _ e0
  subst ev0
  refine ⟨_, es, F1, env1, R1, he.mono _ _ _ (fun ek env2 q F2 H2 y E2 R2 V2 => ?_) q⟩
  obtain ⟨kvs, e1, q⟩ := gD_get q
  obtain ⟨k, e2, hz, q⟩ := wr_get q
  obtain ⟨dk, e3, e4⟩ := Option.bind_eq_some_iff.mp e2
  have ey := rp_str (tp_of R2 V2 e3) e4
  subst ey
  obtain ⟨v1, es1, a1, ev1, hf1, vs1, hp1, rk⟩ := R2.val i _ e1
  rw [es] at es1; cases es1; cases ev1
  have rd : Rp X.K F2 v d := dp_same E2.same V1
  obtain ⟨R3, E3⟩ := R2.write (o' := .dic (putS kvs k d)) (ho := .dK (putK vs1 (Sum.inr k) v)) e1 es hf1 ⟨_, upd_same, kvR_put rd rk⟩
  exact ⟨a0, _, rfl, DPut.k (k := Sum.inr k) hp1 (by rw [kvR_len rk]; exact hz), l.nx _ _ _ _ ((E1.trans E2).trans E3).s R3 q⟩⟩
/-! ### dict(pairs) -/
theorem pairs_told {pins : List (Addr × Obj)} {σ : L2.St} {H : Hp} {s : Shared} (I : Inv X pins σ H s) : ∀ {ps : List Addr} {kvs : List (Key × V)}, Paired (fun p kv => SqT X.K H p [kV kv.1, kv.2]) ps kvs →
    ∃ (prs : List (Key × Value)) (uvs : List (Value × Value)), KV kvs prs ∧ prs.length = ps.length ∧ uvs.length = ps.length ∧ ∀ (j : Nat) (u v : Value), uvs[j]? = some (u, v) → ∃ (b : Addr) (k : Key), ps[j]? = some b ∧ PyProof.Rows.IsTup s.heap b #[u, v] ∧ prs[j]? = some (k, v) ∧ keyIs k u = true
  | _, _, .nil => ⟨[], [], .nil, rfl, rfl, fun j u v e => by simp at e⟩
  | _, _, .cons (a := p) (b := kv) h t => by
    obtain ⟨prs, uvs, r, hl, hl', hp⟩ := pairs_told I t
    obtain ⟨its, rv, ht, _⟩ := I.tuple h
    obtain ⟨u, y, ei, ru, ry⟩ := vals2 rv
    subst ei
    refine ⟨(kv.1, y) :: prs, (u, y) :: uvs, .cons ⟨rfl, ry⟩ r, by simp [hl], by simp [hl'], fun j u' v' e => ?_⟩
    cases j with
    | zero =>
      simp at e
      obtain ⟨e1, e2⟩ := e
      subst e1 e2
      exact ⟨p, kv.1, rfl, ht, rfl, kV_is (P := X.prog) (w := X.w) ru⟩
    | succ j =>
      obtain ⟨b, k, e1, e2, e3⟩ := hp j u' v' (by simpa using e)
      exact ⟨b, k, by simpa using e1, e2, by simpa using e3⟩
def rDictF (K : PySem.W.Frag) : List V → Hp → VK → Prop := fun xs H Q => ∃ (a : Addr) (ps : List Addr) (kvs : List (Key × V)), xs = [.ref a] ∧ (H a = some (.lst (ps.map V.ref)) ∨ TuA K H a (ps.map V.ref)) ∧ Paired (fun p kv => SqT K H p [kV kv.1, kv.2]) ps kvs ∧
    ∀ p, H p = none → Q (.ref p) (upd H p (.dK (mergeK [] kvs)))
theorem call_dictF (hcalm : X.calm = true) : CallR X (.type "dict") (rDictF X.K) := by
  intro pins s σ H xs us Q I r q
  obtain ⟨a, ps, kvs, rfl, hq, hp, q⟩ := q
  rcases hq with hq | hq
  · exact call_dictP hcalm pins s σ H _ us Q I r ⟨a, ps, kvs, rfl, SqL.of hq, hp, q⟩
  · obtain ⟨u, rfl, rx⟩ := vals1 r
    cases rx
    have told : ∃ (o : Obj) (its : List Value) (m : Nat), s.heap.get? a = some o ∧ TObj o ∧ o.data = .seq its.toArray m ∧ Vals (ps.map V.ref) its ∧ ps.length ≤ sizeLine := by
      rcases hq with ⟨o, h, ho⟩ | ⟨o, its, m, h1, h2, h3, h4, h5⟩
      · obtain ⟨e1, hz, its, rv, o', e2, _, m, e3⟩ := (show ObjOk X.prog X.w H s.heap a (.frz o (.tup (ps.map V.ref))) from I.hok a _ h)
        rw [e1] at e2; cases e2
        exact ⟨o, its, m, e1, ho, e3, rv, by simpa using hz⟩
      · refine ⟨o, its.toList, m, I.kIn a o h1, h2, by simpa using h3, h5, ?_⟩
        have := h5.length
        simp at this
        omega
    obtain ⟨o, its, m, ho, to, hdat, rv, hz⟩ := told
    have ei := refs_at rv
    subst ei
    obtain ⟨prs, uvs, rel, hl, hl', hpr⟩ := pairs_told I hp
    have pa := PySem.PairArg.tuple (prog := X.prog) (w := X.w) a (ps.map Value.ref).toArray (fun j => ps.getD j 0) uvs
    refine PySem.call_dict_pairs (knd := mixKind X.prog X.w) (kvs := prs) pa (I.ok.hd hcalm) ⟨⟨o, m, ho, to.1, to.2, hdat⟩, by simp [hl'], fun j k v e => ?_⟩ ⟨by rw [hl, hl'], fun j key v e => ?_⟩ (by rw [hl']; exact hz) fun h' tk hd' k => ?_
    · obtain ⟨b, kk, e1, e2, e3, e4⟩ := hpr j k v e
      refine ⟨by simp [e1], .inl ?_⟩
      show s.heap.IsTuple (ps.getD j 0) #[k, v]
      rw [show ps.getD j 0 = b by simp [List.getD, e1]]
      exact e2
    · obtain ⟨b, kk, e1, e2, e3, e4⟩ := hpr j key v e
      exact ⟨kk, e3, e4⟩
    · have hm : (s.heap.objs.size == sysModules) = false := beq_eq_false_iff_ne.mpr (Nat.ne_of_gt I.big)
      have hlen : (mergeK [] kvs).length ≤ sizeLine := by
        refine Nat.le_trans (length_mergeK kvs []) ?_
        rw [List.length_nil, Nat.zero_add, rel.length, hl]
        exact hz
      have hd2 : h'.DictOf (mixKind X.prog X.w) s.heap.objs.size (merged [] prs) := hd'
      exact ⟨.ref s.heap.objs.size, upd H s.heap.objs.size (.dK (mergeK [] kvs)), I.laid (t' := tk) (fun b o e => k b o (by simp) e) (Nat.le_refl _) ⟨hlen, hm, merged [] prs, KV.merge rel .nil, hd2⟩, rfl, q _ (I.hok.fresh (Nat.le_refl _))⟩
theorem parS_rp {K : PySem.W.Frag} {F H : Hp} (sm : Same F H) : ∀ {vs : List V} {ds : List Dt} {kvs : List (Str × Dt)}, RpAll K F vs ds → parS ds = some kvs → ∃ (ps : List Addr) (vk : List (Key × V)), vs = ps.map V.ref ∧ Paired (fun p kv => SqT K H p [kV kv.1, kv.2]) ps vk ∧ KvR K F vk kvs
  | _, [], kvs, h, e => by cases h; cases e; exact ⟨[], [], rfl, .nil, trivial⟩
  | _, d :: ds, kvs, h, e => by
    unfold parS at e
    split at e
    · rename_i heq; cases heq
    · rename_i k d' r heq
      cases heq
      obtain ⟨l, e1, e2⟩ := Option.map_eq_some_iff.mp e
      subst e2
      cases h with
      | cons h1 h2 =>
        obtain ⟨ps, vk, a1, a2, a3⟩ := parS_rp sm h2 e1
        cases h1 with
        | @tup a xs _ t r =>
          cases r with
          | @cons v1 vs1 _ _ r1 r2 =>
            cases r2 with
            | @cons v2 vs2 _ _ r2 r3 =>
              cases r3
              cases r1
              exact ⟨a :: ps, (Sum.inr k, v2) :: vk, by rw [a1]; rfl, .cons (seqT_same sm t).sq a2, rfl, r2, a3⟩
    · cases e
def dicOf : Dt → Option (List (Str × Dt))
  | .list ds => parS ds
  | .tuple ds => parS ds
  | _ => none
def kDict (t : DTa) : DT := fun env Q => t env fun evs env1 => wr (rsL env1 evs) fun ds => match ds with
  | [d] => wr (dicOf d) fun kvs => Q (.new (.dic (mergeS [] kvs))) env1
  | _ => False
theorem de_dict {e : Expr} {p : Pos} {t : DTa} (hc : X.calm = true) (hg : Gl X "dict") (hm : X.mg "dict" = none) (ha : DA X [e] t)
    (he : starEach [e] X.env = [(false, eval e X.env)] := by rfl) : DE X (.Call (.Name "dict" p) [e] [] pos) (kDict t) := by
  refine ⟨fun env Q Q' i q => ha.mono _ _ _ (fun evs env1 q => wr_mono (fun ds q => ?_) q) q, (pe_callTy (call_dictF hc) hg hm (by decide +kernel) ha.run (by decide) (by decide) he (by rfl)).mono fun σ H Q => ?_⟩
  · revert q
    dsimp only
    split
    · exact fun q => wr_mono (fun xs q => i _ _ q) q
    · exact fun q => q
  · rintro ⟨F, env, R, q⟩
    refine ⟨F, env, R, ha.mono _ _ _ (fun evs env1 h1 F1 H1 vs E1 R1 V1 => ?_) q⟩
    obtain ⟨ds, e1, h2⟩ := wr_get h1
    dsimp only at h2
    split at h2
    · rename_i d
      obtain ⟨kvs, e2, h2⟩ := wr_get h2
      have tv := tpA_of R1 V1 e1
      have fin : ∀ (vk : List (Key × V)) (l : Addr), KvR X.K F1 vk kvs → H1 l = none → Q (.ref l) (upd H1 l (.dK (mergeK [] vk))) := fun vk l r hl => by
        obtain ⟨R2, E2⟩ := R1.growN hl (.dK (mergeK [] vk))
        refine h2 F1 _ (.ref l) (E1.trans E2) R2 ⟨l, rfl, R1.fnone hl, ⟨_, upd_same, kvR_merge r trivial⟩, R1.not_ow hl, ?_⟩
        cases e : H l with
        | none => rfl
        | some u =>
          obtain ⟨u', z⟩ := E1.there l u e
          rw [hl] at z; cases z
      cases tv with
      | cons h t =>
        cases t
        cases h with
        | lst h r =>
          obtain ⟨ps, vk, a1, a2, a3⟩ := parS_rp R1.sub r e2
          subst a1
          exact ⟨_, ps, vk, rfl, .inl h, a2, fun l hl => fin vk l a3 hl⟩
        | tup h r =>
          obtain ⟨ps, vk, a1, a2, a3⟩ := parS_rp R1.sub r e2
          subst a1
          exact ⟨_, ps, vk, rfl, .inr (seqT_same R1.sub h), a2, fun l hl => fin vk l a3 hl⟩
        | _ => cases e2
    · exact h2.elim
/-! ### sorted(x) of such a dict: its keys, rising -/
def kSortD (i : Nat) : DTl := fun env Q => gD env i fun kvs => kvs.length < 64 ∧ ∀ ys : List Str, ys.Perm (kvs.map (·.1)) → PyProof.Rows.sortedS ys = true → Q (ys.map PyData.str) env
theorem dl_sortD (i : Nat) {x : Str} {p q : Pos} (hc : X.calm = true) (hg : Gl X "sorted") (hm : X.mg "sorted" = none) (hN : X.N[i]? = some x := by rfl) (hv : Vis X.env.scope x := by first | exact Or.inl rfl | exact Or.inr (Or.inl rfl) | exact Or.inr (Or.inr rfl)) (hd : (x == ("__debug__" : Str)) = false := by decide) (hcd : (x == ("__classdict__" : Str)) = false := by decide) :
    DL X (.Call (.Name "sorted" p) [.Name x q] [] pos) (kSortD i) := by
  refine ⟨fun env Q Q' m h => gD_mono (fun kvs h => ⟨h.1, fun ys a b => m _ _ (h.2 ys a b)⟩) h, (pe_callB (call_sortedD hc) hg hm (by decide +kernel) (pa_cons (pe_var hN hv hd hcd) pa_nil (by rfl)) (by decide) (by decide) (by rfl) (by rfl)).mono fun σ H Q => ?_⟩
  rintro ⟨F, env, R, h⟩
  obtain ⟨kvs, e0, hz, h⟩ := gD_get h
  obtain ⟨v0, es, a0, ev0, hf0, vs0, hp0, rk⟩ := R.val i _ e0
  subst ev0
  refine ⟨_, es, a0, vs0, kvs.map (·.1), rfl, .inl hp0, kvR_keys rk, by simpa using hz, fun ys l pm so hl => ?_⟩
  obtain ⟨R2, E2⟩ := R.growN hl (.lst (ys.map V.str))
  refine h ys pm so F _ l _ E2 R2 (R.fnone hl) upd_same ?_ (R.not_ow hl) hl
  clear h so pm R2 E2
  induction ys with
  | nil => exact .nil
  | cons y ys ih => exact .cons (.str y) ih
end
open PySem PySem.Spec L2

section
open RZ
variable {X : Cx} {n : Nat} {pos : Pos}
/-! ### zip of two tuples, or of two lists -/
def zipD (xs ys : List Dt) : List Dt := List.zipWith (fun x y => PyData.tuple [x, y]) xs ys
theorem zipD_at {xs ys : List Dt} {i : Nat} {d : Dt} (h : (zipD xs ys)[i]? = some d) : ∃ x y, xs[i]? = some x ∧ ys[i]? = some y ∧ d = .tuple [x, y] := by
  unfold zipD at h
  rw [List.getElem?_zipWith] at h
  split at h
  · rename_i x y e1 e2
    exact ⟨x, y, e1, e2, (Option.some.inj h).symm⟩
  · cases h
theorem wk_zipT {K : PySem.W.Frag} {F : Hp} {a b : Addr} {vs us : List V} {xs ys : List Dt} (h1 : TuA K F a vs) (r1 : RpAll K F vs xs) (h2 : TuA K F b us) (r2 : RpAll K F us ys) : Wk (PrR K) (ItzT K a b) F (zipD xs ys) := by
  intro i F' H s1 s2
  have q1 : SqT K H a vs := (seqT_same s2 (seqT_same s1 h1)).sq
  have q2 : SqT K H b us := (seqT_same s2 (seqT_same s1 h2)).sq
  refine ⟨fun d e => ?_, fun hl => ⟨vs, us, q1, q2, ?_⟩⟩
  · obtain ⟨x, y, e1, e2, rfl⟩ := zipD_at e
    obtain ⟨v, e3, e4⟩ := r1.get e1
    obtain ⟨u, e5, e6⟩ := r2.get e2
    refine ⟨⟨vs, us, v, u, q1, q2, e3, e5⟩, fun w H' yl => ?_⟩
    obtain ⟨T, v', u', ew, hT, eH, g1, g2⟩ := yl
    have z1 := g1 vs q1
    have z2 := g2 us q2
    rw [e3] at z1; cases z1
    rw [e5] at z2; cases z2
    subst ew eH
    exact .inr ⟨T, _, hT, rfl, T, _, _, rfl, upd_same, .cons (dp_same s1 e4) (.cons (dp_same s1 e6) .nil), rfl⟩
  · unfold zipD at hl
    rw [List.length_zipWith] at hl
    rw [r1.length, r2.length]
    omega
theorem wk_zipL {K : PySem.W.Frag} {F : Hp} {a b : Addr} {vs us : List V} {xs ys : List Dt} (h1 : F a = some (.lst vs)) (r1 : RpAll K F vs xs) (h2 : F b = some (.lst us)) (r2 : RpAll K F us ys) : Wk (PrR K) (Itz K a b) F (zipD xs ys) := by
  intro i F' H s1 s2
  have q1 : SqL K H a vs := SqL.of (s2 _ _ (s1 _ _ h1))
  have q2 : SqL K H b us := SqL.of (s2 _ _ (s1 _ _ h2))
  refine ⟨fun d e => ?_, fun hl => ⟨vs, us, q1, q2, ?_⟩⟩
  · obtain ⟨x, y, e1, e2, rfl⟩ := zipD_at e
    obtain ⟨v, e3, e4⟩ := r1.get e1
    obtain ⟨u, e5, e6⟩ := r2.get e2
    refine ⟨⟨vs, us, v, u, q1, q2, e3, e5⟩, fun w H' yl => ?_⟩
    obtain ⟨T, v', u', ew, hT, eH, g1, g2⟩ := yl
    have z1 := g1 vs q1
    have z2 := g2 us q2
    rw [e3] at z1; cases z1
    rw [e5] at z2; cases z2
    subst ew eH
    exact .inr ⟨T, _, hT, rfl, T, _, _, rfl, upd_same, .cons (dp_same s1 e4) (.cons (dp_same s1 e6) .nil), rfl⟩
  · unfold zipD at hl
    rw [List.length_zipWith] at hl
    rw [r1.length, r2.length]
    omega
def iZp (ta : DTa) : DTl := fun env Q => ta env fun evs env1 => asD evs fun ds => match ds with
  | [.tuple xs, .tuple ys] => Q (zipD xs ys) env1
  | [.list xs, .list ys] => Q (zipD xs ys) env1
  | _ => False
theorem di_zip {e e2 : Expr} {ta : DTa} {p tpos : Pos} {elts : List Expr} {kk : Nat} (hg : Gl X "zip") (hm : X.mg "zip" = none) (ha : DA X [e, e2] ta)
    (hs : starEach [e, e2] X.env = (false, eval e X.env) :: starEach [e2] X.env := by rfl) (hpl : (backTo pos (starEach [e2] X.env)).any (·.1) = false := by rfl) :
    DI X (PrR X.K) (.Tuple elts kk tpos) (.Call (.Name "zip" p) [e, e2] [] pos) (iZp ta) := by
  refine ⟨fun env Q Q' i q => ha.mono _ _ _ (fun ev env1 q => asD_mono (fun d q => ?_) q) q, (pi_zipA hg hm ha.run hs hpl).mono fun σ H Q => ?_⟩
  · revert q
    dsimp only
    split
    · exact fun q => i _ _ q
    · exact fun q => i _ _ q
    · exact fun q => q
  · rintro ⟨F, env, R, q⟩
    refine ⟨F, env, R, ha.mono _ _ _ (fun evs env1 q F1 H1 vs E1 R1 V1 => ?_) q⟩
    obtain ⟨ds, rfl, q'⟩ := asD_get q
    replace q := q'
    have a := V1.dats
    dsimp only at q
    split at q
    · cases a with
      | cons a1 a =>
        cases a with
        | cons a2 a =>
          cases a
          cases a1 with
          | tup t1 r1 =>
            cases a2 with
            | tup t2 r2 => exact ⟨_, _, _, _, rfl, .inr ⟨(seqT_same R1.sub t1).sq, (seqT_same R1.sub t2).sq, q F1 H1 _ E1 R1 (wk_zipT t1 r1 t2 r2)⟩⟩
    · cases a with
      | cons a1 a =>
        cases a with
        | cons a2 a =>
          cases a
          cases a1 with
          | lst t1 r1 =>
            cases a2 with
            | lst t2 r2 => exact ⟨_, _, _, _, rfl, .inl ⟨SqL.of (R1.sub _ _ t1), SqL.of (R1.sub _ _ t2), q F1 H1 _ E1 R1 (wk_zipL t1 r1 t2 r2)⟩⟩
    · exact q.elim

/-! ### {'k': v, ..} -/
abbrev DTp := Dn → (List (Str × Dt) → Dn → Prop) → Prop
def tDp (K : PySem.W.Frag) (t : DTp) (σ : L2.St) (H : Hp) (Q : List (V × V) → Hp → Prop) : Prop := ∃ F env, Rep K F H σ env ∧ t env fun kvs env' => ∀ F' H' (vs : List (Key × V)), Ext σ env F H σ env' F' H' → Rep K F' H' σ env' → KvR K F' vs kvs → Q (vs.map fun kv => (kV kv.1, kv.2)) H'
structure DPs (X : Cx) (pos : Pos) (keys : List (Option Expr)) (values : List Expr) (t : DTp) : Prop where
  mono : ∀ env (Q Q' : List (Str × Dt) → Dn → Prop), (∀ a b, Q a b → Q' a b) → t env Q → t env Q'
  run : ∃ trs, PPs X pos keys values trs ∧ ∀ σ H Q, tDp X.K t σ H Q → tPairs trs σ H Q
def pNil : DTp := fun env Q => Q [] env
def pCons (k : Str) (tv : DT) (u : DTp) : DTp := fun env Q => tv env fun ev env1 => as1 ev fun d => u env1 fun kvs env2 => Q ((k, d) :: kvs) env2
theorem dp_nil : DPs X pos [] [] pNil := ⟨fun _ _ _ i h => i _ _ h, [], pps_nil, fun σ H Q => by
  rintro ⟨F, env, R, q⟩
  exact q F H [] Ext.refl R trivial⟩
theorem dp_cons {k : Str} {j : Nat} {kp : Pos} {v : Expr} {ks : List (Option Expr)} {vs : List Expr} {tv : DT} {u : DTp} (hv : DE X v tv) (hr : DPs X pos ks vs u) : DPs X pos (some (.Constant (.str k) j kp) :: ks) (v :: vs) (pCons k tv u) := by
  obtain ⟨trs, h1, h2⟩ := hr.run
  refine ⟨fun env Q Q' i q => hv.mono _ _ _ (fun ev env1 q => as1_mono (fun d q => hr.mono _ _ _ (fun kvs env2 q => i _ _ q) q) q) q, _, pps_cons pe_str hv.run h1, fun σ H Q => ?_⟩
  rintro ⟨F, env, R, q⟩
  show tD X.K tv σ H _
  refine ⟨F, env, R, hv.mono _ _ _ (fun ev env1 q F1 H1 v E1 R1 V1 => ?_) q⟩
  obtain ⟨d, rfl, q⟩ := as1_get q
  refine h2 σ H1 _ ⟨F1, env1, R1, hr.mono _ _ _ (fun kvs env2 q F2 H2 ws E2 R2 V2 => ?_) q⟩
  exact q F2 H2 ((Sum.inr k, v) :: ws) (E1.trans E2) R2 ⟨rfl, dp_same E2.same V1, V2⟩
def kDisp (t : DTp) : DT := fun env Q => t env fun kvs env1 => kvs.length ≤ 15 ∧ Q (.new (.dic (mergeS [] kvs))) env1
theorem de_disp {keys : List (Option Expr)} {values : List Expr} {t : DTp} (h : DPs X pos keys values t) (hall : keys.all (·.isSome) = true := by rfl) (hl : keys.length = values.length := by rfl) (h0 : keys ≠ [] := by exact fun z => nomatch z) (h15 : keys.length ≤ 15 := by decide) : DE X (.Dict keys values pos) (kDisp t) := by
  obtain ⟨trs, h1, h2⟩ := h.run
  refine ⟨fun env Q Q' i q => h.mono _ _ _ (fun kvs env1 q => ⟨q.1, i _ _ q.2⟩) q, (pe_disp h1 hall hl h0 h15).mono fun σ H Q => ?_⟩
  rintro ⟨F, env, R, q⟩ p hp
  obtain ⟨R0, E0⟩ := R.growN hp (.dK [])
  have no := R.not_ow hp
  have hf := R.fnone hp
  refine h2 σ _ _ ⟨F, env, R0, h.mono _ _ _ (fun kvs env1 q F1 H1 vs E1 R1 V1 => ?_) q⟩
  have hp1 : H1 p = some (.dK []) := E1.keep p _ upd_same no
  have no1 : ¬ Ow σ env1 p := fun w => by
    rcases E1.ow p w with z | z
    · exact no z
    · rw [upd_same] at z; cases z
  have hf1 : F1 p = none := by
    cases z : F1 p with
    | none => rfl
    | some u =>
      rcases E1.new p u z hf with y | y
      · rw [upd_same] at y; cases y
      · exact absurd y no
  refine ⟨hp1, vs, rfl, by rw [kvR_len V1]; exact q.1, q.2 F1 _ (.ref p) ?_ ?_ ⟨p, rfl, hf1, ⟨_, upd_same, kvR_merge V1 trivial⟩, no1, hp⟩⟩
  · have E := E0.trans E1
    refine ⟨E.same, fun a u z nz => ?_, fun a u z => ?_, E.new, E.ow⟩
    · rw [upd_ne (ne_of_none z hp)]; exact E.keep a u z nz
    · obtain ⟨u', z'⟩ := E.there a u z
      exact ⟨u', by rw [upd_ne (ne_of_none z hp)]; exact z'⟩
  · refine ⟨fun a u z => ?_, R1.len, fun j dv ej => ?_, R1.inj⟩
    · have ne : a ≠ p := fun eq => by subst eq; rw [hf1] at z; cases z
      rw [upd_ne ne]; exact R1.sub a u z
    · obtain ⟨v, e1, e2⟩ := R1.val j dv ej
      refine ⟨v, e1, ?_⟩
      cases dv with
      | dat d => exact e2
      | obj ob =>
        obtain ⟨a, e3, e4, e5⟩ := e2
        have ne : a ≠ p := fun eq => no1 ⟨j, ob, ej, by rw [e1, e3, eq]⟩
        exact ⟨a, e3, e4, e5.move (Same.refl _) (upd_ne ne)⟩
end

/-! ### a dict whose pairs are not told: opened in a def, closed at its end -/
section
variable {K : PySem.W.Frag} {F H : Hp} {σ : L2.St} {env : Dn} {i : Nat} {P : List (Str × Dt) → Prop}
theorem Rep.swap {o o' : Ob} (R : Rep K F H σ env) (e : env[i]? = some (some (.obj o))) (h : ∀ p, RepO K F H p o → RepO K F H p o') : Rep K F H σ (env.set i (some (.obj o'))) := by
  refine ⟨R.sub, by rw [List.length_set]; exact R.len, fun j dv q => ?_, fun j k ob ob' p h1 h2 h3 h4 => ?_⟩
  · rcases set_get q with ⟨rfl, q, _⟩ | ⟨_, q⟩
    · cases q
      obtain ⟨v, e1, p, e2, e3, e4⟩ := R.val j _ e
      exact ⟨v, e1, p, e2, e3, h p e4⟩
    · exact R.val j dv q
  · have key : ∀ (m : Nat) (b : Ob), (env.set i (some (.obj o')))[m]? = some (some (.obj b)) → ∃ b', env[m]? = some (some (.obj b')) := fun m b q => by
      rcases set_get q with ⟨rfl, _, _⟩ | ⟨_, q⟩
      · exact ⟨o, e⟩
      · exact ⟨b, q⟩
    obtain ⟨b1, q1⟩ := key j ob h1
    obtain ⟨b2, q2⟩ := key k ob' h2
    exact R.inj j k b1 b2 p q1 q2 h3 h4
theorem Rep.open (R : Rep K F H σ env) (e : env[i]? = some (some (.obj (.hid P)))) : ∃ kvs, P kvs ∧ Rep K F H σ (env.set i (some (.obj (.dic kvs)))) := by
  obtain ⟨v, e1, p, e2, e3, kvs, vs, hP, hp, r⟩ := R.val i _ e
  subst e2
  refine ⟨kvs, hP, R.sub, by rw [List.length_set]; exact R.len, fun j dv q => ?_, fun j k ob ob' a h1 h2 h3 h4 => ?_⟩
  · rcases set_get q with ⟨rfl, q, _⟩ | ⟨_, q⟩
    · cases q
      exact ⟨_, e1, p, rfl, e3, vs, hp, r⟩
    · exact R.val j dv q
  · have key : ∀ (m : Nat) (b : Ob), (env.set i (some (.obj (.dic kvs))))[m]? = some (some (.obj b)) → ∃ b', env[m]? = some (some (.obj b')) := fun m b q => by
      rcases set_get q with ⟨rfl, _, _⟩ | ⟨_, q⟩
      · exact ⟨_, e⟩
      · exact ⟨b, q⟩
    obtain ⟨b1, q1⟩ := key j ob h1
    obtain ⟨b2, q2⟩ := key k ob' h2
    exact R.inj j k b1 b2 a q1 q2 h3 h4
theorem ow_set_obj {o o' : Ob} (e : env[i]? = some (some (.obj o))) (a : Addr) : Ow σ (env.set i (some (.obj o'))) a ↔ Ow σ env a := by
  constructor
  · rintro ⟨m, b, q, h⟩
    rcases set_get q with ⟨rfl, _, _⟩ | ⟨_, q⟩
    · exact ⟨m, o, e, h⟩
    · exact ⟨m, b, q, h⟩
  · rintro ⟨m, b, q, h⟩
    by_cases z : m = i
    · subst z
      exact ⟨m, o', by rw [List.getElem?_set_self (List.getElem?_eq_some_iff.mp e).1], h⟩
    · exact ⟨m, b, by rw [List.getElem?_set_ne (Ne.symm z)]; exact q, h⟩
end
/-- the first parameter is such a dict, at the entry and at the end -/
def spHid (P : List (Str × Dt) → Prop) (sp : DSp) : DSp := fun as Q => ∃ r, as = .obj (.hid P) :: r ∧ ∀ kvs, P kvs → sp (.obj (.dic kvs) :: r) fun rv outs => ∃ kvs' o', outs = some (.obj (.dic kvs')) :: o' ∧ P kvs' ∧ Q rv (some (.obj (.hid P)) :: o')
theorem fng_hid {Pr : Program} {w : World} {K : PySem.W.Frag} {mg : Str → Option Value} {base : Heap} {k : Nat} {f : Addr} {fd : FuncData} {ps : List Str} {sp : DSp} (P : List (Str × Dt) → Prop) (G : FnG Pr w K mg base k f fd ps sp) : FnG Pr w K mg base k f fd ps (spHid P sp) := by
  refine ⟨fun as Q Q' i ⟨r, e, h⟩ => ⟨r, e, fun kvs hP => G.mono _ _ _ (fun rv outs ⟨k', o', a, b, c⟩ => ⟨k', o', a, b, i _ _ c⟩) (h kvs hP)⟩, ?_⟩
  intro A outer s H args us vs Q hr hg e0 hb r hl hsp
  obtain ⟨F, as, R, ar, rfl, h⟩ := hsp
  have e : ((Dv.obj (.hid P) :: ar).map some)[0]? = some (some (.obj (.hid P))) := rfl
  obtain ⟨kvs, hP, R1⟩ := R.open e
  have R1' : Rep K F H (vs.map some) ((Dv.obj (.dic kvs) :: ar).map some) := R1
  refine G.run A outer s H args us vs Q hr hg e0 hb r hl ⟨F, _, R1', G.mono _ _ _ (fun rv outs ⟨k', o', a, b, c⟩ F' H' v E' R' V' => ?_) (h kvs hP)⟩
  subst a
  have e1 : (some (Dv.obj (.dic k')) :: o')[0]? = some (some (.obj (.dic k'))) := rfl
  have R2 : Rep K F' H' (vs.map some) (some (.obj (.hid P)) :: o') := R'.swap (o' := .hid P) e1 fun p ⟨ws, q1, q2⟩ => ⟨k', ws, b, q1, q2⟩
  have o1 : ∀ a, Ow (vs.map some) ((Dv.obj (.dic kvs) :: ar).map some) a ↔ Ow (vs.map some) ((Dv.obj (.hid P) :: ar).map some) a := fun a => ow_set_obj (o' := .dic kvs) e a
  have o2 : ∀ a, Ow (vs.map some) (some (.obj (.hid P)) :: o') a ↔ Ow (vs.map some) (some (.obj (.dic k')) :: o') a := fun a => ow_set_obj (o' := .hid P) e1 a
  refine c F' H' v ⟨E'.same, fun a u z nz => E'.keep a u z fun w => nz ((o1 a).mp w), E'.there, fun a u z nz => (E'.new a u z nz).imp id (o1 a).mp, fun a w => (E'.ow a ((o2 a).mp w)).imp (o1 a).mp id⟩ R2 ?_
  cases rv with
  | dat d => exact V'
  | obj ob =>
    obtain ⟨p, q1, q2, q3, q4, q5⟩ := V'
    exact ⟨p, q1, q2, q3, fun w => q4 ((o2 p).mp w), q5⟩
open PySem PySem.Spec L2

/-! ### the law's own call -/
/-- the law's def, called with the script, gives True -/
def LawRun (P : Program) (w : World) (K : PySem.W.Frag) (mg : Str → Option Value) (base : Heap) (fa : Addr) (most : Nat) : Prop :=
  ∀ (s : Shared) (H : Hp) (a : Addr) (ns : List Int), ns.length ≤ most → Env0 P w K mg base callerA [] s H → SqL K H a (ns.map V.int) →
    codeAny (model P w) callerA (.call (.ref fa) ⟨[.ref a], []⟩) (CR CX0 [] P w H s (fun v _ => v = .bl true) E0) s
theorem law_entry {P : Program} {w : World} {K : PySem.W.Frag} {mg mb : Str → Option Value} {fa a : Addr} {s : Shared} {vs : List Value} {ns : List Int} {most : Nat}
    (KX : K.In s.heap) (hns : s.heap.Ns mainGlobals mg) (hb : s.heap.Ns builtinsNs mb) (hbb : ∀ x : Str, x ≠ "__name__" → mb x = bootBuiltins x) (hlim : s.heap.NoLimit) (hg : s.gens = #[])
    (ha : s.heap.get? a = some { cls := .type "list", data := .seq vs.toArray }) (hi : PyProof.Rows.IntsAre vs ns) (hm : ns.length ≤ most) (hl : ns.length ≤ sizeLine)
    (run : ∀ base : Heap, K.In base → base.Ns mainGlobals mg → LawRun P w K mg base fa most) :
    codeAny (model P w) callerA (.call (.ref fa) ⟨[.ref a], []⟩) (fun r s' => r = .ok (.ret (.bool true)) ∧ OldK s.heap s'.heap ∧ s'.os = s.os ∧ PyProof.Rows.AllBare s'.gens) s := by
  have rv := vals_ints hi
  -- the script's place is told, unless it is one of the module's own things
  let H : Hp := fun b => if b = a ∧ K.lookup a = none then some (.frz { cls := .type "list", data := .seq vs.toArray } (.lst (ns.map V.int))) else none
  have Hat : ∀ b u, H b = some u → b = a ∧ K.lookup a = none ∧ u = .frz { cls := .type "list", data := .seq vs.toArray } (.lst (ns.map V.int)) := by
    intro b u e
    by_cases c : b = a ∧ K.lookup a = none
    · have e' : some _ = some u := (if_pos c).symm.trans e
      exact ⟨c.1, c.2, (Option.some.inj e').symm⟩
    · have e' : none = some u := (if_neg c).symm.trans e
      cases e'
  have okS : ObjOk P w H s.heap a (.lst (ns.map V.int)) := ⟨by rw [List.length_map]; exact hl, vs, _, rv, ha⟩
  have hok : HOk P w H s.heap := by
    intro b u e
    obtain ⟨rfl, _, rfl⟩ := Hat b u e
    exact ⟨ha, okS⟩
  have hS : SqL K H a (ns.map V.int) := by
    cases hk : K.lookup a with
    | none => exact .inl (.inr ⟨_, if_pos ⟨rfl, hk⟩⟩)
    | some o =>
      have e := KX a o hk
      rw [ha] at e
      cases e
      refine .inr ⟨_, vs.toArray, _, hk, rfl, rfl, rfl, ?_, by simpa using rv⟩
      rw [List.size_toArray, hi.length]
      exact hl
  -- what is not told stays in the base
  have hid : ∀ {b : Addr} {o : Obj}, s.heap.get? b = some o → b ≠ a → (hidT s.heap H).get? b = some o := by
    intro b o e ne
    refine hidT_get e ?_
    cases q : H b with
    | none => rfl
    | some u => exact absurd (Hat b u q).1 ne
  have nsOk : ∀ {b : Addr} {m : Str → Option Value}, s.heap.Ns b m → (hidT s.heap H).Ns b m := by
    rintro b m ⟨o, es, ep, e, d, r⟩
    refine ⟨o, es, ep, hid e ?_, d, r⟩
    rintro rfl
    rw [ha] at e; cases e
    have d' : Data.seq vs.toArray _ = Data.dict es ep := d
    cases d'
  have hKb : K.In (hidT s.heap H) := by
    intro b o e
    refine hidT_get (KX b o e) ?_
    cases q : H b with
    | none => rfl
    | some u =>
      obtain ⟨rfl, z, _⟩ := Hat b u q
      rw [z] at e; cases e
  have hM : Mod K mg (hidT s.heap H) := by
    obtain ⟨mc, h1, h2⟩ := hlim
    exact ⟨hKb, nsOk hns, ⟨mb, nsOk hb, hbb⟩, mc, nsOk h1, h2⟩
  have e0 : Env0 P w K mg (hidT s.heap H) callerA [] s H := by
    refine ⟨rfl, hM, fun b o e => of_hidT e, Nat.le_of_eq (hidT_size _ _), trivial, fun b z => ?_, hok, .of_eq hg⟩
    cases z
  refine codeAny_mono (run _ hKb (nsOk hns) s H a ns hm e0 hS) ?_
  intro r s' h
  cases r with
  | error e => exact (show False from h).elim
  | ok fl =>
    cases fl with
    | next => exact (show False from h).elim
    | brk => exact (show False from h).elim
    | cont => exact (show False from h).elim
    | ret u =>
      obtain ⟨v, H', os, bare, un, hok', r', rfl⟩ := h
      obtain rfl : u = Value.bool true := r'
      refine ⟨rfl, OldK.of_keep fun b o e => ?_, os, bare⟩
      cases q : H b with
      | none => exact un.keep b o e q (fun z => nomatch z) (fun z => nomatch z)
      | some x =>
        obtain ⟨rfl, _, rfl⟩ := Hat b x q
        obtain ⟨z1, _⟩ := hok' _ _ (un.frzs _ _ _ q)
        rw [ha] at e; cases e
        exact z1
theorem walk_law {l : PySem.W.OpenLaw} {n : Nat} {q : Program} {loose : List Str} {XP : (Str → Option Value) → Heap → Prop} {YP : World → Heap → Prop} {d : DefRec} {K : Params → PySem.W.Frag}
    (hn : l.most = some n) (hn2 : n ≤ sizeLine) (hdf : d.params.defaults = []) (hY : ∀ (w : World) (h : Heap), YP w h → (K w.params).In h)
    (F : ∀ (w : World) (mg : Str → Option Value) (fa : Addr) (h : Heap), (K w.params).In h → h.Ns mainGlobals mg → mg d.name = some (.ref fa) → ∀ base : Heap, (K w.params).In base → base.Ns mainGlobals mg → LawRun l.prog w (K w.params) mg base fa n) :
    PySem.W.WalkO q loose XP YP l.row.toRowW d [] (fun f vs => PySem.call f vs) := by
  apply Att.attach_call hn hdf
  intro w s0 s1 mg mb fa o pm cd doc a vs ns G Y ho hd hcd hmg hobj hints hlen hg
  have KX := hY w _ Y
  exact law_entry KX G.T.g G.T.b G.T.builtins G.T.nolimit hg hobj hints hlen (Nat.le_trans hlen hn2) (F w mg fa _ KX G.T.g hmg)
open PySem PySem.Spec L2

/-! ### short forms -/
section
variable {X : Cx} {n : Nat} {pos : Pos} {i : Nat} {y : Str} {py spos : Pos} {elt tg iter : Expr} {ifs : List Expr} {scope : Scope} {rel : IR} {ti : DTl} {g : DTg} {tt : DTb} {te : DT}
theorem dl_lc (n : Nat) (own : List (Str × Nat)) (hc : X.calm = true) (hN : X.N.Nodup) (hi : DI X rel tg iter ti) (ok : BlkOk X.N X.env.scope scope own)
    (hg : ∀ (s : Shared) (H : Hp) (C : Addr) (cl : List (Str × Addr)) (fp : List Addr), DG (X.blk s H scope (compEnvC scope cl C X.env) fp) n (own.map (·.2)) rel tg g) (ht : ∀ (s : Shared) (H : Hp) (C : Addr) (cl : List (Str × Addr)) (fp : List Addr), DTs (X.blk s H scope (compEnvC scope cl C X.env) fp) ifs tt)
    (he : ∀ (s : Shared) (H : Hp) (C : Addr) (cl : List (Str × Addr)) (fp : List Addr), DE (X.blk s H scope (compEnvC scope cl C X.env) fp) elt te)
    (hs : ∀ x, foldedSetIterable iter X.env x = pure x := by intro _; rfl) : DL X (.ListComp elt [⟨tg, iter, ifs, 0⟩] scope pos) (kComp (own.map (·.2)) ti g tt te) :=
  dl_comp hc hN hi ok hg ht he (hg X.s_0 X.H_0 0 [] []).mono (ht X.s_0 X.H_0 0 [] []).mono (he X.s_0 X.H_0 0 [] []).mono hs
theorem ds_lcF (own : List (Str × Nat)) (hc : X.calm = true) (hN : X.N.Nodup) (hy : X.N[i]? = some y) (hyl : X.env.scope.names.lookup y = some .local)
    (hsw : swapsWith (.ListComp elt [⟨tg, iter, ifs, 0⟩] scope pos) (some (.Name y py)) spos.line X.env = pure true) (hi : DI X rel tg iter ti) (ok : BlkOk X.N X.env.scope scope own)
    (hg : ∀ (s : Shared) (H : Hp) (C : Addr) (cl : List (Str × Addr)) (fp : List Addr), DG (X.blk s H scope (compEnvC scope cl C X.env) fp) n (own.map (·.2)) rel tg g) (ht : ∀ (s : Shared) (H : Hp) (C : Addr) (cl : List (Str × Addr)) (fp : List Addr), DTs (X.blk s H scope (compEnvC scope cl C X.env) fp) ifs tt)
    (he : ∀ (s : Shared) (H : Hp) (C : Addr) (cl : List (Str × Addr)) (fp : List Addr), DE (X.blk s H scope (compEnvC scope cl C X.env) fp) elt te)
    (hn : n ≤ i := by decide) (hs : ∀ x, foldedSetIterable iter X.env x = pure x := by intro _; rfl) : DS X n (.Assign [.Name y py] (.ListComp elt [⟨tg, iter, ifs, 0⟩] scope pos) spos) (sSet i (kLF (kComp (own.map (·.2)) ti g tt te))) :=
  ds_setLcF hc hN hy hyl hsw hi ok hg ht he (hg X.s_0 X.H_0 0 [] []).mono (ht X.s_0 X.H_0 0 [] []).mono (he X.s_0 X.H_0 0 [] []).mono hn hs
theorem ds_lcN (own : List (Str × Nat)) (hc : X.calm = true) (hN : X.N.Nodup) (hy : X.N[i]? = some y) (hyl : X.env.scope.names.lookup y = some .local)
    (hsw : swapsWith (.ListComp elt [⟨tg, iter, ifs, 0⟩] scope pos) (some (.Name y py)) spos.line X.env = pure true) (hi : DI X rel tg iter ti) (ok : BlkOk X.N X.env.scope scope own)
    (hg : ∀ (s : Shared) (H : Hp) (C : Addr) (cl : List (Str × Addr)) (fp : List Addr), DG (X.blk s H scope (compEnvC scope cl C X.env) fp) n (own.map (·.2)) rel tg g) (ht : ∀ (s : Shared) (H : Hp) (C : Addr) (cl : List (Str × Addr)) (fp : List Addr), DTs (X.blk s H scope (compEnvC scope cl C X.env) fp) ifs tt)
    (he : ∀ (s : Shared) (H : Hp) (C : Addr) (cl : List (Str × Addr)) (fp : List Addr), DE (X.blk s H scope (compEnvC scope cl C X.env) fp) elt te)
    (hn : n ≤ i := by decide) (hs : ∀ x, foldedSetIterable iter X.env x = pure x := by intro _; rfl) : DS X n (.Assign [.Name y py] (.ListComp elt [⟨tg, iter, ifs, 0⟩] scope pos) spos) (sSet i (kLN (kComp (own.map (·.2)) ti g tt te))) :=
  ds_setLcN hc hN hy hyl hsw hi ok hg ht he (hg X.s_0 X.H_0 0 [] []).mono (ht X.s_0 X.H_0 0 [] []).mono (he X.s_0 X.H_0 0 [] []).mono hn hs
end

theorem kit_int (d : Dt) : kitB (tyN d) "int" = some (isIntD d) := by
  cases d
  · show kitB "NoneType" "int" = some false; decide +kernel
  · show kitB "bool" "int" = some true; decide +kernel
  · show kitB "int" "int" = some true; decide +kernel
  · show kitB "str" "int" = some false; decide +kernel
  · show kitB "list" "int" = some false; decide +kernel
  · show kitB "tuple" "int" = some false; decide +kernel
  · show kitB "dict" "int" = some false; decide +kernel
theorem kit_bool (d : Dt) : kitB (tyN d) "bool" = some (isBlD d) := by
  cases d
  · show kitB "NoneType" "bool" = some false; decide +kernel
  · show kitB "bool" "bool" = some true; decide +kernel
  · show kitB "int" "bool" = some false; decide +kernel
  · show kitB "str" "bool" = some false; decide +kernel
  · show kitB "list" "bool" = some false; decide +kernel
  · show kitB "tuple" "bool" = some false; decide +kernel
  · show kitB "dict" "bool" = some false; decide +kernel
theorem kit_str (d : Dt) : kitB (tyN d) "str" = some (isStrD d) := by
  cases d
  · show kitB "NoneType" "str" = some false; decide +kernel
  · show kitB "bool" "str" = some false; decide +kernel
  · show kitB "int" "str" = some false; decide +kernel
  · show kitB "str" "str" = some true; decide +kernel
  · show kitB "list" "str" = some false; decide +kernel
  · show kitB "tuple" "str" = some false; decide +kernel
  · show kitB "dict" "str" = some false; decide +kernel
theorem kit_tuple (d : Dt) : kitB (tyN d) "tuple" = some (isTupD d) := by
  cases d
  · show kitB "NoneType" "tuple" = some false; decide +kernel
  · show kitB "bool" "tuple" = some false; decide +kernel
  · show kitB "int" "tuple" = some false; decide +kernel
  · show kitB "str" "tuple" = some false; decide +kernel
  · show kitB "list" "tuple" = some false; decide +kernel
  · show kitB "tuple" "tuple" = some true; decide +kernel
  · show kitB "dict" "tuple" = some false; decide +kernel
theorem kit_list (d : Dt) : kitB (tyN d) "list" = some (isLstD d) := by
  cases d
  · show kitB "NoneType" "list" = some false; decide +kernel
  · show kitB "bool" "list" = some false; decide +kernel
  · show kitB "int" "list" = some false; decide +kernel
  · show kitB "str" "list" = some false; decide +kernel
  · show kitB "list" "list" = some true; decide +kernel
  · show kitB "tuple" "list" = some false; decide +kernel
  · show kitB "dict" "list" = some false; decide +kernel
/-! ### a def of the text -/
structure FnF (K : PySem.W.Frag) (mg : Str → Option Value) (x : Str) (st : Stmt) (f : Addr) (fd : FuncData) : Prop where
  mg : mg x = some (.ref f)
  kp : PySem.W.keepIn K (.ref f) = true
  ex : ∃ (oc : Value) (od : Option Addr) (kV doc pm : Value) (an : Option Addr) (cdv ct : Value) (osl : Array (Option Value)),
    fd = PySem.W.fnOf x x (defArgs st) (defBody st) (defScope st) .none kV doc pm an cdv ct ∧ K.lookup f = some ⟨oc, od, .func fd, osl⟩ ∧ PySem.W.codeIn K cdv x = true
section
variable {P : Program} {w : World} {K : PySem.W.Frag} {mg : Str → Option Value} {base : Heap} {x : Str} {st : Stmt} {f : Addr} {fd : FuncData}
theorem FnF.ok {k n : Nat} {N ps : List Str} {sp : DSp} (F : FnF K mg x st f fd) (S : FnScope N ps (defScope st)) (mono : ∀ as (Q Q' : Dv → Dn → Prop), (∀ r o, Q r o → Q' r o) → sp as Q → sp as Q')
    (hbody : ∀ (cdv : Value) (A : Around) (outer : List Env) (s : Shared) (H : Hp) (E : XK), Room k (A.deeper (PyProof.Rows.envOfC x (defScope st) s.heap.objs.size f cdv)) → A.guards = some [] →
      ∃ t, DSs (cxOf CX0 P w K mg base N x (defScope st) f cdv A outer s H E).nox n (defBody st) t ∧ ∀ as Q, as.length = ps.length → sp as Q → t { nx := fun env => Q (.dat .none) (outP n ps.length env), rt := fun r env => Q r (outP n ps.length env) } (startD N as)) (hn : n ≤ ps.length := by decide) :
    FnG P w K mg base (k + 1) f fd ps sp := by
  obtain ⟨oc, od, kV, doc, pm, an, cdv, ct, osl, rfl, lk, hcd⟩ := F.ex
  exact fng_of lk hcd S hn mono fun A outer s H E hr hg => hbody cdv A outer s H E hr hg
theorem getP_range {α : Type} (us : List α) : getP us (List.range us.length) = us := by
  apply List.ext_getElem?
  intro i
  rw [getP_at (fun j hj => List.mem_range.mp hj)]
  by_cases h : i < us.length
  · rw [List.getElem?_range h]; rfl
  · rw [List.getElem?_eq_none (by simpa using h), List.getElem?_eq_none (by simpa using h)]; rfl
/-- every parameter by its place -/
theorem FnF.bp {ps : List Str} (F : FnF K mg x st f fd) (m : Nat) (hm : ps.length = m)
    (h : ∀ (kV doc pm : Value) (an : Option Addr) (cdv ct : Value) (us : List Value), us.length = ps.length → bindArgs (PySem.W.fnOf x x (defArgs st) (defBody st) (defScope st) .none kV doc pm an cdv ct) ⟨us, []⟩ = pure (ps.zip us)) : BindP K fd ps m [] [] (List.range m) := by
  obtain ⟨oc, od, kV, doc, pm, an, cdv, ct, osl, rfl, lk, hcd⟩ := F.ex
  subst hm
  refine ⟨⟨[], .nil, fun s us ws _ l1 l2 => ?_⟩, by simp, fun j hj => by simpa using hj, List.nodup_range⟩
  obtain rfl : ws = [] := List.length_eq_zero_iff.mp l2
  rw [List.append_nil, List.append_nil, ← l1, getP_range]
  exact .of_eq (h kV doc pm an cdv ct us l1)
/-- with keywords, all parameters given -/
theorem FnF.bk {ps ks : List Str} {nP : Nat} (F : FnF K mg x st f fd) (pick : List Nat)
    (h : ∀ (kV doc pm : Value) (an : Option Addr) (cdv ct : Value) (us ws : List Value), us.length = nP → ws.length = ks.length → bindArgs (PySem.W.fnOf x x (defArgs st) (defBody st) (defScope st) .none kV doc pm an cdv ct) ⟨us, ks.zip ws⟩ = pure (ps.zip (getP (us ++ ws) pick)))
    (hl : pick.length = ps.length := by rfl) (ht : ∀ j ∈ pick, j < nP + ks.length + 0 := by decide) (hd : pick.Nodup := by decide) : BindP K fd ps nP ks [] pick := by
  obtain ⟨oc, od, kV, doc, pm, an, cdv, ct, osl, rfl, lk, hcd⟩ := F.ex
  refine ⟨⟨[], .nil, fun s us ws _ l1 l2 => ?_⟩, hl, ht, hd⟩
  rw [List.append_nil]
  exact .of_eq (h kV doc pm an cdv ct us ws l1 l2)
end
/-- a def with keyword-only defaults -/
structure FnD (K : PySem.W.Frag) (mg : Str → Option Value) (x : Str) (st : Stmt) (f : Addr) (fd : FuncData) (kws : List (Str × V)) : Prop where
  fn : FnF K mg x st f fd
  df : ∃ D : Addr, (∃ (oc : Value) (od : Option Addr) (doc pm : Value) (an : Option Addr) (cdv ct : Value) (osl : Array (Option Value)),
    fd = PySem.W.fnOf x x (defArgs st) (defBody st) (defScope st) .none (.ref D) doc pm an cdv ct) ∧ ∀ q ∈ kws, ∃ u, PySem.W.nsIn K D q.1 = some (some u) ∧ RelV q.2 u
theorem FnD.bk {K : PySem.W.Frag} {mg : Str → Option Value} {x : Str} {st : Stmt} {f : Addr} {fd : FuncData} {kws : List (Str × V)} {ps ks : List Str} {nP : Nat} (F : FnD K mg x st f fd kws) (ms : List (Str × V)) (hms : ∀ q ∈ ms, q ∈ kws) (pick : List Nat)
    (h : ∀ (D : Addr) (doc pm : Value) (an : Option Addr) (cdv ct : Value) (us ws mv : List Value), us.length = nP → ws.length = ks.length → mv.length = ms.length → KwChain D ((ms.map (·.1)).zip mv) (bindArgs (PySem.W.fnOf x x (defArgs st) (defBody st) (defScope st) .none (.ref D) doc pm an cdv ct) ⟨us, ks.zip ws⟩) (ps.zip (getP (us ++ ws ++ mv) pick)))
    (hl : pick.length = ps.length := by rfl) (ht : ∀ j ∈ pick, j < nP + ks.length + (ms.map (·.2)).length := by decide) (hd : pick.Nodup := by decide) : BindP K fd ps nP ks (ms.map (·.2)) pick := by
  obtain ⟨D, ⟨oc, od, doc, pm, an, cdv, ct, osl, rfl⟩, hq⟩ := F.df
  obtain ⟨mv, hlm, rk, hks⟩ := kwd_vals (ms := ms) fun q hm => hq q (hms q hm)
  refine ⟨⟨mv, rk, fun s us ws X l1 l2 => ?_⟩, hl, ht, hd⟩
  exact BindsTo.of_looks fun M => KwChain.looks X hks (h D doc pm an cdv ct us ws mv l1 l2 hlm)
open PySem PySem.Spec L2
section
variable {X : Cx} {n : Nat} {pos : Pos}
/-! ### a, b, .. = e1, e2, ..: by a tuple that is laid and taken apart -/
def gNms (is : List Nat) : TGs := fun vs σ H Q => vs.length = is.length ∧ Q (sets is vs σ) H
theorem pgn_nil : PGs X [] (gNms []) := pgs_nil.mono fun vs σ H Q h => by
  obtain ⟨h1, h2⟩ := h
  obtain rfl : vs = [] := List.length_eq_zero_iff.mp h1
  exact ⟨rfl, h2⟩
theorem pgn_cons {i : Nat} {is : List Nat} {x : Str} {p : Pos} {es : List Expr} (hN : X.N.Nodup) (hi : X.N[i]? = some x) (hx : Loc X.env.scope x) (h : PGs X es (gNms is)) (hf : X.fn x = true ∨ X.env.scope.names.lookup x = some .local := by first | exact .inl rfl | exact .inr rfl | assumption)
    (hs : (assignEach (.Name x p :: es) X.env).map (·.2) = assign (.Name x p) X.env :: (assignEach es X.env).map (·.2) := by rfl) : PGs X (.Name x p :: es) (gNms (i :: is)) :=
  (pgs_cons (pg_name hN hi hx hf) h hs).mono fun vs σ H Q h => by
    obtain ⟨h1, h2⟩ := h
    match vs, h1, h2 with
    | v :: vs, h1, h2 => exact ⟨v, vs, rfl, by simpa using h1, h2⟩
theorem ds_parT {is : List Nat} {k : Nat} {tgs es : List Expr} {ta : DTa} {pt : Pos} {kt k2 pt2} (hc : X.calm = true) (hg : PGs X tgs (gNms is)) (ha : DA X es ta) (hn : ∀ m ∈ is, n ≤ m := by decide) (hk : is.length = k := by rfl) (hz : k ≤ 100 := by decide)
    (hl : (assignEach tgs X.env).length = k := by rfl) (hst : (assignEach tgs X.env).findIdx? (·.1) = none := by rfl)
    (hs : swapsWithSole [.Tuple tgs kt pt] (.Tuple es k2 pt2) pos.line X.env = pure false := by rfl) (hw : swappedStores [.Tuple tgs kt pt] (.Tuple es k2 pt2) X.env = pure none := by rfl)
    (h1 : (assignEach [.Tuple tgs kt pt] X.env).map (·.2) = [assign (.Tuple tgs kt pt) X.env] := by rfl) : DS X n (.Assign [.Tuple tgs kt pt] (.Tuple es k2 pt2) pos) (sPar is ta) :=
  ⟨(ps_asg (pe_tup ha.run) (pg_tup hc hg hl hst) hs hw h1).mono fun D σ H => by
    rintro ⟨F, env, E, R, q, l⟩
    refine ⟨F, env, R, ha.mono _ _ _ (fun evs env1 q F1 H1 vs E1 R1 V1 => ?_) q⟩
    have hlen : vs.length = k := by rw [V1.length, setL_len q, hk]
    obtain ⟨env', q', R2, E2⟩ := sets_ok V1 R1 (E1.s (n := n)) hn q
    have big : (100 : Nat) ≤ sizeLine := by decide
    refine ⟨by omega, fun p hp => ⟨p, vs, rfl, SqT.of upd_same, hlen, by rw [hlen, hk], ?_⟩⟩
    obtain ⟨R3, E3⟩ := R2.growN hp (.tup vs)
    exact l.nx _ _ _ _ (E2.trans E3.s) R3 q'⟩
end
open PySem PySem.Spec L2

/-! ### data that is shown and compared without bounds being met -/
def strGd (x : Str) : Bool := x.cps.all (· < 0x110000)
mutual
def good : Dt → Bool
  | .none | .bool _ => true
  | .int i => decide (i.natAbs < 2 ^ 1900)
  | .str x => strGd x
  | .list xs | .tuple xs => goodA xs
  | .dict _ => false
def goodA : List Dt → Bool
  | [] => true
  | x :: xs => good x && goodA xs
end
mutual
def sz : Dt → Nat
  | .none | .bool _ => 5
  | .int _ => 1901
  | .str x => 10 * x.length + 2
  | .list xs | .tuple xs => szA xs + 3
  | .dict _ => 0
def szA : List Dt → Nat
  | [] => 0
  | x :: xs => sz x + 2 + szA xs
end
mutual
theorem good_lay : ∀ d : Dt, good d = true → d.canLay0 = true
  | .none, _ => by simp only [PyData.canLay0]
  | .bool _, _ => by simp only [PyData.canLay0]
  | .int _, _ => by simp only [PyData.canLay0]
  | .str x, h => by
    simp only [good] at h
    simp only [PyData.canLay0]
    exact h
  | .list xs, h => by
    simp only [good] at h
    simp only [PyData.canLay0]
    exact goodA_lay xs h
  | .tuple xs, h => by
    simp only [good] at h
    simp only [PyData.canLay0]
    exact goodA_lay xs h
  | .dict _, h => by simp [good] at h
theorem goodA_lay : ∀ ds : List Dt, goodA ds = true → PyData.canLayAll0 ds = true
  | [], _ => by simp only [PyData.canLayAll0]
  | d :: ds, h => by
    simp only [goodA, Bool.and_eq_true] at h
    simp only [PyData.canLayAll0, Bool.and_eq_true]
    exact ⟨good_lay d h.1, goodA_lay ds h.2⟩
end
theorem log2_of {n : Nat} (h : n < 2 ^ 1900) : n.log2 < 1900 := by
  by_cases e : n = 0
  · subst e; decide
  · exact (Nat.log2_lt e).mpr h
mutual
theorem good_show : ∀ d : Dt, good d = true → d.showable = true ∧ d.shown.length ≤ sz d
  | .none, _ => ⟨by simp only [PyData.showable], by simp only [sz]; decide⟩
  | .bool b, _ => ⟨by simp only [PyData.showable], by simp only [sz]; cases b <;> decide⟩
  | .int i, h => by
    have h1 : i.natAbs < 2 ^ 1900 := by simpa [good] using h
    have h2 := log2_of h1
    refine ⟨by simp only [PyData.showable, decide_eq_true_eq]; omega, ?_⟩
    have h3 := int_text_length_le (a := i) (k := 1900) (by decide) h2
    simp only [PyData.shown, sz]
    rw [Str.ofString_eq_toList]
    have h4 : (toString i).toList.length = (toString i).length := String.length_toList
    simp only [Str.length, List.size_toArray, List.length_map]
    omega
  | .str x, h => by
    refine ⟨by simp only [PyData.showable], ?_⟩
    simp only [PyData.shown, sz]
    refine StrLaws.reprText_len x fun c hc => ?_
    have h1 : strGd x = true := by simpa only [good] using h
    unfold strGd at h1
    rw [Array.all_eq_true_iff_forall_mem] at h1
    have := of_decide_eq_true (h1 c (Array.mem_toList_iff.mp hc))
    omega
  | .list xs, h => by
    have h0 : goodA xs = true := by simpa only [good] using h
    obtain ⟨h1, h2⟩ := goodA_show xs h0
    refine ⟨by simp only [PyData.showable]; exact h1, ?_⟩
    have h3 := listText_len_le (PyData.shownAll xs)
    have h4 := PyData.shownAll_length xs
    simp only [PyData.shown, sz]
    omega
  | .tuple xs, h => by
    have h0 : goodA xs = true := by simpa only [good] using h
    obtain ⟨h1, h2⟩ := goodA_show xs h0
    refine ⟨by simp only [PyData.showable]; exact h1, ?_⟩
    have h3 := tupleText_len_le (PyData.shownAll xs)
    have h4 := PyData.shownAll_length xs
    simp only [PyData.shown, sz]
    omega
  | .dict _, h => by simp [good] at h
theorem goodA_show : ∀ ds : List Dt, goodA ds = true → PyData.showableAll ds = true ∧ ((PyData.shownAll ds).map (·.length)).sum + 2 * ds.length ≤ szA ds
  | [], _ => ⟨by simp only [PyData.showableAll], by simp [PyData.shownAll, szA]⟩
  | d :: ds, h => by
    have h0 : good d = true ∧ goodA ds = true := by simpa only [goodA, Bool.and_eq_true] using h
    obtain ⟨a1, a2⟩ := good_show d h0.1
    obtain ⟨b1, b2⟩ := goodA_show ds h0.2
    refine ⟨by simp only [PyData.showableAll, Bool.and_eq_true]; exact ⟨a1, b1⟩, ?_⟩
    simp only [PyData.shownAll, szA, List.map_cons, List.sum_cons, List.length_cons]
    omega
end
theorem shOk_of {d : Dt} (h : good d = true) (h1 : d.depth ≤ 100) (h2 : sz d ≤ 16777216) : shOk d = true := by
  obtain ⟨a, b⟩ := good_show d h
  have c := PyData.hasDict_of_canLay d (good_lay d h)
  have e : sizeLine = 16777216 := sizeLine_eq
  unfold shOk
  simp only [Bool.and_eq_true, decide_eq_true_eq, Bool.not_eq_true']
  exact ⟨⟨⟨a, c⟩, h1⟩, by omega⟩
theorem eqOk_of {d e : Dt} (h : good d = true) (h' : good e = true) (h1 : min d.depth e.depth ≤ 64) : eqOk d e = true := by
  unfold eqOk
  simp only [Bool.or_eq_true, Bool.and_eq_true, decide_eq_true_eq]
  exact .inr ⟨⟨good_lay d h, good_lay e h'⟩, h1⟩
theorem reprD_of {d : Dt} (h : good d = true) (h1 : d.depth ≤ 100) (h2 : sz d ≤ 16777216) : reprD [d] = some (.str d.shown) := by
  show (if shOk d = true then some (PyData.str d.shown) else none) = _
  rw [if_pos (shOk_of h h1 h2)]
theorem goodA_iff {ds : List Dt} : goodA ds = true ↔ ∀ d ∈ ds, good d = true := by
  induction ds with
  | nil => simp [goodA]
  | cons d ds ih => simp [goodA, ih]
theorem depthA_le {ds : List Dt} {k : Nat} (h : ∀ d ∈ ds, d.depth ≤ k) : PyData.depthAll ds ≤ k := by
  induction ds with
  | nil => simp [PyData.depthAll]
  | cons d ds ih =>
    simp only [PyData.depthAll]
    exact Nat.max_le.mpr ⟨h d (List.mem_cons_self ..), ih fun x hx => h x (List.mem_cons_of_mem _ hx)⟩
theorem szA_le {ds : List Dt} {b : Nat} (h : ∀ d ∈ ds, sz d ≤ b) : szA ds ≤ ds.length * (b + 2) := by
  induction ds with
  | nil => simp [szA]
  | cons d ds ih =>
    have h1 := h d (List.mem_cons_self ..)
    have h2 := ih fun x hx => h x (List.mem_cons_of_mem _ hx)
    simp only [szA, List.length_cons, Nat.succ_mul]
    omega
theorem eqD_str (x y : Str) : eqD (.str x) (.str y) = some (.bool (x == y)) := by
  unfold eqD eqOk strStr
  simp [PyData.eqv]
theorem neD_str (x y : Str) : neD (.str x) (.str y) = some (.bool (!(x == y))) := by
  unfold neD eqOk strStr
  simp [PyData.eqv]
theorem eqD_of {d e : Dt} (h : good d = true) (h' : good e = true) (h1 : min d.depth e.depth ≤ 64) : eqD d e = some (.bool (PyData.eqv d e)) := by
  unfold eqD
  rw [if_pos (eqOk_of h h' h1)]
theorem neD_of {d e : Dt} (h : good d = true) (h' : good e = true) (h1 : min d.depth e.depth ≤ 64) : neD d e = some (.bool (!PyData.eqv d e)) := by
  unfold neD
  rw [if_pos (eqOk_of h h' h1)]
open PySem PySem.Spec L2

/-! ### the feed of a law's draws -/
def fkv (ns : List Int) (a l c : Int) : List (Str × Dt) := [("cells", .list (ns.map .int)), ("at", .int a), ("left", .int l), ("count", .int c)]
def FeedP : List (Str × Dt) → Prop := fun kvs => ∃ ns a l c, kvs = fkv ns a l c
abbrev feed : Dv := .obj (.hid FeedP)
theorem k_ca : ¬ (("cells" : Str) = "at") := by decide +kernel
theorem k_cl : ¬ (("cells" : Str) = "left") := by decide +kernel
theorem k_cc : ¬ (("cells" : Str) = "count") := by decide +kernel
theorem k_al : ¬ (("at" : Str) = "left") := by decide +kernel
theorem k_ac : ¬ (("at" : Str) = "count") := by decide +kernel
theorem k_lc : ¬ (("left" : Str) = "count") := by decide +kernel
theorem k_la : ¬ (("left" : Str) = "at") := by decide +kernel
theorem k_cta : ¬ (("count" : Str) = "at") := by decide +kernel
theorem k_ctl : ¬ (("count" : Str) = "left") := by decide +kernel
section
variable (ns : List Int) (a l c : Int) (v : Dt)
theorem f_cells : getS (fkv ns a l c) "cells" = some (.list (ns.map .int)) := by simp only [getS, fkv, List.find?_cons, decide_true, Option.map_some]
theorem f_at : getS (fkv ns a l c) "at" = some (.int a) := by simp only [getS, fkv, List.find?_cons, decide_eq_false k_ca, decide_true, Option.map_some]
theorem f_left : getS (fkv ns a l c) "left" = some (.int l) := by simp only [getS, fkv, List.find?_cons, decide_eq_false k_cl, decide_eq_false k_al, decide_true, Option.map_some]
theorem f_count : getS (fkv ns a l c) "count" = some (.int c) := by simp only [getS, fkv, List.find?_cons, decide_eq_false k_cc, decide_eq_false k_ac, decide_eq_false k_lc, decide_true, Option.map_some]
theorem p_count (c' : Int) : putS (fkv ns a l c) "count" (.int c') = fkv ns a l c' := by
  simp only [putS, fkv, List.any_cons, decide_eq_false k_cc, decide_eq_false k_ac, decide_eq_false k_lc, decide_true, Bool.false_or, Bool.true_or, if_true, List.map_cons, if_neg k_cc, if_neg k_ac, if_neg k_lc, List.map_nil]
theorem p_left (l' : Int) : putS (fkv ns a l c) "left" (.int l') = fkv ns a l' c := by
  simp only [putS, fkv, List.any_cons, decide_eq_false k_cl, decide_eq_false k_al, decide_true, Bool.false_or, Bool.true_or, if_true, List.map_cons, if_neg k_cl, if_neg k_al, if_neg k_ctl, List.map_nil]
theorem p_at (a' : Int) : putS (fkv ns a l c) "at" (.int a') = fkv ns a' l c := by
  simp only [putS, fkv, List.any_cons, decide_eq_false k_ca, decide_true, Bool.false_or, Bool.true_or, if_true, List.map_cons, if_neg k_ca, if_neg k_la, if_neg k_cta, List.map_nil]
theorem f_len : (fkv ns a l c).length = 4 := rfl
end
/-- what a draw promises, the feed's pairs told -/
def spDraw0 : DSp := fun as Q => ∃ kvs m, as = [.obj (.dic kvs), .dat (.int m)] ∧ FeedP kvs ∧ 0 < m ∧ m < 1073741824 ∧ ∀ k kvs', 0 ≤ k → k < m → FeedP kvs' → Q (.dat (.int k)) [some (.obj (.dic kvs')), some (.dat (.int m))]
/-- .. hidden: any number below m -/
def spDraw : DSp := fun as Q => ∃ m, as = [feed, .dat (.int m)] ∧ 0 < m ∧ m < 1073741824 ∧ ∀ k, 0 ≤ k → k < m → Q (.dat (.int k)) [some feed, some (.dat (.int m))]
theorem spDraw_mono : ∀ as (Q Q' : Dv → Dn → Prop), (∀ r o, Q r o → Q' r o) → spDraw as Q → spDraw as Q' := fun as Q Q' i ⟨m, e, h1, h2, h3⟩ => ⟨m, e, h1, h2, fun k a b => i _ _ (h3 k a b)⟩
theorem draw_hid {Pr : Program} {w : World} {K : PySem.W.Frag} {mg : Str → Option Value} {base : Heap} {k : Nat} {f : Addr} {fd : FuncData} {ps : List Str} (G : FnG Pr w K mg base k f fd ps spDraw0) : FnG Pr w K mg base k f fd ps spDraw :=
  (fng_hid FeedP G).imp spDraw_mono fun as Q ⟨m, e, h1, h2, h3⟩ => ⟨[.dat (.int m)], e, fun kvs hP => ⟨kvs, m, rfl, hP, h1, h2, fun k kvs' a b hP' => ⟨kvs', _, rfl, hP', h3 k a b⟩⟩⟩
theorem lay_ints (ns : List Int) : PyData.canLayAll0 (ns.map PyData.int) = true := by
  induction ns with
  | nil => simp only [List.map_nil, PyData.canLayAll0]
  | cons n ns ih => simp only [List.map_cons, PyData.canLayAll0, PyData.canLay0, ih, Bool.and_self]
theorem ne_nil_ints (ns : List Int) : neD (.list (ns.map .int)) (.list []) = some (.bool (!ns.isEmpty)) := by
  have h : eqOk (.list (ns.map .int)) (.list []) = true := by
    unfold eqOk
    simp only [PyData.canLay0, lay_ints, PyData.canLayAll0, PyData.depth, PyData.depthAll, Bool.and_self, Bool.true_and, Bool.or_eq_true, decide_eq_true_eq]
    exact .inr (decide_eq_true (Nat.le_trans (Nat.min_le_right _ (0 + 1)) (show (0 + 1 : Nat) ≤ 64 by decide)))
  unfold neD
  rw [if_pos h]
  cases ns <;> simp [PyData.eqv, PyData.eqvAll]
theorem mul_small {i j : Int} (h : -(2 ^ 64) < i ∧ i < 2 ^ 64) : mulD (.int i) (.int j) = some (.int (i * j)) := by
  show (if CMulB i j then some (PyData.int (i * j)) else none) = _
  rw [if_pos (.inl (.inl h))]
theorem mod_pos {i j : Int} (h : 0 < j) : modD (.int i) (.int j) = some (.int (i % j)) := by
  show (if 0 < j then some (PyData.int (i % j)) else none) = _
  rw [if_pos h]
theorem fdv_pos {i j : Int} (h : 0 < j ∧ j < 1073741824) : fdvD (.int i) (.int j) = some (.int (i / j)) := by
  show (if CDiv i j then some (PyData.int (i / j)) else none) = _
  rw [if_pos (show CDiv i j from h)]
theorem pow_lit {i j : Int} (h : CPow i j) : powD (.int i) (.int j) = some (.int (i ^ j.toNat)) := by
  show (if CPow i j then some (PyData.int (i ^ j.toNat)) else none) = _
  rw [if_pos h]
theorem atI_ok {α : Type} {xs : List α} {i : Int} (h0 : 0 ≤ i) (h1 : i < xs.length) : ∃ x, atI xs i = some x ∧ x ∈ xs := by
  have hl : i.toNat < xs.length := by omega
  refine ⟨xs[i.toNat], ?_, List.getElem_mem hl⟩
  unfold atI ixN
  rw [if_pos h0, if_pos h1]
  exact List.getElem?_eq_getElem hl
open PySem PySem.Spec L2

/-! ### going through a term, rule by rule -/
def puE (i : Nat) (v : Dv) (env : Dn) (q : Dn → Prop) : Prop := q (env.set i (some v))
def one : List Dt → (Dt → Prop) → Prop
  | [d], q => q d
  | _, _ => False
def asL : Dt → (List Dt → Prop) → Prop
  | .list ds, q => q ds
  | _, _ => False
def asI : Dt → (Int → Prop) → Prop
  | .int j, q => q j
  | _, _ => False
def zpD : List Dt → (List Dt → Prop) → Prop
  | [.tuple xs, .tuple ys], q => q (zipD xs ys)
  | [.list xs, .list ys], q => q (zipD xs ys)
  | _, _ => False

def doFn (sp : DSp) (nP nK : Nat) (dd : List Dt) (pick : List Nat) (evs kevs : List Ev) (env : Dn) (Q : Ev → Dn → Prop) : Prop := evs.length = nP ∧ kevs.length = nK ∧
  okV (getP (evs ++ kevs ++ dd.map Ev.dat) pick) = true ∧ wr (argsO env (getP (evs ++ kevs ++ dd.map Ev.dat) pick)) fun as => sp as fun r outs => Q r.ev (bkA (getP (evs ++ kevs ++ dd.map Ev.dat) pick) outs env)
/-- a function that gives data and leaves what it is handed -/
def spX {α : Type} (args : α → List Dv) (pre : α → Prop) (post : α → Dt → Prop) : DSp := fun as Q => ∃ a : α, as = args a ∧ pre a ∧ ∀ d, post a d → Q (.dat d) (as.map some)
theorem spX_mono {α : Type} (args : α → List Dv) (pre : α → Prop) (post : α → Dt → Prop) : ∀ as (Q Q' : Dv → Dn → Prop), (∀ r o, Q r o → Q' r o) → spX args pre post as Q → spX args pre post as Q' :=
  fun as Q Q' i ⟨a, e, h, q⟩ => ⟨a, e, h, fun d p => i _ _ (q d p)⟩
theorem set_same {α : Type} {env : List α} {i : Nat} {x : α} (h : env[i]? = some x) : env.set i x = env := by
  apply List.ext_getElem?
  intro j
  by_cases hj : i = j
  · subst hj
    rw [List.getElem?_set_self (List.getElem?_eq_some_iff.mp h).1, h]
  · rw [List.getElem?_set_ne hj]
theorem bkA_same : ∀ {es : List Ev} {env : Dn} {as : List Dv}, argsO env es = some as → bkA es (as.map some) env = env
  | [], env, as, h => by simp [bkA]
  | e :: es, env, as, h => by
    unfold argsO at h
    split at h
    · rename_i d ds h1 h2
      cases h
      have ih := bkA_same h2
      cases e with
      | dat d => exact ih
      | new o => exact ih
      | var i =>
        have hs : env.set i (some d) = env := by
          apply set_same
          cases ho : env[i]? with
          | none => simp only [argO, ho] at h1; cases h1
          | some o => simp only [argO, ho] at h1; rw [h1]
        show bkA es (ds.map some) (env.set i (some d)) = env
        rw [hs, ih]
    · cases h
theorem i_call {α : Type} {args : α → List Dv} {pre : α → Prop} {post : α → Dt → Prop} {nP nK : Nat} {dd : List Dt} {pick : List Nat} {evs kevs : List Ev} {env : Dn} {Q : Ev → Dn → Prop} (a : α)
    (h1 : evs.length = nP) (h2 : kevs.length = nK) (h3 : okV (getP (evs ++ kevs ++ dd.map Ev.dat) pick) = true) (h4 : argsO env (getP (evs ++ kevs ++ dd.map Ev.dat) pick) = some (args a)) (hp : pre a) (hq : ∀ d, post a d → Q (.dat d) env) :
    doFn (spX args pre post) nP nK dd pick evs kevs env Q := by
  refine ⟨h1, h2, h3, ?_⟩
  rw [h4]
  refine ⟨a, rfl, hp, fun d p => ?_⟩
  show Q (.dat d) _
  rw [bkA_same h4]
  exact hq d p
theorem fng_never {P : Program} {w : World} {K : PySem.W.Frag} {mg : Str → Option Value} {base : Heap} {k : Nat} {f : Addr} {fd : FuncData} {ps : List Str} {sp : DSp} (h : ∀ as Q, sp as Q → False) : FnG P w K mg base k f fd ps sp :=
  ⟨fun as Q Q' _ q => (h as Q q).elim, fun A outer s H args us vs Q _ _ _ _ _ _ ⟨F, as, R, q⟩ => (h _ _ q).elim⟩
/-- a draw, as a promise of this form -/
def spDr : DSp := spX (α := Int) (fun m => [feed, .dat (.int m)]) (fun m => 0 < m ∧ m < 1073741824) fun m r => ∃ k, r = .int k ∧ 0 ≤ k ∧ k < m
theorem draw_spX {Pr : Program} {w : World} {K : PySem.W.Frag} {mg : Str → Option Value} {base : Heap} {k : Nat} {f : Addr} {fd : FuncData} {ps : List Str} (G : FnG Pr w K mg base k f fd ps spDraw) : FnG Pr w K mg base k f fd ps spDr :=
  G.imp (spX_mono _ _ _) fun as Q ⟨m, e, h, q⟩ => ⟨m, e, h.1, h.2, fun k a b => by have := q (.int k) ⟨k, rfl, a, b⟩; rw [e] at this; exact this⟩
theorem i_draw {i : Nat} {m : Int} {env : Dn} {Q : Ev → Dn → Prop} (e : env[i]? = some (some feed)) (h0 : 0 < m) (h1 : m < 1073741824) (h : ∀ k, 0 ≤ k → k < m → Q (.dat (.int k)) env) : doFn spDr 2 0 [] (List.range 2) [.var i, .dat (.int m)] [] env Q := by
  refine i_call m rfl rfl rfl ?_ ⟨h0, h1⟩ ?_
  · show argsO env [.var i, .dat (.int m)] = _
    simp only [argsO, argO, e]
  · rintro d ⟨k, rfl, a, b⟩
    exact h k a b
section
variable {env env' : Dn} {Q : Ev → Dn → Prop} {Qb : Bool → Dn → Prop} {Ql : List Dt → Dn → Prop} {Qa : List Ev → Dn → Prop} {Qd : Dt → Prop} {nx bk ct : Dn → Prop} {rt : Dv → Dn → Prop} {t u : DTS} {te ta tb tk tv : DT} {c c' : DTb} {tl : DTl} {tz tz' : DTa} {i : Nat} {d : Dt} {o : Ob} {E : DEnds} {g : DTg}
theorem i_seq (h : t ⟨u ⟨nx, rt, bk, ct⟩, rt, bk, ct⟩ env) : sSeq t u ⟨nx, rt, bk, ct⟩ env := h
theorem i_nx (h : nx env) : sNx ⟨nx, rt, bk, ct⟩ env := h
theorem i_brk (h : bk env) : sBk ⟨nx, rt, bk, ct⟩ env := h
theorem i_cnt (h : ct env) : sCt ⟨nx, rt, bk, ct⟩ env := h
theorem i_drop (h : te env fun _ env1 => nx env1) : sDrop te ⟨nx, rt, bk, ct⟩ env := h
theorem i_ret (h : te env fun ev env1 => retE ev fun r => rt r env1) : sRet te ⟨nx, rt, bk, ct⟩ env := h
theorem i_retN (h : rt (.dat .none) env) : sRetN ⟨nx, rt, bk, ct⟩ env := h
theorem i_if (h : c env fun b env1 => if b = true then t E env1 else u E env1) : sIf c t u E env := h
theorem cut_nx (tail : nx env) (h : nx env → sIf c t u ⟨nx, rt, bk, ct⟩ env) : sIf c t u ⟨nx, rt, bk, ct⟩ env := h tail
theorem i_set (h : te env fun ev env1 => setE i ev env1 nx) : sSet i te ⟨nx, rt, bk, ct⟩ env := h
theorem i_setD (e : env.set i (some (.dat d)) = env') (h : nx env') : setE i (.dat d) env nx := by subst e; exact h
theorem i_setN (e : env.set i (some (.obj o)) = env') (h : nx env') : setE i (.new o) env nx := by subst e; exact h
theorem i_retD {q : Dv → Prop} (h : q (.dat d)) : retE (.dat d) q := h
theorem i_retO {q : Dv → Prop} (h : q (.obj o)) : retE (.new o) q := h
theorem i_setL0 (h : nx env) : setL [] [] env nx := h
theorem i_setLD {is : List Nat} {evs : List Ev} (e : env.set i (some (.dat d)) = env') (h : setL is evs env' nx) : setL (i :: is) (.dat d :: evs) env nx := by subst e; exact h
theorem i_setLN {is : List Nat} {evs : List Ev} (e : env.set i (some (.obj o)) = env') (h : setL is evs env' nx) : setL (i :: is) (.new o :: evs) env nx := by subst e; exact h
theorem i_par {is : List Nat} (h : tz env fun evs env1 => setL is evs env1 nx) : sPar is tz ⟨nx, rt, bk, ct⟩ env := h
theorem i_asg (h : te env fun ev env1 => as1 ev fun d => g d env1 nx) : sAsg te g ⟨nx, rt, bk, ct⟩ env := h
theorem i_as1 (h : Qd d) : as1 (.dat d) Qd := h
theorem i_gN (e : env.set i (some (.dat d)) = env') (h : nx env') : gN i d env nx := by subst e; exact h
theorem i_gsN (h : nx env) : gsN [] env nx := h
theorem i_gsC {gs : DTgs} {ds : List Dt} (h : g d env fun env1 => gs ds env1 nx) : gsC g gs (d :: ds) env nx := h
theorem i_gT {k : Nat} {gs : DTgs} {ds : List Dt} (hk : ds.length = k) (h : gs ds env nx) : gT k gs (.tuple ds) env nx := ⟨hk, h⟩
theorem i_for (h : tl env fun ds env1 => dFor g t E ds env1) : sFor tl g t E env := h
theorem i_for0 (h : nx env) : dFor g t ⟨nx, rt, bk, ct⟩ [] env := h
theorem i_for1 {ds : List Dt} (h : g d env fun env1 => t ⟨dFor g t ⟨nx, rt, bk, ct⟩ ds, rt, nx, dFor g t ⟨nx, rt, bk, ct⟩ ds⟩ env1) : dFor g t ⟨nx, rt, bk, ct⟩ (d :: ds) env := h
theorem for_ind {Inv : List Dt → Dn → Prop} (h0 : ∀ env, Inv [] env → nx env) (hs : ∀ d ds env, Inv (d :: ds) env → (∀ env', Inv ds env' → dFor g t ⟨nx, rt, bk, ct⟩ ds env') → g d env fun env1 => t ⟨dFor g t ⟨nx, rt, bk, ct⟩ ds, rt, nx, dFor g t ⟨nx, rt, bk, ct⟩ ds⟩ env1) : ∀ ds env, Inv ds env → dFor g t ⟨nx, rt, bk, ct⟩ ds env
  | [], env, h => h0 env h
  | d :: ds, env, h => hs d ds env h fun env' h' => for_ind h0 hs ds env' h'
theorem i_iSeq (h : te env fun ev env1 => as1 ev fun d => wr (seqD d) fun ds => Ql ds env1) : iSeq te env Ql := h
theorem i_iRng (h : te env fun ev env1 => as1 ev fun d => asI d fun j => (-(2 ^ 62) ≤ j ∧ j < 2 ^ 62) ∧ Ql (rngL 0 j) env1) : iRng te env Ql := by
  have e : ∀ (d : Dt) (env1 : Dn), (asI d fun j => (-(2 ^ 62) ≤ j ∧ j < 2 ^ 62) ∧ Ql (rngL 0 j) env1) = (match d with | .int j => (-(2 ^ 62) ≤ j ∧ j < 2 ^ 62) ∧ Ql (rngL 0 j) env1 | _ => False) := by
    intros
    rename_i d _; cases d <;> rfl
  simp only [e] at h
  exact h
theorem i_asI {q : Int → Prop} {j : Int} (h : q j) : asI (.int j) q := h
theorem i_rng {j : Int} {p : Prop} (e : -(2 ^ 62) ≤ j ∧ j < 2 ^ 62) (h : p) : (-(2 ^ 62) ≤ j ∧ j < 2 ^ 62) ∧ p := ⟨e, h⟩
theorem i_iZp (h : tz env fun evs env1 => asD evs fun ds => zpD ds fun xs => Ql xs env1) : iZp tz env Ql := by
  have e : ∀ (ds : List Dt) (env1 : Dn), (zpD ds fun xs => Ql xs env1) = (match ds with | [.tuple xs, .tuple ys] => Ql (zipD xs ys) env1 | [.list xs, .list ys] => Ql (zipD xs ys) env1 | _ => False) := by
    intros
    rename_i ds _; unfold zpD; split <;> simp_all
  simp only [e] at h
  exact h
theorem i_C (h : Q (.dat d) env) : kC d env Q := h
theorem i_varD (e : env[i]? = some (some (.dat d))) (h : Q (.dat d) env) : kVar i env Q := by unfold kVar; rw [e]; exact h
theorem i_varO (e : env[i]? = some (some (.obj o))) (h : Q (.var i) env) : kVar i env Q := by unfold kVar; rw [e]; exact h
theorem i_nil (h : Qa [] env) : kNil env Qa := h
theorem i_cons (h : te env fun ev env1 => tz env1 fun evs env2 => Qa (ev :: evs) env2) : kCons te tz env Qa := h
theorem i_asD0 {q : List Dt → Prop} (h : q []) : asD [] q := h
theorem i_asDc {q : List Dt → Prop} {evs : List Ev} (h : asD evs fun ds => q (d :: ds)) : asD (.dat d :: evs) q := h
theorem i_lenOk {n : Nat} {p : Prop} (e : n ≤ sizeLine) (h : p) : lenOk n ∧ p := ⟨e, h⟩
theorem i_tup (h : tz env fun evs env1 => asD evs fun ds => lenOk ds.length ∧ Q (.dat (.tuple ds)) env1) : kTup tz env Q := h
theorem i_LF (h : tl env fun ds env' => Q (.dat (.list ds)) env') : kLF tl env Q := h
theorem i_LN (h : tl env fun ds env' => Q (.new (.lst ds)) env') : kLN tl env Q := h
theorem i_Lst (h : tz env fun evs env1 => asD evs fun ds => lenOk ds.length ∧ Ql ds env1) : kLst tz env Ql := h
theorem i_op {f : Dt → Dt → Option Dt} (h : ta env fun a env1 => tb env1 fun b env2 => wr (rs env2 a) fun dx => wr (rs env2 b) fun dy => wr (f dx dy) fun d => Q (.dat d) env2) : kOp f ta tb env Q := h
theorem i_un {f : Dt → Option Dt} (h : ta env fun ea env1 => wr (rs env1 ea) fun dx => wr (f dx) fun d => Q (.dat d) env1) : kUn f ta env Q := h
theorem i_rsD (h : Qd d) : wr (rs env (.dat d)) Qd := h
theorem i_rsV (e : rs env (.var i) = some d) (h : Qd d) : wr (rs env (.var i)) Qd := by rw [e]; exact h
theorem i_rsN {xs : List Dt} (h : Qd (.list xs)) : wr (rs env (.new (.lst xs))) Qd := h
theorem i_wr {α : Type} {x : Option α} {y : α} {q : α → Prop} (e : x = some y) (h : q y) : wr x q := by rw [e]; exact h
theorem i_asB {b : Bool} {q : Bool → Prop} (h : q b) : asB (.dat (.bool b)) q := h
theorem i_B (h : te env fun ev env1 => asB ev fun b => Qb b env1) : kB te env Qb := h
theorem i_andB (h : c env fun b env1 => if b = true then c' env1 Qb else Qb false env1) : kAndB c c' env Qb := h
theorem i_orB (h : c env fun b env1 => if b = true then Qb true env1 else c' env1 Qb) : kOrB c c' env Qb := h
theorem i_notB (h : c env fun b env1 => Qb (!b) env1) : kNotB c env Qb := h
theorem i_kIf (h : c env fun b env1 => if b = true then ta env1 Q else tb env1 Q) : kIf c ta tb env Q := h
theorem i_andV (h : ta env fun ev env1 => asB ev fun b => if b = true then tb env1 Q else Q (.dat (.bool false)) env1) : kAndV ta tb env Q := h
theorem i_orV (h : ta env fun ev env1 => asB ev fun b => if b = true then Q (.dat (.bool true)) env1 else tb env1 Q) : kOrV ta tb env Q := h
theorem i_notV (h : ta env fun ev env1 => asB ev fun b => Q (.dat (.bool (!b))) env1) : kNotV ta env Q := h
theorem i_iteT {p q : Prop} (h : p) : if true = true then p else q := h
theorem i_iteF {p q : Prop} (h : q) : if false = true then p else q := h
theorem i_iteN1 {p q : Prop} (h : q) : if (!true) = true then p else q := h
theorem i_iteN0 {p q : Prop} (h : p) : if (!false) = true then p else q := h
theorem i_ite {b : Bool} {p q : Prop} (h : b = true → p) (h' : b = false → q) : if b = true then p else q := by
  cases b
  · exact h' rfl
  · exact h rfl
theorem i_iteD {a : Prop} [Decidable a] {p q : Prop} (h : a → p) (h' : ¬ a → q) : if decide a = true then p else q := by
  by_cases x : a
  · rw [if_pos (decide_eq_true x)]; exact h x
  · rw [if_neg (by simpa using x)]; exact h' x
theorem i_kCall {f : List Dt → Option Dt} (h : tz env fun evs env1 => wr (rsL env1 evs) fun ds => wr (f ds) fun d => Q (.dat d) env1) : kCall f tz env Q := h
theorem i_isi {f : Dt → Bool} (h : te env fun ev env1 => wr (rs env1 ev) fun d => Q (.dat (.bool (f d))) env1) : kIsi f te env Q := h
theorem i_toLst (h : tz env fun evs env1 => wr (rsL env1 evs) fun ds => one ds fun d => wr (seqD d) fun xs => Ql xs env1) : kToLst tz env Ql := by
  have e : ∀ (ds : List Dt) (env1 : Dn), (one ds fun d => wr (seqD d) fun xs => Ql xs env1) = (match ds with | [d] => wr (seqD d) fun xs => Ql xs env1 | _ => False) := by
    intros
    rename_i ds _; rcases ds with _ | ⟨d, _ | ⟨d2, r⟩⟩ <;> rfl
  simp only [e] at h
  exact h
theorem i_one {q : Dt → Prop} (h : q d) : one [d] q := h
theorem i_asL {q : List Dt → Prop} {ds : List Dt} (h : q ds) : asL (.list ds) q := h
theorem i_zpT {q : List Dt → Prop} {xs ys : List Dt} (h : q (zipD xs ys)) : zpD [.tuple xs, .tuple ys] q := h
theorem i_zpL {q : List Dt → Prop} {xs ys : List Dt} (h : q (zipD xs ys)) : zpD [.list xs, .list ys] q := h
theorem i_sqT {q : List Dt → Prop} {xs : List Dt} (h : q xs) : wr (seqD (.tuple xs)) q := h
theorem i_sqL {q : List Dt → Prop} {xs : List Dt} (h : q xs) : wr (seqD (.list xs)) q := h
theorem i_ttL {xs : List Dt} (h : Qd (.tuple xs)) : wr (toTupD [.list xs]) Qd := h
theorem i_ttT {xs : List Dt} (h : Qd (.tuple xs)) : wr (toTupD [.tuple xs]) Qd := h
theorem i_rsL1V (e : rs env (.var i) = some d) {q : List Dt → Prop} (h : q [d]) : wr (rsL env [.var i]) q := i_wr (by unfold rsL; rw [e]; rfl) h
theorem i_rsL1N {q : List Dt → Prop} {xs : List Dt} (h : q [.list xs]) : wr (rsL env [.new (.lst xs)]) q := h
theorem i_frzD (e : env[i]? = some (some (.dat d))) (h : Q (.dat d) env) : kFrz i env Q := by unfold kFrz; rw [e]; exact h
theorem i_frzO {xs : List Dt} (e : env[i]? = some (some (.obj (.lst xs)))) (h : puE i (.dat (.list xs)) env fun env' => Q (.dat (.list xs)) env') : kFrz i env Q := by unfold kFrz; rw [e]; exact h
theorem i_fn {sp : DSp} {nP nK : Nat} {dd : List Dt} {pick : List Nat} (h : tz env fun evs env1 => tz' env1 fun kevs env2 => doFn sp nP nK dd pick evs kevs env2 Q) : kFn sp nP nK dd pick tz tz' env Q := h
theorem i_gL {xs : List Dt} {q : List Dt → Prop} (e : env[i]? = some (some (.obj (.lst xs)))) (h : q xs) : gL env i q := by unfold gL; rw [e]; exact h
theorem i_gD {xs : List (Str × Dt)} {q : List (Str × Dt) → Prop} (e : env[i]? = some (some (.obj (.dic xs)))) (h : q xs) : gD env i q := by unfold gD; rw [e]; exact h
theorem i_puE {q : Dn → Prop} {v : Dv} (e : env.set i (some v) = env') (h : q env') : puE i v env q := by subst e; exact h
theorem i_sz {n : Nat} {p : Prop} (e : n < sizeLine) (h : p) : n < sizeLine ∧ p := ⟨e, h⟩
theorem i_sz' {n : Nat} {p : Prop} (e : n ≤ sizeLine) (h : p) : n ≤ sizeLine ∧ p := ⟨e, h⟩
theorem i_app (h : gL env i fun _ => te env fun ev env1 => as1 ev fun d => gL env1 i fun xs => xs.length < sizeLine ∧ puE i (.obj (.lst (xs ++ [d]))) env1 fun env2 => Q (.dat .none) env2) : kApp i te env Q := h
theorem i_ext (h : gL env i fun _ => te env fun ev env1 => as1 ev fun d => gL env1 i fun xs => asL d fun ys => xs.length + ys.length ≤ sizeLine ∧ puE i (.obj (.lst (xs ++ ys))) env1 fun env2 => Q (.dat .none) env2) : kExt i te env Q := by
  have e : ∀ (d : Dt) (xs : List Dt) (env1 : Dn), (asL d fun ys => xs.length + ys.length ≤ sizeLine ∧ puE i (.obj (.lst (xs ++ ys))) env1 fun env2 => Q (.dat .none) env2) = (match d with | .list ys => xs.length + ys.length ≤ sizeLine ∧ Q (.dat .none) (env1.set i (some (.obj (.lst (xs ++ ys))))) | _ => False) := by
    intros
    rename_i d _ _; cases d <;> rfl
  simp only [e] at h
  exact h
theorem i_pop (h : gL env i fun xs => wr xs.getLast? fun d => puE i (.obj (.lst xs.dropLast)) env fun env2 => Q (.dat d) env2) : kPop i env Q := h
theorem i_rev (h : te env fun ev env1 => wr (rs env1 ev) fun d => asL d fun ds => Ql ds.reverse env1) : kRev te env Ql := by
  have e : ∀ (d : Dt) (env1 : Dn), (asL d fun ds => Ql ds.reverse env1) = (match d with | .list ds => Ql ds.reverse env1 | _ => False) := by
    intros
    rename_i d _; cases d <;> rfl
  simp only [e] at h
  exact h
theorem i_dnew (h : Q (.new (.dic [])) env) : kDnew env Q := h
theorem i_dget2 (h : gD env i fun _ => tk env fun ek env1 => tv env1 fun ed env2 => as1 ed fun d0 => gD env2 i fun kvs => wr ((rs env2 ek).bind strK) fun k => Q (.dat ((getS kvs k).getD d0)) env2) : kDget2 i tk tv env Q := h
theorem i_dix (h : gD env i fun _ => tk env fun ek env1 => gD env1 i fun kvs => wr ((rs env1 ek).bind strK) fun k => wr (getS kvs k) fun d => Q (.dat d) env1) : kDix i tk env Q := h
theorem i_dput (h : tv env fun ev env1 => as1 ev fun d => gD env1 i fun _ => tk env1 fun ek env2 => gD env2 i fun kvs => wr ((rs env2 ek).bind strK) fun k => kvs.length < sizeLine ∧ puE i (.obj (.dic (putS kvs k d))) env2 nx) : sDput i tk tv ⟨nx, rt, bk, ct⟩ env := h
theorem i_strK {k : Str} {q : Str → Prop} (h : q k) : wr ((rs env (.dat (.str k))).bind strK) q := h
theorem i_dict (h : tz env fun evs env1 => wr (rsL env1 evs) fun ds => one ds fun d => wr (dicOf d) fun kvs => Q (.new (.dic (mergeS [] kvs))) env1) : kDict tz env Q := by
  have e : ∀ (ds : List Dt) (env1 : Dn), (one ds fun d => wr (dicOf d) fun kvs => Q (.new (.dic (mergeS [] kvs))) env1) = (match ds with | [d] => wr (dicOf d) fun kvs => Q (.new (.dic (mergeS [] kvs))) env1 | _ => False) := by
    intros
    rename_i ds _; rcases ds with _ | ⟨d, _ | ⟨d2, r⟩⟩ <;> rfl
  simp only [e] at h
  exact h
theorem i_sortD (h : gD env i fun kvs => kvs.length < 64 ∧ ∀ ys : List Str, ys.Perm (kvs.map (·.1)) → PyProof.Rows.sortedS ys = true → Ql (ys.map PyData.str) env) : kSortD i env Ql := h
theorem i_pNil {q : List (Str × Dt) → Dn → Prop} (h : q [] env) : pNil env q := h
theorem i_pCons {q : List (Str × Dt) → Dn → Prop} {k : Str} {up : DTp} (h : tv env fun ev env1 => as1 ev fun d => up env1 fun kvs env2 => q ((k, d) :: kvs) env2) : pCons k tv up env q := h
theorem i_disp {tp : DTp} (h : tp env fun kvs env1 => kvs.length ≤ 15 ∧ Q (.new (.dic (mergeS [] kvs))) env1) : kDisp tp env Q := h
theorem i_comp {vs : List Nat} (h : tl env fun ds env1 => lenOk ds.length ∧ dComp vs g c te Ql ds [] (wipeD env1 vs)) : kComp vs tl g c te env Ql := h
theorem i_comp0 {vs : List Nat} {acc : List Dt} (h : Ql acc env) : dComp vs g c te Ql [] acc env := h
theorem i_comp1 {vs : List Nat} {acc ds : List Dt} (h : g d env fun env1 => c env1 fun b env2 => if b = true then te env2 fun ev env3 => as1 ev fun r => dComp vs g c te Ql ds (acc ++ [r]) (wipeD env3 vs) else dComp vs g c te Ql ds acc (wipeD env2 vs)) : dComp vs g c te Ql (d :: ds) acc env := h
theorem i_wipe {vs : List Nat} {acc ds : List Dt} (e : wipeD env vs = env') (h : dComp vs g c te Ql ds acc env') : dComp vs g c te Ql ds acc (wipeD env vs) := by rw [e]; exact h
theorem comp_ind {vs : List Nat} {Inv : List Dt → List Dt → Dn → Prop} (h0 : ∀ acc env, Inv [] acc env → Ql acc env) (hs : ∀ d ds acc env, Inv (d :: ds) acc env → (∀ acc' env', Inv ds acc' env' → dComp vs g c te Ql ds acc' env') → g d env fun env1 => c env1 fun b env2 => if b = true then te env2 fun ev env3 => as1 ev fun r => dComp vs g c te Ql ds (acc ++ [r]) (wipeD env3 vs) else dComp vs g c te Ql ds acc (wipeD env2 vs)) : ∀ ds acc env, Inv ds acc env → dComp vs g c te Ql ds acc env
  | [], acc, env, h => h0 acc env h
  | d :: ds, acc, env, h => hs d ds acc env h fun acc' env' h' => comp_ind h0 hs ds acc' env' h'
theorem i_yes (h : Qb true env) : tYesD env Qb := h
section
variable {ns : List Int} {a l m : Int} {q : Dn → Prop}
theorem i_fc (h : Qd (.int m)) : wr (getS (fkv ns a l m) "count") Qd := i_wr (f_count ns a l m) h
theorem i_fl (h : Qd (.int l)) : wr (getS (fkv ns a l m) "left") Qd := i_wr (f_left ns a l m) h
theorem i_fa (h : Qd (.int a)) : wr (getS (fkv ns a l m) "at") Qd := i_wr (f_at ns a l m) h
theorem i_fz (h : Qd (.list (ns.map .int))) : wr (getS (fkv ns a l m) "cells") Qd := i_wr (f_cells ns a l m) h
theorem i_gc {m' : Int} (h : puE i (.obj (.dic (fkv ns a l m'))) env q) : puE i (.obj (.dic (putS (fkv ns a l m) "count" (.int m')))) env q := by rw [p_count]; exact h
theorem i_gl {m' : Int} (h : puE i (.obj (.dic (fkv ns a m' m))) env q) : puE i (.obj (.dic (putS (fkv ns a l m) "left" (.int m')))) env q := by rw [p_left]; exact h
theorem i_ga {m' : Int} (h : puE i (.obj (.dic (fkv ns m' l m))) env q) : puE i (.obj (.dic (putS (fkv ns a l m) "at" (.int m')))) env q := by rw [p_at]; exact h
theorem i_fsz {p : Prop} (h : p) : (fkv ns a l m).length < sizeLine ∧ p := ⟨by rw [f_len]; decide +kernel, h⟩
theorem i_cne (h : Qd (.bool (!ns.isEmpty))) : wr (neD (.list (ns.map .int)) (.list [])) Qd := i_wr (ne_nil_ints ns) h
theorem i_rsL1 {q' : List Dt → Prop} (h : q' [d]) : wr (rsL env [.dat d]) q' := h
theorem i_lenL {ds : List Dt} (h : Qd (.int ds.length)) : wr (lenD [.list ds]) Qd := h
end
/-! values -/
theorem i_addI {a b : Int} (h : Qd (.int (a + b))) : wr (addD (.int a) (.int b)) Qd := h
theorem i_subI {a b : Int} (h : Qd (.int (a - b))) : wr (subD (.int a) (.int b)) Qd := h
theorem i_mulI {a b : Int} (e : -(2 ^ 64) < a ∧ a < 2 ^ 64) (h : Qd (.int (a * b))) : wr (mulD (.int a) (.int b)) Qd := i_wr (mul_small e) h
theorem i_modI {a b : Int} (e : 0 < b) (h : Qd (.int (a % b))) : wr (modD (.int a) (.int b)) Qd := i_wr (mod_pos e) h
theorem i_fdvI {a b : Int} (e : 0 < b ∧ b < 1073741824) (h : Qd (.int (a / b))) : wr (fdvD (.int a) (.int b)) Qd := i_wr (fdv_pos e) h
theorem i_powI {a b : Int} (e : CPow a b) (h : Qd (.int (a ^ b.toNat))) : wr (powD (.int a) (.int b)) Qd := i_wr (pow_lit e) h
theorem i_ixT {ds : List Dt} {j : Int} {x : Dt} (e : atI ds j = some x) (h : Qd x) : wr (ixD (.tuple ds) (.int j)) Qd := i_wr e h
theorem i_ixL {ds : List Dt} {j : Int} {x : Dt} (e : atI ds j = some x) (h : Qd x) : wr (ixD (.list ds) (.int j)) Qd := i_wr e h
theorem i_ixM {ds : List Dt} {j : Int} (h0 : 0 ≤ j) (h1 : j < ds.length) (h : ∀ x ∈ ds, Qd x) : wr (ixD (.list ds) (.int j)) Qd := by
  obtain ⟨x, e, hm⟩ := atI_ok h0 h1
  exact i_ixL e (h x hm)
theorem i_negI {a : Int} (h : Qd (.int (-a))) : wr (negD (.int a)) Qd := h
theorem i_ltI {a b : Int} (h : Qd (.bool (decide (a < b)))) : wr (ltD (.int a) (.int b)) Qd := h
theorem i_leI {a b : Int} (h : Qd (.bool (decide (a ≤ b)))) : wr (leD (.int a) (.int b)) Qd := h
theorem i_gtI {a b : Int} (h : Qd (.bool (decide (b < a)))) : wr (gtD (.int a) (.int b)) Qd := h
theorem i_geI {a b : Int} (h : Qd (.bool (decide (b ≤ a)))) : wr (geD (.int a) (.int b)) Qd := h
theorem eqOk_int (a b : Int) : eqOk (.int a) (.int b) = true := by simp [eqOk, strStr, PyData.canLay0, PyData.depth]
theorem i_eqI {a b : Int} (h : Qd (.bool (decide (a = b)))) : wr (eqD (.int a) (.int b)) Qd := i_wr (by
  unfold eqD
  rw [if_pos (eqOk_int a b)]
  simp only [PyData.eqv]
  by_cases e : a = b
  · simp [e]
  · simp [e]) h
theorem i_neI {a b : Int} (h : Qd (.bool (!decide (a = b)))) : wr (neD (.int a) (.int b)) Qd := i_wr (by
  unfold neD
  rw [if_pos (eqOk_int a b)]
  simp only [PyData.eqv]
  by_cases e : a = b
  · simp [e]
  · simp [e]) h
theorem i_eqS {a b : Str} (h : Qd (.bool (a == b))) : wr (eqD (.str a) (.str b)) Qd := i_wr (eqD_str a b) h
theorem i_neS {a b : Str} (h : Qd (.bool (!(a == b)))) : wr (neD (.str a) (.str b)) Qd := i_wr (neD_str a b) h
theorem i_eqS1 {a : Str} (h : Qd (.bool true)) : wr (eqD (.str a) (.str a)) Qd := i_wr (by rw [eqD_str]; simp) h
theorem i_neS1 {a : Str} (h : Qd (.bool false)) : wr (neD (.str a) (.str a)) Qd := i_wr (by rw [neD_str]; simp) h
theorem i_eqS0 {a b : Str} (e : (a == b) = false) (h : Qd (.bool false)) : wr (eqD (.str a) (.str b)) Qd := i_wr (by rw [eqD_str, e]) h
theorem i_toIntB {b : Bool} (h : Qd (.int (if b then 1 else 0))) : wr (toIntD [.bool b]) Qd := h
end
open PySem PySem.Spec L2

/-! ### the law's first row: the feed of the script -/
def spFeed (K : PySem.W.Frag) : Sp := fun vs H Q _ => ∃ (a : Addr) (ns : List Int), vs = [.ref a] ∧ SqL K H a (ns.map V.int) ∧
  ∀ (H' : Hp) (p q : Addr) (ms : List Int), (∀ b u, H b = some u → H' b = some u) → H p = none → H q = none → p ≠ q → H' p = some (.dK [(Sum.inr "cells", .ref q), (Sum.inr "at", .int 0), (Sum.inr "left", .int 0), (Sum.inr "count", .int 0)]) →
    H' q = some (.lst (ms.map V.int)) → Q (.ref p) H'
theorem newS {H : Hp} {p : Addr} (h : H p = none) (o : HO) : Same H (upd H p o) := fun b u e => by rw [upd_ne (ne_of_none e h)]; exact e
theorem sqL_S {K : PySem.W.Frag} {H H' : Hp} {a : Addr} {xs : List V} (g : Same H H') (h : SqL K H a xs) : SqL K H' a xs := by
  rcases h with (h | ⟨o, h⟩) | h
  · exact .inl (.inl (g _ _ h))
  · exact .inl (.inr ⟨o, g _ _ h⟩)
  · exact .inr h
theorem cutV_ints (ns : List Int) (lo hi : Option Int) : ∃ ms : List Int, cutV (ns.map V.int) lo hi = ms.map V.int := by
  unfold cutV
  exact ⟨_, by rw [← List.map_drop, ← List.map_take]⟩
section
variable {P : Program} {w : World} {K : PySem.W.Frag} {mg : Str → Option Value} {base : Heap} {st : Stmt} {f : Addr} {fd : FuncData}
theorem feed_ok {j1 j2 j3 j4 j5 j6 j7 j8 : Nat} {n63 : Int} {p0 p1 p2 p3 p4 p5 p6 p7 p8 p9 pa pb pc pd pe : Pos} (F : FnF K mg "_law_feed" st f fd) (S : FnScope ["_law_script"] ["_law_script"] (defScope st)) (hl : mg "list" = none) (hloc : (defScope st).names.lookup ("_law_script" : Str) = some NameKind.local)
    (hg : ∀ (cdv : Value) (A : Around) (outer : List Env) (s : Shared) (H : Hp) (E : XK), Gl (cxOf CX0 P w K mg base ["_law_script"] "_law_feed" (defScope st) f cdv A outer s H E).nox "list")
    (hb : defBody st = [.Return (some (.Dict [some (.Constant (.str "cells") j1 p0), some (.Constant (.str "at") j2 p1), some (.Constant (.str "left") j3 p2), some (.Constant (.str "count") j4 p3)]
      [.Call (.Name "list" p4) [.Subscript (.Name "_law_script" p5) (.Slice none (some (.Constant (.int n63) j5 p6)) none p7) p8] [] p9, .Constant (.int 0) j6 pa, .Constant (.int 0) j7 pb, .Constant (.int 0) j8 pc] pd)) pe]) :
    FnOk P w K mg base CX0 1 f fd ["_law_script"] (spFeed K) := by
  have F' : Fun K "_law_feed" "_law_feed" st f fd := ⟨F.ex, F.kp⟩
  refine F'.ok S (fun vs H Q E h => ?_) (fun cdv A outer s H vs Q E hr h => ?_)
  · obtain ⟨a, ns, rfl, _⟩ := h
    rfl
  obtain ⟨a, ns, rfl, hS, q⟩ := h
  rw [hb]
  refine ⟨_, pss_one (ps_ret (pe_disp (pps_cons pe_str (pe_callTy call_list_of (hg _ _ _ _ _ _) hl (by decide +kernel) (pa_cons (pe_slice sl_list (pv 0 (hv := Or.inl hloc)) po_none (po_some pe_int)) pa_nil)) (pps_cons pe_str pe_int (pps_cons pe_str pe_int (pps_cons pe_str pe_int pps_nil)))) rfl rfl (fun z => nomatch z) (Nat.le_of_ble_eq_true rfl))), ?_⟩
  intro p hp
  obtain ⟨ms, hm⟩ := cutV_ints ns none (some n63)
  have g0 : Same H (upd H p (.dK [])) := newS hp _
  refine ⟨_, rfl, _, rfl, a, _, rfl, sqL_S g0 hS, fun r hr' => ?_⟩
  have g1 := g0.trans (newS hr' (.lst (cutV (ns.map V.int) none (some n63))))
  refine ⟨r, _, rfl, .inl (SqL.of upd_same), fun l hl' => ?_⟩
  have npr : p ≠ r := fun e => by subst e; rw [upd_same] at hr'; cases hr'
  have npl : p ≠ l := fun e => by subst e; rw [upd_ne npr, upd_same] at hl'; cases hl'
  have g2 := g1.trans (newS hl' (.lst (cutV (ns.map V.int) none (some n63))))
  refine ⟨by rw [upd_ne npl, upd_ne npr]; exact upd_same, [(Sum.inr "cells", .ref l), (Sum.inr "at", .int 0), (Sum.inr "left", .int 0), (Sum.inr "count", .int 0)], rfl, Nat.le_of_ble_eq_true rfl, ?_⟩
  refine q _ p l ms (fun b u e => ?_) hp ?_ npl ?_ ?_
  · rw [upd_ne (ne_of_none e hp)]; exact g2 b u e
  · cases z : H l with
    | none => rfl
    | some u => rw [g1 l u z] at hl'; cases hl'
  · rw [upd_same]; rfl
  · rw [upd_ne npl.symm, upd_same, hm]
theorem rp_ints {F : Hp} (ms : List Int) : RpAll K F (ms.map V.int) (ms.map PyData.int) := by
  induction ms with
  | nil => exact .nil
  | cons m ms ih => exact .cons (.int m) ih
/-- a law that begins with the feed of its script -/
theorem law_of {g : Addr} {gd : FuncData} {N : List Str} {rest : List Stmt} {k most : Nat} {p1 p2 p3 p4 p5 : Pos} (F : FnF K mg "law" st f fd) (S : FnScope N ["_law_script"] (defScope st)) (hr : Room (k + 1) callerA)
    (hb : defBody st = .Assign [.Name "_law_feed_here" p1] (.Call (.Name "_law_feed" p2) [.Name "_law_script" p3] [] p4) p5 :: rest) (hN : ∃ N' : List Str, N = ("_law_script" : Str) :: ("_law_feed_here" : Str) :: N')
    (l0 : (defScope st).names.lookup ("_law_script" : Str) = some NameKind.local) (l1 : (defScope st).names.lookup ("_law_feed_here" : Str) = some NameKind.local)
    (bL : ∀ (s : Shared) (u : Value), BindsTo s fd ⟨[u], []⟩ [("_law_script", u)])
    (G : FnOk P w K mg base CX0 1 g gd ["_law_script"] (spFeed K)) (bG : Binds K gd ["_law_script"] []) (mG : mg "_law_feed" = some (.ref g)) (kG : PySem.W.keepIn K (.ref g) = true)
    (hgl : ∀ (cdv : Value) (A : Around) (outer : List Env) (s : Shared) (H : Hp) (E : XK), Gl (cxOf CX0 P w K mg base N "law" (defScope st) f cdv A outer s H E).nox "_law_feed")
    (hsw : ∀ (cdv : Value) (A : Around) (outer : List Env) (s : Shared) (H : Hp) (E : XK), swapsWith (.Call (.Name "_law_feed" p2) [.Name "_law_script" p3] [] p4) (some (.Name "_law_feed_here" p1)) p5.line (cxOf CX0 P w K mg base N "law" (defScope st) f cdv A outer s H E).nox.env = pure false)
    (hrest : ∀ (cdv : Value) (A : Around) (outer : List Env) (s : Shared) (H : Hp) (E : XK), Room k (A.deeper (PyProof.Rows.envOfC "law" (defScope st) s.heap.objs.size f cdv)) → A.guards = some [] →
      ∃ t, DSs (cxOf CX0 P w K mg base N "law" (defScope st) f cdv A outer s H E).nox 0 rest t ∧ t { nx := fun _ => False, rt := fun r _ => r = .dat (.bool true) } (none :: some feed :: List.replicate (N.length - 2) none)) (hk : 1 ≤ k := by decide) :
    LawRun P w K mg base f most := by
  intro s H a ns hlen e0 hS
  obtain ⟨oc, od, kV, doc, pm, an, cdv, ct, osl, rfl, lk, hcd⟩ := F.ex
  obtain ⟨N', rfl⟩ := hN
  have KX : K.In s.heap := e0.mod.kin.keeps fun b o e => (e0.bs b o e).1
  have lim : s.heap.NoLimit := e0.mod.nolimit.keeps fun b o e => (e0.bs b o e).1
  apply codeAny_call_function hr.depth (KX _ _ lk) rfl S.co S.gen rfl (PySem.W.codeRec_of KX hcd)
  apply bL
  apply wpAny_newFunctionEnv_cells S.kind (fun y hy => .inl (by simp at hy; subst hy; exact l0))
  intro env he s1 x
  subst he
  refine ⟨lim.keeps x.toInCall.keep, codeAny_func ?_⟩
  obtain ⟨t, ht, hq⟩ := hrest cdv callerA [] s H E0 (hr.deeper _) rfl
  have I : Inv (cxOf CX0 P w K mg base (("_law_script" : Str) :: ("_law_feed_here" : Str) :: N') "law" (defScope st) f cdv callerA [] s H E0) [] (L2.start (("_law_script" : Str) :: ("_law_feed_here" : Str) :: N') [.ref a]) H s1 := inv_start S hr.hd e0 rfl (.cons rfl .nil) x
  have body := pss_cons (ps_set (X := (cxOf CX0 P w K mg base (("_law_script" : Str) :: ("_law_feed_here" : Str) :: N') "law" (defScope st) f cdv callerA [] s H E0).nox) (i := 1) (pos := p5) (pos' := p1) S.nd rfl (Or.inl l1) (pe_call (pos := p4) (p := p2) G ((hr.deeper _).mono hk) (hgl _ _ _ _ _ _) mG kG bG .nil pass0 (pa_cons (pv 0 (hv := Or.inl l0) (pos := p3)) pa_nil)) (hsw _ _ _ _ _ _)) ht.run
  rw [← hb] at body
  refine wpAny_mono (body.nox.run [] s1 _ H { nx := fun _ _ => False, rt := fun v _ => v = .bl true } I ?_) (fun fl s' hs => ?_) fun e s' hs => hs
  · refine ⟨_, rfl, a, ns, rfl, hS, fun H' p q ms g hp hq' npq ep eq => ?_⟩
    let F0 : Hp := fun b => if b = q then some (.lst (ms.map V.int)) else none
    have Fq : F0 q = some (.lst (ms.map V.int)) := if_pos rfl
    have Fp : F0 p = none := if_neg npq
    refine ⟨F0, _, _, ⟨fun b u e => ?_, ?_, fun i dv e => ?_, fun i j o o' pp h1 h2 h3 h4 => ?_⟩, hq, ⟨fun _ _ _ _ _ _ z => z, fun _ _ _ _ _ _ z => z, fun _ _ _ _ _ _ z => z, fun r v σ' env' F' H2 E R V z => ?_⟩⟩
    · by_cases c : b = q
      · subst c
        have e' : some _ = some u := (if_pos rfl).symm.trans e
        rw [eq]; exact e'
      · have e' : none = some u := (if_neg c).symm.trans e
        cases e'
    · simp [L2.start]
    · match i, e with
      | 0, e => cases e
      | 1, e =>
        cases e
        exact ⟨.ref p, rfl, p, rfl, Fp, fkv ms 0 0 0, _, ⟨ms, 0, 0, 0, rfl⟩, ep, ⟨rfl, .lst Fq (rp_ints ms), rfl, .int 0, rfl, .int 0, rfl, .int 0, trivial⟩⟩
      | i + 2, e =>
        have e' : (List.replicate N'.length (none : Option Dv))[i]? = some (some dv) := by simpa using e
        rw [List.getElem?_replicate] at e'
        split at e' <;> cases e'
    · have one : ∀ (i : Nat) (o : Ob), (none :: some feed :: List.replicate (("_law_script" :: "_law_feed_here" :: N' : List Str).length - 2) none : Dn)[i]? = some (some (.obj o)) → i = 1 := by
        intro i o e
        match i, e with
        | 0, e => cases e
        | 1, e => rfl
        | i + 2, e =>
          have e' : (List.replicate N'.length (none : Option Dv))[i]? = some (some (.obj o)) := by simpa using e
          rw [List.getElem?_replicate] at e'
          split at e' <;> cases e'
      rw [one i o h1, one j o' h2]
    · subst z
      have V' : Rp K F' v (.bool true) := V
      cases V'
      rfl
  · have done : ∀ {σ' : L2.St} {H' : Hp} {v : V} {u : Value}, Inv (cxOf CX0 P w K mg base (("_law_script" : Str) :: ("_law_feed_here" : Str) :: N') "law" (defScope st) f cdv callerA [] s H E0) [] σ' H' s' → RelV v u → v = .bl true → CE [] P w H s (fun v _ => v = .bl true) u s' := fun {σ' H' v u} J rv q => ⟨v, H', J.os, J.bare, J.base, J.hok, rv, q⟩
    cases fl with
    | ret u =>
      obtain ⟨v, σ', H', J, rv, q⟩ := hs
      exact done J rv q
    | next => obtain ⟨_, _, _, q⟩ := hs; exact q.elim
    | brk => obtain ⟨_, _, _, q⟩ := hs; exact q.elim
    | cont => obtain ⟨_, _, _, q⟩ := hs; exact q.elim
end
end Dx
namespace K02
open PySem L2 Dx
def topS (i : Nat) : Stmt := PySem.Challenge.pw_letterfolk_k02_worths.main.body.getD i (.Pass ⟨0, 0, 0, 0⟩)
abbrev s_is_whole : Stmt := topS 1
abbrev s_bound : Stmt := topS 5
abbrev s_counted : Stmt := topS 6
abbrev s_double_worth : Stmt := topS 7
abbrev s_lone_worth : Stmt := topS 8
abbrev s_worth_by : Stmt := topS 9
abbrev s_worth : Stmt := topS 10
abbrev s__law_feed : Stmt := topS 12
abbrev s__law_draw : Stmt := topS 13
abbrev s__law_value : Stmt := topS 14
abbrev s__law_sum : Stmt := topS 15
abbrev s__law_counted : Stmt := topS 16
abbrev s__law_worth : Stmt := topS 17
abbrev s__law_bindings : Stmt := topS 18
abbrev s__law_by_hand : Stmt := topS 19
abbrev s__law_bound_right : Stmt := topS 20
abbrev s__law_great_right : Stmt := topS 21
abbrev s_law : Stmt := topS 22
structure Ad where
  f_is_whole : Addr
  d_is_whole : FuncData
  f_bound : Addr
  d_bound : FuncData
  f_counted : Addr
  d_counted : FuncData
  f_double_worth : Addr
  d_double_worth : FuncData
  f_lone_worth : Addr
  d_lone_worth : FuncData
  f_worth_by : Addr
  d_worth_by : FuncData
  f_worth : Addr
  d_worth : FuncData
  f__law_feed : Addr
  d__law_feed : FuncData
  f__law_draw : Addr
  d__law_draw : FuncData
  f__law_value : Addr
  d__law_value : FuncData
  f__law_sum : Addr
  d__law_sum : FuncData
  f__law_counted : Addr
  d__law_counted : FuncData
  f__law_worth : Addr
  d__law_worth : FuncData
  f__law_bindings : Addr
  d__law_bindings : FuncData
  f__law_by_hand : Addr
  d__law_by_hand : FuncData
  f__law_bound_right : Addr
  d__law_bound_right : FuncData
  f__law_great_right : Addr
  d__law_great_right : FuncData
  f_law : Addr
  d_law : FuncData
  a_NOBODY : Addr
  a_DOUBLE : Addr
  a_void : Addr
structure Tx (K : PySem.W.Frag) (mg : Str → Option Value) (a : Ad) : Prop where
  f_is_whole : FnF K mg "is_whole" s_is_whole a.f_is_whole a.d_is_whole
  f_bound : FnF K mg "bound" s_bound a.f_bound a.d_bound
  f_counted : FnF K mg "counted" s_counted a.f_counted a.d_counted
  f_double_worth : FnF K mg "double_worth" s_double_worth a.f_double_worth a.d_double_worth
  f_lone_worth : FnF K mg "lone_worth" s_lone_worth a.f_lone_worth a.d_lone_worth
  f_worth_by : FnF K mg "worth_by" s_worth_by a.f_worth_by a.d_worth_by
  f_worth : FnF K mg "worth" s_worth a.f_worth a.d_worth
  f__law_feed : FnF K mg "_law_feed" s__law_feed a.f__law_feed a.d__law_feed
  f__law_draw : FnF K mg "_law_draw" s__law_draw a.f__law_draw a.d__law_draw
  f__law_value : FnF K mg "_law_value" s__law_value a.f__law_value a.d__law_value
  f__law_sum : FnF K mg "_law_sum" s__law_sum a.f__law_sum a.d__law_sum
  f__law_counted : FnF K mg "_law_counted" s__law_counted a.f__law_counted a.d__law_counted
  f__law_worth : FnF K mg "_law_worth" s__law_worth a.f__law_worth a.d__law_worth
  f__law_bindings : FnF K mg "_law_bindings" s__law_bindings a.f__law_bindings a.d__law_bindings
  f__law_by_hand : FnF K mg "_law_by_hand" s__law_by_hand a.f__law_by_hand a.d__law_by_hand
  f__law_bound_right : FnF K mg "_law_bound_right" s__law_bound_right a.f__law_bound_right a.d__law_bound_right
  f__law_great_right : FnF K mg "_law_great_right" s__law_great_right a.f__law_great_right a.d__law_great_right
  f_law : FnF K mg "law" s_law a.f_law a.d_law
  b_len : mg "len" = none
  b_tuple : mg "tuple" = none
  b_isinstance : mg "isinstance" = none
  b_range : mg "range" = none
  b_list : mg "list" = none
  b_repr : mg "repr" = none
  b_sorted : mg "sorted" = none
  b_dict : mg "dict" = none
  b_int : mg "int" = none
  b_zip : mg "zip" = none
  b_bool : mg "bool" = none
  c_NOBODY : mg "NOBODY" = some (.ref a.a_NOBODY)
  d_NOBODY : Rp K (fun _ => none) (.ref a.a_NOBODY) (.tuple [.str "at", .int 0, .int 0])
  c_DOUBLE : mg "DOUBLE" = some (.ref a.a_DOUBLE)
  d_DOUBLE : Rp K (fun _ => none) (.ref a.a_DOUBLE) (.tuple [.str "plus", .str "minus", .str "less", .str "same"])
  fd_worth : FnD K mg "worth" s_worth a.f_worth a.d_worth [("bindings", .ref a.a_void), ("address", .ref a.a_NOBODY)]
  d_void : Rp K (fun _ => none) (.ref a.a_void) (.tuple [])
theorem Tx.v_NOBODY {K : PySem.W.Frag} {mg : Str → Option Value} {a : Ad} (_ : Tx K mg a) : RelV (.ref a.a_NOBODY) (.ref a.a_NOBODY) := rfl
theorem Tx.v_DOUBLE {K : PySem.W.Frag} {mg : Str → Option Value} {a : Ad} (_ : Tx K mg a) : RelV (.ref a.a_DOUBLE) (.ref a.a_DOUBLE) := rfl
theorem sc_is_whole : FnScope ["thing"] ["thing"] (defScope s_is_whole) := ⟨rfl, rfl, rfl, by decide +kernel, rfl, by decide +kernel, by decide +kernel⟩
theorem sc_bound : FnScope ["bindings", "names", "values", "found", "name", "value"] ["bindings", "names", "values"] (defScope s_bound) := ⟨rfl, rfl, rfl, by decide +kernel, rfl, by decide +kernel, by decide +kernel⟩
theorem sc_counted : FnScope ["value"] ["value"] (defScope s_counted) := ⟨rfl, rfl, rfl, by decide +kernel, rfl, by decide +kernel, by decide +kernel⟩
theorem sc_double_worth : FnScope ["word", "one", "other", "first", "second"] ["word", "one", "other"] (defScope s_double_worth) := ⟨rfl, rfl, rfl, by decide +kernel, rfl, by decide +kernel, by decide +kernel⟩
theorem sc_lone_worth : FnScope ["amount", "known", "address"] ["amount", "known", "address"] (defScope s_lone_worth) := ⟨rfl, rfl, rfl, by decide +kernel, rfl, by decide +kernel, by decide +kernel⟩
theorem sc_worth_by : FnScope ["amount", "known", "address", "word", "one", "other"] ["amount", "known", "address"] (defScope s_worth_by) := ⟨rfl, rfl, rfl, by decide +kernel, rfl, by decide +kernel, by decide +kernel⟩
theorem sc_worth : FnScope ["amount", "bindings", "address"] ["amount", "bindings", "address"] (defScope s_worth) := ⟨rfl, rfl, rfl, by decide +kernel, rfl, by decide +kernel, by decide +kernel⟩
theorem sc__law_feed : FnScope ["_law_script"] ["_law_script"] (defScope s__law_feed) := ⟨rfl, rfl, rfl, by decide +kernel, rfl, by decide +kernel, by decide +kernel⟩
theorem sc__law_draw : FnScope ["_law_feed_here", "_law_many", "_law_figure", "_law_at", "_law_cell", "_law_mixed"] ["_law_feed_here", "_law_many"] (defScope s__law_draw) := ⟨rfl, rfl, rfl, by decide +kernel, rfl, by decide +kernel, by decide +kernel⟩
theorem sc__law_value : FnScope ["_law_feed_here", "_law_few", "_law_far", "_law_word"] ["_law_feed_here"] (defScope s__law_value) := ⟨rfl, rfl, rfl, by decide +kernel, rfl, by decide +kernel, by decide +kernel⟩
theorem sc__law_sum : FnScope ["_law_feed_here", "_law_names_in", "_law_deep", "_law_word", "_law_one", "_law_some"] ["_law_feed_here", "_law_names_in", "_law_deep"] (defScope s__law_sum) := ⟨rfl, rfl, rfl, by decide +kernel, rfl, by decide +kernel, by decide +kernel⟩
theorem sc__law_counted : FnScope ["_law_value_here"] ["_law_value_here"] (defScope s__law_counted) := ⟨rfl, rfl, rfl, by decide +kernel, rfl, by decide +kernel, by decide +kernel⟩
theorem sc__law_worth : FnScope ["_law_amount", "_law_known", "_law_home", "_law_order", "_law_values_in", "_law_pile", "_law_one", "_law_second", "_law_first", "_law_low", "_law_high", "_law_wanted"] ["_law_amount", "_law_known", "_law_home"] (defScope s__law_worth) := ⟨rfl, rfl, rfl, by decide +kernel, rfl, by decide +kernel, by decide +kernel⟩
theorem sc__law_bindings : FnScope ["_law_feed_here", "_law_some", "_law_name"] ["_law_feed_here"] (defScope s__law_bindings) := ⟨rfl, rfl, rfl, by decide +kernel, rfl, by decide +kernel, by decide +kernel⟩
theorem sc__law_by_hand : FnScope ["_law_one", "_law_red", "_law_home", "_law_rows", "_law_amount", "_law_wanted"] [] (defScope s__law_by_hand) := ⟨rfl, rfl, rfl, by decide +kernel, rfl, by decide +kernel, by decide +kernel⟩
theorem sc__law_bound_right : FnScope ["_law_feed_here", "_law_given", "_law_some", "_law_names_in", "_law_values_in", "_law_found", "_law_k", "_law_wanted", "_law_told", "_law_name"] ["_law_feed_here", "_law_given"] (defScope s__law_bound_right) := ⟨rfl, rfl, rfl, by decide +kernel, rfl, by decide +kernel, by decide +kernel⟩
theorem sc__law_great_right : FnScope ["_law_great", "_law_some", "_law_one", "_law_other", "_law_given", "_law_words", "_law_told", "_law_word"] [] (defScope s__law_great_right) := ⟨rfl, rfl, rfl, by decide +kernel, rfl, by decide +kernel, by decide +kernel⟩
theorem sc_law : FnScope ["_law_script", "_law_feed_here", "_law_k", "_law_given", "_law_home", "_law_amount", "_law_kept", "_law_told", "_law_wanted"] ["_law_script"] (defScope s_law) := ⟨rfl, rfl, rfl, by decide +kernel, rfl, by decide +kernel, by decide +kernel⟩
open PySem L2 Dx
/-! ### sums and worths as data -/
inductive IsV : Dt → Prop
  | num (i : Int) : IsV (.int i)
  | wrd (s : Str) (h : strGd s = true) (h' : s.length ≤ 10) : IsV (.str s)
  | adr (a b : Int) : IsV (.tuple [.str "at", .int a, .int b])
def mag : Dt → Nat
  | .int i => i.natAbs
  | .tuple [_, .int a, .int b] => max a.natAbs b.natAbs
  | _ => 0
def cntD : Dt → Int
  | .int i => i
  | _ => 0
inductive Op | plus | minus | less | same
def Op.w : Op → Str
  | plus => "plus"
  | minus => "minus"
  | less => "less"
  | same => "same"
inductive Sm
  | is (v : Dt)
  | of (s : Str)
  | self
  | dbl (o : Op) (a b : Sm)
def Sm.d : Sm → Dt
  | is v => .tuple [.str "is", v]
  | of s => .tuple [.str "of", .str s]
  | self => .tuple [.str "self"]
  | dbl o a b => .tuple [.str o.w, a.d, b.d]
def Sm.deep : Sm → Nat
  | dbl _ a b => max a.deep b.deep + 1
  | _ => 0
def Sm.V : Sm → Prop
  | is v => IsV v
  | of s => strGd s = true ∧ s.length ≤ 10
  | self => True
  | dbl _ a b => a.V ∧ b.V
def b2i (b : Bool) : Int := if b then 1 else 0
def dblD : Op → Dt → Dt → Dt
  | .plus, x, y => .int (cntD x + cntD y)
  | .minus, x, y => .int (cntD x - cntD y)
  | .less, x, y => .int (b2i (decide (cntD x < cntD y)))
  | .same, x, y => .int (b2i (PyData.eqv x y))
def val (kvs : List (Str × Dt)) (home : Dt) : Sm → Dt
  | .is v => v
  | .of s => (getS kvs s).getD (.int 0)
  | .self => home
  | .dbl o a b => dblD o (val kvs home a) (val kvs home b)
def KV (kvs : List (Str × Dt)) : Prop := ∀ k v, getS kvs k = some v → IsV v
theorem dblD_V {o : Op} {x y : Dt} : IsV (dblD o x y) := by cases o <;> exact .num _
theorem val_V {kvs : List (Str × Dt)} {home : Dt} (hk : KV kvs) (hh : IsV home) : ∀ s : Sm, s.V → IsV (val kvs home s)
  | .is v, h => h
  | .of s, _ => by
    show IsV ((getS kvs s).getD (.int 0))
    cases e : getS kvs s with
    | none => exact .num 0
    | some v => exact hk s v e
  | .self, _ => hh
  | .dbl o a b, _ => dblD_V
theorem atGd : strGd "at" = true := by decide +kernel
theorem IsV.lay {d : Dt} (h : IsV d) : d.canLay0 = true := by
  cases h with
  | num i => simp only [PyData.canLay0]
  | wrd s h => exact good_lay (.str s) h
  | adr a b =>
    have : PyData.canLay0 (.str "at") = true := good_lay (.str "at") atGd
    simp only [PyData.canLay0, PyData.canLayAll0, Bool.and_true] at this ⊢
    exact this
theorem IsV.dep {d : Dt} (h : IsV d) : d.depth ≤ 2 := by
  cases h <;> simp [PyData.depth, PyData.depthAll]
theorem eqV {x y : Dt} (h : IsV x) (h' : IsV y) : eqD x y = some (.bool (PyData.eqv x y)) := by
  unfold eqD
  have : eqOk x y = true := by
    unfold eqOk
    rw [h.lay, h'.lay]
    have := h.dep
    have e : decide (min x.depth y.depth ≤ 64) = true := decide_eq_true (by omega)
    rw [e]
    simp
  rw [if_pos this]
theorem cntD_int {d : Dt} (h : IsV d) : (isIntD d && !isBlD d) = true → d = .int (cntD d) := by
  cases h <;> simp [isIntD, isBlD, cntD]
theorem cntD_no {d : Dt} (h : IsV d) : (isIntD d && !isBlD d) = false → cntD d = 0 := by
  cases h <;> simp [isIntD, isBlD, cntD]
theorem cntD_int' {d : Dt} (h : IsV d) : isIntD d = true → d = .int (cntD d) := by
  cases h <;> simp [isIntD, cntD]
theorem cntD_no' {d : Dt} (h : IsV d) : isIntD d = false → cntD d = 0 := by
  cases h <;> simp [isIntD, cntD]
def DBL : Dt := .tuple [.str "plus", .str "minus", .str "less", .str "same"]
theorem mem_str (x : Str) (ws : List Str) : memD (.str x) (ws.map PyData.str) = ws.any fun y => y == x := by
  unfold memD
  rw [List.any_map]
  apply congrArg (fun f => List.any ws f)
  funext y
  simp [PyData.eqv]
theorem ninD_strs (x : Str) (ws : List Str) : ninD (.str x) (.tuple (ws.map PyData.str)) = some (.bool (!ws.any fun y => y == x)) := by
  unfold ninD
  simp only [seqD, Option.bind_some]
  rw [if_pos (by simp [flatD]), mem_str]
theorem inD_strs (x : Str) (ws : List Str) : inD (.str x) (.tuple (ws.map PyData.str)) = some (.bool (ws.any fun y => y == x)) := by
  unfold inD
  simp only [seqD, Option.bind_some]
  rw [if_pos (by simp [flatD]), mem_str]
theorem i_nin {x : Str} {ws : List Str} {b : Bool} {Qd : Dt → Prop} (e : (!ws.any fun y => y == x) = b) (h : Qd (.bool b)) : wr (ninD (.str x) (.tuple (ws.map PyData.str))) Qd := i_wr (by rw [ninD_strs, e]) h
theorem i_in {x : Str} {ws : List Str} {b : Bool} {Qd : Dt → Prop} (e : (ws.any fun y => y == x) = b) (h : Qd (.bool b)) : wr (inD (.str x) (.tuple (ws.map PyData.str))) Qd := i_wr (by rw [inD_strs, e]) h
abbrev W4 : List Str := ["plus", "minus", "less", "same"]
/-! promises -/
def sp_is_whole : DSp := spX (α := Dt) (fun d => [.dat d]) (fun _ => True) fun d r => r = .bool (isIntD d && !isBlD d)
def sp_counted : DSp := spX (α := Dt) (fun d => [.dat d]) IsV fun d r => r = .int (cntD d)
def sp_double : DSp := spX (α := Op × Dt × Dt) (fun a => [.dat (.str a.1.w), .dat a.2.1, .dat a.2.2]) (fun a => IsV a.2.1 ∧ IsV a.2.2) fun a r => r = dblD a.1 a.2.1 a.2.2
def lone : Sm → Prop
  | .dbl _ _ _ => False
  | _ => True
def sp_lone : DSp := spX (α := Sm × List (Str × Dt) × Dt) (fun a => [.dat a.1.d, .obj (.dic a.2.1), .dat a.2.2]) (fun a => lone a.1) fun a r => r = val a.2.1 a.2.2 a.1
def sp_by (m : Nat) : DSp := spX (α := Sm × List (Str × Dt) × Dt) (fun a => [.dat a.1.d, .obj (.dic a.2.1), .dat a.2.2]) (fun a => a.1.deep ≤ m ∧ a.1.V ∧ KV a.2.1 ∧ IsV a.2.2) fun a r => r = val a.2.1 a.2.2 a.1
def bsD (bs : List (Str × Dt)) : Dt := .tuple (bs.map fun kv => .tuple [.str kv.1, kv.2])
def BV (bs : List (Str × Dt)) : Prop := ∀ kv ∈ bs, strGd kv.1 = true ∧ kv.1.length ≤ 10 ∧ IsV kv.2
theorem parS_bs : ∀ bs : List (Str × Dt), parS (bs.map fun kv => .tuple [.str kv.1, kv.2]) = some bs
  | [] => rfl
  | (k, v) :: r => by simp only [List.map_cons, parS, parS_bs r, Option.map_some]
theorem dicOf_bs (bs : List (Str × Dt)) : dicOf (bsD bs) = some bs := parS_bs bs
theorem dicOf_bl (bs : List (Str × Dt)) : dicOf (.list (bs.map fun kv => .tuple [.str kv.1, kv.2])) = some bs := parS_bs bs
theorem getS_put {kvs : List (Str × Dt)} {k k' : Str} {d : Dt} : getS (putS kvs k d) k' = if k = k' then some d else getS kvs k' := by
  induction kvs with
  | nil =>
    by_cases e : k = k'
    · simp [getS, putS, e]
    · simp [getS, putS, e]
  | cons x r ih =>
    obtain ⟨a, v⟩ := x
    by_cases ea : a = k
    · subst ea
      by_cases e : a = k'
      · subst e; simp [getS, putS]
      · have : ∀ l : List (Str × Dt), List.find? (fun kv => decide (kv.1 = k')) (l.map fun kv => if kv.1 = a then (kv.1, d) else kv) = List.find? (fun kv => decide (kv.1 = k')) l := by
          intro l
          induction l with
          | nil => rfl
          | cons y l ihl =>
            by_cases h : y.1 = a
            · simp [List.find?_cons, h, e, ihl]
            · simp [List.find?_cons, h, ihl]
        simp only [getS, putS, List.any_cons, decide_true, Bool.true_or, if_true, List.map_cons, List.find?_cons, decide_eq_false e, if_neg e, this]
    · have hh : putS ((a, v) :: r) k d = (a, v) :: putS r k d := by
        simp only [putS, List.any_cons, decide_eq_false ea, Bool.false_or, List.map_cons, if_neg ea]
        split <;> simp
      rw [hh]
      by_cases e : a = k'
      · subst e
        rw [if_neg (fun z => ea z.symm)]
        simp [getS]
      · have c : ∀ l : List (Str × Dt), getS ((a, v) :: l) k' = getS l k' := fun l => by simp [getS, List.find?_cons, decide_eq_false e]
        rw [c, c, ih]
theorem KV_put {kvs : List (Str × Dt)} {k : Str} {d : Dt} (h : KV kvs) (hd : IsV d) : KV (putS kvs k d) := by
  intro k' v e
  rw [getS_put] at e
  split at e
  · cases e; exact hd
  · exact h k' v e
theorem KV_merge {more : List (Str × Dt)} : ∀ {kvs : List (Str × Dt)}, KV kvs → BV more → KV (mergeS kvs more) := by
  induction more with
  | nil => intro kvs h _; exact h
  | cons x r ih =>
    intro kvs h b
    exact ih (KV_put h (b x (List.mem_cons_self ..)).2.2) fun kv m => b kv (List.mem_cons_of_mem _ m)
theorem KV_nil : KV [] := fun k v e => by simp [getS] at e
def sp_value : DSp := spX (α := Unit) (fun _ => [feed]) (fun _ => True) fun _ d => IsV d ∧ mag d ≤ 1000000
def Sm.M (B : Nat) : Sm → Prop
  | is v => mag v ≤ B
  | dbl _ a b => a.M B ∧ b.M B
  | _ => True
def NM : Dt := .list [.str "n", .str "to", .str "who"]
theorem ne_NM : neD NM (.list []) = some (.bool true) := by
  have : eqOk NM (.list []) = true := eqOk_of (by decide +kernel) rfl (by decide +kernel)
  unfold neD
  rw [if_pos this]
  simp [NM, PyData.eqv, PyData.eqvAll]
def SmOk (m : Nat) (s : Sm) : Prop := s.deep ≤ m ∧ s.V ∧ s.M 1000000
def ar_sum (m : Nat) : List Dv := [feed, .dat NM, .dat (.int m)]
def po_sum (m : Nat) (d : Dt) : Prop := ∃ s : Sm, d = s.d ∧ SmOk m s
def sp_sum (m : Nat) : DSp := spX (α := Nat) ar_sum (fun j => j ≤ m) po_sum
theorem ne_nil {ds : List Dt} (h : PyData.canLayAll0 ds = true) : neD (.list ds) (.list []) = some (.bool (!ds.isEmpty)) := by
  have h : eqOk (.list ds) (.list []) = true := by
    unfold eqOk
    simp only [PyData.canLay0, h, PyData.canLayAll0, PyData.depth, PyData.depthAll, Bool.and_self, Bool.true_and, Bool.or_eq_true, decide_eq_true_eq]
    exact .inr (decide_eq_true (Nat.le_trans (Nat.min_le_right _ (0 + 1)) (show (0 + 1 : Nat) ≤ 64 by decide)))
  unfold neD
  rw [if_pos h]
  cases ds <;> simp [PyData.eqv, PyData.eqvAll]
theorem layA_iff {ds : List Dt} : PyData.canLayAll0 ds = true ↔ ∀ d ∈ ds, d.canLay0 = true := by
  induction ds with
  | nil => simp [PyData.canLayAll0]
  | cons x r ih => simp only [PyData.canLayAll0, Bool.and_eq_true, ih, List.forall_mem_cons]
theorem strLay {s : Str} (h : strGd s = true) : PyData.canLay0 (.str s) = true := good_lay (.str s) h
theorem opGd (o : Op) : strGd o.w = true := by cases o <;> decide +kernel
theorem Sm.lay : ∀ s : Sm, s.V → s.d.canLay0 = true
  | .is v, h => by
    have h1 := strLay (s := "is") (by decide +kernel)
    have h2 := IsV.lay h
    simp only [Sm.d, PyData.canLay0, PyData.canLayAll0, Bool.and_true, Bool.and_eq_true] at h1 h2 ⊢
    exact ⟨h1, h2⟩
  | .of s, h => by
    have h1 := strLay (s := "of") (by decide +kernel)
    have h2 := strLay h.1
    simp only [Sm.d, PyData.canLay0, PyData.canLayAll0, Bool.and_true, Bool.and_eq_true] at h1 h2 ⊢
    exact ⟨h1, h2⟩
  | .self, h => by
    have h1 := strLay (s := "self") (by decide +kernel)
    simp only [Sm.d, PyData.canLay0, PyData.canLayAll0, Bool.and_true, Bool.and_eq_true] at h1 ⊢
    exact h1
  | .dbl o a b, h => by
    have h1 := strLay (opGd o)
    have h2 := Sm.lay a h.1
    have h3 := Sm.lay b h.2
    simp only [Sm.d, PyData.canLay0, PyData.canLayAll0, Bool.and_true, Bool.and_eq_true] at h1 ⊢
    exact ⟨h1, h2, h3⟩
def Sm.size : Sm → Nat
  | dbl _ a b => a.size + b.size + 1
  | _ => 1
def ordOf : Sm → List Sm
  | .dbl o a b => .dbl o a b :: (ordOf b ++ ordOf a)
  | x => [x]
theorem ordOf_len : ∀ s : Sm, (ordOf s).length = s.size
  | .is _ | .of _ | .self => rfl
  | .dbl o a b => by simp only [ordOf, List.length_cons, List.length_append, ordOf_len a, ordOf_len b, Sm.size]; omega
theorem ordOf_V : ∀ s : Sm, s.V → ∀ x ∈ ordOf s, x.V
  | .is v, h, x, hx => by simp only [ordOf, List.mem_singleton] at hx; subst hx; exact h
  | .of v, h, x, hx => by simp only [ordOf, List.mem_singleton] at hx; subst hx; exact h
  | .self, h, x, hx => by simp only [ordOf, List.mem_singleton] at hx; subst hx; exact h
  | .dbl o a b, h, x, hx => by
    simp only [ordOf, List.mem_cons, List.mem_append] at hx
    rcases hx with rfl | hx | hx
    · exact h
    · exact ordOf_V b h.2 x hx
    · exact ordOf_V a h.1 x hx
def kids : Sm → List Sm
  | .dbl _ a b => [a, b]
  | _ => []
theorem ordOf_kids (x : Sm) : ordOf x = x :: (kids x).reverse.flatMap ordOf := by cases x <;> simp [ordOf, kids]
theorem kids_V {x : Sm} (h : x.V) : ∀ y ∈ kids x, y.V := by
  cases x <;> simp [kids]
  exact ⟨h.1, h.2⟩
section
variable (kvs : List (Str × Dt)) (home : Dt)
def Rn : List Sm → List Dt → Option (List Dt)
  | [], st => some st
  | .dbl o _ _ :: xs, y :: x :: st => Rn xs (dblD o x y :: st)
  | .dbl _ _ _ :: _, _ => none
  | x :: xs, st => Rn xs (val kvs home x :: st)
theorem Rn_ord : ∀ (s : Sm) (xs : List Sm) (st : List Dt), Rn kvs home ((ordOf s).reverse ++ xs) st = Rn kvs home xs (val kvs home s :: st)
  | .is _, xs, st | .of _, xs, st | .self, xs, st => by simp [ordOf, Rn]
  | .dbl o a b, xs, st => by
    simp only [ordOf, List.reverse_cons, List.reverse_append, List.append_assoc]
    rw [Rn_ord a, Rn_ord b]
    simp [Rn, val]
end
def sp_lw : DSp := spX (α := Sm × List (Str × Dt) × Dt) (fun a => [.dat a.1.d, .obj (.dic a.2.1), .dat a.2.2]) (fun a => a.1.size ≤ 1000 ∧ a.1.V ∧ KV a.2.1 ∧ IsV a.2.2) fun a r => r = val a.2.1 a.2.2 a.1
def Ww (s : Sm) (kvs : List (Str × Dt)) (home : Dt) (m : Nat) (env : Dn) : Prop := ∃ (ord pile : List Sm) (cur : Option Dv), env = [some (.dat s.d), some (.obj (.dic kvs)), some (.dat home), some (.obj (.lst (ord.map Sm.d))), some (.obj (.lst [])), some (.obj (.lst (pile.map Sm.d))), cur, none, none, none, none, none] ∧
  ord ++ pile.reverse.flatMap ordOf = ordOf s ∧ m = (pile.reverse.flatMap ordOf).length ∧ ∀ x ∈ pile, x.V
def Wf (s : Sm) (kvs : List (Str × Dt)) (home : Dt) (ds : List Dt) (env : Dn) : Prop := ∃ (xs : List Sm) (st : List Dt) (c3 c5 c6 c7 c8 c9 c10 c11 : Option Dv), ds = xs.map Sm.d ∧ env = [some (.dat s.d), some (.obj (.dic kvs)), some (.dat home), c3, some (.obj (.lst st.reverse)), c5, c6, c7, c8, c9, c10, c11] ∧
  Rn kvs home xs st = some [val kvs home s] ∧ st.length + xs.length ≤ 1000 ∧ (∀ x ∈ xs, x.V) ∧ ∀ v ∈ st, IsV v
theorem g3a (x y z : Dt) : getS (mergeS [] [("plus", x), ("minus", y), ("less", z)]) "plus" = some x := by
  show getS (putS (putS (putS [] "plus" x) "minus" y) "less" z) "plus" = _
  rw [getS_put, if_neg (by decide +kernel), getS_put, if_neg (by decide +kernel), getS_put, if_pos rfl]
theorem g3b (x y z : Dt) : getS (mergeS [] [("plus", x), ("minus", y), ("less", z)]) "minus" = some y := by
  show getS (putS (putS (putS [] "plus" x) "minus" y) "less" z) "minus" = _
  rw [getS_put, if_neg (by decide +kernel), getS_put, if_pos rfl]
theorem g3c (x y z : Dt) : getS (mergeS [] [("plus", x), ("minus", y), ("less", z)]) "less" = some z := by
  show getS (putS (putS (putS [] "plus" x) "minus" y) "less" z) "less" = _
  rw [getS_put, if_pos rfl]
def sp_worth (m : Nat) : DSp := spX (α := Sm × List (Str × Dt) × Dt) (fun a => [.dat a.1.d, .dat (bsD a.2.1), .dat a.2.2]) (fun a => a.1.deep ≤ m ∧ a.1.V ∧ BV a.2.1 ∧ IsV a.2.2) fun a r => r = val (mergeS [] a.2.1) a.2.2 a.1
open PySem L2 Dx
open PyProof.Rows (sortedS risingS ltCps_eq sortedS_of_pairwise)
/-! ### bindings -/
def leS (a b : Str) : Prop := a.cps.toList ≤ b.cps.toList
theorem leS_of {a b : Str} (h : (!Spec.ltCps b.cps.toList a.cps.toList) = true) : leS a b := by
  rw [ltCps_eq] at h
  simpa [leS] using h
theorem rising_pw : ∀ (l : List Str) (p : Str), risingS p l = true → (p :: l).Pairwise leS
  | [], p, _ => by simp
  | x :: r, p, h => by
    simp only [risingS, Bool.and_eq_true] at h
    have h1 := leS_of h.1
    have h2 := rising_pw r x h.2
    refine List.pairwise_cons.mpr ⟨fun y hy => ?_, h2⟩
    rcases List.mem_cons.mp hy with rfl | hy
    · exact h1
    · exact List.le_trans h1 (List.rel_of_pairwise_cons h2 hy)
theorem sorted_pw : ∀ {l : List Str}, sortedS l = true → l.Pairwise leS
  | [], _ => .nil
  | x :: r, h => rising_pw r x h
theorem leS_anti {a b : Str} (h : leS a b) (h' : leS b a) : a = b := by
  have := List.le_antisymm h h'
  cases a; cases b
  simpa using Array.toList_inj.mp this
theorem sorted_uniq : ∀ {a b : List Str}, a.Perm b → a.Pairwise leS → b.Pairwise leS → a = b
  | [], b, p, _, _ => (List.nil_perm.mp p).symm
  | x :: a, [], p, _, _ => by simp at p
  | x :: a, y :: b, p, ha, hb => by
    have e : x = y := by
      have h1 : x ∈ y :: b := p.mem_iff.mp (List.mem_cons_self ..)
      have h2 : y ∈ x :: a := p.mem_iff.mpr (List.mem_cons_self ..)
      rcases List.mem_cons.mp h1 with e | h1
      · exact e
      · rcases List.mem_cons.mp h2 with e | h2
        · exact e.symm
        · exact leS_anti (List.rel_of_pairwise_cons ha h2) (List.rel_of_pairwise_cons hb h1)
    subst e
    rw [sorted_uniq (List.perm_cons x |>.mp p) (List.pairwise_cons.mp ha).2 (List.pairwise_cons.mp hb).2]
def DV (kvs : List (Str × Dt)) : Prop := ∀ kv ∈ kvs, strGd kv.1 = true ∧ kv.1.length ≤ 10 ∧ IsV kv.2 ∧ mag kv.2 ≤ 1000000
theorem DV.bv {kvs : List (Str × Dt)} (h : DV kvs) : BV kvs := fun kv m => ⟨(h kv m).1, (h kv m).2.1, (h kv m).2.2.1⟩
theorem mem_put {kvs : List (Str × Dt)} {k : Str} {d : Dt} {kv : Str × Dt} (h : kv ∈ putS kvs k d) : kv ∈ kvs ∨ kv = (k, d) := by
  unfold putS at h
  split at h
  · obtain ⟨x, hx, e⟩ := List.mem_map.mp h
    split at e
    · rename_i hk
      subst e
      rw [hk]
      exact .inr rfl
    · subst e
      exact .inl hx
  · rcases List.mem_append.mp h with h | h
    · exact .inl h
    · exact .inr (by simpa using h)
theorem put_len {kvs : List (Str × Dt)} {k : Str} {d : Dt} : (putS kvs k d).length ≤ kvs.length + 1 := by
  unfold putS
  split <;> simp
theorem DV_put {kvs : List (Str × Dt)} {k : Str} {d : Dt} (h : DV kvs) (hd : strGd k = true ∧ k.length ≤ 10 ∧ IsV d ∧ mag d ≤ 1000000) : DV (putS kvs k d) := fun kv m => by
  rcases mem_put m with m | rfl
  · exact h kv m
  · exact hd
theorem DV_merge {more : List (Str × Dt)} : ∀ {kvs : List (Str × Dt)}, DV kvs → DV more → DV (mergeS kvs more) := by
  induction more with
  | nil => intro kvs h _; exact h
  | cons x r ih =>
    intro kvs h b
    exact ih (DV_put h (b x (List.mem_cons_self ..))) fun kv m => b kv (List.mem_cons_of_mem _ m)
theorem merge_len {more : List (Str × Dt)} : ∀ {kvs : List (Str × Dt)}, (mergeS kvs more).length ≤ kvs.length + more.length := by
  induction more with
  | nil => intro kvs; exact Nat.le_refl _
  | cons x r ih =>
    intro kvs
    have a := ih (kvs := putS kvs x.1 x.2)
    have b := put_len (kvs := kvs) (k := x.1) (d := x.2)
    show (mergeS (putS kvs x.1 x.2) r).length ≤ _
    simp only [List.length_cons]
    omega
theorem merge_snoc (kvs l : List (Str × Dt)) (x : Str × Dt) : mergeS kvs (l ++ [x]) = putS (mergeS kvs l) x.1 x.2 := by
  simp [mergeS, List.foldl_append]
theorem getS_some {kvs : List (Str × Dt)} {y : Str} (h : y ∈ kvs.map (·.1)) : ∃ d, getS kvs y = some d ∧ (y, d) ∈ kvs := by
  induction kvs with
  | nil => simp at h
  | cons x r ih =>
    obtain ⟨a, v⟩ := x
    by_cases e : a = y
    · subst e
      exact ⟨v, by simp [getS], List.mem_cons_self ..⟩
    · have : y ∈ r.map (·.1) := by
        rcases List.mem_cons.mp h with z | z
        · exact absurd z.symm e
        · exact z
      obtain ⟨d, h1, h2⟩ := ih this
      refine ⟨d, ?_, List.mem_cons_of_mem _ h2⟩
      simp only [getS, List.find?_cons, decide_eq_false e] at h1 ⊢
      exact h1
def told (D : List (Str × Dt)) (ys : List Str) : List (Str × Dt) := ys.map fun y => (y, (getS D y).getD .none)
theorem told_DV {D : List (Str × Dt)} {ys : List Str} (h : DV D) (p : ys.Perm (D.map (·.1))) : DV (told D ys) := by
  intro kv m
  obtain ⟨y, hy, rfl⟩ := List.mem_map.mp m
  obtain ⟨d, e, hm⟩ := getS_some (p.mem_iff.mp hy)
  simp only [e, Option.getD_some]
  exact h _ hm
theorem merge_nodup : ∀ (more kvs : List (Str × Dt)), ((kvs ++ more).map (·.1)).Nodup → mergeS kvs more = kvs ++ more
  | [], kvs, _ => by simp [mergeS]
  | (k, d) :: r, kvs, h => by
    have hk : (kvs.any fun kv => decide (kv.1 = k)) = false := by
      rw [List.any_eq_false]
      intro x hx
      simp only [List.map_append, List.map_cons] at h
      have := (List.nodup_append.mp h).2.2 x.1 (List.mem_map_of_mem hx) k (List.mem_cons_self ..)
      simpa using this
    show mergeS (putS kvs k d) r = _
    have e : putS kvs k d = kvs ++ [(k, d)] := by simp [putS, hk]
    rw [e, merge_nodup r (kvs ++ [(k, d)]) (by simpa using h)]
    simp
theorem getS_nodup {a : Str} {v : Dt} : ∀ {bs : List (Str × Dt)}, (bs.map (·.1)).Nodup → (a, v) ∈ bs → getS bs a = some v
  | [], _, hx => by cases hx
  | y :: r, h, hx => by
    simp only [List.map_cons, List.nodup_cons] at h
    rcases List.mem_cons.mp hx with rfl | hx
    · simp [getS]
    · have : ¬ y.1 = a := fun e => h.1 (e ▸ List.mem_map_of_mem (f := fun x : Str × Dt => x.1) hx)
      have ih := getS_nodup h.2 hx
      simp only [getS, List.find?_cons, decide_eq_false this] at ih ⊢
      exact ih
theorem told_same {bs : List (Str × Dt)} (h : (bs.map (·.1)).Nodup) : told bs (bs.map (·.1)) = bs := by
  unfold told
  rw [List.map_map]
  have : ∀ x ∈ bs, ((fun y => (y, (getS bs y).getD .none)) ∘ fun x => x.1) x = x := by
    intro x hx
    obtain ⟨a, v⟩ := x
    have g := getS_nodup h hx
    simp [g]
  exact (List.map_congr_left this).trans (List.map_id' bs)
abbrev KN : List Str := ["k", "n", "to", "who"]
theorem KN_nodup : KN.Nodup := by decide +kernel
theorem KN_sorted : KN.Pairwise leS := sorted_pw (by decide +kernel)
/-- what bound tells of the same names -/
theorem told_given {bs : List (Str × Dt)} {ys : List Str} (hs : (bs.map (·.1)).Sublist KN) (p : ys.Perm ((mergeS [] bs).map (·.1))) (so : sortedS ys = true) : told (mergeS [] bs) ys = bs := by
  have nd : (bs.map (·.1)).Nodup := KN_nodup.sublist hs
  have e : mergeS [] bs = bs := by simpa using merge_nodup bs [] (by simpa using nd)
  rw [e] at p ⊢
  rw [sorted_uniq p (sorted_pw so) (KN_sorted.sublist hs)]
  exact told_same nd
def BsOk (bs : List (Str × Dt)) : Prop := DV bs ∧ (bs.map (·.1)).Sublist KN
theorem BsOk.len {bs : List (Str × Dt)} (h : BsOk bs) : bs.length ≤ 4 := by
  have := h.2.length_le
  simpa using this
def sp_bindings : DSp := spX (α := Unit) (fun _ => [feed]) (fun _ => True) fun _ d => ∃ bs, d = bsD bs ∧ BsOk bs
def sp_bound : DSp := spX (α := List (Str × Dt) × List Str × List Dt) (fun a => [.dat (bsD a.1), .dat (.tuple (a.2.1.map .str)), .dat (.tuple a.2.2)]) (fun a => a.1.length + a.2.1.length < 60 ∧ a.2.1.length = a.2.2.length) fun a r =>
  ∃ ys : List Str, ys.Perm ((mergeS (mergeS [] a.1) (a.2.1.zip a.2.2)).map (·.1)) ∧ sortedS ys = true ∧ r = bsD (told (mergeS (mergeS [] a.1) (a.2.1.zip a.2.2)) ys)
def sp_right : DSp := spX (α := List (Str × Dt)) (fun bs => [feed, .dat (bsD bs)]) BsOk fun _ r => r = .bool true
theorem lt1900 {n : Nat} (h : n ≤ 10 ^ 101) : n < 2 ^ 1900 := Nat.lt_of_le_of_lt h (by decide +kernel)
theorem good_V {d : Dt} (h : IsV d) (m : mag d < 2 ^ 1900) : good d = true := by
  cases h with
  | num i => exact decide_eq_true m
  | wrd s h _ => exact h
  | adr a b =>
    simp only [mag] at m
    have : strGd "at" = true := atGd
    have m1 : a.natAbs < 2 ^ 1900 := Nat.lt_of_le_of_lt (Nat.le_max_left _ _) m
    have m2 : b.natAbs < 2 ^ 1900 := Nat.lt_of_le_of_lt (Nat.le_max_right _ _) m
    simp only [good, goodA, this, Bool.true_and, Bool.and_true, decide_eq_true m1, decide_eq_true m2]
theorem sz_V {d : Dt} (h : IsV d) : sz d ≤ 4000 := by
  cases h with
  | num i => simp [sz]
  | wrd s h hl => simp only [sz]; omega
  | adr a b =>
    have : ("at" : Str).length = 2 := by decide +kernel
    simp [sz, szA, this]
theorem bs_shown {bs : List (Str × Dt)} (h : DV bs) (hl : bs.length ≤ 100) : good (bsD bs) = true ∧ (bsD bs).depth ≤ 4 ∧ sz (bsD bs) ≤ 500000 := by
  have hm : ∀ d ∈ (bs.map fun kv => PyData.tuple [.str kv.1, kv.2]), good d = true ∧ d.depth ≤ 3 ∧ sz d ≤ 4200 := by
    intro d hd
    obtain ⟨kv, hkv, rfl⟩ := List.mem_map.mp hd
    obtain ⟨h1, h2, h3, h4⟩ := h kv hkv
    have a := good_V h3 (lt1900 (Nat.le_trans h4 (by decide +kernel)))
    have b := h3.dep
    have c := sz_V h3
    refine ⟨?_, ?_, ?_⟩
    · simp [good, goodA, h1, a]
    · simp only [PyData.depth, PyData.depthAll]; omega
    · simp only [sz, szA]; omega
  refine ⟨?_, ?_, ?_⟩
  · exact goodA_iff.mpr fun d hd => (hm d hd).1
  · have := depthA_le (ds := bs.map fun kv => PyData.tuple [.str kv.1, kv.2]) (k := 3) fun d hd => (hm d hd).2.1
    simp only [bsD, PyData.depth]; omega
  · have := szA_le (ds := bs.map fun kv => PyData.tuple [.str kv.1, kv.2]) (b := 4200) fun d hd => (hm d hd).2.2
    rw [List.length_map] at this
    have : bs.length * 4202 ≤ 100 * 4202 := Nat.mul_le_mul_right _ hl
    simp only [bsD, sz]
    omega
theorem repr_bs {bs : List (Str × Dt)} (h : DV bs) (hl : bs.length ≤ 100) : reprD [bsD bs] = some (.str (bsD bs).shown) := by
  obtain ⟨a, b, c⟩ := bs_shown h hl
  exact reprD_of a (by omega) (by omega)
theorem rng_cons {lo hi : Int} (h : lo < hi) : rngL lo hi = .int lo :: rngL (lo + 1) hi := by
  unfold rngL
  have : (hi - lo).toNat = (hi - (lo + 1)).toNat + 1 := by omega
  rw [this, List.range_succ_eq_map, List.map_cons, List.map_map]
  refine List.cons_eq_cons.mpr ⟨by simp, List.map_congr_left fun k _ => ?_⟩
  simp only [Function.comp, Nat.succ_eq_add_one, Int.natCast_add]
  congr 1
  omega
theorem rng_nil {lo hi : Int} (h : hi ≤ lo) : rngL lo hi = [] := by
  unfold rngL
  have : (hi - lo).toNat = 0 := by omega
  rw [this]; rfl
theorem rng_len {hi : Int} : (rngL 0 hi).length = hi.toNat := by simp [rngL]
open PySem L2 Dx
local macro_rules | `(tactic| walk_at "go") => `(tactic| first
  | with_reducible refine i_seq ?_
  | with_reducible refine i_if ?_
  | with_reducible refine i_ret ?_
  | with_reducible refine i_set ?_
  | with_reducible refine i_par ?_
  | with_reducible refine i_asg ?_
  | with_reducible refine i_drop ?_
  | with_reducible refine i_fn ?_
  | with_reducible refine i_op ?_
  | with_reducible refine i_kCall ?_
  | with_reducible refine i_un ?_
  | with_reducible refine i_isi ?_
  | with_reducible refine i_tup ?_
  | with_reducible refine i_LF ?_
  | with_reducible refine i_LN ?_
  | with_reducible refine i_Lst ?_
  | with_reducible refine i_cons ?_
  | with_reducible refine i_nil ?_
  | with_reducible refine i_C ?_
  | with_reducible refine i_B ?_
  | with_reducible refine i_andB ?_
  | with_reducible refine i_orB ?_
  | with_reducible refine i_notB ?_
  | with_reducible refine i_kIf ?_
  | with_reducible refine i_andV ?_
  | with_reducible refine i_orV ?_
  | with_reducible refine i_notV ?_
  | with_reducible refine i_asB ?_
  | with_reducible refine i_iteT ?_
  | with_reducible refine i_iteF ?_
  | with_reducible refine i_iteN1 ?_
  | with_reducible refine i_iteN0 ?_
  | with_reducible refine i_retD ?_
  | with_reducible refine i_retO ?_
  | with_reducible refine i_setL0 ?_
  | with_reducible refine i_as1 ?_
  | with_reducible refine i_gsN ?_
  | with_reducible refine i_gsC ?_
  | with_reducible refine i_for ?_
  | with_reducible refine i_iSeq ?_
  | with_reducible refine i_iRng ?_
  | with_reducible refine i_iZp ?_
  | with_reducible refine i_rsD ?_
  | with_reducible refine i_rsN ?_
  | with_reducible refine i_strK ?_
  | with_reducible refine i_asD0 ?_
  | with_reducible refine i_asDc ?_
  | with_reducible refine i_nx ?_
  | with_reducible refine i_brk ?_
  | with_reducible refine i_cnt ?_
  | with_reducible refine i_retN ?_
  | with_reducible refine i_toLst ?_
  | with_reducible refine i_app ?_
  | with_reducible refine i_ext ?_
  | with_reducible refine i_pop ?_
  | with_reducible refine i_rev ?_
  | with_reducible refine i_dnew ?_
  | with_reducible refine i_dget2 ?_
  | with_reducible refine i_dix ?_
  | with_reducible refine i_dput ?_
  | with_reducible refine i_dict ?_
  | with_reducible refine i_sortD ?_
  | with_reducible refine i_pNil ?_
  | with_reducible refine i_pCons ?_
  | with_reducible refine i_disp ?_
  | with_reducible refine i_comp ?_
  | with_reducible refine i_comp0 ?_
  | with_reducible refine i_yes ?_
  | with_reducible refine i_addI ?_
  | with_reducible refine i_subI ?_
  | with_reducible refine i_negI ?_
  | with_reducible refine i_ltI ?_
  | with_reducible refine i_leI ?_
  | with_reducible refine i_gtI ?_
  | with_reducible refine i_geI ?_
  | with_reducible refine i_toIntB ?_
  | with_reducible refine i_eqS1 ?_
  | with_reducible refine i_neS1 ?_
  | with_reducible refine i_eqI ?_
  | with_reducible refine i_neI ?_
  | with_reducible refine i_one ?_
  | with_reducible refine i_asL ?_
  | with_reducible refine i_zpT ?_
  | with_reducible refine i_zpL ?_
  | with_reducible refine i_sqT ?_
  | with_reducible refine i_sqL ?_
  | with_reducible refine i_ttL ?_
  | with_reducible refine i_ttT ?_
  | with_reducible refine i_rsL1N ?_
  | with_reducible refine i_asI ?_
  | ((with_reducible apply i_rsL1V); · exact rfl)
  | ((with_reducible apply i_frzD); · exact rfl)
  | ((with_reducible apply i_frzO); · exact rfl)
  | ((with_reducible refine i_rng ?_ ?_); · first | decide +kernel | (constructor <;> omega))
  | ((with_reducible refine i_draw ?_ ?_ ?_ ?_); (· exact rfl); (· decide +kernel); (· decide +kernel))
  | ((with_reducible apply i_ixT); · exact rfl)
  | ((with_reducible apply i_ixL); · exact rfl)
  | ((with_reducible apply i_varD); · exact rfl)
  | ((with_reducible apply i_varO); · exact rfl)
  | ((with_reducible apply i_rsV); · exact rfl)
  | ((with_reducible apply i_gL); · exact rfl)
  | ((with_reducible apply i_gD); · exact rfl)
  | with_reducible refine i_fc ?_
  | with_reducible refine i_fl ?_
  | with_reducible refine i_fa ?_
  | with_reducible refine i_fz ?_
  | with_reducible refine i_gc ?_
  | with_reducible refine i_gl ?_
  | with_reducible refine i_ga ?_
  | with_reducible refine i_fsz ?_
  | with_reducible refine i_cne ?_
  | with_reducible refine i_rsL1 ?_
  | with_reducible refine i_lenL ?_
  | ((with_reducible refine i_powI ?_ ?_); · decide +kernel)
  | ((with_reducible refine i_mulI ?_ ?_); · first | decide +kernel | (constructor <;> omega))
  | ((with_reducible refine i_modI ?_ ?_); · first | assumption | decide +kernel | omega)
  | ((with_reducible refine i_fdvI ?_ ?_); · first | exact ⟨by assumption, by assumption⟩ | decide +kernel)
  | ((with_reducible apply i_wipe); · (simp only [List.map_cons, List.map_nil, wipeD, List.set_cons_succ, List.set_cons_zero]; exact rfl))
  | ((with_reducible apply i_setD); · (simp only [List.set_cons_succ, List.set_cons_zero]; exact rfl))
  | ((with_reducible apply i_setN); · (simp only [List.set_cons_succ, List.set_cons_zero]; exact rfl))
  | ((with_reducible apply i_setLD); · (simp only [List.set_cons_succ, List.set_cons_zero]; exact rfl))
  | ((with_reducible apply i_setLN); · (simp only [List.set_cons_succ, List.set_cons_zero]; exact rfl))
  | ((with_reducible apply i_gN); · (simp only [List.set_cons_succ, List.set_cons_zero]; exact rfl))
  | ((with_reducible apply i_puE); · (simp only [List.set_cons_succ, List.set_cons_zero]; exact rfl))
  | ((with_reducible refine i_eqS0 ?_ ?_); · decide +kernel)
  | ((with_reducible refine i_lenOk ?_ ?_); · (simp only [List.length_cons, List.length_nil, Nat.reduceAdd]; decide +kernel))
  | ((with_reducible refine i_gT ?_ ?_); · exact rfl)
  | ((with_reducible refine And.intro ?_ ?_); · (simp only [List.length_cons, List.length_nil, List.length_append, Nat.reduceAdd]; decide +kernel)))
local macro_rules | `(tactic| walk_at "gos") => `(tactic| repeat walk_at "go")
theorem ok_draw {P : Program} {w : World} {K : PySem.W.Frag} {mg : Str → Option Value} {base : Heap} {a : Ad} (T : Tx K mg a) : FnG P w K mg base 1 a.f__law_draw a.d__law_draw ["_law_feed_here", "_law_many"] spDraw0 := by
  refine T.f__law_draw.ok (n := 2) sc__law_draw (fun as Q Q' i => by rintro ⟨kvs, m, e, h0, h1, h2, h3⟩; exact ⟨kvs, m, e, h0, h1, h2, fun k kvs' x y z => i _ _ (h3 k kvs' x y z)⟩) ?_
  intro cdv A outer s H E hr hgd
  have sc := sc__law_draw
  have hu := hr.units
  have h1 := hu_of hr
  refine ⟨_, (dss_cons (ds_dput 0 h1 de_str (de_add (de_dix 0 h1 de_str) de_int))
  (dss_cons (ds_if (db_gt (de_dix 0 h1 de_str) de_int) (dss_cons (ds_set (i := 2) sc.nd rfl (Or.inl rfl) (de_mod (de_dix 0 h1 de_str) (de_var 1)))
  (dss_cons (ds_dput 0 h1 de_str (de_fdv (de_dix 0 h1 de_str) (de_var 1)))
  (dss_one (ds_ret (de_var 2))))) dss_nil)
  (dss_cons (ds_set (i := 3) sc.nd rfl (Or.inl rfl) (de_dix 0 h1 de_str))
  (dss_cons (ds_dput 0 h1 de_str (de_add (de_var 3) de_int))
  (dss_cons (ds_set (i := 4) sc.nd rfl (Or.inl rfl) (de_if (db_ne hu (de_dix 0 h1 de_str) (dl_F (dl_lst da_nil))) (de_ix (de_dix 0 h1 de_str) (de_mod (de_var 3) (de_callB call_len lk_len rfl T.b_len (by decide +kernel) (da_cons (de_dix 0 h1 de_str) da_nil)))) de_int))
  (dss_cons (ds_if (dw_b (dw_and (db_ge (de_var 4) (de_pow de_int de_int)) (dw_and1 (db_lt (de_var 3) (de_callB call_len lk_len rfl T.b_len (by decide +kernel) (da_cons (de_dix 0 h1 de_str) da_nil)))))) (dss_cons (ds_dput 0 h1 de_str (de_fdv (de_var 4) (de_var 1)))
  (dss_one (ds_ret (de_mod (de_var 4) (de_var 1))))) dss_nil)
  (dss_cons (ds_set (i := 5) sc.nd rfl (Or.inl rfl) (de_mod (de_add (de_add (de_mod (de_var 4) de_int) (de_mul de_int (de_dix 0 h1 de_str))) de_int) de_int))
  (dss_cons (ds_set (i := 5) sc.nd rfl (Or.inl rfl) (de_mod (de_add (de_add (de_mul (de_var 5) (de_var 5)) (de_mul de_int (de_dix 0 h1 de_str))) de_int) de_int))
  (dss_one (ds_ret (de_mod (de_fdv (de_mod (de_add (de_mul (de_var 5) (de_var 5)) (de_mul de_int (de_var 5))) de_int) de_int) (de_var 1)))))))))))), ?_⟩
  rintro as Q hl ⟨kvs, m, rfl, ⟨ns, at', l, c, rfl⟩, hm0, hm1, q⟩
  simp only [startD, List.map_cons, List.map_nil, List.length_cons, List.length_nil, List.cons_append, List.nil_append, Nat.reduceAdd, Nat.reduceSub, List.replicate_succ, List.replicate_zero]
  repeat walk_at "go"
  refine i_iteD (fun hl0 => ?_) (fun hl0 => ?_)
  · repeat walk_at "go"
    exact q _ _ (Int.emod_nonneg _ (by omega)) (Int.emod_lt_of_pos _ hm0) ⟨_, _, _, _, rfl⟩
  repeat walk_at "go"
  refine i_ite (fun hn => ?_) (fun hn => ?_)
  · repeat walk_at "go"
    have hp : (0 : Int) < (ns.map PyData.int).length := by
      cases ns with
      | nil => simp at hn
      | cons a b => simp
    refine i_modI hp ?_
    repeat walk_at "go"
    obtain ⟨x, hx, hm⟩ := atI_ok (xs := ns.map PyData.int) (Int.emod_nonneg at' (by omega : ((ns.map PyData.int).length : Int) ≠ 0)) (Int.emod_lt_of_pos at' hp)
    refine i_wr (y := x) hx ?_
    obtain ⟨n, _, rfl⟩ := List.mem_map.mp hm
    walk_at "gos"
    refine i_iteD (fun _ => ?_) (fun _ => ?_)
    · walk_at "gos"
      refine i_iteD (fun _ => ?_) (fun _ => ?_)
      · walk_at "gos"
        exact q _ _ (Int.emod_nonneg _ (by omega)) (Int.emod_lt_of_pos _ hm0) ⟨_, _, _, _, rfl⟩
      · walk_at "gos"
        exact q _ _ (Int.emod_nonneg _ (by omega)) (Int.emod_lt_of_pos _ hm0) ⟨_, _, _, _, rfl⟩
    · walk_at "gos"
      exact q _ _ (Int.emod_nonneg _ (by omega)) (Int.emod_lt_of_pos _ hm0) ⟨_, _, _, _, rfl⟩
  · skip
    walk_at "gos"
    refine i_iteD (fun _ => ?_) (fun _ => ?_)
    · walk_at "gos"
      refine i_iteD (fun _ => ?_) (fun _ => ?_)
      · walk_at "gos"
        exact q _ _ (Int.emod_nonneg _ (by omega)) (Int.emod_lt_of_pos _ hm0) ⟨_, _, _, _, rfl⟩
      · walk_at "gos"
        exact q _ _ (Int.emod_nonneg _ (by omega)) (Int.emod_lt_of_pos _ hm0) ⟨_, _, _, _, rfl⟩
    · walk_at "gos"
      exact q _ _ (Int.emod_nonneg _ (by omega)) (Int.emod_lt_of_pos _ hm0) ⟨_, _, _, _, rfl⟩
open PySem L2 Dx
local macro_rules | `(tactic| walk_at "st") => `(tactic| simp only [startD, List.map_cons, List.map_nil, List.length_cons, List.length_nil, List.cons_append, List.nil_append, Nat.reduceAdd, Nat.reduceSub, List.replicate_succ, List.replicate_zero])
theorem B_is_whole_1 {K : PySem.W.Frag} {mg : Str → Option Value} {a : Ad} (T : Tx K mg a) : BindP K a.d_is_whole ["thing"] 1 [] [] (List.range 1) := T.f_is_whole.bp 1 rfl (fun kV doc pm an cdv ct us hl => by match us, hl with | [x0], _ => rfl)
theorem B_counted_1 {K : PySem.W.Frag} {mg : Str → Option Value} {a : Ad} (T : Tx K mg a) : BindP K a.d_counted ["value"] 1 [] [] (List.range 1) := T.f_counted.bp 1 rfl (fun kV doc pm an cdv ct us hl => by match us, hl with | [x0], _ => rfl)
theorem B_lone_worth_3 {K : PySem.W.Frag} {mg : Str → Option Value} {a : Ad} (T : Tx K mg a) : BindP K a.d_lone_worth ["amount", "known", "address"] 3 [] [] (List.range 3) := T.f_lone_worth.bp 3 rfl (fun kV doc pm an cdv ct us hl => by match us, hl with | [x0, x1, x2], _ => rfl)
theorem B_double_worth_3 {K : PySem.W.Frag} {mg : Str → Option Value} {a : Ad} (T : Tx K mg a) : BindP K a.d_double_worth ["word", "one", "other"] 3 [] [] (List.range 3) := T.f_double_worth.bp 3 rfl (fun kV doc pm an cdv ct us hl => by match us, hl with | [x0, x1, x2], _ => rfl)
theorem B_worth_by_3 {K : PySem.W.Frag} {mg : Str → Option Value} {a : Ad} (T : Tx K mg a) : BindP K a.d_worth_by ["amount", "known", "address"] 3 [] [] (List.range 3) := T.f_worth_by.bp 3 rfl (fun kV doc pm an cdv ct us hl => by match us, hl with | [x0, x1, x2], _ => rfl)
theorem ok_is_whole {P : Program} {w : World} {K : PySem.W.Frag} {mg : Str → Option Value} {base : Heap} {a : Ad} (T : Tx K mg a) : FnG P w K mg base (0 + 1) a.f_is_whole a.d_is_whole ["thing"] sp_is_whole := by
  refine T.f_is_whole.ok (n := 1) sc_is_whole (spX_mono _ _ _) ?_
  intro cdv A outer s H E hr hgd
  have sc := sc_is_whole
  have hu := hr.units
  have h1 := hu_of hr
  have hv : (A.deeper (PyProof.Rows.envOfC "is_whole" (defScope s_is_whole) s.heap.objs.size a.f_is_whole cdv)).units + 150 < cLine := by have := hr.un; omega
  let N : List Str := ["thing"]
  let st : Stmt := s_is_whole
  refine ⟨_, (dss_one (ds_ret (de_and (de_isi kit_int rfl T.b_isinstance rfl T.b_int (by decide +kernel) (de_var 0)) (de_one (de_not (de_isi kit_bool rfl T.b_isinstance rfl T.b_bool (by decide +kernel) (de_var 0))))))), ?_⟩
  rintro as Q hl ⟨z, rfl, hp, q⟩
  walk_at "st"
  walk_at "gos"
  have q' := q _ rfl
  refine i_ite (fun h => ?_) (fun h => ?_)
  · walk_at "gos"
    rw [h, Bool.true_and] at q'
    exact q'
  · walk_at "gos"
    rw [h, Bool.false_and] at q'
    exact q'

theorem ok_counted {P : Program} {w : World} {K : PySem.W.Frag} {mg : Str → Option Value} {base : Heap} {a : Ad} (T : Tx K mg a) : FnG P w K mg base (1 + 1) a.f_counted a.d_counted ["value"] sp_counted := by
  have G_is_whole := ok_is_whole (P := P) (w := w) (base := base) T
  have B_is_whole_1 := B_is_whole_1 (K := K) (mg := mg) T
  have V_is_whole_1 : RpAll K (fun _ => none) [] [] := .nil
  refine T.f_counted.ok (n := 1) sc_counted (spX_mono _ _ _) ?_
  intro cdv A outer s H E hr hgd
  have sc := sc_counted
  have hu := hr.units
  have h1 := hu_of hr
  have hv : (A.deeper (PyProof.Rows.envOfC "counted" (defScope s_counted) s.heap.objs.size a.f_counted cdv)).units + 150 < cLine := by have := hr.un; omega
  let N : List Str := ["value"]
  let st : Stmt := s_counted
  refine ⟨_, (dss_one (ds_ret (de_if (db_val (de_fn (G_is_whole) (hr.mono (by first | decide | omega)) hgd rfl T.f_is_whole.mg T.f_is_whole.kp B_is_whole_1 V_is_whole_1 (da_cons (de_var 0) da_nil))) (de_var 0) de_int))), ?_⟩
  rintro as Q hl ⟨z, rfl, hp, q⟩
  walk_at "st"
  walk_at "gos"
  refine i_call z rfl rfl rfl rfl trivial ?_
  rintro d rfl
  walk_at "gos"
  have q' := q _ rfl
  refine i_ite (fun h => ?_) (fun h => ?_)
  · walk_at "gos"
    rw [← cntD_int hp h] at q'
    exact q'
  · walk_at "gos"
    rw [cntD_no hp h] at q'
    exact q'

theorem ok_double_worth {P : Program} {w : World} {K : PySem.W.Frag} {mg : Str → Option Value} {base : Heap} {a : Ad} (T : Tx K mg a) : FnG P w K mg base (2 + 1) a.f_double_worth a.d_double_worth ["word", "one", "other"] sp_double := by
  have G_counted := ok_counted (P := P) (w := w) (base := base) T
  have B_counted_1 := B_counted_1 (K := K) (mg := mg) T
  have V_counted_1 : RpAll K (fun _ => none) [] [] := .nil
  refine T.f_double_worth.ok (n := 3) sc_double_worth (spX_mono _ _ _) ?_
  intro cdv A outer s H E hr hgd
  have sc := sc_double_worth
  have hu := hr.units
  have h1 := hu_of hr
  have hv : (A.deeper (PyProof.Rows.envOfC "double_worth" (defScope s_double_worth) s.heap.objs.size a.f_double_worth cdv)).units + 150 < cLine := by have := hr.un; omega
  let N : List Str := ["word", "one", "other", "first", "second"]
  let st : Stmt := s_double_worth
  refine ⟨_, (dss_cons (ds_if (db_eq hu (de_var 0) de_str) (dss_one (ds_ret (de_callT call_int1 lk_toInt rfl T.b_int (by decide +kernel) (da_cons (de_eq hu (de_var 1) (de_var 2)) da_nil)))) dss_nil)
  (dss_cons (ds_par (i := 3) (j := 4) rfl sc.nd rfl rfl (by decide) rfl rfl (da_cons (de_fn (G_counted) (hr.mono (by first | decide | omega)) hgd rfl T.f_counted.mg T.f_counted.kp B_counted_1 V_counted_1 (da_cons (de_var 1) da_nil)) (da_cons (de_fn (G_counted) (hr.mono (by first | decide | omega)) hgd rfl T.f_counted.mg T.f_counted.kp B_counted_1 V_counted_1 (da_cons (de_var 2) da_nil)) da_nil)) rfl)
  (dss_cons (ds_if (db_eq hu (de_var 0) de_str) (dss_one (ds_ret (de_callT call_int1 lk_toInt rfl T.b_int (by decide +kernel) (da_cons (de_lt (de_var 3) (de_var 4)) da_nil)))) dss_nil)
  (dss_one (ds_ret (de_if (db_eq hu (de_var 0) de_str) (de_add (de_var 3) (de_var 4)) (de_sub (de_var 3) (de_var 4)))))))), ?_⟩
  rintro as Q hl ⟨z, rfl, hp, q⟩
  obtain ⟨o, x, y⟩ := z
  obtain ⟨hx, hy⟩ := hp
  have q' := q _ rfl
  clear q
  cases o
  · simp only [Op.w] at q' ⊢
    walk_at "st"
    walk_at "gos"
    refine i_call x rfl rfl rfl rfl hx ?_
    rintro d rfl
    walk_at "gos"
    refine i_call y rfl rfl rfl rfl hy ?_
    rintro d rfl
    walk_at "gos"
    exact q'
  · simp only [Op.w] at q' ⊢
    walk_at "st"
    walk_at "gos"
    refine i_call x rfl rfl rfl rfl hx ?_
    rintro d rfl
    walk_at "gos"
    refine i_call y rfl rfl rfl rfl hy ?_
    rintro d rfl
    walk_at "gos"
    exact q'
  · simp only [Op.w] at q' ⊢
    walk_at "st"
    walk_at "gos"
    refine i_call x rfl rfl rfl rfl hx ?_
    rintro d rfl
    walk_at "gos"
    refine i_call y rfl rfl rfl rfl hy ?_
    rintro d rfl
    walk_at "gos"
    exact q'
  · simp only [Op.w] at q' ⊢
    walk_at "st"
    walk_at "gos"
    refine i_wr (eqV hx hy) ?_
    walk_at "gos"
    exact q'

theorem ok_lone_worth {P : Program} {w : World} {K : PySem.W.Frag} {mg : Str → Option Value} {base : Heap} {a : Ad} (T : Tx K mg a) : FnG P w K mg base (0 + 1) a.f_lone_worth a.d_lone_worth ["amount", "known", "address"] sp_lone := by
  refine T.f_lone_worth.ok (n := 3) sc_lone_worth (spX_mono _ _ _) ?_
  intro cdv A outer s H E hr hgd
  have sc := sc_lone_worth
  have hu := hr.units
  have h1 := hu_of hr
  have hv : (A.deeper (PyProof.Rows.envOfC "lone_worth" (defScope s_lone_worth) s.heap.objs.size a.f_lone_worth cdv)).units + 150 < cLine := by have := hr.un; omega
  let N : List Str := ["amount", "known", "address"]
  let st : Stmt := s_lone_worth
  refine ⟨_, (dss_cons (ds_if (db_eq hu (de_ix (de_var 0) de_int) de_str) (dss_one (ds_ret (de_var 2))) dss_nil)
  (dss_one (ds_ret (de_if (db_eq hu (de_ix (de_var 0) de_int) de_str) (de_ix (de_var 0) de_int) (de_dget2 1 h1 (de_ix (de_var 0) de_int) de_int ⟨rfl, rfl, rfl, rfl⟩))))), ?_⟩
  rintro as Q hl ⟨z, rfl, hp, q⟩
  obtain ⟨x, kvs, home⟩ := z
  have q' := q _ rfl
  clear q
  cases x with
  | is v =>
    simp only [Sm.d] at q' ⊢
    walk_at "st"
    walk_at "gos"
    exact q'
  | of v =>
    simp only [Sm.d] at q' ⊢
    walk_at "st"
    walk_at "gos"
    exact q'
  | self =>
    simp only [Sm.d] at q' ⊢
    walk_at "st"
    walk_at "gos"
    exact q'
  | dbl o a b => exact hp.elim

theorem step_worth_by {P : Program} {w : World} {K : PySem.W.Frag} {mg : Str → Option Value} {base : Heap} {a : Ad} (T : Tx K mg a) (m : Nat) (G_worth_by : FnG P w K mg base (4 + m) a.f_worth_by a.d_worth_by ["amount", "known", "address"] (spX (α := Sm × List (Str × Dt) × Dt) (fun a => [.dat a.1.d, .obj (.dic a.2.1), .dat a.2.2]) (fun a => a.1.deep < m ∧ a.1.V ∧ KV a.2.1 ∧ IsV a.2.2) fun a r => r = val a.2.1 a.2.2 a.1)) : FnG P w K mg base ((4 + m) + 1) a.f_worth_by a.d_worth_by ["amount", "known", "address"] (sp_by m) := by
  have G_lone_worth := (ok_lone_worth (P := P) (w := w) (base := base) T).up (k := 4 + m) (by omega)
  have G_double_worth := (ok_double_worth (P := P) (w := w) (base := base) T).up (k := 4 + m) (by omega)
  have B_lone_worth_3 := B_lone_worth_3 (K := K) (mg := mg) T
  have V_lone_worth_3 : RpAll K (fun _ => none) [] [] := .nil
  have B_double_worth_3 := B_double_worth_3 (K := K) (mg := mg) T
  have V_double_worth_3 : RpAll K (fun _ => none) [] [] := .nil
  have B_worth_by_3 := B_worth_by_3 (K := K) (mg := mg) T
  have V_worth_by_3 : RpAll K (fun _ => none) [] [] := .nil
  refine T.f_worth_by.ok (n := 3) sc_worth_by (spX_mono _ _ _) ?_
  intro cdv A outer s H E hr hgd
  have sc := sc_worth_by
  have hu := hr.units
  have h1 := hu_of hr
  have hv : (A.deeper (PyProof.Rows.envOfC "worth_by" (defScope s_worth_by) s.heap.objs.size a.f_worth_by cdv)).units + 150 < cLine := by have := hr.un; omega
  let N : List Str := ["amount", "known", "address", "word", "one", "other"]
  let st : Stmt := s_worth_by
  refine ⟨_, (dss_cons (ds_if (db_nin (de_ix (de_var 0) de_int) (de_glob rfl T.c_DOUBLE T.v_DOUBLE T.d_DOUBLE)) (dss_one (ds_ret (de_fn (G_lone_worth) (hr.mono (by first | decide | omega)) hgd rfl T.f_lone_worth.mg T.f_lone_worth.kp B_lone_worth_3 V_lone_worth_3 (da_cons (de_var 0) (da_cons (de_var 1) (da_cons (de_var 2) da_nil)))))) dss_nil)
  (dss_cons (ds_asg (ws := [3, 4, 5]) (de_var 0) (dg_tup rfl (dgs_cons (dg_name (i := 3) sc.nd rfl (Or.inl rfl)) (dgs_cons (dg_name (i := 4) sc.nd rfl (Or.inl rfl)) (dgs_cons (dg_name (i := 5) sc.nd rfl (Or.inl rfl)) dgs_nil)))))
  (dss_one (ds_ret (de_fn (G_double_worth) (hr.mono (by first | decide | omega)) hgd rfl T.f_double_worth.mg T.f_double_worth.kp B_double_worth_3 V_double_worth_3 (da_cons (de_var 3) (da_cons (de_fn (G_worth_by) (hr.mono (by first | decide | omega)) hgd rfl T.f_worth_by.mg T.f_worth_by.kp B_worth_by_3 V_worth_by_3 (da_cons (de_var 4) (da_cons (de_var 1) (da_cons (de_var 2) da_nil)))) (da_cons (de_fn (G_worth_by) (hr.mono (by first | decide | omega)) hgd rfl T.f_worth_by.mg T.f_worth_by.kp B_worth_by_3 V_worth_by_3 (da_cons (de_var 5) (da_cons (de_var 1) (da_cons (de_var 2) da_nil)))) da_nil)))))))), ?_⟩
  rintro as Q hl ⟨z, rfl, hp, q⟩
  obtain ⟨x, kvs, home⟩ := z
  obtain ⟨hd, hx, hk, hh⟩ := hp
  have q' := q _ rfl
  clear q
  cases x with
  | is v =>
    simp only [Sm.d] at q' ⊢
    walk_at "st"
    walk_at "gos"
    refine i_nin (ws := W4) (b := true) (by decide +kernel) ?_
    walk_at "gos"
    refine i_call (.is v, kvs, home) rfl rfl rfl rfl trivial ?_
    rintro d rfl
    walk_at "gos"
    exact q'
  | of v =>
    simp only [Sm.d] at q' ⊢
    walk_at "st"
    walk_at "gos"
    refine i_nin (ws := W4) (b := true) (by decide +kernel) ?_
    walk_at "gos"
    refine i_call (.of v, kvs, home) rfl rfl rfl rfl trivial ?_
    rintro d rfl
    walk_at "gos"
    exact q'
  | self =>
    simp only [Sm.d] at q' ⊢
    walk_at "st"
    walk_at "gos"
    refine i_nin (ws := W4) (b := true) (by decide +kernel) ?_
    walk_at "gos"
    refine i_call (.self, kvs, home) rfl rfl rfl rfl trivial ?_
    rintro d rfl
    walk_at "gos"
    exact q'
  | dbl o x y =>
    simp only [Sm.d] at q' ⊢
    simp only [Sm.deep] at hd
    have hw : (!W4.any fun z => z == o.w) = false := by cases o <;> decide +kernel
    walk_at "st"
    walk_at "gos"
    refine i_nin (ws := W4) hw ?_
    walk_at "gos"
    refine i_call (x, kvs, home) rfl rfl rfl rfl ⟨(by show x.deep < m; omega), hx.1, hk, hh⟩ ?_
    rintro d rfl
    walk_at "gos"
    refine i_call (y, kvs, home) rfl rfl rfl rfl ⟨(by show y.deep < m; omega), hx.2, hk, hh⟩ ?_
    rintro d rfl
    walk_at "gos"
    refine i_call (o, val kvs home x, val kvs home y) rfl rfl rfl rfl ⟨val_V hk hh x hx.1, val_V hk hh y hx.2⟩ ?_
    rintro d rfl
    walk_at "gos"
    exact q'

theorem ok_worth_by {P : Program} {w : World} {K : PySem.W.Frag} {mg : Str → Option Value} {base : Heap} {a : Ad} (T : Tx K mg a) : ∀ m : Nat, FnG P w K mg base (4 + m + 1) a.f_worth_by a.d_worth_by ["amount", "known", "address"] (sp_by m)
  | 0 => step_worth_by T 0 (fng_never fun as Q ⟨z, _, hp, _⟩ => absurd hp.1 (Nat.not_lt_zero _))
  | m + 1 => step_worth_by T (m + 1) ((ok_worth_by T m).imp (spX_mono _ _ _) fun as Q ⟨z, e, hp, q⟩ => ⟨z, e, ⟨by omega, hp.2⟩, q⟩)
open PySem L2 Dx
theorem B__law_draw_2 {K : PySem.W.Frag} {mg : Str → Option Value} {a : Ad} (T : Tx K mg a) : BindP K a.d__law_draw ["_law_feed_here", "_law_many"] 2 [] [] (List.range 2) := T.f__law_draw.bp 2 rfl (fun kV doc pm an cdv ct us hl => by match us, hl with | [x0, x1], _ => rfl)
theorem B__law_value_1 {K : PySem.W.Frag} {mg : Str → Option Value} {a : Ad} (T : Tx K mg a) : BindP K a.d__law_value ["_law_feed_here"] 1 [] [] (List.range 1) := T.f__law_value.bp 1 rfl (fun kV doc pm an cdv ct us hl => by match us, hl with | [x0], _ => rfl)
theorem B__law_sum_3 {K : PySem.W.Frag} {mg : Str → Option Value} {a : Ad} (T : Tx K mg a) : BindP K a.d__law_sum ["_law_feed_here", "_law_names_in", "_law_deep"] 3 [] [] (List.range 3) := T.f__law_sum.bp 3 rfl (fun kV doc pm an cdv ct us hl => by match us, hl with | [x0, x1, x2], _ => rfl)
theorem B__law_counted_1 {K : PySem.W.Frag} {mg : Str → Option Value} {a : Ad} (T : Tx K mg a) : BindP K a.d__law_counted ["_law_value_here"] 1 [] [] (List.range 1) := T.f__law_counted.bp 1 rfl (fun kV doc pm an cdv ct us hl => by match us, hl with | [x0], _ => rfl)
theorem ok_worth {P : Program} {w : World} {K : PySem.W.Frag} {mg : Str → Option Value} {base : Heap} {a : Ad} (T : Tx K mg a) (m : Nat) : FnG P w K mg base ((5 + m) + 1) a.f_worth a.d_worth ["amount", "bindings", "address"] (sp_worth m) := by
  have G_worth_by := ok_worth_by (P := P) (w := w) (base := base) T m
  have B_worth_by_3 := B_worth_by_3 (K := K) (mg := mg) T
  have V_worth_by_3 : RpAll K (fun _ => none) [] [] := .nil
  refine T.f_worth.ok (n := 3) sc_worth (spX_mono _ _ _) ?_
  intro cdv A outer s H E hr hgd
  have sc := sc_worth
  have hu := hr.units
  have h1 := hu_of hr
  have hv : (A.deeper (PyProof.Rows.envOfC "worth" (defScope s_worth) s.heap.objs.size a.f_worth cdv)).units + 150 < cLine := by have := hr.un; omega
  let N : List Str := ["amount", "bindings", "address"]
  let st : Stmt := s_worth
  refine ⟨_, (dss_one (ds_ret (de_fn (G_worth_by) (hr.mono (by first | decide | omega)) hgd rfl T.f_worth_by.mg T.f_worth_by.kp B_worth_by_3 V_worth_by_3 (da_cons (de_var 0) (da_cons (de_dict rfl rfl T.b_dict (da_cons (de_var 1) da_nil)) (da_cons (de_var 2) da_nil)))))), ?_⟩
  rintro as Q hl ⟨z, rfl, hp, q⟩
  obtain ⟨x, bs, home⟩ := z
  obtain ⟨hd, hx, hk, hh⟩ := hp
  have q' := q _ rfl
  clear q
  walk_at "st"
  walk_at "gos"
  refine i_wr (dicOf_bs bs) ?_
  walk_at "gos"
  refine i_call (x, mergeS [] bs, home) rfl rfl rfl rfl ⟨hd, hx, KV_merge KV_nil hk, hh⟩ ?_
  rintro d rfl
  walk_at "gos"
  exact q'

theorem ok__law_value {P : Program} {w : World} {K : PySem.W.Frag} {mg : Str → Option Value} {base : Heap} {a : Ad} (T : Tx K mg a) : FnG P w K mg base (1 + 1) a.f__law_value a.d__law_value ["_law_feed_here"] sp_value := by
  have G__law_draw := draw_spX (draw_hid (ok_draw (P := P) (w := w) (base := base) T))
  have B__law_draw_2 := B__law_draw_2 (K := K) (mg := mg) T
  have V__law_draw_2 : RpAll K (fun _ => none) [] [] := .nil
  refine T.f__law_value.ok (n := 1) sc__law_value (spX_mono _ _ _) ?_
  intro cdv A outer s H E hr hgd
  have sc := sc__law_value
  have hu := hr.units
  have h1 := hu_of hr
  have hv : (A.deeper (PyProof.Rows.envOfC "_law_value" (defScope s__law_value) s.heap.objs.size a.f__law_value cdv)).units + 150 < cLine := by have := hr.un; omega
  let N : List Str := ["_law_feed_here", "_law_few", "_law_far", "_law_word"]
  let st : Stmt := s__law_value
  refine ⟨_, (dss_cons (ds_set (i := 1) sc.nd rfl (Or.inl rfl) (de_fn (G__law_draw) (hr.mono (by first | decide | omega)) hgd rfl T.f__law_draw.mg T.f__law_draw.kp B__law_draw_2 V__law_draw_2 (da_cons (de_var 0) (da_cons de_int da_nil))))
  (dss_cons (ds_set (i := 2) sc.nd rfl (Or.inl rfl) (de_ix (dl_F (dl_lst (da_cons de_int (da_cons (de_neg de_int) (da_cons (de_neg de_int) (da_cons de_int (da_cons (de_sub (de_pow de_int de_int) (de_var 1)) (da_cons (de_sub (de_var 1) (de_pow de_int de_int)) (da_cons (de_add de_int (de_var 1)) da_nil))))))))) (de_fn (G__law_draw) (hr.mono (by first | decide | omega)) hgd rfl T.f__law_draw.mg T.f__law_draw.kp B__law_draw_2 V__law_draw_2 (da_cons (de_var 0) (da_cons de_int da_nil)))))
  (dss_cons (ds_set (i := 3) sc.nd rfl (Or.inl rfl) (de_ix (dl_F (dl_lst (da_cons de_str (da_cons de_str (da_cons de_str (da_cons de_str (da_cons de_str da_nil))))))) (de_fn (G__law_draw) (hr.mono (by first | decide | omega)) hgd rfl T.f__law_draw.mg T.f__law_draw.kp B__law_draw_2 V__law_draw_2 (da_cons (de_var 0) (da_cons de_int da_nil)))))
  (dss_one (ds_ret (de_ix (dl_F (dl_lst (da_cons (de_var 1) (da_cons (de_add (de_var 1) de_int) (da_cons (de_var 2) (da_cons (de_var 3) (da_cons (de_tup (da_cons de_str (da_cons (de_fn (G__law_draw) (hr.mono (by first | decide | omega)) hgd rfl T.f__law_draw.mg T.f__law_draw.kp B__law_draw_2 V__law_draw_2 (da_cons (de_var 0) (da_cons de_int da_nil))) (da_cons (de_var 1) da_nil)))) (da_cons (de_var 1) da_nil)))))))) (de_fn (G__law_draw) (hr.mono (by first | decide | omega)) hgd rfl T.f__law_draw.mg T.f__law_draw.kp B__law_draw_2 V__law_draw_2 (da_cons (de_var 0) (da_cons de_int da_nil))))))))), ?_⟩
  rintro as Q hl ⟨z, rfl, hp, q⟩
  walk_at "st"
  walk_at "gos"
  intro k k0 k1
  walk_at "gos"
  intro k2 k20 k21
  walk_at "gos"
  refine i_ixM k20 k21 ?_
  intro x2 hx2
  have t6 : (10 : Int) ^ Int.toNat 6 = 1000000 := by decide +kernel
  have v2 : IsV x2 ∧ mag x2 ≤ 1000000 := by
    simp only [List.mem_cons, List.not_mem_nil, or_false] at hx2
    rcases hx2 with rfl | rfl | rfl | rfl | rfl | rfl | rfl <;> refine ⟨.num _, ?_⟩ <;> simp only [mag] <;> omega
  clear hx2
  walk_at "gos"
  intro k3 k30 k31
  walk_at "gos"
  refine i_ixM k30 k31 ?_
  intro x3 hx3
  have v3 : IsV x3 ∧ mag x3 ≤ 1000000 := by
    simp only [List.mem_cons, List.not_mem_nil, or_false] at hx3
    rcases hx3 with rfl | rfl | rfl | rfl | rfl <;> refine ⟨.wrd _ (by decide +kernel) (by decide +kernel), ?_⟩ <;> simp only [mag] <;> omega
  clear hx3
  walk_at "gos"
  intro k4 k40 k41
  walk_at "gos"
  intro k5 k50 k51
  walk_at "gos"
  refine i_ixM k50 k51 ?_
  intro x5 hx5
  walk_at "gos"
  refine q _ ?_
  simp only [List.mem_cons, List.not_mem_nil, or_false] at hx5
  rcases hx5 with rfl | rfl | rfl | rfl | rfl | rfl
  · exact ⟨.num _, by simp only [mag]; omega⟩
  · exact ⟨.num _, by simp only [mag]; omega⟩
  · exact v2
  · exact v3
  · exact ⟨.adr _ _, by simp only [mag]; omega⟩
  · exact ⟨.num _, by simp only [mag]; omega⟩

theorem step_sum {P : Program} {w : World} {K : PySem.W.Frag} {mg : Str → Option Value} {base : Heap} {a : Ad} (T : Tx K mg a) (m : Nat) (G__law_sum : FnG P w K mg base (3 + m) a.f__law_sum a.d__law_sum ["_law_feed_here", "_law_names_in", "_law_deep"] (spX (α := Nat) ar_sum (fun j => j < m) po_sum)) : FnG P w K mg base ((3 + m) + 1) a.f__law_sum a.d__law_sum ["_law_feed_here", "_law_names_in", "_law_deep"] (sp_sum m) := by
  have G__law_draw := (draw_spX (draw_hid (ok_draw (P := P) (w := w) (base := base) T))).up (k := 3 + m) (by omega)
  have G__law_value := (ok__law_value (P := P) (w := w) (base := base) T).up (k := 3 + m) (by omega)
  have B__law_draw_2 := B__law_draw_2 (K := K) (mg := mg) T
  have V__law_draw_2 : RpAll K (fun _ => none) [] [] := .nil
  have B__law_sum_3 := B__law_sum_3 (K := K) (mg := mg) T
  have V__law_sum_3 : RpAll K (fun _ => none) [] [] := .nil
  have B__law_value_1 := B__law_value_1 (K := K) (mg := mg) T
  have V__law_value_1 : RpAll K (fun _ => none) [] [] := .nil
  refine T.f__law_sum.ok (n := 3) sc__law_sum (spX_mono _ _ _) ?_
  intro cdv A outer s H E hr hgd
  have sc := sc__law_sum
  have hu := hr.units
  have h1 := hu_of hr
  have hv : (A.deeper (PyProof.Rows.envOfC "_law_sum" (defScope s__law_sum) s.heap.objs.size a.f__law_sum cdv)).units + 150 < cLine := by have := hr.un; omega
  let N : List Str := ["_law_feed_here", "_law_names_in", "_law_deep", "_law_word", "_law_one", "_law_some"]
  let st : Stmt := s__law_sum
  refine ⟨_, (dss_cons (ds_if (dw_b (dw_and (db_gt (de_var 2) de_int) (dw_and1 (db_eq hu (de_fn (G__law_draw) (hr.mono (by first | decide | omega)) hgd rfl T.f__law_draw.mg T.f__law_draw.kp B__law_draw_2 V__law_draw_2 (da_cons (de_var 0) (da_cons de_int da_nil))) de_int)))) (dss_cons (ds_set (i := 3) sc.nd rfl (Or.inl rfl) (de_ix (dl_F (dl_lst (da_cons de_str (da_cons de_str (da_cons de_str (da_cons de_str da_nil)))))) (de_fn (G__law_draw) (hr.mono (by first | decide | omega)) hgd rfl T.f__law_draw.mg T.f__law_draw.kp B__law_draw_2 V__law_draw_2 (da_cons (de_var 0) (da_cons de_int da_nil)))))
  (dss_cons (ds_set (i := 4) sc.nd rfl (Or.inl rfl) (de_fn (G__law_sum) (hr.mono (by first | decide | omega)) hgd rfl T.f__law_sum.mg T.f__law_sum.kp B__law_sum_3 V__law_sum_3 (da_cons (de_var 0) (da_cons (de_var 1) (da_cons (de_sub (de_var 2) de_int) da_nil)))))
  (dss_one (ds_ret (de_tup (da_cons (de_var 3) (da_cons (de_var 4) (da_cons (de_fn (G__law_sum) (hr.mono (by first | decide | omega)) hgd rfl T.f__law_sum.mg T.f__law_sum.kp B__law_sum_3 V__law_sum_3 (da_cons (de_var 0) (da_cons (de_var 1) (da_cons (de_sub (de_var 2) de_int) da_nil)))) da_nil)))))))) dss_nil)
  (dss_cons (ds_if (dw_b (dw_and (db_ne hu (de_var 1) (dl_F (dl_lst da_nil))) (dw_and1 (db_gt (de_fn (G__law_draw) (hr.mono (by first | decide | omega)) hgd rfl T.f__law_draw.mg T.f__law_draw.kp B__law_draw_2 V__law_draw_2 (da_cons (de_var 0) (da_cons de_int da_nil))) de_int)))) (dss_one (ds_ret (de_tup (da_cons de_str (da_cons (de_ix (de_var 1) (de_fn (G__law_draw) (hr.mono (by first | decide | omega)) hgd rfl T.f__law_draw.mg T.f__law_draw.kp B__law_draw_2 V__law_draw_2 (da_cons (de_var 0) (da_cons (de_callB call_len lk_len rfl T.b_len (by decide +kernel) (da_cons (de_var 1) da_nil)) da_nil)))) da_nil))))) dss_nil)
  (dss_cons (ds_set (i := 5) sc.nd rfl (Or.inl rfl) (dl_F (dl_lst (da_cons (de_tup (da_cons de_str (da_cons (de_fn (G__law_value) (hr.mono (by first | decide | omega)) hgd rfl T.f__law_value.mg T.f__law_value.kp B__law_value_1 V__law_value_1 (da_cons (de_var 0) da_nil)) da_nil))) (da_cons (de_tup (da_cons de_str (da_cons (de_fn (G__law_value) (hr.mono (by first | decide | omega)) hgd rfl T.f__law_value.mg T.f__law_value.kp B__law_value_1 V__law_value_1 (da_cons (de_var 0) da_nil)) da_nil))) (da_cons (de_tup (da_cons de_str da_nil)) (da_cons (de_tup (da_cons de_str (da_cons de_str da_nil))) da_nil)))))))
  (dss_one (ds_ret (de_ix (de_var 5) (de_fdv (de_fn (G__law_draw) (hr.mono (by first | decide | omega)) hgd rfl T.f__law_draw.mg T.f__law_draw.kp B__law_draw_2 V__law_draw_2 (da_cons (de_var 0) (da_cons de_int da_nil))) de_int))))))), ?_⟩
  rintro as Q hl ⟨z, rfl, hp, q⟩
  unfold ar_sum NM at *
  walk_at "st"
  refine i_seq ?_
  refine cut_nx ?_ (fun tail => ?_)
  · walk_at "gos"
    refine i_wr ne_NM ?_
    walk_at "gos"
    intro k k0 k1
    walk_at "gos"
    refine i_iteD (fun hk => ?_) (fun hk => ?_)
    · walk_at "gos"
      intro k k0 k1
      walk_at "gos"
      refine i_ixM k0 k1 ?_
      intro x hx
      walk_at "gos"
      have hv : ∃ y : Str, x = .str y ∧ strGd y = true ∧ y.length ≤ 10 := by
        simp only [List.mem_cons, List.not_mem_nil, or_false] at hx
        rcases hx with rfl | rfl | rfl <;> exact ⟨_, rfl, by decide +kernel, by decide +kernel⟩
      obtain ⟨y, rfl, hy, hy'⟩ := hv
      exact q _ ⟨.of y, rfl, Nat.zero_le _, ⟨hy, hy'⟩, trivial⟩
    · walk_at "gos"
      refine i_call () rfl rfl rfl rfl trivial ?_
      rintro d1 ⟨v1, b1⟩
      walk_at "gos"
      refine i_call () rfl rfl rfl rfl trivial ?_
      rintro d2 ⟨v2, b2⟩
      walk_at "gos"
      intro k k0 k1
      walk_at "gos"
      refine i_ixM (by omega) (by show k / 2 < 4; omega) ?_
      intro x hx
      walk_at "gos"
      refine q _ ?_
      simp only [List.mem_cons, List.not_mem_nil, or_false] at hx
      rcases hx with rfl | rfl | rfl | rfl
      · exact ⟨.is d1, rfl, Nat.zero_le _, v1, b1⟩
      · exact ⟨.is d2, rfl, Nat.zero_le _, v2, b2⟩
      · exact ⟨.self, rfl, Nat.zero_le _, trivial, trivial⟩
      · exact ⟨.of "nobody", rfl, Nat.zero_le _, ⟨by decide +kernel, by decide +kernel⟩, trivial⟩
  walk_at "gos"
  refine i_iteD (fun hm => ?_) (fun hm => ?_)
  · walk_at "gos"
    intro k k0 k1
    walk_at "gos"
    refine i_iteD (fun hk => ?_) (fun hk => ?_)
    · walk_at "gos"
      intro k k0 k1
      walk_at "gos"
      refine i_ixM k0 k1 ?_
      intro x hx
      have ho : ∃ o : Op, x = .str o.w := by
        simp only [List.mem_cons, List.not_mem_nil, or_false] at hx
        rcases hx with rfl | rfl | rfl | rfl
        · exact ⟨.plus, rfl⟩
        · exact ⟨.minus, rfl⟩
        · exact ⟨.less, rfl⟩
        · exact ⟨.same, rfl⟩
      obtain ⟨o, rfl⟩ := ho
      have hz : (z : Int) - 1 = ((z - 1 : Nat) : Int) := by omega
      have hl : z - 1 < m := by omega
      walk_at "gos"
      rw [hz]
      refine i_call (z - 1) rfl rfl rfl rfl hl ?_
      rintro d1 ⟨s1, rfl, e1, v1, b1⟩
      walk_at "gos"
      rw [hz]
      refine i_call (z - 1) rfl rfl rfl rfl hl ?_
      rintro d2 ⟨s2, rfl, e2, v2, b2⟩
      walk_at "gos"
      exact q _ ⟨.dbl o s1 s2, rfl, by simp only [Sm.deep]; omega, ⟨v1, v2⟩, b1, b2⟩
    · exact i_nx tail
  · exact i_iteF (i_nx tail)

theorem ok__law_sum {P : Program} {w : World} {K : PySem.W.Frag} {mg : Str → Option Value} {base : Heap} {a : Ad} (T : Tx K mg a) : ∀ m : Nat, FnG P w K mg base (3 + m + 1) a.f__law_sum a.d__law_sum ["_law_feed_here", "_law_names_in", "_law_deep"] (sp_sum m)
  | 0 => step_sum T 0 (fng_never fun as Q ⟨z, _, hp, _⟩ => absurd hp (Nat.not_lt_zero _))
  | m + 1 => step_sum T (m + 1) ((ok__law_sum T m).imp (spX_mono _ _ _) fun as Q ⟨z, e, hp, q⟩ => ⟨z, e, by omega, q⟩)
open PySem L2 Dx
theorem B__law_worth_3 {K : PySem.W.Frag} {mg : Str → Option Value} {a : Ad} (T : Tx K mg a) : BindP K a.d__law_worth ["_law_amount", "_law_known", "_law_home"] 3 [] [] (List.range 3) := T.f__law_worth.bp 3 rfl (fun kV doc pm an cdv ct us hl => by match us, hl with | [x0, x1, x2], _ => rfl)
theorem ok__law_counted {P : Program} {w : World} {K : PySem.W.Frag} {mg : Str → Option Value} {base : Heap} {a : Ad} (T : Tx K mg a) : FnG P w K mg base (0 + 1) a.f__law_counted a.d__law_counted ["_law_value_here"] sp_counted := by
  refine T.f__law_counted.ok (n := 1) sc__law_counted (spX_mono _ _ _) ?_
  intro cdv A outer s H E hr hgd
  have sc := sc__law_counted
  have hu := hr.units
  have h1 := hu_of hr
  have hv : (A.deeper (PyProof.Rows.envOfC "_law_counted" (defScope s__law_counted) s.heap.objs.size a.f__law_counted cdv)).units + 150 < cLine := by have := hr.un; omega
  let N : List Str := ["_law_value_here"]
  let st : Stmt := s__law_counted
  refine ⟨_, (dss_one (ds_ret (de_if (db_val (de_isi kit_int rfl T.b_isinstance rfl T.b_int (by decide +kernel) (de_var 0))) (de_var 0) de_int))), ?_⟩
  rintro as Q hl ⟨z, rfl, hp, q⟩
  walk_at "st"
  walk_at "gos"
  have q' := q _ rfl
  refine i_ite (fun h => ?_) (fun h => ?_)
  · walk_at "gos"
    rw [← cntD_int' hp h] at q'
    exact q'
  · walk_at "gos"
    rw [cntD_no' hp h] at q'
    exact q'

theorem ok__law_worth {P : Program} {w : World} {K : PySem.W.Frag} {mg : Str → Option Value} {base : Heap} {a : Ad} (T : Tx K mg a) : FnG P w K mg base (3 + 1) a.f__law_worth a.d__law_worth ["_law_amount", "_law_known", "_law_home"] sp_lw := by
  have G__law_counted := (ok__law_counted (P := P) (w := w) (base := base) T).up (k := 3) (by decide)
  have B__law_counted_1 := B__law_counted_1 (K := K) (mg := mg) T
  have V__law_counted_1 : RpAll K (fun _ => none) [] [] := .nil
  refine T.f__law_worth.ok (n := 3) sc__law_worth (spX_mono _ _ _) ?_
  intro cdv A outer s H E hr hgd
  have sc := sc__law_worth
  have hu := hr.units
  have h1 := hu_of hr
  have hv : (A.deeper (PyProof.Rows.envOfC "_law_worth" (defScope s__law_worth) s.heap.objs.size a.f__law_worth cdv)).units + 150 < cLine := by have := hr.un; omega
  let N : List Str := ["_law_amount", "_law_known", "_law_home", "_law_order", "_law_values_in", "_law_pile", "_law_one", "_law_second", "_law_first", "_law_low", "_law_high", "_law_wanted"]
  let st : Stmt := s__law_worth
  refine ⟨_, (dss_cons (ds_par3 (i := 3) (j := 4) (m := 5) rfl sc.nd rfl rfl rfl (by decide) (by decide) (by decide) rfl rfl rfl (da_cons (dl_N (dl_lst da_nil)) (da_cons (dl_N (dl_lst da_nil)) (da_cons (dl_N (dl_lst (da_cons (de_var 0) da_nil))) da_nil))) rfl)
  (dss_cons (ds_while PassesOwn.never (db_ne hu (de_var 5) (dl_F (dl_lst da_nil))) (dss_cons (ds_set (i := 6) sc.nd rfl (Or.inl rfl) (de_pop 5))
  (dss_cons (ds_expr (de_app 3 (de_var 6)))
  (dss_one (ds_if (db_in (de_ix (de_var 6) de_int) (de_tup (da_cons de_str (da_cons de_str (da_cons de_str (da_cons de_str da_nil)))))) (dss_one (ds_expr (de_ext 5 (dl_F (dl_lst (da_cons (de_ix (de_var 6) de_int) (da_cons (de_ix (de_var 6) de_int) da_nil))))))) dss_nil)))))
  (dss_cons (ds_for (ws := [6]) PassesOwn.never rfl (di_seq (dl_F (dl_rev (de_var 3)))) (dg_name (i := 6) sc.nd rfl (Or.inl rfl)) (dss_one (ds_if (db_eq hu (de_ix (de_var 6) de_int) de_str) (dss_one (ds_expr (de_app 4 (de_ix (de_var 6) de_int)))) (dss_one (ds_if (db_eq hu (de_ix (de_var 6) de_int) de_str) (dss_one (ds_expr (de_app 4 (de_dget2 1 h1 (de_ix (de_var 6) de_int) de_int ⟨rfl, rfl, rfl, rfl⟩)))) (dss_one (ds_if (db_eq hu (de_ix (de_var 6) de_int) de_str) (dss_one (ds_expr (de_app 4 (de_var 2)))) (dss_cons (ds_set (i := 7) sc.nd rfl (Or.inl rfl) (de_pop 4))
  (dss_cons (ds_set (i := 8) sc.nd rfl (Or.inl rfl) (de_pop 4))
  (dss_cons (ds_par (i := 9) (j := 10) rfl sc.nd rfl rfl (by decide) rfl rfl (da_cons (de_fn (G__law_counted) (hr.mono (by first | decide | omega)) hgd rfl T.f__law_counted.mg T.f__law_counted.kp B__law_counted_1 V__law_counted_1 (da_cons (de_var 8) da_nil)) (da_cons (de_fn (G__law_counted) (hr.mono (by first | decide | omega)) hgd rfl T.f__law_counted.mg T.f__law_counted.kp B__law_counted_1 V__law_counted_1 (da_cons (de_var 7) da_nil)) da_nil)) rfl)
  (dss_cons (ds_set (i := 11) sc.nd rfl (Or.inl rfl) (de_disp (dp_cons (de_add (de_var 9) (de_var 10)) (dp_cons (de_sub (de_var 9) (de_var 10)) (dp_cons (de_callT call_int1 lk_toInt rfl T.b_int (by decide +kernel) (da_cons (de_lt (de_var 9) (de_var 10)) da_nil)) dp_nil)))))
  (dss_one (ds_expr (de_app 4 (de_if (db_eq hu (de_ix (de_var 6) de_int) de_str) (de_callT call_int1 lk_toInt rfl T.b_int (by decide +kernel) (da_cons (de_eq hu (de_var 8) (de_var 7)) da_nil)) (de_dix 11 h1 (de_ix (de_var 6) de_int)))))))))))))))))
  (dss_one (ds_ret (de_ix (de_var 4) de_int)))))), ?_⟩
  rintro as Q hl ⟨z, rfl, hp, q⟩
  obtain ⟨s0, kvs, home⟩ := z
  obtain ⟨hd, hx, hk, hh⟩ := hp
  have hd : s0.size ≤ 1000 := hd
  have q' := q _ rfl
  clear q
  have hsz : ∀ {n : Nat}, n ≤ 1000 → n < sizeLine := fun h => Nat.lt_of_le_of_lt h (by decide +kernel)
  walk_at "st"
  walk_at "gos"
  refine ⟨Ww s0 kvs home, ⟨_, [], [s0], none, rfl, by simp, rfl, fun x m => by simp at m; subst m; exact hx⟩, ?_⟩
  rintro m' env ⟨ord, pile, cur, rfl, ho, rfl, hV⟩
  walk_at "gos"
  refine i_wr (ne_nil (layA_iff.mpr ?_)) ?_
  · intro d hd'
    obtain ⟨x, hx', rfl⟩ := List.mem_map.mp hd'
    exact x.lay (hV x hx')
  walk_at "gos"
  have hol : ord.length + (pile.reverse.flatMap ordOf).length = s0.size := by rw [← ordOf_len, ← ho, List.length_append]
  refine i_ite (fun hn => ?_) (fun hn => ?_)
  · have hne : pile ≠ [] := by rintro rfl; simp at hn
    obtain ⟨p, x, rfl⟩ : ∃ p x, pile = p ++ [x] := ⟨pile.dropLast, pile.getLast hne, (List.dropLast_concat_getLast hne).symm⟩
    clear hn hne
    have hxV := hV x (by simp)
    have ho' : (ord ++ [x]) ++ ((p ++ kids x).reverse.flatMap ordOf) = ordOf s0 := by
      rw [← ho]
      simp only [List.reverse_append, List.reverse_cons, List.reverse_nil, List.nil_append, List.flatMap_append, List.singleton_append, List.flatMap_cons, ordOf_kids x, List.cons_append, List.append_assoc]
    have hlt : ((p ++ kids x).reverse.flatMap ordOf).length < ((p ++ [x]).reverse.flatMap ordOf).length := by
      have a := congrArg List.length ho
      have b := congrArg List.length ho'
      simp only [List.length_append, List.length_cons, List.length_nil] at a b ⊢
      omega
    have hV' : ∀ y ∈ p ++ kids x, y.V := by
      intro y hy
      rcases List.mem_append.mp hy with hy | hy
      · exact hV y (List.mem_append_left _ hy)
      · exact kids_V hxV y hy
    have pl : (p ++ kids x).length ≤ 1000 := by
      have : ∀ l : List Sm, l.length ≤ (l.reverse.flatMap ordOf).length := by
        intro l
        induction l with
        | nil => simp
        | cons a r ih =>
          have := ordOf_len a
          have h1 : 1 ≤ a.size := by cases a <;> simp [Sm.size]
          simp only [List.reverse_cons, List.flatMap_append, List.length_append, List.flatMap_cons, List.flatMap_nil, List.append_nil, List.length_cons]
          omega
      have := this (p ++ kids x)
      omega
    have pe : (p.map Sm.d ++ [x.d]).getLast? = some x.d := by simp
    have pd : (p.map Sm.d ++ [x.d]).dropLast = p.map Sm.d := by simp
    have fin : ∀ cur, Ww s0 kvs home ((p ++ kids x).reverse.flatMap ordOf).length [some (.dat s0.d), some (.obj (.dic kvs)), some (.dat home), some (.obj (.lst (ord.map Sm.d ++ [x.d]))), some (.obj (.lst [])), some (.obj (.lst (p.map Sm.d ++ (kids x).map Sm.d))), cur, none, none, none, none, none] := fun cur =>
      ⟨ord ++ [x], p ++ kids x, cur, by simp, ho', rfl, hV'⟩
    have ol : (ord.map Sm.d).length < sizeLine := by rw [List.length_map]; exact hsz (by omega)
    simp only [List.map_append, List.map_cons, List.map_nil]
    clear ho hV
    walk_at "gos"
    refine i_wr pe ?_
    rw [pd]
    walk_at "gos"
    refine i_sz ol ?_
    cases x with
    | is v =>
      simp only [Sm.d] at fin ⊢
      walk_at "gos"
      refine i_in (ws := W4) (b := false) (by decide +kernel) ?_
      walk_at "gos"
      refine ⟨_, hlt, ?_⟩
      simpa [kids] using fin _
    | of v =>
      simp only [Sm.d] at fin ⊢
      walk_at "gos"
      refine i_in (ws := W4) (b := false) (by decide +kernel) ?_
      walk_at "gos"
      refine ⟨_, hlt, ?_⟩
      simpa [kids] using fin _
    | self =>
      simp only [Sm.d] at fin ⊢
      walk_at "gos"
      refine i_in (ws := W4) (b := false) (by decide +kernel) ?_
      walk_at "gos"
      refine ⟨_, hlt, ?_⟩
      simpa [kids] using fin _
    | dbl o x y =>
      simp only [Sm.d] at fin ⊢
      walk_at "gos"
      refine i_in (ws := W4) (b := true) (by cases o <;> decide +kernel) ?_
      walk_at "gos"
      refine i_sz' (by simp only [List.length_map, List.length_cons, List.length_nil] at pl ⊢; simp only [kids, List.length_append, List.length_cons, List.length_nil] at pl; exact Nat.le_of_lt (hsz pl)) ?_
      walk_at "gos"
      exact ⟨_, hlt, fin _⟩
  · have hne : pile = [] := by
      cases pile with
      | nil => rfl
      | cons _ _ => simp at hn
    subst hne
    simp only [List.reverse_nil, List.flatMap_nil, List.append_nil] at ho
    subst ho
    walk_at "gos"
    refine for_ind (Inv := Wf s0 kvs home) ?_ ?_ _ _ ⟨(ordOf s0).reverse, [], _, _, _, _, _, _, _, _, by rw [List.map_reverse], rfl, ?_, ?_, ?_, ?_⟩
    · rintro env ⟨xs, st, c3, c5, c6, c7, c8, c9, c10, c11, e, rfl, hr0, hl0, hV0, hst⟩
      cases xs with
      | cons _ _ => cases e
      | nil =>
        simp only [Rn, Option.some.injEq] at hr0
        subst hr0
        walk_at "gos"
        exact q'
    · rintro d ds env ⟨xs, st, c3, c5, c6, c7, c8, c9, c10, c11, e, rfl, hr0, hl0, hV0, hst⟩ IH
      cases xs with
      | nil => cases e
      | cons x xs =>
      simp only [List.map_cons, List.cons.injEq] at e
      obtain ⟨rfl, rfl⟩ := e
      have hxV := hV0 x (List.mem_cons_self ..)
      have hV' : ∀ y ∈ xs, y.V := fun y hy => hV0 y (List.mem_cons_of_mem _ hy)
      simp only [List.length_cons] at hl0
      have sl : st.reverse.length < sizeLine := by rw [List.length_reverse]; exact hsz (by omega)
      cases x with
      | is v =>
        simp only [Rn, val] at hr0
        simp only [Sm.d]
        walk_at "gos"
        refine i_sz sl ?_
        walk_at "gos"
        exact IH _ ⟨xs, v :: st, _, _, _, _, _, _, _, _, rfl, by rw [List.reverse_cons], hr0, by simp only [List.length_cons]; omega, hV', fun u hu => (List.mem_cons.mp hu).elim (fun z => z ▸ hxV) (hst u)⟩
      | of v =>
        have vv : IsV ((getS kvs v).getD (.int 0)) := val_V hk hh (.of v) hxV
        simp only [Rn, val] at hr0
        simp only [Sm.d]
        walk_at "gos"
        refine i_sz sl ?_
        walk_at "gos"
        exact IH _ ⟨xs, (getS kvs v).getD (.int 0) :: st, _, _, _, _, _, _, _, _, rfl, by rw [List.reverse_cons], hr0, by simp only [List.length_cons]; omega, hV', fun u hu => (List.mem_cons.mp hu).elim (fun z => z ▸ vv) (hst u)⟩
      | self =>
        simp only [Rn, val] at hr0
        simp only [Sm.d]
        walk_at "gos"
        refine i_sz sl ?_
        walk_at "gos"
        exact IH _ ⟨xs, home :: st, _, _, _, _, _, _, _, _, rfl, by rw [List.reverse_cons], hr0, by simp only [List.length_cons]; omega, hV', fun u hu => (List.mem_cons.mp hu).elim (fun z => z ▸ hh) (hst u)⟩
      | dbl o xa xb =>
      match st, hr0, hl0, hst with
      | [], hr0, _, _ => simp [Rn] at hr0
      | [_], hr0, _, _ => simp [Rn] at hr0
      | y :: x :: st, hr0, hl0, hst =>
      simp only [Rn] at hr0
      simp only [List.length_cons] at hl0
      have vy := hst y (by simp)
      have vx := hst x (by simp)
      have hst : ∀ v ∈ st, IsV v := fun v hv => hst v (by simp [hv])
      clear sl
      cases o
      · simp only [Sm.d, Op.w]
        walk_at "gos"
        refine i_wr (y := y) (by rw [List.getLast?_reverse]; rfl) ?_
        walk_at "gos"
        refine i_wr (y := x) (by rw [List.dropLast_reverse, List.getLast?_reverse]; rfl) ?_
        walk_at "gos"
        refine i_call x rfl rfl rfl rfl vx ?_
        rintro d rfl
        walk_at "gos"
        refine i_call y rfl rfl rfl rfl vy ?_
        rintro d rfl
        walk_at "gos"
        refine i_wr (g3a _ _ _) ?_
        walk_at "gos"
        refine i_sz (by rw [List.dropLast_reverse, List.dropLast_reverse, List.length_reverse]; simp only [List.tail_cons]; exact hsz (by omega)) ?_
        walk_at "gos"
        rw [List.dropLast_reverse, List.dropLast_reverse]
        simp only [List.tail_cons]
        exact IH _ ⟨xs, dblD .plus x y :: st, _, _, _, _, _, _, _, _, rfl, by rw [List.reverse_cons]; rfl, hr0, by simp only [List.length_cons]; omega, hV', fun v hv => (List.mem_cons.mp hv).elim (fun z => z ▸ dblD_V) (hst v)⟩
      · simp only [Sm.d, Op.w]
        walk_at "gos"
        refine i_wr (y := y) (by rw [List.getLast?_reverse]; rfl) ?_
        walk_at "gos"
        refine i_wr (y := x) (by rw [List.dropLast_reverse, List.getLast?_reverse]; rfl) ?_
        walk_at "gos"
        refine i_call x rfl rfl rfl rfl vx ?_
        rintro d rfl
        walk_at "gos"
        refine i_call y rfl rfl rfl rfl vy ?_
        rintro d rfl
        walk_at "gos"
        refine i_wr (g3b _ _ _) ?_
        walk_at "gos"
        refine i_sz (by rw [List.dropLast_reverse, List.dropLast_reverse, List.length_reverse]; simp only [List.tail_cons]; exact hsz (by omega)) ?_
        walk_at "gos"
        rw [List.dropLast_reverse, List.dropLast_reverse]
        simp only [List.tail_cons]
        exact IH _ ⟨xs, dblD .minus x y :: st, _, _, _, _, _, _, _, _, rfl, by rw [List.reverse_cons]; rfl, hr0, by simp only [List.length_cons]; omega, hV', fun v hv => (List.mem_cons.mp hv).elim (fun z => z ▸ dblD_V) (hst v)⟩
      · simp only [Sm.d, Op.w]
        walk_at "gos"
        refine i_wr (y := y) (by rw [List.getLast?_reverse]; rfl) ?_
        walk_at "gos"
        refine i_wr (y := x) (by rw [List.dropLast_reverse, List.getLast?_reverse]; rfl) ?_
        walk_at "gos"
        refine i_call x rfl rfl rfl rfl vx ?_
        rintro d rfl
        walk_at "gos"
        refine i_call y rfl rfl rfl rfl vy ?_
        rintro d rfl
        walk_at "gos"
        refine i_wr (g3c _ _ _) ?_
        walk_at "gos"
        refine i_sz (by rw [List.dropLast_reverse, List.dropLast_reverse, List.length_reverse]; simp only [List.tail_cons]; exact hsz (by omega)) ?_
        walk_at "gos"
        rw [List.dropLast_reverse, List.dropLast_reverse]
        simp only [List.tail_cons]
        exact IH _ ⟨xs, dblD .less x y :: st, _, _, _, _, _, _, _, _, rfl, by rw [List.reverse_cons]; rfl, hr0, by simp only [List.length_cons]; omega, hV', fun v hv => (List.mem_cons.mp hv).elim (fun z => z ▸ dblD_V) (hst v)⟩
      · simp only [Sm.d, Op.w]
        walk_at "gos"
        refine i_wr (y := y) (by rw [List.getLast?_reverse]; rfl) ?_
        walk_at "gos"
        refine i_wr (y := x) (by rw [List.dropLast_reverse, List.getLast?_reverse]; rfl) ?_
        walk_at "gos"
        refine i_call x rfl rfl rfl rfl vx ?_
        rintro d rfl
        walk_at "gos"
        refine i_call y rfl rfl rfl rfl vy ?_
        rintro d rfl
        walk_at "gos"
        refine i_wr (eqV vx vy) ?_
        walk_at "gos"
        refine i_sz (by rw [List.dropLast_reverse, List.dropLast_reverse, List.length_reverse]; simp only [List.tail_cons]; exact hsz (by omega)) ?_
        walk_at "gos"
        rw [List.dropLast_reverse, List.dropLast_reverse]
        simp only [List.tail_cons]
        exact IH _ ⟨xs, dblD .same x y :: st, _, _, _, _, _, _, _, _, rfl, by rw [List.reverse_cons]; rfl, hr0, by simp only [List.length_cons]; omega, hV', fun v hv => (List.mem_cons.mp hv).elim (fun z => z ▸ dblD_V) (hst v)⟩
    · rw [show (ordOf s0).reverse = (ordOf s0).reverse ++ [] by simp, Rn_ord]; rfl
    · simp only [List.length_nil, List.length_reverse, ordOf_len]; omega
    · intro x hx'; exact ordOf_V s0 hx x (List.mem_reverse.mp hx')
    · intro v hv; cases hv

open PySem L2 Dx
open PyProof.Rows (sortedS)
theorem B__law_bindings_1 {K : PySem.W.Frag} {mg : Str → Option Value} {a : Ad} (T : Tx K mg a) : BindP K a.d__law_bindings ["_law_feed_here"] 1 [] [] (List.range 1) := T.f__law_bindings.bp 1 rfl (fun kV doc pm an cdv ct us hl => by match us, hl with | [x0], _ => rfl)
theorem B__law_bound_right_2 {K : PySem.W.Frag} {mg : Str → Option Value} {a : Ad} (T : Tx K mg a) : BindP K a.d__law_bound_right ["_law_feed_here", "_law_given"] 2 [] [] (List.range 2) := T.f__law_bound_right.bp 2 rfl (fun kV doc pm an cdv ct us hl => by match us, hl with | [x0, x1], _ => rfl)
theorem KN_ok : ∀ x ∈ KN, strGd x = true ∧ x.length ≤ 10 := by decide +kernel
theorem B_bound_kw {K : PySem.W.Frag} {mg : Str → Option Value} {a : Ad} (T : Tx K mg a) : BindP K a.d_bound ["bindings", "names", "values"] 1 ["names", "values"] [] [0, 1, 2] :=
  T.f_bound.bk [0, 1, 2] (fun kV doc pm an cdv ct us ws l1 l2 => by match us, ws, l1, l2 with | [x], [y, z], _, _ => rfl)
theorem ok__law_bindings {P : Program} {w : World} {K : PySem.W.Frag} {mg : Str → Option Value} {base : Heap} {a : Ad} (T : Tx K mg a) : FnG P w K mg base (2 + 1) a.f__law_bindings a.d__law_bindings ["_law_feed_here"] sp_bindings := by
  have G__law_draw := (draw_spX (draw_hid (ok_draw (P := P) (w := w) (base := base) T))).up (k := 2) (by decide)
  have G__law_value := (ok__law_value (P := P) (w := w) (base := base) T).up (k := 2) (by decide)
  have B__law_draw_2 := B__law_draw_2 (K := K) (mg := mg) T
  have V__law_draw_2 : RpAll K (fun _ => none) [] [] := .nil
  have B__law_value_1 := B__law_value_1 (K := K) (mg := mg) T
  have V__law_value_1 : RpAll K (fun _ => none) [] [] := .nil
  refine T.f__law_bindings.ok (n := 1) sc__law_bindings (spX_mono _ _ _) ?_
  intro cdv A outer s H E hr hgd
  have sc := sc__law_bindings
  have hu := hr.units
  have h1 := hu_of hr
  have hv : (A.deeper (PyProof.Rows.envOfC "_law_bindings" (defScope s__law_bindings) s.heap.objs.size a.f__law_bindings cdv)).units + 150 < cLine := by have := hr.un; omega
  let N : List Str := ["_law_feed_here", "_law_some", "_law_name"]
  let st : Stmt := s__law_bindings
  refine ⟨_, (dss_cons (ds_lcF (i := 1) [("_law_name", 2)] rfl sc.nd rfl rfl (sw_true rfl rfl rfl (by decide +kernel)) (di_seq (dl_F (dl_lst (da_cons de_str (da_cons de_str (da_cons de_str (da_cons de_str da_nil))))))) (blkOk_by (own := [("_law_name", 2)]) (N := N) (sc := defScope st) (by decide +kernel)) (fun _ _ _ _ _ => (dg_name (i := 2) sc.nd rfl (Or.inl rfl))) (fun _ _ _ _ _ => (dts_one (db_eq hu (de_fn (G__law_draw) (hr.mono (by first | decide | omega)) hgd rfl T.f__law_draw.mg T.f__law_draw.kp B__law_draw_2 V__law_draw_2 (da_cons (de_var 0) (da_cons de_int da_nil))) de_int))) (fun _ _ _ _ _ => (de_var 2)))
  (dss_one (ds_ret (de_callT call_toTup lk_toTup rfl T.b_tuple (by decide +kernel) (da_cons (dl_F (dl_lc 1 [("_law_name", 2)] rfl sc.nd (di_seq (de_var 1)) (blkOk_by (own := [("_law_name", 2)]) (N := N) (sc := defScope st) (by decide +kernel)) (fun _ _ _ _ _ => (dg_name (i := 2) sc.nd rfl (Or.inl rfl))) (fun _ _ _ _ _ => dts_nil) (fun _ _ _ _ _ => (de_tup (da_cons (de_var 2) (da_cons (de_fn (G__law_value) (hr.mono (by first | decide | omega)) hgd rfl T.f__law_value.mg T.f__law_value.kp B__law_value_1 V__law_value_1 (da_cons (de_var 0) da_nil)) da_nil)))))) da_nil))))), ?_⟩
  rintro as Q hl ⟨z, rfl, hp, q⟩
  walk_at "st"
  walk_at "gos"
  refine comp_ind (Inv := fun ds acc env => env = [some feed, none, none] ∧ ∃ (rest names : List Str), ds = rest.map PyData.str ∧ acc = names.map PyData.str ∧ (names ++ rest).Sublist KN) ?_ ?_ _ _ _ ⟨rfl, KN, [], rfl, rfl, List.Sublist.refl _⟩
  · rintro acc env ⟨rfl, rest, names, e, rfl, hs⟩
    cases rest with
    | cons _ _ => cases e
    | nil =>
    rw [List.append_nil] at hs
    walk_at "gos"
    have hl := hs.length_le
    refine i_lenOk (by rw [List.length_map]; exact Nat.le_trans hl (by decide +kernel)) ?_
    refine comp_ind (Inv := fun ds acc env => env = [some feed, some (.dat (.list (names.map PyData.str))), none] ∧ ∃ (rest : List Str) (bs : List (Str × Dt)), ds = rest.map PyData.str ∧ acc = bs.map (fun kv => .tuple [.str kv.1, kv.2]) ∧ bs.map (·.1) ++ rest = names ∧ DV bs) ?_ ?_ _ _ _ ⟨rfl, names, [], rfl, rfl, rfl, fun kv h => by cases h⟩
    · rintro acc env ⟨rfl, rest, bs, e, rfl, hn, hd⟩
      cases rest with
      | cons _ _ => cases e
      | nil =>
      walk_at "gos"
      refine q _ ⟨bs, rfl, hd, ?_⟩
      rw [List.append_nil] at hn
      rw [hn]
      exact hs
    · rintro d ds acc env ⟨rfl, rest, bs, e, rfl, hn, hd⟩ IH
      cases rest with
      | nil => cases e
      | cons x rest =>
      simp only [List.map_cons, List.cons.injEq] at e
      obtain ⟨rfl, rfl⟩ := e
      walk_at "gos"
      refine i_call () rfl rfl rfl rfl trivial ?_
      rintro d ⟨v1, b1⟩
      walk_at "gos"
      have hx := KN_ok x (hs.subset (by rw [← hn]; simp))
      refine IH _ _ ⟨rfl, rest, bs ++ [(x, d)], rfl, by simp, by simpa using hn, fun kv h => ?_⟩
      rcases List.mem_append.mp h with h | h
      · exact hd kv h
      · rw [List.mem_singleton] at h
        subst h
        exact ⟨hx.1, hx.2, v1, b1⟩
  · rintro d ds acc env ⟨rfl, rest, names, e, rfl, hs⟩ IH
    cases rest with
    | nil => cases e
    | cons x rest =>
    simp only [List.map_cons, List.cons.injEq] at e
    obtain ⟨rfl, rfl⟩ := e
    walk_at "gos"
    intro k k0 k1
    walk_at "gos"
    refine i_iteD (fun hk => ?_) (fun hk => ?_)
    · walk_at "gos"
      exact IH _ _ ⟨rfl, rest, names ++ [x], rfl, by simp, by simpa using hs⟩
    · exact IH _ _ ⟨rfl, rest, names, rfl, rfl, (List.Sublist.append_left (List.sublist_cons_self x rest) names).trans hs⟩

theorem ok_bound {P : Program} {w : World} {K : PySem.W.Frag} {mg : Str → Option Value} {base : Heap} {a : Ad} (T : Tx K mg a) : FnG P w K mg base (0 + 1) a.f_bound a.d_bound ["bindings", "names", "values"] sp_bound := by
  refine T.f_bound.ok (n := 3) sc_bound (spX_mono _ _ _) ?_
  intro cdv A outer s H E hr hgd
  have sc := sc_bound
  have hu := hr.units
  have h1 := hu_of hr
  have hv : (A.deeper (PyProof.Rows.envOfC "bound" (defScope s_bound) s.heap.objs.size a.f_bound cdv)).units + 150 < cLine := by have := hr.un; omega
  let N : List Str := ["bindings", "names", "values", "found", "name", "value"]
  let st : Stmt := s_bound
  refine ⟨_, (dss_cons (ds_set (i := 3) sc.nd rfl (Or.inr rfl) (de_dict rfl rfl T.b_dict (da_cons (de_var 0) da_nil)))
  (dss_cons (ds_for (ws := [4, 5]) PassesOwn.never rfl (di_zip rfl T.b_zip (da_cons (de_var 1) (da_cons (de_var 2) da_nil))) (dg_tupP rfl (dgs_cons (dg_name (i := 4) sc.nd rfl (Or.inl rfl)) (dgs_cons (dg_name (i := 5) sc.nd rfl (Or.inl rfl)) dgs_nil))) (dss_one (ds_dput 3 h1 (de_var 4) (de_var 5))))
  (dss_one (ds_ret (de_callT call_toTup lk_toTup rfl T.b_tuple (by decide +kernel) (da_cons (dl_F (dl_lc 3 [("name", 4)] rfl sc.nd (di_seq (dl_F (dl_sortD 3 rfl rfl T.b_sorted))) (blkOk_by (own := [("name", 4)]) (N := N) (sc := defScope st) (by decide +kernel)) (fun _ _ _ _ _ => (dg_name (i := 4) sc.nd rfl (Or.inl rfl))) (fun _ _ _ _ _ => dts_nil) (fun _ _ _ _ _ => (de_tup (da_cons (de_var 4) (da_cons (de_dix 3 h1 (de_var 4)) da_nil)))))) da_nil)))))), ?_⟩
  rintro as Q hl ⟨z, rfl, hp, q⟩
  obtain ⟨bs, ns, vs⟩ := z
  obtain ⟨hl1, hl2⟩ := hp
  have hl1 : bs.length + ns.length < 60 := hl1
  have hl2 : ns.length = vs.length := hl2
  walk_at "st"
  walk_at "gos"
  refine i_wr (dicOf_bs bs) ?_
  walk_at "gos"
  have m0 := merge_len (kvs := []) (more := bs)
  simp only [List.length_nil] at m0
  refine for_ind (Inv := fun ds env => ∃ (ns' : List Str) (vs' : List Dt) (D : List (Str × Dt)) (c4 c5 : Option Dv), ds = zipD (ns'.map PyData.str) vs' ∧ env = [some (.dat (bsD bs)), some (.dat (.tuple (ns.map PyData.str))), some (.dat (.tuple vs)), some (.obj (.dic D)), c4, c5] ∧ ns'.length = vs'.length ∧ mergeS D (ns'.zip vs') = mergeS (mergeS [] bs) (ns.zip vs) ∧ D.length + ns'.length < 60) ?_ ?_ _ _ ⟨ns, vs, _, _, _, rfl, rfl, hl2, rfl, by omega⟩
  case refine_2 =>
    rintro d ds env ⟨ns', vs', D, c4, c5, e, rfl, hl3, hm, hl4⟩ IH
    match ns', vs', hl3, e, hm, hl4 with
    | [], [], _, e, _, _ => cases e
    | x :: ns', v :: vs', hl3, e, hm, hl4 =>
    simp only [zipD, List.map_cons, List.zipWith_cons_cons, List.cons.injEq] at e
    obtain ⟨rfl, rfl⟩ := e
    walk_at "gos"
    refine i_sz (Nat.lt_of_le_of_lt (show D.length ≤ 60 by omega) (by decide +kernel)) ?_
    walk_at "gos"
    have pl := put_len (kvs := D) (k := x) (d := v)
    simp only [List.length_cons] at hl3 hl4
    exact IH _ ⟨ns', vs', putS D x v, _, _, rfl, rfl, by omega, hm, by omega⟩
  rintro env ⟨ns', vs', D, c4, c5, e, rfl, hl3, hm, hl4⟩
  match ns', vs', hl3, e, hm, hl4 with
  | x :: ns', v :: vs', _, e, _, _ => cases e
  | [], [], _, _, hm, hl4 =>
    have hm : D = mergeS (mergeS [] bs) (ns.zip vs) := hm
    simp only [List.length_nil] at hl4
    walk_at "gos"
    refine ⟨by omega, fun ys p so => ?_⟩
    have yl : ys.length ≤ 64 := by have := p.length_eq; rw [List.length_map] at this; omega
    walk_at "gos"
    refine i_lenOk (by rw [List.length_map]; exact Nat.le_trans yl (by decide +kernel)) ?_
    refine comp_ind (Inv := fun ds acc env => env = [some (.dat (bsD bs)), some (.dat (.tuple (ns.map PyData.str))), some (.dat (.tuple vs)), some (.obj (.dic D)), none, c5] ∧ ∃ (don rest : List Str), ds = rest.map PyData.str ∧ acc = (told D don).map (fun kv => .tuple [.str kv.1, kv.2]) ∧ don ++ rest = ys) ?_ ?_ _ _ _ ⟨rfl, [], ys, rfl, rfl, rfl⟩
    case refine_2 =>
      rintro d ds acc env ⟨rfl, don, rest, e, rfl, hy⟩ IH
      cases rest with
      | nil => cases e
      | cons x rest =>
      simp only [List.map_cons, List.cons.injEq] at e
      obtain ⟨rfl, rfl⟩ := e
      obtain ⟨d, ed, _⟩ := getS_some (p.mem_iff.mp (by rw [← hy]; simp : x ∈ ys))
      walk_at "gos"
      refine i_wr ed ?_
      walk_at "gos"
      exact IH _ _ ⟨rfl, don ++ [x], rest, rfl, by simp [told, ed], by simpa using hy⟩
    rintro acc env ⟨rfl, don, rest, e, rfl, hy⟩
    cases rest with
    | cons _ _ => cases e
    | nil =>
    rw [List.append_nil] at hy
    subst hy
    walk_at "gos"
    subst hm
    exact q _ ⟨don, p, so, rfl⟩

theorem ok__law_bound_right {P : Program} {w : World} {K : PySem.W.Frag} {mg : Str → Option Value} {base : Heap} {a : Ad} (T : Tx K mg a) : FnG P w K mg base (2 + 1) a.f__law_bound_right a.d__law_bound_right ["_law_feed_here", "_law_given"] sp_right := by
  have G__law_draw := (draw_spX (draw_hid (ok_draw (P := P) (w := w) (base := base) T))).up (k := 2) (by decide)
  have G__law_value := (ok__law_value (P := P) (w := w) (base := base) T).up (k := 2) (by decide)
  have G_bound := (ok_bound (P := P) (w := w) (base := base) T).up (k := 2) (by decide)
  have B__law_draw_2 := B__law_draw_2 (K := K) (mg := mg) T
  have V__law_draw_2 : RpAll K (fun _ => none) [] [] := .nil
  have B__law_value_1 := B__law_value_1 (K := K) (mg := mg) T
  have V__law_value_1 : RpAll K (fun _ => none) [] [] := .nil
  have B_bound_1_names_values := B_bound_kw (K := K) (mg := mg) T
  have V_bound_1_names_values : RpAll K (fun _ => none) [] [] := .nil
  refine T.f__law_bound_right.ok (n := 2) sc__law_bound_right (spX_mono _ _ _) ?_
  intro cdv A outer s H E hr hgd
  have sc := sc__law_bound_right
  have hu := hr.units
  have h1 := hu_of hr
  have hv : (A.deeper (PyProof.Rows.envOfC "_law_bound_right" (defScope s__law_bound_right) s.heap.objs.size a.f__law_bound_right cdv)).units + 150 < cLine := by have := hr.un; omega
  let N : List Str := ["_law_feed_here", "_law_given", "_law_some", "_law_names_in", "_law_values_in", "_law_found", "_law_k", "_law_wanted", "_law_told", "_law_name"]
  let st : Stmt := s__law_bound_right
  refine ⟨_, (dss_cons (ds_set (i := 2) sc.nd rfl (Or.inr rfl) (dl_F (dl_lst (da_cons de_str (da_cons de_str (da_cons de_str (da_cons de_str (da_cons de_str (da_cons de_str (da_cons de_str (da_cons de_str (da_cons de_str (da_cons de_str (da_cons de_str (da_cons de_str da_nil)))))))))))))))
  (dss_cons (ds_lcF (i := 3) [("_law_k", 6)] rfl sc.nd rfl rfl (sw_true rfl rfl rfl (by decide +kernel)) (di_range rfl T.b_range (de_fn (G__law_draw) (hr.mono (by first | decide | omega)) hgd rfl T.f__law_draw.mg T.f__law_draw.kp B__law_draw_2 V__law_draw_2 (da_cons (de_var 0) (da_cons de_int da_nil)))) (blkOk_by (own := [("_law_k", 6)]) (N := N) (sc := defScope st) (by decide +kernel)) (fun _ _ _ _ _ => (dg_name (i := 6) sc.nd rfl (Or.inl rfl))) (fun _ _ _ _ _ => dts_nil) (fun _ _ _ _ _ => (de_ix (de_var 2) (de_fn (G__law_draw) (hr.mono (by first | decide | omega)) hgd rfl T.f__law_draw.mg T.f__law_draw.kp B__law_draw_2 V__law_draw_2 (da_cons (de_var 0) (da_cons de_int da_nil))))))
  (dss_cons (ds_parT rfl (pgn_cons (i := 4) sc.nd rfl (Or.inl rfl) (pgn_cons (i := 5) sc.nd rfl (Or.inr rfl) pgn_nil)) (da_cons (dl_F (dl_lc 2 [("_law_name", 9)] rfl sc.nd (di_seq (de_var 3)) (blkOk_by (own := [("_law_name", 9)]) (N := N) (sc := defScope st) (by decide +kernel)) (fun _ _ _ _ _ => (dg_name (i := 9) sc.nd rfl (Or.inl rfl))) (fun _ _ _ _ _ => dts_nil) (fun _ _ _ _ _ => (de_fn (G__law_value) (hr.mono (by first | decide | omega)) hgd rfl T.f__law_value.mg T.f__law_value.kp B__law_value_1 V__law_value_1 (da_cons (de_var 0) da_nil))))) (da_cons (de_dict rfl rfl T.b_dict (da_cons (dl_F (dl_list rfl T.b_list (da_cons (de_var 1) da_nil))) da_nil)) da_nil)))
  (dss_cons (ds_for (ws := [6]) PassesOwn.never rfl (di_range rfl T.b_range (de_callB call_len lk_len rfl T.b_len (by decide +kernel) (da_cons (de_var 3) da_nil))) (dg_name (i := 6) sc.nd rfl (Or.inl rfl)) (dss_one (ds_dput 5 h1 (de_ix (de_var 3) (de_var 6)) (de_ix (de_var 4) (de_var 6)))))
  (dss_cons (ds_set (i := 7) sc.nd rfl (Or.inl rfl) (de_callT call_toTup lk_toTup rfl T.b_tuple (by decide +kernel) (da_cons (dl_F (dl_lc 2 [("_law_name", 9)] rfl sc.nd (di_seq (dl_F (dl_sortD 5 rfl rfl T.b_sorted))) (blkOk_by (own := [("_law_name", 9)]) (N := N) (sc := defScope st) (by decide +kernel)) (fun _ _ _ _ _ => (dg_name (i := 9) sc.nd rfl (Or.inl rfl))) (fun _ _ _ _ _ => dts_nil) (fun _ _ _ _ _ => (de_tup (da_cons (de_var 9) (da_cons (de_dix 5 h1 (de_var 9)) da_nil)))))) da_nil)))
  (dss_cons (ds_set (i := 8) sc.nd rfl (Or.inl rfl) (de_fnK (G_bound) (hr.mono (by first | decide | omega)) hgd rfl T.f_bound.mg T.f_bound.kp B_bound_1_names_values V_bound_1_names_values (da_cons (de_var 1) da_nil) (dk_cons (de_callT call_toTup lk_toTup rfl T.b_tuple (by decide +kernel) (da_cons (de_var 3) da_nil)) (dk_cons (de_callT call_toTup lk_toTup rfl T.b_tuple (by decide +kernel) (da_cons (de_var 4) da_nil)) dk_nil))))
  (dss_one (ds_ret (de_and (de_eq hu (de_callB (call_reprD hgd hv) lk_repr rfl T.b_repr (by decide +kernel) (da_cons (de_var 8) da_nil)) (de_callB (call_reprD hgd hv) lk_repr rfl T.b_repr (by decide +kernel) (da_cons (de_var 7) da_nil))) (de_one (de_eq hu (de_callB (call_reprD hgd hv) lk_repr rfl T.b_repr (by decide +kernel) (da_cons (de_fnK (G_bound) (hr.mono (by first | decide | omega)) hgd rfl T.f_bound.mg T.f_bound.kp B_bound_1_names_values V_bound_1_names_values (da_cons (de_var 1) da_nil) (dk_cons (de_tup da_nil) (dk_cons (de_tup da_nil) dk_nil))) da_nil)) (de_callB (call_reprD hgd hv) lk_repr rfl T.b_repr (by decide +kernel) (da_cons (de_var 1) da_nil))))))))))))), ?_⟩
  rintro as Q hl ⟨z, rfl, hp, q⟩
  have hbl := hp.len
  obtain ⟨hdv, hsub⟩ := hp
  walk_at "st"
  walk_at "gos"
  intro m m0 m1
  walk_at "gos"
  have rl : (rngL 0 m).length ≤ 12 := by rw [rng_len]; omega
  refine i_lenOk (Nat.le_trans rl (by decide +kernel)) ?_
  refine comp_ind (Inv := fun ds acc env => env = [some feed, some (.dat (bsD z)), some (.dat (.list [.str "n", .str "to", .str "who", .str "a", .str "zz", .str "k", .str "m", .str "x", .str "y", .str "kid", .str "kin", .str "q"])), none, none, none, none, none, none, none] ∧ ∃ ns : List Str, acc = ns.map PyData.str ∧ (∀ x ∈ ns, strGd x = true ∧ x.length ≤ 10) ∧ ns.length + ds.length ≤ 12) ?_ ?_ _ _ _ ⟨rfl, [], rfl, (fun x h => by cases h), by simpa using rl⟩
  case refine_2 =>
    rintro d ds acc env ⟨rfl, ns, rfl, hns, hl⟩ IH
    walk_at "gos"
    intro k k0 k1
    walk_at "gos"
    refine i_ixM k0 k1 ?_
    intro x hx
    have hv : ∃ y : Str, x = .str y ∧ strGd y = true ∧ y.length ≤ 10 := by
      simp only [List.mem_cons, List.not_mem_nil, or_false] at hx
      rcases hx with rfl | rfl | rfl | rfl | rfl | rfl | rfl | rfl | rfl | rfl | rfl | rfl <;> exact ⟨_, rfl, by decide +kernel, by decide +kernel⟩
    obtain ⟨y, rfl, hy⟩ := hv
    walk_at "gos"
    simp only [List.length_cons] at hl
    refine IH _ _ ⟨rfl, ns ++ [y], by simp, fun x h => ?_, by simp only [List.length_append, List.length_cons, List.length_nil]; omega⟩
    rcases List.mem_append.mp h with h | h
    · exact hns x h
    · rw [List.mem_singleton] at h
      subst h
      exact hy
  rintro acc env ⟨rfl, ns, rfl, hns, hl⟩
  simp only [List.length_nil] at hl
  have hnl : (ns.map PyData.str).length ≤ 12 := by rw [List.length_map]; omega
  walk_at "gos"
  refine i_lenOk (Nat.le_trans hnl (by decide +kernel)) ?_
  refine comp_ind (Inv := fun ds acc env => env = [some feed, some (.dat (bsD z)), some (.dat (.list [.str "n", .str "to", .str "who", .str "a", .str "zz", .str "k", .str "m", .str "x", .str "y", .str "kid", .str "kin", .str "q"])), some (.dat (.list (ns.map PyData.str))), none, none, none, none, none, none] ∧ (∀ v ∈ acc, IsV v ∧ mag v ≤ 1000000) ∧ acc.length + ds.length = ns.length) ?_ ?_ _ _ _ ⟨rfl, (fun x h => by cases h), by simp⟩
  case refine_2 =>
    rintro d ds acc env ⟨rfl, hvs, hl'⟩ IH
    walk_at "gos"
    refine i_call () rfl rfl rfl rfl trivial ?_
    rintro d hd
    walk_at "gos"
    simp only [List.length_cons] at hl'
    refine IH _ _ ⟨rfl, fun v h => ?_, by simp only [List.length_append, List.length_cons, List.length_nil]; omega⟩
    rcases List.mem_append.mp h with h | h
    · exact hvs v h
    · rw [List.mem_singleton] at h
      subst h
      exact hd
  rintro vs env ⟨rfl, hvs, hl'⟩
  simp only [List.length_nil, Nat.add_zero] at hl'
  walk_at "gos"
  refine i_wr (show seqD (bsD z) = some (z.map fun kv => .tuple [.str kv.1, kv.2]) from rfl) ?_
  walk_at "gos"
  refine i_wr (dicOf_bl z) ?_
  walk_at "gos"
  have DVz : DV (ns.zip vs) := fun kv h => ⟨(hns _ (List.of_mem_zip h).1).1, (hns _ (List.of_mem_zip h).1).2, hvs _ (List.of_mem_zip h).2⟩
  have hlen : ∀ j, (mergeS (mergeS [] z) ((ns.zip vs).take j)).length ≤ 16 := fun j => by
    have a := merge_len (kvs := []) (more := z)
    have b := merge_len (kvs := mergeS [] z) (more := (ns.zip vs).take j)
    have c : ((ns.zip vs).take j).length ≤ 12 := by rw [List.length_take, List.length_zip]; omega
    simp only [List.length_nil] at a
    omega
  refine for_ind (Inv := fun ds env => ∃ (j : Nat) (c6 : Option Dv), ds = rngL j (ns.map PyData.str).length ∧ j ≤ ns.length ∧ env = [some feed, some (.dat (bsD z)), some (.dat (.list [.str "n", .str "to", .str "who", .str "a", .str "zz", .str "k", .str "m", .str "x", .str "y", .str "kid", .str "kin", .str "q"])), some (.dat (.list (ns.map PyData.str))), some (.dat (.list vs)), some (.obj (.dic (mergeS (mergeS [] z) ((ns.zip vs).take j)))), c6, none, none, none]) ?_ ?_ _ _ ⟨0, _, rfl, Nat.zero_le _, rfl⟩
  case refine_2 =>
    rintro d ds env ⟨j, c6, e, hj, rfl⟩ IH
    have hj' : j < ns.length := by
      apply Decidable.byContradiction
      intro h
      rw [rng_nil (by rw [List.length_map]; omega)] at e
      cases e
    rw [rng_cons (by rw [List.length_map]; omega)] at e
    simp only [List.cons.injEq] at e
    obtain ⟨rfl, rfl⟩ := e
    have a1 : atI (ns.map PyData.str) (j : Int) = some (.str ns[j]) := by
      unfold atI ixN
      rw [if_pos (by omega), if_pos (by rw [List.length_map]; omega)]
      simp [List.getElem?_eq_getElem hj']
    have hj2 : j < vs.length := by omega
    have a2 : atI vs (j : Int) = some vs[j] := by
      unfold atI ixN
      rw [if_pos (by omega), if_pos (by omega)]
      simp [List.getElem?_eq_getElem hj2]
    walk_at "gos"
    refine i_ixL a2 ?_
    walk_at "gos"
    refine i_ixL a1 ?_
    walk_at "gos"
    refine i_sz (Nat.lt_of_le_of_lt (hlen j) (by decide +kernel)) ?_
    walk_at "gos"
    have tk : (ns.zip vs).take (j + 1) = (ns.zip vs).take j ++ [(ns[j], vs[j])] := by
      rw [List.take_succ_eq_append_getElem (by rw [List.length_zip]; omega)]
      simp
    exact IH _ ⟨j + 1, _, by simp, by omega, by rw [tk, merge_snoc]⟩
  rintro env ⟨j, c6, e, hj, rfl⟩
  have hj' : j = ns.length := by
    apply Decidable.byContradiction
    intro h
    rw [rng_cons (by rw [List.length_map]; omega)] at e
    cases e
  have tk : (ns.zip vs).take j = ns.zip vs := List.take_of_length_le (by rw [List.length_zip]; omega)
  have hl16 := hlen j
  rw [tk] at hl16 ⊢
  have DVD : DV (mergeS (mergeS [] z) (ns.zip vs)) := DV_merge (DV_merge (fun kv h => by cases h) hdv) DVz
  generalize eD : mergeS (mergeS [] z) (ns.zip vs) = D at hl16 DVD
  clear hlen
  · skip
    walk_at "gos"
    refine ⟨by omega, fun ys p so => ?_⟩
    have yl : ys.length ≤ 64 := by have := p.length_eq; rw [List.length_map] at this; omega
    walk_at "gos"
    refine i_lenOk (by rw [List.length_map]; exact Nat.le_trans yl (by decide +kernel)) ?_
    refine comp_ind (Inv := fun ds acc env => env = [some feed, some (.dat (bsD z)), some (.dat (.list [.str "n", .str "to", .str "who", .str "a", .str "zz", .str "k", .str "m", .str "x", .str "y", .str "kid", .str "kin", .str "q"])), some (.dat (.list (ns.map PyData.str))), some (.dat (.list vs)), some (.obj (.dic D)), c6, none, none, none] ∧ ∃ (don rest : List Str), ds = rest.map PyData.str ∧ acc = (told D don).map (fun kv => .tuple [.str kv.1, kv.2]) ∧ don ++ rest = ys) ?_ ?_ _ _ _ ⟨rfl, [], ys, rfl, rfl, rfl⟩
    case refine_2 =>
      rintro d ds acc env ⟨rfl, don, rest, e, rfl, hy⟩ IH
      cases rest with
      | nil => cases e
      | cons x rest =>
      simp only [List.map_cons, List.cons.injEq] at e
      obtain ⟨rfl, rfl⟩ := e
      obtain ⟨d, ed, _⟩ := getS_some (p.mem_iff.mp (by rw [← hy]; simp : x ∈ ys))
      walk_at "gos"
      refine i_wr ed ?_
      walk_at "gos"
      exact IH _ _ ⟨rfl, don ++ [x], rest, rfl, by simp [told, ed], by simpa using hy⟩
    rintro acc env ⟨rfl, don, rest, e, rfl, hy⟩
    cases rest with
    | cons _ _ => cases e
    | nil =>
    rw [List.append_nil] at hy
    subst hy
    walk_at "gos"
    refine i_call (z, ns, vs) rfl rfl rfl rfl ⟨by show z.length + ns.length < 60; omega, by show ns.length = vs.length; omega⟩ ?_
    rintro d ⟨ys', p', so', rfl⟩
    simp only [eD] at p' ⊢
    have ey : ys' = don := sorted_uniq (p'.trans p.symm) (sorted_pw so') (sorted_pw so)
    subst ey
    have tl : (told D ys').length ≤ 100 := by simp only [told, List.length_map]; omega
    have tD := told_DV DVD p
    walk_at "gos"
    refine i_wr (repr_bs tD tl) ?_
    walk_at "gos"
    refine i_wr (repr_bs tD tl) ?_
    walk_at "gos"
    refine i_call (z, [], []) rfl rfl rfl rfl ⟨by show z.length + 0 < 60; omega, rfl⟩ ?_
    rintro d ⟨ys2, p2, so2, rfl⟩
    have eg : told (mergeS (mergeS [] z) (List.zip ([] : List Str) ([] : List Dt))) ys2 = z := told_given hsub p2 so2
    simp only [eg]
    walk_at "gos"
    refine i_wr (repr_bs hdv (by omega)) ?_
    walk_at "gos"
    refine i_wr (repr_bs hdv (by omega)) ?_
    walk_at "gos"
    exact q _ rfl

open PySem L2 Dx
theorem B__law_by_hand_0 {K : PySem.W.Frag} {mg : Str → Option Value} {a : Ad} (T : Tx K mg a) : BindP K a.d__law_by_hand [] 0 [] [] (List.range 0) := T.f__law_by_hand.bp 0 rfl (fun kV doc pm an cdv ct us hl => by obtain rfl : us = [] := List.length_eq_zero_iff.mp hl; rfl)
theorem B__law_great_right_0 {K : PySem.W.Frag} {mg : Str → Option Value} {a : Ad} (T : Tx K mg a) : BindP K a.d__law_great_right [] 0 [] [] (List.range 0) := T.f__law_great_right.bp 0 rfl (fun kV doc pm an cdv ct us hl => by obtain rfl : us = [] := List.length_eq_zero_iff.mp hl; rfl)
theorem B_worth_0 {K : PySem.W.Frag} {mg : Str → Option Value} {a : Ad} (T : Tx K mg a) : BindP K a.d_worth ["amount", "bindings", "address"] 1 [] [.ref a.a_void, .ref a.a_NOBODY] [0, 1, 2] :=
  T.fd_worth.bk [("bindings", .ref a.a_void), ("address", .ref a.a_NOBODY)] (fun q h => h) [0, 1, 2] (fun D doc pm an cdv ct us ws mv l1 l2 l3 => by match us, ws, mv, l1, l2, l3 with | [x], [], [y, z], _, _, _ => exact ⟨_, _, _, _, _, _, rfl, rfl, ⟨_, _, _, _, _, _, rfl, rfl, rfl⟩⟩) (ht := by show ∀ j ∈ [0, 1, 2], j < 3; decide)
theorem B_worth_b {K : PySem.W.Frag} {mg : Str → Option Value} {a : Ad} (T : Tx K mg a) : BindP K a.d_worth ["amount", "bindings", "address"] 1 ["bindings"] [.ref a.a_NOBODY] [0, 1, 2] :=
  T.fd_worth.bk [("address", .ref a.a_NOBODY)] (fun q h => by simp at h; simp [h]) [0, 1, 2] (fun D doc pm an cdv ct us ws mv l1 l2 l3 => by match us, ws, mv, l1, l2, l3 with | [x], [y], [z], _, _, _ => exact ⟨_, _, _, _, _, _, rfl, rfl, rfl⟩) (ht := by show ∀ j ∈ [0, 1, 2], j < 3; decide)
theorem B_worth_a {K : PySem.W.Frag} {mg : Str → Option Value} {a : Ad} (T : Tx K mg a) : BindP K a.d_worth ["amount", "bindings", "address"] 1 ["address"] [.ref a.a_void] [0, 2, 1] :=
  T.fd_worth.bk [("bindings", .ref a.a_void)] (fun q h => by simp at h; simp [h]) [0, 2, 1] (fun D doc pm an cdv ct us ws mv l1 l2 l3 => by match us, ws, mv, l1, l2, l3 with | [x], [y], [z], _, _, _ => exact ⟨_, _, _, _, _, _, rfl, rfl, rfl⟩) (ht := by show ∀ j ∈ [0, 2, 1], j < 3; decide)
theorem B_worth_ba {K : PySem.W.Frag} {mg : Str → Option Value} {a : Ad} (T : Tx K mg a) : BindP K a.d_worth ["amount", "bindings", "address"] 1 ["bindings", "address"] [] [0, 1, 2] :=
  T.f_worth.bk [0, 1, 2] (fun kV doc pm an cdv ct us ws l1 l2 => by match us, ws, l1, l2 with | [x], [y, z], _, _ => rfl)
def sp_true : DSp := spX (α := Unit) (fun _ => []) (fun _ => True) fun _ r => r = .bool true
abbrev NB : Dt := .tuple [.str "at", .int 0, .int 0]
abbrev HM : Dt := .tuple [.str "at", .int 1, .int 2]
abbrev BN : List (Str × Dt) := [("n", .str "red")]
abbrev sOne : Sm := .is (.int 1)
abbrev sRed : Sm := .is (.str "red")
def RS : List Sm := [.dbl .plus sRed sOne, .dbl .minus sRed sOne, .dbl .less sRed sOne, .dbl .same sRed sRed, .dbl .same sRed sOne, .dbl .same (.is (.int 0)) sRed, .dbl .same .self (.is HM),
  .dbl .plus .self (.is (.int 7)), .dbl .less .self sRed, .dbl .minus (.is (.int (-3))) (.is (.int (-10))), .of "n", .of "m", .dbl .same (.of "n") sRed, .dbl .same (.of "m") (.is (.int 0)), .self, .dbl .less (.is (.int (-1))) (.of "n"),
  .dbl .plus (.is (.int (10 ^ 6))) (.is (.int (10 ^ 6))), .dbl .minus sOne (.dbl .minus sOne (.dbl .minus sOne (.is (.int 3))))]
def rowOf (s : Sm) : Dt := .tuple [s.d, val (mergeS [] BN) HM s]
theorem red_V : IsV (.str "red") := .wrd _ (by decide +kernel) (by decide +kernel)
theorem RS_ok : ∀ s ∈ RS, s.deep ≤ 4 ∧ s.V := by
  intro s h
  simp only [RS, List.mem_cons, List.not_mem_nil, or_false] at h
  rcases h with rfl | rfl | rfl | rfl | rfl | rfl | rfl | rfl | rfl | rfl | rfl | rfl | rfl | rfl | rfl | rfl | rfl | rfl <;> refine ⟨by simp [Sm.deep], ?_⟩ <;> simp only [Sm.V] <;>
    (repeat' first | exact trivial | exact red_V | exact .num _ | exact .adr _ _ | (refine ⟨?_, ?_⟩) | decide +kernel)
theorem RS_good : ∀ s ∈ RS, good (val (mergeS [] BN) HM s) = true ∧ sz (val (mergeS [] BN) HM s) ≤ 4000 := by decide +kernel
theorem BN_V : BV BN := fun kv h => by
  simp only [List.mem_singleton] at h
  subst h
  exact ⟨by decide +kernel, by decide +kernel, red_V⟩
theorem repr_V {d : Dt} (h : IsV d) (g : good d = true) : reprD [d] = some (.str d.shown) := by
  have a := h.dep
  have b := sz_V h
  exact reprD_of g (by omega) (by omega)
theorem ok__law_by_hand {P : Program} {w : World} {K : PySem.W.Frag} {mg : Str → Option Value} {base : Heap} {a : Ad} (T : Tx K mg a) : FnG P w K mg base (12 + 1) a.f__law_by_hand a.d__law_by_hand [] sp_true := by
  have G_worth := (ok_worth (P := P) (w := w) (base := base) T 4).up (k := 12) (by decide)
  have B_worth_1_bindings_address := B_worth_ba (K := K) (mg := mg) T
  have V_worth_1_bindings_address : RpAll K (fun _ => none) [] [] := .nil
  have B_worth_1 := B_worth_0 (K := K) (mg := mg) T
  have V_worth_1 : RpAll K (fun _ => none) [.ref a.a_void, .ref a.a_NOBODY] [.tuple [], .tuple [.str "at", .int 0, .int 0]] := .cons T.d_void (.cons T.d_NOBODY .nil)
  refine T.f__law_by_hand.ok (n := 0) sc__law_by_hand (spX_mono _ _ _) ?_
  intro cdv A outer s H E hr hgd
  have sc := sc__law_by_hand
  have hu := hr.units
  have h1 := hu_of hr
  have hv : (A.deeper (PyProof.Rows.envOfC "_law_by_hand" (defScope s__law_by_hand) s.heap.objs.size a.f__law_by_hand cdv)).units + 150 < cLine := by have := hr.un; omega
  let N : List Str := ["_law_one", "_law_red", "_law_home", "_law_rows", "_law_amount", "_law_wanted"]
  let st : Stmt := s__law_by_hand
  refine ⟨_, (dss_cons (ds_asg (ws := [0, 1, 2]) (de_tup (da_cons (de_tup (da_cons de_str (da_cons de_int da_nil))) (da_cons (de_tup (da_cons de_str (da_cons de_str da_nil))) (da_cons (de_tup (da_cons de_str (da_cons de_int (da_cons de_int da_nil)))) da_nil)))) (dg_tup rfl (dgs_cons (dg_name (i := 0) sc.nd rfl (Or.inl rfl)) (dgs_cons (dg_name (i := 1) sc.nd rfl (Or.inl rfl)) (dgs_cons (dg_name (i := 2) sc.nd rfl (Or.inl rfl)) dgs_nil)))))
  (dss_cons (ds_set (i := 3) sc.nd rfl (Or.inl rfl) (dl_N (dl_lst (da_cons (de_tup (da_cons (de_tup (da_cons de_str (da_cons (de_var 1) (da_cons (de_var 0) da_nil)))) (da_cons de_int da_nil))) (da_cons (de_tup (da_cons (de_tup (da_cons de_str (da_cons (de_var 1) (da_cons (de_var 0) da_nil)))) (da_cons (de_neg de_int) da_nil))) (da_cons (de_tup (da_cons (de_tup (da_cons de_str (da_cons (de_var 1) (da_cons (de_var 0) da_nil)))) (da_cons de_int da_nil))) (da_cons (de_tup (da_cons (de_tup (da_cons de_str (da_cons (de_var 1) (da_cons (de_var 1) da_nil)))) (da_cons de_int da_nil))) da_nil)))))))
  (dss_cons (ds_expr (de_ext 3 (dl_F (dl_lst (da_cons (de_tup (da_cons (de_tup (da_cons de_str (da_cons (de_var 1) (da_cons (de_var 0) da_nil)))) (da_cons de_int da_nil))) (da_cons (de_tup (da_cons (de_tup (da_cons de_str (da_cons (de_tup (da_cons de_str (da_cons de_int da_nil))) (da_cons (de_var 1) da_nil)))) (da_cons de_int da_nil))) (da_cons (de_tup (da_cons (de_tup (da_cons de_str (da_cons (de_tup (da_cons de_str da_nil)) (da_cons (de_tup (da_cons de_str (da_cons (de_var 2) da_nil))) da_nil)))) (da_cons de_int da_nil))) da_nil)))))))
  (dss_cons (ds_expr (de_ext 3 (dl_F (dl_lst (da_cons (de_tup (da_cons (de_tup (da_cons de_str (da_cons (de_tup (da_cons de_str da_nil)) (da_cons (de_tup (da_cons de_str (da_cons de_int da_nil))) da_nil)))) (da_cons de_int da_nil))) (da_cons (de_tup (da_cons (de_tup (da_cons de_str (da_cons (de_tup (da_cons de_str da_nil)) (da_cons (de_var 1) da_nil)))) (da_cons de_int da_nil))) da_nil))))))
  (dss_cons (ds_expr (de_app 3 (de_tup (da_cons (de_tup (da_cons de_str (da_cons (de_tup (da_cons de_str (da_cons (de_neg de_int) da_nil))) (da_cons (de_tup (da_cons de_str (da_cons (de_neg de_int) da_nil))) da_nil)))) (da_cons de_int da_nil)))))
  (dss_cons (ds_expr (de_ext 3 (dl_F (dl_lst (da_cons (de_tup (da_cons (de_tup (da_cons de_str (da_cons de_str da_nil))) (da_cons de_str da_nil))) (da_cons (de_tup (da_cons (de_tup (da_cons de_str (da_cons de_str da_nil))) (da_cons de_int da_nil))) (da_cons (de_tup (da_cons (de_tup (da_cons de_str (da_cons (de_tup (da_cons de_str (da_cons de_str da_nil))) (da_cons (de_var 1) da_nil)))) (da_cons de_int da_nil))) da_nil)))))))
  (dss_cons (ds_expr (de_app 3 (de_tup (da_cons (de_tup (da_cons de_str (da_cons (de_tup (da_cons de_str (da_cons de_str da_nil))) (da_cons (de_tup (da_cons de_str (da_cons de_int da_nil))) da_nil)))) (da_cons de_int da_nil)))))
  (dss_cons (ds_expr (de_ext 3 (dl_F (dl_lst (da_cons (de_tup (da_cons (de_tup (da_cons de_str da_nil)) (da_cons (de_var 2) da_nil))) (da_cons (de_tup (da_cons (de_tup (da_cons de_str (da_cons (de_tup (da_cons de_str (da_cons (de_neg de_int) da_nil))) (da_cons (de_tup (da_cons de_str (da_cons de_str da_nil))) da_nil)))) (da_cons de_int da_nil))) da_nil))))))
  (dss_cons (ds_expr (de_app 3 (de_tup (da_cons (de_tup (da_cons de_str (da_cons (de_tup (da_cons de_str (da_cons (de_pow de_int de_int) da_nil))) (da_cons (de_tup (da_cons de_str (da_cons (de_pow de_int de_int) da_nil))) da_nil)))) (da_cons (de_mul de_int (de_pow de_int de_int)) da_nil)))))
  (dss_cons (ds_expr (de_app 3 (de_tup (da_cons (de_tup (da_cons de_str (da_cons (de_var 0) (da_cons (de_tup (da_cons de_str (da_cons (de_var 0) (da_cons (de_tup (da_cons de_str (da_cons (de_var 0) (da_cons (de_tup (da_cons de_str (da_cons de_int da_nil))) da_nil)))) da_nil)))) da_nil)))) (da_cons (de_neg de_int) da_nil)))))
  (dss_cons (ds_for (ws := [4, 5]) PassesOwn.never rfl (di_seq (de_frz 3)) (dg_tup rfl (dgs_cons (dg_name (i := 4) sc.nd rfl (Or.inl rfl)) (dgs_cons (dg_name (i := 5) sc.nd rfl (Or.inl rfl)) dgs_nil))) (dss_one (ds_if (db_ne hu (de_callB (call_reprD hgd hv) lk_repr rfl T.b_repr (by decide +kernel) (da_cons (de_fnK (G_worth) (hr.mono (by first | decide | omega)) hgd rfl T.f_worth.mg T.f_worth.kp B_worth_1_bindings_address V_worth_1_bindings_address (da_cons (de_var 4) da_nil) (dk_cons (de_tup (da_cons (de_tup (da_cons de_str (da_cons de_str da_nil))) da_nil)) (dk_cons (de_var 2) dk_nil))) da_nil)) (de_callB (call_reprD hgd hv) lk_repr rfl T.b_repr (by decide +kernel) (da_cons (de_var 5) da_nil))) (dss_one (ds_ret de_bl)) dss_nil)))
  (dss_one (ds_ret (de_eq hu (de_callB (call_reprD hgd hv) lk_repr rfl T.b_repr (by decide +kernel) (da_cons (dl_F (dl_lst (da_cons (de_glob rfl T.c_NOBODY T.v_NOBODY T.d_NOBODY) (da_cons (de_fn (G_worth) (hr.mono (by first | decide | omega)) hgd rfl T.f_worth.mg T.f_worth.kp B_worth_1 V_worth_1 (da_cons (de_tup (da_cons de_str da_nil)) da_nil)) (da_cons (de_fn (G_worth) (hr.mono (by first | decide | omega)) hgd rfl T.f_worth.mg T.f_worth.kp B_worth_1 V_worth_1 (da_cons (de_tup (da_cons de_str (da_cons de_str da_nil))) da_nil)) da_nil))))) da_nil)) (de_callB (call_reprD hgd hv) lk_repr rfl T.b_repr (by decide +kernel) (da_cons (dl_F (dl_lst (da_cons (de_tup (da_cons de_str (da_cons de_int (da_cons de_int da_nil)))) (da_cons (de_tup (da_cons de_str (da_cons de_int (da_cons de_int da_nil)))) (da_cons de_int da_nil))))) da_nil)))))))))))))))), ?_⟩
  rintro as Q hl ⟨z, rfl, hp, q⟩
  walk_at "st"
  walk_at "gos"
  refine for_ind (Inv := fun ds env => ∃ c3 c4 c5 : Option Dv, env = [some (.dat sOne.d), some (.dat sRed.d), some (.dat HM), c3, c4, c5] ∧ ∃ ss : List Sm, ds = ss.map rowOf ∧ ∀ s ∈ ss, s ∈ RS) ?_ ?_ _ _ ⟨_, _, _, rfl, RS, rfl, fun s h => h⟩
  · rintro env ⟨c3, c4, c5, rfl, ss, e, hss⟩
    walk_at "gos"
    refine i_call (.self, [], NB) rfl rfl rfl rfl ⟨Nat.zero_le _, trivial, (fun kv h => by cases h), .adr _ _⟩ ?_
    rintro d rfl
    walk_at "gos"
    refine i_call (.of "n", [], NB) rfl rfl rfl rfl ⟨Nat.zero_le _, ⟨by decide +kernel, by decide +kernel⟩, (fun kv h => by cases h), .adr _ _⟩ ?_
    rintro d rfl
    walk_at "gos"
    refine i_wr (reprD_of (d := .list [NB, NB, .int 0]) (by decide +kernel) (by decide +kernel) (by decide +kernel)) ?_
    walk_at "gos"
    refine i_wr (reprD_of (d := .list [NB, NB, .int 0]) (by decide +kernel) (by decide +kernel) (by decide +kernel)) ?_
    walk_at "gos"
    exact q _ rfl
  · rintro d ds env ⟨c3, c4, c5, rfl, ss, e, hss⟩ IH
    cases ss with
    | nil => cases e
    | cons s ss =>
    simp only [List.map_cons, List.cons.injEq] at e
    obtain ⟨rfl, rfl⟩ := e
    have hs := hss s (List.mem_cons_self ..)
    obtain ⟨h1, h2⟩ := RS_ok s hs
    obtain ⟨g1, g2⟩ := RS_good s hs
    have hv : IsV (val (mergeS [] BN) HM s) := val_V (KV_merge KV_nil BN_V) (.adr _ _) s h2
    simp only [rowOf]
    walk_at "gos"
    refine i_call (s, BN, HM) rfl rfl rfl rfl ⟨h1, h2, BN_V, .adr _ _⟩ ?_
    rintro d rfl
    walk_at "gos"
    refine i_wr (repr_V hv g1) ?_
    walk_at "gos"
    refine i_wr (repr_V hv g1) ?_
    walk_at "gos"
    exact IH _ ⟨_, _, _, rfl, ss, rfl, fun s h => hss s (List.mem_cons_of_mem _ h)⟩

theorem gn1 (x y : Dt) : getS (mergeS [] [("n", x), ("to", y)]) "n" = some x := by
  show getS (putS (putS [] "n" x) "to" y) "n" = _
  rw [getS_put, if_neg (by decide +kernel), getS_put, if_pos rfl]
theorem gn2 (x y : Dt) : getS (mergeS [] [("n", x), ("to", y)]) "to" = some y := by
  show getS (putS (putS [] "n" x) "to" y) "to" = _
  rw [getS_put, if_pos rfl]
theorem eqv_int (i j : Int) : PyData.eqv (.int i) (.int j) = decide (i = j) := by
  simp only [PyData.eqv]
  by_cases e : i = j <;> simp [e]
abbrev SG (o : Op) : Sm := .dbl o (.of "n") (.of "to")
abbrev BG (i j : Int) : List (Str × Dt) := [("n", .int i), ("to", .int j)]
def tG (i j : Int) : Dt := .list [.int (i + j), .int (i - j), .int (if decide (i < j) = true then 1 else 0), .int (if decide (i = j) = true then 1 else 0)]
theorem val_G (o : Op) (i j : Int) : val (mergeS [] (BG i j)) NB (SG o) = dblD o (.int i) (.int j) := by
  simp only [val, gn1, gn2, Option.getD_some]
theorem BG_V (i j : Int) : BV (BG i j) := fun kv h => by
  simp only [List.mem_cons, List.not_mem_nil, or_false] at h
  rcases h with rfl | rfl
  · exact ⟨(show strGd "n" = true by decide +kernel), (show ("n" : Str).length ≤ 10 by decide +kernel), .num _⟩
  · exact ⟨(show strGd "to" = true by decide +kernel), (show ("to" : Str).length ≤ 10 by decide +kernel), .num _⟩
theorem mul_B {i j : Int} (h : CMulB i j) : mulD (.int i) (.int j) = some (.int (i * j)) := by
  show (if CMulB i j then some (PyData.int (i * j)) else none) = _
  rw [if_pos h]
theorem SG_V (o : Op) : (SG o).V := ⟨⟨by decide +kernel, by decide +kernel⟩, ⟨by decide +kernel, by decide +kernel⟩⟩
theorem repr_G {i j : Int} (hi : i.natAbs ≤ 10 ^ 100) (hj : j.natAbs ≤ 10 ^ 100) : reprD [tG i j] = some (.str (tG i j).shown) := by
  have b : ∀ c : Prop, [Decidable c] → (if decide c = true then (1 : Int) else 0).natAbs < 2 ^ 1900 := by
    intro c _
    refine lt1900 (Nat.le_trans ?_ (show 1 ≤ 10 ^ 101 by decide +kernel))
    split <;> simp
  have t : 10 ^ 100 + 10 ^ 100 ≤ 10 ^ 101 := by decide +kernel
  have h1 : (i + j).natAbs < 2 ^ 1900 := lt1900 (Nat.le_trans (Nat.le_trans (Int.natAbs_add_le i j) (Nat.add_le_add hi hj)) t)
  have h2 : (i - j).natAbs < 2 ^ 1900 := lt1900 (Nat.le_trans (Nat.le_trans (Int.natAbs_sub_le i j) (Nat.add_le_add hi hj)) t)
  refine reprD_of ?_ ?_ ?_
  · simp only [tG, good, goodA, decide_eq_true h1, decide_eq_true h2, decide_eq_true (b (i < j)), decide_eq_true (b (i = j)), Bool.and_self]
  · simp [tG, PyData.depth, PyData.depthAll]
  · simp [tG, sz, szA]
abbrev GB (d : Dt) : Prop := ∃ i : Int, d = .int i ∧ i.natAbs ≤ 10 ^ 100
theorem ok__law_great_right {P : Program} {w : World} {K : PySem.W.Frag} {mg : Str → Option Value} {base : Heap} {a : Ad} (T : Tx K mg a) : FnG P w K mg base (12 + 1) a.f__law_great_right a.d__law_great_right [] sp_true := by
  have G_worth := (ok_worth (P := P) (w := w) (base := base) T 4).up (k := 12) (by decide)
  have B_worth_1_bindings := B_worth_b (K := K) (mg := mg) T
  have V_worth_1_bindings : RpAll K (fun _ => none) [.ref a.a_NOBODY] [.tuple [.str "at", .int 0, .int 0]] := .cons T.d_NOBODY .nil
  refine T.f__law_great_right.ok (n := 0) sc__law_great_right (spX_mono _ _ _) ?_
  intro cdv A outer s H E hr hgd
  have sc := sc__law_great_right
  have hu := hr.units
  have h1 := hu_of hr
  have hv : (A.deeper (PyProof.Rows.envOfC "_law_great_right" (defScope s__law_great_right) s.heap.objs.size a.f__law_great_right cdv)).units + 150 < cLine := by have := hr.un; omega
  let N : List Str := ["_law_great", "_law_some", "_law_one", "_law_other", "_law_given", "_law_words", "_law_told", "_law_word"]
  let st : Stmt := s__law_great_right
  refine ⟨_, (dss_cons (ds_set (i := 0) sc.nd rfl (Or.inl rfl) (de_mul (de_pow de_int de_int) (de_pow de_int de_int)))
  (dss_cons (ds_set (i := 1) sc.nd rfl (Or.inl rfl) (dl_F (dl_lst (da_cons (de_sub (de_pow de_int de_int) de_int) (da_cons (de_sub de_int (de_pow de_int de_int)) (da_cons (de_sub (de_var 0) de_int) (da_cons (de_sub de_int (de_var 0)) da_nil)))))))
  (dss_cons (ds_for (ws := [2]) PassesOwn.never rfl (di_seq (de_var 1)) (dg_name (i := 2) sc.nd rfl (Or.inl rfl)) (dss_one (ds_for (ws := [3]) PassesOwn.never rfl (di_seq (de_var 1)) (dg_name (i := 3) sc.nd rfl (Or.inl rfl)) (dss_cons (ds_set (i := 4) sc.nd rfl (Or.inr rfl) (de_tup (da_cons (de_tup (da_cons de_str (da_cons (de_var 2) da_nil))) (da_cons (de_tup (da_cons de_str (da_cons (de_var 3) da_nil))) da_nil))))
  (dss_cons (ds_set (i := 5) sc.nd rfl (Or.inl rfl) (de_tup (da_cons de_str (da_cons de_str (da_cons de_str (da_cons de_str da_nil))))))
  (dss_cons (ds_lcF (i := 6) [("_law_word", 7)] rfl sc.nd rfl rfl (sw_true rfl rfl rfl (by decide +kernel)) (di_seq (de_var 5)) (blkOk_by (own := [("_law_word", 7)]) (N := N) (sc := defScope st) (by decide +kernel)) (fun _ _ _ _ _ => (dg_name (i := 7) sc.nd rfl (Or.inl rfl))) (fun _ _ _ _ _ => dts_nil) (fun _ _ _ _ _ => (de_fnK (G_worth) (hr.mono (by first | decide | omega)) hgd rfl T.f_worth.mg T.f_worth.kp B_worth_1_bindings V_worth_1_bindings (da_cons (de_tup (da_cons (de_var 7) (da_cons (de_tup (da_cons de_str (da_cons de_str da_nil))) (da_cons (de_tup (da_cons de_str (da_cons de_str da_nil))) da_nil)))) da_nil) (dk_cons (de_var 4) dk_nil))))
  (dss_one (ds_if (db_ne hu (de_callB (call_reprD hgd hv) lk_repr rfl T.b_repr (by decide +kernel) (da_cons (de_var 6) da_nil)) (de_callB (call_reprD hgd hv) lk_repr rfl T.b_repr (by decide +kernel) (da_cons (dl_F (dl_lst (da_cons (de_add (de_var 2) (de_var 3)) (da_cons (de_sub (de_var 2) (de_var 3)) (da_cons (de_callT call_int1 lk_toInt rfl T.b_int (by decide +kernel) (da_cons (de_lt (de_var 2) (de_var 3)) da_nil)) (da_cons (de_callT call_int1 lk_toInt rfl T.b_int (by decide +kernel) (da_cons (de_eq hu (de_var 2) (de_var 3)) da_nil)) da_nil)))))) da_nil))) (dss_one (ds_ret de_bl)) dss_nil))))))))
  (dss_one (ds_ret de_bl))))), ?_⟩
  rintro as Q hl ⟨z, rfl, hp, q⟩
  walk_at "st"
  walk_at "gos"
  refine i_wr (mul_B (by decide +kernel)) ?_
  walk_at "gos"
  generalize hL : [PyData.int _, PyData.int _, PyData.int _, PyData.int _] = L
  have hG : ∀ d ∈ L, GB d := by
    subst hL
    intro d hd
    simp only [List.mem_cons, List.not_mem_nil, or_false] at hd
    rcases hd with rfl | rfl | rfl | rfl <;> exact ⟨_, rfl, by decide +kernel⟩
  clear hL
  refine for_ind (Inv := fun ds env => ∃ c0 c2 c3 c4 c5 c6 c7 : Option Dv, env = [c0, some (.dat (.list L)), c2, c3, c4, c5, c6, c7] ∧ ∀ d ∈ ds, GB d) ?_ ?_ _ _ ⟨_, _, _, _, _, _, _, rfl, hG⟩
  · rintro env ⟨c0, c2, c3, c4, c5, c6, c7, rfl, _⟩
    walk_at "gos"
    exact q _ rfl
  · rintro d ds env ⟨c0, c2, c3, c4, c5, c6, c7, rfl, hds⟩ IH
    obtain ⟨i, rfl, hi⟩ := hds _ (List.mem_cons_self ..)
    have hds : ∀ d ∈ ds, GB d := fun d h => hds d (List.mem_cons_of_mem _ h)
    walk_at "gos"
    refine for_ind (Inv := fun es env => ∃ c0 c3 c4 c5 c6 c7 : Option Dv, env = [c0, some (.dat (.list L)), some (.dat (.int i)), c3, c4, c5, c6, c7] ∧ ∀ d ∈ es, GB d) ?_ ?_ _ _ ⟨_, _, _, _, _, _, rfl, hG⟩
    · rintro env ⟨c0, c3, c4, c5, c6, c7, rfl, _⟩
      exact IH _ ⟨_, _, _, _, _, _, _, rfl, hds⟩
    · rintro d es env ⟨c0, c3, c4, c5, c6, c7, rfl, hes⟩ IH2
      obtain ⟨j, rfl, hj⟩ := hes _ (List.mem_cons_self ..)
      have hes : ∀ d ∈ es, GB d := fun d h => hes d (List.mem_cons_of_mem _ h)
      walk_at "gos"
      refine i_comp1 ?_
      walk_at "gos"
      refine i_call (SG .plus, BG i j, NB) rfl rfl rfl rfl ⟨by show max 0 0 + 1 ≤ 4; decide, SG_V _, BG_V i j, .adr _ _⟩ ?_
      rintro d rfl
      rw [val_G]
      simp only [dblD, cntD, b2i, eqv_int]
      walk_at "gos"
      refine i_comp1 ?_
      walk_at "gos"
      refine i_call (SG .minus, BG i j, NB) rfl rfl rfl rfl ⟨by show max 0 0 + 1 ≤ 4; decide, SG_V _, BG_V i j, .adr _ _⟩ ?_
      rintro d rfl
      rw [val_G]
      simp only [dblD, cntD, b2i, eqv_int]
      walk_at "gos"
      refine i_comp1 ?_
      walk_at "gos"
      refine i_call (SG .less, BG i j, NB) rfl rfl rfl rfl ⟨by show max 0 0 + 1 ≤ 4; decide, SG_V _, BG_V i j, .adr _ _⟩ ?_
      rintro d rfl
      rw [val_G]
      simp only [dblD, cntD, b2i, eqv_int]
      walk_at "gos"
      refine i_comp1 ?_
      walk_at "gos"
      refine i_call (SG .same, BG i j, NB) rfl rfl rfl rfl ⟨by show max 0 0 + 1 ≤ 4; decide, SG_V _, BG_V i j, .adr _ _⟩ ?_
      rintro d rfl
      rw [val_G]
      simp only [dblD, cntD, b2i, eqv_int]
      walk_at "gos"
      refine i_wr (repr_G hi hj) ?_
      walk_at "gos"
      refine i_wr (repr_G hi hj) ?_
      walk_at "gos"
      exact IH2 _ ⟨_, _, _, _, _, _, rfl, hes⟩

open PySem L2 Dx
theorem natAbs_b2i (b : Bool) : (b2i b).natAbs ≤ 1 := by cases b <;> decide
theorem cnt_mag (d : Dt) : (cntD d).natAbs ≤ mag d := by
  unfold cntD mag
  split <;> split <;> simp_all
def KM (B : Nat) (kvs : List (Str × Dt)) : Prop := ∀ k v, getS kvs k = some v → mag v ≤ B
theorem val_mag {B : Nat} {kvs : List (Str × Dt)} {home : Dt} (hB : 1 ≤ B) (hk : KM B kvs) (hh : mag home ≤ B) : ∀ s : Sm, s.M B → mag (val kvs home s) ≤ B * 2 ^ s.deep
  | .is v, h => by simpa [val, Sm.deep] using (show mag v ≤ B from h)
  | .of s, _ => by
    simp only [val, Sm.deep, Nat.pow_zero, Nat.mul_one]
    cases e : getS kvs s with
    | none => simp [mag]
    | some v => exact hk s v e
  | .self, _ => by simpa [val, Sm.deep] using hh
  | .dbl o a b, h => by
    have ha := Nat.le_trans (cnt_mag _) (val_mag hB hk hh a h.1)
    have hb := Nat.le_trans (cnt_mag _) (val_mag hB hk hh b h.2)
    have pa : B * 2 ^ a.deep ≤ B * 2 ^ (max a.deep b.deep) := Nat.mul_le_mul_left _ (Nat.pow_le_pow_right (by decide) (Nat.le_max_left _ _))
    have pb : B * 2 ^ b.deep ≤ B * 2 ^ (max a.deep b.deep) := Nat.mul_le_mul_left _ (Nat.pow_le_pow_right (by decide) (Nat.le_max_right _ _))
    have p1 : 1 ≤ B * 2 ^ (max a.deep b.deep) := Nat.mul_pos hB (Nat.pow_pos (by decide))
    have e : B * 2 ^ (Sm.dbl o a b).deep = B * 2 ^ (max a.deep b.deep) + B * 2 ^ (max a.deep b.deep) := by
      simp only [Sm.deep, Nat.pow_succ]
      rw [← Nat.mul_assoc, Nat.mul_two]
    rw [e]
    generalize B * 2 ^ (max a.deep b.deep) = X at pa pb p1
    generalize B * 2 ^ a.deep = Y at ha pa
    generalize B * 2 ^ b.deep = Z at hb pb
    cases o
    · simp only [val, dblD, mag]; omega
    · simp only [val, dblD, mag]; omega
    · have := natAbs_b2i (decide (cntD (val kvs home a) < cntD (val kvs home b)))
      simp only [val, dblD, mag]; omega
    · have := natAbs_b2i (PyData.eqv (val kvs home a) (val kvs home b))
      simp only [val, dblD, mag]; omega
theorem getS_mem {kvs : List (Str × Dt)} {k : Str} {v : Dt} (h : getS kvs k = some v) : ∃ k', (k', v) ∈ kvs := by
  unfold getS at h
  cases e : List.find? (fun kv => decide (kv.1 = k)) kvs with
  | none => rw [e] at h; cases h
  | some x =>
    rw [e] at h
    cases h
    exact ⟨x.1, List.mem_of_find?_eq_some e⟩
theorem DV.km {kvs : List (Str × Dt)} (h : DV kvs) : KM 1000000 kvs := fun k v e => by
  obtain ⟨k', m⟩ := getS_mem e
  exact (h _ m).2.2.2
theorem Sm.shown : ∀ s : Sm, s.V → s.M 1000000 → good s.d = true ∧ s.d.depth ≤ s.deep + 3 ∧ sz s.d ≤ 5000 * s.size
  | .is v, hV, hM => by
    have a := good_V hV (lt1900 (Nat.le_trans hM (by decide +kernel)))
    have b := IsV.dep hV
    have c := sz_V hV
    have e : strGd "is" = true := by decide +kernel
    have l : ("is" : Str).length = 2 := by decide +kernel
    refine ⟨by simp [Sm.d, good, goodA, a, e], ?_, ?_⟩
    · simp only [Sm.d, PyData.depth, PyData.depthAll, Sm.deep]; omega
    · simp only [Sm.d, sz, szA, Sm.size, l]; omega
  | .of v, hV, hM => by
    have e : strGd "of" = true := by decide +kernel
    have l : ("of" : Str).length = 2 := by decide +kernel
    have h2 := hV.2
    refine ⟨by simp [Sm.d, good, goodA, hV.1, e], ?_, ?_⟩
    · simp only [Sm.d, PyData.depth, PyData.depthAll, Sm.deep]; omega
    · simp only [Sm.d, sz, szA, Sm.size, l]; omega
  | .self, hV, hM => by
    have e : strGd "self" = true := by decide +kernel
    have l : ("self" : Str).length = 4 := by decide +kernel
    refine ⟨by simp [Sm.d, good, goodA, e], ?_, ?_⟩
    · simp only [Sm.d, PyData.depth, PyData.depthAll, Sm.deep]; omega
    · simp only [Sm.d, sz, szA, Sm.size, l]; omega
  | .dbl o a b, hV, hM => by
    obtain ⟨a1, a2, a3⟩ := Sm.shown a hV.1 hM.1
    obtain ⟨b1, b2, b3⟩ := Sm.shown b hV.2 hM.2
    have e := opGd o
    have l : o.w.length ≤ 10 := by cases o <;> decide +kernel
    refine ⟨by simp [Sm.d, good, goodA, a1, b1, e], ?_, ?_⟩
    · simp only [Sm.d, PyData.depth, PyData.depthAll, Sm.deep]; omega
    · simp only [Sm.d, sz, szA, Sm.size]; omega
theorem size_le : ∀ s : Sm, s.size < 2 ^ (s.deep + 1)
  | .is _ | .of _ | .self => by simp [Sm.size, Sm.deep]
  | .dbl o a b => by
    have ha := size_le a
    have hb := size_le b
    have pa : 2 ^ (a.deep + 1) ≤ 2 ^ (max a.deep b.deep + 1) := Nat.pow_le_pow_right (by decide) (by omega)
    have pb : 2 ^ (b.deep + 1) ≤ 2 ^ (max a.deep b.deep + 1) := Nat.pow_le_pow_right (by decide) (by omega)
    simp only [Sm.size, Sm.deep]
    rw [Nat.pow_succ 2 (max a.deep b.deep + 1)]
    omega
theorem SmOk.size {s : Sm} (h : SmOk 3 s) : s.size ≤ 16 := by
  have a := size_le s
  have b : 2 ^ (s.deep + 1) ≤ 2 ^ 4 := Nat.pow_le_pow_right (by decide) (by have := h.1; omega)
  omega
theorem repr_kept {bs : List (Str × Dt)} {s : Sm} (h : BsOk bs) (k : SmOk 3 s) : reprD [.tuple [bsD bs, s.d]] = some (.str (PyData.tuple [bsD bs, s.d]).shown) := by
  obtain ⟨a1, a2, a3⟩ := bs_shown h.1 (by have := h.len; omega)
  obtain ⟨b1, b2, b3⟩ := Sm.shown s k.2.1 k.2.2
  have b4 := k.size
  have b5 := k.1
  refine reprD_of ?_ ?_ ?_
  · simp [good, goodA, a1, b1]
  · simp only [PyData.depth, PyData.depthAll]; omega
  · simp only [sz, szA]; omega
theorem repr3 {x y z : Dt} (hx : IsV x ∧ mag x ≤ 8000000) (hy : IsV y ∧ mag y ≤ 8000000) (hz : IsV z ∧ mag z ≤ 8000000) : reprD [.list [x, y, z]] = some (.str (PyData.list [x, y, z]).shown) := by
  have gx := good_V hx.1 (lt1900 (Nat.le_trans hx.2 (by decide +kernel)))
  have gy := good_V hy.1 (lt1900 (Nat.le_trans hy.2 (by decide +kernel)))
  have gz := good_V hz.1 (lt1900 (Nat.le_trans hz.2 (by decide +kernel)))
  have dx := hx.1.dep
  have dy := hy.1.dep
  have dz := hz.1.dep
  have sx := sz_V hx.1
  have sy := sz_V hy.1
  have sz' := sz_V hz.1
  refine reprD_of ?_ ?_ ?_
  · simp [good, goodA, gx, gy, gz]
  · simp only [PyData.depth, PyData.depthAll]; omega
  · simp only [sz, szA]; omega
theorem val_ok {kvs : List (Str × Dt)} {home : Dt} {s : Sm} (hk : KV kvs) (km : KM 1000000 kvs) (hh : IsV home) (hm : mag home ≤ 1000000) (k : SmOk 3 s) : IsV (val kvs home s) ∧ mag (val kvs home s) ≤ 8000000 := by
  refine ⟨val_V hk hh s k.2.1, ?_⟩
  have a := val_mag (B := 1000000) (by decide) km hm s k.2.2
  have b : 2 ^ s.deep ≤ 2 ^ 3 := Nat.pow_le_pow_right (by decide) k.1
  have c : 1000000 * 2 ^ s.deep ≤ 1000000 * 2 ^ 3 := Nat.mul_le_mul_left _ b
  omega
theorem law_run {P : Program} {w : World} {K : PySem.W.Frag} {mg : Str → Option Value} {base : Heap} {a : Ad} (T : Tx K mg a) (bL : ∀ (s : Shared) (u : Value), BindsTo s a.d_law ⟨[u], []⟩ [("_law_script", u)]) (bF : Binds K a.d__law_feed ["_law_script"] []) : LawRun P w K mg base a.f_law 63 := by
  have G__law_draw := (draw_spX (draw_hid (ok_draw (P := P) (w := w) (base := base) T))).up (k := 30) (by decide)
  have G__law_bindings := (ok__law_bindings (P := P) (w := w) (base := base) T).up (k := 30) (by decide)
  have G__law_sum := (ok__law_sum (P := P) (w := w) (base := base) T 3).up (k := 30) (by decide)
  have G_worth := (ok_worth (P := P) (w := w) (base := base) T 4).up (k := 30) (by decide)
  have G__law_worth := (ok__law_worth (P := P) (w := w) (base := base) T).up (k := 30) (by decide)
  have G__law_bound_right := (ok__law_bound_right (P := P) (w := w) (base := base) T).up (k := 30) (by decide)
  have G__law_by_hand := (ok__law_by_hand (P := P) (w := w) (base := base) T).up (k := 30) (by decide)
  have G__law_great_right := (ok__law_great_right (P := P) (w := w) (base := base) T).up (k := 30) (by decide)
  have B__law_draw_2 := B__law_draw_2 (K := K) (mg := mg) T
  have V__law_draw_2 : RpAll K (fun _ => none) [] [] := .nil
  have B__law_bindings_1 := B__law_bindings_1 (K := K) (mg := mg) T
  have V__law_bindings_1 : RpAll K (fun _ => none) [] [] := .nil
  have B__law_sum_3 := B__law_sum_3 (K := K) (mg := mg) T
  have V__law_sum_3 : RpAll K (fun _ => none) [] [] := .nil
  have B_worth_1 := B_worth_0 (K := K) (mg := mg) T
  have V_worth_1 : RpAll K (fun _ => none) [.ref a.a_void, .ref a.a_NOBODY] [.tuple [], .tuple [.str "at", .int 0, .int 0]] := .cons T.d_void (.cons T.d_NOBODY .nil)
  have B_worth_1_address := B_worth_a (K := K) (mg := mg) T
  have V_worth_1_address : RpAll K (fun _ => none) [.ref a.a_void] [.tuple []] := .cons T.d_void .nil
  have B_worth_1_bindings_address := B_worth_ba (K := K) (mg := mg) T
  have V_worth_1_bindings_address : RpAll K (fun _ => none) [] [] := .nil
  have B__law_worth_3 := B__law_worth_3 (K := K) (mg := mg) T
  have V__law_worth_3 : RpAll K (fun _ => none) [] [] := .nil
  have B__law_bound_right_2 := B__law_bound_right_2 (K := K) (mg := mg) T
  have V__law_bound_right_2 : RpAll K (fun _ => none) [] [] := .nil
  have B__law_great_right_0 := B__law_great_right_0 (K := K) (mg := mg) T
  have V__law_great_right_0 : RpAll K (fun _ => none) [] [] := .nil
  have B__law_by_hand_0 := B__law_by_hand_0 (K := K) (mg := mg) T
  have V__law_by_hand_0 : RpAll K (fun _ => none) [] [] := .nil
  refine law_of (k := 30) T.f_law sc_law ⟨rfl, by decide, by decide⟩ rfl ⟨_, rfl⟩ rfl rfl bL (feed_ok T.f__law_feed sc__law_feed T.b_list rfl (fun _ _ _ _ _ _ => rfl) rfl) bF T.f__law_feed.mg T.f__law_feed.kp (fun _ _ _ _ _ _ => rfl) (fun _ _ _ _ _ _ => rfl) ?_
  intro cdv A outer s H E hr hgd
  have sc := sc_law
  have hu := hr.units
  have h1 := hu_of hr
  have hv : (A.deeper (PyProof.Rows.envOfC "law" (defScope s_law) s.heap.objs.size a.f_law cdv)).units + 150 < cLine := by have := hr.un; omega
  let N : List Str := ["_law_script", "_law_feed_here", "_law_k", "_law_given", "_law_home", "_law_amount", "_law_kept", "_law_told", "_law_wanted"]
  let st : Stmt := s_law
  refine ⟨_, (dss_cons (ds_for (ws := [2]) PassesOwn.never rfl (di_range rfl T.b_range de_int) (dg_name (i := 2) sc.nd rfl (Or.inl rfl)) (dss_cons (ds_par (i := 3) (j := 4) rfl sc.nd rfl rfl (by decide) rfl rfl (da_cons (de_fn (G__law_bindings) (hr.mono (by first | decide | omega)) hgd rfl T.f__law_bindings.mg T.f__law_bindings.kp B__law_bindings_1 V__law_bindings_1 (da_cons (de_var 1) da_nil)) (da_cons (de_tup (da_cons de_str (da_cons (de_fn (G__law_draw) (hr.mono (by first | decide | omega)) hgd rfl T.f__law_draw.mg T.f__law_draw.kp B__law_draw_2 V__law_draw_2 (da_cons (de_var 1) (da_cons de_int da_nil))) (da_cons (de_fn (G__law_draw) (hr.mono (by first | decide | omega)) hgd rfl T.f__law_draw.mg T.f__law_draw.kp B__law_draw_2 V__law_draw_2 (da_cons (de_var 1) (da_cons de_int da_nil))) da_nil)))) da_nil)) rfl)
  (dss_cons (ds_set (i := 5) sc.nd rfl (Or.inl rfl) (de_fn (G__law_sum) (hr.mono (by first | decide | omega)) hgd rfl T.f__law_sum.mg T.f__law_sum.kp B__law_sum_3 V__law_sum_3 (da_cons (de_var 1) (da_cons (dl_F (dl_lst (da_cons de_str (da_cons de_str (da_cons de_str da_nil))))) (da_cons de_int da_nil)))))
  (dss_cons (ds_set (i := 6) sc.nd rfl (Or.inl rfl) (de_callB (call_reprD hgd hv) lk_repr rfl T.b_repr (by decide +kernel) (da_cons (de_tup (da_cons (de_var 3) (da_cons (de_var 5) da_nil))) da_nil)))
  (dss_cons (ds_set (i := 7) sc.nd rfl (Or.inl rfl) (dl_F (dl_lst (da_cons (de_fnK (G_worth) (hr.mono (by first | decide | omega)) hgd rfl T.f_worth.mg T.f_worth.kp B_worth_1_bindings_address V_worth_1_bindings_address (da_cons (de_var 5) da_nil) (dk_cons (de_var 3) (dk_cons (de_var 4) dk_nil))) (da_cons (de_fnK (G_worth) (hr.mono (by first | decide | omega)) hgd rfl T.f_worth.mg T.f_worth.kp B_worth_1_address V_worth_1_address (da_cons (de_var 5) da_nil) (dk_cons (de_var 4) dk_nil)) (da_cons (de_fn (G_worth) (hr.mono (by first | decide | omega)) hgd rfl T.f_worth.mg T.f_worth.kp B_worth_1 V_worth_1 (da_cons (de_var 5) da_nil)) da_nil))))))
  (dss_cons (ds_set (i := 8) sc.nd rfl (Or.inl rfl) (dl_N (dl_lst (da_cons (de_fn (G__law_worth) (hr.mono (by first | decide | omega)) hgd rfl T.f__law_worth.mg T.f__law_worth.kp B__law_worth_3 V__law_worth_3 (da_cons (de_var 5) (da_cons (de_dict rfl rfl T.b_dict (da_cons (dl_F (dl_list rfl T.b_list (da_cons (de_var 3) da_nil))) da_nil)) (da_cons (de_var 4) da_nil)))) (da_cons (de_fn (G__law_worth) (hr.mono (by first | decide | omega)) hgd rfl T.f__law_worth.mg T.f__law_worth.kp B__law_worth_3 V__law_worth_3 (da_cons (de_var 5) (da_cons de_dnew (da_cons (de_var 4) da_nil)))) da_nil)))))
  (dss_cons (ds_expr (de_app 8 (de_fn (G__law_worth) (hr.mono (by first | decide | omega)) hgd rfl T.f__law_worth.mg T.f__law_worth.kp B__law_worth_3 V__law_worth_3 (da_cons (de_var 5) (da_cons de_dnew (da_cons (de_tup (da_cons de_str (da_cons de_int (da_cons de_int da_nil)))) da_nil))))))
  (dss_one (ds_if (dw_b (dw_or (db_ne hu (de_callB (call_reprD hgd hv) lk_repr rfl T.b_repr (by decide +kernel) (da_cons (de_var 7) da_nil)) (de_callB (call_reprD hgd hv) lk_repr rfl T.b_repr (by decide +kernel) (da_cons (de_var 8) da_nil))) (dw_or (db_not (db_val (de_fn (G__law_bound_right) (hr.mono (by first | decide | omega)) hgd rfl T.f__law_bound_right.mg T.f__law_bound_right.kp B__law_bound_right_2 V__law_bound_right_2 (da_cons (de_var 1) (da_cons (de_var 3) da_nil))))) (dw_or1 (db_ne hu (de_callB (call_reprD hgd hv) lk_repr rfl T.b_repr (by decide +kernel) (da_cons (de_tup (da_cons (de_var 3) (da_cons (de_var 5) da_nil))) da_nil)) (de_var 6)))))) (dss_one (ds_ret de_bl)) dss_nil)))))))))
  (dss_one (ds_ret (de_and (de_fn0 (G__law_by_hand) (hr.mono (by first | decide | omega)) hgd rfl T.f__law_by_hand.mg T.f__law_by_hand.kp B__law_by_hand_0 V__law_by_hand_0) (de_one (de_fn0 (G__law_great_right) (hr.mono (by first | decide | omega)) hgd rfl T.f__law_great_right.mg T.f__law_great_right.kp B__law_great_right_0 V__law_great_right_0)))))), ?_⟩
  walk_at "st"
  walk_at "gos"
  refine for_ind (Inv := fun ds env => ∃ c2 c3 c4 c5 c6 c7 c8 : Option Dv, env = [none, some feed, c2, c3, c4, c5, c6, c7, c8]) ?_ ?_ _ _ ⟨_, _, _, _, _, _, _, rfl⟩
  · rintro env ⟨c2, c3, c4, c5, c6, c7, c8, rfl⟩
    walk_at "gos"
    refine i_call () rfl rfl rfl rfl trivial ?_
    rintro d rfl
    walk_at "gos"
    refine i_call () rfl rfl rfl rfl trivial ?_
    rintro d rfl
    walk_at "gos"
    rfl
  · rintro d ds env ⟨c2, c3, c4, c5, c6, c7, c8, rfl⟩ IH
    walk_at "gos"
    refine i_call () rfl rfl rfl rfl trivial ?_
    rintro d ⟨bs, rfl, hbs⟩
    walk_at "gos"
    intro x x0 x1
    walk_at "gos"
    intro y y0 y1
    walk_at "gos"
    refine i_call (3 : Nat) rfl rfl rfl rfl (Nat.le_refl 3) ?_
    rintro d ⟨s0, rfl, hs0⟩
    walk_at "gos"
    refine i_wr (repr_kept hbs hs0) ?_
    walk_at "gos"
    have hm : mag (.tuple [.str "at", .int x, .int y]) ≤ 1000000 := by simp only [mag]; omega
    have hh : IsV (.tuple [.str "at", .int x, .int y]) := .adr x y
    have kv := KV_merge KV_nil hbs.1.bv
    have km := (DV_merge (kvs := []) (fun kv h => by cases h) hbs.1).km
    have r1 := val_ok kv km hh hm hs0
    have r2 := val_ok KV_nil (fun k v e => by simp [getS] at e) hh hm hs0
    have r3 := val_ok (home := NB) KV_nil (fun k v e => by simp [getS] at e) (.adr 0 0) (by decide +kernel) hs0
    have dp : s0.deep ≤ 4 := Nat.le_trans hs0.1 (by decide)
    have zz : s0.size ≤ 1000 := Nat.le_trans hs0.size (by decide)
    refine i_call (s0, bs, .tuple [.str "at", .int x, .int y]) rfl rfl rfl rfl ⟨dp, hs0.2.1, hbs.1.bv, hh⟩ ?_
    rintro d rfl
    walk_at "gos"
    refine i_call (s0, [], .tuple [.str "at", .int x, .int y]) rfl rfl rfl rfl ⟨dp, hs0.2.1, (fun kv h => by cases h), hh⟩ ?_
    rintro d rfl
    walk_at "gos"
    refine i_call (s0, [], NB) rfl rfl rfl rfl ⟨dp, hs0.2.1, (fun kv h => by cases h), .adr 0 0⟩ ?_
    rintro d rfl
    walk_at "gos"
    refine i_wr (show seqD (bsD bs) = some (bs.map fun kv => .tuple [.str kv.1, kv.2]) from rfl) ?_
    walk_at "gos"
    refine i_wr (dicOf_bl bs) ?_
    walk_at "gos"
    refine i_call (s0, mergeS [] bs, .tuple [.str "at", .int x, .int y]) rfl rfl rfl rfl ⟨zz, hs0.2.1, kv, hh⟩ ?_
    rintro d rfl
    walk_at "gos"
    refine i_call (s0, [], .tuple [.str "at", .int x, .int y]) rfl rfl rfl rfl ⟨zz, hs0.2.1, KV_nil, hh⟩ ?_
    rintro d rfl
    walk_at "gos"
    refine i_call (s0, [], NB) rfl rfl rfl rfl ⟨zz, hs0.2.1, KV_nil, .adr 0 0⟩ ?_
    rintro d rfl
    walk_at "gos"
    refine i_wr (repr3 r1 r2 r3) ?_
    walk_at "gos"
    refine i_wr (repr3 r1 r2 r3) ?_
    walk_at "gos"
    refine i_neS1 ?_
    walk_at "gos"
    refine i_call bs rfl rfl rfl rfl hbs ?_
    rintro d rfl
    walk_at "gos"
    refine i_wr (repr_kept hbs hs0) ?_
    walk_at "gos"
    exact IH _ ⟨_, _, _, _, _, _, _, rfl⟩
open PySem L2 Dx
theorem all_mk {P : Program} {w : World} {K : PySem.W.Frag} {h : Heap} {mg : Str → Option Value} {fa : Addr} (X : K.In h) (G : h.Ns mainGlobals mg) (hfa : mg "law" = some (.ref fa))
    {f0 : Addr} {od0 an0 : Option Addr} {sl0 : Array (Option Value)} {oc0 kV0 dc0 pm0 cd0 ct0 : Value} (a0 : PySem.W.nsIn K mainGlobals "is_whole" = some (some (.ref f0))) (l0 : K.lookup f0 = some ⟨oc0, od0, .func (PySem.W.fnOf "is_whole" "is_whole" (defArgs s_is_whole) (defBody s_is_whole) (defScope s_is_whole) .none kV0 dc0 pm0 an0 cd0 ct0), sl0⟩) (c0 : PySem.W.codeIn K cd0 "is_whole" = true) (k0 : PySem.W.keepIn K (.ref f0) = true)
    {f1 : Addr} {od1 an1 : Option Addr} {sl1 : Array (Option Value)} {oc1 kV1 dc1 pm1 cd1 ct1 : Value} (a1 : PySem.W.nsIn K mainGlobals "bound" = some (some (.ref f1))) (l1 : K.lookup f1 = some ⟨oc1, od1, .func (PySem.W.fnOf "bound" "bound" (defArgs s_bound) (defBody s_bound) (defScope s_bound) .none kV1 dc1 pm1 an1 cd1 ct1), sl1⟩) (c1 : PySem.W.codeIn K cd1 "bound" = true) (k1 : PySem.W.keepIn K (.ref f1) = true)
    {f2 : Addr} {od2 an2 : Option Addr} {sl2 : Array (Option Value)} {oc2 kV2 dc2 pm2 cd2 ct2 : Value} (a2 : PySem.W.nsIn K mainGlobals "counted" = some (some (.ref f2))) (l2 : K.lookup f2 = some ⟨oc2, od2, .func (PySem.W.fnOf "counted" "counted" (defArgs s_counted) (defBody s_counted) (defScope s_counted) .none kV2 dc2 pm2 an2 cd2 ct2), sl2⟩) (c2 : PySem.W.codeIn K cd2 "counted" = true) (k2 : PySem.W.keepIn K (.ref f2) = true)
    {f3 : Addr} {od3 an3 : Option Addr} {sl3 : Array (Option Value)} {oc3 kV3 dc3 pm3 cd3 ct3 : Value} (a3 : PySem.W.nsIn K mainGlobals "double_worth" = some (some (.ref f3))) (l3 : K.lookup f3 = some ⟨oc3, od3, .func (PySem.W.fnOf "double_worth" "double_worth" (defArgs s_double_worth) (defBody s_double_worth) (defScope s_double_worth) .none kV3 dc3 pm3 an3 cd3 ct3), sl3⟩) (c3 : PySem.W.codeIn K cd3 "double_worth" = true) (k3 : PySem.W.keepIn K (.ref f3) = true)
    {f4 : Addr} {od4 an4 : Option Addr} {sl4 : Array (Option Value)} {oc4 kV4 dc4 pm4 cd4 ct4 : Value} (a4 : PySem.W.nsIn K mainGlobals "lone_worth" = some (some (.ref f4))) (l4 : K.lookup f4 = some ⟨oc4, od4, .func (PySem.W.fnOf "lone_worth" "lone_worth" (defArgs s_lone_worth) (defBody s_lone_worth) (defScope s_lone_worth) .none kV4 dc4 pm4 an4 cd4 ct4), sl4⟩) (c4 : PySem.W.codeIn K cd4 "lone_worth" = true) (k4 : PySem.W.keepIn K (.ref f4) = true)
    {f5 : Addr} {od5 an5 : Option Addr} {sl5 : Array (Option Value)} {oc5 kV5 dc5 pm5 cd5 ct5 : Value} (a5 : PySem.W.nsIn K mainGlobals "worth_by" = some (some (.ref f5))) (l5 : K.lookup f5 = some ⟨oc5, od5, .func (PySem.W.fnOf "worth_by" "worth_by" (defArgs s_worth_by) (defBody s_worth_by) (defScope s_worth_by) .none kV5 dc5 pm5 an5 cd5 ct5), sl5⟩) (c5 : PySem.W.codeIn K cd5 "worth_by" = true) (k5 : PySem.W.keepIn K (.ref f5) = true)
    {f6 : Addr} {od6 an6 : Option Addr} {sl6 : Array (Option Value)} {oc6 kV6 dc6 pm6 cd6 ct6 : Value} (a6 : PySem.W.nsIn K mainGlobals "worth" = some (some (.ref f6))) (l6 : K.lookup f6 = some ⟨oc6, od6, .func (PySem.W.fnOf "worth" "worth" (defArgs s_worth) (defBody s_worth) (defScope s_worth) .none kV6 dc6 pm6 an6 cd6 ct6), sl6⟩) (c6 : PySem.W.codeIn K cd6 "worth" = true) (k6 : PySem.W.keepIn K (.ref f6) = true)
    {f7 : Addr} {od7 an7 : Option Addr} {sl7 : Array (Option Value)} {oc7 kV7 dc7 pm7 cd7 ct7 : Value} (a7 : PySem.W.nsIn K mainGlobals "_law_feed" = some (some (.ref f7))) (l7 : K.lookup f7 = some ⟨oc7, od7, .func (PySem.W.fnOf "_law_feed" "_law_feed" (defArgs s__law_feed) (defBody s__law_feed) (defScope s__law_feed) .none kV7 dc7 pm7 an7 cd7 ct7), sl7⟩) (c7 : PySem.W.codeIn K cd7 "_law_feed" = true) (k7 : PySem.W.keepIn K (.ref f7) = true)
    {f8 : Addr} {od8 an8 : Option Addr} {sl8 : Array (Option Value)} {oc8 kV8 dc8 pm8 cd8 ct8 : Value} (a8 : PySem.W.nsIn K mainGlobals "_law_draw" = some (some (.ref f8))) (l8 : K.lookup f8 = some ⟨oc8, od8, .func (PySem.W.fnOf "_law_draw" "_law_draw" (defArgs s__law_draw) (defBody s__law_draw) (defScope s__law_draw) .none kV8 dc8 pm8 an8 cd8 ct8), sl8⟩) (c8 : PySem.W.codeIn K cd8 "_law_draw" = true) (k8 : PySem.W.keepIn K (.ref f8) = true)
    {f9 : Addr} {od9 an9 : Option Addr} {sl9 : Array (Option Value)} {oc9 kV9 dc9 pm9 cd9 ct9 : Value} (a9 : PySem.W.nsIn K mainGlobals "_law_value" = some (some (.ref f9))) (l9 : K.lookup f9 = some ⟨oc9, od9, .func (PySem.W.fnOf "_law_value" "_law_value" (defArgs s__law_value) (defBody s__law_value) (defScope s__law_value) .none kV9 dc9 pm9 an9 cd9 ct9), sl9⟩) (c9 : PySem.W.codeIn K cd9 "_law_value" = true) (k9 : PySem.W.keepIn K (.ref f9) = true)
    {f10 : Addr} {od10 an10 : Option Addr} {sl10 : Array (Option Value)} {oc10 kV10 dc10 pm10 cd10 ct10 : Value} (a10 : PySem.W.nsIn K mainGlobals "_law_sum" = some (some (.ref f10))) (l10 : K.lookup f10 = some ⟨oc10, od10, .func (PySem.W.fnOf "_law_sum" "_law_sum" (defArgs s__law_sum) (defBody s__law_sum) (defScope s__law_sum) .none kV10 dc10 pm10 an10 cd10 ct10), sl10⟩) (c10 : PySem.W.codeIn K cd10 "_law_sum" = true) (k10 : PySem.W.keepIn K (.ref f10) = true)
    {f11 : Addr} {od11 an11 : Option Addr} {sl11 : Array (Option Value)} {oc11 kV11 dc11 pm11 cd11 ct11 : Value} (a11 : PySem.W.nsIn K mainGlobals "_law_counted" = some (some (.ref f11))) (l11 : K.lookup f11 = some ⟨oc11, od11, .func (PySem.W.fnOf "_law_counted" "_law_counted" (defArgs s__law_counted) (defBody s__law_counted) (defScope s__law_counted) .none kV11 dc11 pm11 an11 cd11 ct11), sl11⟩) (c11 : PySem.W.codeIn K cd11 "_law_counted" = true) (k11 : PySem.W.keepIn K (.ref f11) = true)
    {f12 : Addr} {od12 an12 : Option Addr} {sl12 : Array (Option Value)} {oc12 kV12 dc12 pm12 cd12 ct12 : Value} (a12 : PySem.W.nsIn K mainGlobals "_law_worth" = some (some (.ref f12))) (l12 : K.lookup f12 = some ⟨oc12, od12, .func (PySem.W.fnOf "_law_worth" "_law_worth" (defArgs s__law_worth) (defBody s__law_worth) (defScope s__law_worth) .none kV12 dc12 pm12 an12 cd12 ct12), sl12⟩) (c12 : PySem.W.codeIn K cd12 "_law_worth" = true) (k12 : PySem.W.keepIn K (.ref f12) = true)
    {f13 : Addr} {od13 an13 : Option Addr} {sl13 : Array (Option Value)} {oc13 kV13 dc13 pm13 cd13 ct13 : Value} (a13 : PySem.W.nsIn K mainGlobals "_law_bindings" = some (some (.ref f13))) (l13 : K.lookup f13 = some ⟨oc13, od13, .func (PySem.W.fnOf "_law_bindings" "_law_bindings" (defArgs s__law_bindings) (defBody s__law_bindings) (defScope s__law_bindings) .none kV13 dc13 pm13 an13 cd13 ct13), sl13⟩) (c13 : PySem.W.codeIn K cd13 "_law_bindings" = true) (k13 : PySem.W.keepIn K (.ref f13) = true)
    {f14 : Addr} {od14 an14 : Option Addr} {sl14 : Array (Option Value)} {oc14 kV14 dc14 pm14 cd14 ct14 : Value} (a14 : PySem.W.nsIn K mainGlobals "_law_by_hand" = some (some (.ref f14))) (l14 : K.lookup f14 = some ⟨oc14, od14, .func (PySem.W.fnOf "_law_by_hand" "_law_by_hand" (defArgs s__law_by_hand) (defBody s__law_by_hand) (defScope s__law_by_hand) .none kV14 dc14 pm14 an14 cd14 ct14), sl14⟩) (c14 : PySem.W.codeIn K cd14 "_law_by_hand" = true) (k14 : PySem.W.keepIn K (.ref f14) = true)
    {f15 : Addr} {od15 an15 : Option Addr} {sl15 : Array (Option Value)} {oc15 kV15 dc15 pm15 cd15 ct15 : Value} (a15 : PySem.W.nsIn K mainGlobals "_law_bound_right" = some (some (.ref f15))) (l15 : K.lookup f15 = some ⟨oc15, od15, .func (PySem.W.fnOf "_law_bound_right" "_law_bound_right" (defArgs s__law_bound_right) (defBody s__law_bound_right) (defScope s__law_bound_right) .none kV15 dc15 pm15 an15 cd15 ct15), sl15⟩) (c15 : PySem.W.codeIn K cd15 "_law_bound_right" = true) (k15 : PySem.W.keepIn K (.ref f15) = true)
    {f16 : Addr} {od16 an16 : Option Addr} {sl16 : Array (Option Value)} {oc16 kV16 dc16 pm16 cd16 ct16 : Value} (a16 : PySem.W.nsIn K mainGlobals "_law_great_right" = some (some (.ref f16))) (l16 : K.lookup f16 = some ⟨oc16, od16, .func (PySem.W.fnOf "_law_great_right" "_law_great_right" (defArgs s__law_great_right) (defBody s__law_great_right) (defScope s__law_great_right) .none kV16 dc16 pm16 an16 cd16 ct16), sl16⟩) (c16 : PySem.W.codeIn K cd16 "_law_great_right" = true) (k16 : PySem.W.keepIn K (.ref f16) = true)
    {f17 : Addr} {od17 an17 : Option Addr} {sl17 : Array (Option Value)} {oc17 kV17 dc17 pm17 cd17 ct17 : Value} (a17 : PySem.W.nsIn K mainGlobals "law" = some (some (.ref f17))) (l17 : K.lookup f17 = some ⟨oc17, od17, .func (PySem.W.fnOf "law" "law" (defArgs s_law) (defBody s_law) (defScope s_law) .none kV17 dc17 pm17 an17 cd17 ct17), sl17⟩) (c17 : PySem.W.codeIn K cd17 "law" = true) (k17 : PySem.W.keepIn K (.ref f17) = true)
    (z_len : PySem.W.nsIn K mainGlobals "len" = some none)
    (z_tuple : PySem.W.nsIn K mainGlobals "tuple" = some none)
    (z_isinstance : PySem.W.nsIn K mainGlobals "isinstance" = some none)
    (z_range : PySem.W.nsIn K mainGlobals "range" = some none)
    (z_list : PySem.W.nsIn K mainGlobals "list" = some none)
    (z_repr : PySem.W.nsIn K mainGlobals "repr" = some none)
    (z_sorted : PySem.W.nsIn K mainGlobals "sorted" = some none)
    (z_dict : PySem.W.nsIn K mainGlobals "dict" = some none)
    (z_int : PySem.W.nsIn K mainGlobals "int" = some none)
    (z_zip : PySem.W.nsIn K mainGlobals "zip" = some none)
    (z_bool : PySem.W.nsIn K mainGlobals "bool" = some none)
    {A0 A1 A2 D0 : Addr} (n0 : PySem.W.nsIn K mainGlobals "NOBODY" = some (some (.ref A0))) (n1 : PySem.W.nsIn K mainGlobals "DOUBLE" = some (some (.ref A1)))
    (q0 : TuA K (fun _ => none) A0 [.str "at", .int 0, .int 0]) (q1 : TuA K (fun _ => none) A1 [.str "plus", .str "minus", .str "less", .str "same"]) (q2 : TuA K (fun _ => none) A2 [])
    (e0 : kV6 = .ref D0) (e1 : PySem.W.nsIn K D0 "bindings" = some (some (.ref A2))) (e2 : PySem.W.nsIn K D0 "address" = some (some (.ref A0))) : ∀ base : Heap, K.In base → base.Ns mainGlobals mg → LawRun P w K mg base fa 63 := by
  have e : f17 = fa := (Value.ref.inj (Option.some.inj (hfa.symm.trans (PySem.W.mg_of X G a17)))).symm
  subst e
  intro base _ _
  have F0 : FnF K mg "is_whole" s_is_whole f0 _ := ⟨PySem.W.mg_of X G a0, k0, oc0, od0, kV0, dc0, pm0, an0, cd0, ct0, sl0, rfl, l0, c0⟩
  have F1 : FnF K mg "bound" s_bound f1 _ := ⟨PySem.W.mg_of X G a1, k1, oc1, od1, kV1, dc1, pm1, an1, cd1, ct1, sl1, rfl, l1, c1⟩
  have F2 : FnF K mg "counted" s_counted f2 _ := ⟨PySem.W.mg_of X G a2, k2, oc2, od2, kV2, dc2, pm2, an2, cd2, ct2, sl2, rfl, l2, c2⟩
  have F3 : FnF K mg "double_worth" s_double_worth f3 _ := ⟨PySem.W.mg_of X G a3, k3, oc3, od3, kV3, dc3, pm3, an3, cd3, ct3, sl3, rfl, l3, c3⟩
  have F4 : FnF K mg "lone_worth" s_lone_worth f4 _ := ⟨PySem.W.mg_of X G a4, k4, oc4, od4, kV4, dc4, pm4, an4, cd4, ct4, sl4, rfl, l4, c4⟩
  have F5 : FnF K mg "worth_by" s_worth_by f5 _ := ⟨PySem.W.mg_of X G a5, k5, oc5, od5, kV5, dc5, pm5, an5, cd5, ct5, sl5, rfl, l5, c5⟩
  have F6 : FnF K mg "worth" s_worth f6 _ := ⟨PySem.W.mg_of X G a6, k6, oc6, od6, kV6, dc6, pm6, an6, cd6, ct6, sl6, rfl, l6, c6⟩
  have F7 : FnF K mg "_law_feed" s__law_feed f7 _ := ⟨PySem.W.mg_of X G a7, k7, oc7, od7, kV7, dc7, pm7, an7, cd7, ct7, sl7, rfl, l7, c7⟩
  have F8 : FnF K mg "_law_draw" s__law_draw f8 _ := ⟨PySem.W.mg_of X G a8, k8, oc8, od8, kV8, dc8, pm8, an8, cd8, ct8, sl8, rfl, l8, c8⟩
  have F9 : FnF K mg "_law_value" s__law_value f9 _ := ⟨PySem.W.mg_of X G a9, k9, oc9, od9, kV9, dc9, pm9, an9, cd9, ct9, sl9, rfl, l9, c9⟩
  have F10 : FnF K mg "_law_sum" s__law_sum f10 _ := ⟨PySem.W.mg_of X G a10, k10, oc10, od10, kV10, dc10, pm10, an10, cd10, ct10, sl10, rfl, l10, c10⟩
  have F11 : FnF K mg "_law_counted" s__law_counted f11 _ := ⟨PySem.W.mg_of X G a11, k11, oc11, od11, kV11, dc11, pm11, an11, cd11, ct11, sl11, rfl, l11, c11⟩
  have F12 : FnF K mg "_law_worth" s__law_worth f12 _ := ⟨PySem.W.mg_of X G a12, k12, oc12, od12, kV12, dc12, pm12, an12, cd12, ct12, sl12, rfl, l12, c12⟩
  have F13 : FnF K mg "_law_bindings" s__law_bindings f13 _ := ⟨PySem.W.mg_of X G a13, k13, oc13, od13, kV13, dc13, pm13, an13, cd13, ct13, sl13, rfl, l13, c13⟩
  have F14 : FnF K mg "_law_by_hand" s__law_by_hand f14 _ := ⟨PySem.W.mg_of X G a14, k14, oc14, od14, kV14, dc14, pm14, an14, cd14, ct14, sl14, rfl, l14, c14⟩
  have F15 : FnF K mg "_law_bound_right" s__law_bound_right f15 _ := ⟨PySem.W.mg_of X G a15, k15, oc15, od15, kV15, dc15, pm15, an15, cd15, ct15, sl15, rfl, l15, c15⟩
  have F16 : FnF K mg "_law_great_right" s__law_great_right f16 _ := ⟨PySem.W.mg_of X G a16, k16, oc16, od16, kV16, dc16, pm16, an16, cd16, ct16, sl16, rfl, l16, c16⟩
  have F17 : FnF K mg "law" s_law f17 _ := ⟨PySem.W.mg_of X G a17, k17, oc17, od17, kV17, dc17, pm17, an17, cd17, ct17, sl17, rfl, l17, c17⟩
  let ad : Ad := ⟨f0, PySem.W.fnOf "is_whole" "is_whole" (defArgs s_is_whole) (defBody s_is_whole) (defScope s_is_whole) .none kV0 dc0 pm0 an0 cd0 ct0, f1, PySem.W.fnOf "bound" "bound" (defArgs s_bound) (defBody s_bound) (defScope s_bound) .none kV1 dc1 pm1 an1 cd1 ct1, f2, PySem.W.fnOf "counted" "counted" (defArgs s_counted) (defBody s_counted) (defScope s_counted) .none kV2 dc2 pm2 an2 cd2 ct2, f3, PySem.W.fnOf "double_worth" "double_worth" (defArgs s_double_worth) (defBody s_double_worth) (defScope s_double_worth) .none kV3 dc3 pm3 an3 cd3 ct3, f4, PySem.W.fnOf "lone_worth" "lone_worth" (defArgs s_lone_worth) (defBody s_lone_worth) (defScope s_lone_worth) .none kV4 dc4 pm4 an4 cd4 ct4, f5, PySem.W.fnOf "worth_by" "worth_by" (defArgs s_worth_by) (defBody s_worth_by) (defScope s_worth_by) .none kV5 dc5 pm5 an5 cd5 ct5, f6, PySem.W.fnOf "worth" "worth" (defArgs s_worth) (defBody s_worth) (defScope s_worth) .none kV6 dc6 pm6 an6 cd6 ct6, f7, PySem.W.fnOf "_law_feed" "_law_feed" (defArgs s__law_feed) (defBody s__law_feed) (defScope s__law_feed) .none kV7 dc7 pm7 an7 cd7 ct7, f8, PySem.W.fnOf "_law_draw" "_law_draw" (defArgs s__law_draw) (defBody s__law_draw) (defScope s__law_draw) .none kV8 dc8 pm8 an8 cd8 ct8, f9, PySem.W.fnOf "_law_value" "_law_value" (defArgs s__law_value) (defBody s__law_value) (defScope s__law_value) .none kV9 dc9 pm9 an9 cd9 ct9, f10, PySem.W.fnOf "_law_sum" "_law_sum" (defArgs s__law_sum) (defBody s__law_sum) (defScope s__law_sum) .none kV10 dc10 pm10 an10 cd10 ct10, f11, PySem.W.fnOf "_law_counted" "_law_counted" (defArgs s__law_counted) (defBody s__law_counted) (defScope s__law_counted) .none kV11 dc11 pm11 an11 cd11 ct11, f12, PySem.W.fnOf "_law_worth" "_law_worth" (defArgs s__law_worth) (defBody s__law_worth) (defScope s__law_worth) .none kV12 dc12 pm12 an12 cd12 ct12, f13, PySem.W.fnOf "_law_bindings" "_law_bindings" (defArgs s__law_bindings) (defBody s__law_bindings) (defScope s__law_bindings) .none kV13 dc13 pm13 an13 cd13 ct13, f14, PySem.W.fnOf "_law_by_hand" "_law_by_hand" (defArgs s__law_by_hand) (defBody s__law_by_hand) (defScope s__law_by_hand) .none kV14 dc14 pm14 an14 cd14 ct14, f15, PySem.W.fnOf "_law_bound_right" "_law_bound_right" (defArgs s__law_bound_right) (defBody s__law_bound_right) (defScope s__law_bound_right) .none kV15 dc15 pm15 an15 cd15 ct15, f16, PySem.W.fnOf "_law_great_right" "_law_great_right" (defArgs s__law_great_right) (defBody s__law_great_right) (defScope s__law_great_right) .none kV16 dc16 pm16 an16 cd16 ct16, f17, PySem.W.fnOf "law" "law" (defArgs s_law) (defBody s_law) (defScope s_law) .none kV17 dc17 pm17 an17 cd17 ct17, A0, A1, A2⟩
  have FW : FnD K mg "worth" s_worth f6 ad.d_worth [("bindings", .ref A2), ("address", .ref A0)] := by
    refine ⟨F6, D0, ⟨oc6, od6, dc6, pm6, an6, cd6, ct6, sl6, by rw [← e0]⟩, fun q hq => ?_⟩
    simp only [List.mem_cons, List.not_mem_nil, or_false] at hq
    rcases hq with rfl | rfl
    · exact ⟨_, e1, rfl⟩
    · exact ⟨_, e2, rfl⟩
  have T : Tx K mg ad := { f_is_whole := F0, f_bound := F1, f_counted := F2, f_double_worth := F3, f_lone_worth := F4, f_worth_by := F5, f_worth := F6, f__law_feed := F7, f__law_draw := F8, f__law_value := F9, f__law_sum := F10, f__law_counted := F11, f__law_worth := F12, f__law_bindings := F13, f__law_by_hand := F14, f__law_bound_right := F15, f__law_great_right := F16, f_law := F17, b_len := PySem.W.mg_none_of X G z_len, b_tuple := PySem.W.mg_none_of X G z_tuple, b_isinstance := PySem.W.mg_none_of X G z_isinstance, b_range := PySem.W.mg_none_of X G z_range, b_list := PySem.W.mg_none_of X G z_list, b_repr := PySem.W.mg_none_of X G z_repr, b_sorted := PySem.W.mg_none_of X G z_sorted, b_dict := PySem.W.mg_none_of X G z_dict, b_int := PySem.W.mg_none_of X G z_int, b_zip := PySem.W.mg_none_of X G z_zip, b_bool := PySem.W.mg_none_of X G z_bool, c_NOBODY := PySem.W.mg_of X G n0, d_NOBODY := .tup q0 (.cons (.str _) (.cons (.int _) (.cons (.int _) .nil))), c_DOUBLE := PySem.W.mg_of X G n1, d_DOUBLE := .tup q1 (.cons (.str _) (.cons (.str _) (.cons (.str _) (.cons (.str _) .nil)))), d_void := .tup q2 .nil, fd_worth := FW }
  have bF := (fun_mk (st := s__law_feed) l7 c7 k7).binds (ps := ["_law_script"]) fun _ _ _ _ _ _ us hl => match us, hl with | [_], _ => rfl
  exact law_run T (fun s u => .of_eq rfl) bF
theorem tuK {K : PySem.W.Frag} {a : Addr} {oc : Value} {its : Array Value} {n : Nat} {od : Option Addr} {sl : Array (Option Value)} {xs : List V} (h : K.lookup a = some ⟨oc, od, .seq its n, sl⟩) (hc : oc = .type "tuple") (hd : od = none) (hz : its.size ≤ sizeLine) (hv : Vals xs its.toList) : TuA K (fun _ => none) a xs :=
  .inr ⟨_, its, n, h, ⟨hc, hd⟩, rfl, hz, hv⟩
end K02
open PySem PySem.W PyProof.Rows
set_option maxRecDepth 100000 in
set_option maxHeartbeats 0 in
theorem PySem.Challenge.cw_letterfolk_k02_worths_holds : PySem.Challenge.rw_letterfolk_k02_worths.Holds := by
  w_on; o_law; k_head; (case hw => w_witness2)
  k_fill
  refine Dx.walk_law (l := PySem.Challenge.rw_letterfolk_k02_worths) (n := 63) rfl (by decide) rfl (fun w h Y => PySem.W.kIn_of Y) ?F
  case F =>
    intro w mg fa h KX G hmg
    refine' K02.all_mk KX G hmg ?a0 ?l0 ?c0 ?k0 ?a1 ?l1 ?c1 ?k1 ?a2 ?l2 ?c2 ?k2 ?a3 ?l3 ?c3 ?k3 ?a4 ?l4 ?c4 ?k4 ?a5 ?l5 ?c5 ?k5 ?a6 ?l6 ?c6 ?k6 ?a7 ?l7 ?c7 ?k7 ?a8 ?l8 ?c8 ?k8 ?a9 ?l9 ?c9 ?k9 ?a10 ?l10 ?c10 ?k10 ?a11 ?l11 ?c11 ?k11 ?a12 ?l12 ?c12 ?k12 ?a13 ?l13 ?c13 ?k13 ?a14 ?l14 ?c14 ?k14 ?a15 ?l15 ?c15 ?k15 ?a16 ?l16 ?c16 ?k16 ?a17 ?l17 ?c17 ?k17 ?z_len ?z_tuple ?z_isinstance ?z_range ?z_list ?z_repr ?z_sorted ?z_dict ?z_int ?z_zip ?z_bool ?n0 ?n1 ?q0 ?q1 ?q2 ?e0 ?e1 ?e2
    (case a0 => k_is)
    (case l0 => k_is)
    (case c0 => k_is)
    (case k0 => k_is)
    (case a1 => k_is)
    (case l1 => k_is)
    (case c1 => k_is)
    (case k1 => k_is)
    (case a2 => k_is)
    (case l2 => k_is)
    (case c2 => k_is)
    (case k2 => k_is)
    (case a3 => k_is)
    (case l3 => k_is)
    (case c3 => k_is)
    (case k3 => k_is)
    (case a4 => k_is)
    (case l4 => k_is)
    (case c4 => k_is)
    (case k4 => k_is)
    (case a5 => k_is)
    (case l5 => k_is)
    (case c5 => k_is)
    (case k5 => k_is)
    (case a6 => k_is)
    (case l6 => k_is)
    (case c6 => k_is)
    (case k6 => k_is)
    (case a7 => k_is)
    (case l7 => k_is)
    (case c7 => k_is)
    (case k7 => k_is)
    (case a8 => k_is)
    (case l8 => k_is)
    (case c8 => k_is)
    (case k8 => k_is)
    (case a9 => k_is)
    (case l9 => k_is)
    (case c9 => k_is)
    (case k9 => k_is)
    (case a10 => k_is)
    (case l10 => k_is)
    (case c10 => k_is)
    (case k10 => k_is)
    (case a11 => k_is)
    (case l11 => k_is)
    (case c11 => k_is)
    (case k11 => k_is)
    (case a12 => k_is)
    (case l12 => k_is)
    (case c12 => k_is)
    (case k12 => k_is)
    (case a13 => k_is)
    (case l13 => k_is)
    (case c13 => k_is)
    (case k13 => k_is)
    (case a14 => k_is)
    (case l14 => k_is)
    (case c14 => k_is)
    (case k14 => k_is)
    (case a15 => k_is)
    (case l15 => k_is)
    (case c15 => k_is)
    (case k15 => k_is)
    (case a16 => k_is)
    (case l16 => k_is)
    (case c16 => k_is)
    (case k16 => k_is)
    (case a17 => k_is)
    (case l17 => k_is)
    (case c17 => k_is)
    (case k17 => k_is)
    (case z_len => k_is)
    (case z_tuple => k_is)
    (case z_isinstance => k_is)
    (case z_range => k_is)
    (case z_list => k_is)
    (case z_repr => k_is)
    (case z_sorted => k_is)
    (case z_dict => k_is)
    (case z_int => k_is)
    (case z_zip => k_is)
    (case z_bool => k_is)
    (case n0 => k_is)
    (case n1 => k_is)
    (case e0 => rfl)
    (case e1 => k_is)
    (case e2 => k_is)
    (case q0 => refine' K02.tuK ?h1 ?h2 ?h3 ?h4 ?h5; (case h1 => k_is); (case h2 => rfl); (case h3 => rfl); (case h4 => decide); (case h5 => first | exact .nil | exact .cons ⟨_, rfl⟩ (.cons ⟨_, rfl⟩ (.cons ⟨_, rfl⟩ .nil)) | exact .cons ⟨_, rfl⟩ (.cons ⟨_, rfl⟩ (.cons ⟨_, rfl⟩ (.cons ⟨_, rfl⟩ .nil)))))
    (case q1 => refine' K02.tuK ?h1 ?h2 ?h3 ?h4 ?h5; (case h1 => k_is); (case h2 => rfl); (case h3 => rfl); (case h4 => decide); (case h5 => first | exact .nil | exact .cons ⟨_, rfl⟩ (.cons ⟨_, rfl⟩ (.cons ⟨_, rfl⟩ .nil)) | exact .cons ⟨_, rfl⟩ (.cons ⟨_, rfl⟩ (.cons ⟨_, rfl⟩ (.cons ⟨_, rfl⟩ .nil)))))
    (case q2 => refine' K02.tuK ?h1 ?h2 ?h3 ?h4 ?h5; (case h1 => k_is); (case h2 => rfl); (case h3 => rfl); (case h4 => decide); (case h5 => first | exact .nil | exact .cons ⟨_, rfl⟩ (.cons ⟨_, rfl⟩ (.cons ⟨_, rfl⟩ .nil)) | exact .cons ⟨_, rfl⟩ (.cons ⟨_, rfl⟩ (.cons ⟨_, rfl⟩ (.cons ⟨_, rfl⟩ .nil)))))
#print axioms PySem.Challenge.cw_letterfolk_k02_worths_holds
