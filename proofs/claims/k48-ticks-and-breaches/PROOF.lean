import PyProof.Rows.All
import Wide.All
import OpenK.AllK
import Wide.FinOn
import HandS.ForMost
import HandS.IsInst
import HandS.Flow
import HandS.Style
import HandS.Wide
import HandS.Defaults
import HandS.Conv
import HandS.Zip
import HandS.RaiseMore
import HandS.TupAny
import HandS.Lambda
import KE.KDictPairs
import HandS.More
import PyProof.ReprLen
import HandS.Strs
import HandS.Deep
import PyProof.Rows.StrMeet
import KE.GoesMore
import KE.GoesEnum
import HandS.SortInts
import HandS.SortKw
import PyProof.TupleOfStr
import HandS.Text
import KE.GoesZip
import KE.KDictZip
import KE.KItemsList
import PyProof.ListNew
import HandS.ListItems
import HandS.DictComp
import PyProof.Rows.IntBool
import KE.KRevSl
import HandS.ExcInit
import HandS.ExcField
import HandS.ExcIs
import KE.KExcIs
import HandS.EndTab
import PySem.Challenge.RW_letterfolk_k48_ticks_and_breaches
set_option Elab.async false
set_option linter.all false
set_option maxRecDepth 100000
set_option maxHeartbeats 4000000
namespace Dx
open PySem PySem.Spec L2

abbrev Dt := PyData
/-- a thing that may still be written, held by one slot -/
inductive Ob where
  | lst (xs : List Dt)
  | dic (kvs : List (Str × Dt))
  | hid (P : List (Str × Dt) → Prop)
  | oth (φ : PySem.W.Frag → Hp → Addr → HO → Prop)
/-- what a slot holds -/
inductive Dv where
  | dat (d : Dt)
  | obj (o : Ob)
  | inv (φ : PySem.W.Frag → Hp → V → Prop)
  | tab (P : Addr)
/-- what an expression gives: plain data, the very thing of slot i, a new thing -/
inductive Ev where
  | dat (d : Dt)
  | var (i : Nat)
  | new (o : Ob)
  | inv (φ : PySem.W.Frag → Hp → V → Prop)
abbrev Dn := List (Option Dv)

def TObj (o : Obj) : Prop := o.cls = .type "tuple" ∧ o.dict = none ∧ o.slots = #[]
def TuA (K : PySem.W.Frag) (F : Hp) (a : Addr) (xs : List V) : Prop := (∃ o, F a = some (.frz o (.tup xs)) ∧ TObj o) ∨
  ∃ (o : Obj) (its : Array Value) (n : Nat), K.lookup a = some o ∧ TObj o ∧ o.data = .seq its n ∧ its.size ≤ sizeLine ∧ Vals xs its.toList
theorem TuA.sq {K : PySem.W.Frag} {F : Hp} {a : Addr} {xs : List V} (h : TuA K F a xs) : SqT K F a xs := by
  rcases h with ⟨o, h, _⟩ | ⟨o, its, n, h1, h2, h3⟩
  · exact .inl (.inr ⟨o, h⟩)
  · exact .inr ⟨o, its, n, h1, h2.1, h3⟩
mutual
inductive Rp (K : PySem.W.Frag) (F : Hp) : V → Dt → Prop
  | non : Rp K F .non .none
  | bl (b : Bool) : Rp K F (.bl b) (.bool b)
  | int (i : Int) : Rp K F (.int i) (.int i)
  | str (x : Str) : Rp K F (.str x) (.str x)
  | lst {a : Addr} {xs : List V} {ds : List Dt} : F a = some (.lst xs) → RpAll K F xs ds → Rp K F (.ref a) (.list ds)
  | tup {a : Addr} {xs : List V} {ds : List Dt} : TuA K F a xs → RpAll K F xs ds → Rp K F (.ref a) (.tuple ds)
inductive RpAll (K : PySem.W.Frag) (F : Hp) : List V → List Dt → Prop
  | nil : RpAll K F [] []
  | cons {v : V} {vs : List V} {d : Dt} {ds : List Dt} : Rp K F v d → RpAll K F vs ds → RpAll K F (v :: vs) (d :: ds)
end
section
variable {K : PySem.W.Frag} {F G H H' : Hp}
theorem seqT_same {a : Addr} {xs : List V} (e : Same F G) (h : TuA K F a xs) : TuA K G a xs := by
  rcases h with ⟨o, h, ho⟩ | h
  · exact .inl ⟨o, e _ _ h, ho⟩
  · exact .inr h
mutual
theorem dp_same (e : Same F G) : ∀ {v : V} {d : Dt}, Rp K F v d → Rp K G v d
  | _, _, .non => .non
  | _, _, .bl b => .bl b
  | _, _, .int i => .int i
  | _, _, .str x => .str x
  | _, _, .lst s t => .lst (e _ _ s) (dpAll_same e t)
  | _, _, .tup s t => .tup (seqT_same e s) (dpAll_same e t)
theorem dpAll_same (e : Same F G) : ∀ {vs : List V} {ds : List Dt}, RpAll K F vs ds → RpAll K G vs ds
  | _, _, .nil => .nil
  | _, _, .cons h t => .cons (dp_same e h) (dpAll_same e t)
end
mutual
theorem Rp.dp : ∀ {v : V} {d : Dt}, Rp K F v d → Dp K F v d
  | _, _, .non => .non
  | _, _, .bl b => .bl b
  | _, _, .int i => .int i
  | _, _, .str x => .str x
  | _, _, .lst s t => .lst (SqL.of s) (RpAll.dp t)
  | _, _, .tup s t => .tup s.sq (RpAll.dp t)
theorem RpAll.dp : ∀ {vs : List V} {ds : List Dt}, RpAll K F vs ds → DpAll K F vs ds
  | _, _, .nil => .nil
  | _, _, .cons h t => .cons (Rp.dp h) (RpAll.dp t)
end
theorem RpAll.length : ∀ {vs : List V} {ds : List Dt}, RpAll K F vs ds → vs.length = ds.length
  | _, _, .nil => rfl
  | _, _, .cons _ t => by simp [RpAll.length t]
theorem RpAll.get : ∀ {vs : List V} {ds : List Dt} {i : Nat} {d : Dt}, RpAll K F vs ds → ds[i]? = some d → ∃ v, vs[i]? = some v ∧ Rp K F v d
  | _, _, _, _, .nil, e => by simp at e
  | _, _, 0, _, .cons h _, e => by simp at e; subst e; exact ⟨_, rfl, h⟩
  | _, _, i + 1, _, .cons _ t, e => by
    obtain ⟨v, h1, h2⟩ := RpAll.get (i := i) t (by simpa using e)
    exact ⟨v, by simpa using h1, h2⟩
theorem RpAll.getV : ∀ {vs : List V} {ds : List Dt} {i : Nat} {v : V}, RpAll K F vs ds → vs[i]? = some v → ∃ d, ds[i]? = some d ∧ Rp K F v d
  | _, _, _, _, .nil, e => by simp at e
  | _, _, 0, _, .cons h _, e => by simp at e; subst e; exact ⟨_, rfl, h⟩
  | _, _, i + 1, _, .cons _ t, e => by
    obtain ⟨v, h1, h2⟩ := RpAll.getV (i := i) t (by simpa using e)
    exact ⟨v, by simpa using h1, h2⟩
theorem RpAll.append : ∀ {vs us : List V} {ds es : List Dt}, RpAll K F vs ds → RpAll K F us es → RpAll K F (vs ++ us) (ds ++ es)
  | _, _, _, _, .nil, s => s
  | _, _, _, _, .cons r t, s => .cons r (RpAll.append t s)
theorem RpAll.take : ∀ {vs : List V} {ds : List Dt} (n : Nat), RpAll K F vs ds → RpAll K F (vs.take n) (ds.take n)
  | _, _, 0, _ => .nil
  | _, _, _ + 1, .nil => .nil
  | _, _, n + 1, .cons r t => .cons r (RpAll.take n t)
theorem RpAll.drop : ∀ {vs : List V} {ds : List Dt} (n : Nat), RpAll K F vs ds → RpAll K F (vs.drop n) (ds.drop n)
  | _, _, 0, r => r
  | _, _, _ + 1, .nil => .nil
  | _, _, n + 1, .cons _ t => RpAll.drop n t
theorem RpAll.reverse : ∀ {vs : List V} {ds : List Dt}, RpAll K F vs ds → RpAll K F vs.reverse ds.reverse
  | _, _, .nil => .nil
  | _, _, .cons r t => by
    rw [List.reverse_cons, List.reverse_cons]
    exact RpAll.append (RpAll.reverse t) (.cons r .nil)
theorem RpAll.snoc {vs : List V} {ds : List Dt} {v : V} {d : Dt} (a : RpAll K F vs ds) (h : Rp K F v d) : RpAll K F (vs ++ [v]) (ds ++ [d]) := RpAll.append a (.cons h .nil)
end

def KvR (K : PySem.W.Frag) (F : Hp) : List (Key × V) → List (Str × Dt) → Prop
  | [], [] => True
  | (k, v) :: r, (x, d) :: s => k = Sum.inr x ∧ Rp K F v d ∧ KvR K F r s
  | _, _ => False
theorem kvR_same {K : PySem.W.Frag} {F G : Hp} (e : Same F G) : ∀ {a : List (Key × V)} {b : List (Str × Dt)}, KvR K F a b → KvR K G a b
  | [], [], _ => trivial
  | (_, _) :: _, (_, _) :: _, ⟨h1, h2, h3⟩ => ⟨h1, dp_same e h2, kvR_same e h3⟩
  | [], _ :: _, h => h.elim
  | _ :: _, [], h => h.elim
/-- no table of code objects -/
def NB (o : HO) : Prop := ∀ ps, o ≠ .tbl ps
/-- nor a code object -/
def NT (o : HO) : Prop := NB o ∧ ∀ (c : Addr) (q : Str), o ≠ LamX.CodeO c q
def RepO (K : PySem.W.Frag) (F H : Hp) (p : Addr) : Ob → Prop
  | .lst xs => ∃ vs, H p = some (.lst vs) ∧ RpAll K F vs xs
  | .dic kvs => ∃ vs, H p = some (.dK vs) ∧ KvR K F vs kvs
  | .hid P => ∃ kvs vs, P kvs ∧ H p = some (.dK vs) ∧ KvR K F vs kvs
  | .oth φ => ∃ (u : HO) (F0 : Hp), H p = some u ∧ NT u ∧ Same F0 F ∧ φ K F0 p u
theorem RepO.some {K : PySem.W.Frag} {F H : Hp} {p : Addr} {o : Ob} (h : RepO K F H p o) : ∃ u, H p = some u := by
  cases o with
  | lst xs => obtain ⟨vs, h, _⟩ := h; exact ⟨_, h⟩
  | dic xs => obtain ⟨vs, h, _⟩ := h; exact ⟨_, h⟩
  | hid P => obtain ⟨_, vs, _, h, _⟩ := h; exact ⟨_, h⟩
  | oth φ => obtain ⟨u, _, h, _⟩ := h; exact ⟨u, h⟩
theorem RepO.nt {K : PySem.W.Frag} {F H : Hp} {p : Addr} {o : Ob} {u : HO} (h : RepO K F H p o) (e : H p = .some u) : NT u := by
  cases o with
  | lst xs => obtain ⟨vs, h, _⟩ := h; rw [h] at e; cases e; exact ⟨(fun _ z => nomatch z), (fun _ _ z => nomatch z)⟩
  | dic xs => obtain ⟨vs, h, _⟩ := h; rw [h] at e; cases e; exact ⟨(fun _ z => nomatch z), (fun _ _ z => nomatch z)⟩
  | hid P => obtain ⟨_, vs, _, h, _⟩ := h; rw [h] at e; cases e; exact ⟨(fun _ z => nomatch z), (fun _ _ z => nomatch z)⟩
  | oth φ => obtain ⟨u', _, h, n, _⟩ := h; rw [h] at e; cases e; exact n
theorem RepO.move {K : PySem.W.Frag} {F G H H' : Hp} {p : Addr} {o : Ob} (h : RepO K F H p o) (e : Same F G) (k : H' p = H p) : RepO K G H' p o := by
  cases o with
  | lst xs => obtain ⟨vs, h, r⟩ := h; exact ⟨vs, k.trans h, dpAll_same e r⟩
  | dic xs => obtain ⟨vs, h, r⟩ := h; exact ⟨vs, k.trans h, kvR_same e r⟩
  | hid P => obtain ⟨kvs, vs, q, h, r⟩ := h; exact ⟨kvs, vs, q, k.trans h, kvR_same e r⟩
  | oth φ => obtain ⟨u, F0, h, n, s, q⟩ := h; exact ⟨u, F0, k.trans h, n, s.trans e, q⟩

/-- what the code objects of the law's lambdas are called -/
def lamNm : Str := "law.<locals>.<lambda>"
/-- the table at P, the only one: its code objects bear that name -/
def TabF (F H : Hp) (P : Addr) : Prop := F P = none ∧ (∃ ps : Array Value, H P = some (.tbl ps) ∧ TriplesOk ps.toList ∧ ∀ (pos : Pos) (cv : Value), codeAmong pos ps.toList = some cv → ∃ c, cv = .ref c ∧ H c = some (LamX.CodeO c lamNm)) ∧ ∀ a ps, H a = some (.tbl ps) → a = P
section
variable {F G H : Hp} {P p : Addr} {o u : HO}
theorem TabF.ne (h : TabF F H P) (e : H p = some o) (n : NB o) : P ≠ p := fun z => by
  obtain ⟨_, ⟨ps, h1, _⟩, _⟩ := h
  rw [z, e] at h1
  exact n ps (Option.some.inj h1)
theorem TabF.ne0 (h : TabF F H P) (e : H p = none) : P ≠ p := fun z => by
  obtain ⟨_, ⟨ps, h1, _⟩, _⟩ := h
  rw [z, e] at h1
  cases h1
theorem TabF.setF (h : TabF F H P) (e : P ≠ p) : TabF (upd F p o) H P := ⟨by rw [upd_ne e]; exact h.1, h.2⟩
theorem TabF.setH (h : TabF F H P) (n : NB o) (e : P ≠ p) (hc : ∀ c, H c = some (LamX.CodeO c lamNm) → c ≠ p) : TabF F (upd H p o) P := by
  obtain ⟨h0, ⟨ps, h1, h2, h3⟩, h4⟩ := h
  refine ⟨h0, ⟨ps, by rw [upd_ne e]; exact h1, h2, fun pos cv z => ?_⟩, fun a ps z => ?_⟩
  · obtain ⟨c, e1, e2⟩ := h3 pos cv z
    exact ⟨c, e1, by rw [upd_ne (hc c e2)]; exact e2⟩
  · by_cases k : a = p
    · rw [k, upd_same] at z; exact absurd (Option.some.inj z) (n ps)
    · rw [upd_ne k] at z; exact h4 a ps z
theorem TabF.fresh (h : TabF F H P) (hp : H p = none) (n : NB o) : TabF F (upd H p o) P := h.setH n (h.ne0 hp) fun c e z => by rw [z, hp] at e; cases e
theorem TabF.over (h : TabF F H P) (hp : H p = some u) (nu : NT u) (n : NB o) : TabF F (upd H p o) P := h.setH n (h.ne hp nu.1) fun c e z => by
  rw [z, hp] at e
  exact nu.2 _ _ (Option.some.inj e)
end
theorem nb_tup {xs : List V} : NB (.tup xs) := fun _ z => nomatch z
theorem nt_tup {xs : List V} : NT (.tup xs) := ⟨(fun _ z => nomatch z), (fun _ _ z => nomatch z)⟩
theorem nt_lst {xs : List V} : NT (.lst xs) := ⟨(fun _ z => nomatch z), (fun _ _ z => nomatch z)⟩
theorem nt_dK {xs : List (Key × V)} : NT (.dK xs) := ⟨(fun _ z => nomatch z), (fun _ _ z => nomatch z)⟩
def RepV (K : PySem.W.Frag) (F H : Hp) (v : V) : Dv → Prop
  | .dat d => Rp K F v d
  | .obj o => ∃ p, v = .ref p ∧ F p = none ∧ RepO K F H p o
  | .inv φ => ∃ F0, Same F0 F ∧ φ K F0 v
  | .tab P => TabF F H P

/-- slot i's thing stands at a -/
def Ow (σ : St) (env : Dn) (a : Addr) : Prop := ∃ (i : Nat) (o : Ob), env[i]? = some (some (Dv.obj o)) ∧ σ[i]? = some (some (V.ref a))

structure Rep (K : PySem.W.Frag) (F H : Hp) (σ : St) (env : Dn) : Prop where
  sub : Same F H
  len : env.length = σ.length
  val : ∀ (i : Nat) (dv : Dv), env[i]? = some (some dv) → ∃ v, σ[i]? = some (some v) ∧ RepV K F H v dv
  inj : ∀ (i j : Nat) (o o' : Ob) (p : Addr), env[i]? = some (some (.obj o)) → env[j]? = some (some (.obj o')) → σ[i]? = some (some (.ref p)) → σ[j]? = some (some (.ref p)) → i = j

/-- from one state to a later one -/
structure Ext (σ : St) (env : Dn) (F H : Hp) (σ' : St) (env' : Dn) (F' H' : Hp) : Prop where
  same : Same F F'
  keep : ∀ a o, H a = some o → ¬ Ow σ env a → NB o → H' a = some o
  there : ∀ a o, H a = some o → ∃ o', H' a = some o'
  new : ∀ a o, F' a = some o → F a = none → H a = none ∨ Ow σ env a
  ow : ∀ a, Ow σ' env' a → Ow σ env a ∨ H a = none
  tab : ∀ P, TabF F H P → TabF F' H' P
theorem Ext.refl {σ : St} {env : Dn} {F H : Hp} : Ext σ env F H σ env F H :=
  ⟨Same.refl _, fun _ _ h _ _ => h, fun _ o h => ⟨o, h⟩, fun a o h n => (by rw [n] at h; cases h), fun _ h => .inl h, fun _ h => h⟩
theorem Ext.trans {σ σ1 σ2 : St} {env env1 env2 : Dn} {F F1 F2 H H1 H2 : Hp} (a : Ext σ env F H σ1 env1 F1 H1) (b : Ext σ1 env1 F1 H1 σ2 env2 F2 H2) : Ext σ env F H σ2 env2 F2 H2 := by
  have back : ∀ p o, H p = some o → ¬ Ow σ env p → ¬ Ow σ1 env1 p := fun p o h n w => by
    rcases a.ow p w with z | z
    · exact n z
    · rw [h] at z; cases z
  refine ⟨a.same.trans b.same, fun p o h n t => b.keep p o (a.keep p o h n t) (back p o h n) t, fun p o h => ?_, fun p o h n => ?_, fun p h => ?_, fun P h => b.tab P (a.tab P h)⟩
  · obtain ⟨o1, h1⟩ := a.there p o h
    exact b.there p o1 h1
  · by_cases z : Ow σ env p
    · exact .inr z
    · cases q : H p with
      | none => exact .inl rfl
      | some u =>
        cases q1 : F1 p with
        | some w =>
          rcases a.new p w q1 n with z' | z'
          · rw [q] at z'; cases z'
          · exact absurd z' z
        | none =>
          rcases b.new p o h q1 with z' | z'
          · obtain ⟨u', zu⟩ := a.there p u q
            rw [zu] at z'; cases z'
          · exact absurd z' (back p u q z)
  · rcases b.ow p h with z | z
    · exact a.ow p z
    · cases q : H p with
      | none => exact .inr rfl
      | some u =>
        obtain ⟨o1, h1⟩ := a.there p u q
        rw [h1] at z; cases z

def RepE (K : PySem.W.Frag) (F H : Hp) (σ : St) (env : Dn) (H0 : Hp) (v : V) : Ev → Prop
  | .dat d => Rp K F v d
  | .var i => σ[i]? = some (some v)
  | .new o => ∃ p, v = .ref p ∧ F p = none ∧ RepO K F H p o ∧ ¬ Ow σ env p ∧ H0 p = none
  | .inv φ => ∃ F0, Same F0 F ∧ φ K F0 v
theorem RepE.move {K : PySem.W.Frag} {F F' H H' H0 : Hp} {σ : St} {env env' : Dn} {v : V} {ev : Ev} (h : RepE K F H σ env H0 v ev) (e : Ext σ env F H σ env' F' H') : RepE K F' H' σ env' H0 v ev := by
  cases ev with
  | dat d => exact dp_same e.same h
  | var i => exact h
  | inv φ => obtain ⟨F0, s, q⟩ := h; exact ⟨F0, s.trans e.same, q⟩
  | new o =>
    obtain ⟨p, hv, hf, r, n, h0⟩ := h
    obtain ⟨u, hu⟩ := r.some
    have hk := e.keep p u hu n (r.nt hu).1
    refine ⟨p, hv, ?_, r.move e.same (hk.trans hu.symm), fun w => ?_, h0⟩
    · cases q : F' p with
      | none => rfl
      | some w =>
        rcases e.new p w q hf with z | z
        · rw [hu] at z; cases z
        · exact absurd z n
    · rcases e.ow p w with z | z
      · exact n z
      · rw [hu] at z; cases z
theorem RepE.back {K : PySem.W.Frag} {F H H0 H1 : Hp} {σ : St} {env : Dn} {v : V} {ev : Ev} (h : RepE K F H σ env H1 v ev) (e : ∀ a o, H0 a = some o → ∃ o', H1 a = some o') : RepE K F H σ env H0 v ev := by
  cases ev with
  | dat d => exact h
  | var i => exact h
  | inv φ => exact h
  | new o =>
    obtain ⟨p, hv, hf, r, n, h0⟩ := h
    refine ⟨p, hv, hf, r, n, ?_⟩
    cases q : H0 p with
    | none => rfl
    | some u =>
      obtain ⟨o', z⟩ := e p u q
      rw [h0] at z; cases z

abbrev Dk := Ev → Dn → Prop
abbrev DT := Dn → Dk → Prop
def MonoD (t : DT) : Prop := ∀ (env : Dn) (Q Q' : Dk), (∀ ev env', Q ev env' → Q' ev env') → t env Q → t env Q'
def tD (K : PySem.W.Frag) (t : DT) : TE := fun σ H Q => ∃ F env, Rep K F H σ env ∧ t env fun ev env' => ∀ F' H' v, Ext σ env F H σ env' F' H' → Rep K F' H' σ env' → RepE K F' H' σ env' H v ev → Q v H'
structure DE (X : Cx) (e : Expr) (t : DT) : Prop where
  mono : MonoD t
  run : PE X e (tD X.K t)
abbrev DTb := Dn → (Bool → Dn → Prop) → Prop
def MonoB (t : DTb) : Prop := ∀ (env : Dn) (Q Q' : Bool → Dn → Prop), (∀ ev env', Q ev env' → Q' ev env') → t env Q → t env Q'
def tDb (K : PySem.W.Frag) (t : DTb) : TT := fun σ H Q => ∃ F env, Rep K F H σ env ∧ t env fun b env' => ∀ F' H', Ext σ env F H σ env' F' H' → Rep K F' H' σ env' → Q b H'
structure DB (X : Cx) (e : Expr) (t : DTb) : Prop where
  mono : MonoB t
  run : PT X e (tDb X.K t)
structure DW (X : Cx) (e : Expr) (t : DTb) : Prop where
  mono : MonoB t
  run : PW X e (tDb X.K t)
abbrev DTa := Dn → (List Ev → Dn → Prop) → Prop
def MonoA (t : DTa) : Prop := ∀ (env : Dn) (Q Q' : List Ev → Dn → Prop), (∀ ev env', Q ev env' → Q' ev env') → t env Q → t env Q'
/-- the value of a new thing at p is among these -/
def NewAt (p : Addr) : List V → List Ev → Prop
  | v :: vs, e :: es => (v = .ref p ∧ ∃ o, e = .new o) ∨ NewAt p vs es
  | _, _ => False
inductive RepA (K : PySem.W.Frag) (F H : Hp) (σ : St) (env : Dn) (H0 : Hp) : List V → List Ev → Prop
  | nil : RepA K F H σ env H0 [] []
  | cons {v : V} {vs : List V} {e : Ev} {es : List Ev} : RepE K F H σ env H0 v e → RepA K F H σ env H0 vs es → (∀ p o, v = .ref p → e = .new o → ¬ NewAt p vs es) → RepA K F H σ env H0 (v :: vs) (e :: es)
theorem RepA.back {K : PySem.W.Frag} {F H H0 H1 : Hp} {σ : St} {env : Dn} : ∀ {vs : List V} {es : List Ev}, RepA K F H σ env H1 vs es → (∀ a o, H0 a = some o → ∃ o', H1 a = some o') → RepA K F H σ env H0 vs es
  | _, _, .nil, _ => .nil
  | _, _, .cons h t n, e => .cons (h.back e) (t.back e) n
theorem RepA.length {K : PySem.W.Frag} {F H H0 : Hp} {σ : St} {env : Dn} : ∀ {vs : List V} {es : List Ev}, RepA K F H σ env H0 vs es → vs.length = es.length
  | _, _, .nil => rfl
  | _, _, .cons _ t _ => by simp [t.length]
theorem RepA.newNone {K : PySem.W.Frag} {F H H0 : Hp} {σ : St} {env : Dn} {p : Addr} : ∀ {vs : List V} {es : List Ev}, RepA K F H σ env H0 vs es → NewAt p vs es → H0 p = none
  | _, _, .nil, n => n.elim
  | _, _, .cons h t _, n => by
    rcases n with ⟨rfl, o, rfl⟩ | n
    · obtain ⟨q, e, _, _, _, z⟩ := h
      cases e
      exact z
    · exact t.newNone n
def tDa (K : PySem.W.Frag) (t : DTa) : TA := fun σ H Q => ∃ F env, Rep K F H σ env ∧ t env fun evs env' => ∀ F' H' vs, Ext σ env F H σ env' F' H' → Rep K F' H' σ env' → RepA K F' H' σ env' H vs evs → Q vs H'
structure DA (X : Cx) (es : List Expr) (t : DTa) : Prop where
  mono : MonoA t
  run : PA X es (tDa X.K t)
theorem _root_.L2.PE.mono {X : Cx} {e : Expr} {t t' : TE} (h : PE X e t) (i : ∀ σ H Q, t' σ H Q → t σ H Q) : PE X e t' := ⟨fun pins s σ H Q I q => h.run pins s σ H Q I (i σ H Q q)⟩
theorem _root_.L2.PT.mono {X : Cx} {e : Expr} {t t' : TT} (h : PT X e t) (i : ∀ σ H Q, t' σ H Q → t σ H Q) : PT X e t' := ⟨fun pins s σ H Q I q => h.run pins s σ H Q I (i σ H Q q)⟩
theorem _root_.L2.PW.mono {X : Cx} {e : Expr} {t t' : TT} (h : PW X e t) (i : ∀ σ H Q, t' σ H Q → t σ H Q) : PW X e t' := ⟨fun w pins s σ H Q I q => h.run w pins s σ H Q I (i σ H Q q)⟩
theorem _root_.L2.PA.mono {X : Cx} {e : List Expr} {t t' : TA} (h : PA X e t) (i : ∀ σ H Q, t' σ H Q → t σ H Q) : PA X e t' := ⟨fun p pins s σ H Q I q => h.run p pins s σ H Q I (i σ H Q q)⟩
theorem _root_.L2.PS.mono {X : Cx} {e : Stmt} {t t' : TS} (h : PS X e t) (i : ∀ D σ H, t' D σ H → t D σ H) : PS X e t' := ⟨fun pins s σ H D I q => h.run pins s σ H D I (i D σ H q)⟩
theorem _root_.L2.PSs.mono {X : Cx} {e : List Stmt} {t t' : TS} (h : PSs X e t) (i : ∀ D σ H, t' D σ H → t D σ H) : PSs X e t' := ⟨fun pins s σ H D I q => h.run pins s σ H D I (i D σ H q)⟩

/-- the data that a value shows in the state env -/
def rs (env : Dn) : Ev → Option Dt
  | .dat d => some d
  | .var i => match env[i]? with
    | some (some (.dat d)) => some d
    | some (some (.obj (.lst xs))) => some (.list xs)
    | _ => none
  | .new (.lst xs) => some (.list xs)
  | .new _ => none
  | .inv _ => none
/-- the top of a data: what stands within is in F -/
inductive Tp (K : PySem.W.Frag) (F H : Hp) : V → Dt → Prop
  | non : Tp K F H .non .none
  | bl (b : Bool) : Tp K F H (.bl b) (.bool b)
  | int (i : Int) : Tp K F H (.int i) (.int i)
  | str (x : Str) : Tp K F H (.str x) (.str x)
  | lst {a : Addr} {xs : List V} {ds : List Dt} : H a = some (.lst xs) → RpAll K F xs ds → Tp K F H (.ref a) (.list ds)
  | tup {a : Addr} {xs : List V} {ds : List Dt} : TuA K F a xs → RpAll K F xs ds → Tp K F H (.ref a) (.tuple ds)
theorem Tp.of {K : PySem.W.Frag} {F H : Hp} {v : V} {d : Dt} (e : Same F H) (h : Rp K F v d) : Tp K F H v d := by
  cases h with
  | non => exact .non
  | bl b => exact .bl b
  | int i => exact .int i
  | str x => exact .str x
  | lst s t => exact .lst (e _ _ s) t
  | tup s t => exact .tup s t
theorem Tp.rp {K : PySem.W.Frag} {F H : Hp} {v : V} {d : Dt} (e : Same F H) (h : Tp K F H v d) : Rp K H v d := by
  cases h with
  | non => exact .non
  | bl b => exact .bl b
  | int i => exact .int i
  | str x => exact .str x
  | lst s t => exact .lst s (dpAll_same e t)
  | tup s t => exact .tup (seqT_same e s) (dpAll_same e t)
theorem tp_of {K : PySem.W.Frag} {F H H0 : Hp} {σ : St} {env : Dn} {v : V} {ev : Ev} {d : Dt} (R : Rep K F H σ env) (h : RepE K F H σ env H0 v ev) (e : rs env ev = some d) : Tp K F H v d := by
  cases ev with
  | dat d' => cases e; exact .of R.sub h
  | var i =>
    simp only [rs] at e
    split at e
    · rename_i d' q
      cases e
      obtain ⟨v', e1, e2⟩ := R.val i _ q
      rw [show σ[i]? = some (some v) from h] at e1; cases e1
      exact .of R.sub e2
    · rename_i xs q
      cases e
      obtain ⟨v', e1, p, e3, e4, vs, e5, e6⟩ := R.val i _ q
      rw [show σ[i]? = some (some v) from h] at e1; cases e1
      subst e3
      exact .lst e5 e6
    · cases e
  | new o =>
    cases o with
    | lst xs =>
      cases e
      obtain ⟨p, e3, e4, ⟨vs, e5, e6⟩, _⟩ := h
      subst e3
      exact .lst e5 e6
    | dic _ => cases e
    | hid _ => cases e
    | oth _ => cases e
  | inv φ => cases e
open PySem PySem.Spec L2

def wr {α : Type} (o : Option α) (Q : α → Prop) : Prop := match o with
  | some a => Q a
  | none => False
theorem wr_get {α : Type} {o : Option α} {Q : α → Prop} (h : wr o Q) : ∃ a, o = some a ∧ Q a := by
  cases o with
  | none => exact h.elim
  | some a => exact ⟨a, rfl, h⟩
theorem wr_mono {α : Type} {o : Option α} {Q Q' : α → Prop} (i : ∀ a, Q a → Q' a) (h : wr o Q) : wr o Q' := by
  cases o with
  | none => exact h.elim
  | some a => exact i a h
theorem wr_of {α : Type} {o : Option α} {Q : α → Prop} {a : α} (e : o = some a) (h : Q a) : wr o Q := by subst e; exact h

section
variable {K : PySem.W.Frag} {F H : Hp} {σ : L2.St} {env : Dn} {p : Addr} {o : HO}
theorem Rep.fnone (R : Rep K F H σ env) (hp : H p = none) : F p = none := by
  cases q : F p with
  | none => rfl
  | some u => rw [R.sub p u q] at hp; cases hp
theorem Rep.ow_some (R : Rep K F H σ env) {a : Addr} (w : Ow σ env a) : ∃ u, H a = some u ∧ F a = none := by
  obtain ⟨i, ob, e1, e2⟩ := w
  obtain ⟨v, e3, q, e4, e5, r⟩ := R.val i _ e1
  rw [e2] at e3; cases e3; cases e4
  obtain ⟨u, hu⟩ := r.some
  exact ⟨u, hu, e5⟩
theorem Rep.not_ow (R : Rep K F H σ env) (hp : H p = none) : ¬ Ow σ env p := fun w => by
  obtain ⟨u, hu, _⟩ := R.ow_some w
  rw [hp] at hu; cases hu
theorem same_upd (hp : F p = none) : Same F (upd F p o) := fun a u h => by
  rw [upd_ne (ne_of_none h hp)]; exact h
theorem Rep.grow (R : Rep K F H σ env) (hp : H p = none) (o : HO) (nt : NB o := by exact fun _ z => nomatch z) : Rep K (upd F p o) (upd H p o) σ env ∧ Ext σ env F H σ env (upd F p o) (upd H p o) := by
  have hf := R.fnone hp
  have sm : Same F (upd F p o) := same_upd hf
  refine ⟨⟨fun a u h => ?_, R.len, fun i dv e => ?_, R.inj⟩, ⟨sm, fun a u h _ _ => ?_, fun a u h => ?_, fun a u h n => ?_, fun _ w => .inl w, fun _ t => (t.fresh hp nt).setF (t.ne0 hp)⟩⟩
  · by_cases q : a = p
    · subst q; rw [upd_same] at h ⊢; exact h
    · rw [upd_ne q] at h ⊢; exact R.sub a u h
  · obtain ⟨v, e1, r⟩ := R.val i dv e
    refine ⟨v, e1, ?_⟩
    cases dv with
    | dat d => exact dp_same sm r
    | inv φ => obtain ⟨F0, s0, q0⟩ := r; exact ⟨F0, s0.trans sm, q0⟩
    | tab P => exact TabF.setF (TabF.fresh r hp nt) (TabF.ne0 r hp)
    | obj ob =>
      obtain ⟨q, e2, e3, r⟩ := r
      obtain ⟨u, hu⟩ := r.some
      have ne : q ≠ p := ne_of_none hu hp
      exact ⟨q, e2, by rw [upd_ne ne]; exact e3, r.move sm (upd_ne ne)⟩
  · rw [upd_ne (ne_of_none h hp)]; exact h
  · exact ⟨u, by rw [upd_ne (ne_of_none h hp)]; exact h⟩
  · by_cases q : a = p
    · subst q; exact .inl hp
    · rw [upd_ne q] at h; rw [n] at h; cases h
theorem Rep.growN (R : Rep K F H σ env) (hp : H p = none) (o : HO) (nt : NB o := by exact fun _ z => nomatch z) : Rep K F (upd H p o) σ env ∧ Ext σ env F H σ env F (upd H p o) := by
  refine ⟨⟨fun a u h => ?_, R.len, fun i dv e => ?_, R.inj⟩, ⟨Same.refl _, fun a u h _ _ => ?_, fun a u h => ?_, fun a u h n => ?_, fun _ w => .inl w, fun _ t => t.fresh hp nt⟩⟩
  · have z := R.sub a u h
    rw [upd_ne (ne_of_none z hp)]; exact z
  · obtain ⟨v, e1, r⟩ := R.val i dv e
    refine ⟨v, e1, ?_⟩
    cases dv with
    | dat d => exact r
    | inv φ => exact r
    | tab P => exact TabF.fresh r hp nt
    | obj ob =>
      obtain ⟨q, e2, e3, r⟩ := r
      obtain ⟨u, hu⟩ := r.some
      exact ⟨q, e2, e3, r.move (Same.refl _) (upd_ne (ne_of_none hu hp))⟩
  · rw [upd_ne (ne_of_none h hp)]; exact h
  · exact ⟨u, by rw [upd_ne (ne_of_none h hp)]; exact h⟩
  · rw [n] at h; cases h
/-- a list that nobody's slot holds becomes plain -/
theorem Rep.seal (R : Rep K F H σ env) (hf : F p = none) (hp : H p = some o) (n : ¬ Ow σ env p) (nt : NB o := by exact fun _ z => nomatch z) : Rep K (upd F p o) H σ env := by
  have sm : Same F (upd F p o) := same_upd hf
  refine ⟨fun a u h => ?_, R.len, fun i dv e => ?_, R.inj⟩
  · by_cases q : a = p
    · subst q; rw [upd_same] at h; rw [hp]; exact h
    · rw [upd_ne q] at h; exact R.sub a u h
  · obtain ⟨v, e1, r⟩ := R.val i dv e
    refine ⟨v, e1, ?_⟩
    cases dv with
    | dat d => exact dp_same sm r
    | inv φ => obtain ⟨F0, s0, q0⟩ := r; exact ⟨F0, s0.trans sm, q0⟩
    | tab P => exact TabF.setF r (TabF.ne r hp nt)
    | obj ob =>
      obtain ⟨q, e2, e3, r⟩ := r
      have ne : q ≠ p := fun z => n ⟨i, ob, e, by rw [e1, e2, z]⟩
      exact ⟨q, e2, by rw [upd_ne ne]; exact e3, r.move sm rfl⟩
end

/-- what an operation gives: a thing that stood, or a new list or tuple of things that stood -/
inductive Res (K : PySem.W.Frag) (F H : Hp) : Hp → V → Dt → Prop
  | old {v : V} {d : Dt} : Rp K F v d → Res K F H H v d
  | lst {p : Addr} {vs : List V} {ds : List Dt} : H p = none → RpAll K F vs ds → Res K F H (upd H p (.lst vs)) (.ref p) (.list ds)
  | tup {p : Addr} {o : Obj} {vs : List V} {ds : List Dt} : H p = none → TObj o → RpAll K F vs ds → Res K F H (upd H p (.frz o (.tup vs))) (.ref p) (.tuple ds)
theorem Res.frz {K : PySem.W.Frag} {F H H' : Hp} {σ : L2.St} {env : Dn} {v : V} {d : Dt} (R : Rep K F H σ env) (r : Res K F H H' v d) : ∃ F', Ext σ env F H σ env F' H' ∧ Rep K F' H' σ env ∧ Rp K F' v d := by
  cases r with
  | old r => exact ⟨F, Ext.refl, R, r⟩
  | lst hp r =>
    obtain ⟨R', E⟩ := R.grow hp (.lst _)
    exact ⟨_, E, R', .lst upd_same (dpAll_same E.same r)⟩
  | @tup p o vs ds hp ho r =>
    obtain ⟨R', E⟩ := R.grow hp (.frz o (.tup vs))
    exact ⟨_, E, R', .tup (.inl ⟨o, upd_same, ho⟩) (dpAll_same E.same r)⟩

section
variable {X : Cx}
def kC (d : Dt) : DT := fun env Q => Q (.dat d) env
theorem de_c {e : Expr} {v : V} {d : Dt} (h : PE X e (tC v)) (r : Rp X.K (fun _ => none) v d) : DE X e (kC d) := by
  refine ⟨fun env Q Q' i h => i _ _ h, h.mono fun σ H Q => ?_⟩
  rintro ⟨F, env, R, q⟩
  exact q F H v Ext.refl R (dp_same (fun _ u z => absurd (show (none : Option HO) = some u from z) (by simp)) r)
theorem de_int {i j pos} : DE X (.Constant (.int i) j pos) (kC (.int i)) := de_c pe_int (.int i)
theorem de_bl {i j pos} : DE X (.Constant (.bool i) j pos) (kC (.bool i)) := de_c pe_bl (.bl i)
theorem de_str {i j pos} : DE X (.Constant (.str i) j pos) (kC (.str i)) := de_c pe_str (.str i)
theorem de_non {j pos} : DE X (.Constant .none j pos) (kC .none) := de_c pe_non .non
/-- a name of the module that holds plain data -/
theorem de_glob {x : Str} {v : V} {u : Value} {d : Dt} {pos : Pos} (hg : Gl X x) (hm : X.mg x = some u) (r : RelV v u) (q : Rp X.K (fun _ => none) v d) (hd : (x == ("__debug__" : Str)) = false := by decide) : DE X (.Name x pos) (kC d) :=
  de_c (pe_glob hg hm r hd) q
def kVar (i : Nat) : DT := fun env Q => match env[i]? with
  | some (some (.dat d)) => Q (.dat d) env
  | some (some (.obj _)) => Q (.var i) env
  | _ => False
theorem de_var (i : Nat) {x : Str} {pos : Pos} (hN : X.N[i]? = some x := by rfl) (hv : Vis X.env.scope x := by first | exact Or.inl rfl | exact Or.inr (Or.inl rfl) | exact Or.inr (Or.inr rfl)) (hd : (x == ("__debug__" : Str)) = false := by decide)
    (hcd : (x == ("__classdict__" : Str)) = false := by decide) : DE X (.Name x pos) (kVar i) := by
  refine ⟨fun env Q Q' i h => ?_, (pe_var hN hv hd hcd).mono fun σ H Q => ?_⟩
  · unfold kVar at h ⊢
    split <;> simp_all
  · rintro ⟨F, env, R, q⟩
    unfold kVar at q
    split at q
    · rename_i d e
      obtain ⟨v, e1, r⟩ := R.val i _ e
      exact ⟨v, e1, q F H v Ext.refl R r⟩
    · rename_i o e
      obtain ⟨v, e1, r⟩ := R.val i _ e
      exact ⟨v, e1, q F H v Ext.refl R e1⟩
    · exact q.elim
theorem set_get {α : Type} {l : List (Option α)} {i j : Nat} {x : Option α} {y : α} (h : (l.set i x)[j]? = some (some y)) : (j = i ∧ x = some y ∧ i < l.length) ∨ (j ≠ i ∧ l[j]? = some (some y)) := by
  by_cases e : j = i
  · subst e
    by_cases hl : j < l.length
    · rw [List.getElem?_set_self hl] at h
      exact .inl ⟨rfl, Option.some.inj h, hl⟩
    · rw [List.getElem?_eq_none (by simpa using hl)] at h; cases h
  · rw [List.getElem?_set_ne (Ne.symm e)] at h
    exact .inr ⟨e, h⟩
/-- the thing of slot i becomes plain -/
theorem Rep.freeze {K : PySem.W.Frag} {F H : Hp} {σ : L2.St} {env : Dn} {i : Nat} {p : Addr} {xs : List Dt} {vs : List V} (R : Rep K F H σ env) (e : env[i]? = some (some (.obj (.lst xs)))) (es : σ[i]? = some (some (.ref p))) (hf : F p = none) (hp : H p = some (.lst vs)) (ha : RpAll K F vs xs) :
    Rep K (upd F p (.lst vs)) H σ (env.set i (some (.dat (.list xs)))) ∧ Ext σ env F H σ (env.set i (some (.dat (.list xs)))) (upd F p (.lst vs)) H := by
  have sm : Same F (upd F p (.lst vs)) := same_upd hf
  refine ⟨⟨fun a u h => ?_, by rw [List.length_set]; exact R.len, fun j dv q => ?_, fun j k o o' a h1 h2 h3 h4 => ?_⟩, ⟨sm, fun _ _ h _ _ => h, fun _ u h => ⟨u, h⟩, fun a u h n => ?_, fun a w => .inl ?_, fun _ t => t.setF (t.ne hp nt_lst.1)⟩⟩
  · by_cases q : a = p
    · subst q; rw [upd_same] at h; rw [hp]; exact h
    · rw [upd_ne q] at h; exact R.sub a u h
  · rcases set_get q with ⟨rfl, q, _⟩ | ⟨ne, q⟩
    · cases q
      exact ⟨_, es, .lst upd_same (dpAll_same sm ha)⟩
    · obtain ⟨v, e1, r⟩ := R.val j dv q
      refine ⟨v, e1, ?_⟩
      cases dv with
      | dat d => exact dp_same sm r
      | inv φ => obtain ⟨F0, s0, q0⟩ := r; exact ⟨F0, s0.trans sm, q0⟩
      | tab P => exact TabF.setF r (TabF.ne r hp nt_lst.1)
      | obj ob =>
        obtain ⟨a, e2, e3, r⟩ := r
        have nep : a ≠ p := fun z => ne (R.inj j i ob _ p q e (by rw [e1, e2, z]) es)
        exact ⟨a, e2, by rw [upd_ne nep]; exact e3, r.move sm rfl⟩
  · rcases set_get h1 with ⟨_, z, _⟩ | ⟨_, h1⟩
    · cases z
    · rcases set_get h2 with ⟨_, z, _⟩ | ⟨_, h2⟩
      · cases z
      · exact R.inj j k o o' a h1 h2 h3 h4
  · by_cases q : a = p
    · subst q; exact .inr ⟨i, _, e, es⟩
    · rw [upd_ne q] at h; rw [n] at h; cases h
  · obtain ⟨j, o, q, h⟩ := w
    rcases set_get q with ⟨_, z, _⟩ | ⟨_, q⟩
    · cases z
    · exact ⟨j, o, q, h⟩
def kFrz (i : Nat) : DT := fun env Q => match env[i]? with
  | some (some (.dat d)) => Q (.dat d) env
  | some (some (.obj (.lst xs))) => Q (.dat (.list xs)) (env.set i (some (.dat (.list xs))))
  | _ => False
theorem de_frz (i : Nat) {x : Str} {pos : Pos} (hN : X.N[i]? = some x := by rfl) (hv : Vis X.env.scope x := by first | exact Or.inl rfl | exact Or.inr (Or.inl rfl) | exact Or.inr (Or.inr rfl)) (hd : (x == ("__debug__" : Str)) = false := by decide)
    (hcd : (x == ("__classdict__" : Str)) = false := by decide) : DE X (.Name x pos) (kFrz i) := by
  refine ⟨fun env Q Q' i h => ?_, (pe_var hN hv hd hcd).mono fun σ H Q => ?_⟩
  · unfold kFrz at h ⊢
    split <;> simp_all
  · rintro ⟨F, env, R, q⟩
    unfold kFrz at q
    split at q
    · rename_i d e
      obtain ⟨v, e1, r⟩ := R.val i _ e
      exact ⟨v, e1, q F H v Ext.refl R r⟩
    · rename_i xs e
      obtain ⟨v, e1, p, e2, hf, vs, hp, ha⟩ := R.val i _ e
      subst e2
      obtain ⟨R', E⟩ := R.freeze e e1 hf hp ha
      exact ⟨_, e1, q _ H _ E R' (.lst upd_same (dpAll_same E.same ha))⟩
    · exact q.elim

def kNil : DTa := fun env Q => Q [] env
def kCons (t : DT) (u : DTa) : DTa := fun env Q => t env fun ev env1 => u env1 fun evs env2 => Q (ev :: evs) env2
theorem da_nil : DA X [] kNil := by
  refine ⟨fun env Q Q' i h => i _ _ h, pa_nil.mono fun σ H Q => ?_⟩
  rintro ⟨F, env, R, q⟩
  exact q F H [] Ext.refl R .nil
theorem da_cons {e : Expr} {es : List Expr} {t : DT} {u : DTa} (ha : DE X e t) (hr : DA X es u) (hs : starEach (e :: es) X.env = (false, eval e X.env) :: starEach es X.env := by rfl) : DA X (e :: es) (kCons t u) := by
  refine ⟨fun env Q Q' i h => ha.mono _ _ _ (fun ev env1 h1 => hr.mono _ _ _ (fun evs env2 h2 => i _ _ h2) h1) h, (pa_cons ha.run hr.run hs).mono fun σ H Q => ?_⟩
  rintro ⟨F, env, R, q⟩
  refine ⟨F, env, R, ha.mono _ _ _ (fun ev env1 h1 F1 H1 v E1 R1 V1 => ⟨F1, env1, R1, hr.mono _ _ _ (fun evs env2 h2 F2 H2 vs E2 R2 V2 => ?_) h1⟩) q⟩
  refine h2 F2 H2 (v :: vs) (E1.trans E2) R2 (.cons (V1.move E2) (V2.back E1.there) fun p o e1 e2 nw => ?_)
  have z := V2.newNone nw
  subst e1 e2
  obtain ⟨q, e, _, r, _⟩ := V1
  cases e
  obtain ⟨u, hu⟩ := r.some
  rw [z] at hu; cases hu
def asD : List Ev → (List Dt → Prop) → Prop
  | [], Q => Q []
  | .dat d :: r, Q => asD r fun ds => Q (d :: ds)
  | _ :: _, _ => False
theorem asD_get : ∀ {evs : List Ev} {Q : List Dt → Prop}, asD evs Q → ∃ ds, evs = ds.map Ev.dat ∧ Q ds
  | [], _, h => ⟨[], rfl, h⟩
  | .dat d :: r, _, h => by
    obtain ⟨ds, e, q⟩ := asD_get (evs := r) h
    exact ⟨d :: ds, by rw [e]; rfl, q⟩
  | .var _ :: _, _, h => h.elim
  | .new _ :: _, _, h => h.elim
theorem asD_mono : ∀ {evs : List Ev} {Q Q' : List Dt → Prop}, (∀ ds, Q ds → Q' ds) → asD evs Q → asD evs Q'
  | [], _, _, i, h => i _ h
  | .dat d :: r, _, _, i, h => asD_mono (evs := r) (fun ds q => i _ q) h
  | .var _ :: _, _, _, _, h => h.elim
  | .new _ :: _, _, _, _, h => h.elim
theorem RepA.dats {K : PySem.W.Frag} {F H H0 : Hp} {σ : L2.St} {env : Dn} : ∀ {vs : List V} {ds : List Dt}, RepA K F H σ env H0 vs (ds.map Ev.dat) → RpAll K F vs ds
  | _, [], h => by cases h; exact .nil
  | _, d :: ds, h => by
    cases h with
    | cons h t _ => exact .cons h (RepA.dats t)
def lenOk (n : Nat) : Prop := n ≤ sizeLine
theorem lenOk_lit {n : Nat} (h : n ≤ 1000) : lenOk n := Nat.le_trans h (by decide)
/-- a new tuple, its object told -/
theorem lay_tup {pins : List (Addr × Obj)} {σ : L2.St} {H : Hp} {s : Shared} {xs : List V} {us : List Value} {Q : VK} (I : Inv X pins σ H s) (r : Vals xs us) (hz : xs.length ≤ sizeLine) (q : ∀ p o, H p = none → TObj o → Q (.ref p) (upd H p (.frz o (.tup xs)))) :
    EP X pins σ Q (.ref s.heap.objs.size) { s with heap := s.heap.push { cls := .type "tuple", data := .seq us.toArray } } := by
  have hf : H s.heap.objs.size = none := I.hok.fresh (Nat.le_refl _)
  refine ⟨.ref s.heap.objs.size, upd H s.heap.objs.size (.frz { cls := .type "tuple", data := .seq us.toArray } (.tup xs)), ?_, rfl, q _ _ hf ⟨rfl, rfl, rfl⟩⟩
  refine I.laid (t' := s.toks) (fun b u e => Heap.get?_push_of_some _ e) (Nat.le_refl _) ⟨Heap.get?_push_size _ rfl, ?_⟩
  exact ⟨hz, us, r, PyProof.Rows.IsTup.new _ _⟩
def tTupF (t : TA) : TE := fun σ H Q => t σ H fun xs H1 => xs.length ≤ sizeLine ∧ ∀ p o, H1 p = none → TObj o → Q (.ref p) (upd H1 p (.frz o (.tup xs)))
theorem pe_tupF {es : List Expr} {t : TA} {x1} {pos : Pos} (h : PA X es t) : PE X (.Tuple es x1 pos) (tTupF t) := by
  constructor
  intro pins s σ H Q I hq
  apply wpAny_Tuple_spliced
  refine thn (h.run pos pins s σ H _ I hq) ?_
  rintro us s1 ⟨xs, H1, I1, r, z, q⟩
  exact ⟨by rw [← r.length]; exact z, lay_tup I1 r z q⟩
def kTup (t : DTa) : DT := fun env Q => t env fun evs env1 => asD evs fun ds => lenOk ds.length ∧ Q (.dat (.tuple ds)) env1
theorem de_tup {es : List Expr} {t : DTa} {x1} {pos : Pos} (h : DA X es t) : DE X (.Tuple es x1 pos) (kTup t) := by
  refine ⟨fun env Q Q' i q => h.mono _ _ _ (fun evs env1 q => asD_mono (fun ds q => ⟨q.1, i _ _ q.2⟩) q) q, (pe_tupF h.run).mono fun σ H Q => ?_⟩
  rintro ⟨F, env, R, q⟩
  refine ⟨F, env, R, h.mono _ _ _ (fun evs env1 q F1 H1 vs E1 R1 V1 => ?_) q⟩
  obtain ⟨ds, rfl, z, q⟩ := asD_get q
  have a := V1.dats
  refine ⟨by rw [a.length]; exact z, fun p o hp ho => ?_⟩
  obtain ⟨F2, E2, R2, r2⟩ := Res.frz R1 (Res.tup (K := X.K) hp ho a)
  exact q F2 _ _ (E1.trans E2) R2 r2

abbrev DTl := Dn → (List Dt → Dn → Prop) → Prop
def MonoL (t : DTl) : Prop := ∀ (env : Dn) (Q Q' : List Dt → Dn → Prop), (∀ ev env', Q ev env' → Q' ev env') → t env Q → t env Q'
def tDl (K : PySem.W.Frag) (t : DTl) : TE := fun σ H Q => ∃ F env, Rep K F H σ env ∧ t env fun ds env' => ∀ F' H' p vs, Ext σ env F H σ env' F' H' → Rep K F' H' σ env' → F' p = none → H' p = some (.lst vs) → RpAll K F' vs ds → ¬ Ow σ env' p → H p = none → Q (.ref p) H'
structure DL (X : Cx) (e : Expr) (t : DTl) : Prop where
  mono : MonoL t
  run : PE X e (tDl X.K t)
def kLF (t : DTl) : DT := fun env Q => t env fun ds env' => Q (.dat (.list ds)) env'
def kLN (t : DTl) : DT := fun env Q => t env fun ds env' => Q (.new (.lst ds)) env'
theorem dl_F {e : Expr} {t : DTl} (h : DL X e t) : DE X e (kLF t) := by
  refine ⟨fun env Q Q' i q => h.mono _ _ _ (fun ds env1 q => i _ _ q) q, h.run.mono fun σ H Q => ?_⟩
  rintro ⟨F, env, R, q⟩
  refine ⟨F, env, R, h.mono _ _ _ (fun ds env1 q F1 H1 p vs E1 R1 hf hp a n h0 => ?_) q⟩
  have R2 := R1.seal hf hp n
  refine q (upd F1 p (.lst vs)) H1 (.ref p) ⟨E1.same.trans (same_upd hf), E1.keep, E1.there, fun b u z zn => ?_, E1.ow, fun _ t => (E1.tab _ t).setF ((E1.tab _ t).ne hp nt_lst.1)⟩ R2 (.lst upd_same (dpAll_same (same_upd hf) a))
  by_cases e : b = p
  · subst e; exact .inl h0
  · rw [upd_ne e] at z; exact E1.new b u z zn
theorem dl_N {e : Expr} {t : DTl} (h : DL X e t) : DE X e (kLN t) := by
  refine ⟨fun env Q Q' i q => h.mono _ _ _ (fun ds env1 q => i _ _ q) q, h.run.mono fun σ H Q => ?_⟩
  rintro ⟨F, env, R, q⟩
  refine ⟨F, env, R, h.mono _ _ _ (fun ds env1 q F1 H1 p vs E1 R1 hf hp a n h0 => ?_) q⟩
  exact q F1 H1 (.ref p) E1 R1 ⟨p, rfl, hf, ⟨vs, hp, a⟩, n, h0⟩
def kLst (t : DTa) : DTl := fun env Q => t env fun evs env1 => asD evs fun ds => lenOk ds.length ∧ Q ds env1
theorem dl_lst {es : List Expr} {t : DTa} {pos : Pos} (h : DA X es t) : DL X (.List es pos) (kLst t) := by
  refine ⟨fun env Q Q' i q => h.mono _ _ _ (fun evs env1 q => asD_mono (fun ds q => ⟨q.1, i _ _ q.2⟩) q) q, (pe_lst h.run).mono fun σ H Q => ?_⟩
  rintro ⟨F, env, R, q⟩
  refine ⟨F, env, R, h.mono _ _ _ (fun evs env1 q F1 H1 vs E1 R1 V1 => ?_) q⟩
  obtain ⟨ds, rfl, z, q⟩ := asD_get q
  have a := V1.dats
  refine ⟨by rw [a.length]; exact z, fun p hp => ?_⟩
  obtain ⟨R2, E2⟩ := R1.growN hp (.lst vs)
  refine q F1 _ p vs (E1.trans E2) R2 (R1.fnone hp) upd_same a (R1.not_ow hp) ?_
  cases e : H p with
  | none => rfl
  | some u =>
    obtain ⟨u', z⟩ := E1.there p u e
    rw [hp] at z; cases z

def LkOp (K : PySem.W.Frag) (r : R2) (f : Dt → Dt → Option Dt) : Prop := ∀ (F H : Hp) (x y : V) (dx dy d : Dt) (Q : VK), Same F H → Tp K F H x dx → Tp K F H y dy → f dx dy = some d → (∀ H' v, Res K F H H' v d → Q v H') → r x y H Q
def kOp (f : Dt → Dt → Option Dt) (ta tb : DT) : DT := fun env Q => ta env fun a env1 => tb env1 fun b env2 => wr (rs env2 a) fun dx => wr (rs env2 b) fun dy => wr (f dx dy) fun d => Q (.dat d) env2
theorem kOp_mono {f : Dt → Dt → Option Dt} {ta tb : DT} (ma : MonoD ta) (mb : MonoD tb) : MonoD (kOp f ta tb) := fun env Q Q' i q =>
  ma _ _ _ (fun a env1 q => mb _ _ _ (fun b env2 q => wr_mono (fun dx q => wr_mono (fun dy q => wr_mono (fun d q => i _ _ q) q) q) q) q) q
theorem kOp_run {a b : Expr} {ta tb : DT} {r : R2} {f : Dt → Dt → Option Dt} (lk : LkOp X.K r f) (ha : DE X a ta) (hb : DE X b tb) {σ : L2.St} {H : Hp} {Q : VK} (h : tD X.K (kOp f ta tb) σ H Q) : tOp r (tD X.K ta) (tD X.K tb) σ H Q := by
  obtain ⟨F, env, R, q⟩ := h
  refine ⟨F, env, R, ha.mono _ _ _ (fun ea env1 h1 F1 H1 x E1 R1 V1 => ⟨F1, env1, R1, hb.mono _ _ _ (fun eb env2 h2 F2 H2 y E2 R2 V2 => ?_) h1⟩) q⟩
  obtain ⟨dx, e1, h2⟩ := wr_get h2
  obtain ⟨dy, e2, h2⟩ := wr_get h2
  obtain ⟨d, e3, h2⟩ := wr_get h2
  refine lk F2 H2 x y dx dy d Q R2.sub (tp_of R2 (V1.move E2) e1) (tp_of R2 V2 e2) e3 fun H3 v r => ?_
  obtain ⟨F3, E3, R3, r3⟩ := Res.frz R2 r
  exact h2 F3 H3 v ((E1.trans E2).trans E3) R3 r3
theorem de_op {a b : Expr} {ta tb : DT} {r : R2} {f : Dt → Dt → Option Dt} {op : Operator} {pos : Pos} (ho : OpR X (binaryOp op) r) (lk : LkOp X.K r f) (ha : DE X a ta) (hb : DE X b tb) : DE X (.BinOp a op b pos) (kOp f ta tb) :=
  ⟨kOp_mono ha.mono hb.mono, (pe_op ho ha.run hb.run).mono fun _ _ _ h => kOp_run lk ha hb h⟩
theorem de_cmp {a b : Expr} {ta tb : DT} {r : R2} {f : Dt → Dt → Option Dt} {op : CmpOp} {pos : Pos} (ho : OpR X (compareOp op) r) (lk : LkOp X.K r f) (ha : DE X a ta) (hb : DE X b tb) (hm : behindInMarks op b = false) : DE X (.Compare a [op] [b] pos) (kOp f ta tb) :=
  ⟨kOp_mono ha.mono hb.mono, (pe_cmpR ho ha.run hb.run hm).mono fun _ _ _ h => kOp_run lk ha hb h⟩
def asB : Ev → (Bool → Prop) → Prop
  | .dat (.bool b), Q => Q b
  | _, _ => False
theorem asB_get {ev : Ev} {Q : Bool → Prop} (h : asB ev Q) : ∃ b, ev = .dat (.bool b) ∧ Q b := by
  unfold asB at h
  split at h
  · exact ⟨_, rfl, h⟩
  · exact h.elim
def kB (t : DT) : DTb := fun env Q => t env fun ev env1 => asB ev fun b => Q b env1
theorem kB_mono {t : DT} (m : MonoD t) : MonoB (kB t) := fun env Q Q' i q => m _ _ _ (fun ev env1 q => by
  obtain ⟨b, rfl, q⟩ := asB_get q
  exact i _ _ q) q
theorem tB_of {t : DT} (m : MonoD t) {σ : L2.St} {H : Hp} {Q : Bool → Hp → Prop} (h : tDb X.K (kB t) σ H Q) : tD X.K t σ H fun x H1 => ∃ k, x = .bl k ∧ Q k H1 := by
  obtain ⟨F, env, R, q⟩ := h
  refine ⟨F, env, R, m _ _ _ (fun ev env1 q F1 H1 v E1 R1 V1 => ?_) q⟩
  obtain ⟨b, rfl, q⟩ := asB_get q
  have V1 : Rp X.K F1 v (.bool b) := V1
  cases V1
  exact ⟨b, rfl, q F1 H1 E1 R1⟩
theorem db_cmp {a b : Expr} {ta tb : DT} {r : R2} {f : Dt → Dt → Option Dt} {op : CmpOp} {pos : Pos} (ho : OpR X (compareOp op) r) (lk : LkOp X.K r f) (ha : DE X a ta) (hb : DE X b tb) (hm : behindInMarks op b = false) : DB X (.Compare a [op] [b] pos) (kB (kOp f ta tb)) := by
  have m : MonoD (kOp f ta tb) := kOp_mono ha.mono hb.mono
  exact ⟨kB_mono m, (pt_cmpR ho ha.run hb.run hm).mono fun _ _ _ h => kOp_run lk ha hb (tB_of m h)⟩
theorem db_val {e : Expr} {t : DT} (h : DE X e t) (he : ∀ whole, isTrue e X.env whole = (do let v ← whole; standAt e.pos; holding [v] (truthy v)) := by intro _; rfl) : DB X e (kB t) :=
  ⟨kB_mono h.mono, (pt_val h.run he).mono fun _ _ _ q => tB_of h.mono q⟩

def kAndB (t u : DTb) : DTb := fun env Q => t env fun b env1 => if b = true then u env1 Q else Q false env1
def kOrB (t u : DTb) : DTb := fun env Q => t env fun b env1 => if b = true then Q true env1 else u env1 Q
def kNotB (t : DTb) : DTb := fun env Q => t env fun b env1 => Q (!b) env1
theorem kAndB_mono {t u : DTb} (m : MonoB t) (n : MonoB u) : MonoB (kAndB t u) := fun env Q Q' i q => m _ _ _ (fun b env1 q => by
  cases b
  · exact i _ _ q
  · exact n _ _ _ i q) q
theorem kOrB_mono {t u : DTb} (m : MonoB t) (n : MonoB u) : MonoB (kOrB t u) := fun env Q Q' i q => m _ _ _ (fun b env1 q => by
  cases b
  · exact n _ _ _ i q
  · exact i _ _ q) q
theorem dw_and1 {a : Expr} {t : DTb} {pos : Pos} (h : DB X a t) : DW X (.BoolOp .And [a] pos) t := ⟨h.mono, pw_and1 h.run⟩
theorem dw_or1 {a : Expr} {t : DTb} {pos : Pos} (h : DB X a t) : DW X (.BoolOp .Or [a] pos) t := ⟨h.mono, pw_or1 h.run⟩
theorem dw_and {a b : Expr} {rest : List Expr} {t u : DTb} {pos : Pos} (h : DB X a t) (g : DW X (.BoolOp .And (b :: rest) pos) u) : DW X (.BoolOp .And (a :: b :: rest) pos) (kAndB t u) := by
  refine ⟨kAndB_mono h.mono g.mono, (pw_and h.run g.run).mono fun σ H Q => ?_⟩
  rintro ⟨F, env, R, q⟩
  refine ⟨F, env, R, h.mono _ _ _ (fun b env1 q F1 H1 E1 R1 => ?_) q⟩
  cases b
  · exact q F1 H1 E1 R1
  · exact ⟨F1, env1, R1, g.mono _ _ _ (fun b2 env2 q F2 H2 E2 R2 => q F2 H2 (E1.trans E2) R2) q⟩
theorem dw_or {a b : Expr} {rest : List Expr} {t u : DTb} {pos : Pos} (h : DB X a t) (g : DW X (.BoolOp .Or (b :: rest) pos) u) : DW X (.BoolOp .Or (a :: b :: rest) pos) (kOrB t u) := by
  refine ⟨kOrB_mono h.mono g.mono, (pw_or h.run g.run).mono fun σ H Q => ?_⟩
  rintro ⟨F, env, R, q⟩
  refine ⟨F, env, R, h.mono _ _ _ (fun b env1 q F1 H1 E1 R1 => ?_) q⟩
  cases b
  · exact ⟨F1, env1, R1, g.mono _ _ _ (fun b2 env2 q F2 H2 E2 R2 => q F2 H2 (E1.trans E2) R2) q⟩
  · exact q F1 H1 E1 R1
theorem dw_b {e : Expr} {t : DTb} (h : DW X e t) : DB X e t := ⟨h.mono, h.run.pt⟩
theorem db_not {a : Expr} {t : DTb} {pos : Pos} (h : DB X a t) : DB X (.UnaryOp .Not a pos) (kNotB t) := by
  refine ⟨fun env Q Q' i q => h.mono _ _ _ (fun b env1 q => i _ _ q) q, (pt_not h.run).mono fun σ H Q => ?_⟩
  rintro ⟨F, env, R, q⟩
  exact ⟨F, env, R, q⟩
def kIf (t : DTb) (ta tb : DT) : DT := fun env Q => t env fun b env1 => if b = true then ta env1 Q else tb env1 Q
theorem de_if {c a b : Expr} {t : DTb} {ta tb : DT} {pos : Pos} (h : DB X c t) (ha : DE X a ta) (hb : DE X b tb) : DE X (.IfExp c a b pos) (kIf t ta tb) := by
  refine ⟨fun env Q Q' i q => h.mono _ _ _ (fun b env1 q => ?_) q, (pe_ifExp h.run ha.run hb.run).mono fun σ H Q => ?_⟩
  · cases b
    · exact hb.mono _ _ _ i q
    · exact ha.mono _ _ _ i q
  · rintro ⟨F, env, R, q⟩
    refine ⟨F, env, R, h.mono _ _ _ (fun b env1 q F1 H1 E1 R1 => ?_) q⟩
    cases b
    · exact ⟨F1, env1, R1, hb.mono _ _ _ (fun b2 env2 q F2 H2 v E2 R2 V2 => q F2 H2 v (E1.trans E2) R2 (V2.back E1.there)) q⟩
    · exact ⟨F1, env1, R1, ha.mono _ _ _ (fun b2 env2 q F2 H2 v E2 R2 V2 => q F2 H2 v (E1.trans E2) R2 (V2.back E1.there)) q⟩
/-- as values: all but the last are truths -/
def kAndV (t u : DT) : DT := fun env Q => t env fun ev env1 => asB ev fun b => if b = true then u env1 Q else Q (.dat (.bool false)) env1
def kOrV (t u : DT) : DT := fun env Q => t env fun ev env1 => asB ev fun b => if b = true then Q (.dat (.bool true)) env1 else u env1 Q
def kNotV (t : DT) : DT := fun env Q => t env fun ev env1 => asB ev fun b => Q (.dat (.bool (!b))) env1
theorem de_one {op} {a : Expr} {t : DT} {pos : Pos} (h : DE X a t) : DE X (.BoolOp op [a] pos) t := ⟨h.mono, pe_one h.run⟩
theorem de_and {a b : Expr} {rest : List Expr} {t u : DT} {pos : Pos} (h : DE X a t) (g : DE X (.BoolOp .And (b :: rest) pos) u) : DE X (.BoolOp .And (a :: b :: rest) pos) (kAndV t u) := by
  refine ⟨fun env Q Q' i q => h.mono _ _ _ (fun ev env1 q => ?_) q, (pe_and h.run g.run).mono fun σ H Q => ?_⟩
  · obtain ⟨b, rfl, q⟩ := asB_get q
    cases b
    · exact i _ _ q
    · exact g.mono _ _ _ i q
  · rintro ⟨F, env, R, q⟩
    refine ⟨F, env, R, h.mono _ _ _ (fun ev env1 q F1 H1 v E1 R1 V1 => ?_) q⟩
    obtain ⟨b, rfl, q⟩ := asB_get q
    have V1 : Rp X.K F1 v (.bool b) := V1
    cases V1
    refine ⟨b, rfl, ?_⟩
    cases b
    · exact q F1 H1 (.bl false) E1 R1 (.bl false)
    · exact ⟨F1, env1, R1, g.mono _ _ _ (fun b2 env2 q F2 H2 v E2 R2 V2 => q F2 H2 v (E1.trans E2) R2 (V2.back E1.there)) q⟩
theorem de_or {a b : Expr} {rest : List Expr} {t u : DT} {pos : Pos} (h : DE X a t) (g : DE X (.BoolOp .Or (b :: rest) pos) u) : DE X (.BoolOp .Or (a :: b :: rest) pos) (kOrV t u) := by
  refine ⟨fun env Q Q' i q => h.mono _ _ _ (fun ev env1 q => ?_) q, (pe_or h.run g.run).mono fun σ H Q => ?_⟩
  · obtain ⟨b, rfl, q⟩ := asB_get q
    cases b
    · exact g.mono _ _ _ i q
    · exact i _ _ q
  · rintro ⟨F, env, R, q⟩
    refine ⟨F, env, R, h.mono _ _ _ (fun ev env1 q F1 H1 v E1 R1 V1 => ?_) q⟩
    obtain ⟨b, rfl, q⟩ := asB_get q
    have V1 : Rp X.K F1 v (.bool b) := V1
    cases V1
    refine ⟨b, rfl, ?_⟩
    cases b
    · exact ⟨F1, env1, R1, g.mono _ _ _ (fun b2 env2 q F2 H2 v E2 R2 V2 => q F2 H2 v (E1.trans E2) R2 (V2.back E1.there)) q⟩
    · exact q F1 H1 (.bl true) E1 R1 (.bl true)
theorem de_not {a : Expr} {t : DT} {pos : Pos} (h : DE X a t) : DE X (.UnaryOp .Not a pos) (kNotV t) := by
  refine ⟨fun env Q Q' i q => h.mono _ _ _ (fun ev env1 q => ?_) q, (pe_not h.run).mono fun σ H Q => ?_⟩
  · obtain ⟨b, rfl, q⟩ := asB_get q
    exact i _ _ q
  · rintro ⟨F, env, R, q⟩
    refine ⟨F, env, R, h.mono _ _ _ (fun ev env1 q F1 H1 v E1 R1 V1 => ?_) q⟩
    obtain ⟨b, rfl, q⟩ := asB_get q
    have V1 : Rp X.K F1 v (.bool b) := V1
    cases V1
    exact ⟨b, rfl, q F1 H1 (.bl (!b)) E1 R1 (.bl (!b))⟩
end
open PySem PySem.Spec L2

def addD : Dt → Dt → Option Dt
  | .int a, .int b => some (.int (a + b))
  | .str a, .str b => if a.length + b.length ≤ sizeLine then some (.str (a ++ b)) else none
  | .list a, .list b => if a.length + b.length ≤ sizeLine then some (.list (a ++ b)) else none
  | .tuple a, .tuple b => if a.length + b.length ≤ sizeLine then some (.tuple (a ++ b)) else none
  | _, _ => none
def intD (g : Int → Int → Int) : Dt → Dt → Option Dt
  | .int a, .int b => some (.int (g a b))
  | _, _ => none
def intDc (C : Int → Int → Prop) [∀ a b, Decidable (C a b)] (g : Int → Int → Int) : Dt → Dt → Option Dt
  | .int a, .int b => if C a b then some (.int (g a b)) else none
  | _, _ => none
def cmpD (g : Int → Int → Bool) : Dt → Dt → Option Dt
  | .int a, .int b => some (.bool (g a b))
  | _, _ => none
instance (i j : Int) : Decidable (CMulW i j) := by unfold CMulW; infer_instance
instance (i j : Int) : Decidable (CMul i j) := by unfold CMul; infer_instance
def CMulB (i j : Int) : Prop := CMul i j ∨ CMulW i j
instance (i j : Int) : Decidable (CMulB i j) := by unfold CMulB; infer_instance
instance (i j : Int) : Decidable (CDiv i j) := by unfold CDiv; infer_instance
instance (i j : Int) : Decidable (CPow i j) := by unfold CPow; infer_instance
abbrev subD := intD fun a b => a - b
abbrev mulD := intDc CMulB fun a b => a * b
abbrev modD := intDc (fun _ b => 0 < b) fun a b => a % b
abbrev fdvD := intDc CDiv fun a b => a / b
abbrev powD := intDc CPow fun a b => a ^ b.toNat
abbrev ltD := cmpD fun a b => decide (a < b)
abbrev leD := cmpD fun a b => decide (a ≤ b)
abbrev gtD := cmpD fun a b => decide (b < a)
abbrev geD := cmpD fun a b => decide (b ≤ a)
def strStr : Dt → Dt → Bool
  | .str _, .str _ => true
  | _, _ => false
def eqOk (d e : Dt) : Bool := strStr d e || (d.canLay0 && e.canLay0 && decide (min d.depth e.depth ≤ 64))
def eqD (d e : Dt) : Option Dt := if eqOk d e = true then some (.bool (PyData.eqv d e)) else none
def neD (d e : Dt) : Option Dt := if eqOk d e = true then some (.bool (!PyData.eqv d e)) else none
def isND (d e : Dt) : Option Dt := match d, e with
  | .none, .none => some (.bool true)
  | _, .none => some (.bool false)
  | _, _ => none
def notND (d e : Dt) : Option Dt := match d, e with
  | .none, .none => some (.bool false)
  | _, .none => some (.bool true)
  | _, _ => none
def flatD : Dt → Bool
  | .none | .bool _ | .int _ | .str _ => true
  | _ => false
def seqD : Dt → Option (List Dt)
  | .list ds | .tuple ds => some ds
  | _ => none
def memD (d : Dt) (ds : List Dt) : Bool := ds.any fun e => PyData.eqv e d
def inD (d e : Dt) : Option Dt := (seqD e).bind fun ds => if (flatD d && ds.all flatD) = true then some (.bool (memD d ds)) else none
def ninD (d e : Dt) : Option Dt := (seqD e).bind fun ds => if (flatD d && ds.all flatD) = true then some (.bool (!memD d ds)) else none

section
variable {X : Cx}
theorem lk_int {g : Int → Int → Int} : LkOp X.K (rI0 fun i j => .int (g i j)) (intD g) := by
  intro F H x y dx dy d Q sm tx ty e q
  unfold intD at e
  split at e
  · cases tx; cases ty; cases e
    exact ⟨_, _, rfl, rfl, q _ _ (.old (.int _))⟩
  · cases e
theorem lk_intc {C : Int → Int → Prop} [∀ a b, Decidable (C a b)] {g : Int → Int → Int} : LkOp X.K (rI C fun i j => .int (g i j)) (intDc C g) := by
  intro F H x y dx dy d Q sm tx ty e q
  unfold intDc at e
  split at e
  · split at e
    · rename_i hc
      cases tx; cases ty; cases e
      exact ⟨_, _, rfl, rfl, hc, q _ _ (.old (.int _))⟩
    · cases e
  · cases e
theorem lk_cmp {g : Int → Int → Bool} : LkOp X.K (rI0 fun i j => .bl (g i j)) (cmpD g) := by
  intro F H x y dx dy d Q sm tx ty e q
  unfold cmpD at e
  split at e
  · cases tx; cases ty; cases e
    exact ⟨_, _, rfl, rfl, q _ _ (.old (.bl _))⟩
  · cases e
/-- t + u: a tuple that is void gives the other one itself -/
theorem op_mulB : OpR X (binaryOp .Mult) (rI CMulB fun i j => .int (i * j)) := by
  intro pins s σ H x y v u Q I rx ry h
  obtain ⟨i, j, rfl, rfl, hc, q⟩ := h
  rcases hc with hc | hc
  · exact op_mul pins s σ H _ _ v u Q I rx ry ⟨i, j, rfl, rfl, hc, q⟩
  · exact op_mulW pins s σ H _ _ v u Q I rx ry ⟨i, j, rfl, rfl, hc, q⟩
def rCatF (K : PySem.W.Frag) : R2 := fun x y H Q => ∃ a b xs ys, x = .ref a ∧ y = .ref b ∧ SqT K H a xs ∧ SqT K H b ys ∧ xs.length + ys.length ≤ sizeLine ∧
  (xs = [] → Q (.ref b) H) ∧ (xs ≠ [] → ys = [] → Q (.ref a) H) ∧ (xs ≠ [] → ys ≠ [] → ∀ p o, H p = none → TObj o → Q (.ref p) (upd H p (.frz o (.tup (xs ++ ys)))))
theorem op_catF : OpR X (binaryOp .Add) (rCatF X.K) := by
  intro pins s σ H x y v u Q I rx ry h
  obtain ⟨a, b, xs, ys, rfl, rfl, ha, hb, hz, q0, q1, q2⟩ := h
  cases rx
  cases ry
  obtain ⟨its, r1, p1, _⟩ := I.tuple ha
  obtain ⟨its2, r2, p2, _⟩ := I.tuple hb
  by_cases hx : xs = []
  · subst hx
    cases r1
    exact cat_tup0 p1 p2 ⟨.ref b, H, I, rfl, q0 rfl⟩
  · apply HT.cat_tup p1 p2 (fun z => hx (r1.nil_iff.mp z))
    · exact fun z => ⟨.ref a, H, I, rfl, q1 hx (r2.nil_iff.mp z)⟩
    · exact fun z => lay_tup I (r1.append r2) (by rw [List.length_append]; exact hz) (q2 hx fun w => z (r2.nil_iff.mpr w))
    · rw [← r1.length, ← r2.length]; exact hz
def rAddD (K : PySem.W.Frag) : R2 := fun x y H Q => (rI0 (fun i j => .int (i + j)) x y H Q) ∨ (∃ i j, x = .str i ∧ y = .str j ∧ i.length + j.length ≤ sizeLine ∧ Q (.str (i ++ j)) H) ∨ rCat x y H Q ∨ rCatF K x y H Q
theorem op_addD : OpR X (binaryOp .Add) (rAddD X.K) := op_add.or (op_add_str.or (op_cat.or op_catF))
theorem lk_add : LkOp X.K (rAddD X.K) addD := by
  intro F H x y dx dy d Q sm tx ty e q
  unfold addD at e
  split at e
  · cases tx; cases ty; cases e
    exact .inl ⟨_, _, rfl, rfl, q _ _ (.old (.int _))⟩
  · split at e
    · rename_i hz
      cases tx; cases ty; cases e
      exact .inr (.inl ⟨_, _, rfl, rfl, hz, q _ _ (.old (.str _))⟩)
    · cases e
  · split at e
    · rename_i hz
      cases tx with
      | lst h1 a1 =>
        cases ty with
        | lst h2 a2 =>
          cases e
          refine .inr (.inr (.inl ⟨_, _, _, _, rfl, rfl, h1, h2, by rw [a1.length, a2.length]; exact hz, fun p hp => q _ _ (.lst hp (a1.append a2))⟩))
    · cases e
  · split at e
    · rename_i hz
      cases tx with
      | tup h1 a1 =>
        cases ty with
        | tup h2 a2 =>
          cases e
          refine .inr (.inr (.inr ⟨_, _, _, _, rfl, rfl, (seqT_same sm h1).sq, (seqT_same sm h2).sq, by rw [a1.length, a2.length]; exact hz, fun z => ?_, fun _ z => ?_, fun _ _ p o hp ho => q _ _ (.tup hp ho (a1.append a2))⟩))
          · subst z
            cases a1
            exact q _ _ (.old (.tup h2 a2))
          · subst z
            cases a2
            refine q _ _ (.old ?_)
            rw [List.append_nil]
            exact .tup h1 a1
    · cases e
  · cases e
theorem eqOk_get {d e : Dt} (h : eqOk d e = true) : (∃ x y, d = .str x ∧ e = .str y) ∨ (d.canLay0 = true ∧ e.canLay0 = true ∧ min d.depth e.depth ≤ 64) := by
  unfold eqOk at h
  simp only [Bool.or_eq_true, Bool.and_eq_true, decide_eq_true_eq] at h
  rcases h with h | h
  · left
    unfold strStr at h
    split at h
    · exact ⟨_, _, rfl, rfl⟩
    · cases h
  · exact .inr ⟨h.1.1, h.1.2, h.2⟩
def rEqE (K : PySem.W.Frag) (neg : Bool) : R2 := fun x y H Q => ∃ d e, Dp K H x d ∧ Dp K H y e ∧ eqOk d e = true ∧ Q (.bl (if neg then !PyData.eqv d e else PyData.eqv d e)) H
theorem op_eqE (hu : X.A.units + 64 < cLine) : OpR X (compareOp .Eq) (rEqE X.K false) := by
  intro pins s σ H x y v u Q I rx ry h
  obtain ⟨d, e, hd, he, ok, q⟩ := h
  rcases eqOk_get ok with ⟨a, b, rfl, rfl⟩ | ⟨c1, c2, c3⟩
  · cases hd; cases he
    refine op_eq pins s σ H _ _ v u Q I rx ry ⟨rfl, ?_⟩
    rw [dec_str]
    simpa [PyData.eqv] using q
  obtain ⟨as, r1⟩ := Dp.reads I d x v hd rx
  obtain ⟨bs, r2⟩ := Dp.reads I e y u he ry
  exact SeqAt.compareEq_reads r1 r2 c1 c2 (by omega) ⟨.bl _, H, I, rfl, q⟩
theorem op_neE (hu : X.A.units + 64 < cLine) : OpR X (compareOp .NotEq) (rEqE X.K true) := by
  intro pins s σ H x y v u Q I rx ry h
  obtain ⟨d, e, hd, he, ok, q⟩ := h
  rcases eqOk_get ok with ⟨a, b, rfl, rfl⟩ | ⟨c1, c2, c3⟩
  · cases hd; cases he
    refine op_ne pins s σ H _ _ v u Q I rx ry ⟨rfl, ?_⟩
    rw [dec_str]
    simpa [PyData.eqv] using q
  obtain ⟨as, r1⟩ := Dp.reads I d x v hd rx
  obtain ⟨bs, r2⟩ := Dp.reads I e y u he ry
  exact SeqAt.compareNe_reads r1 r2 c1 c2 (by omega) ⟨.bl _, H, I, rfl, q⟩
theorem lk_eq : LkOp X.K (rEqE X.K false) eqD := by
  intro F H x y dx dy d Q sm tx ty e q
  unfold eqD at e
  split at e
  · rename_i ok
    cases e
    exact ⟨dx, dy, (tx.rp sm).dp, (ty.rp sm).dp, ok, q _ _ (.old (.bl _))⟩
  · cases e
theorem lk_ne : LkOp X.K (rEqE X.K true) neD := by
  intro F H x y dx dy d Q sm tx ty e q
  unfold neD at e
  split at e
  · rename_i ok
    cases e
    exact ⟨dx, dy, (tx.rp sm).dp, (ty.rp sm).dp, ok, q _ _ (.old (.bl _))⟩
  · cases e
theorem lk_isN : LkOp X.K (fun x y H Q => y = .non ∧ Q (.bl (decide (x = .non))) H) isND := by
  intro F H x y dx dy d Q sm tx ty e q
  unfold isND at e
  split at e
  · cases tx; cases ty; cases e
    exact ⟨rfl, q _ _ (.old (.bl _))⟩
  · rename_i hn
    cases ty; cases e
    refine ⟨rfl, ?_⟩
    have : ¬ x = .non := fun z => by subst z; cases tx; exact hn rfl
    rw [decide_eq_false this]
    exact q _ _ (.old (.bl _))
  · cases e
theorem lk_notN : LkOp X.K (fun x y H Q => y = .non ∧ Q (.bl (!decide (x = .non))) H) notND := by
  intro F H x y dx dy d Q sm tx ty e q
  unfold notND at e
  split at e
  · cases tx; cases ty; cases e
    exact ⟨rfl, q _ _ (.old (.bl _))⟩
  · rename_i hn
    cases ty; cases e
    refine ⟨rfl, ?_⟩
    have : ¬ x = .non := fun z => by subst z; cases tx; exact hn rfl
    rw [decide_eq_false this]
    exact q _ _ (.old (.bl _))
  · cases e
theorem flat_tp {K : PySem.W.Frag} {F H : Hp} {v : V} {d : Dt} (h : Tp K F H v d) (f : flatD d = true) : flatV v = true ∧ Rp K F v d := by
  cases h with
  | non => exact ⟨rfl, .non⟩
  | bl b => exact ⟨rfl, .bl b⟩
  | int b => exact ⟨rfl, .int b⟩
  | str b => exact ⟨rfl, .str b⟩
  | lst _ _ => exact absurd f (by simp [flatD])
  | tup _ _ => exact absurd f (by simp [flatD])
theorem flat_eqv {K : PySem.W.Frag} {F : Hp} {v w : V} {d e : Dt} (h : Rp K F v d) (g : Rp K F w e) (fd : flatD d = true) (fe : flatD e = true) : eqV v w = PyData.eqv d e ∧ flatV v = true := by
  cases h <;> cases g <;> first | exact ⟨rfl, rfl⟩ | (exact absurd fd (by simp [flatD])) | (exact absurd fe (by simp [flatD])) | (refine ⟨?_, rfl⟩; simp [eqV, PyData.eqv])
theorem flat_in {K : PySem.W.Frag} {F : Hp} {w : V} {e : Dt} (g : Rp K F w e) (fe : flatD e = true) : ∀ {vs : List V} {ds : List Dt}, RpAll K F vs ds → ds.all flatD = true → inV w vs = memD e ds ∧ vs.all flatV = true
  | _, _, .nil, _ => ⟨rfl, rfl⟩
  | _, _, .cons h t, f => by
    simp only [List.all_cons, Bool.and_eq_true] at f
    obtain ⟨e1, e2⟩ := flat_eqv h g f.1 fe
    obtain ⟨e3, e4⟩ := flat_in g fe t f.2
    unfold inV memD at e3 ⊢
    simp only [List.any_cons, List.all_cons, Bool.and_eq_true]
    rw [e1, e3]
    exact ⟨rfl, e2, e4⟩
theorem lk_inG {neg : Bool} {f : Dt → Dt → Option Dt} (hf : ∀ d e, f d e = (seqD e).bind fun ds => if (flatD d && ds.all flatD) = true then some (.bool (if neg then !memD d ds else memD d ds)) else none) : LkOp X.K (rIn X.K neg) f := by
  intro F H x y dx dy d Q sm tx ty e q
  rw [hf] at e
  cases ty with
  | lst h a =>
    simp only [seqD, Option.bind_some] at e
    split at e
    · rename_i ok
      simp only [Bool.and_eq_true] at ok
      cases e
      obtain ⟨z1, z2⟩ := flat_tp tx ok.1
      obtain ⟨z3, z4⟩ := flat_in z2 ok.1 a ok.2
      refine ⟨_, _, rfl, .inl (SqL.of h), z1, z4, ?_⟩
      rw [z3]
      exact q _ _ (.old (.bl _))
    · cases e
  | tup h a =>
    simp only [seqD, Option.bind_some] at e
    split at e
    · rename_i ok
      simp only [Bool.and_eq_true] at ok
      cases e
      obtain ⟨z1, z2⟩ := flat_tp tx ok.1
      obtain ⟨z3, z4⟩ := flat_in z2 ok.1 a ok.2
      refine ⟨_, _, rfl, .inr (seqT_same sm h).sq, z1, z4, ?_⟩
      rw [z3]
      exact q _ _ (.old (.bl _))
    · cases e
  | _ => cases e
theorem lk_in : LkOp X.K (rIn X.K false) inD := lk_inG fun _ _ => rfl
theorem lk_nin : LkOp X.K (rIn X.K true) ninD := lk_inG fun _ _ => rfl

variable {a b : Expr} {ta tb : DT} {pos : Pos}
theorem de_add (ha : DE X a ta) (hb : DE X b tb) : DE X (.BinOp a .Add b pos) (kOp addD ta tb) := de_op op_addD lk_add ha hb
theorem de_sub (ha : DE X a ta) (hb : DE X b tb) : DE X (.BinOp a .Sub b pos) (kOp subD ta tb) := de_op op_sub lk_int ha hb
theorem de_mul (ha : DE X a ta) (hb : DE X b tb) : DE X (.BinOp a .Mult b pos) (kOp mulD ta tb) := de_op op_mulB lk_intc ha hb
theorem de_mod (ha : DE X a ta) (hb : DE X b tb) : DE X (.BinOp a .Mod b pos) (kOp modD ta tb) := de_op op_mod lk_intc ha hb
theorem de_fdv (ha : DE X a ta) (hb : DE X b tb) : DE X (.BinOp a .FloorDiv b pos) (kOp fdvD ta tb) := de_op op_fdiv lk_intc ha hb
theorem de_pow (ha : DE X a ta) (hb : DE X b tb) : DE X (.BinOp a .Pow b pos) (kOp powD ta tb) := de_op op_pow lk_intc ha hb
theorem de_lt (ha : DE X a ta) (hb : DE X b tb) : DE X (.Compare a [.Lt] [b] pos) (kOp ltD ta tb) := de_cmp op_lt lk_cmp ha hb (nomark _)
theorem de_le (ha : DE X a ta) (hb : DE X b tb) : DE X (.Compare a [.LtE] [b] pos) (kOp leD ta tb) := de_cmp op_le lk_cmp ha hb (nomark _)
theorem de_gt (ha : DE X a ta) (hb : DE X b tb) : DE X (.Compare a [.Gt] [b] pos) (kOp gtD ta tb) := de_cmp op_gt lk_cmp ha hb (nomark _)
theorem de_ge (ha : DE X a ta) (hb : DE X b tb) : DE X (.Compare a [.GtE] [b] pos) (kOp geD ta tb) := de_cmp op_ge lk_cmp ha hb (nomark _)
theorem de_eq (hu : X.A.units + 64 < cLine) (ha : DE X a ta) (hb : DE X b tb) : DE X (.Compare a [.Eq] [b] pos) (kOp eqD ta tb) := de_cmp (op_eqE hu) lk_eq ha hb (nomark _)
theorem de_ne (hu : X.A.units + 64 < cLine) (ha : DE X a ta) (hb : DE X b tb) : DE X (.Compare a [.NotEq] [b] pos) (kOp neD ta tb) := de_cmp (op_neE hu) lk_ne ha hb (nomark _)
theorem de_isN (ha : DE X a ta) (hb : DE X b tb) : DE X (.Compare a [.Is] [b] pos) (kOp isND ta tb) := de_cmp op_isN lk_isN ha hb (nomark _)
theorem de_notN (ha : DE X a ta) (hb : DE X b tb) : DE X (.Compare a [.IsNot] [b] pos) (kOp notND ta tb) := de_cmp op_notN lk_notN ha hb (nomark _)
theorem de_in (ha : DE X a ta) (hb : DE X b tb) (hm : behindInMarks .In b = false := by rfl) : DE X (.Compare a [.In] [b] pos) (kOp inD ta tb) := de_cmp op_in_seq lk_in ha hb hm
theorem de_nin (ha : DE X a ta) (hb : DE X b tb) (hm : behindInMarks .NotIn b = false := by rfl) : DE X (.Compare a [.NotIn] [b] pos) (kOp ninD ta tb) := de_cmp op_notIn_seq lk_nin ha hb hm
theorem db_lt (ha : DE X a ta) (hb : DE X b tb) : DB X (.Compare a [.Lt] [b] pos) (kB (kOp ltD ta tb)) := db_cmp op_lt lk_cmp ha hb (nomark _)
theorem db_le (ha : DE X a ta) (hb : DE X b tb) : DB X (.Compare a [.LtE] [b] pos) (kB (kOp leD ta tb)) := db_cmp op_le lk_cmp ha hb (nomark _)
theorem db_gt (ha : DE X a ta) (hb : DE X b tb) : DB X (.Compare a [.Gt] [b] pos) (kB (kOp gtD ta tb)) := db_cmp op_gt lk_cmp ha hb (nomark _)
theorem db_ge (ha : DE X a ta) (hb : DE X b tb) : DB X (.Compare a [.GtE] [b] pos) (kB (kOp geD ta tb)) := db_cmp op_ge lk_cmp ha hb (nomark _)
theorem db_eq (hu : X.A.units + 64 < cLine) (ha : DE X a ta) (hb : DE X b tb) : DB X (.Compare a [.Eq] [b] pos) (kB (kOp eqD ta tb)) := db_cmp (op_eqE hu) lk_eq ha hb (nomark _)
theorem db_ne (hu : X.A.units + 64 < cLine) (ha : DE X a ta) (hb : DE X b tb) : DB X (.Compare a [.NotEq] [b] pos) (kB (kOp neD ta tb)) := db_cmp (op_neE hu) lk_ne ha hb (nomark _)
theorem db_isN (ha : DE X a ta) (hb : DE X b tb) : DB X (.Compare a [.Is] [b] pos) (kB (kOp isND ta tb)) := db_cmp op_isN lk_isN ha hb (nomark _)
theorem db_notN (ha : DE X a ta) (hb : DE X b tb) : DB X (.Compare a [.IsNot] [b] pos) (kB (kOp notND ta tb)) := db_cmp op_notN lk_notN ha hb (nomark _)
theorem db_in (ha : DE X a ta) (hb : DE X b tb) (hm : behindInMarks .In b = false := by rfl) : DB X (.Compare a [.In] [b] pos) (kB (kOp inD ta tb)) := db_cmp op_in_seq lk_in ha hb hm
theorem db_nin (ha : DE X a ta) (hb : DE X b tb) (hm : behindInMarks .NotIn b = false := by rfl) : DB X (.Compare a [.NotIn] [b] pos) (kB (kOp ninD ta tb)) := db_cmp op_notIn_seq lk_nin ha hb hm

def LkUn (K : PySem.W.Frag) (r : V → Hp → VK → Prop) (f : Dt → Option Dt) : Prop := ∀ (F H : Hp) (x : V) (dx d : Dt) (Q : VK), Same F H → Tp K F H x dx → f dx = some d → (∀ H' v, Res K F H H' v d → Q v H') → r x H Q
def kUn (f : Dt → Option Dt) (ta : DT) : DT := fun env Q => ta env fun ea env1 => wr (rs env1 ea) fun dx => wr (f dx) fun d => Q (.dat d) env1
theorem kUn_mono {f : Dt → Option Dt} (m : MonoD ta) : MonoD (kUn f ta) := fun env Q Q' i q => m _ _ _ (fun ea env1 q => wr_mono (fun dx q => wr_mono (fun d q => i _ _ q) q) q) q
theorem kUn_run {r : V → Hp → VK → Prop} {f : Dt → Option Dt} (lk : LkUn X.K r f) (ha : DE X a ta) {σ : L2.St} {H : Hp} {Q : VK} (h : tD X.K (kUn f ta) σ H Q) : tUn r (tD X.K ta) σ H Q := by
  obtain ⟨F, env, R, q⟩ := h
  refine ⟨F, env, R, ha.mono _ _ _ (fun ea env1 h1 F1 H1 x E1 R1 V1 => ?_) q⟩
  obtain ⟨dx, e1, h2⟩ := wr_get h1
  obtain ⟨d, e3, h2⟩ := wr_get h2
  refine lk F1 H1 x dx d Q R1.sub (tp_of R1 V1 e1) e3 fun H3 v r => ?_
  obtain ⟨F3, E3, R3, r3⟩ := Res.frz R1 r
  exact h2 F3 H3 v (E1.trans E3) R3 r3
def negD : Dt → Option Dt
  | .int i => some (.int (-i))
  | _ => none
theorem de_neg (ha : DE X a ta) : DE X (.UnaryOp .USub a pos) (kUn negD ta) := by
  refine ⟨kUn_mono ha.mono, (pe_un un_neg ha.run).mono fun _ _ _ h => kUn_run ?_ ha h⟩
  intro F H x dx d Q sm tx e q
  unfold negD at e
  split at e
  · cases tx; cases e
    exact ⟨_, rfl, q _ _ (.old (.int _))⟩
  · cases e

def ixD : Dt → Dt → Option Dt
  | .list ds, .int i => atI ds i
  | .tuple ds, .int i => atI ds i
  | .str z, .int i => if z.length ≤ sizeLine then (atI z.cps.toList i).map fun c => .str ⟨#[c]⟩ else none
  | _, _ => none
def rIxD (K : PySem.W.Frag) : R2 := fun x y H Q => rIxL K x y H Q ∨ rIxT K x y H Q ∨ rIxS x y H Q
theorem ix_D : IxR X (rIxD X.K) := by
  intro value slice pins s σ H x y v u Q I rx ry h hs
  rcases h with h | h | h
  · exact ix_list value slice pins s σ H x y v u Q I rx ry h hs
  · exact ix_tup value slice pins s σ H x y v u Q I rx ry h hs
  · exact ix_str value slice pins s σ H x y v u Q I rx ry h hs
theorem atI_rp {K : PySem.W.Frag} {F : Hp} {vs : List V} {ds : List Dt} {i : Int} {d : Dt} (h : RpAll K F vs ds) (e : atI ds i = some d) : ∃ v, atI vs i = some v ∧ Rp K F v d := by
  unfold atI at e ⊢
  rw [h.length]
  cases q : ixN ds.length i with
  | none => rw [q] at e; cases e
  | some j =>
    rw [q] at e
    simp only [Option.bind_some] at e ⊢
    exact h.get e
theorem lk_ix : LkOp X.K (rIxD X.K) ixD := by
  intro F H x y dx dy d Q sm tx ty e q
  unfold ixD at e
  split at e
  · cases tx with
    | lst h r =>
      cases ty
      obtain ⟨v, e1, e2⟩ := atI_rp r e
      exact .inl ⟨_, _, _, v, rfl, rfl, SqL.of h, e1, q _ _ (.old e2)⟩
  · cases tx with
    | tup h r =>
      cases ty
      obtain ⟨v, e1, e2⟩ := atI_rp r e
      exact .inr (.inl ⟨_, _, _, v, rfl, rfl, (seqT_same sm h).sq, e1, q _ _ (.old e2)⟩)
  · split at e
    · rename_i hz
      cases tx; cases ty
      obtain ⟨c, e1, e2⟩ := Option.map_eq_some_iff.mp e
      subst e2
      exact .inr (.inr ⟨_, _, c, rfl, rfl, hz, e1, q _ _ (.old (.str _))⟩)
    · cases e
  · cases e
theorem de_ix (ha : DE X a ta) (hb : DE X b tb) (hs : PlainIx b := by exact fun _ _ => rfl) : DE X (.Subscript a b pos) (kOp ixD ta tb) :=
  ⟨kOp_mono ha.mono hb.mono, (pe_ix ix_D ha.run hb.run hs).mono fun _ _ _ h => kOp_run lk_ix ha hb h⟩

def rsL (env : Dn) : List Ev → Option (List Dt)
  | [] => some []
  | e :: r => match rs env e, rsL env r with
    | some d, some ds => some (d :: ds)
    | _, _ => none
inductive TpAll (K : PySem.W.Frag) (F H : Hp) : List V → List Dt → Prop
  | nil : TpAll K F H [] []
  | cons {v : V} {vs : List V} {d : Dt} {ds : List Dt} : Tp K F H v d → TpAll K F H vs ds → TpAll K F H (v :: vs) (d :: ds)
theorem tpA_of {K : PySem.W.Frag} {F H H0 : Hp} {σ : L2.St} {env : Dn} (R : Rep K F H σ env) : ∀ {vs : List V} {es : List Ev} {ds : List Dt}, RepA K F H σ env H0 vs es → rsL env es = some ds → TpAll K F H vs ds
  | _, _, _, .nil, e => by cases e; exact .nil
  | _, e :: es, ds, .cons h t _, q => by
    unfold rsL at q
    split at q
    · rename_i d ds' e1 e2
      cases q
      exact .cons (tp_of R h e1) (tpA_of R t e2)
    · cases q
def LkC (K : PySem.W.Frag) (r : List V → Hp → VK → Prop) (f : List Dt → Option Dt) : Prop := ∀ (F H : Hp) (vs : List V) (ds : List Dt) (d : Dt) (Q : VK), Same F H → TpAll K F H vs ds → f ds = some d → (∀ H' v, Res K F H H' v d → Q v H') → r vs H Q
def kCall (f : List Dt → Option Dt) (t : DTa) : DT := fun env Q => t env fun evs env1 => wr (rsL env1 evs) fun ds => wr (f ds) fun d => Q (.dat d) env1
theorem kCall_mono {f : List Dt → Option Dt} {t : DTa} (m : MonoA t) : MonoD (kCall f t) := fun env Q Q' i q => m _ _ _ (fun evs env1 q => wr_mono (fun ds q => wr_mono (fun d q => i _ _ q) q) q) q
theorem kCall_run {es : List Expr} {r : List V → Hp → VK → Prop} {f : List Dt → Option Dt} {t : DTa} (lk : LkC X.K r f) (ha : DA X es t) {σ : L2.St} {H : Hp} {Q : VK} (h : tD X.K (kCall f t) σ H Q) : tCB r (tDa X.K t) σ H Q := by
  obtain ⟨F, env, R, q⟩ := h
  refine ⟨F, env, R, ha.mono _ _ _ (fun evs env1 h1 F1 H1 vs E1 R1 V1 => ?_) q⟩
  obtain ⟨ds, e1, h2⟩ := wr_get h1
  obtain ⟨d, e3, h2⟩ := wr_get h2
  refine lk F1 H1 vs ds d Q R1.sub (tpA_of R1 V1 e1) e3 fun H3 v r => ?_
  obtain ⟨F3, E3, R3, r3⟩ := Res.frz R1 r
  exact h2 F3 H3 v (E1.trans E3) R3 r3
theorem de_callB {e : Expr} {es : List Expr} {x : Str} {p : Pos} {id : String} {r : List V → Hp → VK → Prop} {f : List Dt → Option Dt} {t : DTa} (hc : CallR X (.builtin id) r) (lk : LkC X.K r f) (hg : Gl X x) (hm : X.mg x = none) (hv : bootBuiltins x = some (.builtin id)) (ha : DA X (e :: es) t)
    (hn : x ≠ "__name__" := by decide) (hdb : (x == ("__debug__" : Str)) = false := by decide) (he : starEach (e :: es) X.env = (false, eval e X.env) :: starEach es X.env := by rfl) (hpl : (backTo pos (starEach es X.env)).any (·.1) = false := by rfl) : DE X (.Call (.Name x p) (e :: es) [] pos) (kCall f t) :=
  ⟨kCall_mono ha.mono, (pe_callB hc hg hm hv ha.run hn hdb he hpl).mono fun _ _ _ h => kCall_run lk ha h⟩
theorem de_callT {e : Expr} {es : List Expr} {x : Str} {p : Pos} {T : String} {r : List V → Hp → VK → Prop} {f : List Dt → Option Dt} {t : DTa} (hc : CallR X (.type T) r) (lk : LkC X.K r f) (hg : Gl X x) (hm : X.mg x = none) (hv : bootBuiltins x = some (.type T)) (ha : DA X (e :: es) t)
    (hn : x ≠ "__name__" := by decide) (hdb : (x == ("__debug__" : Str)) = false := by decide) (he : starEach (e :: es) X.env = (false, eval e X.env) :: starEach es X.env := by rfl) (hpl : (backTo pos (starEach es X.env)).any (·.1) = false := by rfl) : DE X (.Call (.Name x p) (e :: es) [] pos) (kCall f t) :=
  ⟨kCall_mono ha.mono, (pe_callTy hc hg hm hv ha.run hn hdb he hpl).mono fun _ _ _ h => kCall_run lk ha h⟩
def lenD : List Dt → Option Dt
  | [.list ds] => some (.int ds.length)
  | [.tuple ds] => some (.int ds.length)
  | [.str z] => if z.length ≤ sizeLine then some (.int z.length) else none
  | _ => none
theorem lk_len : LkC X.K (fun xs H Q => ∃ x n, xs = [x] ∧ LenV X.K x H n ∧ Q (.int n) H) lenD := by
  intro F H vs ds d Q sm tv e q
  unfold lenD at e
  split at e
  · cases tv with
    | cons h t =>
      cases t
      cases h with
      | lst h r =>
        cases e
        exact ⟨_, _, rfl, .inl ⟨_, SqL.of h, rfl⟩, by rw [r.length]; exact q _ _ (.old (.int _))⟩
  · cases tv with
    | cons h t =>
      cases t
      cases h with
      | tup h r =>
        cases e
        exact ⟨_, _, rfl, .inr ⟨_, (seqT_same sm h).sq, rfl⟩, by rw [r.length]; exact q _ _ (.old (.int _))⟩
  · split at e
    · rename_i hz
      cases tv with
      | cons h t =>
        cases t
        cases h
        cases e
        exact ⟨_, _, rfl, ⟨hz, rfl⟩, q _ _ (.old (.int _))⟩
    · cases e
  · cases e
def toIntD : List Dt → Option Dt
  | [.int i] => some (.int i)
  | [.bool b] => some (.int (if b then 1 else 0))
  | _ => none
theorem lk_toInt : LkC X.K (fun xs H Q => (∃ i, xs = [.int i] ∧ Q (.int i) H) ∨ ∃ k, xs = [.bl k] ∧ Q (.int (if k then 1 else 0)) H) toIntD := by
  intro F H vs ds d Q sm tv e q
  unfold toIntD at e
  split at e
  · cases tv with
    | cons h t => cases t; cases h; cases e; exact .inl ⟨_, rfl, q _ _ (.old (.int _))⟩
  · cases tv with
    | cons h t => cases t; cases h; cases e; exact .inr ⟨_, rfl, q _ _ (.old (.int _))⟩
  · cases e
def toTupD : List Dt → Option Dt
  | [.list ds] => some (.tuple ds)
  | [.tuple ds] => some (.tuple ds)
  | _ => none
def rToTup (K : PySem.W.Frag) : List V → Hp → VK → Prop := fun xs H Q => ∃ p ys, xs = [.ref p] ∧ ((SqL K H p ys ∧ ∀ l o, H l = none → TObj o → Q (.ref l) (upd H l (.frz o (.tup ys)))) ∨ (SqT K H p ys ∧ Q (.ref p) H))
theorem call_toTup : CallR X (.type "tuple") (rToTup X.K) := by
  intro pins s σ H xs us Q I r h
  obtain ⟨p, ys, rfl, h⟩ := h
  obtain ⟨u, rfl, rx⟩ := vals1 r
  cases rx
  rcases h with ⟨hq, q⟩ | ⟨hq, q⟩
  · obtain ⟨its, r', pl, hz⟩ := I.list hq
    have hlen := r'.length
    have hs : its.toArray.size ≤ sizeLine := by
      simp only [List.size_toArray]
      omega
    refine call_tuple_list pl.isList (fun h' kp => ?_) hs
    have I1 : Inv X pins σ H { s with heap := h' } := I.kept (t' := s.toks) kp
    exact lay_tup I1 r' hz q
  · obtain ⟨its, r', pl, hz⟩ := I.tuple hq
    exact call_tuple_same pl ⟨.ref p, H, I, rfl, q⟩
theorem lk_toTup : LkC X.K (rToTup X.K) toTupD := by
  intro F H vs ds d Q sm tv e q
  unfold toTupD at e
  split at e
  · cases tv with
    | cons h t =>
      cases t
      cases h with
      | lst h r => cases e; exact ⟨_, _, rfl, .inl ⟨SqL.of h, fun l o hl ho => q _ _ (.tup hl ho r)⟩⟩
  · cases tv with
    | cons h t =>
      cases t
      cases h with
      | tup h r => cases e; exact ⟨_, _, rfl, .inr ⟨(seqT_same sm h).sq, q _ _ (.old (.tup h r))⟩⟩
  · cases e
/-- list(x): a new list -/
def kToLst (t : DTa) : DTl := fun env Q => t env fun evs env1 => wr (rsL env1 evs) fun ds => match ds with
  | [d] => wr (seqD d) fun xs => Q xs env1
  | _ => False
theorem dl_list {e : Expr} {p : Pos} {t : DTa} (hg : Gl X "list") (hm : X.mg "list" = none) (ha : DA X [e] t)
    (he : starEach [e] X.env = [(false, eval e X.env)] := by rfl) : DL X (.Call (.Name "list" p) [e] [] pos) (kToLst t) := by
  refine ⟨fun env Q Q' i q => ha.mono _ _ _ (fun evs env1 q => wr_mono (fun ds q => ?_) q) q, (pe_callTy call_list_of hg hm (by decide +kernel) ha.run (by decide) (by decide) he (by rfl)).mono fun σ H Q => ?_⟩
  · revert q
    dsimp only
    split
    · exact fun q => wr_mono (fun xs q => i _ _ q) q
    · exact fun q => q
  · rintro ⟨F, env, R, q⟩
    refine ⟨F, env, R, ha.mono _ _ _ (fun evs env1 h1 F1 H1 vs E1 R1 V1 => ?_) q⟩
    obtain ⟨ds, e1, h2⟩ := wr_get h1
    dsimp only at h2
    split at h2
    · rename_i d
      obtain ⟨xs, e2, h2⟩ := wr_get h2
      have tv := tpA_of R1 V1 e1
      have fin : ∀ ys l, RpAll X.K F1 ys xs → H1 l = none → Q (.ref l) (upd H1 l (.lst ys)) := fun ys l r hl => by
        obtain ⟨R2, E2⟩ := R1.growN hl (.lst ys)
        refine h2 F1 _ l ys (E1.trans E2) R2 (R1.fnone hl) upd_same r (R1.not_ow hl) ?_
        cases e : H l with
        | none => rfl
        | some u =>
          obtain ⟨u', z⟩ := E1.there l u e
          rw [hl] at z; cases z
      cases tv with
      | cons h t =>
        cases t
        cases h with
        | lst h r => cases e2; exact ⟨_, _, rfl, .inl (SqL.of h), fun l hl => fin _ l r hl⟩
        | tup h r => cases e2; exact ⟨_, _, rfl, .inr (seqT_same R1.sub h).sq, fun l hl => fin _ l r hl⟩
        | _ => cases e2
    · exact h2.elim
def tyN : Dt → String
  | .none => "NoneType"
  | .bool _ => "bool"
  | .int _ => "int"
  | .str _ => "str"
  | .list _ => "list"
  | .tuple _ => "tuple"
  | .dict _ => "dict"
/-- what isinstance asks of a value: its type, or it is a told tuple -/
def TyD (K : PySem.W.Frag) (H : Hp) (v : V) (d : Dt) : Prop := TyX K H v (.type (tyN d)) ∨ (tyN d = "tuple" ∧ ∃ a o xs, v = .ref a ∧ H a = some (.frz o (.tup xs)) ∧ TObj o)
theorem tyD_of {K : PySem.W.Frag} {F H : Hp} {v : V} {d : Dt} (sm : Same F H) (h : Tp K F H v d) : TyD K H v d := by
  cases h with
  | non => exact .inl (.base .non)
  | bl b => exact .inl (.base (.bl b))
  | int i => exact .inl (.base (.int i))
  | str x => exact .inl (.base (.str x))
  | lst h r => exact .inl (.base (.lst h))
  | tup h r =>
    rcases h with ⟨o, h, ho⟩ | ⟨o, its, n, h1, h2, h3⟩
    · exact .inr ⟨rfl, _, o, _, rfl, sm _ _ h, ho⟩
    · exact .inl (.kTuple h1 h2.1)
def rIsiD (K : PySem.W.Frag) : List V → Hp → VK → Prop := fun xs H Q => ∃ (x c : V) (d : Dt) (u : Value) (b : Bool), xs = [x, c] ∧ ClsV c u ∧ TyD K H x d ∧ PySem.W.kitOne K (.type (tyN d)) u = some b ∧ Q (.bl b) H
theorem call_isiD : CallR X (.builtin "isinstance") (rIsiD X.K) := by
  intro pins s σ H xs us Q I r h
  obtain ⟨x, c, d, u, b, rfl, k, ty, e, q⟩ := h
  rcases ty with ty | ⟨tn, a, o, ys, rfl, ha, ho⟩
  · exact call_isi pins s σ H _ us Q I r ⟨x, c, _, u, b, rfl, k, ty, e, q⟩
  · obtain ⟨u1, u2, rfl, r1, r2⟩ := vals2 r
    have e2 := k.eq r2
    subst e2
    cases r1
    rw [tn] at e
    obtain ⟨h1, _⟩ := (show ObjOk X.prog X.w H s.heap a (.frz o (.tup ys)) from I.hok a _ ha)
    exact PySem.W.kia_one PySem.W.kitx_tuple I.kIn ⟨_, h1, ho.1⟩ e (fun z => nomatch z) fun tk => ⟨.bl b, H, I.tok tk, rfl, q⟩
def isIntD : Dt → Bool
  | .int _ | .bool _ => true
  | _ => false
def isBlD : Dt → Bool
  | .bool _ => true
  | _ => false
def isStrD : Dt → Bool
  | .str _ => true
  | _ => false
def isTupD : Dt → Bool
  | .tuple _ => true
  | _ => false
def isLstD : Dt → Bool
  | .list _ => true
  | _ => false
def kIsi (g : Dt → Bool) (t : DT) : DT := fun env Q => t env fun ev env1 => wr (rs env1 ev) fun d => Q (.dat (.bool (g d))) env1
theorem de_isi {e : Expr} {T : Str} {t : DT} {g : Dt → Bool} {n : String} {p q pos : Pos} (hk : ∀ d, kitB (tyN d) n = some (g d)) (hg : Gl X "isinstance") (hm : X.mg "isinstance" = none) (hgT : Gl X T) (hmT : X.mg T = none) (hvT : bootBuiltins T = some (.type n)) (h : DE X e t)
    (hnT : T ≠ "__name__" := by decide) (hdT : (T == ("__debug__" : Str)) = false := by decide)
    (he : starEach [e, .Name T q] X.env = (false, eval e X.env) :: starEach [.Name T q] X.env := by rfl) : DE X (.Call (.Name "isinstance" p) [e, .Name T q] [] pos) (kIsi g t) := by
  refine ⟨fun env Q Q' i q => h.mono _ _ _ (fun ev env1 q => wr_mono (fun d q => i _ _ q) q) q, ?_⟩
  have c : PE X (.Name T q) (tC (.ty n)) := pe_bltn hgT hmT hvT rfl hnT hdT
  refine (pe_callB call_isiD hg hm (by decide +kernel) (pa_cons h.run (pa_cons c pa_nil (by rfl)) he) (by decide) (by decide) he (by rfl)).mono fun σ H Q => ?_
  rintro ⟨F, env, R, q⟩
  refine ⟨F, env, R, h.mono _ _ _ (fun ev env1 h1 F1 H1 v E1 R1 V1 => ?_) q⟩
  obtain ⟨d, e1, h2⟩ := wr_get h1
  exact ⟨v, .ty n, d, _, g d, rfl, .ty n, tyD_of R1.sub (tp_of R1 V1 e1), kit_ty (hk d), h2 F1 H1 _ E1 R1 (.bl _)⟩
end
open PySem PySem.Spec L2

def Dv.ev : Dv → Ev
  | .dat d => .dat d
  | .obj o => .new o
  | .inv φ => .inv φ
  | .tab _ => .inv fun _ _ _ => False

structure Ex where
  cls : Str
  fs : List (Str × Dt)
abbrev XP := Ex → Prop
def noE : XP := fun _ => False
def XFs (K : PySem.W.Frag) (F : Hp) : List (Str × V) → List (Str × Dt) → Prop
  | [], [] => True
  | (f, v) :: r, (g, d) :: s => f = g ∧ Rp K F v d ∧ XFs K F r s
  | _, _ => False
theorem xfs_same {K : PySem.W.Frag} {F G : Hp} (e : Same F G) : ∀ {a : List (Str × V)} {b : List (Str × Dt)}, XFs K F a b → XFs K G a b
  | [], [], _ => trivial
  | (_, _) :: _, (_, _) :: _, ⟨h1, h2, h3⟩ => ⟨h1, dp_same e h2, xfs_same e h3⟩
  | [], _ :: _, h => h.elim
  | _ :: _, [], h => h.elim
theorem xfs_look {K : PySem.W.Frag} {F : Hp} {f : Str} {d : Dt} : ∀ {a : List (Str × V)} {b : List (Str × Dt)}, XFs K F a b → b.lookup f = some d → ∃ v, a.lookup f = some v ∧ Rp K F v d
  | [], [], _, h => by cases h
  | (g, v) :: r, (g', d') :: s, ⟨h1, h2, h3⟩, h => by
    subst h1
    by_cases e : f = g
    · subst e
      simp [List.lookup] at h ⊢
      subst h
      exact h2
    · have e' : (f == g) = false := by simpa using e
      simp [List.lookup, e'] at h ⊢
      exact xfs_look h3 h
  | [], _ :: _, h, _ => h.elim
  | _ :: _, [], h, _ => h.elim
/-- the exception of the class at cls with the dict at d is x -/
def XRep (K : PySem.W.Frag) (mg : Str → Option Value) (F : Hp) (cls : Value) (d : Option Addr) (x : Ex) : Prop :=
  ∃ (C dd : Addr) (vs : List (Str × V)), mg x.cls = some (.ref C) ∧ cls = .ref C ∧ d = some dd ∧ F dd = some (.xd vs) ∧ XFs K F vs x.fs
theorem XRep.move {K : PySem.W.Frag} {mg : Str → Option Value} {F G : Hp} {cls : Value} {d : Option Addr} {x : Ex} (h : XRep K mg F cls d x) (e : Same F G) : XRep K mg G cls d x := by
  obtain ⟨C, dd, vs, h1, h2, h3, h4, h5⟩ := h
  exact ⟨C, dd, vs, h1, h2, h3, e _ _ h4, xfs_same e h5⟩
/-- what X takes at the least -/
def Wm (X : Cx) : L2.WX := fun cls d σ H => ∀ u s', L2.XE X (fun c' d' σ' H' => c' = cls ∧ d' = d ∧ σ' = σ ∧ H' = H) u s' → X.xe u s'
theorem takes_wm {X : Cx} : L2.Takes X (Wm X) := fun u s' ⟨a, B, sI, pins, σ, H, cls, d, e, I, nb, up, sky, na, os, ag, w⟩ =>
  w u s' ⟨a, B, sI, pins, σ, H, cls, d, e, I, nb, up, sky, na, os, ag, rfl, rfl, rfl, rfl⟩
theorem wm_of {X : Cx} {W : L2.WX} (tk : L2.Takes X W) {cls : Value} {d : Option Addr} {σ : L2.St} {H : Hp} (h : W cls d σ H) : Wm X cls d σ H := fun u s' ⟨a, B, sI, pins, σ', H', cls', d', e, I, nb, up, sky, na, os, ag, e1, e2, e3, e4⟩ =>
  tk u s' ⟨a, B, sI, pins, σ', H', cls', d', e, I, nb, up, sky, na, os, ag, by subst e1 e2 e3 e4; exact h⟩

structure DEnds where
  nx : Dn → Prop
  rt : Dv → Dn → Prop
  bk : Dn → Prop := fun _ => False
  ct : Dn → Prop := fun _ => False
  ex : XP := fun _ => False
abbrev DTS := DEnds → Dn → Prop
/-- the first n slots (the parameters) hold what they held -/
structure ExtS (n : Nat) (σ : L2.St) (env : Dn) (F H : Hp) (σ' : L2.St) (env' : Dn) (F' H' : Hp) : Prop where
  ext : Ext σ env F H σ' env' F' H'
  par : ∀ i, i < n → σ'[i]? = σ[i]?
theorem ExtS.refl {n : Nat} {σ : L2.St} {env : Dn} {F H : Hp} : ExtS n σ env F H σ env F H := ⟨Ext.refl, fun _ _ => rfl⟩
theorem ExtS.trans {n : Nat} {σ σ1 σ2 : L2.St} {env env1 env2 : Dn} {F F1 F2 H H1 H2 : Hp} (a : ExtS n σ env F H σ1 env1 F1 H1) (b : ExtS n σ1 env1 F1 H1 σ2 env2 F2 H2) : ExtS n σ env F H σ2 env2 F2 H2 :=
  ⟨a.ext.trans b.ext, fun i h => (b.par i h).trans (a.par i h)⟩
theorem _root_.Dx.Ext.s {n : Nat} {σ : L2.St} {env env' : Dn} {F F' H H' : Hp} (e : Ext σ env F H σ env' F' H') : ExtS n σ env F H σ env' F' H' := ⟨e, fun _ _ => rfl⟩
structure Lnk (X : Cx) (n : Nat) (σ : L2.St) (env : Dn) (F H : Hp) (E : DEnds) (D : Ends) : Prop where
  nx : ∀ σ' env' F' H', ExtS n σ env F H σ' env' F' H' → Rep X.K F' H' σ' env' → E.nx env' → D.nx σ' H'
  bk : ∀ σ' env' F' H', ExtS n σ env F H σ' env' F' H' → Rep X.K F' H' σ' env' → E.bk env' → D.bk σ' H'
  ct : ∀ σ' env' F' H', ExtS n σ env F H σ' env' F' H' → Rep X.K F' H' σ' env' → E.ct env' → D.ct σ' H'
  rt : ∀ r v σ' env' F' H', ExtS n σ env F H σ' env' F' H' → Rep X.K F' H' σ' env' → RepE X.K F' H' σ' env' H v (Dv.ev r) → E.rt r env' → D.rt v H'
  ex : ∀ x cls d σ' env' F' H', ExtS n σ env F H σ' env' F' H' → Rep X.K F' H' σ' env' → XRep X.K X.mg F' cls d x → E.ex x → Wm X cls d σ' H'
theorem Lnk.move {X : Cx} {n : Nat} {σ σ1 : L2.St} {env env1 : Dn} {F F1 H H1 : Hp} {E : DEnds} {D : Ends} (l : Lnk X n σ env F H E D) (e : ExtS n σ env F H σ1 env1 F1 H1) : Lnk X n σ1 env1 F1 H1 E D :=
  ⟨fun _ _ _ _ x => l.nx _ _ _ _ (e.trans x), fun _ _ _ _ x => l.bk _ _ _ _ (e.trans x), fun _ _ _ _ x => l.ct _ _ _ _ (e.trans x), fun _ _ _ _ _ _ x R V => l.rt _ _ _ _ _ _ (e.trans x) R (V.back e.ext.there), fun _ _ _ _ _ _ _ x => l.ex _ _ _ _ _ _ _ (e.trans x)⟩
def tDs (X : Cx) (n : Nat) (t : DTS) : TS := fun D σ H => ∃ F env E, Rep X.K F H σ env ∧ t E env ∧ Lnk X n σ env F H E D
structure DS (X : Cx) (n : Nat) (st : Stmt) (t : DTS) : Prop where
  run : PS X st (tDs X n t)
structure DSs (X : Cx) (n : Nat) (st : List Stmt) (t : DTS) : Prop where
  run : PSs X st (tDs X n t)

section
variable {X : Cx} {n : Nat} {pos : Pos}
def sNx : DTS := fun E env => E.nx env
def sSeq (t u : DTS) : DTS := fun E env => t { E with nx := u E } env
theorem dss_nil : DSs X n [] sNx := ⟨pss_nil.mono fun D σ H => by
  rintro ⟨F, env, E, R, q, l⟩
  exact l.nx _ _ _ _ ExtS.refl R q⟩
theorem dss_cons {st : Stmt} {rest : List Stmt} {t u : DTS} (h : DS X n st t) (g : DSs X n rest u) : DSs X n (st :: rest) (sSeq t u) := ⟨(pss_cons h.run g.run).mono fun D σ H => by
  rintro ⟨F, env, E, R, q, l⟩
  refine ⟨F, env, _, R, q, ⟨fun σ' env' F' H' e R' z => ?_, l.bk, l.ct, l.rt, l.ex⟩⟩
  exact ⟨F', env', E, R', z, l.move e⟩⟩
theorem dss_one {st : Stmt} {t : DTS} (h : DS X n st t) : DSs X n [st] t := ⟨pss_one h.run⟩
theorem ds_pass : DS X n (.Pass pos) sNx := ⟨ps_pass.mono fun D σ H => by
  rintro ⟨F, env, E, R, q, l⟩
  exact l.nx _ _ _ _ ExtS.refl R q⟩
def sBk : DTS := fun E env => E.bk env
def sCt : DTS := fun E env => E.ct env
theorem ds_break : DS X n (.Break pos) sBk := ⟨ps_break.mono fun D σ H => by
  rintro ⟨F, env, E, R, q, l⟩
  exact l.bk _ _ _ _ ExtS.refl R q⟩
theorem ds_cont : DS X n (.Continue pos) sCt := ⟨ps_continue.mono fun D σ H => by
  rintro ⟨F, env, E, R, q, l⟩
  exact l.ct _ _ _ _ ExtS.refl R q⟩
def sDrop (te : DT) : DTS := fun E env => te env fun _ env1 => E.nx env1
theorem ds_expr {e : Expr} {te : DT} (he : DE X e te) (hs : swapsWith e none pos.line X.env = pure false := by rfl) : DS X n (.Expr e pos) (sDrop te) := ⟨(ps_expr he.run hs).mono fun D σ H => by
  rintro ⟨F, env, E, R, q, l⟩
  exact ⟨F, env, R, he.mono _ _ _ (fun ev env1 q F1 H1 v E1 R1 V1 => l.nx _ _ _ _ E1.s R1 q) q⟩⟩
def retE (ev : Ev) (Q : Dv → Prop) : Prop := match ev with
  | .dat d => Q (.dat d)
  | .new o => Q (.obj o)
  | .inv φ => Q (.inv φ)
  | .var _ => False
theorem retE_get {ev : Ev} {Q : Dv → Prop} (h : retE ev Q) : ∃ r : Dv, ev = r.ev ∧ Q r := by
  cases ev with
  | dat d => exact ⟨.dat d, rfl, h⟩
  | new o => exact ⟨.obj o, rfl, h⟩
  | inv φ => exact ⟨.inv φ, rfl, h⟩
  | var i => exact h.elim
def sRet (te : DT) : DTS := fun E env => te env fun ev env1 => retE ev fun r => E.rt r env1
theorem ds_ret {e : Expr} {te : DT} (he : DE X e te) : DS X n (.Return (some e) pos) (sRet te) := ⟨(ps_ret he.run).mono fun D σ H => by
  rintro ⟨F, env, E, R, q, l⟩
  refine ⟨F, env, R, he.mono _ _ _ (fun ev env1 q F1 H1 v E1 R1 V1 => ?_) q⟩
  obtain ⟨r, rfl, q'⟩ := retE_get q
  exact l.rt r _ _ _ _ _ E1.s R1 V1 q'⟩
def sRetN : DTS := fun E env => E.rt (.dat .none) env
theorem ds_retN : DS X n (.Return none pos) sRetN := ⟨ps_retN.mono fun D σ H => by
  rintro ⟨F, env, E, R, q, l⟩
  exact l.rt (.dat .none) _ _ _ _ _ ExtS.refl R (show Rp X.K F .non .none from .non) q⟩
def sIf (c : DTb) (t u : DTS) : DTS := fun E env => c env fun b env1 => if b = true then t E env1 else u E env1
theorem ds_if {c : Expr} {a b : List Stmt} {tc : DTb} {t u : DTS} (hc : DB X c tc) (ha : DSs X n a t) (hb : DSs X n b u) : DS X n (.If c a b pos) (sIf tc t u) := ⟨(ps_if hc.run ha.run hb.run).mono fun D σ H => by
  rintro ⟨F, env, E, R, q, l⟩
  refine ⟨F, env, R, hc.mono _ _ _ (fun b env1 q F1 H1 E1 R1 => ?_) q⟩
  cases b
  · exact ⟨F1, env1, E, R1, q, l.move E1.s⟩
  · exact ⟨F1, env1, E, R1, q, l.move E1.s⟩⟩

theorem rep_set {K : PySem.W.Frag} {F H H0 : Hp} {σ : L2.St} {env : Dn} {v : V} {r : Dv} {i : Nat} (R : Rep K F H σ env) (hV : RepE K F H σ env H0 v r.ev) : Rep K F H (σ.set i (some v)) (env.set i (some r)) := by
  refine ⟨R.sub, by rw [List.length_set, List.length_set]; exact R.len, fun j dv e => ?_, fun j k o o' p h1 h2 h3 h4 => ?_⟩
  · rcases set_get e with ⟨rfl, q, hl⟩ | ⟨ne, q⟩
    · cases q
      refine ⟨v, by rw [List.getElem?_set_self (by rw [← R.len]; exact hl)], ?_⟩
      cases r with
      | dat d => exact hV
      | inv φ => exact hV
      | tab P => obtain ⟨_, _, z⟩ := hV; exact z.elim
      | obj o =>
        obtain ⟨p, e1, e2, e3, _⟩ := hV
        exact ⟨p, e1, e2, e3⟩
    · obtain ⟨v', e1, e2⟩ := R.val j dv q
      exact ⟨v', by rw [List.getElem?_set_ne (Ne.symm ne)]; exact e1, e2⟩
  · have key : ∀ m ob, (env.set i (some r))[m]? = some (some (.obj ob)) → (σ.set i (some v))[m]? = some (some (V.ref p)) → (m = i ∧ ¬ Ow σ env p) ∨ (m ≠ i ∧ env[m]? = some (some (.obj ob)) ∧ σ[m]? = some (some (V.ref p))) := fun m ob a b => by
      rcases set_get a with ⟨rfl, q, hl⟩ | ⟨ne, q⟩
      · left
        cases q
        obtain ⟨p', e1, e2, e3, e4, _⟩ := hV
        rw [List.getElem?_set_self (by rw [← R.len]; exact hl)] at b
        have b' : v = .ref p := Option.some.inj (Option.some.inj b)
        rw [e1] at b'
        cases b'
        exact ⟨rfl, e4⟩
      · right
        rw [List.getElem?_set_ne (Ne.symm ne)] at b
        exact ⟨ne, q, b⟩
    rcases key j o h1 h3 with ⟨a1, a2⟩ | ⟨a1, a2, a3⟩
    · rcases key k o' h2 h4 with ⟨b1, b2⟩ | ⟨b1, b2, b3⟩
      · rw [a1, b1]
      · exact absurd ⟨k, o', b2, b3⟩ a2
    · rcases key k o' h2 h4 with ⟨b1, b2⟩ | ⟨b1, b2, b3⟩
      · exact absurd ⟨j, o, a2, a3⟩ b2
      · exact R.inj j k o o' p a2 b2 a3 b3
theorem ext_set {K : PySem.W.Frag} {n : Nat} {F0 H0 F H : Hp} {σ : L2.St} {env0 env : Dn} {v : V} {r : Dv} {i : Nat} (E : Ext σ env0 F0 H0 σ env F H) (R : Rep K F H σ env) (V : RepE K F H σ env H0 v r.ev) (hi : n ≤ i) : ExtS n σ env0 F0 H0 (σ.set i (some v)) (env.set i (some r)) F H := by
  refine ⟨⟨E.same, E.keep, E.there, E.new, fun a w => ?_, E.tab⟩, fun j hj => by rw [List.getElem?_set_ne (by omega)]⟩
  obtain ⟨m, o, h1, h2⟩ := w
  rcases set_get h1 with ⟨rfl, q, hl⟩ | ⟨ne, q⟩
  · cases q
    obtain ⟨p', e1, e2, e3, e4, e5⟩ := V
    rw [List.getElem?_set_self (by rw [← R.len]; exact hl)] at h2
    have b' : v = .ref a := Option.some.inj (Option.some.inj h2)
    rw [e1] at b'
    cases b'
    exact .inr e5
  · rw [List.getElem?_set_ne (Ne.symm ne)] at h2
    exact E.ow a ⟨m, o, q, h2⟩
def setE (i : Nat) (ev : Ev) (env : Dn) (Q : Dn → Prop) : Prop := retE ev fun r => Q (env.set i (some r))
def sSet (i : Nat) (te : DT) : DTS := fun E env => te env fun ev env1 => setE i ev env1 E.nx
theorem ds_set {i : Nat} {x : Str} {e : Expr} {te : DT} {pos' : Pos} (hN : X.N.Nodup) (hi : X.N[i]? = some x) (hx : Loc X.env.scope x) (he : DE X e te) (hn : n ≤ i := by decide) (hs : swapsWith e (some (.Name x pos')) pos.line X.env = pure false := by rfl) (hf : X.fn x = true ∨ X.env.scope.names.lookup x = some .local := by first | exact .inl rfl | exact .inr rfl | assumption) :
    DS X n (.Assign [.Name x pos'] e pos) (sSet i te) := ⟨(ps_set hN hi hx he.run hs hf).mono fun D σ H => by
  rintro ⟨F, env, E, R, q, l⟩
  refine ⟨F, env, R, he.mono _ _ _ (fun ev env1 q F1 H1 v E1 R1 V1 => ?_) q⟩
  obtain ⟨r, rfl, q'⟩ := retE_get q
  exact l.nx _ _ _ _ (ext_set E1 R1 V1 hn) (rep_set R1 V1) q'⟩
def setL : List Nat → List Ev → Dn → (Dn → Prop) → Prop
  | [], [], env, Q => Q env
  | i :: is, ev :: evs, env, Q => retE ev fun r => setL is evs (env.set i (some r)) Q
  | _, _, _, _ => False
def sets : List Nat → List V → L2.St → L2.St
  | i :: is, v :: vs, σ => sets is vs (σ.set i (some v))
  | _, _, σ => σ
/-- a list of new things and data, behind a store of one of them -/
theorem repA_set {K : PySem.W.Frag} {F H H0 : Hp} {σ : L2.St} {env : Dn} {v : V} {r : Dv} {i : Nat} : ∀ {vs : List V} {rs : List Dv}, RepA K F H σ env H0 vs (rs.map Dv.ev) → (∀ p o, v = .ref p → r = .obj o → ¬ NewAt p vs (rs.map Dv.ev)) → σ.length = env.length → RepA K F H (σ.set i (some v)) (env.set i (some r)) H0 vs (rs.map Dv.ev)
  | _, [], h, _, _ => by cases h; exact .nil
  | _, r' :: rs, h, n, hl => by
    cases h with
    | cons h t d =>
      refine .cons ?_ (repA_set t (fun p o e1 e2 z => n p o e1 e2 (.inr z)) hl) d
      cases r' with
      | dat d => exact h
      | inv φ => exact h
      | tab P => exact h
      | obj o =>
        obtain ⟨p, e1, e2, e3, e4, e5⟩ := h
        refine ⟨p, e1, e2, e3, fun w => ?_, e5⟩
        obtain ⟨m, ob, h1, h2⟩ := w
        rcases set_get h1 with ⟨rfl, q, hlt⟩ | ⟨ne, q⟩
        · cases q
          rw [List.getElem?_set_self (by rw [hl]; exact hlt)] at h2
          exact n p ob (Option.some.inj (Option.some.inj h2)) rfl (.inl ⟨e1, o, rfl⟩)
        · rw [List.getElem?_set_ne (Ne.symm ne)] at h2
          exact e4 ⟨m, ob, q, h2⟩
theorem sets_ok {K : PySem.W.Frag} {n : Nat} {F H H0 F0 : Hp} {σ0 : L2.St} {env0 : Dn} : ∀ {is : List Nat} {vs : List V} {evs : List Ev} {σ : L2.St} {env : Dn} {Q : Dn → Prop}, RepA K F H σ env H0 vs evs → Rep K F H σ env → ExtS n σ0 env0 F0 H0 σ env F H → (∀ i ∈ is, n ≤ i) → setL is evs env Q →
    ∃ env', Q env' ∧ Rep K F H (sets is vs σ) env' ∧ ExtS n σ0 env0 F0 H0 (sets is vs σ) env' F H := by
  have conv : ∀ {is : List Nat} {evs : List Ev} {env : Dn} {Q : Dn → Prop}, setL is evs env Q → ∃ rs : List Dv, evs = rs.map Dv.ev := by
    intro is
    induction is with
    | nil =>
      intro evs env Q h
      cases evs with
      | nil => exact ⟨[], rfl⟩
      | cons _ _ => exact h.elim
    | cons i is ih =>
      intro evs env Q h
      cases evs with
      | nil => exact h.elim
      | cons e es =>
        obtain ⟨r, rfl, h'⟩ := retE_get h
        obtain ⟨rs, rfl⟩ := ih h'
        exact ⟨r :: rs, rfl⟩
  intro is
  induction is with
  | nil =>
    intro vs evs σ env Q A R E hn h
    cases evs with
    | nil => cases A; exact ⟨env, h, R, E⟩
    | cons _ _ => exact h.elim
  | cons i is ih =>
    intro vs evs σ env Q A R E hn h
    cases evs with
    | nil => exact h.elim
    | cons e es =>
      obtain ⟨r, rfl, h'⟩ := retE_get h
      obtain ⟨rs, rfl⟩ := conv h'
      cases A with
      | @cons v vs _ _ hv ht hd =>
        have E1 : ExtS n σ0 env0 F0 H0 (σ.set i (some v)) (env.set i (some r)) F H := by
          refine ⟨⟨E.ext.same, E.ext.keep, E.ext.there, E.ext.new, fun a w => ?_, E.ext.tab⟩, fun j hj => by rw [List.getElem?_set_ne (by have := hn i (List.mem_cons_self ..); omega)]; exact E.par j hj⟩
          obtain ⟨m, o, h1, h2⟩ := w
          rcases set_get h1 with ⟨rfl, q, hl⟩ | ⟨ne, q⟩
          · cases q
            obtain ⟨p', e1, e2, e3, e4, e5⟩ := hv
            rw [List.getElem?_set_self (by rw [← R.len]; exact hl)] at h2
            have b' : v = .ref a := Option.some.inj (Option.some.inj h2)
            rw [e1] at b'
            cases b'
            exact .inr e5
          · rw [List.getElem?_set_ne (Ne.symm ne)] at h2
            exact E.ext.ow a ⟨m, o, q, h2⟩
        refine ih (repA_set ht (fun p o e1 e2 z => hd p o e1 (by rw [e2]; rfl) z) R.len.symm) (rep_set R hv) E1 (fun j hj => hn j (List.mem_cons_of_mem _ hj)) h'
/-- a, b = e1, e2 and a, b, c = e1, e2, e3: names of the def alone -/
def sPar (is : List Nat) (ta : DTa) : DTS := fun E env => ta env fun evs env1 => setL is evs env1 E.nx
theorem ds_par {i j : Nat} {x y : Str} {a b : Expr} {ta : DTa} {px py pt : Pos} {kt k2 pt2} (hc : X.calm = true) (hN : X.N.Nodup) (hi : X.N[i]? = some x) (hj : X.N[j]? = some y) (hij : i ≠ j)
    (hx : X.env.scope.names.lookup x = some .local) (hy : X.env.scope.names.lookup y = some .local) (ha : DA X [a, b] ta)
    (hw : swappedStores [.Tuple [.Name x px, .Name y py] kt pt] (.Tuple [a, b] k2 pt2) X.env = pure (some [x, y]))
    (hn : ∀ m ∈ [i, j], n ≤ m := by decide)
    (hs : swapsWithSole [.Tuple [.Name x px, .Name y py] kt pt] (.Tuple [a, b] k2 pt2) pos.line X.env = pure false := by rfl) :
    DS X n (.Assign [.Tuple [.Name x px, .Name y py] kt pt] (.Tuple [a, b] k2 pt2) pos) (sPar [i, j] ta) := ⟨(ps_par hc hN hi hj hij hx hy ha.run hw hs).mono fun D σ H => by
  rintro ⟨F, env, E, R, q, l⟩
  refine ⟨F, env, R, ha.mono _ _ _ (fun evs env1 q F1 H1 vs E1 R1 V1 => ?_) q⟩
  have q0 := q
  obtain ⟨env', q, R2, E2⟩ := sets_ok V1 R1 E1.s hn q
  have hl : vs.length = 2 := by
    rw [V1.length]
    match evs, q, q0 with
    | [_, _], _, _ => rfl
    | [], _, h => exact h.elim
    | [e], _, h => obtain ⟨r, _, h⟩ := retE_get h; exact h.elim
    | e :: e' :: _ :: _, _, h => obtain ⟨r, _, h⟩ := retE_get h; obtain ⟨r, _, h⟩ := retE_get h; exact h.elim
  match vs, hl with
  | [v, w], _ => exact ⟨v, w, rfl, l.nx _ _ _ _ E2 R2 q⟩⟩
end
open PySem PySem.Spec L2

section
variable {X : Cx} {n : Nat} {pos : Pos}
theorem setL_len : ∀ {is : List Nat} {evs : List Ev} {env : Dn} {Q : Dn → Prop}, setL is evs env Q → evs.length = is.length
  | [], [], _, _, _ => rfl
  | [], _ :: _, _, _, h => h.elim
  | _ :: _, [], _, _, h => h.elim
  | i :: is, e :: es, env, Q, h => by
    obtain ⟨r, _, h'⟩ := retE_get h
    rw [List.length_cons, List.length_cons, setL_len h']
theorem ds_par3 {i j m : Nat} {x y z : Str} {a b c : Expr} {ta : DTa} {px py pz pt : Pos} {kt k2 pt2} (hc : X.calm = true) (hN : X.N.Nodup) (hi : X.N[i]? = some x) (hj : X.N[j]? = some y) (hm : X.N[m]? = some z) (hij : i ≠ j) (him : i ≠ m) (hjm : j ≠ m)
    (hx : X.env.scope.names.lookup x = some .local) (hy : X.env.scope.names.lookup y = some .local) (hz : X.env.scope.names.lookup z = some .local) (ha : DA X [a, b, c] ta)
    (hw : swappedStores [.Tuple [.Name x px, .Name y py, .Name z pz] kt pt] (.Tuple [a, b, c] k2 pt2) X.env = pure (some [x, y, z]))
    (hn : ∀ q ∈ [i, j, m], n ≤ q := by decide)
    (hs : swapsWithSole [.Tuple [.Name x px, .Name y py, .Name z pz] kt pt] (.Tuple [a, b, c] k2 pt2) pos.line X.env = pure false := by rfl) :
    DS X n (.Assign [.Tuple [.Name x px, .Name y py, .Name z pz] kt pt] (.Tuple [a, b, c] k2 pt2) pos) (sPar [i, j, m] ta) := ⟨(ps_par3 hc hN hi hj hm hij him hjm hx hy hz ha.run hw hs).mono fun D σ H => by
  rintro ⟨F, env, E, R, q, l⟩
  refine ⟨F, env, R, ha.mono _ _ _ (fun evs env1 q F1 H1 vs E1 R1 V1 => ?_) q⟩
  have hl : vs.length = 3 := by rw [V1.length, setL_len q]; rfl
  obtain ⟨env', q', R2, E2⟩ := sets_ok V1 R1 E1.s hn q
  match vs, hl with
  | [v, w, u], _ => exact ⟨v, w, u, rfl, l.nx _ _ _ _ E2 R2 q'⟩⟩

abbrev DTg := Dt → Dn → (Dn → Prop) → Prop
/-- how a value that is stored shows its data: plain, or a tuple just laid by a walk -/
abbrev IR := Hp → Hp → V → Dt → Prop
def RpR (K : PySem.W.Frag) : IR := fun F _ v d => Rp K F v d
def PrR (K : PySem.W.Frag) : IR := fun F H v d => ∃ p vs ds, v = .ref p ∧ H p = some (.tup vs) ∧ RpAll K F vs ds ∧ d = .tuple ds
/-- vs: the slots that may be turned -/
def tDg (K : PySem.W.Frag) (n : Nat) (vs : List Nat) (rel : IR) (g : DTg) : TG := fun v σ H Q => ∃ F env d, Rep K F H σ env ∧ rel F H v d ∧ g d env fun env' => ∀ σ', ExtS n σ env F H σ' env' F H → Rep K F H σ' env' → wipe σ' vs = wipe σ vs → Q σ' H
structure DG (X : Cx) (n : Nat) (vs : List Nat) (rel : IR) (tg : Expr) (g : DTg) : Prop where
  mono : ∀ d env (Q Q' : Dn → Prop), (∀ e, Q e → Q' e) → g d env Q → g d env Q'
  run : PG X tg (tDg X.K n vs rel g)
theorem wipe_get {σ : L2.St} {i : Nat} : ∀ {vs : List Nat}, (wipe σ vs)[i]? = if i ∈ vs then (if i < σ.length then some none else none) else σ[i]?
  | [] => by simp [wipe]
  | v :: vs => by
    show ((wipe σ vs).set v none)[i]? = _
    rw [List.getElem?_set, wipe_length]
    by_cases e : v = i
    · subst e
      simp
    · have e' : ¬ i = v := fun z => e z.symm
      rw [if_neg e, wipe_get (vs := vs)]
      simp [e']
theorem wipe_set {σ : L2.St} {i : Nat} {x : Option V} {vs : List Nat} (h : i ∈ vs) : wipe (σ.set i x) vs = wipe σ vs := by
  apply List.ext_getElem?
  intro j
  rw [wipe_get, wipe_get, List.length_set]
  by_cases e : j ∈ vs
  · simp [e]
  · have ne : i ≠ j := fun z => e (z ▸ h)
    rw [if_neg e, if_neg e, List.getElem?_set_ne ne]
theorem _root_.L2.PG.mono {e : Expr} {t t' : TG} (h : PG X e t) (i : ∀ v σ H Q, t' v σ H Q → t v σ H Q) : PG X e t' := ⟨fun pins s σ H v u Q I r q => h.run pins s σ H v u Q I r (i v σ H Q q)⟩
theorem _root_.L2.PGs.mono {e : List Expr} {t t' : TGs} (h : PGs X e t) (i : ∀ v σ H Q, t' v σ H Q → t v σ H Q) : PGs X e t' := ⟨fun pins s σ H v u Q I r q => h.run pins s σ H v u Q I r (i v σ H Q q)⟩
def gN (i : Nat) : DTg := fun d env Q => Q (env.set i (some (.dat d)))
theorem dg_name {i : Nat} {x : Str} {vs : List Nat} (hN : X.N.Nodup) (hi : X.N[i]? = some x) (hx : Loc X.env.scope x) (hn : n ≤ i := by decide) (hm : i ∈ vs := by decide) (hf : X.fn x = true ∨ X.env.scope.names.lookup x = some .local := by first | exact .inl rfl | exact .inr rfl | assumption) : DG X n vs (RpR X.K) (.Name x pos) (gN i) :=
  ⟨fun d env Q Q' i q => i _ q, (pg_name hN hi hx hf).mono fun v σ H Q => by
    rintro ⟨F, env, d, R, r, q⟩
    have V : RepE X.K F H σ env H v (Dv.ev (.dat d)) := r
    exact q _ (ext_set Ext.refl R V hn) (rep_set R V) (wipe_set hm)⟩
abbrev DTgs := List Dt → Dn → (Dn → Prop) → Prop
def tDgs (K : PySem.W.Frag) (n : Nat) (ws : List Nat) (g : DTgs) : TGs := fun vs σ H Q => ∃ F env ds, Rep K F H σ env ∧ RpAll K F vs ds ∧ g ds env fun env' => ∀ σ', ExtS n σ env F H σ' env' F H → Rep K F H σ' env' → wipe σ' ws = wipe σ ws → Q σ' H
structure DGs (X : Cx) (n : Nat) (ws : List Nat) (tg : List Expr) (g : DTgs) : Prop where
  mono : ∀ d env (Q Q' : Dn → Prop), (∀ e, Q e → Q' e) → g d env Q → g d env Q'
  run : PGs X tg (tDgs X.K n ws g)
def gsN : DTgs := fun ds env Q => match ds with
  | [] => Q env
  | _ => False
def gsC (g : DTg) (gs : DTgs) : DTgs := fun ds env Q => match ds with
  | d :: r => g d env fun env1 => gs r env1 Q
  | [] => False
theorem dgs_nil {ws : List Nat} : DGs X n ws [] gsN := ⟨fun d env Q Q' i q => by
    unfold gsN at q ⊢
    split at q
    · exact i _ q
    · exact q.elim, pgs_nil.mono fun v σ H Q => by
    rintro ⟨F, env, ds, R, r, q⟩
    unfold gsN at q
    split at q
    · cases r
      exact ⟨rfl, q _ ExtS.refl R rfl⟩
    · exact q.elim⟩
theorem dgs_cons {e : Expr} {es : List Expr} {ws : List Nat} {g : DTg} {gs : DTgs} (h : DG X n ws (RpR X.K) e g) (t : DGs X n ws es gs) (hs : (assignEach (e :: es) X.env).map (·.2) = assign e X.env :: (assignEach es X.env).map (·.2) := by rfl) : DGs X n ws (e :: es) (gsC g gs) :=
  ⟨fun d env Q Q' i q => by
    unfold gsC at q ⊢
    split at q
    · exact h.mono _ _ _ _ (fun env1 q => t.mono _ _ _ _ i q) q
    · exact q.elim, (pgs_cons h.run t.run hs).mono fun v σ H Q => by
    rintro ⟨F, env, ds, R, r, q⟩
    unfold gsC at q
    split at q
    · cases r with
      | cons r1 r2 =>
        refine ⟨_, _, rfl, F, env, _, R, r1, h.mono _ _ _ _ (fun env1 q σ1 E1 R1 w1 => ⟨F, env1, _, R1, r2, t.mono _ _ _ _ (fun env2 q σ2 E2 R2 w2 => q σ2 (E1.trans E2) R2 (w2.trans w1)) q⟩) q⟩
    · exact q.elim⟩
def gT (k : Nat) (gs : DTgs) : DTg := fun d env Q => match d with
  | .tuple ds => ds.length = k ∧ gs ds env Q
  | _ => False
theorem dg_tup {es : List Expr} {ws : List Nat} {kk k : Nat} {gs : DTgs} (hc : X.calm = true) (h : DGs X n ws es gs) (hn : (assignEach es X.env).length = k := by rfl) (hst : (assignEach es X.env).findIdx? (·.1) = none := by rfl) : DG X n ws (RpR X.K) (.Tuple es kk pos) (gT k gs) :=
  ⟨fun d env Q Q' i q => by
    unfold gT at q ⊢
    split at q
    · exact ⟨q.1, h.mono _ _ _ _ i q.2⟩
    · exact q.elim, (pg_tup hc h.run hn hst).mono fun v σ H Q => by
    rintro ⟨F, env, d, R, r, q⟩
    unfold gT at q
    split at q
    · cases r with
      | tup h1 a =>
        exact ⟨_, _, rfl, (seqT_same R.sub h1).sq, by rw [a.length]; exact q.1, F, env, _, R, a, q.2⟩
    · exact q.elim⟩
theorem dg_tupP {es : List Expr} {ws : List Nat} {kk k : Nat} {gs : DTgs} (hc : X.calm = true) (h : DGs X n ws es gs) (hn : (assignEach es X.env).length = k := by rfl) (hst : (assignEach es X.env).findIdx? (·.1) = none := by rfl) : DG X n ws (PrR X.K) (.Tuple es kk pos) (gT k gs) :=
  ⟨fun d env Q Q' i q => by
    unfold gT at q ⊢
    split at q
    · exact ⟨q.1, h.mono _ _ _ _ i q.2⟩
    · exact q.elim, (pg_tup hc h.run hn hst).mono fun v σ H Q => by
    rintro ⟨F, env, d, R, ⟨p, vs, ds, rfl, hp, a, rfl⟩, q⟩
    exact ⟨_, _, rfl, SqT.of hp, by rw [a.length]; exact q.1, F, env, _, R, a, q.2⟩⟩
def as1 (ev : Ev) (Q : Dt → Prop) : Prop := match ev with
  | .dat d => Q d
  | _ => False
theorem as1_get {ev : Ev} {Q : Dt → Prop} (h : as1 ev Q) : ∃ d, ev = .dat d ∧ Q d := by
  cases ev with
  | dat d => exact ⟨d, rfl, h⟩
  | _ => exact h.elim
theorem as1_mono {ev : Ev} {Q Q' : Dt → Prop} (i : ∀ d, Q d → Q' d) (h : as1 ev Q) : as1 ev Q' := by
  cases ev with
  | dat d => exact i d h
  | _ => exact h.elim
def sAsg (te : DT) (g : DTg) : DTS := fun E env => te env fun ev env1 => as1 ev fun d => g d env1 E.nx
theorem ds_asg {tg e : Expr} {te : DT} {g : DTg} {ws : List Nat} (he : DE X e te) (hg : DG X n ws (RpR X.K) tg g) (hs : swapsWithSole [tg] e pos.line X.env = pure false := by rfl) (hw : swappedStores [tg] e X.env = pure none := by rfl)
    (h1 : (assignEach [tg] X.env).map (·.2) = [assign tg X.env] := by rfl) : DS X n (.Assign [tg] e pos) (sAsg te g) := ⟨(ps_asg he.run hg.run hs hw h1).mono fun D σ H => by
  rintro ⟨F, env, E, R, q, l⟩
  refine ⟨F, env, R, he.mono _ _ _ (fun ev env1 q F1 H1 v E1 R1 V1 => ?_) q⟩
  obtain ⟨d, rfl, q'⟩ := as1_get q
  exact ⟨F1, env1, d, R1, V1, hg.mono _ _ _ _ (fun env2 q σ2 E2 R2 _ => l.nx _ _ _ _ (E1.s.trans E2) R2 q) q'⟩⟩

/-- the walk J gives the data ds, one by one, as long as F stands -/
def Yl (rel : IR) (F H H' : Hp) (x : V) (d : Dt) : Prop := (H' = H ∧ rel F H x d) ∨ ∃ p o, H p = none ∧ NB o ∧ H' = upd H p o ∧ rel F H' x d
def Wk (rel : IR) (J : It) (F : Hp) (ds : List Dt) : Prop := ∀ (i : Nat) (F' H : Hp), Same F F' → Same F' H →
  (∀ d, ds[i]? = some d → J.go i H ∧ ∀ x H', J.yld i H x H' → Yl rel F' H H' x d) ∧ (ds.length ≤ i → J.stop i H)
theorem Yl.rep {K : PySem.W.Frag} {rel : IR} {F H H' : Hp} {x : V} {d : Dt} {σ : L2.St} {env : Dn} (y : Yl rel F H H' x d) (R : Rep K F H σ env) : Rep K F H' σ env ∧ Ext σ env F H σ env F H' ∧ rel F H' x d := by
  rcases y with ⟨rfl, r⟩ | ⟨p, o, hp, nt, rfl, r⟩
  · exact ⟨R, Ext.refl, r⟩
  · obtain ⟨R', E⟩ := R.growN hp o nt
    exact ⟨R', E, r⟩
def tDi (K : PySem.W.Frag) (rel : IR) (t : DTl) : TI := fun σ H R => ∃ F env, Rep K F H σ env ∧ t env fun ds env' => ∀ F' H' J, Ext σ env F H σ env' F' H' → Rep K F' H' σ env' → Wk rel J F' ds → R J H'
structure DI (X : Cx) (rel : IR) (tg iter : Expr) (t : DTl) : Prop where
  mono : MonoL t
  run : PI X tg iter (tDi X.K rel t)
theorem _root_.L2.PI.mono {tg e : Expr} {t t' : TI} (h : PI X tg e t) (i : ∀ σ H Q, t' σ H Q → t σ H Q) : PI X tg e t' := ⟨fun pins s σ H Q I q => h.run pins s σ H Q I (i σ H Q q)⟩
def iSq (K : PySem.W.Frag) (tl : TE) : TI := fun σ H R => tl σ H fun x H1 => ∃ a, x = .ref a ∧ (((∃ xs, SqL K H1 a xs) ∧ R (Itl K a) H1) ∨ ((∃ xs, SqT K H1 a xs) ∧ R (Itt K a) H1))
theorem pi_sq {tg l : Expr} {tl : TE} (hl : PE X l tl) : PI X tg l (iSq X.K tl) := by
  constructor
  intro pins s σ H R I h
  refine thn (hl.run pins s σ H _ I h) ?_
  rintro v s1 ⟨x, H1, I1, r1, a, rfl, w⟩
  cases r1
  have fp : ∀ b ∈ [s1.heap.objs.size], FpOk X pins H1 b := by
    intro b hb
    obtain rfl : b = s1.heap.objs.size := by simpa using hb
    exact I1.fpOk (Nat.le_refl _) (I1.hok.fresh (Nat.le_refl _))
  rcases w with ⟨⟨xs, hq⟩, q⟩ | ⟨⟨xs, hq⟩, q⟩
  · obtain ⟨its, _, p, _⟩ := I1.list hq
    apply wpAny_pyIter_list p.isList
    exact ⟨_, _, _, _, H1, rfl, I1.kept (t' := s1.toks) (fun b o e => Heap.get?_push_of_some _ e), turn_list a _, ⟨_, Heap.get?_push_size _ rfl, rfl, rfl⟩, fp, q⟩
  · obtain ⟨its, _, p, _⟩ := I1.tuple hq
    apply wpAny_pyIter_tuple (show s1.heap.IsTuple a its.toArray from p)
    exact ⟨_, _, _, _, H1, rfl, I1.kept (t' := s1.toks) (fun b o e => Heap.get?_push_of_some _ e), turn_tuple a _, ⟨_, Heap.get?_push_size _ rfl, rfl, rfl⟩, fp, q⟩
theorem wk_list {K : PySem.W.Frag} {F : Hp} {a : Addr} {vs : List V} {ds : List Dt} (h : F a = some (.lst vs)) (r : RpAll K F vs ds) : Wk (RpR K) (Itl K a) F ds := by
  intro i F' H s1 s2
  have hq : SqL K H a vs := SqL.of (s2 _ _ (s1 _ _ h))
  refine ⟨fun d e => ?_, fun hl => ⟨vs, hq, by rw [r.length]; exact hl⟩⟩
  obtain ⟨v, e1, e2⟩ := r.get e
  refine ⟨⟨vs, v, hq, e1⟩, fun x H' ⟨e3, e4⟩ => ?_⟩
  subst e3
  have e5 := e4 vs hq
  rw [e1] at e5; cases e5
  exact .inl ⟨rfl, dp_same s1 e2⟩
theorem wk_tup {K : PySem.W.Frag} {F : Hp} {a : Addr} {vs : List V} {ds : List Dt} (h : TuA K F a vs) (r : RpAll K F vs ds) : Wk (RpR K) (Itt K a) F ds := by
  intro i F' H s1 s2
  have hq : SqT K H a vs := (seqT_same s2 (seqT_same s1 h)).sq
  refine ⟨fun d e => ?_, fun hl => ⟨vs, hq, by rw [r.length]; exact hl⟩⟩
  obtain ⟨v, e1, e2⟩ := r.get e
  refine ⟨⟨vs, v, hq, e1⟩, fun x H' ⟨e3, e4⟩ => ?_⟩
  subst e3
  have e5 := e4 vs hq
  rw [e1] at e5; cases e5
  exact .inl ⟨rfl, dp_same s1 e2⟩
theorem wk_range {K : PySem.W.Frag} {F : Hp} {lo : Int} {m : Nat} : Wk (RpR K) (Itr lo m) F ((List.range m).map fun k => PyData.int (lo + (k : Nat))) := by
  intro i F' H s1 s2
  refine ⟨fun d e => ?_, fun hl => show m ≤ i by simpa using hl⟩
  rw [List.getElem?_map] at e
  obtain ⟨k, e1, e2⟩ := Option.map_eq_some_iff.mp e
  have hk := List.getElem?_eq_some_iff.mp e1
  obtain ⟨h1, h2⟩ := hk
  rw [List.getElem_range] at h2
  subst h2 e2
  refine ⟨show i < m by simpa using h1, fun x H' ⟨e3, e4⟩ => ?_⟩
  subst e3 e4
  exact .inl ⟨rfl, .int _⟩
def iSeq (te : DT) : DTl := fun env Q => te env fun ev env1 => as1 ev fun d => wr (seqD d) fun ds => Q ds env1
theorem di_seq {tg e : Expr} {te : DT} (h : DE X e te) : DI X (RpR X.K) tg e (iSeq te) := by
  refine ⟨fun env Q Q' i q => h.mono _ _ _ (fun ev env1 q => as1_mono (fun d q => wr_mono (fun ds q => i _ _ q) q) q) q, (pi_sq h.run).mono fun σ H Q => ?_⟩
  rintro ⟨F, env, R, q⟩
  refine ⟨F, env, R, h.mono _ _ _ (fun ev env1 q F1 H1 v E1 R1 V1 => ?_) q⟩
  obtain ⟨d, rfl, q'⟩ := as1_get q
  obtain ⟨ds, e, q⟩ := wr_get q'
  have V1 : Rp X.K F1 v d := V1
  cases V1 with
  | lst h1 a => cases e; exact ⟨_, rfl, .inl ⟨⟨_, SqL.of (R1.sub _ _ h1)⟩, q F1 H1 _ E1 R1 (wk_list h1 a)⟩⟩
  | tup h1 a => cases e; exact ⟨_, rfl, .inr ⟨⟨_, (seqT_same R1.sub h1).sq⟩, q F1 H1 _ E1 R1 (wk_tup h1 a)⟩⟩
  | _ => cases e
def rngL (lo : Int) (hi : Int) : List Dt := (List.range (hi - lo).toNat).map fun k => PyData.int (lo + (k : Nat))
def big62 : Int := 4611686018427387904
def iRng (te : DT) : DTl := fun env Q => te env fun ev env1 => as1 ev fun d => match d with
  | .int j => (-(2 ^ 62) ≤ j ∧ j < 2 ^ 62) ∧ Q (rngL 0 j) env1
  | _ => False
theorem di_range {tg e : Expr} {te : DT} {p : Pos} (hg : Gl X "range") (hm : X.mg "range" = none) (h : DE X e te) (hs : starEach [e] X.env = [(false, eval e X.env)] := by rfl) : DI X (RpR X.K) tg (.Call (.Name "range" p) [e] [] pos) (iRng te) := by
  refine ⟨fun env Q Q' i q => h.mono _ _ _ (fun ev env1 q => as1_mono (fun d q => ?_) q) q, (pi_range1 hg hm (pa_cons h.run pa_nil hs) hs).mono fun σ H Q => ?_⟩
  · revert q
    dsimp only
    split
    · exact fun q => ⟨q.1, i _ _ q.2⟩
    · exact fun q => q
  · rintro ⟨F, env, R, q⟩
    refine ⟨F, env, R, h.mono _ _ _ (fun ev env1 q F1 H1 v E1 R1 V1 => ?_) q⟩
    obtain ⟨d, rfl, q'⟩ := as1_get q
    replace q := q'
    dsimp only at q
    split at q
    · rename_i j
      have V1 : Rp X.K F1 v (.int j) := V1
      cases V1
      refine ⟨j, rfl, q.1.1, q.1.2, q.2 F1 H1 _ E1 R1 ?_⟩
      have := wk_range (K := X.K) (F := F1) (lo := 0) (m := j.toNat)
      unfold rngL
      rw [Int.sub_zero]
      exact this
    · exact q.elim
def iRng2 (ta : DTa) : DTl := fun env Q => ta env fun evs env1 => asD evs fun ds => match ds with
  | [.int i, .int j] => (-(2 ^ 62) ≤ i ∧ i < 2 ^ 62 ∧ -(2 ^ 62) ≤ j ∧ j < 2 ^ 62) ∧ Q (rngL i j) env1
  | _ => False
theorem di_range2 {tg a b : Expr} {ta : DTa} {p : Pos} (hg : Gl X "range") (hm : X.mg "range" = none) (h : DA X [a, b] ta) (hs : starEach [a, b] X.env = [(false, eval a X.env), (false, eval b X.env)] := by rfl) (hs2 : starEach [b] X.env = [(false, eval b X.env)] := by rfl) :
    DI X (RpR X.K) tg (.Call (.Name "range" p) [a, b] [] pos) (iRng2 ta) := by
  refine ⟨fun env Q Q' i q => h.mono _ _ _ (fun ev env1 q => asD_mono (fun d q => ?_) q) q, (pi_range2 hg hm h.run hs hs2).mono fun σ H Q => ?_⟩
  · revert q
    dsimp only
    split
    · exact fun q => ⟨q.1, i _ _ q.2⟩
    · exact fun q => q
  · rintro ⟨F, env, R, q⟩
    refine ⟨F, env, R, h.mono _ _ _ (fun evs env1 q F1 H1 vs E1 R1 V1 => ?_) q⟩
    obtain ⟨ds, rfl, q'⟩ := asD_get q
    replace q := q'
    have a := V1.dats
    dsimp only at q
    split at q
    · cases a with
      | cons a1 a =>
        cases a with
        | cons a2 a =>
          cases a
          cases a1
          cases a2
          exact ⟨_, _, rfl, q.1, q.2 F1 H1 _ E1 R1 wk_range⟩
    · exact q.elim

/-- the turns, one by one -/
def dFor (g : DTg) (tb : DTS) (E : DEnds) : List Dt → Dn → Prop
  | [], env => E.nx env
  | d :: ds, env => g d env fun env1 => tb { nx := dFor g tb E ds, ct := dFor g tb E ds, bk := E.nx, rt := E.rt, ex := E.ex } env1
def sFor (ti : DTl) (g : DTg) (tb : DTS) : DTS := fun E env => ti env fun ds env1 => dFor g tb E ds env1
theorem ds_for {tg iter : Expr} {body : List Stmt} {ti : DTl} {g : DTg} {tb : DTS} (hp : PassesOwn (model X.prog X.w) X.A X.env X.xe) (hc : X.calm = true) {rel : IR} {ws : List Nat} (hi : DI X rel tg iter ti) (hg : DG X n ws rel tg g) (hb : DSs X n body tb)
    (hs : ∀ x, foldedSetIterable iter X.env x = pure x := by intro _; rfl) : DS X n (.For tg iter body [] pos) (sFor ti g tb) := ⟨(ps_for hp hc hi.run hg.run hb.run hs).mono fun D σ H => by
  rintro ⟨F, env, E, R, q, l⟩
  refine ⟨F, env, R, hi.mono _ _ _ (fun ds env1 q F1 H1 J E1 R1 hw => ?_) q⟩
  have l1 := l.move (E1.s (n := n))
  refine ⟨fun i m σ' H' => m = ds.length - i ∧ i ≤ ds.length ∧ ∃ F' env', ExtS n σ env1 F1 H1 σ' env' F' H' ∧ Rep X.K F' H' σ' env' ∧ dFor g tb E (ds.drop i) env', ⟨_, rfl, Nat.zero_le _, F1, env1, ExtS.refl, R1, by simpa using q⟩, ?_⟩
  rintro i m σ' H' ⟨rfl, hi', F', env', E', R', w⟩
  obtain ⟨k1, k2⟩ := hw i F' H' E'.ext.same R'.sub
  by_cases hlt : i < ds.length
  · right
    have e : ds[i]? = some ds[i] := List.getElem?_eq_getElem hlt
    obtain ⟨go, yl⟩ := k1 _ e
    rw [List.drop_eq_getElem_cons hlt] at w
    refine ⟨go, fun σ2 H2 => i + 1 ≤ ds.length ∧ ∃ F2 env2, ExtS n σ env1 F1 H1 σ2 env2 F2 H2 ∧ Rep X.K F2 H2 σ2 env2 ∧ dFor g tb E (ds.drop (i + 1)) env2, fun σ2 H2 ⟨z1, z2⟩ => ⟨_, by omega, rfl, z1, z2⟩, fun x H2 y => ?_⟩
    obtain ⟨R2, E2, r2⟩ := (yl x H2 y).rep R'
    refine ⟨F', env', _, R2, r2, hg.mono _ _ _ _ (fun env3 q σ3 E3 R3 _ => ?_) w⟩
    have E13 : ExtS n σ env1 F1 H1 σ3 env3 F' H2 := (E'.trans E2.s).trans E3
    refine ⟨F', env3, _, R3, q, ⟨fun σ4 env4 F4 H4 E4 R4 z => ⟨hlt, F4, env4, E13.trans E4, R4, z⟩, fun σ4 env4 F4 H4 E4 R4 z => l1.nx _ _ _ _ (E13.trans E4) R4 z, fun σ4 env4 F4 H4 E4 R4 z => ⟨hlt, F4, env4, E13.trans E4, R4, z⟩, fun r v σ4 env4 F4 H4 E4 R4 V4 z => l1.rt _ _ _ _ _ _ (E13.trans E4) R4 (V4.back E13.ext.there) z, fun x cls d σ4 env4 F4 H4 E4 R4 V4 z => l1.ex _ _ _ _ _ _ _ (E13.trans E4) R4 V4 z⟩⟩
  · left
    have e : i = ds.length := by omega
    subst e
    rw [List.drop_length] at w
    exact ⟨k2 (Nat.le_refl _), l1.nx _ _ _ _ E' R' w⟩⟩
def sWhile (c : DTb) (tb : DTS) : DTS := fun E env => ∃ W : Nat → Dn → Prop, (∃ m, W m env) ∧ ∀ m env, W m env → c env fun b env1 => if b = true then tb { nx := fun e => ∃ m', m' < m ∧ W m' e, ct := fun e => ∃ m', m' < m ∧ W m' e, bk := E.nx, rt := E.rt, ex := E.ex } env1 else E.nx env1
theorem ds_while {c : Expr} {body : List Stmt} {tc : DTb} {tb : DTS} (hp : PassesOwn (model X.prog X.w) X.A X.env X.xe) (hc : DB X c tc) (hb : DSs X n body tb) : DS X n (.While c body [] pos) (sWhile tc tb) := ⟨(ps_while hp hc.run hb.run).mono fun D σ H => by
  rintro ⟨F, env, E, R, ⟨W, ⟨m0, w0⟩, turn⟩, l⟩
  refine ⟨fun m σ' H' => ∃ F' env', ExtS n σ env F H σ' env' F' H' ∧ Rep X.K F' H' σ' env' ∧ W m env', ⟨m0, F, env, ExtS.refl, R, w0⟩, ?_⟩
  rintro m σ' H' ⟨F', env', E', R', w⟩
  refine ⟨F', env', R', hc.mono _ _ _ (fun b env1 q F1 H1 E1 R1 => ?_) (turn m env' w)⟩
  cases b
  · exact l.nx _ _ _ _ (E'.trans E1.s) R1 q
  · have E2 : ExtS n σ env F H σ' env1 F1 H1 := E'.trans E1.s
    refine ⟨fun σ2 H2 => ∃ m', m' < m ∧ ∃ F2 env2, ExtS n σ env F H σ2 env2 F2 H2 ∧ Rep X.K F2 H2 σ2 env2 ∧ W m' env2, fun σ2 H2 ⟨m', z1, z2⟩ => ⟨m', z1, z2⟩, F1, env1, _, R1, q, ⟨fun σ4 env4 F4 H4 E4 R4 ⟨m', z1, z2⟩ => ⟨m', z1, F4, env4, E2.trans E4, R4, z2⟩, fun σ4 env4 F4 H4 E4 R4 z => l.nx _ _ _ _ (E2.trans E4) R4 z, fun σ4 env4 F4 H4 E4 R4 ⟨m', z1, z2⟩ => ⟨m', z1, F4, env4, E2.trans E4, R4, z2⟩, fun r v σ4 env4 F4 H4 E4 R4 V4 z => l.rt _ _ _ _ _ _ (E2.trans E4) R4 (V4.back E2.ext.there) z, fun x cls d σ4 env4 F4 H4 E4 R4 V4 z => l.ex _ _ _ _ _ _ _ (E2.trans E4) R4 V4 z⟩⟩⟩
end
open PySem PySem.Spec L2

def wipeD (env : Dn) : List Nat → Dn
  | [] => env
  | v :: vs => (wipeD env vs).set v none
theorem wipeD_length (env : Dn) : ∀ vs : List Nat, (wipeD env vs).length = env.length
  | [] => rfl
  | v :: vs => by unfold wipeD; rw [List.length_set, wipeD_length env vs]
theorem wipeD_some {env : Dn} {i : Nat} {x : Dv} : ∀ {vs : List Nat}, (wipeD env vs)[i]? = some (some x) → env[i]? = some (some x) ∧ i ∉ vs
  | [], h => ⟨h, by simp⟩
  | v :: vs, h => by
    rcases set_get (show ((wipeD env vs).set v none)[i]? = some (some x) from h) with ⟨_, z, _⟩ | ⟨ne, z⟩
    · cases z
    · obtain ⟨h1, h2⟩ := wipeD_some z
      exact ⟨h1, by simp [ne, h2]⟩
section
variable {K : PySem.W.Frag} {F H : Hp} {σ : L2.St} {env : Dn} {vs : List Nat}
theorem wipe_keep {i : Nat} (h : i ∉ vs) : (wipe σ vs)[i]? = σ[i]? := by rw [wipe_get, if_neg h]
theorem Rep.wipe (R : Rep K F H σ env) : Rep K F H (wipe σ vs) (wipeD env vs) := by
  refine ⟨R.sub, by rw [wipeD_length, wipe_length]; exact R.len, fun i dv e => ?_, fun i j o o' p h1 h2 h3 h4 => ?_⟩
  · obtain ⟨e1, e2⟩ := wipeD_some e
    obtain ⟨v, e3, e4⟩ := R.val i dv e1
    exact ⟨v, by rw [wipe_keep e2]; exact e3, e4⟩
  · exact R.inj i j o o' p (wipeD_some h1).1 (wipeD_some h2).1 (wipe_some h3).1 (wipe_some h4).1
theorem Rep.unwipe (R : Rep K F H (L2.wipe σ vs) env) : Rep K F H σ env := by
  have up : ∀ (i : Nat) (o : Ob) (p : Addr), env[i]? = some (some (.obj o)) → σ[i]? = some (some (V.ref p)) → (L2.wipe σ vs)[i]? = some (some (V.ref p)) := fun i o p e h => by
    obtain ⟨v, e1, _⟩ := R.val i _ e
    have e2 := (wipe_some e1).1
    rw [h] at e2; cases e2
    exact e1
  refine ⟨R.sub, by rw [R.len, wipe_length], fun i dv e => ?_, fun i j o o' p h1 h2 h3 h4 => R.inj i j o o' p h1 h2 (up i o p h1 h3) (up j o' p h2 h4)⟩
  obtain ⟨v, e1, e2⟩ := R.val i dv e
  exact ⟨v, (wipe_some e1).1, e2⟩
theorem ow_unwipe (R : Rep K F H (L2.wipe σ vs) env) {a : Addr} (w : Ow σ env a) : Ow (L2.wipe σ vs) env a := by
  obtain ⟨i, o, e, h⟩ := w
  obtain ⟨v, e1, _⟩ := R.val i _ e
  have e2 := (wipe_some e1).1
  rw [h] at e2; cases e2
  exact ⟨i, o, e, e1⟩
theorem ow_wipe {a : Addr} (w : Ow (L2.wipe σ vs) (wipeD env vs) a) : Ow σ env a := by
  obtain ⟨i, o, e, h⟩ := w
  exact ⟨i, o, (wipeD_some e).1, (wipe_some h).1⟩
end

def dComp (vs : List Nat) (g : DTg) (tt : DTb) (te : DT) (Q : List Dt → Dn → Prop) : List Dt → List Dt → Dn → Prop
  | [], acc, env => Q acc env
  | d :: ds, acc, env => g d env fun env1 => tt env1 fun b env2 => if b = true then te env2 fun ev env3 => as1 ev fun r => dComp vs g tt te Q ds (acc ++ [r]) (wipeD env3 vs) else dComp vs g tt te Q ds acc (wipeD env2 vs)
def kComp (vs : List Nat) (ti : DTl) (g : DTg) (tt : DTb) (te : DT) : DTl := fun env Q => ti env fun ds env1 => lenOk ds.length ∧ dComp vs g tt te Q ds [] (wipeD env1 vs)
theorem dComp_mono {vs : List Nat} {g : DTg} {tt : DTb} {te : DT} (mg : ∀ d env (Q Q' : Dn → Prop), (∀ e, Q e → Q' e) → g d env Q → g d env Q') (mt : MonoB tt) (me : MonoD te) {Q Q' : List Dt → Dn → Prop} (i : ∀ ds env, Q ds env → Q' ds env) :
    ∀ (ds acc : List Dt) (env : Dn), dComp vs g tt te Q ds acc env → dComp vs g tt te Q' ds acc env
  | [], acc, env, h => i _ _ h
  | d :: ds, acc, env, h => mg _ _ _ _ (fun env1 h => mt _ _ _ (fun b env2 h => by
      cases b
      · exact dComp_mono mg mt me i ds _ _ h
      · exact me _ _ _ (fun ev env3 h => as1_mono (fun r h => dComp_mono mg mt me i ds _ _ h) h) h) h) h
def tYesD : DTb := fun env Q => Q true env
structure DTs (X : Cx) (ifs : List Expr) (t : DTb) : Prop where
  mono : MonoB t
  run : PTs X ifs (tDb X.K t)
theorem _root_.L2.PTs.mono {X : Cx} {e : List Expr} {t t' : TT} (h : PTs X e t) (i : ∀ σ H Q, t' σ H Q → t σ H Q) : PTs X e t' := ⟨fun pins s σ H Q I q => h.run pins s σ H Q I (i σ H Q q)⟩
theorem dts_nil {X : Cx} : DTs X [] tYesD := ⟨fun _ _ _ i h => i _ _ h, pts_nil.mono fun σ H Q => by
  rintro ⟨F, env, R, q⟩
  exact q F H Ext.refl R⟩
theorem dts_one {X : Cx} {c : Expr} {t : DTb} (h : DB X c t) : DTs X [c] t := ⟨h.mono, pts_one h.run⟩
section
variable {X : Cx} {n : Nat} {pos : Pos}
theorem comp_run {ti : DTl} {rel : IR} {g : DTg} {tt : DTb} {te : DT} {vs : List Nat} (mi : MonoL ti) (mg : ∀ d env (Q Q' : Dn → Prop), (∀ e, Q e → Q' e) → g d env Q → g d env Q') (mt : MonoB tt) (me : MonoD te) {σ : L2.St} {H : Hp} {Q : VK}
    (h : tDl X.K (kComp vs ti g tt te) σ H Q) : tLc (tDi X.K rel ti) (tDg X.K n vs rel g) (tDb X.K tt) (tD X.K te) vs σ H Q := by
  obtain ⟨F, env, R, q⟩ := h
  refine ⟨F, env, R, mi _ _ _ (fun ds env1 q F1 H1 J E1 R1 hw D hD => ?_) q⟩
  obtain ⟨hz, q⟩ := q
  have R1w : Rep X.K F1 H1 (wipe σ vs) (wipeD env1 vs) := R1.wipe
  obtain ⟨R2w, E2w⟩ := R1w.growN hD (.lst [])
  have ww : wipe (wipe σ vs) vs = wipe σ vs := by
    apply List.ext_getElem?
    intro j
    rw [wipe_get, wipe_get, wipe_length]
    by_cases hj : j ∈ vs <;> simp [hj]
  -- what holds between two turns
  refine ⟨fun i m H' => m = ds.length - i ∧ i ≤ ds.length ∧ ∃ F' env' acc av, Rep X.K F' H' (wipe σ vs) env' ∧ Ext (wipe σ vs) (wipeD env1 vs) F1 H1 (wipe σ vs) env' F' H' ∧ H' D = some (.lst av) ∧ RpAll X.K F' av acc ∧ F' D = none ∧ ¬ Ow (wipe σ vs) env' D ∧ acc.length ≤ i ∧
      dComp vs g tt te (fun ds env' => ∀ F' H' p vs, Ext σ env F H σ env' F' H' → Rep X.K F' H' σ env' → F' p = none → H' p = some (.lst vs) → RpAll X.K F' vs ds → ¬ Ow σ env' p → H p = none → Q (.ref p) H') (ds.drop i) acc env',
    ⟨_, rfl, Nat.zero_le _, F1, wipeD env1 vs, [], [], R2w, E2w, upd_same, .nil, R1.fnone hD, fun w => R1.not_ow hD (ow_wipe w), Nat.le_refl _, by simpa using q⟩, ?_⟩
  rintro i m H' ⟨rfl, hi, F', env', acc, av, R', E', hp, ha, hf, no, hl, w⟩
  obtain ⟨k1, k2⟩ := hw i F' H' E'.same R'.sub
  by_cases hlt : i < ds.length
  · right
    have e : ds[i]? = some ds[i] := List.getElem?_eq_getElem hlt
    obtain ⟨go, yl⟩ := k1 _ e
    rw [List.drop_eq_getElem_cons hlt] at w
    refine ⟨go, _, fun H'' z => ⟨ds.length - (i + 1), by omega, z⟩, fun x H2 y => ?_⟩
    obtain ⟨R2, E2, r2⟩ := (yl x H2 y).rep R'
    refine ⟨F', env', _, R2, r2, mg _ _ _ _ (fun env3 q3 σ3 E3 R3 w3 => ⟨w3.trans ww, F', env3, R3, mt _ _ _ (fun b env4 q4 F4 H4 E4 R4 => ?_) q3⟩) w⟩
    have E24 : Ext (wipe σ vs) env' F' H' σ3 env4 F4 H4 := (E2.trans E3.ext).trans E4
    have hp4 : H4 D = some (.lst av) := E24.keep D _ hp no nt_lst.1
    have hf4 : ∀ {σ5 : L2.St} {env5 : Dn} {F5 H5 : Hp}, Ext (wipe σ vs) env' F' H' σ5 env5 F5 H5 → F5 D = none := fun {σ5 env5 F5 H5} E => by
      cases q : F5 D with
      | none => rfl
      | some u =>
        rcases E.new D u q hf with z | z
        · rw [hp] at z; cases z
        · exact absurd z no
    have no4 : ∀ {σ5 : L2.St} {env5 : Dn} {F5 H5 : Hp}, Ext (wipe σ vs) env' F' H' σ5 env5 F5 H5 → ¬ Ow σ5 env5 D := fun {σ5 env5 F5 H5} E z => by
      rcases E.ow D z with z | z
      · exact no z
      · rw [hp] at z; cases z
    -- back to the wiped slots
    have back : ∀ {env5 : Dn} {F5 H5 : Hp}, Rep X.K F5 H5 σ3 env5 → Ext (wipe σ vs) env' F' H' σ3 env5 F5 H5 → Rep X.K F5 H5 (wipe σ vs) (wipeD env5 vs) ∧ Ext (wipe σ vs) env' F' H' (wipe σ vs) (wipeD env5 vs) F5 H5 := fun {env5 F5 H5} R5 E5 => by
      have z : Rep X.K F5 H5 (wipe σ3 vs) (wipeD env5 vs) := R5.wipe
      rw [w3, ww] at z
      refine ⟨z, E5.same, E5.keep, E5.there, E5.new, fun a q => E5.ow a ?_, E5.tab⟩
      rw [show wipe σ vs = wipe σ3 vs from (w3.trans ww).symm] at q
      exact ow_wipe q
    cases b
    · obtain ⟨R5, E5⟩ := back R4 E24
      exact ⟨rfl, hlt, F4, wipeD env4 vs, acc, av, R5, E'.trans E5, hp4, dpAll_same E24.same ha, hf4 E5, no4 E5, by omega, q4⟩
    · refine ⟨F4, env4, R4, me _ _ _ (fun ev env5 q5 F5 H5 y E5 R5 V5 => ?_) q4⟩
      obtain ⟨r, rfl, q5⟩ := as1_get q5
      have E25 := E24.trans E5
      have hp5 : H5 D = some (.lst av) := E25.keep D _ hp no nt_lst.1
      obtain ⟨R6, E6⟩ := back R5 E25
      have lz : av.length < sizeLine := by
        have h1 := ha.length
        have h2 : ds.length ≤ sizeLine := hz
        omega
      refine ⟨av, hp5, lz, rfl, hlt, F5, wipeD env5 vs, acc ++ [r], av ++ [y], ?_, ?_, upd_same, (dpAll_same E25.same ha).snoc V5, hf4 E25, no4 E6, by simp; omega, q5⟩
      · refine ⟨fun a u z => ?_, R6.len, fun j dv ej => ?_, R6.inj⟩
        · have z1 := R6.sub a u z
          rw [upd_ne]
          · exact z1
          · intro eq
            subst eq
            rw [hf4 E25] at z; cases z
        · obtain ⟨v, e1, e2⟩ := R6.val j dv ej
          refine ⟨v, e1, ?_⟩
          cases dv with
          | dat d => exact e2
          | inv φ => exact e2
          | tab P => exact TabF.over e2 hp5 nt_lst nt_lst.1
          | obj ob =>
            obtain ⟨p, e3, e4, e5⟩ := e2
            have ne : p ≠ D := fun eq => no4 E6 ⟨j, ob, ej, by rw [e1, e3, eq]⟩
            exact ⟨p, e3, e4, e5.move (Same.refl _) (upd_ne ne)⟩
      · have E7 := E'.trans E6
        refine ⟨E7.same, fun a u z nz nt => ?_, fun a u z => ?_, E7.new, E7.ow, fun P t => (E7.tab P t).over hp5 nt_lst nt_lst.1⟩
        · rw [upd_ne (ne_of_none z hD)]; exact E7.keep a u z nz nt
        · obtain ⟨u', z'⟩ := E7.there a u z
          exact ⟨u', by rw [upd_ne (ne_of_none z hD)]; exact z'⟩
  · left
    have e : i = ds.length := by omega
    subst e
    rw [List.drop_length] at w
    refine ⟨k2 (Nat.le_refl _), ?_⟩
    have E8 : Ext σ env1 F1 H1 σ env' F' H' := ⟨E'.same, fun a u z nz => E'.keep a u z (fun o => nz (ow_wipe o)), E'.there, fun a u z nz => (E'.new a u z nz).imp id ow_wipe, fun a z => (E'.ow a (ow_unwipe R' z)).imp ow_wipe id, E'.tab⟩
    refine w F' H' D av (E1.trans E8) R'.unwipe hf hp ha (fun z => no (ow_unwipe R' z)) ?_
    cases q : H D with
    | none => rfl
    | some u =>
      obtain ⟨u', z⟩ := E1.there D u q
      rw [hD] at z; cases z
theorem dl_comp {elt tg iter : Expr} {ifs : List Expr} {scope : Scope} {own : List (Str × Nat)} {rel : IR} {ti : DTl} {g : DTg} {tt : DTb} {te : DT} (hc : X.calm = true) (hN : X.N.Nodup) (hi : DI X rel tg iter ti) (ok : BlkOk X.N X.env.scope scope own)
    (hg : ∀ (s : Shared) (H : Hp) (C : Addr) (cl : List (Str × Addr)) (fp : List Addr), DG (X.blk s H scope (compEnvC scope cl C X.env) fp) n (own.map (·.2)) rel tg g) (ht : ∀ (s : Shared) (H : Hp) (C : Addr) (cl : List (Str × Addr)) (fp : List Addr), DTs (X.blk s H scope (compEnvC scope cl C X.env) fp) ifs tt)
    (he : ∀ (s : Shared) (H : Hp) (C : Addr) (cl : List (Str × Addr)) (fp : List Addr), DE (X.blk s H scope (compEnvC scope cl C X.env) fp) elt te) (mg : ∀ d env (Q Q' : Dn → Prop), (∀ e, Q e → Q' e) → g d env Q → g d env Q') (mt : MonoB tt) (me : MonoD te)
    (hs : ∀ x, foldedSetIterable iter X.env x = pure x := by intro _; rfl) : DL X (.ListComp elt [⟨tg, iter, ifs, 0⟩] scope pos) (kComp (own.map (·.2)) ti g tt te) :=
  ⟨fun env Q Q' i q => hi.mono _ _ _ (fun ds env1 q => ⟨q.1, dComp_mono mg mt me i _ _ _ q.2⟩) q, (pe_lc hc hN hi.run ok (fun s H C cl fp => (hg s H C cl fp).run) (fun s H C cl fp => (ht s H C cl fp).run) (fun s H C cl fp => (he s H C cl fp).run) hs).mono fun σ H Q h => comp_run (n := n) hi.mono mg mt me h⟩
end
open PySem PySem.Spec L2

section
variable {X : Cx} {n : Nat} {pos : Pos}
theorem lF_imp {t : DTl} (m : MonoL t) {σ : L2.St} {H : Hp} {Q : VK} (h : tD X.K (kLF t) σ H Q) : tDl X.K t σ H Q := by
  obtain ⟨F, env, R, q⟩ := h
  refine ⟨F, env, R, m _ _ _ (fun ds env1 q F1 H1 p vs E1 R1 hf hp a no h0 => ?_) q⟩
  have R2 := R1.seal hf hp no
  refine q (upd F1 p (.lst vs)) H1 (.ref p) ⟨E1.same.trans (same_upd hf), E1.keep, E1.there, fun b u z zn => ?_, E1.ow, fun _ t => (E1.tab _ t).setF ((E1.tab _ t).ne hp nt_lst.1)⟩ R2 (.lst upd_same (dpAll_same (same_upd hf) a))
  by_cases e : b = p
  · subst e; exact .inl h0
  · rw [upd_ne e] at z; exact E1.new b u z zn
theorem lN_imp {t : DTl} (m : MonoL t) {σ : L2.St} {H : Hp} {Q : VK} (h : tD X.K (kLN t) σ H Q) : tDl X.K t σ H Q := by
  obtain ⟨F, env, R, q⟩ := h
  exact ⟨F, env, R, m _ _ _ (fun ds env1 q F1 H1 p vs E1 R1 hf hp a no h0 => q F1 H1 (.ref p) E1 R1 ⟨p, rfl, hf, ⟨vs, hp, a⟩, no, h0⟩) q⟩
theorem set_imp {i : Nat} {te : DT} (m : MonoD te) (hn : n ≤ i) {D : Ends} {σ : L2.St} {H : Hp} (h : tDs X n (sSet i te) D σ H) : tD X.K te σ H fun x H1 => D.nx (σ.set i (some x)) H1 := by
  obtain ⟨F, env, E, R, q, l⟩ := h
  refine ⟨F, env, R, m _ _ _ (fun ev env1 q F1 H1 v E1 R1 V1 => ?_) q⟩
  obtain ⟨r, rfl, q'⟩ := retE_get q
  exact l.nx _ _ _ _ (ext_set E1 R1 V1 hn) (rep_set R1 V1) q'
theorem kComp_mono {vs : List Nat} {ti : DTl} {g : DTg} {tt : DTb} {te : DT} (mi : MonoL ti) (mg : ∀ d env (Q Q' : Dn → Prop), (∀ e, Q e → Q' e) → g d env Q → g d env Q') (mt : MonoB tt) (me : MonoD te) : MonoL (kComp vs ti g tt te) :=
  fun env Q Q' i q => mi _ _ _ (fun ds env1 q => ⟨q.1, dComp_mono mg mt me i _ _ _ q.2⟩) q
theorem kLF_mono {t : DTl} (m : MonoL t) : MonoD (kLF t) := fun env Q Q' i q => m _ _ _ (fun ds env1 q => i _ _ q) q
theorem kLN_mono {t : DTl} (m : MonoL t) : MonoD (kLN t) := fun env Q Q' i q => m _ _ _ (fun ds env1 q => i _ _ q) q
section
variable {i : Nat} {y : Str} {py spos : Pos} {elt tg iter : Expr} {ifs : List Expr} {scope : Scope} {own : List (Str × Nat)} {rel : IR} {ti : DTl} {g : DTg} {tt : DTb} {te : DT}
theorem ds_setLcF (hc : X.calm = true) (hN : X.N.Nodup) (hy : X.N[i]? = some y) (hyl : X.env.scope.names.lookup y = some .local)
    (hsw : swapsWith (.ListComp elt [⟨tg, iter, ifs, 0⟩] scope pos) (some (.Name y py)) spos.line X.env = pure true) (hi : DI X rel tg iter ti) (ok : BlkOk X.N X.env.scope scope own)
    (hg : ∀ (s : Shared) (H : Hp) (C : Addr) (cl : List (Str × Addr)) (fp : List Addr), DG (X.blk s H scope (compEnvC scope cl C X.env) fp) n (own.map (·.2)) rel tg g) (ht : ∀ (s : Shared) (H : Hp) (C : Addr) (cl : List (Str × Addr)) (fp : List Addr), DTs (X.blk s H scope (compEnvC scope cl C X.env) fp) ifs tt)
    (he : ∀ (s : Shared) (H : Hp) (C : Addr) (cl : List (Str × Addr)) (fp : List Addr), DE (X.blk s H scope (compEnvC scope cl C X.env) fp) elt te) (mg : ∀ d env (Q Q' : Dn → Prop), (∀ e, Q e → Q' e) → g d env Q → g d env Q') (mt : MonoB tt) (me : MonoD te)
    (hn : n ≤ i := by decide) (hs : ∀ x, foldedSetIterable iter X.env x = pure x := by intro _; rfl) : DS X n (.Assign [.Name y py] (.ListComp elt [⟨tg, iter, ifs, 0⟩] scope pos) spos) (sSet i (kLF (kComp (own.map (·.2)) ti g tt te))) :=
  ⟨(ps_setLc hc hN hy hyl hsw hi.run ok (fun s H C cl fp => (hg s H C cl fp).run) (fun s H C cl fp => (ht s H C cl fp).run) (fun s H C cl fp => (he s H C cl fp).run) hs).mono fun D σ H h =>
    comp_run (n := n) hi.mono mg mt me (lF_imp (kComp_mono hi.mono mg mt me) (set_imp (kLF_mono (kComp_mono hi.mono mg mt me)) hn h))⟩
theorem ds_setLcN (hc : X.calm = true) (hN : X.N.Nodup) (hy : X.N[i]? = some y) (hyl : X.env.scope.names.lookup y = some .local)
    (hsw : swapsWith (.ListComp elt [⟨tg, iter, ifs, 0⟩] scope pos) (some (.Name y py)) spos.line X.env = pure true) (hi : DI X rel tg iter ti) (ok : BlkOk X.N X.env.scope scope own)
    (hg : ∀ (s : Shared) (H : Hp) (C : Addr) (cl : List (Str × Addr)) (fp : List Addr), DG (X.blk s H scope (compEnvC scope cl C X.env) fp) n (own.map (·.2)) rel tg g) (ht : ∀ (s : Shared) (H : Hp) (C : Addr) (cl : List (Str × Addr)) (fp : List Addr), DTs (X.blk s H scope (compEnvC scope cl C X.env) fp) ifs tt)
    (he : ∀ (s : Shared) (H : Hp) (C : Addr) (cl : List (Str × Addr)) (fp : List Addr), DE (X.blk s H scope (compEnvC scope cl C X.env) fp) elt te) (mg : ∀ d env (Q Q' : Dn → Prop), (∀ e, Q e → Q' e) → g d env Q → g d env Q') (mt : MonoB tt) (me : MonoD te)
    (hn : n ≤ i := by decide) (hs : ∀ x, foldedSetIterable iter X.env x = pure x := by intro _; rfl) : DS X n (.Assign [.Name y py] (.ListComp elt [⟨tg, iter, ifs, 0⟩] scope pos) spos) (sSet i (kLN (kComp (own.map (·.2)) ti g tt te))) :=
  ⟨(ps_setLc hc hN hy hyl hsw hi.run ok (fun s H C cl fp => (hg s H C cl fp).run) (fun s H C cl fp => (ht s H C cl fp).run) (fun s H C cl fp => (he s H C cl fp).run) hs).mono fun D σ H h =>
    comp_run (n := n) hi.mono mg mt me (lN_imp (kComp_mono hi.mono mg mt me) (set_imp (kLN_mono (kComp_mono hi.mono mg mt me)) hn h))⟩
end

theorem Rep.write {K : PySem.W.Frag} {F H : Hp} {σ : L2.St} {env : Dn} {i : Nat} {p : Addr} {o o' : Ob} {ho : HO} (R : Rep K F H σ env) (e : env[i]? = some (some (.obj o))) (es : σ[i]? = some (some (.ref p))) (hf : F p = none) (r : RepO K F (upd H p ho) p o') :
    Rep K F (upd H p ho) σ (env.set i (some (.obj o'))) ∧ Ext σ env F H σ (env.set i (some (.obj o'))) F (upd H p ho) := by
  have ow : Ow σ env p := ⟨i, o, e, es⟩
  have nt : ∀ {P : Addr}, TabF F H P → TabF F (upd H p ho) P := fun {P} t => by
    obtain ⟨v, e1, p', e2, e3, ro⟩ := R.val i _ e
    rw [es] at e1; cases e1; cases e2
    obtain ⟨u, hu⟩ := ro.some
    exact t.over hu (ro.nt hu) (r.nt upd_same).1
  have key : ∀ (j : Nat) (ob : Ob), (env.set i (some (.obj o')))[j]? = some (some (.obj ob)) → ∃ ob', env[j]? = some (some (.obj ob')) := fun j ob q => by
    rcases set_get q with ⟨rfl, _, _⟩ | ⟨_, q⟩
    · exact ⟨o, e⟩
    · exact ⟨ob, q⟩
  refine ⟨⟨fun a u h => ?_, by rw [List.length_set]; exact R.len, fun j dv q => ?_, fun j k ob ob' a h1 h2 h3 h4 => ?_⟩, ⟨Same.refl _, fun a u h no _ => ?_, fun a u h => ?_, fun a u h z => ?_, fun a w => .inl ?_, fun _ t => nt t⟩⟩
  · have ne : a ≠ p := fun z => by rw [z, hf] at h; cases h
    rw [upd_ne ne]; exact R.sub a u h
  · rcases set_get q with ⟨rfl, q, _⟩ | ⟨ne, q⟩
    · cases q
      exact ⟨_, es, p, rfl, hf, r⟩
    · obtain ⟨v, e1, e2⟩ := R.val j dv q
      refine ⟨v, e1, ?_⟩
      cases dv with
      | dat d => exact e2
      | inv φ => exact e2
      | tab P => exact nt e2
      | obj ob =>
        obtain ⟨a, e3, e4, e5⟩ := e2
        have nep : a ≠ p := fun z => ne (R.inj j i ob o p q e (by rw [e1, e3, z]) es)
        exact ⟨a, e3, e4, e5.move (Same.refl _) (upd_ne nep)⟩
  · obtain ⟨b1, q1⟩ := key j ob h1
    obtain ⟨b2, q2⟩ := key k ob' h2
    exact R.inj j k b1 b2 a q1 q2 h3 h4
  · have ne : a ≠ p := fun z => no (z ▸ ow)
    rw [upd_ne ne]; exact h
  · by_cases q : a = p
    · subst q; exact ⟨_, upd_same⟩
    · exact ⟨u, by rw [upd_ne q]; exact h⟩
  · rw [z] at h; cases h
  · obtain ⟨j, ob, q, h⟩ := w
    obtain ⟨b1, q1⟩ := key j ob q
    exact ⟨j, b1, q1, h⟩
/-- slot i holds a list that may be written -/
def gL (env : Dn) (i : Nat) (Q : List Dt → Prop) : Prop := match env[i]? with
  | some (some (.obj (.lst xs))) => Q xs
  | _ => False
theorem gL_get {env : Dn} {i : Nat} {Q : List Dt → Prop} (h : gL env i Q) : ∃ xs, env[i]? = some (some (.obj (.lst xs))) ∧ Q xs := by
  unfold gL at h
  split at h
  · exact ⟨_, by assumption, h⟩
  · exact h.elim
theorem gL_mono {env : Dn} {i : Nat} {Q Q' : List Dt → Prop} (m : ∀ xs, Q xs → Q' xs) (h : gL env i Q) : gL env i Q' := by
  unfold gL at h ⊢
  split at h
  · exact m _ h
  · exact h.elim
def kApp (i : Nat) (te : DT) : DT := fun env Q => gL env i fun _ => te env fun ev env1 => as1 ev fun d => gL env1 i fun xs => xs.length < sizeLine ∧ Q (.dat .none) (env1.set i (some (.obj (.lst (xs ++ [d])))))
section
variable {x : Str} {e : Expr} {te : DT} {p apos cpos : Pos}
theorem de_app (i : Nat) (he : DE X e te) (hN : X.N[i]? = some x := by rfl) (hv : Vis X.env.scope x := by first | exact Or.inl rfl | exact Or.inr (Or.inl rfl) | exact Or.inr (Or.inr rfl)) (hd : (x == ("__debug__" : Str)) = false := by decide) (hcd : (x == ("__classdict__" : Str)) = false := by decide)
    (hs : starEach [e] X.env = (false, eval e X.env) :: starEach [] X.env := by rfl) (hbase : attributeBase (.Name x p) "append" X.env (eval (.Name x p) X.env) = eval (.Name x p) X.env := by rfl)
    (hfew : ((backTo cpos (starEach [e] X.env)).all (fun x => !x.1) && (backToKw cpos (keywordEach [] X.env)).all (fun x => x.1.isSome) && decide (([e] : List Expr).length + ([] : List Keyword).length + (if ([] : List Keyword).isEmpty then 0 else 1) < 30)) = true := by rfl) (hline : (apos.endLine == cpos.line) = true := by rfl) :
    DE X (.Call (.Attribute (.Name x p) "append" apos) [e] [] cpos) (kApp i te) := by
  refine ⟨fun env Q Q' m q => gL_mono (fun _ q => he.mono _ _ _ (fun ev env1 q => as1_mono (fun d q => gL_mono (fun xs q => ⟨q.1, m _ _ q.2⟩) q) q) q) q, ?_⟩
  have pe : PE X (.Call (.Attribute (.Name x p) "append" apos) [e] [] cpos) _ := pe_bm PySem.F.plainAttrs_list PySem.F.slot_list_append PySem.F.type_list_append mt_append (pe_var hN hv hd hcd) (pa_cons he.run pa_nil hs) hbase hfew hline hs rfl
  refine pe.mono fun σ H Q => ?_
  rintro ⟨F, env, R, q⟩
  obtain ⟨xs0, e0, q⟩ := gL_get q
  obtain ⟨v0, es, a0, ev0, hf0, vs0, hp0, _⟩ := R.val i _ e0
  subst ev0
  refine ⟨_, es, .inl ⟨rfl, vs0, SqL.of hp0⟩, F, env, R, he.mono _ _ _ (fun ev env1 q F1 H1 y E1 R1 V1 => ?_) q⟩
  obtain ⟨d, rfl, q⟩ := as1_get q
  obtain ⟨xs, e1, hz, q⟩ := gL_get q
  obtain ⟨v1, es1, a1, ev1, hf1, vs1, hp1, ra⟩ := R1.val i _ e1
  rw [es] at es1; cases es1; cases ev1
  obtain ⟨R2, E2⟩ := R1.write (o' := .lst (xs ++ [d])) (ho := .lst (vs1 ++ [y])) e1 es hf1 ⟨_, upd_same, ra.snoc V1⟩
  exact ⟨a0, vs1, y, rfl, rfl, hp1, by rw [ra.length]; exact hz, q F1 _ .non (E1.trans E2) R2 .non⟩
def kExt (i : Nat) (te : DT) : DT := fun env Q => gL env i fun _ => te env fun ev env1 => as1 ev fun d => gL env1 i fun xs => match d with
  | .list ys => xs.length + ys.length ≤ sizeLine ∧ Q (.dat .none) (env1.set i (some (.obj (.lst (xs ++ ys)))))
  | _ => False
theorem de_ext (i : Nat) (he : DE X e te) (hN : X.N[i]? = some x := by rfl) (hv : Vis X.env.scope x := by first | exact Or.inl rfl | exact Or.inr (Or.inl rfl) | exact Or.inr (Or.inr rfl)) (hd : (x == ("__debug__" : Str)) = false := by decide) (hcd : (x == ("__classdict__" : Str)) = false := by decide)
    (hs : starEach [e] X.env = (false, eval e X.env) :: starEach [] X.env := by rfl) (hbase : attributeBase (.Name x p) "extend" X.env (eval (.Name x p) X.env) = eval (.Name x p) X.env := by rfl)
    (hfew : ((backTo cpos (starEach [e] X.env)).all (fun x => !x.1) && (backToKw cpos (keywordEach [] X.env)).all (fun x => x.1.isSome) && decide (([e] : List Expr).length + ([] : List Keyword).length + (if ([] : List Keyword).isEmpty then 0 else 1) < 30)) = true := by rfl) (hline : (apos.endLine == cpos.line) = true := by rfl) :
    DE X (.Call (.Attribute (.Name x p) "extend" apos) [e] [] cpos) (kExt i te) := by
  refine ⟨fun env Q Q' m q => gL_mono (fun _ q => he.mono _ _ _ (fun ev env1 q => as1_mono (fun d q => gL_mono (fun xs q => ?_) q) q) q) q, ?_⟩
  · revert q
    dsimp only
    split
    · exact fun q => ⟨q.1, m _ _ q.2⟩
    · exact fun q => q
  have pe : PE X (.Call (.Attribute (.Name x p) "extend" apos) [e] [] cpos) _ := pe_bm PySem.F.plainAttrs_list PySem.F.slot_list_extend PySem.F.type_list_extend mt_extend (pe_var hN hv hd hcd) (pa_cons he.run pa_nil hs) hbase hfew hline hs rfl
  refine pe.mono fun σ H Q => ?_
  rintro ⟨F, env, R, q⟩
  obtain ⟨xs0, e0, q⟩ := gL_get q
  obtain ⟨v0, es, a0, ev0, hf0, vs0, hp0, _⟩ := R.val i _ e0
  subst ev0
  refine ⟨_, es, .inl ⟨rfl, vs0, SqL.of hp0⟩, F, env, R, he.mono _ _ _ (fun ev env1 q F1 H1 y E1 R1 V1 => ?_) q⟩
  obtain ⟨d, rfl, q'⟩ := as1_get q
  obtain ⟨xs, e1, q⟩ := gL_get q'
  obtain ⟨v1, es1, a1, ev1, hf1, vs1, hp1, ra⟩ := R1.val i _ e1
  rw [es] at es1; cases es1; cases ev1
  dsimp only at q
  split at q
  · have V1 : Rp X.K F1 y _ := V1
    cases V1 with
    | lst hb rb =>
      obtain ⟨R2, E2⟩ := R1.write (o' := .lst (xs ++ _)) (ho := .lst (vs1 ++ _)) e1 es hf1 ⟨_, upd_same, RpAll.append ra rb⟩
      exact ⟨a0, _, vs1, _, rfl, rfl, hp1, R1.sub _ _ hb, by rw [ra.length, rb.length]; exact q.1, q.2 F1 _ .non (E1.trans E2) R2 .non⟩
  · exact q.elim
def kPop (i : Nat) : DT := fun env Q => gL env i fun xs => wr xs.getLast? fun d => Q (.dat d) (env.set i (some (.obj (.lst xs.dropLast))))
theorem de_pop (i : Nat) (hN : X.N[i]? = some x := by rfl) (hv : Vis X.env.scope x := by first | exact Or.inl rfl | exact Or.inr (Or.inl rfl) | exact Or.inr (Or.inr rfl)) (hd : (x == ("__debug__" : Str)) = false := by decide) (hcd : (x == ("__classdict__" : Str)) = false := by decide)
    (hbase : attributeBase (.Name x p) "pop" X.env (eval (.Name x p) X.env) = eval (.Name x p) X.env := by rfl) (hline : (apos.endLine == cpos.line) = true := by rfl) :
    DE X (.Call (.Attribute (.Name x p) "pop" apos) [] [] cpos) (kPop i) := by
  refine ⟨fun env Q Q' m q => gL_mono (fun _ q => wr_mono (fun d q => m _ _ q) q) q, ?_⟩
  have pe : PE X (.Call (.Attribute (.Name x p) "pop" apos) [] [] cpos) _ := pe_bm0 PySem.F.plainAttrs_list PySem.F.slot_list_pop PySem.F.type_list_pop mt_pop (pe_var hN hv hd hcd) hbase hline
  refine pe.mono fun σ H Q => ?_
  rintro ⟨F, env, R, q⟩
  obtain ⟨xs, e0, q⟩ := gL_get q
  obtain ⟨d, ed, q⟩ := wr_get q
  obtain ⟨v0, es, a0, ev0, hf0, vs, hp, ra⟩ := R.val i _ e0
  subst ev0
  rw [List.getLast?_eq_getElem?] at ed
  obtain ⟨v, ev, rv⟩ := ra.get ed
  have hd : RpAll X.K F vs.dropLast xs.dropLast := by
    rw [List.dropLast_eq_take, List.dropLast_eq_take, ra.length]
    exact RpAll.take _ ra
  obtain ⟨R2, E2⟩ := R.write (o' := .lst xs.dropLast) (ho := .lst vs.dropLast) e0 es hf0 ⟨_, upd_same, hd⟩
  exact ⟨_, es, .inl ⟨rfl, vs, SqL.of hp⟩, a0, vs, v, rfl, rfl, hp, by rw [ra.length]; exact ev, q F _ v E2 R2 rv⟩
end

def kRev (te : DT) : DTl := fun env Q => te env fun ev env1 => wr (rs env1 ev) fun d => match d with
  | .list ds => Q ds.reverse env1
  | _ => False
theorem dl_rev {e : Expr} {te : DT} {k : Nat} {p1 p2 p3 : Pos} (h : DE X e te) : DL X (.Subscript e (.Slice none none (some (.UnaryOp .USub (.Constant (.int 1) k p1) p2)) p3) pos) (kRev te) := by
  refine ⟨fun env Q Q' i q => h.mono _ _ _ (fun ev env1 q => wr_mono (fun d q => ?_) q) q, (pe_revL h.run).mono fun σ H Q => ?_⟩
  · revert q
    dsimp only
    split
    · exact fun q => i _ _ q
    · exact fun q => q
  · rintro ⟨F, env, R, q⟩
    refine ⟨F, env, R, h.mono _ _ _ (fun ev env1 q F1 H1 v E1 R1 V1 => ?_) q⟩
    obtain ⟨d, e1, q⟩ := wr_get q
    have tp := tp_of R1 V1 e1
    dsimp only at q
    split at q
    · cases tp with
      | lst hp r =>
        refine ⟨_, _, rfl, SqL.of hp, fun l hl => ?_⟩
        obtain ⟨R2, E2⟩ := R1.growN hl (.lst _)
        refine q F1 _ l _ (E1.trans E2) R2 (R1.fnone hl) upd_same r.reverse (R1.not_ow hl) ?_
        cases e : H l with
        | none => rfl
        | some u =>
          obtain ⟨u', z⟩ := E1.there l u e
          rw [hl] at z; cases z
    · exact q.elim

def shOk (d : Dt) : Bool := d.showable && !d.hasDict && decide (d.depth ≤ 100) && decide (d.shown.length ≤ sizeLine)
def reprD : List Dt → Option Dt
  | [d] => if shOk d = true then some (.str d.shown) else none
  | _ => none
theorem shOk_get {d : Dt} (h : shOk d = true) : d.showable = true ∧ d.hasDict = false ∧ d.depth ≤ 100 ∧ d.shown.length ≤ sizeLine := by
  unfold shOk at h
  simp only [Bool.and_eq_true, decide_eq_true_eq, Bool.not_eq_true'] at h
  exact ⟨h.1.1.1, h.1.1.2, h.1.2, h.2⟩
def rRepr (K : PySem.W.Frag) : List V → Hp → VK → Prop := fun xs H Q => ∃ x d, xs = [x] ∧ Dp K H x d ∧ shOk d = true ∧ Q (.str d.shown) H
theorem call_reprD (hg : X.A.guards = some []) (hu : X.A.units + 150 < cLine) : CallR X (.builtin "repr") (rRepr X.K) := by
  intro pins s σ H xs us Q I r h
  obtain ⟨x, d, rfl, hd, ok, q⟩ := h
  obtain ⟨u, rfl, ru⟩ := vals1 r
  obtain ⟨as, rd⟩ := Dp.reads I d x u hd ru
  obtain ⟨o1, o2, o3, o4⟩ := shOk_get ok
  have fin : ∀ (h' : Heap) (u : Tok) (tk : Nat), (∀ b o, s.heap.get? b = some o → h'.get? b = some o) → EP X pins σ Q (.str d.shown u) { s with heap := h', toks := tk } := fun h' u tk k => ⟨.str d.shown, H, I.kept k, ⟨u, rfl⟩, q⟩
  cases hd with
  | non =>
    cases ru
    exact P.repr_of_none (by simpa [PyData.shown] using fin s.heap _ _ fun _ _ e => e)
  | bl b =>
    cases ru
    exact P.repr_of_bool (by simpa [PyData.shown] using fin s.heap _ _ fun _ _ e => e)
  | int i =>
    obtain ⟨t, rfl⟩ := ru
    exact P.repr_of_int (by simpa [PyData.showable] using o1) (by simpa [PyData.shown] using fin s.heap _ _ fun _ _ e => e)
  | str y =>
    obtain ⟨t, rfl⟩ := ru
    exact P.repr_of_str (by simpa [PyData.shown] using fin s.heap _ _ fun _ _ e => e) (by simpa [PyData.shown] using o4)
  | lst _ _ =>
    cases ru
    exact repr_of_reads' rd o1 (PyData.noDict_hsm o2) hg (by omega) (fun _ _ e => e) (fun h' u tk k => fin h' u tk k) o4
  | tup _ _ =>
    cases ru
    exact repr_of_reads' rd o1 (PyData.noDict_hsm o2) hg (by omega) (fun _ _ e => e) (fun h' u tk k => fin h' u tk k) o4
theorem lk_repr : LkC X.K (rRepr X.K) reprD := by
  intro F H vs ds d Q sm tv e q
  unfold reprD at e
  split at e
  · split at e
    · rename_i ok
      cases tv with
      | cons h t =>
        cases t
        cases e
        exact ⟨_, _, rfl, (h.rp sm).dp, ok, q _ _ (.old (.str _))⟩
    · cases e
  · cases e
end
open PySem PySem.Spec L2

abbrev DSp := List Dv → (Dv → Dn → Prop) → Prop
/-- what the first n parameters hold at the end; the others are not told -/
def outP (n m : Nat) (env : Dn) : Dn := env.take n ++ List.replicate (m - n) none
def tSp (K : PySem.W.Frag) (sp : DSp) (vs : List V) (H : Hp) (Q : VK) : Prop := ∃ F as, Rep K F H (vs.map some) (as.map some) ∧
  sp as fun r outs => ∀ F' H' v, Ext (vs.map some) (as.map some) F H (vs.map some) outs F' H' → Rep K F' H' (vs.map some) outs → RepE K F' H' (vs.map some) outs H v r.ev → Q v H'
structure FnG (P : Program) (w : World) (K : PySem.W.Frag) (mg : Str → Option Value) (base : Heap) (k : Nat) (f : Addr) (fd : FuncData) (ps : List Str) (sp : DSp) : Prop where
  mono : ∀ as (Q Q' : Dv → Dn → Prop), (∀ r o, Q r o → Q' r o) → sp as Q → sp as Q'
  run : ∀ (A : Around) (outer : List Env) (s : Shared) (H : Hp) (args : Args) (us : List Value) (vs : List V) (Q : VK), Room k A → A.guards = some [] → Env0 P w K mg base A outer s H → BindsTo s fd args (ps.zip us) → Vals vs us → vs.length = ps.length → tSp K sp vs H Q →
    codeAny (model P w) A (.call (.ref f) args) (CR CX0 outer P w H s Q E0) s
theorem FnG.up {P : Program} {w : World} {K : PySem.W.Frag} {mg : Str → Option Value} {base : Heap} {j k : Nat} {f : Addr} {fd : FuncData} {ps : List Str} {sp : DSp} (F : FnG P w K mg base j f fd ps sp) (h : j ≤ k) : FnG P w K mg base k f fd ps sp :=
  ⟨F.mono, fun A outer s H args us vs Q hr => F.run A outer s H args us vs Q (hr.mono h)⟩
/-- a weaker promise -/
theorem FnG.imp {P : Program} {w : World} {K : PySem.W.Frag} {mg : Str → Option Value} {base : Heap} {k : Nat} {f : Addr} {fd : FuncData} {ps : List Str} {sp sp' : DSp} (F : FnG P w K mg base k f fd ps sp) (m : ∀ as (Q Q' : Dv → Dn → Prop), (∀ r o, Q r o → Q' r o) → sp' as Q → sp' as Q')
    (h : ∀ as Q, sp' as Q → sp as Q) : FnG P w K mg base k f fd ps sp' :=
  ⟨m, fun A outer s H args us vs Q hr hg e0 hb r hl ⟨F0, as, R, q⟩ => F.run A outer s H args us vs Q hr hg e0 hb r hl ⟨F0, as, R, h _ _ q⟩⟩
def startD (N : List Str) (as : List Dv) : Dn := as.map some ++ List.replicate (N.length - as.length) none
theorem startD_some {N : List Str} {as : List Dv} {i : Nat} {d : Dv} (h : (startD N as)[i]? = some (some d)) : as[i]? = some d := by
  unfold startD at h
  by_cases hi : i < as.length
  · rw [List.getElem?_append_left (by simpa using hi), List.getElem?_map] at h
    cases e : as[i]? with
    | none => rw [e] at h; cases h
    | some a => rw [e] at h; cases h; rfl
  · rw [List.getElem?_append_right (by simpa using hi), List.getElem?_replicate] at h
    split at h <;> cases h
theorem start_at {N : List Str} {vs : List V} {i : Nat} {v : V} (h : vs[i]? = some v) : (L2.start N vs)[i]? = some (some v) := by
  have hi := (List.getElem?_eq_some_iff.mp h).1
  unfold L2.start
  rw [List.getElem?_append_left (by simpa using hi), List.getElem?_map, h]
  rfl
theorem start_le {N : List Str} {vs : List V} {i : Nat} {v : V} (h : (L2.start N vs)[i]? = some (some v)) : vs[i]? = some v := by
  unfold L2.start at h
  by_cases hi : i < vs.length
  · rw [List.getElem?_append_left (by simpa using hi), List.getElem?_map] at h
    cases e : vs[i]? with
    | none => rw [e] at h; cases h
    | some a => rw [e] at h; cases h; rfl
  · rw [List.getElem?_append_right (by simpa using hi), List.getElem?_replicate] at h
    split at h <;> cases h
theorem map_some_at {α : Type} {l : List α} {i : Nat} {d : α} : (l.map some)[i]? = some (some d) ↔ l[i]? = some d := by
  rw [List.getElem?_map]
  constructor
  · intro h
    cases e : l[i]? with
    | none => rw [e] at h; cases h
    | some a => rw [e] at h; cases h; rfl
  · intro h
    rw [h]; rfl
theorem outP_some {n m : Nat} {env : Dn} {i : Nat} {d : Dv} (h : (outP n m env)[i]? = some (some d)) : i < n ∧ env[i]? = some (some d) := by
  unfold outP at h
  by_cases hi : i < (env.take n).length
  · rw [List.getElem?_append_left hi] at h
    rw [List.length_take] at hi
    exact ⟨by omega, by rw [← List.getElem?_take_of_lt (by omega : i < n)]; exact h⟩
  · rw [List.getElem?_append_right (by omega), List.getElem?_replicate] at h
    split at h <;> cases h
section
variable {P : Program} {w : World} {K : PySem.W.Frag} {mg : Str → Option Value} {base : Heap}
/-- a def by its body: the body's word of data, at the parameters' data -/
theorem fng_of {k n : Nat} {f : Addr} {name qual : Str} {params : Arguments} {body : List Stmt} {scope : Scope} {dV kV doc pm cdv ct oc : Value} {an od : Option Addr} {osl : Array (Option Value)} {N ps : List Str} {sp : DSp}
    (lk : K.lookup f = some ⟨oc, od, .func (PySem.W.fnOf name qual params body scope dV kV doc pm an cdv ct), osl⟩) (hcd : PySem.W.codeIn K cdv qual = true) (S : FnScope N ps scope) (hn : n ≤ ps.length)
    (mono : ∀ as (Q Q' : Dv → Dn → Prop), (∀ r o, Q r o → Q' r o) → sp as Q → sp as Q')
    (hbody : ∀ (A : Around) (outer : List Env) (s : Shared) (H : Hp) (E : XK), Room k (A.deeper (PyProof.Rows.envOfC qual scope s.heap.objs.size f cdv)) → A.guards = some [] →
      ∃ t, DSs (cxOf CX0 P w K mg base N qual scope f cdv A outer s H E).nox n body t ∧ ∀ as Q, as.length = ps.length → sp as Q → t { nx := fun env => Q (.dat .none) (outP n ps.length env), rt := fun r env => Q r (outP n ps.length env) } (startD N as)) :
    FnG P w K mg base (k + 1) f (PySem.W.fnOf name qual params body scope dV kV doc pm an cdv ct) ps sp := by
  refine ⟨mono, ?_⟩
  intro A outer s H args us vs Q hr hgd e0 hb r hl hsp
  obtain ⟨F, as, R, hsp⟩ := hsp
  have la : as.length = ps.length := by
    have := R.len
    rw [List.length_map, List.length_map] at this
    omega
  have hpl : ps.length ≤ N.length := by have := congrArg List.length S.pre; rw [List.length_take] at this; omega
  have KX : K.In s.heap := e0.mod.kin.keeps fun b o e => (e0.bs b o e).1
  have lim : s.heap.NoLimit := e0.mod.nolimit.keeps fun b o e => (e0.bs b o e).1
  have hkind : ∀ y ∈ ps.zip us, scope.names.lookup y.1 = some .local ∨ (scope.names.lookup y.1 = some .cell ∧ ((cellsFrom (s.heap.objs.size + 1) scope.names []).lookup y.1).isSome = true) := by
    rintro ⟨x, v⟩ hy
    rcases S.par x (List.of_mem_zip hy).1 with q | q
    · exact .inl q
    · exact .inr ⟨q, PySem.W.cellsFrom_some _ _ _ (.inl q)⟩
  apply codeAny_call_function hr.depth (KX _ _ lk) rfl S.co S.gen rfl (PySem.W.codeRec_of KX hcd)
  apply hb
  apply wpAny_newFunctionEnv_cells S.kind hkind
  intro env he s1 x
  subst he
  refine ⟨lim.keeps x.toInCall.keep, codeAny_func ?_⟩
  obtain ⟨t, ht, hq⟩ := hbody A outer s H E0 (hr.deeper _) hgd
  have hq := hq as _ la hsp
  have I : Inv (cxOf CX0 P w K mg base N qual scope f cdv A outer s H E0) [] (L2.start N vs) H s1 := inv_start S hr.hd e0 hl r x
  -- the state at the entry
  have R0 : Rep K F H (L2.start N vs) (startD N as) := by
    refine ⟨R.sub, ?_, fun i dv e => ?_, fun i j o o' p h1 h2 h3 h4 => ?_⟩
    · unfold L2.start startD
      simp only [List.length_append, List.length_map, List.length_replicate]
      omega
    · obtain ⟨v, e1, e2⟩ := R.val i dv (map_some_at.mpr (startD_some e))
      exact ⟨v, start_at (map_some_at.mp e1), e2⟩
    · exact R.inj i j o o' p (map_some_at.mpr (startD_some h1)) (map_some_at.mpr (startD_some h2)) (map_some_at.mpr (start_le h3)) (map_some_at.mpr (start_le h4))
  have ow0 : ∀ a, Ow (L2.start N vs) (startD N as) a → Ow (vs.map some) (as.map some) a := fun a ⟨i, o, h1, h2⟩ => ⟨i, o, map_some_at.mpr (startD_some h1), map_some_at.mpr (start_le h2)⟩
  -- the state at an end
  have fin : ∀ {σ' : L2.St} {env' : Dn} {F' H' : Hp}, ExtS n (L2.start N vs) (startD N as) F H σ' env' F' H' → Rep K F' H' σ' env' → Rep K F' H' (vs.map some) (outP n ps.length env') ∧ Ext (vs.map some) (as.map some) F H (vs.map some) (outP n ps.length env') F' H' ∧ (∀ a, Ow (vs.map some) (outP n ps.length env') a → Ow σ' env' a) := by
    intro σ' env' F' H' E R'
    have at' : ∀ {i : Nat} {d : Dv}, (outP n ps.length env')[i]? = some (some d) → env'[i]? = some (some d) ∧ ∃ v, σ'[i]? = some (some v) ∧ (vs.map some)[i]? = some (some v) := by
      intro i d h
      obtain ⟨hi, e⟩ := outP_some h
      obtain ⟨v, e1, _⟩ := R'.val i d e
      refine ⟨e, v, e1, ?_⟩
      rw [E.par i hi] at e1
      exact map_some_at.mpr (start_le e1)
    have ow' : ∀ a, Ow (vs.map some) (outP n ps.length env') a → Ow σ' env' a := by
      rintro a ⟨i, o, h1, h2⟩
      obtain ⟨e, v, e1, e2⟩ := at' h1
      rw [e2] at h2; cases h2
      exact ⟨i, o, e, e1⟩
    have hlen : n ≤ env'.length := by
      rw [R'.len]
      by_cases hz : n = 0
      · omega
      · have hpar := E.par (n - 1) (by omega)
        have hv : n - 1 < vs.length := by omega
        have := start_at (N := N) (List.getElem?_eq_getElem hv)
        rw [← hpar] at this
        have := (List.getElem?_eq_some_iff.mp this).1
        omega
    refine ⟨⟨R'.sub, ?_, fun i dv e => ?_, fun i j o o' p h1 h2 h3 h4 => ?_⟩, ⟨E.ext.same, fun a u h nw => E.ext.keep a u h (fun z => nw (ow0 a z)), E.ext.there, fun a u h z => (E.ext.new a u h z).imp id (ow0 a), fun a z => (E.ext.ow a (ow' a z)).imp (ow0 a) id, E.ext.tab⟩, ow'⟩
    · unfold outP
      rw [List.length_append, List.length_take, List.length_replicate, List.length_map]
      omega
    · obtain ⟨e1, v, e2, e3⟩ := at' e
      obtain ⟨v', e4, e5⟩ := R'.val i dv e1
      rw [e2] at e4; cases e4
      exact ⟨v, e3, e5⟩
    · obtain ⟨a1, v1, a2, a3⟩ := at' h1
      obtain ⟨b1, v2, b2, b3⟩ := at' h2
      rw [a3] at h3; cases h3
      rw [b3] at h4; cases h4
      exact R'.inj i j o o' p a1 b1 a2 b2
  refine wpAny_mono (ht.run.nox.run [] s1 (L2.start N vs) H { nx := fun _ H' => Q .non H', rt := Q } I ⟨F, startD N as, _, R0, hq, ?_⟩) (fun fl s' hs => ?_) fun e s' hs => hs
  · refine ⟨fun σ' env' F' H' E R' z => ?_, fun _ _ _ _ _ _ z => z.elim, fun _ _ _ _ _ _ z => z.elim, fun rr v σ' env' F' H' E R' V z => ?_, fun _ _ _ _ _ _ _ _ _ _ z => z.elim⟩
    · obtain ⟨R2, E2, _⟩ := fin E R'
      exact z F' H' .non E2 R2 (show Rp K F' .non .none from .non)
    · obtain ⟨R2, E2, o2⟩ := fin E R'
      refine z F' H' v E2 R2 ?_
      cases rr with
      | dat d => exact V
      | inv φ => exact V
      | tab P => obtain ⟨_, _, z⟩ := V; exact z.elim
      | obj o =>
        obtain ⟨p, e1, e2, e3, e4, e5⟩ := V
        exact ⟨p, e1, e2, e3, fun z => e4 (o2 p z), e5⟩
  · have done : ∀ {σ' : L2.St} {H' : Hp} {v : V} {u : Value}, Inv (cxOf CX0 P w K mg base N qual scope f cdv A outer s H E0) [] σ' H' s' → RelV v u → Q v H' → CE outer P w H s Q u s' := fun {σ' H' v u} J rv q => ⟨v, H', J.os, J.bare, J.base, J.hok, rv, q⟩
    cases fl with
    | ret u =>
      obtain ⟨v, σ', H', J, rv, q⟩ := hs
      exact done J rv q
    | next =>
      obtain ⟨σ', H', J, q⟩ := hs
      exact done (v := V.non) (u := Value.none) J rfl q
    | brk => obtain ⟨_, _, _, q⟩ := hs; exact q.elim
    | cont => obtain ⟨_, _, _, q⟩ := hs; exact q.elim
end
open PySem PySem.Spec L2

def getP {α : Type} (l : List α) : List Nat → List α
  | [] => []
  | j :: js => match l[j]? with
    | some a => a :: getP l js
    | none => getP l js
def argO (env : Dn) : Ev → Option Dv
  | .dat d => some (.dat d)
  | .var i => match env[i]? with
    | some o => o
    | none => none
  | .new o => some (.obj o)
  | .inv φ => some (.inv φ)
def argsO (env : Dn) : List Ev → Option (List Dv)
  | [] => some []
  | e :: r => match argO env e, argsO env r with
    | some d, some ds => some (d :: ds)
    | _, _ => none
/-- behind a call: the slots that were handed on hold what the parameters held at the end -/
def bkA : List Ev → Dn → Dn → Dn
  | .var i :: es, o :: os, env => bkA es os (env.set i o)
  | _ :: es, _ :: os, env => bkA es os env
  | _, _, env => env
def isVar : Ev → Nat → Bool
  | .var i, j => i == j
  | _, _ => false
/-- no slot is handed on twice -/
def okV : List Ev → Bool
  | [] => true
  | .var i :: es => (!es.any fun e => isVar e i) && okV es
  | _ :: es => okV es

section
variable {K : PySem.W.Frag} {F H H0 : Hp} {σ : L2.St} {env : Dn}
/-- the arguments, one by one, apart -/
structure RepP (K : PySem.W.Frag) (F H : Hp) (σ : L2.St) (env : Dn) (H0 : Hp) (vs : List V) (es : List Ev) : Prop where
  len : vs.length = es.length
  val : ∀ (j : Nat) (e : Ev), es[j]? = some e → ∃ v, vs[j]? = some v ∧ RepE K F H σ env H0 v e
  dis : ∀ (j k : Nat) (o o' : Ob) (p : Addr), es[j]? = some (Ev.new o) → es[k]? = some (Ev.new o') → vs[j]? = some (.ref p) → vs[k]? = some (.ref p) → j = k
theorem newAt_of {p : Addr} {o : Ob} : ∀ {vs : List V} {es : List Ev} {k : Nat}, es[k]? = some (Ev.new o) → vs[k]? = some (.ref p) → NewAt p vs es
  | [], _, _, _, h => by simp at h
  | _ :: _, [], _, h, _ => by simp at h
  | v :: vs, e :: es, 0, h1, h2 => by
    simp at h1 h2
    exact .inl ⟨h2, o, h1⟩
  | v :: vs, e :: es, k + 1, h1, h2 => .inr (newAt_of (k := k) (by simpa using h1) (by simpa using h2))
theorem RepA.p : ∀ {vs : List V} {es : List Ev}, RepA K F H σ env H0 vs es → RepP K F H σ env H0 vs es
  | _, _, .nil => ⟨rfl, fun j e h => by simp at h, fun j k o o' p h => by simp at h⟩
  | _, _, .cons h t d => by
    have ih := RepA.p t
    refine ⟨by simp [ih.len], fun j e q => ?_, fun j k o o' p h1 h2 h3 h4 => ?_⟩
    · cases j with
      | zero => simp at q; subst q; exact ⟨_, rfl, h⟩
      | succ j => simpa using ih.val j e (by simpa using q)
    · cases j with
      | zero =>
        cases k with
        | zero => rfl
        | succ k =>
          simp at h1 h2 h3 h4
          exact absurd (newAt_of h2 h4) (d p o h3 h1)
      | succ j =>
        cases k with
        | zero =>
          simp at h1 h2 h3 h4
          exact absurd (newAt_of h1 h3) (d p o' h4 h2)
        | succ k =>
          simp at h1 h2 h3 h4
          rw [ih.dis j k o o' p h1 h2 h3 h4]
theorem argsO_at : ∀ {es : List Ev} {as : List Dv}, argsO env es = some as → as.length = es.length ∧ ∀ (j : Nat) (d : Dv), as[j]? = some d → ∃ e, es[j]? = some e ∧ argO env e = some d
  | [], as, h => by cases h; exact ⟨rfl, fun j d h => by simp at h⟩
  | e :: es, as, h => by
    unfold argsO at h
    split at h
    · rename_i d ds e1 e2
      cases h
      obtain ⟨l, ih⟩ := argsO_at e2
      refine ⟨by simp [l], fun j x q => ?_⟩
      cases j with
      | zero => simp at q; subst q; exact ⟨e, rfl, e1⟩
      | succ j => simpa using ih j x (by simpa using q)
    · cases h
theorem okV_at : ∀ {es : List Ev}, okV es = true → ∀ (j k i : Nat), es[j]? = some (Ev.var i) → es[k]? = some (Ev.var i) → j = k
  | [], _, j, _, _, h, _ => by simp at h
  | e :: es, h, j, k, i, h1, h2 => by
    have ih : okV es = true := by
      cases e <;> simp [okV] at h <;> first | exact h.2 | exact h
    have no : ∀ m, e = Ev.var i → es[m]? = some (Ev.var i) → False := fun m he hm => by
      subst he
      simp only [okV, Bool.and_eq_true, Bool.not_eq_true'] at h
      have := List.any_eq_false.mp h.1 _ (List.mem_of_getElem? hm)
      simp [isVar] at this
    cases j with
    | zero =>
      cases k with
      | zero => rfl
      | succ k => simp at h1 h2; exact (no k h1 h2).elim
    | succ j =>
      cases k with
      | zero => simp at h1 h2; exact (no j h2 h1).elim
      | succ k =>
        simp at h1 h2
        rw [okV_at ih j k i h1 h2]
/-- the callee's state at its entry -/
theorem rep_args {vs : List V} {es : List Ev} {as : List Dv} (R : Rep K F H σ env) (A : RepP K F H σ env H0 vs es) (ok : okV es = true) (ea : argsO env es = some as) : Rep K F H (vs.map some) (as.map some) := by
  obtain ⟨la, at'⟩ := argsO_at ea
  have objAt : ∀ (j : Nat) (o : Ob) (p : Addr), as[j]? = some (.obj o) → vs[j]? = some (.ref p) → (∃ (i : Nat), es[j]? = some (Ev.var i) ∧ env[i]? = some (some (.obj o)) ∧ σ[i]? = some (some (.ref p))) ∨ (es[j]? = some (Ev.new o) ∧ ¬ Ow σ env p) := by
    intro j o p h1 h2
    obtain ⟨e, e1, e2⟩ := at' j _ h1
    obtain ⟨v, e3, e4⟩ := A.val j e e1
    rw [h2] at e3; cases e3
    cases e with
    | dat d => cases e2
    | inv φ => cases e2
    | var i =>
      left
      refine ⟨i, e1, ?_, e4⟩
      simp only [argO] at e2
      cases q : env[i]? with
      | none => rw [q] at e2; cases e2
      | some x => rw [q] at e2; simp at e2; rw [e2]
    | new ob =>
      right
      cases e2
      obtain ⟨p', q1, _, _, q4, _⟩ := e4
      cases q1
      exact ⟨e1, q4⟩
  refine ⟨R.sub, by rw [List.length_map, List.length_map, la, A.len], fun j dv q => ?_, fun j k o o' p h1 h2 h3 h4 => ?_⟩
  · obtain ⟨e, e1, e2⟩ := at' j dv (map_some_at.mp q)
    obtain ⟨v, e3, e4⟩ := A.val j e e1
    refine ⟨v, map_some_at.mpr e3, ?_⟩
    cases e with
    | dat d => cases e2; exact e4
    | inv φ => cases e2; exact e4
    | var i =>
      simp only [argO] at e2
      cases q : env[i]? with
      | none => rw [q] at e2; cases e2
      | some x =>
        rw [q] at e2
        simp at e2
        subst e2
        obtain ⟨v', q1, q2⟩ := R.val i dv q
        rw [show σ[i]? = some (some v) from e4] at q1; cases q1
        exact q2
    | new ob =>
      cases e2
      obtain ⟨p', q1, q2, q3, _⟩ := e4
      exact ⟨p', q1, q2, q3⟩
  · rcases objAt j o p (map_some_at.mp h1) (map_some_at.mp h3) with ⟨i, a1, a2, a3⟩ | ⟨a1, a2⟩
    · rcases objAt k o' p (map_some_at.mp h2) (map_some_at.mp h4) with ⟨i', b1, b2, b3⟩ | ⟨b1, b2⟩
      · have := R.inj i i' o o' p a2 b2 a3 b3
        subst this
        exact okV_at ok j k i a1 b1
      · exact absurd ⟨i, o, a2, a3⟩ b2
    · rcases objAt k o' p (map_some_at.mp h2) (map_some_at.mp h4) with ⟨i', b1, b2, b3⟩ | ⟨b1, b2⟩
      · exact absurd ⟨i', o', b2, b3⟩ a2
      · exact A.dis j k o o' p a1 b1 (map_some_at.mp h3) (map_some_at.mp h4)
theorem bkA_at : ∀ {es : List Ev} {outs : Dn} {env : Dn} {m : Nat} {dv : Dv}, es.length = outs.length → (bkA es outs env)[m]? = some (some dv) →
    (∃ (j : Nat), es[j]? = some (Ev.var m) ∧ outs[j]? = some (some dv)) ∨ ((∀ (j : Nat), es[j]? ≠ some (Ev.var m)) ∧ env[m]? = some (some dv))
  | [], outs, env, m, dv, _, h => .inr ⟨fun j => by simp, by simpa [bkA] using h⟩
  | e :: es, [], env, m, dv, hl, _ => by simp at hl
  | e :: es, o :: outs, env, m, dv, hl, h => by
    have hl' : es.length = outs.length := by simpa using hl
    have step : ∀ env', (bkA es outs env')[m]? = some (some dv) → (e = Ev.var m → env'[m]? = some o ∨ env'[m]? = none) → (∀ x, e ≠ Ev.var m → env'[m]? = some x → env[m]? = some x) →
        (∃ (j : Nat), (e :: es)[j]? = some (Ev.var m) ∧ (o :: outs)[j]? = some (some dv)) ∨ ((∀ (j : Nat), (e :: es)[j]? ≠ some (Ev.var m)) ∧ env[m]? = some (some dv)) := by
      intro env' h' hm hk
      rcases bkA_at hl' h' with ⟨j, a, b⟩ | ⟨a, b⟩
      · exact .inl ⟨j + 1, by simpa using a, by simpa using b⟩
      · by_cases he : e = Ev.var m
        · left
          refine ⟨0, by simp [he], ?_⟩
          rcases hm he with z | z
          · rw [b] at z; cases z; simp
          · rw [b] at z; cases z
        · right
          refine ⟨fun j q => ?_, hk _ he b⟩
          cases j with
          | zero => simp at q; exact he q
          | succ j => exact a j (by simpa using q)
    cases e with
    | var i =>
      refine step (env.set i o) h (fun he => ?_) (fun x he z => ?_)
      · cases he
        by_cases hlt : m < env.length
        · exact .inl (by rw [List.getElem?_set_self hlt])
        · exact .inr (List.getElem?_eq_none (by simpa using hlt))
      · have ne : i ≠ m := fun q => he (by rw [q])
        rw [List.getElem?_set_ne ne] at z
        exact z
    | dat d => exact step env h (fun he => nomatch he) (fun x _ z => z)
    | inv d => exact step env h (fun he => nomatch he) (fun x _ z => z)
    | new ob => exact step env h (fun he => nomatch he) (fun x _ z => z)
theorem bkA_length : ∀ {es : List Ev} {outs : Dn} {env : Dn}, (bkA es outs env).length = env.length
  | [], _, _ => by simp [bkA]
  | _ :: _, [], env => by cases ‹Ev› <;> simp [bkA]
  | e :: es, o :: os, env => by
    cases e with
    | var i => show (bkA es os (env.set i o)).length = _; rw [bkA_length, List.length_set]
    | dat d => show (bkA es os env).length = _; exact bkA_length
    | inv d => show (bkA es os env).length = _; exact bkA_length
    | new d => show (bkA es os env).length = _; exact bkA_length
/-- the caller's state behind the call -/
theorem rep_back {F0 F' H' : Hp} {env0 : Dn} {vs : List V} {es : List Ev} {as : List Dv} {outs : Dn} (E1 : Ext σ env0 F0 H0 σ env F H) (R : Rep K F H σ env) (A : RepP K F H σ env H0 vs es) (ok : okV es = true) (ea : argsO env es = some as)
    (E : Ext (vs.map some) (as.map some) F H (vs.map some) outs F' H') (R' : Rep K F' H' (vs.map some) outs) :
    Rep K F' H' σ (bkA es outs env) ∧ Ext σ env0 F0 H0 σ (bkA es outs env) F' H' ∧ (∀ p, H p = none → ¬ Ow (vs.map some) outs p → ¬ Ow σ (bkA es outs env) p) := by
  obtain ⟨la, at'⟩ := argsO_at ea
  have lo : es.length = outs.length := by rw [R'.len, List.length_map, A.len]
  -- what was handed on and is owned by the callee was the caller's, or a new thing
  have owA : ∀ a, Ow (vs.map some) (as.map some) a → Ow σ env a ∨ (∃ (j : Nat) (o : Ob), es[j]? = some (Ev.new o) ∧ vs[j]? = some (.ref a)) := by
    rintro a ⟨j, o, h1, h2⟩
    obtain ⟨e, e1, e2⟩ := at' j _ (map_some_at.mp h1)
    obtain ⟨v, e3, e4⟩ := A.val j e e1
    rw [map_some_at.mp h2] at e3; cases e3
    cases e with
    | dat d => cases e2
    | inv φ => cases e2
    | var i =>
      left
      refine ⟨i, o, ?_, e4⟩
      simp only [argO] at e2
      cases q : env[i]? with
      | none => rw [q] at e2; cases e2
      | some x => rw [q] at e2; simp at e2; rw [e2]
    | new ob => exact .inr ⟨j, ob, e1, map_some_at.mp h2⟩
  have newOk : ∀ a, (∃ (j : Nat) (o : Ob), es[j]? = some (Ev.new o) ∧ vs[j]? = some (.ref a)) → H0 a = none := by
    rintro a ⟨j, o, h1, h2⟩
    obtain ⟨v, e3, p, q1, _, _, _, q5⟩ := A.val j _ h1
    rw [h2] at e3; cases e3; cases q1
    exact q5
  have owA0 : ∀ a, Ow (vs.map some) (as.map some) a → Ow σ env0 a ∨ H0 a = none := fun a w => by
    rcases owA a w with z | z
    · exact E1.ow a z
    · exact .inr (newOk a z)
  have hn0 : ∀ a, H a = none → H0 a = none := fun a h => by
    cases q : H0 a with
    | none => rfl
    | some u =>
      obtain ⟨u', z⟩ := E1.there a u q
      rw [h] at z; cases z
  -- a slot that was not handed on
  have apart : ∀ (m : Nat) (o : Ob) (p : Addr), (∀ (j : Nat), es[j]? ≠ some (Ev.var m)) → env[m]? = some (some (.obj o)) → σ[m]? = some (some (.ref p)) → ¬ Ow (vs.map some) (as.map some) p := by
    intro m o p no h1 h2 w
    obtain ⟨j, ob, q1, q2⟩ := w
    obtain ⟨e, e1, e2⟩ := at' j _ (map_some_at.mp q1)
    obtain ⟨v, e3, e4⟩ := A.val j e e1
    rw [map_some_at.mp q2] at e3; cases e3
    cases e with
    | dat d => cases e2
    | inv φ => cases e2
    | var i =>
      simp only [argO] at e2
      cases q : env[i]? with
      | none => rw [q] at e2; cases e2
      | some x =>
        rw [q] at e2
        simp at e2
        subst e2
        have := R.inj i m ob o p q h1 e4 h2
        subst this
        exact no j e1
    | new ob' =>
      obtain ⟨p', z1, _, _, z4, _⟩ := e4
      cases z1
      exact z4 ⟨m, o, h1, h2⟩
  -- what a slot of the caller's holds behind it
  have slot : ∀ (m : Nat) (dv : Dv), (bkA es outs env)[m]? = some (some dv) → ∃ v, σ[m]? = some (some v) ∧ RepV K F' H' v dv ∧ ((∃ (j : Nat), es[j]? = some (Ev.var m) ∧ outs[j]? = some (some dv) ∧ vs[j]? = some v) ∨ ((∀ (j : Nat), es[j]? ≠ some (Ev.var m)) ∧ env[m]? = some (some dv))) := by
    intro m dv h
    rcases bkA_at lo h with ⟨j, a, b⟩ | ⟨a, b⟩
    · obtain ⟨v, e3, e4⟩ := A.val j _ a
      obtain ⟨v', e5, e6⟩ := R'.val j dv b
      have e7 := map_some_at.mp e5
      rw [e3] at e7; cases e7
      exact ⟨v, e4, e6, .inl ⟨j, a, b, e3⟩⟩
    · obtain ⟨v, e1, e2⟩ := R.val m dv b
      refine ⟨v, e1, ?_, .inr ⟨a, b⟩⟩
      cases dv with
      | dat d => exact dp_same E.same e2
      | inv φ => obtain ⟨F0, s0, q0⟩ := e2; exact ⟨F0, s0.trans E.same, q0⟩
      | tab P => exact E.tab P e2
      | obj o =>
        obtain ⟨p, e3, e4, e5⟩ := e2
        subst e3
        have ap := apart m o p a b e1
        obtain ⟨u, hu⟩ := e5.some
        refine ⟨p, rfl, ?_, e5.move E.same ((E.keep p u hu ap (e5.nt hu).1).trans hu.symm)⟩
        cases q : F' p with
        | none => rfl
        | some x =>
          rcases E.new p x q e4 with z | z
          · rw [hu] at z; cases z
          · exact absurd z ap
  refine ⟨⟨R'.sub, by rw [bkA_length]; exact R.len, fun m dv h => ?_, fun m k o o' p h1 h2 h3 h4 => ?_⟩, ⟨E1.same.trans E.same, fun a u h no nt => ?_, fun a u h => ?_, fun a u h z => ?_, fun a w => ?_, fun P t => E.tab P (E1.tab P t)⟩, fun p hp no w => ?_⟩
  · obtain ⟨v, e1, e2, _⟩ := slot m dv h
    exact ⟨v, e1, e2⟩
  · obtain ⟨v, e1, e2, e3⟩ := slot m _ h1
    obtain ⟨v', b1, b2, b3⟩ := slot k _ h2
    rw [h3] at e1; cases e1
    rw [h4] at b1; cases b1
    rcases e3 with ⟨j, x1, x2, x3⟩ | ⟨x1, x2⟩
    · rcases b3 with ⟨j', y1, y2, y3⟩ | ⟨y1, y2⟩
      · have := R'.inj j j' o o' p x2 y2 (map_some_at.mpr x3) (map_some_at.mpr y3)
        subst this
        rw [x1] at y1; cases y1; rfl
      · exfalso
        have ap := apart k o' p y1 y2 h4
        rcases E.ow p ⟨j, o, x2, map_some_at.mpr x3⟩ with z | z
        · exact ap z
        · obtain ⟨q, hq, _⟩ := R.ow_some ⟨k, o', y2, h4⟩
          rw [z] at hq; cases hq
    · rcases b3 with ⟨j', y1, y2, y3⟩ | ⟨y1, y2⟩
      · exfalso
        have ap := apart m o p x1 x2 h3
        rcases E.ow p ⟨j', o', y2, map_some_at.mpr y3⟩ with z | z
        · exact ap z
        · obtain ⟨q, hq, _⟩ := R.ow_some ⟨m, o, x2, h3⟩
          rw [z] at hq; cases hq
      · exact R.inj m k o o' p x2 y2 h3 h4
  · refine E.keep a u (E1.keep a u h no nt) (fun w => ?_) nt
    rcases owA0 a w with z | z
    · exact no z
    · rw [h] at z; cases z
  · obtain ⟨u1, h1⟩ := E1.there a u h
    exact E.there a u1 h1
  · cases q : F a with
    | some x => exact E1.new a x q z
    | none =>
      rcases E.new a u h q with y | y
      · exact .inl (hn0 a y)
      · exact (owA0 a y).symm
  · obtain ⟨m, o, h1, h2⟩ := w
    obtain ⟨v, e1, e2, e3⟩ := slot m _ h1
    rw [h2] at e1; cases e1
    rcases e3 with ⟨j, x1, x2, x3⟩ | ⟨x1, x2⟩
    · rcases E.ow a ⟨j, o, x2, map_some_at.mpr x3⟩ with z | z
      · exact owA0 a z
      · exact .inr (hn0 a z)
    · exact E1.ow a ⟨m, o, x2, h2⟩
  · obtain ⟨m, o, h1, h2⟩ := w
    obtain ⟨v, e1, e2, e3⟩ := slot m _ h1
    rw [h2] at e1; cases e1
    rcases e3 with ⟨j, x1, x2, x3⟩ | ⟨x1, x2⟩
    · exact no ⟨j, o, x2, map_some_at.mpr x3⟩
    · obtain ⟨q, hq, _⟩ := R.ow_some ⟨m, o, x2, h2⟩
      rw [hp] at hq; cases hq
end
open PySem PySem.Spec L2

theorem getP_at {α : Type} {l : List α} : ∀ {pick : List Nat}, (∀ j ∈ pick, j < l.length) → ∀ i : Nat, (getP l pick)[i]? = pick[i]?.bind fun j => l[j]?
  | [], _, i => by simp [getP]
  | j :: js, h, i => by
    have hj : j < l.length := h j (List.mem_cons_self ..)
    have e : l[j]? = some l[j] := List.getElem?_eq_getElem hj
    have ih := getP_at (pick := js) fun k hk => h k (List.mem_cons_of_mem _ hk)
    unfold getP
    rw [e]
    cases i with
    | zero => simp [e]
    | succ i => simpa using ih i
theorem getP_len {α : Type} {l : List α} : ∀ {pick : List Nat}, (∀ j ∈ pick, j < l.length) → (getP l pick).length = pick.length
  | [], _ => rfl
  | j :: js, h => by
    have hj : j < l.length := h j (List.mem_cons_self ..)
    have e : l[j]? = some l[j] := List.getElem?_eq_getElem hj
    unfold getP
    rw [e]
    simp [getP_len (pick := js) fun k hk => h k (List.mem_cons_of_mem _ hk)]
theorem vals_getP {vs : List V} {us : List Value} (r : Vals vs us) : ∀ (pick : List Nat), Vals (getP vs pick) (getP us pick)
  | [] => .nil
  | j :: js => by
    unfold getP
    cases e : vs[j]? with
    | none => rw [r.none_of e]; exact vals_getP r js
    | some v =>
      obtain ⟨u, e1, e2⟩ := r.get e
      rw [e1]
      exact .cons e2 (vals_getP r js)
theorem nodup_nat {l : List Nat} (h : l.Nodup) {i k j : Nat} (a : l[i]? = some j) (b : l[k]? = some j) : i = k := by
  obtain ⟨l1, e1⟩ := List.getElem?_eq_some_iff.mp a
  obtain ⟨l2, e2⟩ := List.getElem?_eq_some_iff.mp b
  have hp := List.pairwise_iff_getElem.mp h
  rcases Nat.lt_trichotomy i k with z | z | z
  · exact absurd (e1.trans e2.symm) (hp i k l1 l2 z)
  · exact z
  · exact absurd (e2.trans e1.symm) (hp k i l2 l1 z)
section
variable {K : PySem.W.Frag} {F H H0 : Hp} {σ : L2.St} {env : Dn}
theorem RepP.pick {vs : List V} {es : List Ev} {pick : List Nat} (A : RepP K F H σ env H0 vs es) (hp : ∀ j ∈ pick, j < es.length) (nd : pick.Nodup) : RepP K F H σ env H0 (getP vs pick) (getP es pick) := by
  have hp' : ∀ j ∈ pick, j < vs.length := fun j hj => by rw [A.len]; exact hp j hj
  have get : ∀ {i : Nat} {e : Ev}, (getP es pick)[i]? = some e → ∃ j, pick[i]? = some j ∧ es[j]? = some e := by
    intro i e h
    rw [getP_at hp] at h
    obtain ⟨j, h1, h2⟩ := Option.bind_eq_some_iff.mp h
    exact ⟨j, h1, h2⟩
  have getV : ∀ {i j : Nat} {v : V}, pick[i]? = some j → ((getP vs pick)[i]? = some v ↔ vs[j]? = some v) := by
    intro i j v h
    rw [getP_at hp', h]
    rfl
  refine ⟨by rw [getP_len hp, getP_len hp'], fun i e h => ?_, fun i k o o' p h1 h2 h3 h4 => ?_⟩
  · obtain ⟨j, e1, e2⟩ := get h
    obtain ⟨v, e3, e4⟩ := A.val j e e2
    exact ⟨v, (getV e1).mpr e3, e4⟩
  · obtain ⟨j, a1, a2⟩ := get h1
    obtain ⟨j', b1, b2⟩ := get h2
    have := A.dis j j' o o' p a2 b2 ((getV a1).mp h3) ((getV b1).mp h4)
    subst this
    exact nodup_nat nd a1 b1
theorem RepA.move {F' H' : Hp} {env' : Dn} : ∀ {vs : List V} {es : List Ev}, RepA K F H σ env H0 vs es → Ext σ env F H σ env' F' H' → RepA K F' H' σ env' H0 vs es
  | _, _, .nil, _ => .nil
  | _, _, .cons h t d, e => .cons (h.move e) (RepA.move t e) d
theorem RepA.newSome {p : Addr} : ∀ {vs : List V} {es : List Ev}, RepA K F H σ env H0 vs es → NewAt p vs es → ∃ u, H p = some u
  | _, _, .nil, n => n.elim
  | _, _, .cons h t _, n => by
    rcases n with ⟨rfl, o, rfl⟩ | n
    · obtain ⟨q, e, _, r, _⟩ := h
      cases e
      exact r.some
    · exact t.newSome n
theorem newAt_append {p : Addr} : ∀ {vs ws : List V} {es fs : List Ev}, vs.length = es.length → NewAt p (vs ++ ws) (es ++ fs) → NewAt p vs es ∨ NewAt p ws fs
  | [], _, [], _, _, h => .inr h
  | [], _, _ :: _, _, hl, _ => by simp at hl
  | _ :: _, _, [], _, hl, _ => by simp at hl
  | v :: vs, ws, e :: es, fs, hl, h => by
    rcases h with h | h
    · exact .inl (.inl h)
    · rcases newAt_append (by simpa using hl) h with z | z
      · exact .inl (.inr z)
      · exact .inr z
theorem RepA.append {ws : List V} {fs : List Ev} (B : RepA K F H σ env H0 ws fs) : ∀ {vs : List V} {es : List Ev}, RepA K F H σ env H0 vs es → (∀ p, NewAt p vs es → ¬ NewAt p ws fs) → RepA K F H σ env H0 (vs ++ ws) (es ++ fs)
  | _, _, .nil, _ => B
  | _, _, .cons h t d, n => .cons h (RepA.append B t fun p z => n p (.inr z)) fun p o e1 e2 z => by
    rcases newAt_append t.length z with z | z
    · exact d p o e1 e2 z
    · exact n p (.inl ⟨e1, o, e2⟩) z
theorem repA_dats : ∀ {vs : List V} {ds : List Dt}, RpAll K F vs ds → RepA K F H σ env H0 vs (ds.map Ev.dat)
  | _, _, .nil => .nil
  | _, _, .cons h t => .cons h (repA_dats t) fun p o _ e => by cases e
theorem newAt_dats {p : Addr} : ∀ {vs : List V} {ds : List Dt}, ¬ NewAt p vs (ds.map Ev.dat)
  | [], _, h => by cases ‹List Dt› <;> exact h
  | _ :: _, [], h => h
  | _ :: _, _ :: _, h => by
    rcases h with ⟨_, _, e⟩ | h
    · cases e
    · exact newAt_dats h
end

structure DKw (X : Cx) (kws : List Keyword) (t : DTa) : Prop where
  mono : MonoA t
  run : PK X kws (tDa X.K t)
theorem _root_.L2.PK.mono {X : Cx} {e : List Keyword} {t t' : TA} (h : PK X e t) (i : ∀ σ H Q, t' σ H Q → t σ H Q) : PK X e t' := ⟨fun pos pins s σ H Q I q => h.run pos pins s σ H Q I (i σ H Q q)⟩
section
variable {X : Cx} {n : Nat} {pos : Pos}
theorem dk_nil : DKw X [] kNil := by
  refine ⟨fun env Q Q' i h => i _ _ h, pk_nil.mono fun σ H Q => ?_⟩
  rintro ⟨F, env, R, q⟩
  exact q F H [] Ext.refl R .nil
theorem dk_cons {nm : Option Str} {e : Expr} {kpos : Pos} {kws : List Keyword} {t : DT} {u : DTa} (ha : DE X e t) (hr : DKw X kws u) : DKw X (⟨nm, e, kpos⟩ :: kws) (kCons t u) := by
  refine ⟨fun env Q Q' i h => ha.mono _ _ _ (fun ev env1 h1 => hr.mono _ _ _ (fun evs env2 h2 => i _ _ h2) h1) h, (pk_cons ha.run hr.run).mono fun σ H Q => ?_⟩
  rintro ⟨F, env, R, q⟩
  refine ⟨F, env, R, ha.mono _ _ _ (fun ev env1 h1 F1 H1 v E1 R1 V1 => ⟨F1, env1, R1, hr.mono _ _ _ (fun evs env2 h2 F2 H2 vs E2 R2 V2 => ?_) h1⟩) q⟩
  refine h2 F2 H2 (v :: vs) (E1.trans E2) R2 (.cons (V1.move E2) (V2.back E1.there) fun p o e1 e2 nw => ?_)
  have z := V2.newNone nw
  subst e1 e2
  obtain ⟨q, e, _, r, _⟩ := V1
  cases e
  obtain ⟨u, hu⟩ := r.some
  rw [z] at hu; cases hu
/-- how the parameters are bound at a call of this form: nP places, keywords ks, the defaults dvs, each parameter by its place in all of these -/
structure BindP (K : PySem.W.Frag) (fd : FuncData) (ps : List Str) (nP : Nat) (ks : List Str) (dvs : List V) (pick : List Nat) : Prop where
  to : ∃ ds : List Value, Vals dvs ds ∧ ∀ (s : Shared) (us ws : List Value), K.In s.heap → us.length = nP → ws.length = ks.length → BindsTo s fd ⟨us, ks.zip ws⟩ (ps.zip (getP (us ++ ws ++ ds) pick))
  len : pick.length = ps.length
  lt : ∀ j ∈ pick, j < nP + ks.length + dvs.length
  nd : pick.Nodup
def kFn (sp : DSp) (nP nK : Nat) (dd : List Dt) (pick : List Nat) (t tk : DTa) : DT := fun env Q => t env fun evs env1 => tk env1 fun kevs env2 => evs.length = nP ∧ kevs.length = nK ∧
  okV (getP (evs ++ kevs ++ dd.map Ev.dat) pick) = true ∧ wr (argsO env2 (getP (evs ++ kevs ++ dd.map Ev.dat) pick)) fun as => sp as fun r outs => Q r.ev (bkA (getP (evs ++ kevs ++ dd.map Ev.dat) pick) outs env2)
theorem run_g {k : Nat} {f : Addr} {fd : FuncData} {ps : List Str} {sp : DSp} {pins : List (Addr × Obj)} {σ : L2.St} {H : Hp} {s : Shared} {Q : VK} {us us' : List Value} {kw : List (Str × Value)} {vs' : List V} (F : FnG X.prog X.w X.K X.mg X.base k f fd ps sp) (hr : Room k X.A) (hgd : X.A.guards = some [])
    (I : Inv X pins σ H s) (b : BindsTo s fd ⟨us, kw⟩ (ps.zip us')) (r : Vals vs' us') (hl : vs'.length = ps.length) (h : tSp X.K sp vs' H Q) : wpAny (model X.prog X.w) X.A (call (.ref f) us kw) (EP X pins σ Q) X.xe s := by
  refine wpAny_call (codeAny_mono (F.run X.A X.stack s H ⟨us, kw⟩ us' vs' Q hr hgd I.env0 b r hl h) ?_)
  intro rr s' hq
  cases rr with
  | error e => exact (show False from hq).elim
  | ok fl =>
    cases fl with
    | ret u => exact I.after hq
    | next => exact (show False from hq).elim
    | brk => exact (show False from hq).elim
    | cont => exact (show False from hq).elim
def tCG (K : PySem.W.Frag) (sp : DSp) (nP nK : Nat) (dvs : List V) (pick : List Nat) (t tk : TA) : TE := fun σ H Q => t σ H fun vs H1 => tk σ H1 fun zs H2 => vs.length = nP ∧ zs.length = nK ∧ tSp K sp (getP (vs ++ zs ++ dvs) pick) H2 Q
section
variable {k nP : Nat} {f : Addr} {fd : FuncData} {ps ks : List Str} {sp : DSp} {dvs : List V} {dd : List Dt} {pick : List Nat} {x : Str} {p : Pos} {e : Expr} {es : List Expr} {kws : List Keyword} {t tk : DTa}
theorem kFn_mono (F : FnG X.prog X.w X.K X.mg X.base k f fd ps sp) {nK : Nat} (mt : MonoA t) (mk : MonoA tk) : MonoD (kFn sp nP nK dd pick t tk) := fun env Q Q' i q =>
  mt _ _ _ (fun evs env1 q => mk _ _ _ (fun kevs env2 q => ⟨q.1, q.2.1, q.2.2.1, wr_mono (fun as q => F.mono _ _ _ (fun r o q => i _ _ q) q) q.2.2.2⟩) q) q
theorem kFn_run (F : FnG X.prog X.w X.K X.mg X.base k f fd ps sp) (hb : BindP X.K fd ps nP ks dvs pick) (hd : RpAll X.K (fun _ => none) dvs dd) (mt : MonoA t) (mk : MonoA tk) {σ : L2.St} {H : Hp} {Q : VK} (h : tD X.K (kFn sp nP ks.length dd pick t tk) σ H Q) : tCG X.K sp nP ks.length dvs pick (tDa X.K t) (tDa X.K tk) σ H Q := by
  obtain ⟨F0, env, R, q⟩ := h
  refine ⟨F0, env, R, mt _ _ _ (fun evs env1 q F1 H1 vs E1 R1 V1 => ⟨F1, env1, R1, mk _ _ _ (fun kevs env2 q F2 H2 zs E2 R2 V2 => ?_) q⟩) q⟩
  obtain ⟨l1, l2, ok, q⟩ := q
  obtain ⟨as, ea, q⟩ := wr_get q
  have E12 := E1.trans E2
  have A1 : RepA X.K F2 H2 σ env2 H vs evs := V1.move E2
  have A2 : RepA X.K F2 H2 σ env2 H zs kevs := V2.back E1.there
  have A12 : RepA X.K F2 H2 σ env2 H (vs ++ zs) (evs ++ kevs) := A2.append A1 fun p n1 n2 => by
    obtain ⟨u, hu⟩ := V1.newSome n1
    have z := V2.newNone n2
    rw [hu] at z; cases z
  have hd' : RpAll X.K F2 dvs dd := dpAll_same (fun _ u z => absurd (show (none : Option HO) = some u from z) (by simp)) hd
  have A3 : RepA X.K F2 H2 σ env2 H (vs ++ zs ++ dvs) (evs ++ kevs ++ dd.map Ev.dat) := (repA_dats hd').append A12 fun p _ n2 => newAt_dats n2
  have hl : (evs ++ kevs ++ dd.map Ev.dat).length = nP + ks.length + dvs.length := by
    rw [List.length_append, List.length_append, l1, l2, List.length_map, hd.length]
  have AP := A3.p.pick (pick := pick) (fun j hj => by rw [hl]; exact hb.lt j hj) hb.nd
  refine ⟨by rw [V1.length]; exact l1, by rw [V2.length]; exact l2, F2, as, rep_args R2 AP ok ea, F.mono _ _ _ (fun r outs q F3 H3 v E3 R3 V3 => ?_) q⟩
  obtain ⟨R4, E4, n4⟩ := rep_back E12 R2 AP ok ea E3 R3
  refine q F3 H3 v E4 R4 ?_
  cases r with
  | dat d => exact V3
  | inv φ => exact V3
  | tab P => obtain ⟨_, _, z⟩ := V3; exact z.elim
  | obj o =>
    obtain ⟨p, e1, e2, e3, e4, e5⟩ := V3
    refine ⟨p, e1, e2, e3, n4 p e5 e4, ?_⟩
    cases z : H p with
    | none => rfl
    | some u =>
      obtain ⟨u', z'⟩ := E12.there p u z
      rw [e5] at z'; cases z'
/-- f(e, ..) -/
theorem de_fn (F : FnG X.prog X.w X.K X.mg X.base k f fd ps sp) (hr : Room k X.A) (hgd : X.A.guards = some []) (hg : Gl X x) (hm : X.mg x = some (.ref f)) (hk : PySem.W.keepIn X.K (.ref f) = true) (hb : BindP X.K fd ps nP [] dvs pick) (hd : RpAll X.K (fun _ => none) dvs dd) (ha : DA X (e :: es) t)
    (hdb : (x == ("__debug__" : Str)) = false := by decide) (he : starEach (e :: es) X.env = (false, eval e X.env) :: starEach es X.env := by rfl) (hpl : (backTo pos (starEach es X.env)).any (·.1) = false := by rfl) :
    DE X (.Call (.Name x p) (e :: es) [] pos) (kFn sp nP 0 dd pick t kNil) := by
  have mk : MonoA kNil := fun env Q Q' i h => i _ _ h
  have pe : PE X (.Call (.Name x p) (e :: es) [] pos) (tCG X.K sp nP 0 dvs pick (tDa X.K t) tNil) := by
    constructor
    intro pins s σ H Q I h
    apply wpAny_Call_Name_kw
    apply ld_glob I hg hm _ hdb
    refine PySem.W.callWith_K (h₀ := X.base) I.ok.mod.kin hk (thn (ha.run.run pos pins s σ H _ I h) ?_) he hpl
    rintro us s1 ⟨vs, H1, I1, r, l1, _, q⟩
    refine ⟨I1.kIn, ?_⟩
    obtain ⟨ds, rd, to⟩ := hb.to
    have b := to s1 us [] I1.kIn (by rw [← r.length]; exact l1) rfl
    have rr : Vals (getP (vs ++ [] ++ dvs) pick) (getP (us ++ [] ++ ds) pick) := vals_getP (by rw [List.append_nil, List.append_nil]; exact r.append rd) pick
    refine run_g F hr hgd I1 b rr ?_ q
    rw [getP_len]
    · exact hb.len
    · intro j hj
      have := hb.lt j hj
      rw [List.length_append, List.length_append, l1]
      exact this
  exact ⟨kFn_mono F ha.mono mk, pe.mono fun σ H Q h => by
    have z := kFn_run (ks := []) F hb hd ha.mono mk h
    obtain ⟨F0, env, R, q⟩ := z
    refine ⟨F0, env, R, ha.mono _ _ _ (fun evs env1 q F1 H1 vs E1 R1 V1 => ?_) q⟩
    obtain ⟨F2, env2, R2, q2⟩ := q F1 H1 vs E1 R1 V1
    exact q2 F2 H1 [] Ext.refl R2 .nil⟩
/-- f() -/
theorem de_fn0 (F : FnG X.prog X.w X.K X.mg X.base k f fd ps sp) (hr : Room k X.A) (hgd : X.A.guards = some []) (hg : Gl X x) (hm : X.mg x = some (.ref f)) (hk : PySem.W.keepIn X.K (.ref f) = true) (hb : BindP X.K fd ps 0 [] dvs pick) (hd : RpAll X.K (fun _ => none) dvs dd)
    (hdb : (x == ("__debug__" : Str)) = false := by decide) : DE X (.Call (.Name x p) [] [] pos) (kFn sp 0 0 dd pick kNil kNil) := by
  have mk : MonoA kNil := fun env Q Q' i h => i _ _ h
  have pe : PE X (.Call (.Name x p) [] [] pos) (tCG X.K sp 0 0 dvs pick tNil tNil) := by
    constructor
    intro pins s σ H Q I h
    apply wpAny_Call_Name_kw
    apply ld_glob I hg hm _ hdb
    obtain ⟨_, _, q⟩ := h
    obtain ⟨ds, rd, to⟩ := hb.to
    have b := to s [] [] I.kIn rfl rfl
    have rr : Vals (getP ([] ++ [] ++ dvs) pick) (getP ([] ++ [] ++ ds) pick) := vals_getP rd pick
    refine PySem.W.callWith_K0 I.kIn hk (run_g F hr hgd I b rr ?_ q)
    rw [getP_len]
    · exact hb.len
    · intro j hj
      have := hb.lt j hj
      simpa using this
  exact ⟨kFn_mono F mk mk, pe.mono fun σ H Q h => by
    obtain ⟨F0, env, R, q⟩ := kFn_run (ks := []) F hb hd mk mk h
    obtain ⟨F2, env2, R2, q2⟩ := q F0 H [] Ext.refl R .nil
    exact q2 F2 H [] Ext.refl R2 .nil⟩
/-- f(e, .., k = v, ..) -/
theorem de_fnK (F : FnG X.prog X.w X.K X.mg X.base k f fd ps sp) (hr : Room k X.A) (hgd : X.A.guards = some []) (hg : Gl X x) (hm : X.mg x = some (.ref f)) (hk : PySem.W.keepIn X.K (.ref f) = true) (hb : BindP X.K fd ps nP ks dvs pick) (hd : RpAll X.K (fun _ => none) dvs dd) (ha : DA X (e :: es) t) (hkw : DKw X kws tk)
    (hall : (backToKw pos (keywordEach kws X.env)).all (·.1.isSome) = true := by rfl) (hks : (backToKw pos (keywordEach kws X.env)).filterMap (·.1) = ks := by rfl)
    (hdb : (x == ("__debug__" : Str)) = false := by decide) (he : starEach (e :: es) X.env = (false, eval e X.env) :: starEach es X.env := by rfl)
    (hpl : ((backTo pos (starEach (e :: es) X.env)).any (·.1) || (backToKw pos (keywordEach kws X.env)).any (·.1.isNone)) = false := by rfl) :
    DE X (.Call (.Name x p) (e :: es) kws pos) (kFn sp nP ks.length dd pick t tk) := by
  have pe : PE X (.Call (.Name x p) (e :: es) kws pos) (tCG X.K sp nP ks.length dvs pick (tDa X.K t) (tDa X.K tk)) := by
    constructor
    intro pins s σ H Q I h
    apply wpAny_Call_Name_kw
    apply ld_glob I hg hm _ hdb
    refine PySem.W.callWith_KW (h₀ := X.base) I.ok.mod.kin hk hall (thn (ha.run.run pos pins s σ H _ I h) ?_) hpl he
    rintro us s1 ⟨vs, H1, I1, r, q⟩
    refine thn (hkw.run.run pos pins s1 σ H1 _ I1 q) ?_
    rintro ws s2 ⟨zs, H2, I2, rz, l1, l2, q2⟩
    refine ⟨I2.kIn, ?_⟩
    rw [hks]
    obtain ⟨ds, rd, to⟩ := hb.to
    have b := to s2 us ws I2.kIn (by rw [← r.length]; exact l1) (by rw [← rz.length]; exact l2)
    refine run_g F hr hgd I2 b (vals_getP ((r.append rz).append rd) pick) ?_ q2
    rw [getP_len]
    · exact hb.len
    · intro j hj
      have := hb.lt j hj
      rw [List.length_append, List.length_append, l1, l2]
      exact this
  exact ⟨kFn_mono F ha.mono hkw.mono, pe.mono fun σ H Q h => kFn_run F hb hd ha.mono hkw.mono h⟩
end
end
open PySem PySem.Spec L2

def getS (kvs : List (Str × Dt)) (k : Str) : Option Dt := (kvs.find? fun kv => decide (kv.1 = k)).map (·.2)
def putS (kvs : List (Str × Dt)) (k : Str) (d : Dt) : List (Str × Dt) := if (kvs.any fun kv => decide (kv.1 = k)) = true then kvs.map (fun kv => if kv.1 = k then (kv.1, d) else kv) else kvs ++ [(k, d)]
def mergeS (kvs more : List (Str × Dt)) : List (Str × Dt) := more.foldl (fun acc kv => putS acc kv.1 kv.2) kvs
def parS : List Dt → Option (List (Str × Dt))
  | [] => some []
  | .tuple [.str k, d] :: r => (parS r).map fun l => (k, d) :: l
  | _ :: _ => none
section
variable {K : PySem.W.Frag} {F : Hp}
theorem inr_dec (a b : Str) : decide ((Sum.inr a : Key) = Sum.inr b) = decide (a = b) := by
  by_cases e : a = b
  · subst e; simp
  · rw [decide_eq_false e, decide_eq_false fun z => e (Sum.inr.inj z)]
theorem kvR_get {k : Str} : ∀ {vs : List (Key × V)} {kvs : List (Str × Dt)}, KvR K F vs kvs → (getS kvs k = none ∧ valV vs (Sum.inr k) = none) ∨ ∃ d v, getS kvs k = some d ∧ valV vs (Sum.inr k) = some v ∧ Rp K F v d
  | [], [], _ => .inl ⟨rfl, rfl⟩
  | (a, v) :: vs, (x, d) :: kvs, ⟨h1, h2, h3⟩ => by
    subst h1
    have ih := kvR_get (k := k) h3
    unfold getS valV at ih ⊢
    simp only [List.find?_cons, inr_dec]
    by_cases e : x = k
    · simp only [decide_eq_true e]
      exact .inr ⟨d, v, rfl, rfl, h2⟩
    · simp only [decide_eq_false e]
      exact ih
  | [], _ :: _, h => h.elim
  | _ :: _, [], h => h.elim
theorem kvR_any {k : Str} : ∀ {vs : List (Key × V)} {kvs : List (Str × Dt)}, KvR K F vs kvs → (vs.any fun kv => decide (kv.1 = Sum.inr k)) = kvs.any fun kv => decide (kv.1 = k)
  | [], [], _ => rfl
  | (a, v) :: vs, (x, d) :: kvs, ⟨h1, _, h3⟩ => by
    subst h1
    simp only [List.any_cons, kvR_any h3, inr_dec]
  | [], _ :: _, h => h.elim
  | _ :: _, [], h => h.elim
theorem kvR_map {k : Str} {v : V} {d : Dt} (r : Rp K F v d) : ∀ {vs : List (Key × V)} {kvs : List (Str × Dt)}, KvR K F vs kvs → KvR K F (vs.map fun kv => if kv.1 = Sum.inr k then (kv.1, v) else kv) (kvs.map fun kv => if kv.1 = k then (kv.1, d) else kv)
  | [], [], _ => trivial
  | (a, u) :: vs, (x, e) :: kvs, ⟨h1, h2, h3⟩ => by
    subst h1
    have ih := kvR_map (k := k) r h3
    by_cases q : x = k
    · subst q
      simp only [List.map_cons, if_true]
      exact ⟨rfl, r, ih⟩
    · have q' : ¬ (Sum.inr x : Key) = Sum.inr k := fun z => q (Sum.inr.inj z)
      simp only [List.map_cons, if_neg q, if_neg q']
      exact ⟨rfl, h2, ih⟩
  | [], _ :: _, h => h.elim
  | _ :: _, [], h => h.elim
theorem kvR_snoc {k : Str} {v : V} {d : Dt} (r : Rp K F v d) : ∀ {vs : List (Key × V)} {kvs : List (Str × Dt)}, KvR K F vs kvs → KvR K F (vs ++ [(Sum.inr k, v)]) (kvs ++ [(k, d)])
  | [], [], _ => ⟨rfl, r, trivial⟩
  | (a, u) :: vs, (x, e) :: kvs, ⟨h1, h2, h3⟩ => ⟨h1, h2, kvR_snoc r h3⟩
  | [], _ :: _, h => h.elim
  | _ :: _, [], h => h.elim
theorem kvR_put {k : Str} {v : V} {d : Dt} (r : Rp K F v d) {vs : List (Key × V)} {kvs : List (Str × Dt)} (h : KvR K F vs kvs) : KvR K F (putK vs (Sum.inr k) v) (putS kvs k d) := by
  unfold putK putS
  rw [kvR_any h]
  split
  · exact kvR_map r h
  · exact kvR_snoc r h
theorem kvR_len : ∀ {vs : List (Key × V)} {kvs : List (Str × Dt)}, KvR K F vs kvs → vs.length = kvs.length
  | [], [], _ => rfl
  | (a, u) :: vs, (x, e) :: kvs, ⟨_, _, h3⟩ => by simp [kvR_len h3]
  | [], _ :: _, h => h.elim
  | _ :: _, [], h => h.elim
theorem kvR_merge : ∀ {more : List (Key × V)} {mr : List (Str × Dt)} {vs : List (Key × V)} {kvs : List (Str × Dt)}, KvR K F more mr → KvR K F vs kvs → KvR K F (mergeK vs more) (mergeS kvs mr)
  | [], [], _, _, _, h => h
  | (a, u) :: more, (x, e) :: mr, _, _, ⟨h1, h2, h3⟩, h => by
    subst h1
    have z := kvR_merge h3 (kvR_put (k := x) h2 h)
    exact z
  | [], _ :: _, _, _, h, _ => h.elim
  | _ :: _, [], _, _, h, _ => h.elim
theorem kvR_keys : ∀ {vs : List (Key × V)} {kvs : List (Str × Dt)}, KvR K F vs kvs → vs.map (·.1) = (kvs.map (·.1)).map Sum.inr
  | [], [], _ => rfl
  | (a, u) :: vs, (x, e) :: kvs, ⟨h1, _, h3⟩ => by simp [kvR_keys h3, h1]
  | [], _ :: _, h => h.elim
  | _ :: _, [], h => h.elim
end
section
variable {X : Cx} {n : Nat} {pos : Pos}
/-- slot i holds such a dict -/
def gD (env : Dn) (i : Nat) (Q : List (Str × Dt) → Prop) : Prop := match env[i]? with
  | some (some (.obj (.dic kvs))) => Q kvs
  | _ => False
theorem gD_get {env : Dn} {i : Nat} {Q : List (Str × Dt) → Prop} (h : gD env i Q) : ∃ xs, env[i]? = some (some (.obj (.dic xs))) ∧ Q xs := by
  unfold gD at h
  split at h
  · exact ⟨_, by assumption, h⟩
  · exact h.elim
theorem gD_mono {env : Dn} {i : Nat} {Q Q' : List (Str × Dt) → Prop} (m : ∀ xs, Q xs → Q' xs) (h : gD env i Q) : gD env i Q' := by
  unfold gD at h ⊢
  split at h
  · exact m _ h
  · exact h.elim
def strK : Dt → Option Str
  | .str k => some k
  | _ => none
theorem rp_str {K : PySem.W.Frag} {F H : Hp} {v : V} {d : Dt} {k : Str} (h : Tp K F H v d) (e : strK d = some k) : v = .str k := by
  cases h <;> simp [strK] at e
  rw [e]
def kDnew : DT := fun env Q => Q (.new (.dic [])) env
theorem de_dnew : DE X (.Dict [] [] pos) kDnew := by
  refine ⟨fun env Q Q' i h => i _ _ h, pe_dnewK.mono fun σ H Q => ?_⟩
  rintro ⟨F, env, R, q⟩ p hp
  obtain ⟨R2, E2⟩ := R.growN hp (.dK [])
  exact q F _ (.ref p) E2 R2 ⟨p, rfl, R.fnone hp, ⟨[], upd_same, trivial⟩, R.not_ow hp, hp⟩
/-- x.get(k, d) -/
def kDget2 (i : Nat) (tk td : DT) : DT := fun env Q => gD env i fun _ => tk env fun ek env1 => td env1 fun ed env2 => as1 ed fun d0 => gD env2 i fun kvs => wr ((rs env2 ek).bind strK) fun k => Q (.dat ((getS kvs k).getD d0)) env2
theorem de_dget2 (i : Nat) {x : Str} {e f : Expr} {tk td : DT} {p apos cpos : Pos} (hu : X.A.units + 1 < cLine) (he : DE X e tk) (hf : DE X f td) (m : M2 X (.Name x p) "get" apos e f cpos) (hN : X.N[i]? = some x := by rfl) (hv : Vis X.env.scope x := by first | exact Or.inl rfl | exact Or.inr (Or.inl rfl) | exact Or.inr (Or.inr rfl)) (hd : (x == ("__debug__" : Str)) = false := by decide) (hcd : (x == ("__classdict__" : Str)) = false := by decide) :
    DE X (.Call (.Attribute (.Name x p) "get" apos) [e, f] [] cpos) (kDget2 i tk td) := by
  refine ⟨fun env Q Q' m q => gD_mono (fun _ q => he.mono _ _ _ (fun ek env1 q => hf.mono _ _ _ (fun ed env2 q => as1_mono (fun d0 q => gD_mono (fun kvs q => wr_mono (fun k q => m _ _ q) q) q) q) q) q) q, (pe_dget2 hu (pe_var hN hv hd hcd) he.run hf.run m).mono fun σ H Q => ?_⟩
  rintro ⟨F, env, R, q⟩
  obtain ⟨kvs0, e0, q⟩ := gD_get q
  obtain ⟨v0, es, a0, ev0, hf0, vs0, hp0, _⟩ := R.val i _ e0
  subst ev0
  refine ⟨_, es, a0, rfl, .inl ⟨vs0, .inl hp0⟩, F, env, R, he.mono _ _ _ (fun ek env1 q F1 H1 y E1 R1 V1 => ⟨F1, env1, R1, hf.mono _ _ _ (fun ed env2 q F2 H2 z E2 R2 V2 => ?_) q⟩) q⟩
  obtain ⟨d0, rfl, q⟩ := as1_get q
  obtain ⟨kvs, e1, q⟩ := gD_get q
  obtain ⟨k, e2, q⟩ := wr_get q
  obtain ⟨dk, e3, e4⟩ := Option.bind_eq_some_iff.mp e2
  have ey := rp_str (tp_of R2 (V1.move E2) e3) e4
  subst ey
  obtain ⟨v1, es1, a1, ev1, hf1, vs1, hp1, rk⟩ := R2.val i _ e1
  rw [es] at es1; cases es1; cases ev1
  have V2 : Rp X.K F2 z d0 := V2
  refine ⟨valV vs1 (Sum.inr k), DGet.k (k := Sum.inr k) hp1, ?_⟩
  rcases kvR_get (k := k) rk with ⟨g1, g2⟩ | ⟨d, v, g1, g2, g3⟩
  · rw [g2]; rw [g1] at q
    exact q F2 H2 z (E1.trans E2) R2 V2
  · rw [g2]; rw [g1] at q
    exact q F2 H2 v (E1.trans E2) R2 g3
/-- x[k] -/
def kDix (i : Nat) (tk : DT) : DT := fun env Q => gD env i fun _ => tk env fun ek env1 => gD env1 i fun kvs => wr ((rs env1 ek).bind strK) fun k => wr (getS kvs k) fun d => Q (.dat d) env1
theorem de_dix (i : Nat) {x : Str} {e : Expr} {tk : DT} {p : Pos} (hu : X.A.units + 1 < cLine) (he : DE X e tk) (hs : NoSl e := by exact fun _ _ => rfl) (hN : X.N[i]? = some x := by rfl) (hv : Vis X.env.scope x := by first | exact Or.inl rfl | exact Or.inr (Or.inl rfl) | exact Or.inr (Or.inr rfl)) (hd : (x == ("__debug__" : Str)) = false := by decide) (hcd : (x == ("__classdict__" : Str)) = false := by decide) :
    DE X (.Subscript (.Name x p) e pos) (kDix i tk) := by
  refine ⟨fun env Q Q' m q => gD_mono (fun _ q => he.mono _ _ _ (fun ek env1 q => gD_mono (fun kvs q => wr_mono (fun k q => wr_mono (fun d q => m _ _ q) q) q) q) q) q, (pe_dget hu (pe_var hN hv hd hcd) he.run hs).mono fun σ H Q => ?_⟩
  rintro ⟨F, env, R, q⟩
  obtain ⟨kvs0, e0, q⟩ := gD_get q
  obtain ⟨v0, es, a0, ev0, hf0, vs0, hp0, _⟩ := R.val i _ e0
  subst ev0
  refine ⟨_, es, F, env, R, he.mono _ _ _ (fun ek env1 q F1 H1 y E1 R1 V1 => ?_) q⟩
  obtain ⟨kvs, e1, q⟩ := gD_get q
  obtain ⟨k, e2, q⟩ := wr_get q
  obtain ⟨d, ed, q⟩ := wr_get q
  obtain ⟨dk, e3, e4⟩ := Option.bind_eq_some_iff.mp e2
  have ey := rp_str (tp_of R1 V1 e3) e4
  subst ey
  obtain ⟨v1, es1, a1, ev1, hf1, vs1, hp1, rk⟩ := R1.val i _ e1
  rw [es] at es1; cases es1; cases ev1
  rcases kvR_get (k := k) rk with ⟨g1, g2⟩ | ⟨d', v, g1, g2, g3⟩
  · rw [g1] at ed; cases ed
  · rw [g1] at ed; cases ed
    exact ⟨a0, v, rfl, by have := DGet.k (k := Sum.inr k) hp1; rw [g2] at this; exact this, q F1 H1 v E1 R1 g3⟩
/-- x[k] = v -/
def sDput (i : Nat) (tk tv : DT) : DTS := fun E env => tv env fun ev env1 => as1 ev fun d => gD env1 i fun _ => tk env1 fun ek env2 => gD env2 i fun kvs => wr ((rs env2 ek).bind strK) fun k => kvs.length < sizeLine ∧ E.nx (env2.set i (some (.obj (.dic (putS kvs k d)))))
theorem ds_dput (i : Nat) {x : Str} {e value : Expr} {tk tv : DT} {p pos' : Pos} (hu : X.A.units + 1 < cLine) (he : DE X e tk) (hvl : DE X value tv) (hs : swapsWith value (some (.Subscript (.Name x p) e pos')) pos.line X.env = pure false := by rfl) (hN : X.N[i]? = some x := by rfl) (hv : Vis X.env.scope x := by first | exact Or.inl rfl | exact Or.inr (Or.inl rfl) | exact Or.inr (Or.inr rfl)) (hd : (x == ("__debug__" : Str)) = false := by decide) (hcd : (x == ("__classdict__" : Str)) = false := by decide) :
    DS X n (.Assign [.Subscript (.Name x p) e pos'] value pos) (sDput i tk tv) := ⟨(ps_dput hu (pe_var hN hv hd hcd) he.run hvl.run hs).mono fun D σ H => by
  rintro ⟨F, env, E, R, q, l⟩
  refine ⟨F, env, R, hvl.mono _ _ _ (fun ev env1 q F1 H1 v E1 R1 V1 => ?_) q⟩
  obtain ⟨d, rfl, q'⟩ := as1_get q
  obtain ⟨kvs0, e0, q⟩ := gD_get q'
  obtain ⟨v0, es, a0, ev0, hf0, vs0, hp0, _⟩ := R1.val i _ e0
  subst ev0
  refine ⟨_, es, F1, env1, R1, he.mono _ _ _ (fun ek env2 q F2 H2 y E2 R2 V2 => ?_) q⟩
  obtain ⟨kvs, e1, q⟩ := gD_get q
  obtain ⟨k, e2, hz, q⟩ := wr_get q
  obtain ⟨dk, e3, e4⟩ := Option.bind_eq_some_iff.mp e2
  have ey := rp_str (tp_of R2 V2 e3) e4
  subst ey
  obtain ⟨v1, es1, a1, ev1, hf1, vs1, hp1, rk⟩ := R2.val i _ e1
  rw [es] at es1; cases es1; cases ev1
  have rd : Rp X.K F2 v d := dp_same E2.same V1
  obtain ⟨R3, E3⟩ := R2.write (o' := .dic (putS kvs k d)) (ho := .dK (putK vs1 (Sum.inr k) v)) e1 es hf1 ⟨_, upd_same, kvR_put rd rk⟩
  exact ⟨a0, _, rfl, DPut.k (k := Sum.inr k) hp1 (by rw [kvR_len rk]; exact hz), l.nx _ _ _ _ ((E1.trans E2).trans E3).s R3 q⟩⟩
theorem pairs_told {pins : List (Addr × Obj)} {σ : L2.St} {H : Hp} {s : Shared} (I : Inv X pins σ H s) : ∀ {ps : List Addr} {kvs : List (Key × V)}, Paired (fun p kv => SqT X.K H p [kV kv.1, kv.2]) ps kvs →
    ∃ (prs : List (Key × Value)) (uvs : List (Value × Value)), KV kvs prs ∧ prs.length = ps.length ∧ uvs.length = ps.length ∧ ∀ (j : Nat) (u v : Value), uvs[j]? = some (u, v) → ∃ (b : Addr) (k : Key), ps[j]? = some b ∧ PyProof.Rows.IsTup s.heap b #[u, v] ∧ prs[j]? = some (k, v) ∧ keyIs k u = true
  | _, _, .nil => ⟨[], [], .nil, rfl, rfl, fun j u v e => by simp at e⟩
  | _, _, .cons (a := p) (b := kv) h t => by
    obtain ⟨prs, uvs, r, hl, hl', hp⟩ := pairs_told I t
    obtain ⟨its, rv, ht, _⟩ := I.tuple h
    obtain ⟨u, y, ei, ru, ry⟩ := vals2 rv
    subst ei
    refine ⟨(kv.1, y) :: prs, (u, y) :: uvs, .cons ⟨rfl, ry⟩ r, by simp [hl], by simp [hl'], fun j u' v' e => ?_⟩
    cases j with
    | zero =>
      simp at e
      obtain ⟨e1, e2⟩ := e
      subst e1 e2
      exact ⟨p, kv.1, rfl, ht, rfl, kV_is (P := X.prog) (w := X.w) ru⟩
    | succ j =>
      obtain ⟨b, k, e1, e2, e3⟩ := hp j u' v' (by simpa using e)
      exact ⟨b, k, by simpa using e1, e2, by simpa using e3⟩
def rDictF (K : PySem.W.Frag) : List V → Hp → VK → Prop := fun xs H Q => ∃ (a : Addr) (ps : List Addr) (kvs : List (Key × V)), xs = [.ref a] ∧ (H a = some (.lst (ps.map V.ref)) ∨ TuA K H a (ps.map V.ref)) ∧ Paired (fun p kv => SqT K H p [kV kv.1, kv.2]) ps kvs ∧
    ∀ p, H p = none → Q (.ref p) (upd H p (.dK (mergeK [] kvs)))
theorem call_dictF (hcalm : X.calm = true) : CallR X (.type "dict") (rDictF X.K) := by
  intro pins s σ H xs us Q I r q
  obtain ⟨a, ps, kvs, rfl, hq, hp, q⟩ := q
  rcases hq with hq | hq
  · exact call_dictP hcalm pins s σ H _ us Q I r ⟨a, ps, kvs, rfl, SqL.of hq, hp, q⟩
  · obtain ⟨u, rfl, rx⟩ := vals1 r
    cases rx
    have told : ∃ (o : Obj) (its : List Value) (m : Nat), s.heap.get? a = some o ∧ TObj o ∧ o.data = .seq its.toArray m ∧ Vals (ps.map V.ref) its ∧ ps.length ≤ sizeLine := by
      rcases hq with ⟨o, h, ho⟩ | ⟨o, its, m, h1, h2, h3, h4, h5⟩
      · obtain ⟨e1, hz, its, rv, o', e2, _, m, e3⟩ := (show ObjOk X.prog X.w H s.heap a (.frz o (.tup (ps.map V.ref))) from I.hok a _ h)
        rw [e1] at e2; cases e2
        exact ⟨o, its, m, e1, ho, e3, rv, by simpa using hz⟩
      · refine ⟨o, its.toList, m, I.kIn a o h1, h2, by simpa using h3, h5, ?_⟩
        have := h5.length
        simp at this
        omega
    obtain ⟨o, its, m, ho, to, hdat, rv, hz⟩ := told
    have ei := refs_at rv
    subst ei
    obtain ⟨prs, uvs, rel, hl, hl', hpr⟩ := pairs_told I hp
    have pa := PySem.PairArg.tuple (prog := X.prog) (w := X.w) a (ps.map Value.ref).toArray (fun j => ps.getD j 0) uvs
    refine PySem.call_dict_pairs (knd := mixKind X.prog X.w) (kvs := prs) pa (I.ok.hd hcalm) ⟨⟨o, m, ho, to.1, to.2.1, hdat⟩, by simp [hl'], fun j k v e => ?_⟩ ⟨by rw [hl, hl'], fun j key v e => ?_⟩ (by rw [hl']; exact hz) fun h' tk hd' k => ?_
    · obtain ⟨b, kk, e1, e2, e3, e4⟩ := hpr j k v e
      refine ⟨by simp [e1], .inl ?_⟩
      show s.heap.IsTuple (ps.getD j 0) #[k, v]
      rw [show ps.getD j 0 = b by simp [List.getD, e1]]
      exact e2
    · obtain ⟨b, kk, e1, e2, e3, e4⟩ := hpr j key v e
      exact ⟨kk, e3, e4⟩
    · have hm : (s.heap.objs.size == sysModules) = false := beq_eq_false_iff_ne.mpr (Nat.ne_of_gt I.big)
      have hlen : (mergeK [] kvs).length ≤ sizeLine := by
        refine Nat.le_trans (length_mergeK kvs []) ?_
        rw [List.length_nil, Nat.zero_add, rel.length, hl]
        exact hz
      have hd2 : h'.DictOf (mixKind X.prog X.w) s.heap.objs.size (merged [] prs) := hd'
      exact ⟨.ref s.heap.objs.size, upd H s.heap.objs.size (.dK (mergeK [] kvs)), I.laid (t' := tk) (fun b o e => k b o (by simp) e) (Nat.le_refl _) ⟨hlen, hm, merged [] prs, KV.merge rel .nil, hd2⟩, rfl, q _ (I.hok.fresh (Nat.le_refl _))⟩
theorem parS_rp {K : PySem.W.Frag} {F H : Hp} (sm : Same F H) : ∀ {vs : List V} {ds : List Dt} {kvs : List (Str × Dt)}, RpAll K F vs ds → parS ds = some kvs → ∃ (ps : List Addr) (vk : List (Key × V)), vs = ps.map V.ref ∧ Paired (fun p kv => SqT K H p [kV kv.1, kv.2]) ps vk ∧ KvR K F vk kvs
  | _, [], kvs, h, e => by cases h; cases e; exact ⟨[], [], rfl, .nil, trivial⟩
  | _, d :: ds, kvs, h, e => by
    unfold parS at e
    split at e
    · rename_i heq; cases heq
    · rename_i k d' r heq
      cases heq
      obtain ⟨l, e1, e2⟩ := Option.map_eq_some_iff.mp e
      subst e2
      cases h with
      | cons h1 h2 =>
        obtain ⟨ps, vk, a1, a2, a3⟩ := parS_rp sm h2 e1
        cases h1 with
        | @tup a xs _ t r =>
          cases r with
          | @cons v1 vs1 _ _ r1 r2 =>
            cases r2 with
            | @cons v2 vs2 _ _ r2 r3 =>
              cases r3
              cases r1
              exact ⟨a :: ps, (Sum.inr k, v2) :: vk, by rw [a1]; rfl, .cons (seqT_same sm t).sq a2, rfl, r2, a3⟩
    · cases e
def dicOf : Dt → Option (List (Str × Dt))
  | .list ds => parS ds
  | .tuple ds => parS ds
  | _ => none
def kDict (t : DTa) : DT := fun env Q => t env fun evs env1 => wr (rsL env1 evs) fun ds => match ds with
  | [d] => wr (dicOf d) fun kvs => Q (.new (.dic (mergeS [] kvs))) env1
  | _ => False
theorem de_dict {e : Expr} {p : Pos} {t : DTa} (hc : X.calm = true) (hg : Gl X "dict") (hm : X.mg "dict" = none) (ha : DA X [e] t)
    (he : starEach [e] X.env = [(false, eval e X.env)] := by rfl) : DE X (.Call (.Name "dict" p) [e] [] pos) (kDict t) := by
  refine ⟨fun env Q Q' i q => ha.mono _ _ _ (fun evs env1 q => wr_mono (fun ds q => ?_) q) q, (pe_callTy (call_dictF hc) hg hm (by decide +kernel) ha.run (by decide) (by decide) he (by rfl)).mono fun σ H Q => ?_⟩
  · revert q
    dsimp only
    split
    · exact fun q => wr_mono (fun xs q => i _ _ q) q
    · exact fun q => q
  · rintro ⟨F, env, R, q⟩
    refine ⟨F, env, R, ha.mono _ _ _ (fun evs env1 h1 F1 H1 vs E1 R1 V1 => ?_) q⟩
    obtain ⟨ds, e1, h2⟩ := wr_get h1
    dsimp only at h2
    split at h2
    · rename_i d
      obtain ⟨kvs, e2, h2⟩ := wr_get h2
      have tv := tpA_of R1 V1 e1
      have fin : ∀ (vk : List (Key × V)) (l : Addr), KvR X.K F1 vk kvs → H1 l = none → Q (.ref l) (upd H1 l (.dK (mergeK [] vk))) := fun vk l r hl => by
        obtain ⟨R2, E2⟩ := R1.growN hl (.dK (mergeK [] vk))
        refine h2 F1 _ (.ref l) (E1.trans E2) R2 ⟨l, rfl, R1.fnone hl, ⟨_, upd_same, kvR_merge r trivial⟩, R1.not_ow hl, ?_⟩
        cases e : H l with
        | none => rfl
        | some u =>
          obtain ⟨u', z⟩ := E1.there l u e
          rw [hl] at z; cases z
      cases tv with
      | cons h t =>
        cases t
        cases h with
        | lst h r =>
          obtain ⟨ps, vk, a1, a2, a3⟩ := parS_rp R1.sub r e2
          subst a1
          exact ⟨_, ps, vk, rfl, .inl h, a2, fun l hl => fin vk l a3 hl⟩
        | tup h r =>
          obtain ⟨ps, vk, a1, a2, a3⟩ := parS_rp R1.sub r e2
          subst a1
          exact ⟨_, ps, vk, rfl, .inr (seqT_same R1.sub h), a2, fun l hl => fin vk l a3 hl⟩
        | _ => cases e2
    · exact h2.elim
def kSortD (i : Nat) : DTl := fun env Q => gD env i fun kvs => kvs.length < 64 ∧ ∀ ys : List Str, ys.Perm (kvs.map (·.1)) → PyProof.Rows.sortedS ys = true → Q (ys.map PyData.str) env
theorem dl_sortD (i : Nat) {x : Str} {p q : Pos} (hc : X.calm = true) (hg : Gl X "sorted") (hm : X.mg "sorted" = none) (hN : X.N[i]? = some x := by rfl) (hv : Vis X.env.scope x := by first | exact Or.inl rfl | exact Or.inr (Or.inl rfl) | exact Or.inr (Or.inr rfl)) (hd : (x == ("__debug__" : Str)) = false := by decide) (hcd : (x == ("__classdict__" : Str)) = false := by decide) :
    DL X (.Call (.Name "sorted" p) [.Name x q] [] pos) (kSortD i) := by
  refine ⟨fun env Q Q' m h => gD_mono (fun kvs h => ⟨h.1, fun ys a b => m _ _ (h.2 ys a b)⟩) h, (pe_callB (call_sortedD hc) hg hm (by decide +kernel) (pa_cons (pe_var hN hv hd hcd) pa_nil (by rfl)) (by decide) (by decide) (by rfl) (by rfl)).mono fun σ H Q => ?_⟩
  rintro ⟨F, env, R, h⟩
  obtain ⟨kvs, e0, hz, h⟩ := gD_get h
  obtain ⟨v0, es, a0, ev0, hf0, vs0, hp0, rk⟩ := R.val i _ e0
  subst ev0
  refine ⟨_, es, a0, vs0, kvs.map (·.1), rfl, .inl hp0, kvR_keys rk, by simpa using hz, fun ys l pm so hl => ?_⟩
  obtain ⟨R2, E2⟩ := R.growN hl (.lst (ys.map V.str))
  refine h ys pm so F _ l _ E2 R2 (R.fnone hl) upd_same ?_ (R.not_ow hl) hl
  clear h so pm R2 E2
  induction ys with
  | nil => exact .nil
  | cons y ys ih => exact .cons (.str y) ih
end
open PySem PySem.Spec L2

section
open RZ
variable {X : Cx} {n : Nat} {pos : Pos}
def zipD (xs ys : List Dt) : List Dt := List.zipWith (fun x y => PyData.tuple [x, y]) xs ys
theorem zipD_at {xs ys : List Dt} {i : Nat} {d : Dt} (h : (zipD xs ys)[i]? = some d) : ∃ x y, xs[i]? = some x ∧ ys[i]? = some y ∧ d = .tuple [x, y] := by
  unfold zipD at h
  rw [List.getElem?_zipWith] at h
  split at h
  · rename_i x y e1 e2
    exact ⟨x, y, e1, e2, (Option.some.inj h).symm⟩
  · cases h
theorem wk_zipT {K : PySem.W.Frag} {F : Hp} {a b : Addr} {vs us : List V} {xs ys : List Dt} (h1 : TuA K F a vs) (r1 : RpAll K F vs xs) (h2 : TuA K F b us) (r2 : RpAll K F us ys) : Wk (PrR K) (ItzT K a b) F (zipD xs ys) := by
  intro i F' H s1 s2
  have q1 : SqT K H a vs := (seqT_same s2 (seqT_same s1 h1)).sq
  have q2 : SqT K H b us := (seqT_same s2 (seqT_same s1 h2)).sq
  refine ⟨fun d e => ?_, fun hl => ⟨vs, us, q1, q2, ?_⟩⟩
  · obtain ⟨x, y, e1, e2, rfl⟩ := zipD_at e
    obtain ⟨v, e3, e4⟩ := r1.get e1
    obtain ⟨u, e5, e6⟩ := r2.get e2
    refine ⟨⟨vs, us, v, u, q1, q2, e3, e5⟩, fun w H' yl => ?_⟩
    obtain ⟨T, v', u', ew, hT, eH, g1, g2⟩ := yl
    have z1 := g1 vs q1
    have z2 := g2 us q2
    rw [e3] at z1; cases z1
    rw [e5] at z2; cases z2
    subst ew eH
    exact .inr ⟨T, _, hT, nb_tup, rfl, T, _, _, rfl, upd_same, .cons (dp_same s1 e4) (.cons (dp_same s1 e6) .nil), rfl⟩
  · unfold zipD at hl
    rw [List.length_zipWith] at hl
    rw [r1.length, r2.length]
    omega
theorem wk_zipL {K : PySem.W.Frag} {F : Hp} {a b : Addr} {vs us : List V} {xs ys : List Dt} (h1 : F a = some (.lst vs)) (r1 : RpAll K F vs xs) (h2 : F b = some (.lst us)) (r2 : RpAll K F us ys) : Wk (PrR K) (Itz K a b) F (zipD xs ys) := by
  intro i F' H s1 s2
  have q1 : SqL K H a vs := SqL.of (s2 _ _ (s1 _ _ h1))
  have q2 : SqL K H b us := SqL.of (s2 _ _ (s1 _ _ h2))
  refine ⟨fun d e => ?_, fun hl => ⟨vs, us, q1, q2, ?_⟩⟩
  · obtain ⟨x, y, e1, e2, rfl⟩ := zipD_at e
    obtain ⟨v, e3, e4⟩ := r1.get e1
    obtain ⟨u, e5, e6⟩ := r2.get e2
    refine ⟨⟨vs, us, v, u, q1, q2, e3, e5⟩, fun w H' yl => ?_⟩
    obtain ⟨T, v', u', ew, hT, eH, g1, g2⟩ := yl
    have z1 := g1 vs q1
    have z2 := g2 us q2
    rw [e3] at z1; cases z1
    rw [e5] at z2; cases z2
    subst ew eH
    exact .inr ⟨T, _, hT, nb_tup, rfl, T, _, _, rfl, upd_same, .cons (dp_same s1 e4) (.cons (dp_same s1 e6) .nil), rfl⟩
  · unfold zipD at hl
    rw [List.length_zipWith] at hl
    rw [r1.length, r2.length]
    omega
def iZp (ta : DTa) : DTl := fun env Q => ta env fun evs env1 => asD evs fun ds => match ds with
  | [.tuple xs, .tuple ys] => Q (zipD xs ys) env1
  | [.list xs, .list ys] => Q (zipD xs ys) env1
  | _ => False
theorem di_zip {e e2 : Expr} {ta : DTa} {p tpos : Pos} {elts : List Expr} {kk : Nat} (hg : Gl X "zip") (hm : X.mg "zip" = none) (ha : DA X [e, e2] ta)
    (hs : starEach [e, e2] X.env = (false, eval e X.env) :: starEach [e2] X.env := by rfl) (hpl : (backTo pos (starEach [e2] X.env)).any (·.1) = false := by rfl) :
    DI X (PrR X.K) (.Tuple elts kk tpos) (.Call (.Name "zip" p) [e, e2] [] pos) (iZp ta) := by
  refine ⟨fun env Q Q' i q => ha.mono _ _ _ (fun ev env1 q => asD_mono (fun d q => ?_) q) q, (pi_zipA hg hm ha.run hs hpl).mono fun σ H Q => ?_⟩
  · revert q
    dsimp only
    split
    · exact fun q => i _ _ q
    · exact fun q => i _ _ q
    · exact fun q => q
  · rintro ⟨F, env, R, q⟩
    refine ⟨F, env, R, ha.mono _ _ _ (fun evs env1 q F1 H1 vs E1 R1 V1 => ?_) q⟩
    obtain ⟨ds, rfl, q'⟩ := asD_get q
    replace q := q'
    have a := V1.dats
    dsimp only at q
    split at q
    · cases a with
      | cons a1 a =>
        cases a with
        | cons a2 a =>
          cases a
          cases a1 with
          | tup t1 r1 =>
            cases a2 with
            | tup t2 r2 => exact ⟨_, _, _, _, rfl, .inr ⟨(seqT_same R1.sub t1).sq, (seqT_same R1.sub t2).sq, q F1 H1 _ E1 R1 (wk_zipT t1 r1 t2 r2)⟩⟩
    · cases a with
      | cons a1 a =>
        cases a with
        | cons a2 a =>
          cases a
          cases a1 with
          | lst t1 r1 =>
            cases a2 with
            | lst t2 r2 => exact ⟨_, _, _, _, rfl, .inl ⟨SqL.of (R1.sub _ _ t1), SqL.of (R1.sub _ _ t2), q F1 H1 _ E1 R1 (wk_zipL t1 r1 t2 r2)⟩⟩
    · exact q.elim

abbrev DTp := Dn → (List (Str × Dt) → Dn → Prop) → Prop
def tDp (K : PySem.W.Frag) (t : DTp) (σ : L2.St) (H : Hp) (Q : List (V × V) → Hp → Prop) : Prop := ∃ F env, Rep K F H σ env ∧ t env fun kvs env' => ∀ F' H' (vs : List (Key × V)), Ext σ env F H σ env' F' H' → Rep K F' H' σ env' → KvR K F' vs kvs → Q (vs.map fun kv => (kV kv.1, kv.2)) H'
structure DPs (X : Cx) (pos : Pos) (keys : List (Option Expr)) (values : List Expr) (t : DTp) : Prop where
  mono : ∀ env (Q Q' : List (Str × Dt) → Dn → Prop), (∀ a b, Q a b → Q' a b) → t env Q → t env Q'
  run : ∃ trs, PPs X pos keys values trs ∧ ∀ σ H Q, tDp X.K t σ H Q → tPairs trs σ H Q
def pNil : DTp := fun env Q => Q [] env
def pCons (k : Str) (tv : DT) (u : DTp) : DTp := fun env Q => tv env fun ev env1 => as1 ev fun d => u env1 fun kvs env2 => Q ((k, d) :: kvs) env2
theorem dp_nil : DPs X pos [] [] pNil := ⟨fun _ _ _ i h => i _ _ h, [], pps_nil, fun σ H Q => by
  rintro ⟨F, env, R, q⟩
  exact q F H [] Ext.refl R trivial⟩
theorem dp_cons {k : Str} {j : Nat} {kp : Pos} {v : Expr} {ks : List (Option Expr)} {vs : List Expr} {tv : DT} {u : DTp} (hv : DE X v tv) (hr : DPs X pos ks vs u) : DPs X pos (some (.Constant (.str k) j kp) :: ks) (v :: vs) (pCons k tv u) := by
  obtain ⟨trs, h1, h2⟩ := hr.run
  refine ⟨fun env Q Q' i q => hv.mono _ _ _ (fun ev env1 q => as1_mono (fun d q => hr.mono _ _ _ (fun kvs env2 q => i _ _ q) q) q) q, _, pps_cons pe_str hv.run h1, fun σ H Q => ?_⟩
  rintro ⟨F, env, R, q⟩
  show tD X.K tv σ H _
  refine ⟨F, env, R, hv.mono _ _ _ (fun ev env1 q F1 H1 v E1 R1 V1 => ?_) q⟩
  obtain ⟨d, rfl, q⟩ := as1_get q
  refine h2 σ H1 _ ⟨F1, env1, R1, hr.mono _ _ _ (fun kvs env2 q F2 H2 ws E2 R2 V2 => ?_) q⟩
  exact q F2 H2 ((Sum.inr k, v) :: ws) (E1.trans E2) R2 ⟨rfl, dp_same E2.same V1, V2⟩
def kDisp (t : DTp) : DT := fun env Q => t env fun kvs env1 => kvs.length ≤ 15 ∧ Q (.new (.dic (mergeS [] kvs))) env1
theorem de_disp {keys : List (Option Expr)} {values : List Expr} {t : DTp} (h : DPs X pos keys values t) (hall : keys.all (·.isSome) = true := by rfl) (hl : keys.length = values.length := by rfl) (h0 : keys ≠ [] := by exact fun z => nomatch z) (h15 : keys.length ≤ 15 := by decide) : DE X (.Dict keys values pos) (kDisp t) := by
  obtain ⟨trs, h1, h2⟩ := h.run
  refine ⟨fun env Q Q' i q => h.mono _ _ _ (fun kvs env1 q => ⟨q.1, i _ _ q.2⟩) q, (pe_disp h1 hall hl h0 h15).mono fun σ H Q => ?_⟩
  rintro ⟨F, env, R, q⟩ p hp
  obtain ⟨R0, E0⟩ := R.growN hp (.dK [])
  have no := R.not_ow hp
  have hf := R.fnone hp
  refine h2 σ _ _ ⟨F, env, R0, h.mono _ _ _ (fun kvs env1 q F1 H1 vs E1 R1 V1 => ?_) q⟩
  have hp1 : H1 p = some (.dK []) := E1.keep p _ upd_same no nt_dK.1
  have no1 : ¬ Ow σ env1 p := fun w => by
    rcases E1.ow p w with z | z
    · exact no z
    · rw [upd_same] at z; cases z
  have hf1 : F1 p = none := by
    cases z : F1 p with
    | none => rfl
    | some u =>
      rcases E1.new p u z hf with y | y
      · rw [upd_same] at y; cases y
      · exact absurd y no
  refine ⟨hp1, vs, rfl, by rw [kvR_len V1]; exact q.1, q.2 F1 _ (.ref p) ?_ ?_ ⟨p, rfl, hf1, ⟨_, upd_same, kvR_merge V1 trivial⟩, no1, hp⟩⟩
  · have E := E0.trans E1
    refine ⟨E.same, fun a u z nz nt => ?_, fun a u z => ?_, E.new, E.ow, fun P t => (E.tab P t).over hp1 nt_dK nt_dK.1⟩
    · rw [upd_ne (ne_of_none z hp)]; exact E.keep a u z nz nt
    · obtain ⟨u', z'⟩ := E.there a u z
      exact ⟨u', by rw [upd_ne (ne_of_none z hp)]; exact z'⟩
  · refine ⟨fun a u z => ?_, R1.len, fun j dv ej => ?_, R1.inj⟩
    · have ne : a ≠ p := fun eq => by subst eq; rw [hf1] at z; cases z
      rw [upd_ne ne]; exact R1.sub a u z
    · obtain ⟨v, e1, e2⟩ := R1.val j dv ej
      refine ⟨v, e1, ?_⟩
      cases dv with
      | dat d => exact e2
      | inv φ => exact e2
      | tab P => exact TabF.over e2 hp1 nt_dK nt_dK.1
      | obj ob =>
        obtain ⟨a, e3, e4, e5⟩ := e2
        have ne : a ≠ p := fun eq => no1 ⟨j, ob, ej, by rw [e1, e3, eq]⟩
        exact ⟨a, e3, e4, e5.move (Same.refl _) (upd_ne ne)⟩
end

section
variable {K : PySem.W.Frag} {F H : Hp} {σ : L2.St} {env : Dn} {i : Nat} {P : List (Str × Dt) → Prop}
theorem Rep.swap {o o' : Ob} (R : Rep K F H σ env) (e : env[i]? = some (some (.obj o))) (h : ∀ p, RepO K F H p o → RepO K F H p o') : Rep K F H σ (env.set i (some (.obj o'))) := by
  refine ⟨R.sub, by rw [List.length_set]; exact R.len, fun j dv q => ?_, fun j k ob ob' p h1 h2 h3 h4 => ?_⟩
  · rcases set_get q with ⟨rfl, q, _⟩ | ⟨_, q⟩
    · cases q
      obtain ⟨v, e1, p, e2, e3, e4⟩ := R.val j _ e
      exact ⟨v, e1, p, e2, e3, h p e4⟩
    · exact R.val j dv q
  · have key : ∀ (m : Nat) (b : Ob), (env.set i (some (.obj o')))[m]? = some (some (.obj b)) → ∃ b', env[m]? = some (some (.obj b')) := fun m b q => by
      rcases set_get q with ⟨rfl, _, _⟩ | ⟨_, q⟩
      · exact ⟨o, e⟩
      · exact ⟨b, q⟩
    obtain ⟨b1, q1⟩ := key j ob h1
    obtain ⟨b2, q2⟩ := key k ob' h2
    exact R.inj j k b1 b2 p q1 q2 h3 h4
theorem Rep.open (R : Rep K F H σ env) (e : env[i]? = some (some (.obj (.hid P)))) : ∃ kvs, P kvs ∧ Rep K F H σ (env.set i (some (.obj (.dic kvs)))) := by
  obtain ⟨v, e1, p, e2, e3, kvs, vs, hP, hp, r⟩ := R.val i _ e
  subst e2
  refine ⟨kvs, hP, R.sub, by rw [List.length_set]; exact R.len, fun j dv q => ?_, fun j k ob ob' a h1 h2 h3 h4 => ?_⟩
  · rcases set_get q with ⟨rfl, q, _⟩ | ⟨_, q⟩
    · cases q
      exact ⟨_, e1, p, rfl, e3, vs, hp, r⟩
    · exact R.val j dv q
  · have key : ∀ (m : Nat) (b : Ob), (env.set i (some (.obj (.dic kvs))))[m]? = some (some (.obj b)) → ∃ b', env[m]? = some (some (.obj b')) := fun m b q => by
      rcases set_get q with ⟨rfl, _, _⟩ | ⟨_, q⟩
      · exact ⟨_, e⟩
      · exact ⟨b, q⟩
    obtain ⟨b1, q1⟩ := key j ob h1
    obtain ⟨b2, q2⟩ := key k ob' h2
    exact R.inj j k b1 b2 a q1 q2 h3 h4
theorem ow_set_obj {o o' : Ob} (e : env[i]? = some (some (.obj o))) (a : Addr) : Ow σ (env.set i (some (.obj o'))) a ↔ Ow σ env a := by
  constructor
  · rintro ⟨m, b, q, h⟩
    rcases set_get q with ⟨rfl, _, _⟩ | ⟨_, q⟩
    · exact ⟨m, o, e, h⟩
    · exact ⟨m, b, q, h⟩
  · rintro ⟨m, b, q, h⟩
    by_cases z : m = i
    · subst z
      exact ⟨m, o', by rw [List.getElem?_set_self (List.getElem?_eq_some_iff.mp e).1], h⟩
    · exact ⟨m, b, by rw [List.getElem?_set_ne (Ne.symm z)]; exact q, h⟩
end
/-- the first parameter is such a dict, at the entry and at the end -/
def spHid (P : List (Str × Dt) → Prop) (sp : DSp) : DSp := fun as Q => ∃ r, as = .obj (.hid P) :: r ∧ ∀ kvs, P kvs → sp (.obj (.dic kvs) :: r) fun rv outs => ∃ kvs' o', outs = some (.obj (.dic kvs')) :: o' ∧ P kvs' ∧ Q rv (some (.obj (.hid P)) :: o')
theorem fng_hid {Pr : Program} {w : World} {K : PySem.W.Frag} {mg : Str → Option Value} {base : Heap} {k : Nat} {f : Addr} {fd : FuncData} {ps : List Str} {sp : DSp} (P : List (Str × Dt) → Prop) (G : FnG Pr w K mg base k f fd ps sp) : FnG Pr w K mg base k f fd ps (spHid P sp) := by
  refine ⟨fun as Q Q' i ⟨r, e, h⟩ => ⟨r, e, fun kvs hP => G.mono _ _ _ (fun rv outs ⟨k', o', a, b, c⟩ => ⟨k', o', a, b, i _ _ c⟩) (h kvs hP)⟩, ?_⟩
  intro A outer s H args us vs Q hr hg e0 hb r hl hsp
  obtain ⟨F, as, R, ar, rfl, h⟩ := hsp
  have e : ((Dv.obj (.hid P) :: ar).map some)[0]? = some (some (.obj (.hid P))) := rfl
  obtain ⟨kvs, hP, R1⟩ := R.open e
  have R1' : Rep K F H (vs.map some) ((Dv.obj (.dic kvs) :: ar).map some) := R1
  refine G.run A outer s H args us vs Q hr hg e0 hb r hl ⟨F, _, R1', G.mono _ _ _ (fun rv outs ⟨k', o', a, b, c⟩ F' H' v E' R' V' => ?_) (h kvs hP)⟩
  subst a
  have e1 : (some (Dv.obj (.dic k')) :: o')[0]? = some (some (.obj (.dic k'))) := rfl
  have R2 : Rep K F' H' (vs.map some) (some (.obj (.hid P)) :: o') := R'.swap (o' := .hid P) e1 fun p ⟨ws, q1, q2⟩ => ⟨k', ws, b, q1, q2⟩
  have o1 : ∀ a, Ow (vs.map some) ((Dv.obj (.dic kvs) :: ar).map some) a ↔ Ow (vs.map some) ((Dv.obj (.hid P) :: ar).map some) a := fun a => ow_set_obj (o' := .dic kvs) e a
  have o2 : ∀ a, Ow (vs.map some) (some (.obj (.hid P)) :: o') a ↔ Ow (vs.map some) (some (.obj (.dic k')) :: o') a := fun a => ow_set_obj (o' := .hid P) e1 a
  refine c F' H' v ⟨E'.same, fun a u z nz => E'.keep a u z (fun w => nz ((o1 a).mp w)), E'.there, fun a u z nz => (E'.new a u z nz).imp id (o1 a).mp, fun a w => (E'.ow a ((o2 a).mp w)).imp (o1 a).mp id, E'.tab⟩ R2 ?_
  cases rv with
  | dat d => exact V'
  | inv φ => exact V'
  | tab P => obtain ⟨_, _, z⟩ := V'; exact z.elim
  | obj ob =>
    obtain ⟨p, q1, q2, q3, q4, q5⟩ := V'
    exact ⟨p, q1, q2, q3, fun w => q4 ((o2 p).mp w), q5⟩
open PySem PySem.Spec L2

/-- the law's def, called with the script, gives True -/
def LawRun (P : Program) (w : World) (K : PySem.W.Frag) (mg : Str → Option Value) (base : Heap) (fa : Addr) (most : Nat) : Prop :=
  ∀ (s : Shared) (H : Hp) (a : Addr) (ns : List Int), ns.length ≤ most → Env0 P w K mg base callerA [] s H → SqL K H a (ns.map V.int) →
    codeAny (model P w) callerA (.call (.ref fa) ⟨[.ref a], []⟩) (CR CX0 [] P w H s (fun v _ => v = .bl true) E0) s
theorem law_entry {P : Program} {w : World} {K : PySem.W.Frag} {mg mb : Str → Option Value} {fa a : Addr} {s : Shared} {vs : List Value} {ns : List Int} {most : Nat}
    (KX : K.In s.heap) (hns : s.heap.Ns mainGlobals mg) (hb : s.heap.Ns builtinsNs mb) (hbb : ∀ x : Str, x ≠ "__name__" → mb x = bootBuiltins x) (hlim : s.heap.NoLimit) (hg : s.gens = #[])
    (ha : s.heap.get? a = some { cls := .type "list", data := .seq vs.toArray }) (hi : PyProof.Rows.IntsAre vs ns) (hm : ns.length ≤ most) (hl : ns.length ≤ sizeLine)
    (run : ∀ base : Heap, K.In base → base.Ns mainGlobals mg → LawRun P w K mg base fa most) :
    codeAny (model P w) callerA (.call (.ref fa) ⟨[.ref a], []⟩) (fun r s' => r = .ok (.ret (.bool true)) ∧ OldK s.heap s'.heap ∧ s'.os = s.os ∧ PyProof.Rows.AllBare s'.gens) s := by
  have rv := vals_ints hi
  -- the script's place is told, unless it is one of the module's own things
  let H : Hp := fun b => if b = a ∧ K.lookup a = none then some (.frz { cls := .type "list", data := .seq vs.toArray } (.lst (ns.map V.int))) else none
  have Hat : ∀ b u, H b = some u → b = a ∧ K.lookup a = none ∧ u = .frz { cls := .type "list", data := .seq vs.toArray } (.lst (ns.map V.int)) := by
    intro b u e
    by_cases c : b = a ∧ K.lookup a = none
    · have e' : some _ = some u := (if_pos c).symm.trans e
      exact ⟨c.1, c.2, (Option.some.inj e').symm⟩
    · have e' : none = some u := (if_neg c).symm.trans e
      cases e'
  have okS : ObjOk P w H s.heap a (.lst (ns.map V.int)) := ⟨by rw [List.length_map]; exact hl, vs, _, rv, ha⟩
  have hok : HOk P w H s.heap := by
    intro b u e
    obtain ⟨rfl, _, rfl⟩ := Hat b u e
    exact ⟨ha, okS⟩
  have hS : SqL K H a (ns.map V.int) := by
    cases hk : K.lookup a with
    | none => exact .inl (.inr ⟨_, if_pos ⟨rfl, hk⟩⟩)
    | some o =>
      have e := KX a o hk
      rw [ha] at e
      cases e
      refine .inr ⟨_, vs.toArray, _, hk, rfl, rfl, rfl, ?_, by simpa using rv⟩
      rw [List.size_toArray, hi.length]
      exact hl
  -- what is not told stays in the base
  have hid : ∀ {b : Addr} {o : Obj}, s.heap.get? b = some o → b ≠ a → (hidT s.heap H).get? b = some o := by
    intro b o e ne
    refine hidT_get e ?_
    cases q : H b with
    | none => rfl
    | some u => exact absurd (Hat b u q).1 ne
  have nsOk : ∀ {b : Addr} {m : Str → Option Value}, s.heap.Ns b m → (hidT s.heap H).Ns b m := by
    rintro b m ⟨o, es, ep, e, d, r⟩
    refine ⟨o, es, ep, hid e ?_, d, r⟩
    rintro rfl
    rw [ha] at e; cases e
    have d' : Data.seq vs.toArray _ = Data.dict es ep := d
    cases d'
  have hKb : K.In (hidT s.heap H) := by
    intro b o e
    refine hidT_get (KX b o e) ?_
    cases q : H b with
    | none => rfl
    | some u =>
      obtain ⟨rfl, z, _⟩ := Hat b u q
      rw [z] at e; cases e
  have hM : Mod K mg (hidT s.heap H) := by
    obtain ⟨mc, h1, h2⟩ := hlim
    exact ⟨hKb, nsOk hns, ⟨mb, nsOk hb, hbb⟩, mc, nsOk h1, h2⟩
  have e0 : Env0 P w K mg (hidT s.heap H) callerA [] s H := by
    refine ⟨rfl, hM, fun b o e => of_hidT e, Nat.le_of_eq (hidT_size _ _), trivial, fun b z => ?_, hok, .of_eq hg⟩
    cases z
  refine codeAny_mono (run _ hKb (nsOk hns) s H a ns hm e0 hS) ?_
  intro r s' h
  cases r with
  | error e => exact (show False from h).elim
  | ok fl =>
    cases fl with
    | next => exact (show False from h).elim
    | brk => exact (show False from h).elim
    | cont => exact (show False from h).elim
    | ret u =>
      obtain ⟨v, H', os, bare, un, hok', r', rfl⟩ := h
      obtain rfl : u = Value.bool true := r'
      refine ⟨rfl, OldK.of_keep fun b o e => ?_, os, bare⟩
      cases q : H b with
      | none => exact un.keep b o e q (fun z => nomatch z) (fun z => nomatch z)
      | some x =>
        obtain ⟨rfl, _, rfl⟩ := Hat b x q
        obtain ⟨z1, _⟩ := hok' _ _ (un.frzs _ _ _ q)
        rw [ha] at e; cases e
        exact z1
theorem walk_law {l : PySem.W.OpenLaw} {n : Nat} {q : Program} {loose : List Str} {XP : (Str → Option Value) → Heap → Prop} {YP : World → Heap → Prop} {d : DefRec} {K : Params → PySem.W.Frag}
    (hn : l.most = some n) (hn2 : n ≤ sizeLine) (hdf : d.params.defaults = []) (hY : ∀ (w : World) (h : Heap), YP w h → (K w.params).In h)
    (F : ∀ (w : World) (mg : Str → Option Value) (fa : Addr) (h : Heap), (K w.params).In h → h.Ns mainGlobals mg → mg d.name = some (.ref fa) → ∀ base : Heap, (K w.params).In base → base.Ns mainGlobals mg → LawRun l.prog w (K w.params) mg base fa n) :
    PySem.W.WalkO q loose XP YP l.row.toRowW d [] (fun f vs => PySem.call f vs) := by
  apply Att.attach_call hn hdf
  intro w s0 s1 mg mb fa o pm cd doc a vs ns G Y ho hd hcd hmg hobj hints hlen hg
  have KX := hY w _ Y
  exact law_entry KX G.T.g G.T.b G.T.builtins G.T.nolimit hg hobj hints hlen (Nat.le_trans hlen hn2) (F w mg fa _ KX G.T.g hmg)
open PySem PySem.Spec L2

section
variable {X : Cx} {n : Nat} {pos : Pos} {i : Nat} {y : Str} {py spos : Pos} {elt tg iter : Expr} {ifs : List Expr} {scope : Scope} {rel : IR} {ti : DTl} {g : DTg} {tt : DTb} {te : DT}
theorem dl_lc (n : Nat) (own : List (Str × Nat)) (hc : X.calm = true) (hN : X.N.Nodup) (hi : DI X rel tg iter ti) (ok : BlkOk X.N X.env.scope scope own)
    (hg : ∀ (s : Shared) (H : Hp) (C : Addr) (cl : List (Str × Addr)) (fp : List Addr), DG (X.blk s H scope (compEnvC scope cl C X.env) fp) n (own.map (·.2)) rel tg g) (ht : ∀ (s : Shared) (H : Hp) (C : Addr) (cl : List (Str × Addr)) (fp : List Addr), DTs (X.blk s H scope (compEnvC scope cl C X.env) fp) ifs tt)
    (he : ∀ (s : Shared) (H : Hp) (C : Addr) (cl : List (Str × Addr)) (fp : List Addr), DE (X.blk s H scope (compEnvC scope cl C X.env) fp) elt te)
    (hs : ∀ x, foldedSetIterable iter X.env x = pure x := by intro _; rfl) : DL X (.ListComp elt [⟨tg, iter, ifs, 0⟩] scope pos) (kComp (own.map (·.2)) ti g tt te) :=
  dl_comp hc hN hi ok hg ht he (hg X.s_0 X.H_0 0 [] []).mono (ht X.s_0 X.H_0 0 [] []).mono (he X.s_0 X.H_0 0 [] []).mono hs
theorem ds_lcF (own : List (Str × Nat)) (hc : X.calm = true) (hN : X.N.Nodup) (hy : X.N[i]? = some y) (hyl : X.env.scope.names.lookup y = some .local)
    (hsw : swapsWith (.ListComp elt [⟨tg, iter, ifs, 0⟩] scope pos) (some (.Name y py)) spos.line X.env = pure true) (hi : DI X rel tg iter ti) (ok : BlkOk X.N X.env.scope scope own)
    (hg : ∀ (s : Shared) (H : Hp) (C : Addr) (cl : List (Str × Addr)) (fp : List Addr), DG (X.blk s H scope (compEnvC scope cl C X.env) fp) n (own.map (·.2)) rel tg g) (ht : ∀ (s : Shared) (H : Hp) (C : Addr) (cl : List (Str × Addr)) (fp : List Addr), DTs (X.blk s H scope (compEnvC scope cl C X.env) fp) ifs tt)
    (he : ∀ (s : Shared) (H : Hp) (C : Addr) (cl : List (Str × Addr)) (fp : List Addr), DE (X.blk s H scope (compEnvC scope cl C X.env) fp) elt te)
    (hn : n ≤ i := by decide) (hs : ∀ x, foldedSetIterable iter X.env x = pure x := by intro _; rfl) : DS X n (.Assign [.Name y py] (.ListComp elt [⟨tg, iter, ifs, 0⟩] scope pos) spos) (sSet i (kLF (kComp (own.map (·.2)) ti g tt te))) :=
  ds_setLcF hc hN hy hyl hsw hi ok hg ht he (hg X.s_0 X.H_0 0 [] []).mono (ht X.s_0 X.H_0 0 [] []).mono (he X.s_0 X.H_0 0 [] []).mono hn hs
theorem ds_lcN (own : List (Str × Nat)) (hc : X.calm = true) (hN : X.N.Nodup) (hy : X.N[i]? = some y) (hyl : X.env.scope.names.lookup y = some .local)
    (hsw : swapsWith (.ListComp elt [⟨tg, iter, ifs, 0⟩] scope pos) (some (.Name y py)) spos.line X.env = pure true) (hi : DI X rel tg iter ti) (ok : BlkOk X.N X.env.scope scope own)
    (hg : ∀ (s : Shared) (H : Hp) (C : Addr) (cl : List (Str × Addr)) (fp : List Addr), DG (X.blk s H scope (compEnvC scope cl C X.env) fp) n (own.map (·.2)) rel tg g) (ht : ∀ (s : Shared) (H : Hp) (C : Addr) (cl : List (Str × Addr)) (fp : List Addr), DTs (X.blk s H scope (compEnvC scope cl C X.env) fp) ifs tt)
    (he : ∀ (s : Shared) (H : Hp) (C : Addr) (cl : List (Str × Addr)) (fp : List Addr), DE (X.blk s H scope (compEnvC scope cl C X.env) fp) elt te)
    (hn : n ≤ i := by decide) (hs : ∀ x, foldedSetIterable iter X.env x = pure x := by intro _; rfl) : DS X n (.Assign [.Name y py] (.ListComp elt [⟨tg, iter, ifs, 0⟩] scope pos) spos) (sSet i (kLN (kComp (own.map (·.2)) ti g tt te))) :=
  ds_setLcN hc hN hy hyl hsw hi ok hg ht he (hg X.s_0 X.H_0 0 [] []).mono (ht X.s_0 X.H_0 0 [] []).mono (he X.s_0 X.H_0 0 [] []).mono hn hs
end

theorem kit_int (d : Dt) : kitB (tyN d) "int" = some (isIntD d) := by
  cases d
  · show kitB "NoneType" "int" = some false; decide +kernel
  · show kitB "bool" "int" = some true; decide +kernel
  · show kitB "int" "int" = some true; decide +kernel
  · show kitB "str" "int" = some false; decide +kernel
  · show kitB "list" "int" = some false; decide +kernel
  · show kitB "tuple" "int" = some false; decide +kernel
  · show kitB "dict" "int" = some false; decide +kernel
theorem kit_bool (d : Dt) : kitB (tyN d) "bool" = some (isBlD d) := by
  cases d
  · show kitB "NoneType" "bool" = some false; decide +kernel
  · show kitB "bool" "bool" = some true; decide +kernel
  · show kitB "int" "bool" = some false; decide +kernel
  · show kitB "str" "bool" = some false; decide +kernel
  · show kitB "list" "bool" = some false; decide +kernel
  · show kitB "tuple" "bool" = some false; decide +kernel
  · show kitB "dict" "bool" = some false; decide +kernel
theorem kit_str (d : Dt) : kitB (tyN d) "str" = some (isStrD d) := by
  cases d
  · show kitB "NoneType" "str" = some false; decide +kernel
  · show kitB "bool" "str" = some false; decide +kernel
  · show kitB "int" "str" = some false; decide +kernel
  · show kitB "str" "str" = some true; decide +kernel
  · show kitB "list" "str" = some false; decide +kernel
  · show kitB "tuple" "str" = some false; decide +kernel
  · show kitB "dict" "str" = some false; decide +kernel
theorem kit_tuple (d : Dt) : kitB (tyN d) "tuple" = some (isTupD d) := by
  cases d
  · show kitB "NoneType" "tuple" = some false; decide +kernel
  · show kitB "bool" "tuple" = some false; decide +kernel
  · show kitB "int" "tuple" = some false; decide +kernel
  · show kitB "str" "tuple" = some false; decide +kernel
  · show kitB "list" "tuple" = some false; decide +kernel
  · show kitB "tuple" "tuple" = some true; decide +kernel
  · show kitB "dict" "tuple" = some false; decide +kernel
theorem kit_list (d : Dt) : kitB (tyN d) "list" = some (isLstD d) := by
  cases d
  · show kitB "NoneType" "list" = some false; decide +kernel
  · show kitB "bool" "list" = some false; decide +kernel
  · show kitB "int" "list" = some false; decide +kernel
  · show kitB "str" "list" = some false; decide +kernel
  · show kitB "list" "list" = some true; decide +kernel
  · show kitB "tuple" "list" = some false; decide +kernel
  · show kitB "dict" "list" = some false; decide +kernel
structure FnF (K : PySem.W.Frag) (mg : Str → Option Value) (x : Str) (st : Stmt) (f : Addr) (fd : FuncData) : Prop where
  mg : mg x = some (.ref f)
  kp : PySem.W.keepIn K (.ref f) = true
  ex : ∃ (oc : Value) (od : Option Addr) (kV doc pm : Value) (an : Option Addr) (cdv ct : Value) (osl : Array (Option Value)),
    fd = PySem.W.fnOf x x (defArgs st) (defBody st) (defScope st) .none kV doc pm an cdv ct ∧ K.lookup f = some ⟨oc, od, .func fd, osl⟩ ∧ PySem.W.codeIn K cdv x = true
section
variable {P : Program} {w : World} {K : PySem.W.Frag} {mg : Str → Option Value} {base : Heap} {x : Str} {st : Stmt} {f : Addr} {fd : FuncData}
theorem FnF.ok {k n : Nat} {N ps : List Str} {sp : DSp} (F : FnF K mg x st f fd) (S : FnScope N ps (defScope st)) (mono : ∀ as (Q Q' : Dv → Dn → Prop), (∀ r o, Q r o → Q' r o) → sp as Q → sp as Q')
    (hbody : ∀ (cdv : Value) (A : Around) (outer : List Env) (s : Shared) (H : Hp) (E : XK), Room k (A.deeper (PyProof.Rows.envOfC x (defScope st) s.heap.objs.size f cdv)) → A.guards = some [] →
      ∃ t, DSs (cxOf CX0 P w K mg base N x (defScope st) f cdv A outer s H E).nox n (defBody st) t ∧ ∀ as Q, as.length = ps.length → sp as Q → t { nx := fun env => Q (.dat .none) (outP n ps.length env), rt := fun r env => Q r (outP n ps.length env) } (startD N as)) (hn : n ≤ ps.length := by decide) :
    FnG P w K mg base (k + 1) f fd ps sp := by
  obtain ⟨oc, od, kV, doc, pm, an, cdv, ct, osl, rfl, lk, hcd⟩ := F.ex
  exact fng_of lk hcd S hn mono fun A outer s H E hr hg => hbody cdv A outer s H E hr hg
theorem getP_range {α : Type} (us : List α) : getP us (List.range us.length) = us := by
  apply List.ext_getElem?
  intro i
  rw [getP_at (fun j hj => List.mem_range.mp hj)]
  by_cases h : i < us.length
  · rw [List.getElem?_range h]; rfl
  · rw [List.getElem?_eq_none (by simpa using h), List.getElem?_eq_none (by simpa using h)]; rfl
/-- every parameter by its place -/
theorem FnF.bp {ps : List Str} (F : FnF K mg x st f fd) (m : Nat) (hm : ps.length = m)
    (h : ∀ (kV doc pm : Value) (an : Option Addr) (cdv ct : Value) (us : List Value), us.length = ps.length → bindArgs (PySem.W.fnOf x x (defArgs st) (defBody st) (defScope st) .none kV doc pm an cdv ct) ⟨us, []⟩ = pure (ps.zip us)) : BindP K fd ps m [] [] (List.range m) := by
  obtain ⟨oc, od, kV, doc, pm, an, cdv, ct, osl, rfl, lk, hcd⟩ := F.ex
  subst hm
  refine ⟨⟨[], .nil, fun s us ws _ l1 l2 => ?_⟩, by simp, fun j hj => by simpa using hj, List.nodup_range⟩
  obtain rfl : ws = [] := List.length_eq_zero_iff.mp l2
  rw [List.append_nil, List.append_nil, ← l1, getP_range]
  exact .of_eq (h kV doc pm an cdv ct us l1)
/-- with keywords, all parameters given -/
theorem FnF.bk {ps ks : List Str} {nP : Nat} (F : FnF K mg x st f fd) (pick : List Nat)
    (h : ∀ (kV doc pm : Value) (an : Option Addr) (cdv ct : Value) (us ws : List Value), us.length = nP → ws.length = ks.length → bindArgs (PySem.W.fnOf x x (defArgs st) (defBody st) (defScope st) .none kV doc pm an cdv ct) ⟨us, ks.zip ws⟩ = pure (ps.zip (getP (us ++ ws) pick)))
    (hl : pick.length = ps.length := by rfl) (ht : ∀ j ∈ pick, j < nP + ks.length + 0 := by decide) (hd : pick.Nodup := by decide) : BindP K fd ps nP ks [] pick := by
  obtain ⟨oc, od, kV, doc, pm, an, cdv, ct, osl, rfl, lk, hcd⟩ := F.ex
  refine ⟨⟨[], .nil, fun s us ws _ l1 l2 => ?_⟩, hl, ht, hd⟩
  rw [List.append_nil]
  exact .of_eq (h kV doc pm an cdv ct us ws l1 l2)
end
/-- a def with keyword-only defaults -/
structure FnD (K : PySem.W.Frag) (mg : Str → Option Value) (x : Str) (st : Stmt) (f : Addr) (fd : FuncData) (kws : List (Str × V)) : Prop where
  fn : FnF K mg x st f fd
  df : ∃ D : Addr, (∃ (oc : Value) (od : Option Addr) (doc pm : Value) (an : Option Addr) (cdv ct : Value) (osl : Array (Option Value)),
    fd = PySem.W.fnOf x x (defArgs st) (defBody st) (defScope st) .none (.ref D) doc pm an cdv ct) ∧ ∀ q ∈ kws, ∃ u, PySem.W.nsIn K D q.1 = some (some u) ∧ RelV q.2 u
theorem FnD.bk {K : PySem.W.Frag} {mg : Str → Option Value} {x : Str} {st : Stmt} {f : Addr} {fd : FuncData} {kws : List (Str × V)} {ps ks : List Str} {nP : Nat} (F : FnD K mg x st f fd kws) (ms : List (Str × V)) (hms : ∀ q ∈ ms, q ∈ kws) (pick : List Nat)
    (h : ∀ (D : Addr) (doc pm : Value) (an : Option Addr) (cdv ct : Value) (us ws mv : List Value), us.length = nP → ws.length = ks.length → mv.length = ms.length → KwChain D ((ms.map (·.1)).zip mv) (bindArgs (PySem.W.fnOf x x (defArgs st) (defBody st) (defScope st) .none (.ref D) doc pm an cdv ct) ⟨us, ks.zip ws⟩) (ps.zip (getP (us ++ ws ++ mv) pick)))
    (hl : pick.length = ps.length := by rfl) (ht : ∀ j ∈ pick, j < nP + ks.length + (ms.map (·.2)).length := by decide) (hd : pick.Nodup := by decide) : BindP K fd ps nP ks (ms.map (·.2)) pick := by
  obtain ⟨D, ⟨oc, od, doc, pm, an, cdv, ct, osl, rfl⟩, hq⟩ := F.df
  obtain ⟨mv, hlm, rk, hks⟩ := kwd_vals (ms := ms) fun q hm => hq q (hms q hm)
  refine ⟨⟨mv, rk, fun s us ws X l1 l2 => ?_⟩, hl, ht, hd⟩
  exact BindsTo.of_looks fun M => KwChain.looks X hks (h D doc pm an cdv ct us ws mv l1 l2 hlm)
open PySem PySem.Spec L2
section
variable {X : Cx} {n : Nat} {pos : Pos}
def gNms (is : List Nat) : TGs := fun vs σ H Q => vs.length = is.length ∧ Q (sets is vs σ) H
theorem pgn_nil : PGs X [] (gNms []) := pgs_nil.mono fun vs σ H Q h => by
  obtain ⟨h1, h2⟩ := h
  obtain rfl : vs = [] := List.length_eq_zero_iff.mp h1
  exact ⟨rfl, h2⟩
theorem pgn_cons {i : Nat} {is : List Nat} {x : Str} {p : Pos} {es : List Expr} (hN : X.N.Nodup) (hi : X.N[i]? = some x) (hx : Loc X.env.scope x) (h : PGs X es (gNms is)) (hf : X.fn x = true ∨ X.env.scope.names.lookup x = some .local := by first | exact .inl rfl | exact .inr rfl | assumption)
    (hs : (assignEach (.Name x p :: es) X.env).map (·.2) = assign (.Name x p) X.env :: (assignEach es X.env).map (·.2) := by rfl) : PGs X (.Name x p :: es) (gNms (i :: is)) :=
  (pgs_cons (pg_name hN hi hx hf) h hs).mono fun vs σ H Q h => by
    obtain ⟨h1, h2⟩ := h
    match vs, h1, h2 with
    | v :: vs, h1, h2 => exact ⟨v, vs, rfl, by simpa using h1, h2⟩
theorem ds_parT {is : List Nat} {k : Nat} {tgs es : List Expr} {ta : DTa} {pt : Pos} {kt k2 pt2} (hc : X.calm = true) (hg : PGs X tgs (gNms is)) (ha : DA X es ta) (hn : ∀ m ∈ is, n ≤ m := by decide) (hk : is.length = k := by rfl) (hz : k ≤ 100 := by decide)
    (hl : (assignEach tgs X.env).length = k := by rfl) (hst : (assignEach tgs X.env).findIdx? (·.1) = none := by rfl)
    (hs : swapsWithSole [.Tuple tgs kt pt] (.Tuple es k2 pt2) pos.line X.env = pure false := by rfl) (hw : swappedStores [.Tuple tgs kt pt] (.Tuple es k2 pt2) X.env = pure none := by rfl)
    (h1 : (assignEach [.Tuple tgs kt pt] X.env).map (·.2) = [assign (.Tuple tgs kt pt) X.env] := by rfl) : DS X n (.Assign [.Tuple tgs kt pt] (.Tuple es k2 pt2) pos) (sPar is ta) :=
  ⟨(ps_asg (pe_tup ha.run) (pg_tup hc hg hl hst) hs hw h1).mono fun D σ H => by
    rintro ⟨F, env, E, R, q, l⟩
    refine ⟨F, env, R, ha.mono _ _ _ (fun evs env1 q F1 H1 vs E1 R1 V1 => ?_) q⟩
    have hlen : vs.length = k := by rw [V1.length, setL_len q, hk]
    obtain ⟨env', q', R2, E2⟩ := sets_ok V1 R1 (E1.s (n := n)) hn q
    have big : (100 : Nat) ≤ sizeLine := by decide
    refine ⟨by omega, fun p hp => ⟨p, vs, rfl, SqT.of upd_same, hlen, by rw [hlen, hk], ?_⟩⟩
    obtain ⟨R3, E3⟩ := R2.growN hp (.tup vs)
    exact l.nx _ _ _ _ (E2.trans E3.s) R3 q'⟩
end
open PySem PySem.Spec L2

def strGd (x : Str) : Bool := x.cps.all (· < 0x110000)
mutual
def good : Dt → Bool
  | .none | .bool _ => true
  | .int i => decide (i.natAbs < 2 ^ 1900)
  | .str x => strGd x
  | .list xs | .tuple xs => goodA xs
  | .dict _ => false
def goodA : List Dt → Bool
  | [] => true
  | x :: xs => good x && goodA xs
end
mutual
def sz : Dt → Nat
  | .none | .bool _ => 5
  | .int _ => 1901
  | .str x => 10 * x.length + 2
  | .list xs | .tuple xs => szA xs + 3
  | .dict _ => 0
def szA : List Dt → Nat
  | [] => 0
  | x :: xs => sz x + 2 + szA xs
end
mutual
theorem good_lay : ∀ d : Dt, good d = true → d.canLay0 = true
  | .none, _ => by simp only [PyData.canLay0]
  | .bool _, _ => by simp only [PyData.canLay0]
  | .int _, _ => by simp only [PyData.canLay0]
  | .str x, h => by
    simp only [good] at h
    simp only [PyData.canLay0]
    exact h
  | .list xs, h => by
    simp only [good] at h
    simp only [PyData.canLay0]
    exact goodA_lay xs h
  | .tuple xs, h => by
    simp only [good] at h
    simp only [PyData.canLay0]
    exact goodA_lay xs h
  | .dict _, h => by simp [good] at h
theorem goodA_lay : ∀ ds : List Dt, goodA ds = true → PyData.canLayAll0 ds = true
  | [], _ => by simp only [PyData.canLayAll0]
  | d :: ds, h => by
    simp only [goodA, Bool.and_eq_true] at h
    simp only [PyData.canLayAll0, Bool.and_eq_true]
    exact ⟨good_lay d h.1, goodA_lay ds h.2⟩
end
theorem log2_of {n : Nat} (h : n < 2 ^ 1900) : n.log2 < 1900 := by
  by_cases e : n = 0
  · subst e; decide
  · exact (Nat.log2_lt e).mpr h
mutual
theorem good_show : ∀ d : Dt, good d = true → d.showable = true ∧ d.shown.length ≤ sz d
  | .none, _ => ⟨by simp only [PyData.showable], by simp only [sz]; decide⟩
  | .bool b, _ => ⟨by simp only [PyData.showable], by simp only [sz]; cases b <;> decide⟩
  | .int i, h => by
    have h1 : i.natAbs < 2 ^ 1900 := by simpa [good] using h
    have h2 := log2_of h1
    refine ⟨by simp only [PyData.showable, decide_eq_true_eq]; omega, ?_⟩
    have h3 := int_text_length_le (a := i) (k := 1900) (by decide) h2
    simp only [PyData.shown, sz]
    rw [Str.ofString_eq_toList]
    have h4 : (toString i).toList.length = (toString i).length := String.length_toList
    simp only [Str.length, List.size_toArray, List.length_map]
    omega
  | .str x, h => by
    refine ⟨by simp only [PyData.showable], ?_⟩
    simp only [PyData.shown, sz]
    refine StrLaws.reprText_len x fun c hc => ?_
    have h1 : strGd x = true := by simpa only [good] using h
    unfold strGd at h1
    rw [Array.all_eq_true_iff_forall_mem] at h1
    have := of_decide_eq_true (h1 c (Array.mem_toList_iff.mp hc))
    omega
  | .list xs, h => by
    have h0 : goodA xs = true := by simpa only [good] using h
    obtain ⟨h1, h2⟩ := goodA_show xs h0
    refine ⟨by simp only [PyData.showable]; exact h1, ?_⟩
    have h3 := listText_len_le (PyData.shownAll xs)
    have h4 := PyData.shownAll_length xs
    simp only [PyData.shown, sz]
    omega
  | .tuple xs, h => by
    have h0 : goodA xs = true := by simpa only [good] using h
    obtain ⟨h1, h2⟩ := goodA_show xs h0
    refine ⟨by simp only [PyData.showable]; exact h1, ?_⟩
    have h3 := tupleText_len_le (PyData.shownAll xs)
    have h4 := PyData.shownAll_length xs
    simp only [PyData.shown, sz]
    omega
  | .dict _, h => by simp [good] at h
theorem goodA_show : ∀ ds : List Dt, goodA ds = true → PyData.showableAll ds = true ∧ ((PyData.shownAll ds).map (·.length)).sum + 2 * ds.length ≤ szA ds
  | [], _ => ⟨by simp only [PyData.showableAll], by simp [PyData.shownAll, szA]⟩
  | d :: ds, h => by
    have h0 : good d = true ∧ goodA ds = true := by simpa only [goodA, Bool.and_eq_true] using h
    obtain ⟨a1, a2⟩ := good_show d h0.1
    obtain ⟨b1, b2⟩ := goodA_show ds h0.2
    refine ⟨by simp only [PyData.showableAll, Bool.and_eq_true]; exact ⟨a1, b1⟩, ?_⟩
    simp only [PyData.shownAll, szA, List.map_cons, List.sum_cons, List.length_cons]
    omega
end
theorem shOk_of {d : Dt} (h : good d = true) (h1 : d.depth ≤ 100) (h2 : sz d ≤ 16777216) : shOk d = true := by
  obtain ⟨a, b⟩ := good_show d h
  have c := PyData.hasDict_of_canLay d (good_lay d h)
  have e : sizeLine = 16777216 := sizeLine_eq
  unfold shOk
  simp only [Bool.and_eq_true, decide_eq_true_eq, Bool.not_eq_true']
  exact ⟨⟨⟨a, c⟩, h1⟩, by omega⟩
theorem eqOk_of {d e : Dt} (h : good d = true) (h' : good e = true) (h1 : min d.depth e.depth ≤ 64) : eqOk d e = true := by
  unfold eqOk
  simp only [Bool.or_eq_true, Bool.and_eq_true, decide_eq_true_eq]
  exact .inr ⟨⟨good_lay d h, good_lay e h'⟩, h1⟩
theorem reprD_of {d : Dt} (h : good d = true) (h1 : d.depth ≤ 100) (h2 : sz d ≤ 16777216) : reprD [d] = some (.str d.shown) := by
  show (if shOk d = true then some (PyData.str d.shown) else none) = _
  rw [if_pos (shOk_of h h1 h2)]
theorem goodA_iff {ds : List Dt} : goodA ds = true ↔ ∀ d ∈ ds, good d = true := by
  induction ds with
  | nil => simp [goodA]
  | cons d ds ih => simp [goodA, ih]
theorem depthA_le {ds : List Dt} {k : Nat} (h : ∀ d ∈ ds, d.depth ≤ k) : PyData.depthAll ds ≤ k := by
  induction ds with
  | nil => simp [PyData.depthAll]
  | cons d ds ih =>
    simp only [PyData.depthAll]
    exact Nat.max_le.mpr ⟨h d (List.mem_cons_self ..), ih fun x hx => h x (List.mem_cons_of_mem _ hx)⟩
theorem szA_le {ds : List Dt} {b : Nat} (h : ∀ d ∈ ds, sz d ≤ b) : szA ds ≤ ds.length * (b + 2) := by
  induction ds with
  | nil => simp [szA]
  | cons d ds ih =>
    have h1 := h d (List.mem_cons_self ..)
    have h2 := ih fun x hx => h x (List.mem_cons_of_mem _ hx)
    simp only [szA, List.length_cons, Nat.succ_mul]
    omega
theorem eqD_str (x y : Str) : eqD (.str x) (.str y) = some (.bool (x == y)) := by
  unfold eqD eqOk strStr
  simp [PyData.eqv]
theorem neD_str (x y : Str) : neD (.str x) (.str y) = some (.bool (!(x == y))) := by
  unfold neD eqOk strStr
  simp [PyData.eqv]
theorem eqD_of {d e : Dt} (h : good d = true) (h' : good e = true) (h1 : min d.depth e.depth ≤ 64) : eqD d e = some (.bool (PyData.eqv d e)) := by
  unfold eqD
  rw [if_pos (eqOk_of h h' h1)]
theorem neD_of {d e : Dt} (h : good d = true) (h' : good e = true) (h1 : min d.depth e.depth ≤ 64) : neD d e = some (.bool (!PyData.eqv d e)) := by
  unfold neD
  rw [if_pos (eqOk_of h h' h1)]
open PySem PySem.Spec L2

def fkv (ns : List Int) (a l c : Int) : List (Str × Dt) := [("cells", .list (ns.map .int)), ("at", .int a), ("left", .int l), ("count", .int c)]
def FeedP : List (Str × Dt) → Prop := fun kvs => ∃ ns a l c, kvs = fkv ns a l c
abbrev feed : Dv := .obj (.hid FeedP)
theorem k_ca : ¬ (("cells" : Str) = "at") := by decide +kernel
theorem k_cl : ¬ (("cells" : Str) = "left") := by decide +kernel
theorem k_cc : ¬ (("cells" : Str) = "count") := by decide +kernel
theorem k_al : ¬ (("at" : Str) = "left") := by decide +kernel
theorem k_ac : ¬ (("at" : Str) = "count") := by decide +kernel
theorem k_lc : ¬ (("left" : Str) = "count") := by decide +kernel
theorem k_la : ¬ (("left" : Str) = "at") := by decide +kernel
theorem k_cta : ¬ (("count" : Str) = "at") := by decide +kernel
theorem k_ctl : ¬ (("count" : Str) = "left") := by decide +kernel
section
variable (ns : List Int) (a l c : Int) (v : Dt)
theorem f_cells : getS (fkv ns a l c) "cells" = some (.list (ns.map .int)) := by simp only [getS, fkv, List.find?_cons, decide_true, Option.map_some]
theorem f_at : getS (fkv ns a l c) "at" = some (.int a) := by simp only [getS, fkv, List.find?_cons, decide_eq_false k_ca, decide_true, Option.map_some]
theorem f_left : getS (fkv ns a l c) "left" = some (.int l) := by simp only [getS, fkv, List.find?_cons, decide_eq_false k_cl, decide_eq_false k_al, decide_true, Option.map_some]
theorem f_count : getS (fkv ns a l c) "count" = some (.int c) := by simp only [getS, fkv, List.find?_cons, decide_eq_false k_cc, decide_eq_false k_ac, decide_eq_false k_lc, decide_true, Option.map_some]
theorem p_count (c' : Int) : putS (fkv ns a l c) "count" (.int c') = fkv ns a l c' := by
  simp only [putS, fkv, List.any_cons, decide_eq_false k_cc, decide_eq_false k_ac, decide_eq_false k_lc, decide_true, Bool.false_or, Bool.true_or, if_true, List.map_cons, if_neg k_cc, if_neg k_ac, if_neg k_lc, List.map_nil]
theorem p_left (l' : Int) : putS (fkv ns a l c) "left" (.int l') = fkv ns a l' c := by
  simp only [putS, fkv, List.any_cons, decide_eq_false k_cl, decide_eq_false k_al, decide_true, Bool.false_or, Bool.true_or, if_true, List.map_cons, if_neg k_cl, if_neg k_al, if_neg k_ctl, List.map_nil]
theorem p_at (a' : Int) : putS (fkv ns a l c) "at" (.int a') = fkv ns a' l c := by
  simp only [putS, fkv, List.any_cons, decide_eq_false k_ca, decide_true, Bool.false_or, Bool.true_or, if_true, List.map_cons, if_neg k_ca, if_neg k_la, if_neg k_cta, List.map_nil]
theorem f_len : (fkv ns a l c).length = 4 := rfl
end
/-- what a draw promises, the feed's pairs told -/
def spDraw0 : DSp := fun as Q => ∃ kvs m, as = [.obj (.dic kvs), .dat (.int m)] ∧ FeedP kvs ∧ 0 < m ∧ m < 1073741824 ∧ ∀ k kvs', 0 ≤ k → k < m → FeedP kvs' → Q (.dat (.int k)) [some (.obj (.dic kvs')), some (.dat (.int m))]
/-- .. hidden: any number below m -/
def spDraw : DSp := fun as Q => ∃ m, as = [feed, .dat (.int m)] ∧ 0 < m ∧ m < 1073741824 ∧ ∀ k, 0 ≤ k → k < m → Q (.dat (.int k)) [some feed, some (.dat (.int m))]
theorem spDraw_mono : ∀ as (Q Q' : Dv → Dn → Prop), (∀ r o, Q r o → Q' r o) → spDraw as Q → spDraw as Q' := fun as Q Q' i ⟨m, e, h1, h2, h3⟩ => ⟨m, e, h1, h2, fun k a b => i _ _ (h3 k a b)⟩
theorem draw_hid {Pr : Program} {w : World} {K : PySem.W.Frag} {mg : Str → Option Value} {base : Heap} {k : Nat} {f : Addr} {fd : FuncData} {ps : List Str} (G : FnG Pr w K mg base k f fd ps spDraw0) : FnG Pr w K mg base k f fd ps spDraw :=
  (fng_hid FeedP G).imp spDraw_mono fun as Q ⟨m, e, h1, h2, h3⟩ => ⟨[.dat (.int m)], e, fun kvs hP => ⟨kvs, m, rfl, hP, h1, h2, fun k kvs' a b hP' => ⟨kvs', _, rfl, hP', h3 k a b⟩⟩⟩
theorem lay_ints (ns : List Int) : PyData.canLayAll0 (ns.map PyData.int) = true := by
  induction ns with
  | nil => simp only [List.map_nil, PyData.canLayAll0]
  | cons n ns ih => simp only [List.map_cons, PyData.canLayAll0, PyData.canLay0, ih, Bool.and_self]
theorem ne_nil_ints (ns : List Int) : neD (.list (ns.map .int)) (.list []) = some (.bool (!ns.isEmpty)) := by
  have h : eqOk (.list (ns.map .int)) (.list []) = true := by
    unfold eqOk
    simp only [PyData.canLay0, lay_ints, PyData.canLayAll0, PyData.depth, PyData.depthAll, Bool.and_self, Bool.true_and, Bool.or_eq_true, decide_eq_true_eq]
    exact .inr (decide_eq_true (Nat.le_trans (Nat.min_le_right _ (0 + 1)) (show (0 + 1 : Nat) ≤ 64 by decide)))
  unfold neD
  rw [if_pos h]
  cases ns <;> simp [PyData.eqv, PyData.eqvAll]
theorem mul_small {i j : Int} (h : -(2 ^ 64) < i ∧ i < 2 ^ 64) : mulD (.int i) (.int j) = some (.int (i * j)) := by
  show (if CMulB i j then some (PyData.int (i * j)) else none) = _
  rw [if_pos (.inl (.inl h))]
theorem mod_pos {i j : Int} (h : 0 < j) : modD (.int i) (.int j) = some (.int (i % j)) := by
  show (if 0 < j then some (PyData.int (i % j)) else none) = _
  rw [if_pos h]
theorem fdv_pos {i j : Int} (h : 0 < j ∧ j < 1073741824) : fdvD (.int i) (.int j) = some (.int (i / j)) := by
  show (if CDiv i j then some (PyData.int (i / j)) else none) = _
  rw [if_pos (show CDiv i j from h)]
theorem pow_lit {i j : Int} (h : CPow i j) : powD (.int i) (.int j) = some (.int (i ^ j.toNat)) := by
  show (if CPow i j then some (PyData.int (i ^ j.toNat)) else none) = _
  rw [if_pos h]
theorem atI_ok {α : Type} {xs : List α} {i : Int} (h0 : 0 ≤ i) (h1 : i < xs.length) : ∃ x, atI xs i = some x ∧ x ∈ xs := by
  have hl : i.toNat < xs.length := by omega
  refine ⟨xs[i.toNat], ?_, List.getElem_mem hl⟩
  unfold atI ixN
  rw [if_pos h0, if_pos h1]
  exact List.getElem?_eq_getElem hl
open PySem PySem.Spec L2

def puE (i : Nat) (v : Dv) (env : Dn) (q : Dn → Prop) : Prop := q (env.set i (some v))
def one : List Dt → (Dt → Prop) → Prop
  | [d], q => q d
  | _, _ => False
def asL : Dt → (List Dt → Prop) → Prop
  | .list ds, q => q ds
  | _, _ => False
def asI : Dt → (Int → Prop) → Prop
  | .int j, q => q j
  | _, _ => False
def zpD : List Dt → (List Dt → Prop) → Prop
  | [.tuple xs, .tuple ys], q => q (zipD xs ys)
  | [.list xs, .list ys], q => q (zipD xs ys)
  | _, _ => False

def doFn (sp : DSp) (nP nK : Nat) (dd : List Dt) (pick : List Nat) (evs kevs : List Ev) (env : Dn) (Q : Ev → Dn → Prop) : Prop := evs.length = nP ∧ kevs.length = nK ∧
  okV (getP (evs ++ kevs ++ dd.map Ev.dat) pick) = true ∧ wr (argsO env (getP (evs ++ kevs ++ dd.map Ev.dat) pick)) fun as => sp as fun r outs => Q r.ev (bkA (getP (evs ++ kevs ++ dd.map Ev.dat) pick) outs env)
/-- a function that gives data and leaves what it is handed -/
def spX {α : Type} (args : α → List Dv) (pre : α → Prop) (post : α → Dt → Prop) : DSp := fun as Q => ∃ a : α, as = args a ∧ pre a ∧ ∀ d, post a d → Q (.dat d) (as.map some)
theorem spX_mono {α : Type} (args : α → List Dv) (pre : α → Prop) (post : α → Dt → Prop) : ∀ as (Q Q' : Dv → Dn → Prop), (∀ r o, Q r o → Q' r o) → spX args pre post as Q → spX args pre post as Q' :=
  fun as Q Q' i ⟨a, e, h, q⟩ => ⟨a, e, h, fun d p => i _ _ (q d p)⟩
theorem set_same {α : Type} {env : List α} {i : Nat} {x : α} (h : env[i]? = some x) : env.set i x = env := by
  apply List.ext_getElem?
  intro j
  by_cases hj : i = j
  · subst hj
    rw [List.getElem?_set_self (List.getElem?_eq_some_iff.mp h).1, h]
  · rw [List.getElem?_set_ne hj]
theorem bkA_same : ∀ {es : List Ev} {env : Dn} {as : List Dv}, argsO env es = some as → bkA es (as.map some) env = env
  | [], env, as, h => by simp [bkA]
  | e :: es, env, as, h => by
    unfold argsO at h
    split at h
    · rename_i d ds h1 h2
      cases h
      have ih := bkA_same h2
      cases e with
      | dat d => exact ih
      | new o => exact ih
      | inv φ => exact ih
      | var i =>
        have hs : env.set i (some d) = env := by
          apply set_same
          cases ho : env[i]? with
          | none => simp only [argO, ho] at h1; cases h1
          | some o => simp only [argO, ho] at h1; rw [h1]
        show bkA es (ds.map some) (env.set i (some d)) = env
        rw [hs, ih]
    · cases h
theorem i_call {α : Type} {args : α → List Dv} {pre : α → Prop} {post : α → Dt → Prop} {nP nK : Nat} {dd : List Dt} {pick : List Nat} {evs kevs : List Ev} {env : Dn} {Q : Ev → Dn → Prop} (a : α)
    (h1 : evs.length = nP) (h2 : kevs.length = nK) (h3 : okV (getP (evs ++ kevs ++ dd.map Ev.dat) pick) = true) (h4 : argsO env (getP (evs ++ kevs ++ dd.map Ev.dat) pick) = some (args a)) (hp : pre a) (hq : ∀ d, post a d → Q (.dat d) env) :
    doFn (spX args pre post) nP nK dd pick evs kevs env Q := by
  refine ⟨h1, h2, h3, ?_⟩
  rw [h4]
  refine ⟨a, rfl, hp, fun d p => ?_⟩
  show Q (.dat d) _
  rw [bkA_same h4]
  exact hq d p
theorem fng_never {P : Program} {w : World} {K : PySem.W.Frag} {mg : Str → Option Value} {base : Heap} {k : Nat} {f : Addr} {fd : FuncData} {ps : List Str} {sp : DSp} (h : ∀ as Q, sp as Q → False) : FnG P w K mg base k f fd ps sp :=
  ⟨fun as Q Q' _ q => (h as Q q).elim, fun A outer s H args us vs Q _ _ _ _ _ _ ⟨F, as, R, q⟩ => (h _ _ q).elim⟩
/-- a draw, as a promise of this form -/
def spDr : DSp := spX (α := Int) (fun m => [feed, .dat (.int m)]) (fun m => 0 < m ∧ m < 1073741824) fun m r => ∃ k, r = .int k ∧ 0 ≤ k ∧ k < m
theorem draw_spX {Pr : Program} {w : World} {K : PySem.W.Frag} {mg : Str → Option Value} {base : Heap} {k : Nat} {f : Addr} {fd : FuncData} {ps : List Str} (G : FnG Pr w K mg base k f fd ps spDraw) : FnG Pr w K mg base k f fd ps spDr :=
  G.imp (spX_mono _ _ _) fun as Q ⟨m, e, h, q⟩ => ⟨m, e, h.1, h.2, fun k a b => by have := q (.int k) ⟨k, rfl, a, b⟩; rw [e] at this; exact this⟩
theorem i_draw {i : Nat} {m : Int} {env : Dn} {Q : Ev → Dn → Prop} (e : env[i]? = some (some feed)) (h0 : 0 < m) (h1 : m < 1073741824) (h : ∀ k, 0 ≤ k → k < m → Q (.dat (.int k)) env) : doFn spDr 2 0 [] (List.range 2) [.var i, .dat (.int m)] [] env Q := by
  refine i_call m rfl rfl rfl ?_ ⟨h0, h1⟩ ?_
  · show argsO env [.var i, .dat (.int m)] = _
    simp only [argsO, argO, e]
  · rintro d ⟨k, rfl, a, b⟩
    exact h k a b
section
variable {env env' : Dn} {Q : Ev → Dn → Prop} {Qb : Bool → Dn → Prop} {Ql : List Dt → Dn → Prop} {Qa : List Ev → Dn → Prop} {Qd : Dt → Prop} {nx bk ct : Dn → Prop} {rt : Dv → Dn → Prop} {ex : XP} {t u : DTS} {te ta tb tk tv : DT} {c c' : DTb} {tl : DTl} {tz tz' : DTa} {i : Nat} {d : Dt} {o : Ob} {E : DEnds} {g : DTg}
theorem i_seq (h : t ⟨u ⟨nx, rt, bk, ct, ex⟩, rt, bk, ct, ex⟩ env) : sSeq t u ⟨nx, rt, bk, ct, ex⟩ env := h
theorem i_nx (h : nx env) : sNx ⟨nx, rt, bk, ct, ex⟩ env := h
theorem i_brk (h : bk env) : sBk ⟨nx, rt, bk, ct, ex⟩ env := h
theorem i_cnt (h : ct env) : sCt ⟨nx, rt, bk, ct, ex⟩ env := h
theorem i_drop (h : te env fun _ env1 => nx env1) : sDrop te ⟨nx, rt, bk, ct, ex⟩ env := h
theorem i_ret (h : te env fun ev env1 => retE ev fun r => rt r env1) : sRet te ⟨nx, rt, bk, ct, ex⟩ env := h
theorem i_retN (h : rt (.dat .none) env) : sRetN ⟨nx, rt, bk, ct, ex⟩ env := h
theorem i_if (h : c env fun b env1 => if b = true then t E env1 else u E env1) : sIf c t u E env := h
theorem cut_nx (tail : nx env) (h : nx env → sIf c t u ⟨nx, rt, bk, ct, ex⟩ env) : sIf c t u ⟨nx, rt, bk, ct, ex⟩ env := h tail
theorem i_set (h : te env fun ev env1 => setE i ev env1 nx) : sSet i te ⟨nx, rt, bk, ct, ex⟩ env := h
theorem i_setD (e : env.set i (some (.dat d)) = env') (h : nx env') : setE i (.dat d) env nx := by subst e; exact h
theorem i_setN (e : env.set i (some (.obj o)) = env') (h : nx env') : setE i (.new o) env nx := by subst e; exact h
theorem i_retD {q : Dv → Prop} (h : q (.dat d)) : retE (.dat d) q := h
theorem i_retO {q : Dv → Prop} (h : q (.obj o)) : retE (.new o) q := h
theorem i_setL0 (h : nx env) : setL [] [] env nx := h
theorem i_setLD {is : List Nat} {evs : List Ev} (e : env.set i (some (.dat d)) = env') (h : setL is evs env' nx) : setL (i :: is) (.dat d :: evs) env nx := by subst e; exact h
theorem i_setLN {is : List Nat} {evs : List Ev} (e : env.set i (some (.obj o)) = env') (h : setL is evs env' nx) : setL (i :: is) (.new o :: evs) env nx := by subst e; exact h
theorem i_par {is : List Nat} (h : tz env fun evs env1 => setL is evs env1 nx) : sPar is tz ⟨nx, rt, bk, ct, ex⟩ env := h
theorem i_asg (h : te env fun ev env1 => as1 ev fun d => g d env1 nx) : sAsg te g ⟨nx, rt, bk, ct, ex⟩ env := h
theorem i_as1 (h : Qd d) : as1 (.dat d) Qd := h
theorem i_gN (e : env.set i (some (.dat d)) = env') (h : nx env') : gN i d env nx := by subst e; exact h
theorem i_gsN (h : nx env) : gsN [] env nx := h
theorem i_gsC {gs : DTgs} {ds : List Dt} (h : g d env fun env1 => gs ds env1 nx) : gsC g gs (d :: ds) env nx := h
theorem i_gT {k : Nat} {gs : DTgs} {ds : List Dt} (hk : ds.length = k) (h : gs ds env nx) : gT k gs (.tuple ds) env nx := ⟨hk, h⟩
theorem i_for (h : tl env fun ds env1 => dFor g t E ds env1) : sFor tl g t E env := h
theorem i_for0 (h : nx env) : dFor g t ⟨nx, rt, bk, ct, ex⟩ [] env := h
theorem i_for1 {ds : List Dt} (h : g d env fun env1 => t ⟨dFor g t ⟨nx, rt, bk, ct, ex⟩ ds, rt, nx, dFor g t ⟨nx, rt, bk, ct, ex⟩ ds, ex⟩ env1) : dFor g t ⟨nx, rt, bk, ct, ex⟩ (d :: ds) env := h
theorem for_ind {Inv : List Dt → Dn → Prop} (h0 : ∀ env, Inv [] env → nx env) (hs : ∀ d ds env, Inv (d :: ds) env → (∀ env', Inv ds env' → dFor g t ⟨nx, rt, bk, ct, ex⟩ ds env') → g d env fun env1 => t ⟨dFor g t ⟨nx, rt, bk, ct, ex⟩ ds, rt, nx, dFor g t ⟨nx, rt, bk, ct, ex⟩ ds, ex⟩ env1) : ∀ ds env, Inv ds env → dFor g t ⟨nx, rt, bk, ct, ex⟩ ds env
  | [], env, h => h0 env h
  | d :: ds, env, h => hs d ds env h fun env' h' => for_ind h0 hs ds env' h'
theorem i_iSeq (h : te env fun ev env1 => as1 ev fun d => wr (seqD d) fun ds => Ql ds env1) : iSeq te env Ql := h
theorem i_iRng (h : te env fun ev env1 => as1 ev fun d => asI d fun j => (-(2 ^ 62) ≤ j ∧ j < 2 ^ 62) ∧ Ql (rngL 0 j) env1) : iRng te env Ql := by
  have e : ∀ (d : Dt) (env1 : Dn), (asI d fun j => (-(2 ^ 62) ≤ j ∧ j < 2 ^ 62) ∧ Ql (rngL 0 j) env1) = (match d with | .int j => (-(2 ^ 62) ≤ j ∧ j < 2 ^ 62) ∧ Ql (rngL 0 j) env1 | _ => False) := by
    intros
    rename_i d _; cases d <;> rfl
  simp only [e] at h
  exact h
theorem i_asI {q : Int → Prop} {j : Int} (h : q j) : asI (.int j) q := h
theorem i_rng {j : Int} {p : Prop} (e : -(2 ^ 62) ≤ j ∧ j < 2 ^ 62) (h : p) : (-(2 ^ 62) ≤ j ∧ j < 2 ^ 62) ∧ p := ⟨e, h⟩
theorem i_iZp (h : tz env fun evs env1 => asD evs fun ds => zpD ds fun xs => Ql xs env1) : iZp tz env Ql := by
  have e : ∀ (ds : List Dt) (env1 : Dn), (zpD ds fun xs => Ql xs env1) = (match ds with | [.tuple xs, .tuple ys] => Ql (zipD xs ys) env1 | [.list xs, .list ys] => Ql (zipD xs ys) env1 | _ => False) := by
    intros
    rename_i ds _; unfold zpD; split <;> simp_all
  simp only [e] at h
  exact h
theorem i_C (h : Q (.dat d) env) : kC d env Q := h
theorem i_varD (e : env[i]? = some (some (.dat d))) (h : Q (.dat d) env) : kVar i env Q := by unfold kVar; rw [e]; exact h
theorem i_varO (e : env[i]? = some (some (.obj o))) (h : Q (.var i) env) : kVar i env Q := by unfold kVar; rw [e]; exact h
theorem i_nil (h : Qa [] env) : kNil env Qa := h
theorem i_cons (h : te env fun ev env1 => tz env1 fun evs env2 => Qa (ev :: evs) env2) : kCons te tz env Qa := h
theorem i_asD0 {q : List Dt → Prop} (h : q []) : asD [] q := h
theorem i_asDc {q : List Dt → Prop} {evs : List Ev} (h : asD evs fun ds => q (d :: ds)) : asD (.dat d :: evs) q := h
theorem i_lenOk {n : Nat} {p : Prop} (e : n ≤ sizeLine) (h : p) : lenOk n ∧ p := ⟨e, h⟩
theorem i_tup (h : tz env fun evs env1 => asD evs fun ds => lenOk ds.length ∧ Q (.dat (.tuple ds)) env1) : kTup tz env Q := h
theorem i_LF (h : tl env fun ds env' => Q (.dat (.list ds)) env') : kLF tl env Q := h
theorem i_LN (h : tl env fun ds env' => Q (.new (.lst ds)) env') : kLN tl env Q := h
theorem i_Lst (h : tz env fun evs env1 => asD evs fun ds => lenOk ds.length ∧ Ql ds env1) : kLst tz env Ql := h
theorem i_op {f : Dt → Dt → Option Dt} (h : ta env fun a env1 => tb env1 fun b env2 => wr (rs env2 a) fun dx => wr (rs env2 b) fun dy => wr (f dx dy) fun d => Q (.dat d) env2) : kOp f ta tb env Q := h
theorem i_un {f : Dt → Option Dt} (h : ta env fun ea env1 => wr (rs env1 ea) fun dx => wr (f dx) fun d => Q (.dat d) env1) : kUn f ta env Q := h
theorem i_rsD (h : Qd d) : wr (rs env (.dat d)) Qd := h
theorem i_rsV (e : rs env (.var i) = some d) (h : Qd d) : wr (rs env (.var i)) Qd := by rw [e]; exact h
theorem i_rsN {xs : List Dt} (h : Qd (.list xs)) : wr (rs env (.new (.lst xs))) Qd := h
theorem i_wr {α : Type} {x : Option α} {y : α} {q : α → Prop} (e : x = some y) (h : q y) : wr x q := by rw [e]; exact h
theorem i_asB {b : Bool} {q : Bool → Prop} (h : q b) : asB (.dat (.bool b)) q := h
theorem i_B (h : te env fun ev env1 => asB ev fun b => Qb b env1) : kB te env Qb := h
theorem i_andB (h : c env fun b env1 => if b = true then c' env1 Qb else Qb false env1) : kAndB c c' env Qb := h
theorem i_orB (h : c env fun b env1 => if b = true then Qb true env1 else c' env1 Qb) : kOrB c c' env Qb := h
theorem i_notB (h : c env fun b env1 => Qb (!b) env1) : kNotB c env Qb := h
theorem i_kIf (h : c env fun b env1 => if b = true then ta env1 Q else tb env1 Q) : kIf c ta tb env Q := h
theorem i_andV (h : ta env fun ev env1 => asB ev fun b => if b = true then tb env1 Q else Q (.dat (.bool false)) env1) : kAndV ta tb env Q := h
theorem i_orV (h : ta env fun ev env1 => asB ev fun b => if b = true then Q (.dat (.bool true)) env1 else tb env1 Q) : kOrV ta tb env Q := h
theorem i_notV (h : ta env fun ev env1 => asB ev fun b => Q (.dat (.bool (!b))) env1) : kNotV ta env Q := h
theorem i_iteT {p q : Prop} (h : p) : if true = true then p else q := h
theorem i_iteF {p q : Prop} (h : q) : if false = true then p else q := h
theorem i_iteN1 {p q : Prop} (h : q) : if (!true) = true then p else q := h
theorem i_iteN0 {p q : Prop} (h : p) : if (!false) = true then p else q := h
theorem i_ite {b : Bool} {p q : Prop} (h : b = true → p) (h' : b = false → q) : if b = true then p else q := by
  cases b
  · exact h' rfl
  · exact h rfl
theorem i_iteD {a : Prop} [Decidable a] {p q : Prop} (h : a → p) (h' : ¬ a → q) : if decide a = true then p else q := by
  by_cases x : a
  · rw [if_pos (decide_eq_true x)]; exact h x
  · rw [if_neg (by simpa using x)]; exact h' x
theorem i_kCall {f : List Dt → Option Dt} (h : tz env fun evs env1 => wr (rsL env1 evs) fun ds => wr (f ds) fun d => Q (.dat d) env1) : kCall f tz env Q := h
theorem i_isi {f : Dt → Bool} (h : te env fun ev env1 => wr (rs env1 ev) fun d => Q (.dat (.bool (f d))) env1) : kIsi f te env Q := h
theorem i_toLst (h : tz env fun evs env1 => wr (rsL env1 evs) fun ds => one ds fun d => wr (seqD d) fun xs => Ql xs env1) : kToLst tz env Ql := by
  have e : ∀ (ds : List Dt) (env1 : Dn), (one ds fun d => wr (seqD d) fun xs => Ql xs env1) = (match ds with | [d] => wr (seqD d) fun xs => Ql xs env1 | _ => False) := by
    intros
    rename_i ds _; rcases ds with _ | ⟨d, _ | ⟨d2, r⟩⟩ <;> rfl
  simp only [e] at h
  exact h
theorem i_one {q : Dt → Prop} (h : q d) : one [d] q := h
theorem i_asL {q : List Dt → Prop} {ds : List Dt} (h : q ds) : asL (.list ds) q := h
theorem i_zpT {q : List Dt → Prop} {xs ys : List Dt} (h : q (zipD xs ys)) : zpD [.tuple xs, .tuple ys] q := h
theorem i_zpL {q : List Dt → Prop} {xs ys : List Dt} (h : q (zipD xs ys)) : zpD [.list xs, .list ys] q := h
theorem i_sqT {q : List Dt → Prop} {xs : List Dt} (h : q xs) : wr (seqD (.tuple xs)) q := h
theorem i_sqL {q : List Dt → Prop} {xs : List Dt} (h : q xs) : wr (seqD (.list xs)) q := h
theorem i_ttL {xs : List Dt} (h : Qd (.tuple xs)) : wr (toTupD [.list xs]) Qd := h
theorem i_ttT {xs : List Dt} (h : Qd (.tuple xs)) : wr (toTupD [.tuple xs]) Qd := h
theorem i_rsL1V (e : rs env (.var i) = some d) {q : List Dt → Prop} (h : q [d]) : wr (rsL env [.var i]) q := i_wr (by unfold rsL; rw [e]; rfl) h
theorem i_rsL1N {q : List Dt → Prop} {xs : List Dt} (h : q [.list xs]) : wr (rsL env [.new (.lst xs)]) q := h
theorem i_frzD (e : env[i]? = some (some (.dat d))) (h : Q (.dat d) env) : kFrz i env Q := by unfold kFrz; rw [e]; exact h
theorem i_frzO {xs : List Dt} (e : env[i]? = some (some (.obj (.lst xs)))) (h : puE i (.dat (.list xs)) env fun env' => Q (.dat (.list xs)) env') : kFrz i env Q := by unfold kFrz; rw [e]; exact h
theorem i_fn {sp : DSp} {nP nK : Nat} {dd : List Dt} {pick : List Nat} (h : tz env fun evs env1 => tz' env1 fun kevs env2 => doFn sp nP nK dd pick evs kevs env2 Q) : kFn sp nP nK dd pick tz tz' env Q := h
theorem i_gL {xs : List Dt} {q : List Dt → Prop} (e : env[i]? = some (some (.obj (.lst xs)))) (h : q xs) : gL env i q := by unfold gL; rw [e]; exact h
theorem i_gD {xs : List (Str × Dt)} {q : List (Str × Dt) → Prop} (e : env[i]? = some (some (.obj (.dic xs)))) (h : q xs) : gD env i q := by unfold gD; rw [e]; exact h
theorem i_puE {q : Dn → Prop} {v : Dv} (e : env.set i (some v) = env') (h : q env') : puE i v env q := by subst e; exact h
theorem i_sz {n : Nat} {p : Prop} (e : n < sizeLine) (h : p) : n < sizeLine ∧ p := ⟨e, h⟩
theorem i_sz' {n : Nat} {p : Prop} (e : n ≤ sizeLine) (h : p) : n ≤ sizeLine ∧ p := ⟨e, h⟩
theorem i_app (h : gL env i fun _ => te env fun ev env1 => as1 ev fun d => gL env1 i fun xs => xs.length < sizeLine ∧ puE i (.obj (.lst (xs ++ [d]))) env1 fun env2 => Q (.dat .none) env2) : kApp i te env Q := h
theorem i_ext (h : gL env i fun _ => te env fun ev env1 => as1 ev fun d => gL env1 i fun xs => asL d fun ys => xs.length + ys.length ≤ sizeLine ∧ puE i (.obj (.lst (xs ++ ys))) env1 fun env2 => Q (.dat .none) env2) : kExt i te env Q := by
  have e : ∀ (d : Dt) (xs : List Dt) (env1 : Dn), (asL d fun ys => xs.length + ys.length ≤ sizeLine ∧ puE i (.obj (.lst (xs ++ ys))) env1 fun env2 => Q (.dat .none) env2) = (match d with | .list ys => xs.length + ys.length ≤ sizeLine ∧ Q (.dat .none) (env1.set i (some (.obj (.lst (xs ++ ys))))) | _ => False) := by
    intros
    rename_i d _ _; cases d <;> rfl
  simp only [e] at h
  exact h
theorem i_pop (h : gL env i fun xs => wr xs.getLast? fun d => puE i (.obj (.lst xs.dropLast)) env fun env2 => Q (.dat d) env2) : kPop i env Q := h
theorem i_rev (h : te env fun ev env1 => wr (rs env1 ev) fun d => asL d fun ds => Ql ds.reverse env1) : kRev te env Ql := by
  have e : ∀ (d : Dt) (env1 : Dn), (asL d fun ds => Ql ds.reverse env1) = (match d with | .list ds => Ql ds.reverse env1 | _ => False) := by
    intros
    rename_i d _; cases d <;> rfl
  simp only [e] at h
  exact h
theorem i_dnew (h : Q (.new (.dic [])) env) : kDnew env Q := h
theorem i_dget2 (h : gD env i fun _ => tk env fun ek env1 => tv env1 fun ed env2 => as1 ed fun d0 => gD env2 i fun kvs => wr ((rs env2 ek).bind strK) fun k => Q (.dat ((getS kvs k).getD d0)) env2) : kDget2 i tk tv env Q := h
theorem i_dix (h : gD env i fun _ => tk env fun ek env1 => gD env1 i fun kvs => wr ((rs env1 ek).bind strK) fun k => wr (getS kvs k) fun d => Q (.dat d) env1) : kDix i tk env Q := h
theorem i_dput (h : tv env fun ev env1 => as1 ev fun d => gD env1 i fun _ => tk env1 fun ek env2 => gD env2 i fun kvs => wr ((rs env2 ek).bind strK) fun k => kvs.length < sizeLine ∧ puE i (.obj (.dic (putS kvs k d))) env2 nx) : sDput i tk tv ⟨nx, rt, bk, ct, ex⟩ env := h
theorem i_strK {k : Str} {q : Str → Prop} (h : q k) : wr ((rs env (.dat (.str k))).bind strK) q := h
theorem i_dict (h : tz env fun evs env1 => wr (rsL env1 evs) fun ds => one ds fun d => wr (dicOf d) fun kvs => Q (.new (.dic (mergeS [] kvs))) env1) : kDict tz env Q := by
  have e : ∀ (ds : List Dt) (env1 : Dn), (one ds fun d => wr (dicOf d) fun kvs => Q (.new (.dic (mergeS [] kvs))) env1) = (match ds with | [d] => wr (dicOf d) fun kvs => Q (.new (.dic (mergeS [] kvs))) env1 | _ => False) := by
    intros
    rename_i ds _; rcases ds with _ | ⟨d, _ | ⟨d2, r⟩⟩ <;> rfl
  simp only [e] at h
  exact h
theorem i_sortD (h : gD env i fun kvs => kvs.length < 64 ∧ ∀ ys : List Str, ys.Perm (kvs.map (·.1)) → PyProof.Rows.sortedS ys = true → Ql (ys.map PyData.str) env) : kSortD i env Ql := h
theorem i_pNil {q : List (Str × Dt) → Dn → Prop} (h : q [] env) : pNil env q := h
theorem i_pCons {q : List (Str × Dt) → Dn → Prop} {k : Str} {up : DTp} (h : tv env fun ev env1 => as1 ev fun d => up env1 fun kvs env2 => q ((k, d) :: kvs) env2) : pCons k tv up env q := h
theorem i_disp {tp : DTp} (h : tp env fun kvs env1 => kvs.length ≤ 15 ∧ Q (.new (.dic (mergeS [] kvs))) env1) : kDisp tp env Q := h
theorem i_comp {vs : List Nat} (h : tl env fun ds env1 => lenOk ds.length ∧ dComp vs g c te Ql ds [] (wipeD env1 vs)) : kComp vs tl g c te env Ql := h
theorem i_comp0 {vs : List Nat} {acc : List Dt} (h : Ql acc env) : dComp vs g c te Ql [] acc env := h
theorem i_comp1 {vs : List Nat} {acc ds : List Dt} (h : g d env fun env1 => c env1 fun b env2 => if b = true then te env2 fun ev env3 => as1 ev fun r => dComp vs g c te Ql ds (acc ++ [r]) (wipeD env3 vs) else dComp vs g c te Ql ds acc (wipeD env2 vs)) : dComp vs g c te Ql (d :: ds) acc env := h
theorem i_wipe {vs : List Nat} {acc ds : List Dt} (e : wipeD env vs = env') (h : dComp vs g c te Ql ds acc env') : dComp vs g c te Ql ds acc (wipeD env vs) := by rw [e]; exact h
theorem comp_ind {vs : List Nat} {Inv : List Dt → List Dt → Dn → Prop} (h0 : ∀ acc env, Inv [] acc env → Ql acc env) (hs : ∀ d ds acc env, Inv (d :: ds) acc env → (∀ acc' env', Inv ds acc' env' → dComp vs g c te Ql ds acc' env') → g d env fun env1 => c env1 fun b env2 => if b = true then te env2 fun ev env3 => as1 ev fun r => dComp vs g c te Ql ds (acc ++ [r]) (wipeD env3 vs) else dComp vs g c te Ql ds acc (wipeD env2 vs)) : ∀ ds acc env, Inv ds acc env → dComp vs g c te Ql ds acc env
  | [], acc, env, h => h0 acc env h
  | d :: ds, acc, env, h => hs d ds acc env h fun acc' env' h' => comp_ind h0 hs ds acc' env' h'
theorem i_yes (h : Qb true env) : tYesD env Qb := h
section
variable {ns : List Int} {a l m : Int} {q : Dn → Prop}
theorem i_fc (h : Qd (.int m)) : wr (getS (fkv ns a l m) "count") Qd := i_wr (f_count ns a l m) h
theorem i_fl (h : Qd (.int l)) : wr (getS (fkv ns a l m) "left") Qd := i_wr (f_left ns a l m) h
theorem i_fa (h : Qd (.int a)) : wr (getS (fkv ns a l m) "at") Qd := i_wr (f_at ns a l m) h
theorem i_fz (h : Qd (.list (ns.map .int))) : wr (getS (fkv ns a l m) "cells") Qd := i_wr (f_cells ns a l m) h
theorem i_gc {m' : Int} (h : puE i (.obj (.dic (fkv ns a l m'))) env q) : puE i (.obj (.dic (putS (fkv ns a l m) "count" (.int m')))) env q := by rw [p_count]; exact h
theorem i_gl {m' : Int} (h : puE i (.obj (.dic (fkv ns a m' m))) env q) : puE i (.obj (.dic (putS (fkv ns a l m) "left" (.int m')))) env q := by rw [p_left]; exact h
theorem i_ga {m' : Int} (h : puE i (.obj (.dic (fkv ns m' l m))) env q) : puE i (.obj (.dic (putS (fkv ns a l m) "at" (.int m')))) env q := by rw [p_at]; exact h
theorem i_fsz {p : Prop} (h : p) : (fkv ns a l m).length < sizeLine ∧ p := ⟨by rw [f_len]; decide +kernel, h⟩
theorem i_cne (h : Qd (.bool (!ns.isEmpty))) : wr (neD (.list (ns.map .int)) (.list [])) Qd := i_wr (ne_nil_ints ns) h
theorem i_rsL1 {q' : List Dt → Prop} (h : q' [d]) : wr (rsL env [.dat d]) q' := h
theorem i_lenL {ds : List Dt} (h : Qd (.int ds.length)) : wr (lenD [.list ds]) Qd := h
end
theorem i_addI {a b : Int} (h : Qd (.int (a + b))) : wr (addD (.int a) (.int b)) Qd := h
theorem i_subI {a b : Int} (h : Qd (.int (a - b))) : wr (subD (.int a) (.int b)) Qd := h
theorem i_mulI {a b : Int} (e : -(2 ^ 64) < a ∧ a < 2 ^ 64) (h : Qd (.int (a * b))) : wr (mulD (.int a) (.int b)) Qd := i_wr (mul_small e) h
theorem i_modI {a b : Int} (e : 0 < b) (h : Qd (.int (a % b))) : wr (modD (.int a) (.int b)) Qd := i_wr (mod_pos e) h
theorem i_fdvI {a b : Int} (e : 0 < b ∧ b < 1073741824) (h : Qd (.int (a / b))) : wr (fdvD (.int a) (.int b)) Qd := i_wr (fdv_pos e) h
theorem i_powI {a b : Int} (e : CPow a b) (h : Qd (.int (a ^ b.toNat))) : wr (powD (.int a) (.int b)) Qd := i_wr (pow_lit e) h
theorem i_ixT {ds : List Dt} {j : Int} {x : Dt} (e : atI ds j = some x) (h : Qd x) : wr (ixD (.tuple ds) (.int j)) Qd := i_wr e h
theorem i_ixL {ds : List Dt} {j : Int} {x : Dt} (e : atI ds j = some x) (h : Qd x) : wr (ixD (.list ds) (.int j)) Qd := i_wr e h
theorem i_ixM {ds : List Dt} {j : Int} (h0 : 0 ≤ j) (h1 : j < ds.length) (h : ∀ x ∈ ds, Qd x) : wr (ixD (.list ds) (.int j)) Qd := by
  obtain ⟨x, e, hm⟩ := atI_ok h0 h1
  exact i_ixL e (h x hm)
theorem i_negI {a : Int} (h : Qd (.int (-a))) : wr (negD (.int a)) Qd := h
theorem i_ltI {a b : Int} (h : Qd (.bool (decide (a < b)))) : wr (ltD (.int a) (.int b)) Qd := h
theorem i_leI {a b : Int} (h : Qd (.bool (decide (a ≤ b)))) : wr (leD (.int a) (.int b)) Qd := h
theorem i_gtI {a b : Int} (h : Qd (.bool (decide (b < a)))) : wr (gtD (.int a) (.int b)) Qd := h
theorem i_geI {a b : Int} (h : Qd (.bool (decide (b ≤ a)))) : wr (geD (.int a) (.int b)) Qd := h
theorem eqOk_int (a b : Int) : eqOk (.int a) (.int b) = true := by simp [eqOk, strStr, PyData.canLay0, PyData.depth]
theorem i_eqI {a b : Int} (h : Qd (.bool (decide (a = b)))) : wr (eqD (.int a) (.int b)) Qd := i_wr (by
  unfold eqD
  rw [if_pos (eqOk_int a b)]
  simp only [PyData.eqv]
  by_cases e : a = b
  · simp [e]
  · simp [e]) h
theorem i_neI {a b : Int} (h : Qd (.bool (!decide (a = b)))) : wr (neD (.int a) (.int b)) Qd := i_wr (by
  unfold neD
  rw [if_pos (eqOk_int a b)]
  simp only [PyData.eqv]
  by_cases e : a = b
  · simp [e]
  · simp [e]) h
theorem i_eqS {a b : Str} (h : Qd (.bool (a == b))) : wr (eqD (.str a) (.str b)) Qd := i_wr (eqD_str a b) h
theorem i_neS {a b : Str} (h : Qd (.bool (!(a == b)))) : wr (neD (.str a) (.str b)) Qd := i_wr (neD_str a b) h
theorem i_eqS1 {a : Str} (h : Qd (.bool true)) : wr (eqD (.str a) (.str a)) Qd := i_wr (by rw [eqD_str]; simp) h
theorem i_neS1 {a : Str} (h : Qd (.bool false)) : wr (neD (.str a) (.str a)) Qd := i_wr (by rw [neD_str]; simp) h
theorem i_eqS0 {a b : Str} (e : (a == b) = false) (h : Qd (.bool false)) : wr (eqD (.str a) (.str b)) Qd := i_wr (by rw [eqD_str, e]) h
theorem i_toIntB {b : Bool} (h : Qd (.int (if b then 1 else 0))) : wr (toIntD [.bool b]) Qd := h
end
open PySem PySem.Spec L2

def spFeed (K : PySem.W.Frag) : Sp := fun vs H Q _ => ∃ (a : Addr) (ns : List Int), vs = [.ref a] ∧ SqL K H a (ns.map V.int) ∧
  ∀ (H' : Hp) (p q : Addr) (ms : List Int), (∀ b u, H b = some u → H' b = some u) → H p = none → H q = none → p ≠ q → H' p = some (.dK [(Sum.inr "cells", .ref q), (Sum.inr "at", .int 0), (Sum.inr "left", .int 0), (Sum.inr "count", .int 0)]) →
    H' q = some (.lst (ms.map V.int)) → (∀ b ps, H' b = some (.tbl ps) → H b = some (.tbl ps)) → Q (.ref p) H'
theorem newS {H : Hp} {p : Addr} (h : H p = none) (o : HO) : Same H (upd H p o) := fun b u e => by rw [upd_ne (ne_of_none e h)]; exact e
theorem sqL_S {K : PySem.W.Frag} {H H' : Hp} {a : Addr} {xs : List V} (g : Same H H') (h : SqL K H a xs) : SqL K H' a xs := by
  rcases h with (h | ⟨o, h⟩) | h
  · exact .inl (.inl (g _ _ h))
  · exact .inl (.inr ⟨o, g _ _ h⟩)
  · exact .inr h
theorem cutV_ints (ns : List Int) (lo hi : Option Int) : ∃ ms : List Int, cutV (ns.map V.int) lo hi = ms.map V.int := by
  unfold cutV
  exact ⟨_, by rw [← List.map_drop, ← List.map_take]⟩
section
variable {P : Program} {w : World} {K : PySem.W.Frag} {mg : Str → Option Value} {base : Heap} {st : Stmt} {f : Addr} {fd : FuncData}
theorem feed_ok {j1 j2 j3 j4 j5 j6 j7 j8 : Nat} {n63 : Int} {p0 p1 p2 p3 p4 p5 p6 p7 p8 p9 pa pb pc pd pe : Pos} (F : FnF K mg "_law_feed" st f fd) (S : FnScope ["_law_script"] ["_law_script"] (defScope st)) (hl : mg "list" = none) (hloc : (defScope st).names.lookup ("_law_script" : Str) = some NameKind.local)
    (hg : ∀ (cdv : Value) (A : Around) (outer : List Env) (s : Shared) (H : Hp) (E : XK), Gl (cxOf CX0 P w K mg base ["_law_script"] "_law_feed" (defScope st) f cdv A outer s H E).nox "list")
    (hb : defBody st = [.Return (some (.Dict [some (.Constant (.str "cells") j1 p0), some (.Constant (.str "at") j2 p1), some (.Constant (.str "left") j3 p2), some (.Constant (.str "count") j4 p3)]
      [.Call (.Name "list" p4) [.Subscript (.Name "_law_script" p5) (.Slice none (some (.Constant (.int n63) j5 p6)) none p7) p8] [] p9, .Constant (.int 0) j6 pa, .Constant (.int 0) j7 pb, .Constant (.int 0) j8 pc] pd)) pe]) :
    FnOk P w K mg base CX0 1 f fd ["_law_script"] (spFeed K) := by
  have F' : Fun K "_law_feed" "_law_feed" st f fd := ⟨F.ex, F.kp⟩
  refine F'.ok S (fun vs H Q E h => ?_) (fun cdv A outer s H vs Q E hr h => ?_)
  · obtain ⟨a, ns, rfl, _⟩ := h
    rfl
  obtain ⟨a, ns, rfl, hS, q⟩ := h
  rw [hb]
  refine ⟨_, pss_one (ps_ret (pe_disp (pps_cons pe_str (pe_callTy call_list_of (hg _ _ _ _ _ _) hl (by decide +kernel) (pa_cons (pe_slice sl_list (pv 0 (hv := Or.inl hloc)) po_none (po_some pe_int)) pa_nil)) (pps_cons pe_str pe_int (pps_cons pe_str pe_int (pps_cons pe_str pe_int pps_nil)))) rfl rfl (fun z => nomatch z) (Nat.le_of_ble_eq_true rfl))), ?_⟩
  intro p hp
  obtain ⟨ms, hm⟩ := cutV_ints ns none (some n63)
  have g0 : Same H (upd H p (.dK [])) := newS hp _
  refine ⟨_, rfl, _, rfl, a, _, rfl, sqL_S g0 hS, fun r hr' => ?_⟩
  have g1 := g0.trans (newS hr' (.lst (cutV (ns.map V.int) none (some n63))))
  refine ⟨r, _, rfl, .inl (SqL.of upd_same), fun l hl' => ?_⟩
  have npr : p ≠ r := fun e => by subst e; rw [upd_same] at hr'; cases hr'
  have npl : p ≠ l := fun e => by subst e; rw [upd_ne npr, upd_same] at hl'; cases hl'
  have g2 := g1.trans (newS hl' (.lst (cutV (ns.map V.int) none (some n63))))
  refine ⟨by rw [upd_ne npl, upd_ne npr]; exact upd_same, [(Sum.inr "cells", .ref l), (Sum.inr "at", .int 0), (Sum.inr "left", .int 0), (Sum.inr "count", .int 0)], rfl, Nat.le_of_ble_eq_true rfl, ?_⟩
  refine q _ p l ms (fun b u e => ?_) hp ?_ npl ?_ ?_ fun b ps z => ?_
  · rw [upd_ne (ne_of_none e hp)]; exact g2 b u e
  · cases z : H l with
    | none => rfl
    | some u => rw [g1 l u z] at hl'; cases hl'
  · rw [upd_same]; rfl
  · rw [upd_ne npl.symm, upd_same, hm]
  · by_cases k1 : b = p
    · rw [k1, upd_same] at z; cases z
    · rw [upd_ne k1] at z
      by_cases k2 : b = l
      · rw [k2, upd_same] at z; cases z
      · rw [upd_ne k2] at z
        by_cases k3 : b = r
        · rw [k3, upd_same] at z; cases z
        · rw [upd_ne k3, upd_ne k1] at z
          exact z
theorem rp_ints {F : Hp} (ms : List Int) : RpAll K F (ms.map V.int) (ms.map PyData.int) := by
  induction ms with
  | nil => exact .nil
  | cons m ms ih => exact .cons (.int m) ih
/-- a law that begins with the feed of its script -/
theorem law_of {g : Addr} {gd : FuncData} {N : List Str} {rest : List Stmt} {k most : Nat} {p1 p2 p3 p4 p5 : Pos} (F : FnF K mg "law" st f fd) (S : FnScope N ["_law_script"] (defScope st)) (hr : Room (k + 1) callerA)
    (hb : defBody st = .Assign [.Name "_law_feed_here" p1] (.Call (.Name "_law_feed" p2) [.Name "_law_script" p3] [] p4) p5 :: rest) (hN : ∃ N' : List Str, N = ("_law_script" : Str) :: ("_law_feed_here" : Str) :: N')
    (l0 : (defScope st).names.lookup ("_law_script" : Str) = some NameKind.local) (l1 : (defScope st).names.lookup ("_law_feed_here" : Str) = some NameKind.local)
    (bL : ∀ (s : Shared) (u : Value), BindsTo s fd ⟨[u], []⟩ [("_law_script", u)])
    (G : FnOk P w K mg base CX0 1 g gd ["_law_script"] (spFeed K)) (bG : Binds K gd ["_law_script"] []) (mG : mg "_law_feed" = some (.ref g)) (kG : PySem.W.keepIn K (.ref g) = true)
    (hgl : ∀ (cdv : Value) (A : Around) (outer : List Env) (s : Shared) (H : Hp) (E : XK), Gl (cxOf CX0 P w K mg base N "law" (defScope st) f cdv A outer s H E).nox "_law_feed")
    (hsw : ∀ (cdv : Value) (A : Around) (outer : List Env) (s : Shared) (H : Hp) (E : XK), swapsWith (.Call (.Name "_law_feed" p2) [.Name "_law_script" p3] [] p4) (some (.Name "_law_feed_here" p1)) p5.line (cxOf CX0 P w K mg base N "law" (defScope st) f cdv A outer s H E).nox.env = pure false)
    (hrest : ∀ (cdv : Value) (A : Around) (outer : List Env) (s : Shared) (H : Hp) (E : XK), Room k (A.deeper (PyProof.Rows.envOfC "law" (defScope st) s.heap.objs.size f cdv)) → A.guards = some [] →
      ∃ t, DSs (cxOf CX0 P w K mg base N "law" (defScope st) f cdv A outer s H E).nox 0 rest t ∧ t { nx := fun _ => False, rt := fun r _ => r = .dat (.bool true) } (none :: some feed :: List.replicate (N.length - 2) none)) (hk : 1 ≤ k := by decide) :
    LawRun P w K mg base f most := by
  intro s H a ns hlen e0 hS
  obtain ⟨oc, od, kV, doc, pm, an, cdv, ct, osl, rfl, lk, hcd⟩ := F.ex
  obtain ⟨N', rfl⟩ := hN
  have KX : K.In s.heap := e0.mod.kin.keeps fun b o e => (e0.bs b o e).1
  have lim : s.heap.NoLimit := e0.mod.nolimit.keeps fun b o e => (e0.bs b o e).1
  apply codeAny_call_function hr.depth (KX _ _ lk) rfl S.co S.gen rfl (PySem.W.codeRec_of KX hcd)
  apply bL
  apply wpAny_newFunctionEnv_cells S.kind (fun y hy => .inl (by simp at hy; subst hy; exact l0))
  intro env he s1 x
  subst he
  refine ⟨lim.keeps x.toInCall.keep, codeAny_func ?_⟩
  obtain ⟨t, ht, hq⟩ := hrest cdv callerA [] s H E0 (hr.deeper _) rfl
  have I : Inv (cxOf CX0 P w K mg base (("_law_script" : Str) :: ("_law_feed_here" : Str) :: N') "law" (defScope st) f cdv callerA [] s H E0) [] (L2.start (("_law_script" : Str) :: ("_law_feed_here" : Str) :: N') [.ref a]) H s1 := inv_start S hr.hd e0 rfl (.cons rfl .nil) x
  have body := pss_cons (ps_set (X := (cxOf CX0 P w K mg base (("_law_script" : Str) :: ("_law_feed_here" : Str) :: N') "law" (defScope st) f cdv callerA [] s H E0).nox) (i := 1) (pos := p5) (pos' := p1) S.nd rfl (Or.inl l1) (pe_call (pos := p4) (p := p2) G ((hr.deeper _).mono hk) (hgl _ _ _ _ _ _) mG kG bG .nil pass0 (pa_cons (pv 0 (hv := Or.inl l0) (pos := p3)) pa_nil)) (hsw _ _ _ _ _ _)) ht.run
  rw [← hb] at body
  refine wpAny_mono (body.nox.run [] s1 _ H { nx := fun _ _ => False, rt := fun v _ => v = .bl true } I ?_) (fun fl s' hs => ?_) fun e s' hs => hs
  · refine ⟨_, rfl, a, ns, rfl, hS, fun H' p q ms g hp hq' npq ep eq _ => ?_⟩
    let F0 : Hp := fun b => if b = q then some (.lst (ms.map V.int)) else none
    have Fq : F0 q = some (.lst (ms.map V.int)) := if_pos rfl
    have Fp : F0 p = none := if_neg npq
    refine ⟨F0, _, _, ⟨fun b u e => ?_, ?_, fun i dv e => ?_, fun i j o o' pp h1 h2 h3 h4 => ?_⟩, hq, ⟨fun _ _ _ _ _ _ z => z, fun _ _ _ _ _ _ z => z, fun _ _ _ _ _ _ z => z, fun r v σ' env' F' H2 E R V z => ?_, fun _ _ _ _ _ _ _ _ _ _ z => z.elim⟩⟩
    · by_cases c : b = q
      · subst c
        have e' : some _ = some u := (if_pos rfl).symm.trans e
        rw [eq]; exact e'
      · have e' : none = some u := (if_neg c).symm.trans e
        cases e'
    · simp [L2.start]
    · match i, e with
      | 0, e => cases e
      | 1, e =>
        cases e
        exact ⟨.ref p, rfl, p, rfl, Fp, fkv ms 0 0 0, _, ⟨ms, 0, 0, 0, rfl⟩, ep, ⟨rfl, .lst Fq (rp_ints ms), rfl, .int 0, rfl, .int 0, rfl, .int 0, trivial⟩⟩
      | i + 2, e =>
        have e' : (List.replicate N'.length (none : Option Dv))[i]? = some (some dv) := by simpa using e
        rw [List.getElem?_replicate] at e'
        split at e' <;> cases e'
    · have one : ∀ (i : Nat) (o : Ob), (none :: some feed :: List.replicate (("_law_script" :: "_law_feed_here" :: N' : List Str).length - 2) none : Dn)[i]? = some (some (.obj o)) → i = 1 := by
        intro i o e
        match i, e with
        | 0, e => cases e
        | 1, e => rfl
        | i + 2, e =>
          have e' : (List.replicate N'.length (none : Option Dv))[i]? = some (some (.obj o)) := by simpa using e
          rw [List.getElem?_replicate] at e'
          split at e' <;> cases e'
      rw [one i o h1, one j o' h2]
    · subst z
      have V' : Rp K F' v (.bool true) := V
      cases V'
      rfl
  · have done : ∀ {σ' : L2.St} {H' : Hp} {v : V} {u : Value}, Inv (cxOf CX0 P w K mg base (("_law_script" : Str) :: ("_law_feed_here" : Str) :: N') "law" (defScope st) f cdv callerA [] s H E0) [] σ' H' s' → RelV v u → v = .bl true → CE [] P w H s (fun v _ => v = .bl true) u s' := fun {σ' H' v u} J rv q => ⟨v, H', J.os, J.bare, J.base, J.hok, rv, q⟩
    cases fl with
    | ret u =>
      obtain ⟨v, σ', H', J, rv, q⟩ := hs
      exact done J rv q
    | next => obtain ⟨_, _, _, q⟩ := hs; exact q.elim
    | brk => obtain ⟨_, _, _, q⟩ := hs; exact q.elim
    | cont => obtain ⟨_, _, _, q⟩ := hs; exact q.elim
end
open PySem PySem.Spec L2

def cutD {α : Type} (xs : List α) (lo hi : Option Int) : List α := (xs.drop (HT.sIx xs.length 0 lo)).take (HT.sIx xs.length xs.length hi - HT.sIx xs.length 0 lo)
theorem rpAll_drop {K : PySem.W.Frag} {F : Hp} : ∀ (n : Nat) {vs : List V} {ds : List Dt}, RpAll K F vs ds → RpAll K F (vs.drop n) (ds.drop n)
  | 0, _, _, h => h
  | _ + 1, _, _, .nil => .nil
  | n + 1, _, _, .cons _ t => rpAll_drop n t
theorem rpAll_take {K : PySem.W.Frag} {F : Hp} : ∀ (n : Nat) {vs : List V} {ds : List Dt}, RpAll K F vs ds → RpAll K F (vs.take n) (ds.take n)
  | 0, _, _, _ => .nil
  | _ + 1, _, _, .nil => .nil
  | n + 1, _, _, .cons h t => .cons h (rpAll_take n t)
theorem rpAll_cut {K : PySem.W.Frag} {F : Hp} {vs : List V} {ds : List Dt} (h : RpAll K F vs ds) (lo hi : Option Int) : RpAll K F (cutV vs lo hi) (cutD ds lo hi) := by
  unfold cutV cutD
  rw [h.length]
  exact rpAll_take _ (rpAll_drop _ h)
section
variable {X : Cx} {pos : Pos}
def rSlF (K : PySem.W.Frag) : V → Option Int → Option Int → Hp → VK → Prop := fun x lo hi H Q => ∃ a xs, x = .ref a ∧ SqT K H a xs ∧
  (cutV xs lo hi = xs → Q (.ref a) H) ∧ ∀ p o, H p = none → TObj o → Q (.ref p) (upd H p (.frz o (.tup (cutV xs lo hi))))
theorem sl_tupF : SlR X (rSlF X.K) := by
  intro pins s σ H x v vl vu lo hi sl Q I rx hs pl pu h
  obtain ⟨a, xs, rfl, hx, q1, q2⟩ := h
  cases rx
  obtain ⟨its, r, ht, hz⟩ := I.tuple hx
  have hlen : its.toArray.size = xs.length := by rw [List.size_toArray]; exact r.length.symm
  refine ⟨"tuple", _, PyProof.Rows.slot_tuple_getitem.lookup, ht.typeIs, ?_⟩
  by_cases hw : HT.sIx xs.length 0 lo = 0 ∧ HT.sIx xs.length xs.length hi = xs.length
  · exact getItem_tuple_whole ht hs pl pu (by rw [hlen]; exact hw) ⟨.ref a, H, I, rfl, q1 (by unfold cutV; rw [hw.1, hw.2]; simp)⟩
  · refine HT.getItem_tuple_cut ht hs pl pu (by rw [hlen]; exact hw) ?_ (by rw [hlen]; exact hz)
    rw [hlen]
    exact lay_tup I ((r.drop (HT.sIx xs.length 0 lo)).take (HT.sIx xs.length xs.length hi - HT.sIx xs.length 0 lo)) (Nat.le_trans (cutV_length xs lo hi) hz) q2
/-- a slice's part -/
abbrev DTo := Dn → (Option Int → Dn → Prop) → Prop
def tDo (K : PySem.W.Frag) (t : DTo) : TO := fun σ H R => ∃ F env, Rep K F H σ env ∧ t env fun o env' => ∀ F' H', Ext σ env F H σ env' F' H' → Rep K F' H' σ env' → R o H'
structure DO (X : Cx) (e : Option Expr) (t : DTo) : Prop where
  mono : ∀ env (Q Q' : Option Int → Dn → Prop), (∀ o e, Q o e → Q' o e) → t env Q → t env Q'
  run : PO X e (tDo X.K t)
def oN : DTo := fun env Q => Q none env
def oS (te : DT) : DTo := fun env Q => te env fun ev env1 => wr (rs env1 ev) fun d => asI d fun i => Q (some i) env1
theorem asI_mono {d : Dt} {Q Q' : Int → Prop} (i : ∀ j, Q j → Q' j) (h : asI d Q) : asI d Q' := by
  cases d <;> first | exact h.elim | exact i _ h
theorem asI_get {d : Dt} {Q : Int → Prop} (h : asI d Q) : ∃ j, d = .int j ∧ Q j := by
  cases d <;> first | exact h.elim | exact ⟨_, rfl, h⟩
theorem po_mono {e : Option Expr} {t u : TO} (h : PO X e t) (i : ∀ σ H Q, u σ H Q → t σ H Q) : PO X e u := ⟨fun pins s σ H Q I q => h.run pins s σ H Q I (i _ _ _ q)⟩
theorem do_none : DO X none oN := ⟨fun env Q Q' i q => i _ _ q, po_mono (po_none (X := X)) fun σ H Q => by
  rintro ⟨F, env, R, q⟩
  exact q F H Ext.refl R⟩
theorem do_some {e : Expr} {te : DT} (h : DE X e te) : DO X (some e) (oS te) := by
  refine ⟨fun env Q Q' i q => h.mono _ _ _ (fun ev env1 q => wr_mono (fun d q => asI_mono (fun j q => i _ _ q) q) q) q, po_mono (po_some h.run) fun σ H Q => ?_⟩
  rintro ⟨F, env, R, q⟩
  refine ⟨F, env, R, h.mono _ _ _ (fun ev env1 q F1 H1 x E1 R1 V1 => ?_) q⟩
  obtain ⟨d, e1, q⟩ := wr_get q
  obtain ⟨j, rfl, q⟩ := asI_get q
  have t := tp_of R1 V1 e1
  have hx : x = .int j := by cases t; rfl
  exact ⟨j, hx, q F1 H1 E1 R1⟩
def asT : Dt → (List Dt → Prop) → Prop
  | .tuple ds, q => q ds
  | _, _ => False
theorem asT_mono {d : Dt} {Q Q' : List Dt → Prop} (i : ∀ j, Q j → Q' j) (h : asT d Q) : asT d Q' := by
  cases d <;> first | exact h.elim | exact i _ h
theorem asT_get {d : Dt} {Q : List Dt → Prop} (h : asT d Q) : ∃ j, d = .tuple j ∧ Q j := by
  cases d <;> first | exact h.elim | exact ⟨_, rfl, h⟩
theorem asL_mono {d : Dt} {Q Q' : List Dt → Prop} (i : ∀ j, Q j → Q' j) (h : asL d Q) : asL d Q' := by
  cases d <;> first | exact h.elim | exact i _ h
theorem asL_get {d : Dt} {Q : List Dt → Prop} (h : asL d Q) : ∃ j, d = .list j ∧ Q j := by
  cases d <;> first | exact h.elim | exact ⟨_, rfl, h⟩
/-- t[a:b] of a tuple -/
def kSlT (te : DT) (tl th : DTo) : DT := fun env Q => te env fun ev env1 => tl env1 fun l env2 => th env2 fun h env3 => wr (rs env3 ev) fun d => asT d fun ds => Q (.dat (.tuple (cutD ds l h))) env3
theorem de_slT {e : Expr} {lo hi : Option Expr} {te : DT} {tl th : DTo} {p2 : Pos} (he : DE X e te) (hl : DO X lo tl) (hh : DO X hi th) : DE X (.Subscript e (.Slice lo hi none p2) pos) (kSlT te tl th) := by
  refine ⟨fun env Q Q' i q => he.mono _ _ _ (fun ev env1 q => hl.mono _ _ _ (fun l env2 q => hh.mono _ _ _ (fun h env3 q => wr_mono (fun d q => asT_mono (fun ds q => i _ _ q) q) q) q) q) q, (pe_slice sl_tupF he.run hl.run hh.run).mono fun σ H Q => ?_⟩
  rintro ⟨F, env, R, q⟩
  refine ⟨F, env, R, he.mono _ _ _ (fun ev env1 q F1 H1 x E1 R1 V1 => ⟨F1, env1, R1, hl.mono _ _ _ (fun l env2 q F2 H2 E2 R2 => ⟨F2, env2, R2, hh.mono _ _ _ (fun h env3 q F3 H3 E3 R3 => ?_) q⟩) q⟩) q⟩
  obtain ⟨d, e1, q⟩ := wr_get q
  obtain ⟨ds, rfl, q⟩ := asT_get q
  have t := tp_of R3 ((V1.move E2).move E3) e1
  have fin : ∀ H' v, Res X.K F3 H3 H' v (.tuple (cutD ds l h)) → Q v H' := fun H' v r => by
    obtain ⟨F4, E4, R4, r4⟩ := Res.frz R3 r
    exact q F4 H' v (((E1.trans E2).trans E3).trans E4) R4 r4
  cases t with
  | tup ht r =>
    refine ⟨_, _, rfl, (seqT_same R3.sub ht).sq, fun z => ?_, fun p o hp ho => fin _ _ (.tup hp ho (rpAll_cut r l h))⟩
    have r' := rpAll_cut r l h
    rw [z] at r'
    exact fin _ _ (.old (.tup ht r'))
/-- xs[a:b] of a list: a new one -/
def kSlL (te : DT) (tl th : DTo) : DTl := fun env Q => te env fun ev env1 => tl env1 fun l env2 => th env2 fun h env3 => wr (rs env3 ev) fun d => asL d fun ds => Q (cutD ds l h) env3
theorem dl_sl {e : Expr} {lo hi : Option Expr} {te : DT} {tl th : DTo} {p2 : Pos} (he : DE X e te) (hl : DO X lo tl) (hh : DO X hi th) : DL X (.Subscript e (.Slice lo hi none p2) pos) (kSlL te tl th) := by
  refine ⟨fun env Q Q' i q => he.mono _ _ _ (fun ev env1 q => hl.mono _ _ _ (fun l env2 q => hh.mono _ _ _ (fun h env3 q => wr_mono (fun d q => asL_mono (fun ds q => i _ _ q) q) q) q) q) q, (pe_slice sl_list he.run hl.run hh.run).mono fun σ H Q => ?_⟩
  rintro ⟨F, env, R, q⟩
  refine ⟨F, env, R, he.mono _ _ _ (fun ev env1 q F1 H1 x E1 R1 V1 => ⟨F1, env1, R1, hl.mono _ _ _ (fun l env2 q F2 H2 E2 R2 => ⟨F2, env2, R2, hh.mono _ _ _ (fun h env3 q F3 H3 E3 R3 => ?_) q⟩) q⟩) q⟩
  obtain ⟨d, e1, q⟩ := wr_get q
  obtain ⟨ds, rfl, q⟩ := asL_get q
  have t := tp_of R3 ((V1.move E2).move E3) e1
  cases t with
  | lst ht r =>
    refine ⟨_, _, rfl, SqL.of ht, fun p hp => ?_⟩
    obtain ⟨R4, E4⟩ := R3.growN hp (.lst (cutV _ l h))
    have hp1 : H p = none := by
      cases z : H p with
      | none => rfl
      | some u =>
        obtain ⟨u', z'⟩ := ((E1.trans E2).trans E3).there p u z
        rw [hp] at z'; cases z'
    exact q F3 _ p _ (((E1.trans E2).trans E3).trans E4) R4 (R3.fnone hp) upd_same (rpAll_cut r l h) (R3.not_ow hp) hp1
section
variable {env : Dn} {Qo : Option Int → Dn → Prop} {Q : Ev → Dn → Prop} {Ql : List Dt → Dn → Prop} {te : DT} {tl th : DTo}
theorem i_oN (h : Qo none env) : oN env Qo := h
theorem i_oS (h : te env fun ev env1 => wr (rs env1 ev) fun d => asI d fun i => Qo (some i) env1) : oS te env Qo := h
theorem i_slT (h : te env fun ev env1 => tl env1 fun l env2 => th env2 fun h env3 => wr (rs env3 ev) fun d => asT d fun ds => Q (.dat (.tuple (cutD ds l h))) env3) : kSlT te tl th env Q := h
theorem i_slL (h : te env fun ev env1 => tl env1 fun l env2 => th env2 fun h env3 => wr (rs env3 ev) fun d => asL d fun ds => Ql (cutD ds l h) env3) : kSlL te tl th env Ql := h
theorem i_asT {q : List Dt → Prop} {ds : List Dt} (h : q ds) : asT (.tuple ds) q := h
end
end
open PySem PySem.Spec L2

section
variable {X : Cx} {n : Nat} {pos : Pos}
theorem rpAll_set {K : PySem.W.Frag} {F : Hp} {v : V} {d : Dt} (h : Rp K F v d) : ∀ (j : Nat) {vs : List V} {ds : List Dt}, RpAll K F vs ds → RpAll K F (vs.set j v) (ds.set j d)
  | _, _, _, .nil => .nil
  | 0, _, _, .cons _ t => .cons h t
  | j + 1, _, _, .cons a t => .cons a (rpAll_set h j t)
def sLput (i : Nat) (ti tv : DT) : DTS := fun E env => tv env fun ev env1 => as1 ev fun d => gL env1 i fun _ => ti env1 fun ei env2 => gL env2 i fun xs => wr (rs env2 ei) fun k => asI k fun j => wr (ixN xs.length j) fun m => E.nx (env2.set i (some (.obj (.lst (xs.set m d)))))
theorem ds_lput (i : Nat) {x : Str} {e value : Expr} {ti tv : DT} {p pos' : Pos} (he : DE X e ti) (hvl : DE X value tv) (hs : swapsWith value (some (.Subscript (.Name x p) e pos')) pos.line X.env = pure false := by rfl) (hN : X.N[i]? = some x := by rfl) (hv : Vis X.env.scope x := by first | exact Or.inl rfl | exact Or.inr (Or.inl rfl) | exact Or.inr (Or.inr rfl)) (hd : (x == ("__debug__" : Str)) = false := by decide) (hcd : (x == ("__classdict__" : Str)) = false := by decide)
    (ha : ∀ v, assign (.Subscript (.Name x p) e pos') X.env v = (do
      let ov ← holding [v] (eval (.Name x p) X.env)
      let iv ← holding [v, ov] (eval e X.env)
      standAt pos'
      holding [v, ov, iv] (setItem ov iv v)
      release [v, ov, iv] []) := by intro _; rfl) :
    DS X n (.Assign [.Subscript (.Name x p) e pos'] value pos) (sLput i ti tv) := ⟨(ps_asg hvl.run (pg_sub (pe_var hN hv hd hcd) he.run set_list ha) hs).mono fun D σ H => by
  rintro ⟨F, env, E, R, q, l⟩
  refine ⟨F, env, R, hvl.mono _ _ _ (fun ev env1 q F1 H1 v E1 R1 V1 => ?_) q⟩
  obtain ⟨d, rfl, q'⟩ := as1_get q
  obtain ⟨xs0, e0, q⟩ := gL_get q'
  obtain ⟨v0, es, a0, ev0, hf0, vs0, hp0, _⟩ := R1.val i _ e0
  subst ev0
  refine ⟨_, es, F1, env1, R1, he.mono _ _ _ (fun ek env2 q F2 H2 y E2 R2 V2 => ?_) q⟩
  obtain ⟨xs, e1, q⟩ := gL_get q
  obtain ⟨k, e2, q⟩ := wr_get q
  obtain ⟨j, rfl, q⟩ := asI_get q
  obtain ⟨m, e3, q⟩ := wr_get q
  have ey : y = .int j := by have t := tp_of R2 V2 e2; cases t; rfl
  subst ey
  obtain ⟨v1, es1, a1, ev1, hf1, vs1, hp1, rk⟩ := R2.val i _ e1
  rw [es] at es1; cases es1; cases ev1
  have rd : Rp X.K F2 v d := dp_same E2.same V1
  obtain ⟨R3, E3⟩ := R2.write (o' := .lst (xs.set m d)) (ho := .lst (vs1.set m v)) e1 es hf1 ⟨_, upd_same, rpAll_set rd m rk⟩
  exact ⟨a0, vs1, j, m, rfl, rfl, hp1, by rw [rk.length]; exact e3, l.nx _ _ _ _ ((E1.trans E2).trans E3).s R3 q⟩⟩
def maxD : List Dt → Option Dt
  | [.int i, .int j] => some (.int (if j > i then j else i))
  | _ => none
def minD : List Dt → Option Dt
  | [.int i, .int j] => some (.int (if j < i then j else i))
  | _ => none
theorem lk_max : LkC X.K (fun xs H Q => ∃ i j, xs = [.int i, .int j] ∧ Q (.int (if j > i then j else i)) H) maxD := by
  intro F H vs ds d Q sm tv e q
  unfold maxD at e
  split at e
  · cases tv with
    | cons h t => cases t with
      | cons h2 t2 => cases t2; cases h; cases h2; cases e; exact ⟨_, _, rfl, q _ _ (.old (.int _))⟩
  · cases e
theorem lk_min : LkC X.K (fun xs H Q => ∃ i j, xs = [.int i, .int j] ∧ Q (.int (if j < i then j else i)) H) minD := by
  intro F H vs ds d Q sm tv e q
  unfold minD at e
  split at e
  · cases tv with
    | cons h t => cases t with
      | cons h2 t2 => cases t2; cases h; cases h2; cases e; exact ⟨_, _, rfl, q _ _ (.old (.int _))⟩
  · cases e
def blsD : List Dt → Option (List Bool)
  | [] => some []
  | .bool b :: r => (blsD r).map fun l => b :: l
  | _ => none
theorem blsD_rp {K : PySem.W.Frag} {F : Hp} : ∀ {vs : List V} {ds : List Dt} {bs : List Bool}, RpAll K F vs ds → blsD ds = some bs → vs = bs.map V.bl
  | _, _, _, .nil, e => by cases e; rfl
  | _, .bool b :: ds, bs, .cons h t, e => by
    simp only [blsD, Option.map_eq_some_iff] at e
    obtain ⟨l, e1, rfl⟩ := e
    cases h
    rw [blsD_rp t e1]; rfl
  | _, .none :: _, _, .cons _ _, e => by cases e
  | _, .int _ :: _, _, .cons _ _, e => by cases e
  | _, .str _ :: _, _, .cons _ _, e => by cases e
  | _, .list _ :: _, _, .cons _ _, e => by cases e
  | _, .tuple _ :: _, _, .cons _ _, e => by cases e
  | _, .dict _ :: _, _, .cons _ _, e => by cases e
def allD : List Dt → Option Dt
  | [.list ds] => (blsD ds).map fun bs => .bool (bs.all id)
  | _ => none
def anyD : List Dt → Option Dt
  | [.list ds] => (blsD ds).map fun bs => .bool (bs.any id)
  | _ => none
theorem lk_all : LkC X.K (rAll X.K) allD := by
  intro F H vs ds d Q sm tv e q
  unfold allD at e
  split at e
  · obtain ⟨bs, e1, rfl⟩ := Option.map_eq_some_iff.mp e
    cases tv with
    | cons h t =>
      cases t
      cases h with
      | lst h r =>
        have := blsD_rp r e1
        subst this
        exact ⟨_, bs, rfl, SqL.of h, q _ _ (.old (.bl _))⟩
  · cases e
theorem lk_any : LkC X.K (rAny X.K) anyD := by
  intro F H vs ds d Q sm tv e q
  unfold anyD at e
  split at e
  · obtain ⟨bs, e1, rfl⟩ := Option.map_eq_some_iff.mp e
    cases tv with
    | cons h t =>
      cases t
      cases h with
      | lst h r =>
        have := blsD_rp r e1
        subst this
        exact ⟨_, bs, rfl, SqL.of h, q _ _ (.old (.bl _))⟩
  · cases e
def strsD : List Dt → Option (List Str)
  | [] => some []
  | .str b :: r => (strsD r).map fun l => b :: l
  | _ => none
theorem strsD_map : ∀ ss : List Str, strsD (ss.map PyData.str) = some ss
  | [] => rfl
  | x :: r => by simp only [List.map_cons, strsD, strsD_map r, Option.map_some]
theorem strsD_rp {K : PySem.W.Frag} {F : Hp} : ∀ {vs : List V} {ds : List Dt} {bs : List Str}, RpAll K F vs ds → strsD ds = some bs → vs = bs.map V.str
  | _, _, _, .nil, e => by cases e; rfl
  | _, .str b :: ds, bs, .cons h t, e => by
    simp only [strsD, Option.map_eq_some_iff] at e
    obtain ⟨l, e1, rfl⟩ := e
    cases h
    rw [strsD_rp t e1]; rfl
  | _, .none :: _, _, .cons _ _, e => by cases e
  | _, .int _ :: _, _, .cons _ _, e => by cases e
  | _, .bool _ :: _, _, .cons _ _, e => by cases e
  | _, .list _ :: _, _, .cons _ _, e => by cases e
  | _, .tuple _ :: _, _, .cons _ _, e => by cases e
  | _, .dict _ :: _, _, .cons _ _, e => by cases e
theorem rp_strs {K : PySem.W.Frag} {F : Hp} (ys : List Str) : RpAll K F (ys.map V.str) (ys.map PyData.str) := by
  induction ys with
  | nil => exact .nil
  | cons y ys ih => exact .cons (.str y) ih
/-- sorted(xs) of a list of texts -/
def kSortL (t : DTa) : DTl := fun env Q => t env fun evs env1 => wr (rsL env1 evs) fun ds => one ds fun d => asL d fun xs => wr (strsD xs) fun ss => ss.length < 64 ∧ ∀ ys : List Str, ys.Perm ss → PyProof.Rows.sortedS ys = true → Q (ys.map PyData.str) env1
theorem one_mono {ds : List Dt} {Q Q' : Dt → Prop} (i : ∀ d, Q d → Q' d) (h : one ds Q) : one ds Q' := by
  rcases ds with _ | ⟨d, _ | ⟨d2, r⟩⟩
  · exact h.elim
  · exact i _ h
  · exact h.elim
theorem one_get {ds : List Dt} {Q : Dt → Prop} (h : one ds Q) : ∃ d, ds = [d] ∧ Q d := by
  rcases ds with _ | ⟨d, _ | ⟨d2, r⟩⟩
  · exact h.elim
  · exact ⟨d, rfl, h⟩
  · exact h.elim
theorem dl_sortL {e : Expr} {p : Pos} {t : DTa} (hg : Gl X "sorted") (hm : X.mg "sorted" = none) (ha : DA X [e] t) (he : starEach [e] X.env = (false, eval e X.env) :: starEach [] X.env := by rfl) : DL X (.Call (.Name "sorted" p) [e] [] pos) (kSortL t) := by
  refine ⟨fun env Q Q' i q => ha.mono _ _ _ (fun evs env1 q => wr_mono (fun ds q => one_mono (fun d q => asL_mono (fun xs q => wr_mono (fun ss q => ⟨q.1, fun ys a b => i _ _ (q.2 ys a b)⟩) q) q) q) q) q, (pe_callB cr_sortedS hg hm (by decide +kernel) ha.run (by decide) (by decide) he (by rfl)).mono fun σ H Q => ?_⟩
  rintro ⟨F, env, R, q⟩
  refine ⟨F, env, R, ha.mono _ _ _ (fun evs env1 q F1 H1 vs E1 R1 V1 => ?_) q⟩
  obtain ⟨ds, e1, q⟩ := wr_get q
  obtain ⟨d, rfl, q⟩ := one_get q
  obtain ⟨xs, rfl, q⟩ := asL_get q
  obtain ⟨ss, e2, hz, q⟩ := wr_get q
  have t := tpA_of R1 V1 e1
  cases t with
  | cons h t =>
    cases t
    cases h with
    | lst h r =>
      have := strsD_rp r e2
      subst this
      refine ⟨_, ss, rfl, SqL.of h, hz, fun ys p pm so hp => ?_⟩
      obtain ⟨R2, E2⟩ := R1.growN hp (.lst (ys.map V.str))
      have hp1 : H p = none := by
        cases z : H p with
        | none => rfl
        | some u =>
          obtain ⟨u', z'⟩ := E1.there p u z
          rw [hp] at z'; cases z'
      exact q ys pm so F1 _ p _ (E1.trans E2) R2 (R1.fnone hp) upd_same (rp_strs ys) (R1.not_ow hp) hp1
theorem tuA_obj {pins : List (Addr × Obj)} {σ : L2.St} {H : Hp} {s : Shared} {b : Addr} {zs : List V} (I : Inv X pins σ H s) (h : TuA X.K H b zs) :
    ∃ (its : List Value) (m : Nat), s.heap.get? b = some { cls := .type "tuple", dict := none, data := .seq its.toArray m, slots := #[] } ∧ Vals zs its := by
  rcases h with ⟨o, h, ho⟩ | ⟨o, its, m, h1, h2, h3, h4, h5⟩
  · obtain ⟨e1, hz, its, rv, o', e2, _, m, e3⟩ := (show ObjOk X.prog X.w H s.heap b (.frz o (.tup zs)) from I.hok b _ h)
    rw [e1] at e2; cases e2
    obtain ⟨c1, c2, c3⟩ := ho
    refine ⟨its, m, ?_, rv⟩
    rw [e1]
    cases o
    simp only at c1 c2 c3 e3
    subst c1 c2 c3 e3
    rfl
  · obtain ⟨c1, c2, c3⟩ := h2
    refine ⟨its.toList, m, ?_, h5⟩
    rw [I.kIn b o h1]
    cases o
    simp only at c1 c2 c3 h3
    subst c1 c2 c3 h3
    simp
def rExtT (K : PySem.W.Frag) : V → List V → Hp → VK → Prop := fun x vs H Q => ∃ l b xs zs, x = .ref l ∧ vs = [.ref b] ∧ H l = some (.lst xs) ∧ TuA K H b zs ∧ xs.length + zs.length ≤ sizeLine ∧ Q .non (upd H l (.lst (xs ++ zs)))
theorem mt_extT : MtM X "list.extend" (rExtT X.K) := by
  intro pins s σ H x vs v us Q I rx rv h
  obtain ⟨l, b, xs, zs, rfl, rfl, hH, hB, hz, q⟩ := h
  cases rx
  obtain ⟨u, rfl, ru⟩ := rv.one
  cases ru
  obtain ⟨z, its, m, r, hl, e⟩ := I.lstM hH
  obtain ⟨its2, m2, e2, r2⟩ := tuA_obj I hB
  have z1 := r.length
  have z2 := r2.length
  have hsz : its.toArray.size + its2.toArray.size ≤ sizeLine := by rw [List.size_toArray, List.size_toArray]; omega
  have hlong : ¬ (!its.toArray.isEmpty && Builtin.List.listTooLong (its.toArray.size + its2.toArray.size)) = true := by
    rw [notLongL hsz, Bool.and_false]
    exact Bool.false_ne_true
  refine call_meets F.slot_list_extend ⟨_, e, rfl⟩ F.entry_list_extend (F.args_list_extend_2 _ _)
    (AutoSeq1.list_extend_list_tuple_0 l its.toArray m b its2.toArray m2 hlong (by rw [List.size_toArray]; omega) (by omega)) ⟨e, e2, ?_⟩
  refine ⟨.non, _, I.lset (its' := its ++ its2) hH e (by simp) (r.append r2) ?_, rfl, q⟩
  rw [List.length_append]
  omega
def kExtT (i : Nat) (te : DT) : DT := fun env Q => gL env i fun _ => te env fun ev env1 => as1 ev fun d => gL env1 i fun xs => asT d fun ys => xs.length + ys.length ≤ sizeLine ∧ puE i (.obj (.lst (xs ++ ys))) env1 fun env2 => Q (.dat .none) env2
theorem de_extT (i : Nat) {x : Str} {e : Expr} {te : DT} {p apos cpos : Pos} (he : DE X e te) (hN : X.N[i]? = some x := by rfl) (hv : Vis X.env.scope x := by first | exact Or.inl rfl | exact Or.inr (Or.inl rfl) | exact Or.inr (Or.inr rfl)) (hd : (x == ("__debug__" : Str)) = false := by decide) (hcd : (x == ("__classdict__" : Str)) = false := by decide)
    (hs : starEach [e] X.env = (false, eval e X.env) :: starEach [] X.env := by rfl) (hbase : attributeBase (.Name x p) "extend" X.env (eval (.Name x p) X.env) = eval (.Name x p) X.env := by rfl)
    (hfew : ((backTo cpos (starEach [e] X.env)).all (fun x => !x.1) && (backToKw cpos (keywordEach [] X.env)).all (fun x => x.1.isSome) && decide (([e] : List Expr).length + ([] : List Keyword).length + (if ([] : List Keyword).isEmpty then 0 else 1) < 30)) = true := by rfl) (hline : (apos.endLine == cpos.line) = true := by rfl) :
    DE X (.Call (.Attribute (.Name x p) "extend" apos) [e] [] cpos) (kExtT i te) := by
  refine ⟨fun env Q Q' m q => gL_mono (fun _ q => he.mono _ _ _ (fun ev env1 q => as1_mono (fun d q => gL_mono (fun xs q => asT_mono (fun ys q => ⟨q.1, m _ _ q.2⟩) q) q) q) q) q, ?_⟩
  have pe : PE X (.Call (.Attribute (.Name x p) "extend" apos) [e] [] cpos) _ := pe_bm PySem.F.plainAttrs_list PySem.F.slot_list_extend PySem.F.type_list_extend mt_extT (pe_var hN hv hd hcd) (pa_cons he.run pa_nil hs) hbase hfew hline hs rfl
  refine pe.mono fun σ H Q => ?_
  rintro ⟨F, env, R, q⟩
  obtain ⟨xs0, e0, q⟩ := gL_get q
  obtain ⟨v0, es, a0, ev0, hf0, vs0, hp0, _⟩ := R.val i _ e0
  subst ev0
  refine ⟨_, es, .inl ⟨rfl, vs0, SqL.of hp0⟩, F, env, R, he.mono _ _ _ (fun ev env1 q F1 H1 y E1 R1 V1 => ?_) q⟩
  obtain ⟨d, rfl, q'⟩ := as1_get q
  obtain ⟨xs, e1, q⟩ := gL_get q'
  obtain ⟨v1, es1, a1, ev1, hf1, vs1, hp1, ra⟩ := R1.val i _ e1
  rw [es] at es1; cases es1; cases ev1
  obtain ⟨ys, rfl, hz, q⟩ := asT_get q
  have V1 : Rp X.K F1 y _ := V1
  cases V1 with
  | tup hb rb =>
    obtain ⟨R2, E2⟩ := R1.write (o' := .lst (xs ++ ys)) (ho := .lst (vs1 ++ _)) e1 es hf1 ⟨_, upd_same, RpAll.append ra rb⟩
    exact ⟨a0, _, vs1, _, rfl, rfl, hp1, seqT_same R1.sub hb, by rw [ra.length, rb.length]; exact hz, q F1 _ .non (E1.trans E2) R2 .non⟩
end
section
variable {env env' : Dn} {Q : Ev → Dn → Prop} {Ql : List Dt → Dn → Prop} {Qd : Dt → Prop} {nx bk ct : Dn → Prop} {rt : Dv → Dn → Prop} {ex : XP} {te ti tv : DT} {tz : DTa} {i : Nat}
theorem i_lput (h : tv env fun ev env1 => as1 ev fun d => gL env1 i fun _ => ti env1 fun ei env2 => gL env2 i fun xs => wr (rs env2 ei) fun k => asI k fun j => wr (ixN xs.length j) fun m => puE i (.obj (.lst (xs.set m d))) env2 nx) : sLput i ti tv ⟨nx, rt, bk, ct, ex⟩ env := h
theorem i_extT (h : gL env i fun _ => te env fun ev env1 => as1 ev fun d => gL env1 i fun xs => asT d fun ys => xs.length + ys.length ≤ sizeLine ∧ puE i (.obj (.lst (xs ++ ys))) env1 fun env2 => Q (.dat .none) env2) : kExtT i te env Q := h
theorem i_sortL (h : tz env fun evs env1 => wr (rsL env1 evs) fun ds => one ds fun d => asL d fun xs => wr (strsD xs) fun ss => ss.length < 64 ∧ ∀ ys : List Str, ys.Perm ss → PyProof.Rows.sortedS ys = true → Ql (ys.map PyData.str) env1) : kSortL tz env Ql := h
theorem i_maxI {a b : Int} (h : Qd (.int (if b > a then b else a))) : wr (maxD [.int a, .int b]) Qd := h
theorem i_minI {a b : Int} (h : Qd (.int (if b < a then b else a))) : wr (minD [.int a, .int b]) Qd := h
theorem i_allB {ds : List Dt} {bs : List Bool} (e : blsD ds = some bs) (h : Qd (.bool (bs.all id))) : wr (allD [.list ds]) Qd := i_wr (by simp [allD, e]) h
theorem i_anyB {ds : List Dt} {bs : List Bool} (e : blsD ds = some bs) (h : Qd (.bool (bs.any id))) : wr (anyD [.list ds]) Qd := i_wr (by simp [anyD, e]) h
theorem blsD_map : ∀ bs : List Bool, blsD (bs.map PyData.bool) = some bs
  | [] => rfl
  | x :: r => by simp only [List.map_cons, blsD, blsD_map r, Option.map_some]
end
open PySem PySem.Spec L2

def spO {α : Type} (args : α → List Dv) (pre : α → Prop) (post : α → Dt → List Dv → Prop) : DSp := fun as Q => ∃ a : α, as = args a ∧ pre a ∧ ∀ d outs, post a d outs → Q (.dat d) (outs.map some)
theorem spO_mono {α : Type} (args : α → List Dv) (pre : α → Prop) (post : α → Dt → List Dv → Prop) : ∀ as (Q Q' : Dv → Dn → Prop), (∀ r o, Q r o → Q' r o) → spO args pre post as Q → spO args pre post as Q' :=
  fun as Q Q' i ⟨a, e, h, q⟩ => ⟨a, e, h, fun d o p => i _ _ (q d o p)⟩
theorem i_callO {α : Type} {args : α → List Dv} {pre : α → Prop} {post : α → Dt → List Dv → Prop} {nP nK : Nat} {dd : List Dt} {pick : List Nat} {evs kevs : List Ev} {env : Dn} {Q : Ev → Dn → Prop} (a : α)
    (h1 : evs.length = nP) (h2 : kevs.length = nK) (h3 : okV (getP (evs ++ kevs ++ dd.map Ev.dat) pick) = true) (h4 : argsO env (getP (evs ++ kevs ++ dd.map Ev.dat) pick) = some (args a)) (hp : pre a)
    (hq : ∀ d outs, post a d outs → Q (.dat d) (bkA (getP (evs ++ kevs ++ dd.map Ev.dat) pick) (outs.map some) env)) :
    doFn (spO args pre post) nP nK dd pick evs kevs env Q := by
  refine ⟨h1, h2, h3, ?_⟩
  rw [h4]
  exact ⟨a, rfl, hp, fun d o p => hq d o p⟩
section
variable {X : Cx} {pos : Pos} {a b : Expr} {ta tb : DT}
theorem op_isB : OpR X (compareOp .Is) (fun x y H Q => ∃ b c, x = .bl b ∧ y = .bl c ∧ Q (.bl (b == c)) H) := by
  intro pins s σ H x y v u Q I rx ry h
  obtain ⟨b, c, rfl, rfl, q⟩ := h
  cases rx
  cases ry
  show wpAny _ _ ((isSame (Value.bool b) (Value.bool c)) >>= fun z => pure (Value.bool z)) _ _ s
  have e : isSame (Value.bool b) (Value.bool c) = pure (b == c) := by cases b <;> cases c <;> rfl
  rw [e]
  exact wpAny_pure (fin_bl I q rfl)
theorem op_isntB : OpR X (compareOp .IsNot) (fun x y H Q => ∃ b c, x = .bl b ∧ y = .bl c ∧ Q (.bl (!(b == c))) H) := by
  intro pins s σ H x y v u Q I rx ry h
  obtain ⟨b, c, rfl, rfl, q⟩ := h
  cases rx
  cases ry
  show wpAny _ _ ((isSame (Value.bool b) (Value.bool c)) >>= fun z => pure (Value.bool (!z))) _ _ s
  have e : isSame (Value.bool b) (Value.bool c) = pure (b == c) := by cases b <;> cases c <;> rfl
  rw [e]
  exact wpAny_pure (fin_bl I q rfl)
def isBD (d e : Dt) : Option Dt := match d, e with
  | .bool b, .bool c => some (.bool (b == c))
  | _, _ => none
def isntBD (d e : Dt) : Option Dt := match d, e with
  | .bool b, .bool c => some (.bool (!(b == c)))
  | _, _ => none
theorem lk_isB : LkOp X.K (fun x y H Q => ∃ b c, x = .bl b ∧ y = .bl c ∧ Q (.bl (b == c)) H) isBD := by
  intro F H x y dx dy d Q sm tx ty e q
  unfold isBD at e
  split at e
  · cases tx; cases ty; cases e
    exact ⟨_, _, rfl, rfl, q _ _ (.old (.bl _))⟩
  · cases e
theorem lk_isntB : LkOp X.K (fun x y H Q => ∃ b c, x = .bl b ∧ y = .bl c ∧ Q (.bl (!(b == c))) H) isntBD := by
  intro F H x y dx dy d Q sm tx ty e q
  unfold isntBD at e
  split at e
  · cases tx; cases ty; cases e
    exact ⟨_, _, rfl, rfl, q _ _ (.old (.bl _))⟩
  · cases e
theorem de_isB (ha : DE X a ta) (hb : DE X b tb) : DE X (.Compare a [.Is] [b] pos) (kOp isBD ta tb) := de_cmp op_isB lk_isB ha hb (nomark _)
theorem db_isB (ha : DE X a ta) (hb : DE X b tb) : DB X (.Compare a [.Is] [b] pos) (kB (kOp isBD ta tb)) := db_cmp op_isB lk_isB ha hb (nomark _)
theorem de_isntB (ha : DE X a ta) (hb : DE X b tb) : DE X (.Compare a [.IsNot] [b] pos) (kOp isntBD ta tb) := de_cmp op_isntB lk_isntB ha hb (nomark _)
theorem db_isntB (ha : DE X a ta) (hb : DE X b tb) : DB X (.Compare a [.IsNot] [b] pos) (kB (kOp isntBD ta tb)) := db_cmp op_isntB lk_isntB ha hb (nomark _)
end
theorem i_isB {b c : Bool} {Qd : Dt → Prop} (h : Qd (.bool (b == c))) : wr (isBD (.bool b) (.bool c)) Qd := h
theorem i_isntB {b c : Bool} {Qd : Dt → Prop} (h : Qd (.bool (!(b == c)))) : wr (isntBD (.bool b) (.bool c)) Qd := h
section
variable {X : Cx} {pos : Pos} {k : Nat} {f : Addr} {fd : FuncData} {ps ks : List Str} {sp : DSp} {dvs : List V} {dd : List Dt} {pick : List Nat} {x : Str} {p : Pos} {kws : List Keyword} {tk : DTa}
/-- f(k = v, ..): keywords alone -/
theorem de_fnK0 (F : FnG X.prog X.w X.K X.mg X.base k f fd ps sp) (hr : Room k X.A) (hgd : X.A.guards = some []) (hg : Gl X x) (hm : X.mg x = some (.ref f)) (hk : PySem.W.keepIn X.K (.ref f) = true) (hb : BindP X.K fd ps 0 ks dvs pick) (hd : RpAll X.K (fun _ => none) dvs dd) (hkw : DKw X kws tk)
    (hall : (backToKw pos (keywordEach kws X.env)).all (·.1.isSome) = true := by rfl) (hks : (backToKw pos (keywordEach kws X.env)).filterMap (·.1) = ks := by rfl)
    (hdb : (x == ("__debug__" : Str)) = false := by decide)
    (hpl : ((backTo pos (starEach [] X.env)).any (·.1) || (backToKw pos (keywordEach kws X.env)).any (·.1.isNone)) = false := by rfl) :
    DE X (.Call (.Name x p) [] kws pos) (kFn sp 0 ks.length dd pick kNil tk) := by
  have mk : MonoA kNil := fun env Q Q' i h => i _ _ h
  have pe : PE X (.Call (.Name x p) [] kws pos) (tCG X.K sp 0 ks.length dvs pick tNil (tDa X.K tk)) := by
    constructor
    intro pins s σ H Q I h
    apply wpAny_Call_Name_kw
    apply ld_glob I hg hm _ hdb
    refine PySem.W.callWith_KW0 (h₀ := X.base) I.ok.mod.kin hk hall (thn (hkw.run.run pos pins s σ H _ I h) ?_) hpl
    rintro ws s2 ⟨zs, H2, I2, rz, l1, l2, q2⟩
    refine ⟨I2.kIn, ?_⟩
    rw [hks]
    obtain ⟨ds, rd, to⟩ := hb.to
    have b := to s2 [] ws I2.kIn rfl (by rw [← rz.length]; exact l2)
    refine run_g F hr hgd I2 b (vals_getP ((show Vals ([] ++ zs) ([] ++ ws) from rz).append rd) pick) ?_ q2
    rw [getP_len]
    · exact hb.len
    · intro j hj
      have := hb.lt j hj
      rw [List.length_append, List.length_append, l2]
      exact this
  exact ⟨kFn_mono F mk hkw.mono, pe.mono fun σ H Q h => by
    obtain ⟨F0, env, R, q⟩ := kFn_run F hb hd mk hkw.mono h
    exact q F0 H [] Ext.refl R .nil⟩
end
open PySem PySem.Spec L2
section
variable {X : Cx} {pos : Pos} {a b : Expr} {ta tb : DT}
/-- xs + ys: a new list -/
def kCatL (ta tb : DT) : DTl := fun env Q => ta env fun ea env1 => tb env1 fun eb env2 => wr (rs env2 ea) fun dx => wr (rs env2 eb) fun dy => asL dx fun xs => asL dy fun ys => xs.length + ys.length ≤ sizeLine ∧ Q (xs ++ ys) env2
theorem dl_add (ha : DE X a ta) (hb : DE X b tb) : DL X (.BinOp a .Add b pos) (kCatL ta tb) := by
  refine ⟨fun env Q Q' i q => ha.mono _ _ _ (fun ea env1 q => hb.mono _ _ _ (fun eb env2 q => wr_mono (fun dx q => wr_mono (fun dy q => asL_mono (fun xs q => asL_mono (fun ys q => ⟨q.1, i _ _ q.2⟩) q) q) q) q) q) q, (pe_op op_cat ha.run hb.run).mono fun σ H Q => ?_⟩
  rintro ⟨F, env, R, q⟩
  refine ⟨F, env, R, ha.mono _ _ _ (fun ea env1 h1 F1 H1 x E1 R1 V1 => ⟨F1, env1, R1, hb.mono _ _ _ (fun eb env2 h2 F2 H2 y E2 R2 V2 => ?_) h1⟩) q⟩
  obtain ⟨dx, e1, h2⟩ := wr_get h2
  obtain ⟨dy, e2, h2⟩ := wr_get h2
  obtain ⟨xs, rfl, h2⟩ := asL_get h2
  obtain ⟨ys, rfl, hz, h2⟩ := asL_get (d := dy) h2
  have t1 := tp_of R2 (V1.move E2) e1
  have t2 := tp_of R2 V2 e2
  cases t1 with
  | lst g1 r1 =>
    cases t2 with
    | lst g2 r2 =>
      refine ⟨_, _, _, _, rfl, rfl, g1, g2, by rw [r1.length, r2.length]; exact hz, fun p hp => ?_⟩
      obtain ⟨R3, E3⟩ := R2.growN hp (.lst (_ ++ _))
      have hp1 : H p = none := by
        cases z : H p with
        | none => rfl
        | some u =>
          obtain ⟨u', z'⟩ := (E1.trans E2).there p u z
          rw [hp] at z'; cases z'
      exact h2 F2 _ p _ ((E1.trans E2).trans E3) R3 (R2.fnone hp) upd_same (RpAll.append r1 r2) (R2.not_ow hp) hp1
end
open PySem PySem.Spec L2

class Stp (p : Prop) (q : outParam Prop) : Prop where
  imp : q → p
/-- slot i holds v -/
class Lk (env : Dn) (i : Nat) (v : outParam (Option Dv)) : Prop where
  e : env[i]? = some v
instance lk0 {v : Option Dv} {r : Dn} : Lk (v :: r) 0 v := ⟨rfl⟩
instance lk1 {x v : Option Dv} {r : Dn} {i : Nat} [h : Lk r i v] : Lk (x :: r) (i + 1) v := ⟨by rw [List.getElem?_cons_succ]; exact h.e⟩
/-- slot i is given v -/
class St1 (env : Dn) (i : Nat) (v : Option Dv) (env' : outParam Dn) : Prop where
  e : env.set i v = env'
instance st0 {v x : Option Dv} {r : Dn} : St1 (x :: r) 0 v (v :: r) := ⟨rfl⟩
instance st1 {x v : Option Dv} {r r' : Dn} {i : Nat} [h : St1 r i v r'] : St1 (x :: r) (i + 1) v (x :: r') := ⟨by rw [List.set_cons_succ, h.e]⟩
class Wi (env : Dn) (vs : List Nat) (env' : outParam Dn) : Prop where
  e : wipeD env vs = env'
section
variable {env env' : Dn} {Q : Ev → Dn → Prop} {Qb : Bool → Dn → Prop} {Ql : List Dt → Dn → Prop} {Qa : List Ev → Dn → Prop} {Qd : Dt → Prop} {nx bk ct : Dn → Prop} {rt : Dv → Dn → Prop} {ex : XP} {t u : DTS} {te ta tb tk tv ti : DT} {c c' : DTb} {tl : DTl} {tz tz' : DTa} {i : Nat} {d : Dt} {o : Ob} {E : DEnds} {g : DTg}
instance s_seq  : Stp (sSeq t u ⟨nx, rt, bk, ct, ex⟩ env) (t ⟨u ⟨nx, rt, bk, ct, ex⟩, rt, bk, ct, ex⟩ env) := ⟨i_seq⟩
instance s_if  : Stp (sIf c t u E env) (c env fun b env1 => if b = true then t E env1 else u E env1) := ⟨i_if⟩
instance s_ret  : Stp (sRet te ⟨nx, rt, bk, ct, ex⟩ env) (te env fun ev env1 => retE ev fun r => rt r env1) := ⟨i_ret⟩
instance s_set  : Stp (sSet i te ⟨nx, rt, bk, ct, ex⟩ env) (te env fun ev env1 => setE i ev env1 nx) := ⟨i_set⟩
instance s_par {is : List Nat} : Stp (sPar is tz ⟨nx, rt, bk, ct, ex⟩ env) (tz env fun evs env1 => setL is evs env1 nx) := ⟨i_par⟩
instance s_asg  : Stp (sAsg te g ⟨nx, rt, bk, ct, ex⟩ env) (te env fun ev env1 => as1 ev fun d => g d env1 nx) := ⟨i_asg⟩
instance s_drop  : Stp (sDrop te ⟨nx, rt, bk, ct, ex⟩ env) (te env fun _ env1 => nx env1) := ⟨i_drop⟩
instance s_fn {sp : DSp} {nP nK : Nat} {dd : List Dt} {pick : List Nat} : Stp (kFn sp nP nK dd pick tz tz' env Q) (tz env fun evs env1 => tz' env1 fun kevs env2 => doFn sp nP nK dd pick evs kevs env2 Q) := ⟨i_fn⟩
instance s_op {f : Dt → Dt → Option Dt} : Stp (kOp f ta tb env Q) (ta env fun a env1 => tb env1 fun b env2 => wr (rs env2 a) fun dx => wr (rs env2 b) fun dy => wr (f dx dy) fun d => Q (.dat d) env2) := ⟨i_op⟩
instance s_kCall {f : List Dt → Option Dt} : Stp (kCall f tz env Q) (tz env fun evs env1 => wr (rsL env1 evs) fun ds => wr (f ds) fun d => Q (.dat d) env1) := ⟨i_kCall⟩
instance s_un {f : Dt → Option Dt} : Stp (kUn f ta env Q) (ta env fun ea env1 => wr (rs env1 ea) fun dx => wr (f dx) fun d => Q (.dat d) env1) := ⟨i_un⟩
instance s_isi {f : Dt → Bool} : Stp (kIsi f te env Q) (te env fun ev env1 => wr (rs env1 ev) fun d => Q (.dat (.bool (f d))) env1) := ⟨i_isi⟩
instance s_tup  : Stp (kTup tz env Q) (tz env fun evs env1 => asD evs fun ds => lenOk ds.length ∧ Q (.dat (.tuple ds)) env1) := ⟨i_tup⟩
instance s_LF  : Stp (kLF tl env Q) (tl env fun ds env' => Q (.dat (.list ds)) env') := ⟨i_LF⟩
instance s_LN  : Stp (kLN tl env Q) (tl env fun ds env' => Q (.new (.lst ds)) env') := ⟨i_LN⟩
instance s_Lst  : Stp (kLst tz env Ql) (tz env fun evs env1 => asD evs fun ds => lenOk ds.length ∧ Ql ds env1) := ⟨i_Lst⟩
instance s_cons  : Stp (kCons te tz env Qa) (te env fun ev env1 => tz env1 fun evs env2 => Qa (ev :: evs) env2) := ⟨i_cons⟩
instance s_nil  : Stp (kNil env Qa) (Qa [] env) := ⟨i_nil⟩
instance s_C  : Stp (kC d env Q) (Q (.dat d) env) := ⟨i_C⟩
instance s_B  : Stp (kB te env Qb) (te env fun ev env1 => asB ev fun b => Qb b env1) := ⟨i_B⟩
instance s_andB  : Stp (kAndB c c' env Qb) (c env fun b env1 => if b = true then c' env1 Qb else Qb false env1) := ⟨i_andB⟩
instance s_orB  : Stp (kOrB c c' env Qb) (c env fun b env1 => if b = true then Qb true env1 else c' env1 Qb) := ⟨i_orB⟩
instance s_notB  : Stp (kNotB c env Qb) (c env fun b env1 => Qb (!b) env1) := ⟨i_notB⟩
instance s_kIf  : Stp (kIf c ta tb env Q) (c env fun b env1 => if b = true then ta env1 Q else tb env1 Q) := ⟨i_kIf⟩
instance s_andV  : Stp (kAndV ta tb env Q) (ta env fun ev env1 => asB ev fun b => if b = true then tb env1 Q else Q (.dat (.bool false)) env1) := ⟨i_andV⟩
instance s_orV  : Stp (kOrV ta tb env Q) (ta env fun ev env1 => asB ev fun b => if b = true then Q (.dat (.bool true)) env1 else tb env1 Q) := ⟨i_orV⟩
instance s_notV  : Stp (kNotV ta env Q) (ta env fun ev env1 => asB ev fun b => Q (.dat (.bool (!b))) env1) := ⟨i_notV⟩
instance s_asB {b : Bool} {q : Bool → Prop} : Stp (asB (.dat (.bool b)) q) (q b) := ⟨i_asB⟩
instance s_iteT {p q : Prop} : Stp (if true = true then p else q) (p) := ⟨i_iteT⟩
instance s_iteF {p q : Prop} : Stp (if false = true then p else q) (q) := ⟨i_iteF⟩
instance s_iteN1 {p q : Prop} : Stp (if (!true) = true then p else q) (q) := ⟨i_iteN1⟩
instance s_iteN0 {p q : Prop} : Stp (if (!false) = true then p else q) (p) := ⟨i_iteN0⟩
instance s_retD {q : Dv → Prop} : Stp (retE (.dat d) q) (q (.dat d)) := ⟨i_retD⟩
instance s_retO {q : Dv → Prop} : Stp (retE (.new o) q) (q (.obj o)) := ⟨i_retO⟩
instance s_setL0  : Stp (setL [] [] env nx) (nx env) := ⟨i_setL0⟩
instance s_as1  : Stp (as1 (.dat d) Qd) (Qd d) := ⟨i_as1⟩
instance s_gsN  : Stp (gsN [] env nx) (nx env) := ⟨i_gsN⟩
instance s_gsC {gs : DTgs} {ds : List Dt} : Stp (gsC g gs (d :: ds) env nx) (g d env fun env1 => gs ds env1 nx) := ⟨i_gsC⟩
instance s_for  : Stp (sFor tl g t E env) (tl env fun ds env1 => dFor g t E ds env1) := ⟨i_for⟩
instance s_iSeq  : Stp (iSeq te env Ql) (te env fun ev env1 => as1 ev fun d => wr (seqD d) fun ds => Ql ds env1) := ⟨i_iSeq⟩
instance s_iRng  : Stp (iRng te env Ql) (te env fun ev env1 => as1 ev fun d => asI d fun j => (-(2 ^ 62) ≤ j ∧ j < 2 ^ 62) ∧ Ql (rngL 0 j) env1) := ⟨i_iRng⟩
instance s_iZp  : Stp (iZp tz env Ql) (tz env fun evs env1 => asD evs fun ds => zpD ds fun xs => Ql xs env1) := ⟨i_iZp⟩
instance s_rsD  : Stp (wr (rs env (.dat d)) Qd) (Qd d) := ⟨i_rsD⟩
instance s_rsN {xs : List Dt} : Stp (wr (rs env (.new (.lst xs))) Qd) (Qd (.list xs)) := ⟨i_rsN⟩
instance s_strK {k : Str} {q : Str → Prop} : Stp (wr ((rs env (.dat (.str k))).bind strK) q) (q k) := ⟨i_strK⟩
instance s_asD0 {q : List Dt → Prop} : Stp (asD [] q) (q []) := ⟨i_asD0⟩
instance s_asDc {q : List Dt → Prop} {evs : List Ev} : Stp (asD (.dat d :: evs) q) (asD evs fun ds => q (d :: ds)) := ⟨i_asDc⟩
instance s_nx  : Stp (sNx ⟨nx, rt, bk, ct, ex⟩ env) (nx env) := ⟨i_nx⟩
instance s_brk  : Stp (sBk ⟨nx, rt, bk, ct, ex⟩ env) (bk env) := ⟨i_brk⟩
instance s_cnt  : Stp (sCt ⟨nx, rt, bk, ct, ex⟩ env) (ct env) := ⟨i_cnt⟩
instance s_retN  : Stp (sRetN ⟨nx, rt, bk, ct, ex⟩ env) (rt (.dat .none) env) := ⟨i_retN⟩
instance s_toLst  : Stp (kToLst tz env Ql) (tz env fun evs env1 => wr (rsL env1 evs) fun ds => one ds fun d => wr (seqD d) fun xs => Ql xs env1) := ⟨i_toLst⟩
instance s_app  : Stp (kApp i te env Q) (gL env i fun _ => te env fun ev env1 => as1 ev fun d => gL env1 i fun xs => xs.length < sizeLine ∧ puE i (.obj (.lst (xs ++ [d]))) env1 fun env2 => Q (.dat .none) env2) := ⟨i_app⟩
instance s_ext  : Stp (kExt i te env Q) (gL env i fun _ => te env fun ev env1 => as1 ev fun d => gL env1 i fun xs => asL d fun ys => xs.length + ys.length ≤ sizeLine ∧ puE i (.obj (.lst (xs ++ ys))) env1 fun env2 => Q (.dat .none) env2) := ⟨i_ext⟩
instance s_pop  : Stp (kPop i env Q) (gL env i fun xs => wr xs.getLast? fun d => puE i (.obj (.lst xs.dropLast)) env fun env2 => Q (.dat d) env2) := ⟨i_pop⟩
instance s_rev  : Stp (kRev te env Ql) (te env fun ev env1 => wr (rs env1 ev) fun d => asL d fun ds => Ql ds.reverse env1) := ⟨i_rev⟩
instance s_dnew  : Stp (kDnew env Q) (Q (.new (.dic [])) env) := ⟨i_dnew⟩
instance s_dget2  : Stp (kDget2 i tk tv env Q) (gD env i fun _ => tk env fun ek env1 => tv env1 fun ed env2 => as1 ed fun d0 => gD env2 i fun kvs => wr ((rs env2 ek).bind strK) fun k => Q (.dat ((getS kvs k).getD d0)) env2) := ⟨i_dget2⟩
instance s_dix  : Stp (kDix i tk env Q) (gD env i fun _ => tk env fun ek env1 => gD env1 i fun kvs => wr ((rs env1 ek).bind strK) fun k => wr (getS kvs k) fun d => Q (.dat d) env1) := ⟨i_dix⟩
instance s_dput  : Stp (sDput i tk tv ⟨nx, rt, bk, ct, ex⟩ env) (tv env fun ev env1 => as1 ev fun d => gD env1 i fun _ => tk env1 fun ek env2 => gD env2 i fun kvs => wr ((rs env2 ek).bind strK) fun k => kvs.length < sizeLine ∧ puE i (.obj (.dic (putS kvs k d))) env2 nx) := ⟨i_dput⟩
instance s_dict  : Stp (kDict tz env Q) (tz env fun evs env1 => wr (rsL env1 evs) fun ds => one ds fun d => wr (dicOf d) fun kvs => Q (.new (.dic (mergeS [] kvs))) env1) := ⟨i_dict⟩
instance s_sortD  : Stp (kSortD i env Ql) (gD env i fun kvs => kvs.length < 64 ∧ ∀ ys : List Str, ys.Perm (kvs.map (·.1)) → PyProof.Rows.sortedS ys = true → Ql (ys.map PyData.str) env) := ⟨i_sortD⟩
instance s_pNil {q : List (Str × Dt) → Dn → Prop} : Stp (pNil env q) (q [] env) := ⟨i_pNil⟩
instance s_pCons {q : List (Str × Dt) → Dn → Prop} {k : Str} {up : DTp} : Stp (pCons k tv up env q) (tv env fun ev env1 => as1 ev fun d => up env1 fun kvs env2 => q ((k, d) :: kvs) env2) := ⟨i_pCons⟩
instance s_disp {tp : DTp} : Stp (kDisp tp env Q) (tp env fun kvs env1 => kvs.length ≤ 15 ∧ Q (.new (.dic (mergeS [] kvs))) env1) := ⟨i_disp⟩
instance s_comp {vs : List Nat} : Stp (kComp vs tl g c te env Ql) (tl env fun ds env1 => lenOk ds.length ∧ dComp vs g c te Ql ds [] (wipeD env1 vs)) := ⟨i_comp⟩
instance s_comp0 {vs : List Nat} {acc : List Dt} : Stp (dComp vs g c te Ql [] acc env) (Ql acc env) := ⟨i_comp0⟩
instance s_yes  : Stp (tYesD env Qb) (Qb true env) := ⟨i_yes⟩
instance s_addI {a b : Int} : Stp (wr (addD (.int a) (.int b)) Qd) (Qd (.int (a + b))) := ⟨i_addI⟩
instance s_subI {a b : Int} : Stp (wr (subD (.int a) (.int b)) Qd) (Qd (.int (a - b))) := ⟨i_subI⟩
instance s_negI {a : Int} : Stp (wr (negD (.int a)) Qd) (Qd (.int (-a))) := ⟨i_negI⟩
instance s_ltI {a b : Int} : Stp (wr (ltD (.int a) (.int b)) Qd) (Qd (.bool (decide (a < b)))) := ⟨i_ltI⟩
instance s_leI {a b : Int} : Stp (wr (leD (.int a) (.int b)) Qd) (Qd (.bool (decide (a ≤ b)))) := ⟨i_leI⟩
instance s_gtI {a b : Int} : Stp (wr (gtD (.int a) (.int b)) Qd) (Qd (.bool (decide (b < a)))) := ⟨i_gtI⟩
instance s_geI {a b : Int} : Stp (wr (geD (.int a) (.int b)) Qd) (Qd (.bool (decide (b ≤ a)))) := ⟨i_geI⟩
instance s_toIntB {b : Bool} : Stp (wr (toIntD [.bool b]) Qd) (Qd (.int (if b then 1 else 0))) := ⟨i_toIntB⟩
instance s_eqS1 {a : Str} : Stp (wr (eqD (.str a) (.str a)) Qd) (Qd (.bool true)) := ⟨i_eqS1⟩
instance s_neS1 {a : Str} : Stp (wr (neD (.str a) (.str a)) Qd) (Qd (.bool false)) := ⟨i_neS1⟩
instance s_eqI {a b : Int} : Stp (wr (eqD (.int a) (.int b)) Qd) (Qd (.bool (decide (a = b)))) := ⟨i_eqI⟩
instance s_neI {a b : Int} : Stp (wr (neD (.int a) (.int b)) Qd) (Qd (.bool (!decide (a = b)))) := ⟨i_neI⟩
instance s_one {q : Dt → Prop} : Stp (one [d] q) (q d) := ⟨i_one⟩
instance s_asL {q : List Dt → Prop} {ds : List Dt} : Stp (asL (.list ds) q) (q ds) := ⟨i_asL⟩
instance s_zpT {q : List Dt → Prop} {xs ys : List Dt} : Stp (zpD [.tuple xs, .tuple ys] q) (q (zipD xs ys)) := ⟨i_zpT⟩
instance s_zpL {q : List Dt → Prop} {xs ys : List Dt} : Stp (zpD [.list xs, .list ys] q) (q (zipD xs ys)) := ⟨i_zpL⟩
instance s_sqT {q : List Dt → Prop} {xs : List Dt} : Stp (wr (seqD (.tuple xs)) q) (q xs) := ⟨i_sqT⟩
instance s_sqL {q : List Dt → Prop} {xs : List Dt} : Stp (wr (seqD (.list xs)) q) (q xs) := ⟨i_sqL⟩
instance s_ttL {xs : List Dt} : Stp (wr (toTupD [.list xs]) Qd) (Qd (.tuple xs)) := ⟨i_ttL⟩
instance s_ttT {xs : List Dt} : Stp (wr (toTupD [.tuple xs]) Qd) (Qd (.tuple xs)) := ⟨i_ttT⟩
instance s_rsL1N {q : List Dt → Prop} {xs : List Dt} : Stp (wr (rsL env [.new (.lst xs)]) q) (q [.list xs]) := ⟨i_rsL1N⟩
instance s_asI {q : Int → Prop} {j : Int} : Stp (asI (.int j) q) (q j) := ⟨i_asI⟩
instance s_rsL1 {q' : List Dt → Prop} : Stp (wr (rsL env [.dat d]) q') (q' [d]) := ⟨i_rsL1⟩
instance s_lenL {ds : List Dt} : Stp (wr (lenD [.list ds]) Qd) (Qd (.int ds.length)) := ⟨i_lenL⟩
end
section
variable {ns : List Int} {a l m : Int} {q : Dn → Prop} {env : Dn} {i : Nat} {Qd : Dt → Prop}
instance s_fc  : Stp (wr (getS (fkv ns a l m) "count") Qd) (Qd (.int m)) := ⟨i_fc⟩
instance s_fl  : Stp (wr (getS (fkv ns a l m) "left") Qd) (Qd (.int l)) := ⟨i_fl⟩
instance s_fa  : Stp (wr (getS (fkv ns a l m) "at") Qd) (Qd (.int a)) := ⟨i_fa⟩
instance s_fz  : Stp (wr (getS (fkv ns a l m) "cells") Qd) (Qd (.list (ns.map .int))) := ⟨i_fz⟩
instance s_gc {m' : Int} : Stp (puE i (.obj (.dic (putS (fkv ns a l m) "count" (.int m')))) env q) (puE i (.obj (.dic (fkv ns a l m'))) env q) := ⟨i_gc⟩
instance s_gl {m' : Int} : Stp (puE i (.obj (.dic (putS (fkv ns a l m) "left" (.int m')))) env q) (puE i (.obj (.dic (fkv ns a m' m))) env q) := ⟨i_gl⟩
instance s_ga {m' : Int} : Stp (puE i (.obj (.dic (putS (fkv ns a l m) "at" (.int m')))) env q) (puE i (.obj (.dic (fkv ns m' l m))) env q) := ⟨i_ga⟩
instance s_fsz {p : Prop} : Stp ((fkv ns a l m).length < sizeLine ∧ p) (p) := ⟨i_fsz⟩
instance s_cne  : Stp (wr (neD (.list (ns.map .int)) (.list [])) Qd) (Qd (.bool (!ns.isEmpty))) := ⟨i_cne⟩
end
section
variable {env : Dn} {Qo : Option Int → Dn → Prop} {Q : Ev → Dn → Prop} {Ql : List Dt → Dn → Prop} {te : DT} {tl th : DTo}
instance s_oN  : Stp (oN env Qo) (Qo none env) := ⟨i_oN⟩
instance s_oS  : Stp (oS te env Qo) (te env fun ev env1 => wr (rs env1 ev) fun d => asI d fun i => Qo (some i) env1) := ⟨i_oS⟩
instance s_slT  : Stp (kSlT te tl th env Q) (te env fun ev env1 => tl env1 fun l env2 => th env2 fun h env3 => wr (rs env3 ev) fun d => asT d fun ds => Q (.dat (.tuple (cutD ds l h))) env3) := ⟨i_slT⟩
instance s_slL  : Stp (kSlL te tl th env Ql) (te env fun ev env1 => tl env1 fun l env2 => th env2 fun h env3 => wr (rs env3 ev) fun d => asL d fun ds => Ql (cutD ds l h) env3) := ⟨i_slL⟩
instance s_asT {q : List Dt → Prop} {ds : List Dt} : Stp (asT (.tuple ds) q) (q ds) := ⟨i_asT⟩
end
section
variable {env env' : Dn} {Q : Ev → Dn → Prop} {Qb : Bool → Dn → Prop} {Ql : List Dt → Dn → Prop} {Qa : List Ev → Dn → Prop} {Qd : Dt → Prop} {nx bk ct : Dn → Prop} {rt : Dv → Dn → Prop} {t u : DTS} {te ta tb tk tv ti : DT} {c c' : DTb} {tl : DTl} {tz tz' : DTa} {i : Nat} {d : Dt} {o : Ob} {E : DEnds} {g : DTg}
instance s_lput  : Stp (sLput i ti tv ⟨nx, rt, bk, ct, ex⟩ env) (tv env fun ev env1 => as1 ev fun d => gL env1 i fun _ => ti env1 fun ei env2 => gL env2 i fun xs => wr (rs env2 ei) fun k => asI k fun j => wr (ixN xs.length j) fun m => puE i (.obj (.lst (xs.set m d))) env2 nx) := ⟨i_lput⟩
instance s_extT  : Stp (kExtT i te env Q) (gL env i fun _ => te env fun ev env1 => as1 ev fun d => gL env1 i fun xs => asT d fun ys => xs.length + ys.length ≤ sizeLine ∧ puE i (.obj (.lst (xs ++ ys))) env1 fun env2 => Q (.dat .none) env2) := ⟨i_extT⟩
instance s_sortL  : Stp (kSortL tz env Ql) (tz env fun evs env1 => wr (rsL env1 evs) fun ds => one ds fun d => asL d fun xs => wr (strsD xs) fun ss => ss.length < 64 ∧ ∀ ys : List Str, ys.Perm ss → PyProof.Rows.sortedS ys = true → Ql (ys.map PyData.str) env1) := ⟨i_sortL⟩
instance s_maxI {a b : Int} : Stp (wr (maxD [.int a, .int b]) Qd) (Qd (.int (if b > a then b else a))) := ⟨i_maxI⟩
instance s_minI {a b : Int} : Stp (wr (minD [.int a, .int b]) Qd) (Qd (.int (if b < a then b else a))) := ⟨i_minI⟩
instance s_isB {b c : Bool} {Qd : Dt → Prop} : Stp (wr (isBD (.bool b) (.bool c)) Qd) (Qd (.bool (b == c))) := ⟨i_isB⟩
instance s_isntB {b c : Bool} {Qd : Dt → Prop} : Stp (wr (isntBD (.bool b) (.bool c)) Qd) (Qd (.bool (!(b == c)))) := ⟨i_isntB⟩
instance s_varD [h : Lk env i (some (.dat d))] : Stp (kVar i env Q) (Q (.dat d) env) := ⟨i_varD h.e⟩
instance s_varO [h : Lk env i (some (.obj o))] : Stp (kVar i env Q) (Q (.var i) env) := ⟨i_varO h.e⟩
theorem rs_lst {xs : List Dt} (h : env[i]? = some (some (.obj (.lst xs)))) : rs env (.var i) = some (.list xs) := by simp only [rs, h]
instance s_rsV {xs : List Dt} [h : Lk env i (some (.obj (.lst xs)))] : Stp (wr (rs env (.var i)) Qd) (Qd (.list xs)) := ⟨i_rsV (rs_lst h.e)⟩
instance s_rsL1V {xs : List Dt} {q : List Dt → Prop} [h : Lk env i (some (.obj (.lst xs)))] : Stp (wr (rsL env [.var i]) q) (q [.list xs]) := ⟨i_rsL1V (rs_lst h.e)⟩
instance s_rsL2 {d d' : Dt} {q : List Dt → Prop} : Stp (wr (rsL env [.dat d, .dat d']) q) (q [d, d']) := ⟨fun h => h⟩
instance s_frzD [h : Lk env i (some (.dat d))] : Stp (kFrz i env Q) (Q (.dat d) env) := ⟨i_frzD h.e⟩
instance s_frzO {xs : List Dt} [h : Lk env i (some (.obj (.lst xs)))] : Stp (kFrz i env Q) (puE i (.dat (.list xs)) env fun env' => Q (.dat (.list xs)) env') := ⟨i_frzO h.e⟩
instance s_gL {xs : List Dt} {q : List Dt → Prop} [h : Lk env i (some (.obj (.lst xs)))] : Stp (gL env i q) (q xs) := ⟨i_gL h.e⟩
instance s_gD {xs : List (Str × Dt)} {q : List (Str × Dt) → Prop} [h : Lk env i (some (.obj (.dic xs)))] : Stp (gD env i q) (q xs) := ⟨i_gD h.e⟩
instance s_setD [h : St1 env i (some (.dat d)) env'] : Stp (setE i (.dat d) env nx) (nx env') := ⟨i_setD h.e⟩
instance s_setN [h : St1 env i (some (.obj o)) env'] : Stp (setE i (.new o) env nx) (nx env') := ⟨i_setN h.e⟩
instance s_setLD {is : List Nat} {evs : List Ev} [h : St1 env i (some (.dat d)) env'] : Stp (setL (i :: is) (.dat d :: evs) env nx) (setL is evs env' nx) := ⟨i_setLD h.e⟩
instance s_setLN {is : List Nat} {evs : List Ev} [h : St1 env i (some (.obj o)) env'] : Stp (setL (i :: is) (.new o :: evs) env nx) (setL is evs env' nx) := ⟨i_setLN h.e⟩
instance s_gN [h : St1 env i (some (.dat d)) env'] : Stp (gN i d env nx) (nx env') := ⟨i_gN h.e⟩
instance s_puE {q : Dn → Prop} {v : Dv} [h : St1 env i (some v) env'] : Stp (puE i v env q) (q env') := ⟨i_puE h.e⟩
theorem wipe0 : wipeD env [] = env := by simp [wipeD]
instance s_isN0 : Stp (wr (isND .none .none) Qd) (Qd (.bool true)) := ⟨fun h => h⟩
instance s_isN1 {xs : List Dt} : Stp (wr (isND (.tuple xs) .none) Qd) (Qd (.bool false)) := ⟨fun h => h⟩
instance s_isN2 {xs : List Dt} : Stp (wr (isND (.list xs) .none) Qd) (Qd (.bool false)) := ⟨fun h => h⟩
instance s_isN3 {x : Str} : Stp (wr (isND (.str x) .none) Qd) (Qd (.bool false)) := ⟨fun h => h⟩
instance s_isN4 {x : Int} : Stp (wr (isND (.int x) .none) Qd) (Qd (.bool false)) := ⟨fun h => h⟩
instance s_notN0 : Stp (wr (notND .none .none) Qd) (Qd (.bool false)) := ⟨fun h => h⟩
instance s_notN1 {xs : List Dt} : Stp (wr (notND (.tuple xs) .none) Qd) (Qd (.bool true)) := ⟨fun h => h⟩
instance s_notN2 {xs : List Dt} : Stp (wr (notND (.list xs) .none) Qd) (Qd (.bool true)) := ⟨fun h => h⟩
instance s_notN3 {x : Str} : Stp (wr (notND (.str x) .none) Qd) (Qd (.bool true)) := ⟨fun h => h⟩
instance s_notN4 {x : Int} : Stp (wr (notND (.int x) .none) Qd) (Qd (.bool true)) := ⟨fun h => h⟩
instance s_lenT {ds : List Dt} : Stp (wr (lenD [.tuple ds]) Qd) (Qd (.int ds.length)) := ⟨fun h => h⟩
end
section
variable {xs ys : List Dt} {Qd : Dt → Prop}
theorem i_addT (e : xs.length + ys.length ≤ sizeLine) (h : Qd (.tuple (xs ++ ys))) : wr (addD (.tuple xs) (.tuple ys)) Qd := i_wr (by simp only [addD, if_pos e]) h
theorem i_addL (e : xs.length + ys.length ≤ sizeLine) (h : Qd (.list (xs ++ ys))) : wr (addD (.list xs) (.list ys)) Qd := i_wr (by simp only [addD, if_pos e]) h
theorem i_ixMT {ds : List Dt} {j : Int} (h0 : 0 ≤ j) (h1 : j < ds.length) (h : ∀ x ∈ ds, Qd x) : wr (ixD (.tuple ds) (.int j)) Qd := by
  obtain ⟨x, e, m⟩ := atI_ok h0 h1
  exact i_wr e (h x m)
/-- an item, by what holds of all -/
theorem i_ixP (T : Dt → Prop) {ds : List Dt} {j : Int} (h0 : 0 ≤ j) (h1 : j < ds.length) (ht : ∀ x ∈ ds, T x) (h : ∀ x, T x → Qd x) : wr (ixD (.list ds) (.int j)) Qd := i_ixM h0 h1 fun x m => h x (ht x m)
end
end Dx
namespace Dw
open PySem L2 Dx
inductive IsV : Dt → Prop
  | num (i : Int) : IsV (.int i)
  | wrd (s : Str) (h : strGd s = true) (h' : s.length ≤ 10) : IsV (.str s)
  | adr (a b : Int) : IsV (.tuple [.str "at", .int a, .int b])
/-- a word of one to eight small letters -/
def okW (s : Str) : Bool := decide (1 ≤ s.length) && decide (s.length ≤ 8) && s.cps.toList.all fun c => decide (97 ≤ c) && decide (c ≤ 122)
/-- how great a value is; one that is no value by kind is beyond all bounds -/
def mag : Dt → Nat
  | .int i => i.natAbs
  | .str s => if okW s then 0 else 1000000000000000000000000000000
  | .tuple [_, .int a, .int b] => max a.natAbs b.natAbs + ((-a).toNat + (-b).toNat) * 1000000000000000000000000000000
  | _ => 0
def cntD : Dt → Int
  | .int i => i
  | _ => 0
inductive Op | plus | minus | less | same
def Op.w : Op → Str
  | plus => "plus"
  | minus => "minus"
  | less => "less"
  | same => "same"
inductive Sm
  | is (v : Dt)
  | of (s : Str)
  | self
  | dbl (o : Op) (a b : Sm)
def Sm.d : Sm → Dt
  | is v => .tuple [.str "is", v]
  | of s => .tuple [.str "of", .str s]
  | self => .tuple [.str "self"]
  | dbl o a b => .tuple [.str o.w, a.d, b.d]
def Sm.deep : Sm → Nat
  | dbl _ a b => max a.deep b.deep + 1
  | _ => 0
def Sm.V : Sm → Prop
  | is v => IsV v
  | of s => strGd s = true ∧ s.length ≤ 10
  | self => True
  | dbl _ a b => a.V ∧ b.V
def b2i (b : Bool) : Int := if b then 1 else 0
def dblD : Op → Dt → Dt → Dt
  | .plus, x, y => .int (cntD x + cntD y)
  | .minus, x, y => .int (cntD x - cntD y)
  | .less, x, y => .int (b2i (decide (cntD x < cntD y)))
  | .same, x, y => .int (b2i (PyData.eqv x y))
def val (kvs : List (Str × Dt)) (home : Dt) : Sm → Dt
  | .is v => v
  | .of s => (getS kvs s).getD (.int 0)
  | .self => home
  | .dbl o a b => dblD o (val kvs home a) (val kvs home b)
def KV (kvs : List (Str × Dt)) : Prop := ∀ k v, getS kvs k = some v → IsV v
theorem dblD_V {o : Op} {x y : Dt} : IsV (dblD o x y) := by cases o <;> exact .num _
theorem val_V {kvs : List (Str × Dt)} {home : Dt} (hk : KV kvs) (hh : IsV home) : ∀ s : Sm, s.V → IsV (val kvs home s)
  | .is v, h => h
  | .of s, _ => by
    show IsV ((getS kvs s).getD (.int 0))
    cases e : getS kvs s with
    | none => exact .num 0
    | some v => exact hk s v e
  | .self, _ => hh
  | .dbl o a b, _ => dblD_V
theorem atGd : strGd "at" = true := by decide +kernel
theorem IsV.lay {d : Dt} (h : IsV d) : d.canLay0 = true := by
  cases h with
  | num i => simp only [PyData.canLay0]
  | wrd s h => exact good_lay (.str s) h
  | adr a b =>
    have : PyData.canLay0 (.str "at") = true := good_lay (.str "at") atGd
    simp only [PyData.canLay0, PyData.canLayAll0, Bool.and_true] at this ⊢
    exact this
theorem IsV.dep {d : Dt} (h : IsV d) : d.depth ≤ 2 := by
  cases h <;> simp [PyData.depth, PyData.depthAll]
theorem eqV {x y : Dt} (h : IsV x) (h' : IsV y) : eqD x y = some (.bool (PyData.eqv x y)) := by
  unfold eqD
  have : eqOk x y = true := by
    unfold eqOk
    rw [h.lay, h'.lay]
    have := h.dep
    have e : decide (min x.depth y.depth ≤ 64) = true := decide_eq_true (by omega)
    rw [e]
    simp
  rw [if_pos this]
theorem cntD_int {d : Dt} (h : IsV d) : (isIntD d && !isBlD d) = true → d = .int (cntD d) := by
  cases h <;> simp [isIntD, isBlD, cntD]
theorem cntD_no {d : Dt} (h : IsV d) : (isIntD d && !isBlD d) = false → cntD d = 0 := by
  cases h <;> simp [isIntD, isBlD, cntD]
theorem cntD_int' {d : Dt} (h : IsV d) : isIntD d = true → d = .int (cntD d) := by
  cases h <;> simp [isIntD, cntD]
theorem cntD_no' {d : Dt} (h : IsV d) : isIntD d = false → cntD d = 0 := by
  cases h <;> simp [isIntD, cntD]
def DBL : Dt := .tuple [.str "plus", .str "minus", .str "less", .str "same"]
theorem mem_str (x : Str) (ws : List Str) : memD (.str x) (ws.map PyData.str) = ws.any fun y => y == x := by
  unfold memD
  rw [List.any_map]
  apply congrArg (fun f => List.any ws f)
  funext y
  simp [PyData.eqv]
theorem ninD_strs (x : Str) (ws : List Str) : ninD (.str x) (.tuple (ws.map PyData.str)) = some (.bool (!ws.any fun y => y == x)) := by
  unfold ninD
  simp only [seqD, Option.bind_some]
  rw [if_pos (by simp [flatD]), mem_str]
theorem inD_strs (x : Str) (ws : List Str) : inD (.str x) (.tuple (ws.map PyData.str)) = some (.bool (ws.any fun y => y == x)) := by
  unfold inD
  simp only [seqD, Option.bind_some]
  rw [if_pos (by simp [flatD]), mem_str]
theorem i_nin {x : Str} {ws : List Str} {b : Bool} {Qd : Dt → Prop} (e : (!ws.any fun y => y == x) = b) (h : Qd (.bool b)) : wr (ninD (.str x) (.tuple (ws.map PyData.str))) Qd := i_wr (by rw [ninD_strs, e]) h
theorem i_in {x : Str} {ws : List Str} {b : Bool} {Qd : Dt → Prop} (e : (ws.any fun y => y == x) = b) (h : Qd (.bool b)) : wr (inD (.str x) (.tuple (ws.map PyData.str))) Qd := i_wr (by rw [inD_strs, e]) h
abbrev W4 : List Str := ["plus", "minus", "less", "same"]
def sp_is_whole : DSp := spX (α := Dt) (fun d => [.dat d]) (fun _ => True) fun d r => r = .bool (isIntD d && !isBlD d)
def sp_counted : DSp := spX (α := Dt) (fun d => [.dat d]) IsV fun d r => r = .int (cntD d)
def sp_double : DSp := spX (α := Op × Dt × Dt) (fun a => [.dat (.str a.1.w), .dat a.2.1, .dat a.2.2]) (fun a => IsV a.2.1 ∧ IsV a.2.2) fun a r => r = dblD a.1 a.2.1 a.2.2
def lone : Sm → Prop
  | .dbl _ _ _ => False
  | _ => True
def sp_lone : DSp := spX (α := Sm × List (Str × Dt) × Dt) (fun a => [.dat a.1.d, .obj (.dic a.2.1), .dat a.2.2]) (fun a => lone a.1) fun a r => r = val a.2.1 a.2.2 a.1
def sp_by (m : Nat) : DSp := spX (α := Sm × List (Str × Dt) × Dt) (fun a => [.dat a.1.d, .obj (.dic a.2.1), .dat a.2.2]) (fun a => a.1.deep ≤ m ∧ a.1.V ∧ KV a.2.1 ∧ IsV a.2.2) fun a r => r = val a.2.1 a.2.2 a.1
def bsD (bs : List (Str × Dt)) : Dt := .tuple (bs.map fun kv => .tuple [.str kv.1, kv.2])
def BV (bs : List (Str × Dt)) : Prop := ∀ kv ∈ bs, strGd kv.1 = true ∧ kv.1.length ≤ 10 ∧ IsV kv.2
theorem parS_bs : ∀ bs : List (Str × Dt), parS (bs.map fun kv => .tuple [.str kv.1, kv.2]) = some bs
  | [] => rfl
  | (k, v) :: r => by simp only [List.map_cons, parS, parS_bs r, Option.map_some]
theorem dicOf_bs (bs : List (Str × Dt)) : dicOf (bsD bs) = some bs := parS_bs bs
theorem dicOf_bl (bs : List (Str × Dt)) : dicOf (.list (bs.map fun kv => .tuple [.str kv.1, kv.2])) = some bs := parS_bs bs
theorem getS_put {kvs : List (Str × Dt)} {k k' : Str} {d : Dt} : getS (putS kvs k d) k' = if k = k' then some d else getS kvs k' := by
  induction kvs with
  | nil =>
    by_cases e : k = k'
    · simp [getS, putS, e]
    · simp [getS, putS, e]
  | cons x r ih =>
    obtain ⟨a, v⟩ := x
    by_cases ea : a = k
    · subst ea
      by_cases e : a = k'
      · subst e; simp [getS, putS]
      · have : ∀ l : List (Str × Dt), List.find? (fun kv => decide (kv.1 = k')) (l.map fun kv => if kv.1 = a then (kv.1, d) else kv) = List.find? (fun kv => decide (kv.1 = k')) l := by
          intro l
          induction l with
          | nil => rfl
          | cons y l ihl =>
            by_cases h : y.1 = a
            · simp [List.find?_cons, h, e, ihl]
            · simp [List.find?_cons, h, ihl]
        simp only [getS, putS, List.any_cons, decide_true, Bool.true_or, if_true, List.map_cons, List.find?_cons, decide_eq_false e, if_neg e, this]
    · have hh : putS ((a, v) :: r) k d = (a, v) :: putS r k d := by
        simp only [putS, List.any_cons, decide_eq_false ea, Bool.false_or, List.map_cons, if_neg ea]
        split <;> simp
      rw [hh]
      by_cases e : a = k'
      · subst e
        rw [if_neg (fun z => ea z.symm)]
        simp [getS]
      · have c : ∀ l : List (Str × Dt), getS ((a, v) :: l) k' = getS l k' := fun l => by simp [getS, List.find?_cons, decide_eq_false e]
        rw [c, c, ih]
theorem KV_put {kvs : List (Str × Dt)} {k : Str} {d : Dt} (h : KV kvs) (hd : IsV d) : KV (putS kvs k d) := by
  intro k' v e
  rw [getS_put] at e
  split at e
  · cases e; exact hd
  · exact h k' v e
theorem KV_merge {more : List (Str × Dt)} : ∀ {kvs : List (Str × Dt)}, KV kvs → BV more → KV (mergeS kvs more) := by
  induction more with
  | nil => intro kvs h _; exact h
  | cons x r ih =>
    intro kvs h b
    exact ih (KV_put h (b x (List.mem_cons_self ..)).2.2) fun kv m => b kv (List.mem_cons_of_mem _ m)
theorem KV_nil : KV [] := fun k v e => by simp [getS] at e
def sp_value : DSp := spX (α := Unit) (fun _ => [feed]) (fun _ => True) fun _ d => IsV d ∧ mag d ≤ 1000000
def Sm.M (B : Nat) : Sm → Prop
  | is v => mag v ≤ B
  | dbl _ a b => a.M B ∧ b.M B
  | _ => True
def NM : Dt := .list [.str "n", .str "to", .str "who"]
theorem ne_NM : neD NM (.list []) = some (.bool true) := by
  have : eqOk NM (.list []) = true := eqOk_of (by decide +kernel) rfl (by decide +kernel)
  unfold neD
  rw [if_pos this]
  simp [NM, PyData.eqv, PyData.eqvAll]
def SmOk (m : Nat) (s : Sm) : Prop := s.deep ≤ m ∧ s.V ∧ s.M 1000000
def ar_sum (m : Nat) : List Dv := [feed, .dat NM, .dat (.int m)]
def po_sum (m : Nat) (d : Dt) : Prop := ∃ s : Sm, d = s.d ∧ SmOk m s
def sp_sum (m : Nat) : DSp := spX (α := Nat) ar_sum (fun j => j ≤ m) po_sum
theorem ne_nil {ds : List Dt} (h : PyData.canLayAll0 ds = true) : neD (.list ds) (.list []) = some (.bool (!ds.isEmpty)) := by
  have h : eqOk (.list ds) (.list []) = true := by
    unfold eqOk
    simp only [PyData.canLay0, h, PyData.canLayAll0, PyData.depth, PyData.depthAll, Bool.and_self, Bool.true_and, Bool.or_eq_true, decide_eq_true_eq]
    exact .inr (decide_eq_true (Nat.le_trans (Nat.min_le_right _ (0 + 1)) (show (0 + 1 : Nat) ≤ 64 by decide)))
  unfold neD
  rw [if_pos h]
  cases ds <;> simp [PyData.eqv, PyData.eqvAll]
theorem layA_iff {ds : List Dt} : PyData.canLayAll0 ds = true ↔ ∀ d ∈ ds, d.canLay0 = true := by
  induction ds with
  | nil => simp [PyData.canLayAll0]
  | cons x r ih => simp only [PyData.canLayAll0, Bool.and_eq_true, ih, List.forall_mem_cons]
theorem strLay {s : Str} (h : strGd s = true) : PyData.canLay0 (.str s) = true := good_lay (.str s) h
theorem opGd (o : Op) : strGd o.w = true := by cases o <;> decide +kernel
theorem Sm.lay : ∀ s : Sm, s.V → s.d.canLay0 = true
  | .is v, h => by
    have h1 := strLay (s := "is") (by decide +kernel)
    have h2 := IsV.lay h
    simp only [Sm.d, PyData.canLay0, PyData.canLayAll0, Bool.and_true, Bool.and_eq_true] at h1 h2 ⊢
    exact ⟨h1, h2⟩
  | .of s, h => by
    have h1 := strLay (s := "of") (by decide +kernel)
    have h2 := strLay h.1
    simp only [Sm.d, PyData.canLay0, PyData.canLayAll0, Bool.and_true, Bool.and_eq_true] at h1 h2 ⊢
    exact ⟨h1, h2⟩
  | .self, h => by
    have h1 := strLay (s := "self") (by decide +kernel)
    simp only [Sm.d, PyData.canLay0, PyData.canLayAll0, Bool.and_true, Bool.and_eq_true] at h1 ⊢
    exact h1
  | .dbl o a b, h => by
    have h1 := strLay (opGd o)
    have h2 := Sm.lay a h.1
    have h3 := Sm.lay b h.2
    simp only [Sm.d, PyData.canLay0, PyData.canLayAll0, Bool.and_true, Bool.and_eq_true] at h1 ⊢
    exact ⟨h1, h2, h3⟩
def Sm.size : Sm → Nat
  | dbl _ a b => a.size + b.size + 1
  | _ => 1
def ordOf : Sm → List Sm
  | .dbl o a b => .dbl o a b :: (ordOf b ++ ordOf a)
  | x => [x]
theorem ordOf_len : ∀ s : Sm, (ordOf s).length = s.size
  | .is _ | .of _ | .self => rfl
  | .dbl o a b => by simp only [ordOf, List.length_cons, List.length_append, ordOf_len a, ordOf_len b, Sm.size]; omega
theorem ordOf_V : ∀ s : Sm, s.V → ∀ x ∈ ordOf s, x.V
  | .is v, h, x, hx => by simp only [ordOf, List.mem_singleton] at hx; subst hx; exact h
  | .of v, h, x, hx => by simp only [ordOf, List.mem_singleton] at hx; subst hx; exact h
  | .self, h, x, hx => by simp only [ordOf, List.mem_singleton] at hx; subst hx; exact h
  | .dbl o a b, h, x, hx => by
    simp only [ordOf, List.mem_cons, List.mem_append] at hx
    rcases hx with rfl | hx | hx
    · exact h
    · exact ordOf_V b h.2 x hx
    · exact ordOf_V a h.1 x hx
def kids : Sm → List Sm
  | .dbl _ a b => [a, b]
  | _ => []
theorem ordOf_kids (x : Sm) : ordOf x = x :: (kids x).reverse.flatMap ordOf := by cases x <;> simp [ordOf, kids]
theorem kids_V {x : Sm} (h : x.V) : ∀ y ∈ kids x, y.V := by
  cases x <;> simp [kids]
  exact ⟨h.1, h.2⟩
section
variable (kvs : List (Str × Dt)) (home : Dt)
def Rn : List Sm → List Dt → Option (List Dt)
  | [], st => some st
  | .dbl o _ _ :: xs, y :: x :: st => Rn xs (dblD o x y :: st)
  | .dbl _ _ _ :: _, _ => none
  | x :: xs, st => Rn xs (val kvs home x :: st)
theorem Rn_ord : ∀ (s : Sm) (xs : List Sm) (st : List Dt), Rn kvs home ((ordOf s).reverse ++ xs) st = Rn kvs home xs (val kvs home s :: st)
  | .is _, xs, st | .of _, xs, st | .self, xs, st => by simp [ordOf, Rn]
  | .dbl o a b, xs, st => by
    simp only [ordOf, List.reverse_cons, List.reverse_append, List.append_assoc]
    rw [Rn_ord a, Rn_ord b]
    simp [Rn, val]
end
def sp_lw : DSp := spX (α := Sm × List (Str × Dt) × Dt) (fun a => [.dat a.1.d, .obj (.dic a.2.1), .dat a.2.2]) (fun a => a.1.size ≤ 1000 ∧ a.1.V ∧ KV a.2.1 ∧ IsV a.2.2) fun a r => r = val a.2.1 a.2.2 a.1
def Ww (s : Sm) (kvs : List (Str × Dt)) (home : Dt) (m : Nat) (env : Dn) : Prop := ∃ (ord pile : List Sm) (cur : Option Dv), env = [some (.dat s.d), some (.obj (.dic kvs)), some (.dat home), some (.obj (.lst (ord.map Sm.d))), some (.obj (.lst [])), some (.obj (.lst (pile.map Sm.d))), cur, none, none, none, none, none] ∧
  ord ++ pile.reverse.flatMap ordOf = ordOf s ∧ m = (pile.reverse.flatMap ordOf).length ∧ ∀ x ∈ pile, x.V
def Wf (s : Sm) (kvs : List (Str × Dt)) (home : Dt) (ds : List Dt) (env : Dn) : Prop := ∃ (xs : List Sm) (st : List Dt) (c3 c5 c6 c7 c8 c9 c10 c11 : Option Dv), ds = xs.map Sm.d ∧ env = [some (.dat s.d), some (.obj (.dic kvs)), some (.dat home), c3, some (.obj (.lst st.reverse)), c5, c6, c7, c8, c9, c10, c11] ∧
  Rn kvs home xs st = some [val kvs home s] ∧ st.length + xs.length ≤ 1000 ∧ (∀ x ∈ xs, x.V) ∧ ∀ v ∈ st, IsV v
theorem g3a (x y z : Dt) : getS (mergeS [] [("plus", x), ("minus", y), ("less", z)]) "plus" = some x := by
  show getS (putS (putS (putS [] "plus" x) "minus" y) "less" z) "plus" = _
  rw [getS_put, if_neg (by decide +kernel), getS_put, if_neg (by decide +kernel), getS_put, if_pos rfl]
theorem g3b (x y z : Dt) : getS (mergeS [] [("plus", x), ("minus", y), ("less", z)]) "minus" = some y := by
  show getS (putS (putS (putS [] "plus" x) "minus" y) "less" z) "minus" = _
  rw [getS_put, if_neg (by decide +kernel), getS_put, if_pos rfl]
theorem g3c (x y z : Dt) : getS (mergeS [] [("plus", x), ("minus", y), ("less", z)]) "less" = some z := by
  show getS (putS (putS (putS [] "plus" x) "minus" y) "less" z) "less" = _
  rw [getS_put, if_pos rfl]
def sp_worth (m : Nat) : DSp := spX (α := Sm × List (Str × Dt) × Dt) (fun a => [.dat a.1.d, .dat (bsD a.2.1), .dat a.2.2]) (fun a => a.1.deep ≤ m ∧ a.1.V ∧ BV a.2.1 ∧ IsV a.2.2) fun a r => r = val (mergeS [] a.2.1) a.2.2 a.1
open PySem PySem.Spec L2 Dx
def WdOk (s : Str) : Prop := strGd s = true ∧ s.length ≤ 10
instance (s : Str) : Decidable (WdOk s) := by unfold WdOk; infer_instance
mutual
def mz : Dt → Nat
  | .none | .bool _ => 5
  | .int i => if i.natAbs < 1000000000 then 32 else 1901
  | .str x => 10 * x.length + 2
  | .list xs | .tuple xs => mzA xs + 3
  | .dict _ => 0
def mzA : List Dt → Nat
  | [] => 0
  | x :: xs => mz x + 2 + mzA xs
end
mutual
theorem mz_show : ∀ d : Dt, good d = true → d.shown.length ≤ mz d
  | .none, h => by have := (good_show .none h).2; simpa only [mz, sz] using this
  | .bool b, h => by have := (good_show (.bool b) h).2; simpa only [mz, sz] using this
  | .int i, h => by
    by_cases c : i.natAbs < 1000000000
    · simp only [mz, if_pos c]
      have h2 : i.natAbs.log2 < 30 := by
        by_cases e : i.natAbs = 0
        · rw [e]; decide
        · exact (Nat.log2_lt e).mpr (by omega)
      have h3 := int_text_length_le (a := i) (k := 30) (by decide) h2
      simp only [PyData.shown]
      rw [Str.ofString_eq_toList]
      have h4 : (toString i).toList.length = (toString i).length := String.length_toList
      simp only [Str.length, List.size_toArray, List.length_map]
      omega
    · have := (good_show (.int i) h).2
      simpa only [mz, if_neg c, sz] using this
  | .str x, h => by have := (good_show (.str x) h).2; simpa only [mz, sz] using this
  | .list xs, h => by
    have h0 : goodA xs = true := by simpa only [good] using h
    have h2 := mzA_show xs h0
    have h3 := listText_len_le (PyData.shownAll xs)
    have h4 := PyData.shownAll_length xs
    simp only [PyData.shown, mz]
    omega
  | .tuple xs, h => by
    have h0 : goodA xs = true := by simpa only [good] using h
    have h2 := mzA_show xs h0
    have h3 := tupleText_len_le (PyData.shownAll xs)
    have h4 := PyData.shownAll_length xs
    simp only [PyData.shown, mz]
    omega
  | .dict _, h => by simp [good] at h
theorem mzA_show : ∀ ds : List Dt, goodA ds = true → ((PyData.shownAll ds).map (·.length)).sum + 2 * ds.length ≤ mzA ds
  | [], _ => by simp [PyData.shownAll, mzA]
  | d :: ds, h => by
    have h0 : good d = true ∧ goodA ds = true := by simpa only [goodA, Bool.and_eq_true] using h
    have a2 := mz_show d h0.1
    have b2 := mzA_show ds h0.2
    simp only [PyData.shownAll, mzA, List.map_cons, List.sum_cons, List.length_cons]
    omega
end
structure Nc (k n : Nat) (d : Dt) : Prop where
  gd : good d = true
  dp : d.depth ≤ k
  sz : mz d ≤ n
structure NcA (k n : Nat) (ds : List Dt) : Prop where
  gd : goodA ds = true
  dp : PyData.depthAll ds ≤ k
  sz : mzA ds ≤ n
section
variable {k k' n m a b : Nat} {d : Dt} {ds : List Dt}
theorem Nc.mono (h : Nc k n d) (h1 : k ≤ k' := by omega) (h2 : n ≤ m := by omega) : Nc k' m d := ⟨h.gd, Nat.le_trans h.dp h1, Nat.le_trans h.sz h2⟩
theorem NcA.mono (h : NcA k n ds) (h1 : k ≤ k' := by omega) (h2 : n ≤ m := by omega) : NcA k' m ds := ⟨h.gd, Nat.le_trans h.dp h1, Nat.le_trans h.sz h2⟩
theorem Nc.tup (h : NcA k n ds) (h1 : k + 1 ≤ k' := by omega) (h2 : n + 3 ≤ m := by omega) : Nc k' m (.tuple ds) := ⟨by simpa only [good] using h.gd, by simp only [PyData.depth]; exact Nat.le_trans (Nat.succ_le_succ h.dp) h1, by simp only [mz]; have := h.sz; omega⟩
theorem Nc.lst (h : NcA k n ds) (h1 : k + 1 ≤ k' := by omega) (h2 : n + 3 ≤ m := by omega) : Nc k' m (.list ds) := ⟨by simpa only [good] using h.gd, by simp only [PyData.depth]; exact Nat.le_trans (Nat.succ_le_succ h.dp) h1, by simp only [mz]; have := h.sz; omega⟩
theorem Nc.untup (h : Nc (k + 1) n (.tuple ds)) : NcA k n ds := ⟨by simpa only [good] using h.gd, by have := h.dp; simp only [PyData.depth] at this; omega, by have := h.sz; simp only [mz] at this; omega⟩
theorem Nc.untup' (h : Nc k n (.tuple ds)) : NcA k n ds := ⟨by simpa only [good] using h.gd, by have := h.dp; simp only [PyData.depth] at this; omega, by have := h.sz; simp only [mz] at this; omega⟩
theorem Nc.unlst' (h : Nc k n (.list ds)) : NcA k n ds := ⟨by simpa only [good] using h.gd, by have := h.dp; simp only [PyData.depth] at this; omega, by have := h.sz; simp only [mz] at this; omega⟩
theorem NcA.nil : NcA k 0 [] := ⟨rfl, Nat.zero_le _, Nat.zero_le _⟩
theorem NcA.cons (h : Nc k a d) (t : NcA k b ds) (e : a + 2 + b ≤ n := by omega) : NcA k n (d :: ds) := ⟨by simp only [goodA, h.gd, t.gd, Bool.and_self], by simp only [PyData.depthAll]; exact Nat.max_le.mpr ⟨h.dp, t.dp⟩, by simp only [mzA]; have := h.sz; have := t.sz; omega⟩
theorem NcA.mem (h : NcA k n ds) : ∀ x ∈ ds, Nc k n x := by
  induction ds generalizing n with
  | nil => intro x hx; cases hx
  | cons y r ih =>
    obtain ⟨g, p, s⟩ := h
    simp only [goodA, Bool.and_eq_true] at g
    simp only [PyData.depthAll] at p
    simp only [mzA] at s
    intro x hx
    rcases List.mem_cons.mp hx with rfl | hx
    · exact ⟨g.1, by omega, by omega⟩
    · exact ih ⟨g.2, by omega, by omega⟩ x hx
theorem NcA.all (h : ∀ x ∈ ds, Nc k n x) (hl : ds.length ≤ b) (hm : b * (n + 2) ≤ m) : NcA k m ds := by
  have : ∀ ds : List Dt, (∀ x ∈ ds, Nc k n x) → NcA k (ds.length * (n + 2)) ds := by
    intro ds
    induction ds with
    | nil => intro _; exact (NcA.nil (k := k)).mono
    | cons y r ih =>
      intro h
      refine (NcA.cons (h y (List.mem_cons_self ..)) (ih fun x hx => h x (List.mem_cons_of_mem _ hx)) ?_)
      simp only [List.length_cons, Nat.succ_mul]; omega
  exact (this ds h).mono (Nat.le_refl _) (Nat.le_trans (Nat.mul_le_mul_right _ hl) hm)
theorem NcA.append {es : List Dt} (h : NcA k a ds) (t : NcA k b es) (e : a + b ≤ n := by omega) : NcA k n (ds ++ es) := by
  induction ds generalizing a n with
  | nil => exact t.mono
  | cons y r ih =>
    obtain ⟨g, p, s⟩ := h
    simp only [goodA, Bool.and_eq_true] at g
    simp only [PyData.depthAll] at p
    simp only [mzA] at s
    exact .cons (a := mz y) (b := mzA r + b) ⟨g.1, by omega, Nat.le_refl _⟩ (ih (a := mzA r) ⟨g.2, by omega, Nat.le_refl _⟩ (Nat.le_refl _))
theorem Nc.none : Nc k 5 .none := ⟨rfl, Nat.zero_le _, Nat.le_refl _⟩
theorem Nc.bool {x : Bool} : Nc k 5 (.bool x) := ⟨rfl, Nat.zero_le _, Nat.le_refl _⟩
theorem Nc.int {i : Int} (h : i.natAbs < 1000000000 := by omega) : Nc k 32 (.int i) := ⟨by
  have : (1000000000 : Nat) ≤ 2 ^ 1900 := by decide +kernel
  simp only [good, decide_eq_true_eq]; omega, Nat.zero_le _, by simp only [mz, if_pos h]; omega⟩
theorem Nc.big {i : Int} (h : i.natAbs < 2 ^ 1900) : Nc k 1901 (.int i) := ⟨by simpa only [good, decide_eq_true_eq] using h, Nat.zero_le _, by simp only [mz]; split <;> omega⟩
theorem Nc.str {x : Str} (h : WdOk x) : Nc k 102 (.str x) := ⟨by simpa only [good] using h.1, Nat.zero_le _, by simp only [mz]; have := h.2; omega⟩
theorem Nc.repr (h : Nc k n d) (h1 : k ≤ 100 := by omega) (h2 : n ≤ 16000000 := by omega) : reprD [d] = some (.str d.shown) := by
  show (if shOk d = true then some (PyData.str d.shown) else Option.none) = _
  have c := PyData.hasDict_of_canLay d (good_lay d h.gd)
  have e : sizeLine = 16777216 := sizeLine_eq
  have a := (good_show d h.gd).1
  have b := mz_show d h.gd
  have : shOk d = true := by
    unfold shOk
    simp only [Bool.and_eq_true, decide_eq_true_eq, Bool.not_eq_true']
    exact ⟨⟨⟨a, c⟩, Nat.le_trans h.dp h1⟩, by have := h.sz; omega⟩
  rw [if_pos this]
theorem i_repr {Qd : Dt → Prop} (h : Nc k n d) (q : Qd (.str d.shown)) (h1 : k ≤ 100 := by omega) (h2 : n ≤ 16000000 := by omega) : wr (reprD [d]) Qd := i_wr (h.repr h1 h2) q
theorem IsV.nc (h : IsV d) (hm : mag d ≤ 2000000) : Nc 1 210 d := by
  cases h with
  | num i => exact (Nc.int (k := 1) (by simp only [mag] at hm; omega)).mono
  | wrd s h h' => exact (Nc.str (k := 1) ⟨h, h'⟩).mono
  | adr a b =>
    simp only [mag] at hm
    exact .tup (.cons (Nc.str (k := 0) (x := "at") (by decide +kernel)) (.cons (Nc.int (by omega)) (.cons (Nc.int (by omega)) .nil (Nat.le_refl _)) (Nat.le_refl _)) (Nat.le_refl _)) (by omega) (by omega)
end
/-- the size of a sum so deep -/
def cz : Nat → Nat
  | 0 => 330
  | k + 1 => 2 * cz k + 120
theorem cz_le {a b : Nat} (h : a ≤ b) : cz a ≤ cz b := by
  induction h with
  | refl => exact Nat.le_refl _
  | step _ ih => simp only [cz]; omega
theorem opWd (o : Op) : WdOk o.w := by cases o <;> decide +kernel
theorem Sm.nc : ∀ (s : Sm) (m : Nat), s.deep ≤ m → s.V → s.M 2000000 → Nc (m + 2) (cz m) s.d
  | .is v, m, _, hv, hm => by
    have := cz_le (Nat.zero_le m)
    have : 330 ≤ cz m := this
    exact .tup (.cons (Nc.str (x := "is") (by decide +kernel)) (.cons ((IsV.nc hv hm).mono (k' := m + 1) (m := 210)) .nil (Nat.le_refl _)) (Nat.le_refl _)) (by omega) (by omega)
  | .of s, m, _, hv, hm => by
    have : 330 ≤ cz m := cz_le (Nat.zero_le m)
    exact .tup (k := 0) (.cons (Nc.str (x := "of") (by decide +kernel)) (.cons (Nc.str hv) .nil (Nat.le_refl _)) (Nat.le_refl _)) (by omega) (by omega)
  | .self, m, _, hv, hm => by
    have : 330 ≤ cz m := cz_le (Nat.zero_le m)
    exact .tup (k := 0) (.cons (Nc.str (x := "self") (by decide +kernel)) .nil (Nat.le_refl _)) (by omega) (by omega)
  | .dbl o a b, 0, hd, _, _ => by simp only [Sm.deep] at hd; omega
  | .dbl o a b, m + 1, hd, hv, hm => by
    simp only [Sm.deep] at hd
    have ha := Sm.nc a m (by omega) hv.1 hm.1
    have hb := Sm.nc b m (by omega) hv.2 hm.2
    exact .tup (k := m + 2) (.cons (Nc.str (opWd o)) (.cons ha (.cons hb .nil (Nat.le_refl _)) (Nat.le_refl _)) (Nat.le_refl _)) (by omega) (by simp only [cz]; omega)
theorem Sm.M_le {a b : Nat} (h : a ≤ b) : ∀ s : Sm, s.M a → s.M b
  | .is v, hm => Nat.le_trans hm h
  | .of _, _ => trivial
  | .self, _ => trivial
  | .dbl _ x y, hm => ⟨Sm.M_le h x hm.1, Sm.M_le h y hm.2⟩
theorem SmOk.nc {m : Nat} {s : Sm} (h : SmOk m s) : Nc (m + 2) (cz m) s.d := Sm.nc s m h.1 h.2.1 (Sm.M_le (by omega) s h.2.2)
/-- names: a list of words -/
def nmD (ns : List Str) : List Dt := ns.map PyData.str
def NmOk (m : Nat) (ns : List Str) : Prop := (∀ s ∈ ns, WdOk s) ∧ ns.length ≤ m
theorem nm_lay {ns : List Str} (h : ∀ s ∈ ns, WdOk s) : PyData.canLayAll0 (nmD ns) = true := by
  refine layA_iff.mpr fun d hd => ?_
  obtain ⟨s, hs, rfl⟩ := List.mem_map.mp hd
  exact strLay (h s hs).1
theorem i_neNm {ns : List Str} {Qd : Dt → Prop} (h : ∀ s ∈ ns, WdOk s) (q : Qd (.bool (!(nmD ns).isEmpty))) : wr (neD (.list (nmD ns)) (.list [])) Qd := i_wr (ne_nil (nm_lay h)) q
theorem NmOk.nc {ns : List Str} {m : Nat} (h : NmOk m ns) (k : Nat) : NcA k (104 * m) (nmD ns) := by
  refine NcA.all (n := 102) (b := m) (fun d hd => ?_) (by simpa [nmD] using h.2) (by omega)
  obtain ⟨s, hs, rfl⟩ := List.mem_map.mp hd
  exact Nc.str (h.1 s hs)
open PySem PySem.Spec L2 Dx
def pDat (ns : List Str) : Dv := .dat (.list (nmD ns))
def pObj (ns : List Str) : Dv := .obj (.lst (nmD ns))
def sp_sumD (m : Nat) : DSp := spX (α := Nat × List Str) (fun z => [feed, .dat (.list (nmD z.2)), .dat (.int z.1)]) (fun z => z.1 ≤ m ∧ NmOk 40 z.2) fun z d => po_sum z.1 d
def sp_sumO (m : Nat) : DSp := spX (α := Nat × List Str) (fun z => [feed, .obj (.lst (nmD z.2)), .dat (.int z.1)]) (fun z => z.1 ≤ m ∧ NmOk 40 z.2) fun z d => po_sum z.1 d
def Sm.plain : Sm → Prop
  | .is _ => True
  | .of _ => True
  | .self => False
  | .dbl _ a b => a.plain ∧ b.plain
def po_plain (m : Nat) (d : Dt) : Prop := ∃ s : Sm, d = s.d ∧ SmOk m s ∧ s.plain
def sp_plain (m : Nat) : DSp := spX (α := Nat × List Str) (fun z => [feed, .dat (.list (nmD z.2)), .dat (.int z.1)]) (fun z => z.1 ≤ m ∧ NmOk 40 z.2) fun z d => po_plain z.1 d
def sp_home : DSp := spX (α := List Str × List Str) (fun z => [feed, .obj (.lst (nmD z.1)), .obj (.lst (nmD z.2))]) (fun z => NmOk 40 z.1 ∧ NmOk 40 z.2) fun _ d => po_sum 1 d
def TAGS : List (Str × Int) := [("add", 1), ("ping", 2), ("stop", 0), ("down", 2), ("exit", 2), ("unseen", 2), ("lost", 1)]
def tgD (t : Str × Int) : Dt := .tuple [.str t.1, .int t.2]
def sp_tags : DSp := spX (α := Unit) (fun _ => []) (fun _ => True) fun _ d => d = .list (TAGS.map tgD)
theorem TAGS_ok : ∀ t ∈ TAGS, WdOk t.1 ∧ 0 ≤ t.2 ∧ t.2 ≤ 2 := by decide +kernel
def SmsOk (m : Nat) (ss : List Sm) : Prop := ∀ s ∈ ss, SmOk m s
def smsD (ss : List Sm) : Dt := .tuple (ss.map Sm.d)
def sp_sums : DSp := spX (α := Nat × List Str) (fun z => [feed, .obj (.lst (nmD z.2)), .dat (.int z.1)]) (fun z => z.1 ≤ 5 ∧ NmOk 40 z.2) fun z d => ∃ ss, d = smsD ss ∧ ss.length = z.1 ∧ SmsOk 2 ss
theorem SmOk.le {a b : Nat} {s : Sm} (h : SmOk a s) (e : a ≤ b) : SmOk b s := ⟨Nat.le_trans h.1 e, h.2.1, h.2.2⟩
theorem SmsOk.nc {m n : Nat} {ss : List Sm} (h : SmsOk m ss) (hl : ss.length ≤ n) : Nc (m + 3) (n * (cz m + 2) + 3) (smsD ss) :=
  .tup (NcA.all (n := cz m) (b := n) (fun d hd => by obtain ⟨s, hs, rfl⟩ := List.mem_map.mp hd; exact (h s hs).nc) (by simpa using hl) (Nat.le_refl _)) (by omega) (by omega)
def sp_tagged : DSp := spX (α := List Str) (fun z => [feed, .obj (.lst (nmD z))]) (fun z => NmOk 40 z) fun _ d => ∃ t ss, d = .tuple [.str t, smsD ss] ∧ WdOk t ∧ ss.length ≤ 3 ∧ SmsOk 2 ss
abbrev Cst := Str × List Str
def cD (c : Cst) : Dt := .tuple [.str c.1, .tuple (nmD c.2)]
def POOL : List Str := ["root", "pair", "plan", "keeper", "pa"]
def PRM : List Str := ["n", "to", "k"]
def COk (c : Cst) : Prop := c.1 ∈ POOL ∧ ∃ j, c.2 = PRM.take j
def CsOk (cs : List Cst) : Prop := 1 ≤ cs.length ∧ cs.length ≤ 2 ∧ (cs.map (·.1)).Nodup ∧ ∀ c ∈ cs, COk c
theorem POOL_wd : ∀ s ∈ POOL, WdOk s := by decide +kernel
theorem PRM_wd : ∀ s ∈ PRM, WdOk s := by decide +kernel
theorem COk.wd {c : Cst} (h : COk c) : WdOk c.1 := POOL_wd _ h.1
theorem COk.nm {c : Cst} (h : COk c) : NmOk 3 c.2 := by
  obtain ⟨j, e⟩ := h.2
  rw [e]
  exact ⟨fun s hs => PRM_wd s (List.mem_of_mem_take hs), Nat.le_trans (List.length_take_le' _ _) (by decide)⟩
def sp_act : DSp := spO (α := List Cst × (Nat × List Str) × (Nat × List Str)) (fun z => [feed, .dat (.list (z.1.map cD)), .obj (.lst (nmD z.2.1.2)), .obj (.lst (nmD z.2.2.2))]) (fun z => CsOk z.1 ∧ NmOk z.2.1.1 z.2.1.2 ∧ NmOk z.2.2.1 z.2.2.2 ∧ z.2.1.1 ≤ 30 ∧ z.2.2.1 ≤ 30)
  fun z d outs => Nc 8 7000 d ∧ ∃ ns hs, outs = [feed, .dat (.list (z.1.map cD)), .obj (.lst (nmD ns)), .obj (.lst (nmD hs))] ∧ NmOk (z.2.1.1 + 1) ns ∧ NmOk (z.2.2.1 + 1) hs
def sp_next : DSp := spX (α := List Cst × Cst × List Str) (fun z => [feed, .dat (.list (z.1.map cD)), .dat (cD z.2.1), .obj (.lst (nmD z.2.2))]) (fun z => CsOk z.1 ∧ COk z.2.1 ∧ NmOk 40 z.2.2) fun _ d => Nc 8 7000 d
structure Arm where
  tag : Str
  bare : List Str
  rest : List Dt
def Arm.d (x : Arm) : Dt := .tuple (.str x.tag :: .tuple (nmD x.bare) :: x.rest)
def Arm.ok (x : Arm) : Prop := WdOk x.tag ∧ NmOk 4 x.bare ∧ Nc 11 32000 x.d
def sp_arm : DSp := spX (α := List Cst × Cst) (fun z => [feed, .dat (.list (z.1.map cD)), .dat (cD z.2)]) (fun z => CsOk z.1 ∧ COk z.2) fun _ d => ∃ x : Arm, d = x.d ∧ x.ok
def sp_late : DSp := spX (α := List Cst × Cst) (fun z => [feed, .dat (.list (z.1.map cD)), .dat (cD z.2)]) (fun z => CsOk z.1 ∧ COk z.2) fun _ d => Nc 11 32000 d
def sp_cast : DSp := spX (α := Unit) (fun _ => [feed, .dat (.int 2)]) (fun _ => True) fun _ d => ∃ cs, d = .list (cs.map cD) ∧ CsOk cs
/-- a behaviour -/
structure Bh where
  cst : Cst
  arms : List Arm
  late : Dt
def Bh.d (b : Bh) : Dt := .tuple [.str b.cst.1, .tuple (nmD b.cst.2), .tuple (b.arms.map Arm.d), b.late]
def Bh.ok (b : Bh) : Prop := COk b.cst ∧ b.arms.length ≤ 3 ∧ (∀ x ∈ b.arms, x.ok) ∧ Nc 11 32000 b.late
def cdD (bs : List Bh) : Dt := .tuple (bs.map Bh.d)
def BsOk (bs : List Bh) : Prop := CsOk (bs.map Bh.cst) ∧ ∀ b ∈ bs, b.ok
def sp_code : DSp := spX (α := Unit) (fun _ => [feed, .dat (.int 2)]) (fun _ => True) fun _ d => ∃ bs, d = cdD bs ∧ BsOk bs
def VsOk (vs : List Dt) : Prop := ∀ v ∈ vs, IsV v ∧ mag v ≤ 1000000
def sp_state : DSp := spX (α := List Bh) (fun z => [feed, .dat (cdD z)]) (fun z => BsOk z) fun z d => ∃ b ∈ z, ∃ vs : List Dt, d = .tuple [.str b.cst.1, .tuple vs] ∧ vs.length = b.cst.2.length ∧ VsOk vs
/-- a row of a table of states -/
structure Sr where
  name : Str
  other : Str
  sums : List Sm
def Sr.d (r : Sr) : Dt := .tuple [.str r.name, .tuple [.str r.other, smsD r.sums]]
structure Lr where
  tag : Str
  many : Nat
  other : Str
  sums : List Sm
def Lr.d (r : Lr) : Dt := .tuple [.tuple [.str r.tag, .int r.many], .tuple [.str r.other, smsD r.sums]]
def LKEYS : List (Str × Nat) := [("add", 1), ("lost", 1), ("ping", 2), ("stop", 0), ("wide", 4)]
def LOTH : List Str := ["add", "ping", "stop"]
def PsOk (ss : List Sm) : Prop := ∀ s ∈ ss, SmOk 1 s ∧ s.plain
def Sr.ok (el co : List Bh) (r : Sr) : Prop := (∃ b ∈ el, b.cst.1 = r.name) ∧ (∃ b ∈ co, b.cst.1 = r.other ∧ b.cst.2.length = r.sums.length) ∧ PsOk r.sums
def Lr.ok (r : Lr) : Prop := (r.tag, r.many) ∈ LKEYS ∧ r.other ∈ LOTH ∧ r.sums.length ≤ 4 ∧ PsOk r.sums
structure Ed where
  code : List Bh
  st : List Sr
  lt : List Lr
def tbD (st : List Sr) (lt : List Lr) : Dt := .tuple [.tuple (st.map Sr.d), .tuple (lt.map Lr.d)]
def TbOk (el co : List Bh) (st : List Sr) (lt : List Lr) : Prop := (st.map Sr.name).Sublist (el.map (·.cst.1)) ∧ (∀ r ∈ st, r.ok el co) ∧ (lt.map fun r => (r.tag, r.many)).Sublist LKEYS ∧ ∀ r ∈ lt, r.ok
def sp_table : DSp := spX (α := List Bh × List Bh) (fun z => [feed, .dat (cdD z.1), .dat (cdD z.2)]) (fun z => BsOk z.1 ∧ BsOk z.2) fun z d => ∃ st lt, d = tbD st lt ∧ TbOk z.1 z.2 st lt
def Ed.d (e : Ed) : Dt := .tuple [cdD e.code, tbD e.st e.lt]
def lbD (es : List Ed) : Dt := .tuple (es.map Ed.d)
/-- each table leads from the code ahead of it -/
def Leads : List Ed → Prop
  | e :: f :: r => TbOk e.code f.code f.st f.lt ∧ Leads (f :: r)
  | _ => True
def LbOk (m : Nat) (es : List Ed) : Prop := 1 ≤ es.length ∧ es.length ≤ m ∧ (∀ e ∈ es, BsOk e.code) ∧ (∃ e r, es = e :: r ∧ e.st = [] ∧ e.lt = []) ∧ Leads es
def sp_library : DSp := spX (α := Nat) (fun m => [feed, .dat (.int m)]) (fun m => 1 ≤ m ∧ m ≤ 8) fun m d => ∃ es, d = lbD es ∧ LbOk m es
open PySem PySem.Spec L2 Dx
section
variable {vs : List Nat} {g : DTg} {c : DTb} {te : DT} {Ql : List Dt → Dn → Prop} {ds : List Dt} {env : Dn}
/-- a comprehension without a test whose element leaves the slots -/
theorem comp_ex {γ : Type} (f : γ → Dt) (P : Dt → γ → Prop) (hs : ∀ d ∈ ds, ∀ (K : Dt → Dn → Prop) (J : Dn → Prop), (∀ s, P d s → K (f s) env) → g d env fun env1 => c env1 fun b env2 => if b = true then te env2 fun ev env3 => as1 ev fun r => K r (wipeD env3 vs) else J (wipeD env2 vs))
    (h0 : ∀ ss : List γ, ss.length = ds.length → (∀ (i : Nat) (d : Dt) (s : γ), ds[i]? = some d → ss[i]? = some s → P d s) → Ql (ss.map f) env) : dComp vs g c te Ql ds [] env := by
  have key : ∀ (post : List Dt) (pre : List Dt) (ss : List γ), ds = pre ++ post → ss.length = pre.length → (∀ (i : Nat) (d : Dt) (s : γ), pre[i]? = some d → ss[i]? = some s → P d s) → dComp vs g c te Ql post (ss.map f) env := by
    intro post
    induction post with
    | nil =>
      intro pre ss e hl hp
      have e' : ds = pre := by simpa using e
      subst e'
      exact i_comp0 (h0 ss hl hp)
    | cons d r ih =>
      intro pre ss e hl hp
      refine i_comp1 (hs d (by rw [e]; simp) (fun r' env' => dComp vs g c te Ql r (ss.map f ++ [r']) env') (fun env' => dComp vs g c te Ql r (ss.map f) env') fun s hps => ?_)
      have := ih (pre ++ [d]) (ss ++ [s]) (by rw [e]; simp) (by simp [hl]) fun i d' s' h1 h2 => ?_
      · simpa using this
      · by_cases hi : i < pre.length
        · rw [List.getElem?_append_left hi] at h1
          rw [List.getElem?_append_left (by omega)] at h2
          exact hp i d' s' h1 h2
        · have hi' : i = pre.length := by
            have := (List.getElem?_eq_some_iff.mp h1).1
            simp at this
            omega
          subst hi'
          rw [← hl] at h2
          simp at h1 h2
          subst h1 h2
          exact hps
  exact key ds [] [] rfl rfl fun i d s h1 _ => by simp at h1
theorem comp_all {γ : Type} (f : γ → Dt) (P : γ → Prop) (hs : ∀ d ∈ ds, ∀ (K : Dt → Dn → Prop) (J : Dn → Prop), (∀ s, P s → K (f s) env) → g d env fun env1 => c env1 fun b env2 => if b = true then te env2 fun ev env3 => as1 ev fun r => K r (wipeD env3 vs) else J (wipeD env2 vs))
    (h0 : ∀ ss : List γ, ss.length = ds.length → (∀ s ∈ ss, P s) → Ql (ss.map f) env) : dComp vs g c te Ql ds [] env := by
  refine comp_ex f (fun _ s => P s) hs fun ss hl hp => h0 ss hl fun s hm => ?_
  obtain ⟨i, hi, e⟩ := List.getElem_of_mem hm
  exact hp i _ s (List.getElem?_eq_getElem (by omega : i < ds.length)) (by rw [List.getElem?_eq_getElem hi, e])
/-- [x for x in xs if test]: the items kept -/
theorem comp_keep (kp : Dt → Bool) (hs : ∀ d ∈ ds, ∀ (K : Dt → Dn → Prop) (J : Dn → Prop), (kp d = true → K d env) → (kp d = false → J env) → g d env fun env1 => c env1 fun b env2 => if b = true then te env2 fun ev env3 => as1 ev fun r => K r (wipeD env3 vs) else J (wipeD env2 vs))
    (h0 : Ql (ds.filter kp) env) : dComp vs g c te Ql ds [] env := by
  have key : ∀ (post : List Dt) (acc : List Dt), (∀ d ∈ post, d ∈ ds) → acc ++ post.filter kp = ds.filter kp → dComp vs g c te Ql post acc env := by
    intro post
    induction post with
    | nil =>
      intro acc _ e
      refine i_comp0 ?_
      have : acc = ds.filter kp := by simpa using e
      rw [this]; exact h0
    | cons d r ih =>
      intro acc hm e
      refine i_comp1 (hs d (hm d (List.mem_cons_self ..)) (fun r' env' => dComp vs g c te Ql r (acc ++ [r']) env') (fun env' => dComp vs g c te Ql r acc env') (fun h => ?_) fun h => ?_)
      · exact ih (acc ++ [d]) (fun x hx => hm x (List.mem_cons_of_mem _ hx)) (by rw [← e]; simp [h])
      · exact ih acc (fun x hx => hm x (List.mem_cons_of_mem _ hx)) (by rw [← e]; simp [h])
  exact key ds [] (fun _ h => h) (by simp)
end
theorem rng_mem {n : Nat} {d : Dt} (h : d ∈ rngL 0 (n : Int)) : ∃ k : Nat, d = .int (k : Int) ∧ k < n := by
  unfold rngL at h
  obtain ⟨k, hk, rfl⟩ := List.mem_map.mp h
  rw [List.mem_range] at hk
  exact ⟨k, by simp, by omega⟩
theorem rng_memI {j : Int} {d : Dt} (h : d ∈ rngL 0 j) : ∃ k : Int, d = .int k ∧ 0 ≤ k ∧ k < j := by
  unfold rngL at h
  obtain ⟨k, hk, rfl⟩ := List.mem_map.mp h
  rw [List.mem_range] at hk
  exact ⟨k, by simp, by omega, by omega⟩
theorem rng_len {j : Int} : (rngL 0 j).length = j.toNat := by simp [rngL]
theorem lenOk_rng {j : Int} {p : Prop} (h : j ≤ 1000) (q : p) : lenOk (rngL 0 j).length ∧ p := ⟨lenOk_lit (by rw [rng_len]; omega), q⟩
theorem sz_small {n : Nat} (h : n ≤ 100000) : n < sizeLine := Nat.lt_of_le_of_lt h (by decide)
theorem sz_small' {n : Nat} (h : n ≤ 100000) : n ≤ sizeLine := Nat.le_trans h (by decide)
theorem nm_pos {ns : List Str} (h : (!(nmD ns).isEmpty) = true) : 0 < (nmD ns).length := by
  cases ns with
  | nil => simp [nmD] at h
  | cons _ _ => simp [nmD]
theorem nm_len {m : Nat} {ns : List Str} (h : NmOk m ns) : (nmD ns).length ≤ m := by simpa [nmD] using h.2
theorem NmOk.le {a b : Nat} {ns : List Str} (h : NmOk a ns) (e : a ≤ b := by omega) : NmOk b ns := ⟨h.1, Nat.le_trans h.2 e⟩
theorem NmOk.snoc {m : Nat} {ns : List Str} {x : Str} (h : NmOk m ns) (hx : WdOk x) : NmOk (m + 1) (ns ++ [x]) := ⟨fun s hs => by
  rcases List.mem_append.mp hs with hs | hs
  · exact h.1 s hs
  · simp at hs; subst hs; exact hx, by simp; exact h.2⟩
theorem nmD_snoc (ns : List Str) (x : Str) : nmD ns ++ [.str x] = nmD (ns ++ [x]) := by simp [nmD]
end Dw
namespace Dx
open PySem PySem.Spec L2

def dCompV (vs : List Nat) (j : Nat) (D0 : List Dt) (g : DTg) (tt : DTb) (te : DT) (Q : List Dt → Dn → Prop) : List Dt → List Dt → Dn → Prop
  | [], acc, env => env[j]? = some (some (.obj (.lst D0))) ∧ Q acc env
  | d :: ds, acc, env => env[j]? = some (some (.obj (.lst D0))) ∧ g d env fun env1 => tt env1 fun b env2 => if b = true then te env2 fun ev env3 => as1 ev fun r => dCompV vs j D0 g tt te Q ds (acc ++ [r]) (wipeD env3 vs) else dCompV vs j D0 g tt te Q ds acc (wipeD env2 vs)
def kCompV (vs : List Nat) (j : Nat) (g : DTg) (tt : DTb) (te : DT) : DTl := fun env Q => gL env j fun ds => j ∉ vs ∧ lenOk ds.length ∧ dCompV vs j ds g tt te Q ds [] (wipeD env vs)
theorem dCompV_mono {vs : List Nat} {j : Nat} {D0 : List Dt} {g : DTg} {tt : DTb} {te : DT} (mg : ∀ d env (Q Q' : Dn → Prop), (∀ e, Q e → Q' e) → g d env Q → g d env Q') (mt : MonoB tt) (me : MonoD te) {Q Q' : List Dt → Dn → Prop} (i : ∀ ds env, Q ds env → Q' ds env) :
    ∀ (ds acc : List Dt) (env : Dn), dCompV vs j D0 g tt te Q ds acc env → dCompV vs j D0 g tt te Q' ds acc env
  | [], acc, env, h => ⟨h.1, i _ _ h.2⟩
  | d :: ds, acc, env, h => ⟨h.1, mg _ _ _ _ (fun env1 h => mt _ _ _ (fun b env2 h => by
      cases b
      · exact dCompV_mono mg mt me i ds acc _ h
      · refine me _ _ _ (fun ev env3 h => as1_mono (fun r h => ?_) h) h
        exact dCompV_mono mg mt me i ds _ _ h) h) h.2⟩
section
variable {X : Cx} {n : Nat} {pos : Pos}
theorem compV_run {j : Nat} {g : DTg} {tt : DTb} {te : DT} {vs : List Nat} (mg : ∀ d env (Q Q' : Dn → Prop), (∀ e, Q e → Q' e) → g d env Q → g d env Q') (mt : MonoB tt) (me : MonoD te) {σ : L2.St} {H : Hp} {Q : VK}
    (h : tDl X.K (kCompV vs j g tt te) σ H Q) : tLc (iSq X.K (tD X.K (kVar j))) (tDg X.K n vs (RpR X.K) g) (tDb X.K tt) (tD X.K te) vs σ H Q := by
  obtain ⟨F, env, R, q⟩ := h
  obtain ⟨ds, e0, hj, hz, q⟩ := gL_get q
  refine ⟨F, env, R, i_varO e0 (fun F1 H1 v E1 R1 V1 => ?_)⟩
  have V1 : σ[j]? = some (some v) := V1
  obtain ⟨v0, s1, a, s2, _, vs0, s3, s4⟩ := R1.val j _ e0
  rw [V1] at s1
  cases s1
  subst s2
  refine ⟨a, rfl, .inl ⟨⟨_, SqL.of s3⟩, fun D hD => ?_⟩⟩
  have R1w : Rep X.K F1 H1 (wipe σ vs) (wipeD env vs) := R1.wipe
  obtain ⟨R2w, E2w⟩ := R1w.growN hD (.lst [])
  have ww : wipe (wipe σ vs) vs = wipe σ vs := by
    apply List.ext_getElem?
    intro j
    rw [wipe_get, wipe_get, wipe_length]
    by_cases hj : j ∈ vs <;> simp [hj]
  -- what holds between two turns
  refine ⟨fun i m H' => m = ds.length - i ∧ i ≤ ds.length ∧ ∃ F' env' acc av, Rep X.K F' H' (wipe σ vs) env' ∧ Ext (wipe σ vs) (wipeD env vs) F1 H1 (wipe σ vs) env' F' H' ∧ H' D = some (.lst av) ∧ RpAll X.K F' av acc ∧ F' D = none ∧ ¬ Ow (wipe σ vs) env' D ∧ acc.length ≤ i ∧
      dCompV vs j ds g tt te (fun ds env' => ∀ F' H' p vs, Ext σ env F H σ env' F' H' → Rep X.K F' H' σ env' → F' p = none → H' p = some (.lst vs) → RpAll X.K F' vs ds → ¬ Ow σ env' p → H p = none → Q (.ref p) H') (ds.drop i) acc env',
    ⟨_, rfl, Nat.zero_le _, F1, wipeD env vs, [], [], R2w, E2w, upd_same, .nil, R1.fnone hD, fun w => R1.not_ow hD (ow_wipe w), Nat.le_refl _, by simpa using q⟩, ?_⟩
  rintro i m H' ⟨rfl, hi, F', env', acc, av, R', E', hp, ha, hf, no, hl, w⟩
  have ej : env'[j]? = some (some (.obj (.lst ds))) := by
    cases hd : ds.drop i with
    | nil => rw [hd] at w; exact w.1
    | cons y r => rw [hd] at w; exact w.1
  obtain ⟨k1, k2⟩ : (∀ d, ds[i]? = some d → (Itl X.K a).go i H' ∧ ∀ x H'', (Itl X.K a).yld i H' x H'' → Yl (RpR X.K) F' H' H'' x d) ∧ (ds.length ≤ i → (Itl X.K a).stop i H') := by
    obtain ⟨v, s1, p, e1, _, vs', s2, s3⟩ := R'.val j _ ej
    rw [wipe_keep hj, V1] at s1
    cases s1
    cases e1
    have hq : SqL X.K H' a vs' := SqL.of s2
    refine ⟨fun d e => ?_, fun hl => ⟨vs', hq, by rw [s3.length]; exact hl⟩⟩
    obtain ⟨v, e1, e2⟩ := s3.get e
    refine ⟨⟨vs', v, hq, e1⟩, fun x H'' ⟨e3, e4⟩ => ?_⟩
    subst e3
    have e5 := e4 vs' hq
    rw [e1] at e5; cases e5
    exact .inl ⟨rfl, e2⟩
  by_cases hlt : i < ds.length
  · right
    have e : ds[i]? = some ds[i] := List.getElem?_eq_getElem hlt
    obtain ⟨go, yl⟩ := k1 _ e
    rw [List.drop_eq_getElem_cons hlt] at w
    have w := w.2
    refine ⟨go, _, fun H'' z => ⟨ds.length - (i + 1), by omega, z⟩, fun x H2 y => ?_⟩
    obtain ⟨R2, E2, r2⟩ := (yl x H2 y).rep R'
    refine ⟨F', env', _, R2, r2, mg _ _ _ _ (fun env3 q3 σ3 E3 R3 w3 => ⟨w3.trans ww, F', env3, R3, mt _ _ _ (fun b env4 q4 F4 H4 E4 R4 => ?_) q3⟩) w⟩
    have E24 : Ext (wipe σ vs) env' F' H' σ3 env4 F4 H4 := (E2.trans E3.ext).trans E4
    have hp4 : H4 D = some (.lst av) := E24.keep D _ hp no nt_lst.1
    have hf4 : ∀ {σ5 : L2.St} {env5 : Dn} {F5 H5 : Hp}, Ext (wipe σ vs) env' F' H' σ5 env5 F5 H5 → F5 D = none := fun {σ5 env5 F5 H5} E => by
      cases q : F5 D with
      | none => rfl
      | some u =>
        rcases E.new D u q hf with z | z
        · rw [hp] at z; cases z
        · exact absurd z no
    have no4 : ∀ {σ5 : L2.St} {env5 : Dn} {F5 H5 : Hp}, Ext (wipe σ vs) env' F' H' σ5 env5 F5 H5 → ¬ Ow σ5 env5 D := fun {σ5 env5 F5 H5} E z => by
      rcases E.ow D z with z | z
      · exact no z
      · rw [hp] at z; cases z
    -- back to the wiped slots
    have back : ∀ {env5 : Dn} {F5 H5 : Hp}, Rep X.K F5 H5 σ3 env5 → Ext (wipe σ vs) env' F' H' σ3 env5 F5 H5 → Rep X.K F5 H5 (wipe σ vs) (wipeD env5 vs) ∧ Ext (wipe σ vs) env' F' H' (wipe σ vs) (wipeD env5 vs) F5 H5 := fun {env5 F5 H5} R5 E5 => by
      have z : Rep X.K F5 H5 (wipe σ3 vs) (wipeD env5 vs) := R5.wipe
      rw [w3, ww] at z
      refine ⟨z, E5.same, E5.keep, E5.there, E5.new, fun a q => E5.ow a ?_, E5.tab⟩
      rw [show wipe σ vs = wipe σ3 vs from (w3.trans ww).symm] at q
      exact ow_wipe q
    cases b
    · obtain ⟨R5, E5⟩ := back R4 E24
      exact ⟨rfl, hlt, F4, wipeD env4 vs, acc, av, R5, E'.trans E5, hp4, dpAll_same E24.same ha, hf4 E5, no4 E5, by omega, q4⟩
    · refine ⟨F4, env4, R4, me _ _ _ (fun ev env5 q5 F5 H5 y E5 R5 V5 => ?_) q4⟩
      obtain ⟨r, rfl, q5⟩ := as1_get q5
      have E25 := E24.trans E5
      have hp5 : H5 D = some (.lst av) := E25.keep D _ hp no nt_lst.1
      obtain ⟨R6, E6⟩ := back R5 E25
      have lz : av.length < sizeLine := by
        have h1 := ha.length
        have h2 : ds.length ≤ sizeLine := hz
        omega
      refine ⟨av, hp5, lz, rfl, hlt, F5, wipeD env5 vs, acc ++ [r], av ++ [y], ?_, ?_, upd_same, (dpAll_same E25.same ha).snoc V5, hf4 E25, no4 E6, by simp; omega, q5⟩
      · refine ⟨fun a u z => ?_, R6.len, fun j dv ej => ?_, R6.inj⟩
        · have z1 := R6.sub a u z
          rw [upd_ne]
          · exact z1
          · intro eq
            subst eq
            rw [hf4 E25] at z; cases z
        · obtain ⟨v, e1, e2⟩ := R6.val j dv ej
          refine ⟨v, e1, ?_⟩
          cases dv with
          | dat d => exact e2
          | inv φ => exact e2
          | tab P => exact TabF.over e2 hp5 nt_lst nt_lst.1
          | obj ob =>
            obtain ⟨p, e3, e4, e5⟩ := e2
            have ne : p ≠ D := fun eq => no4 E6 ⟨j, ob, ej, by rw [e1, e3, eq]⟩
            exact ⟨p, e3, e4, e5.move (Same.refl _) (upd_ne ne)⟩
      · have E7 := E'.trans E6
        refine ⟨E7.same, fun a u z nz nt => ?_, fun a u z => ?_, E7.new, E7.ow, fun P t => (E7.tab P t).over hp5 nt_lst nt_lst.1⟩
        · rw [upd_ne (ne_of_none z hD)]; exact E7.keep a u z nz nt
        · obtain ⟨u', z'⟩ := E7.there a u z
          exact ⟨u', by rw [upd_ne (ne_of_none z hD)]; exact z'⟩
  · left
    have e : i = ds.length := by omega
    subst e
    rw [List.drop_length] at w
    have w := w.2
    refine ⟨k2 (Nat.le_refl _), ?_⟩
    have E8 : Ext σ env F1 H1 σ env' F' H' := ⟨E'.same, fun a u z nz => E'.keep a u z (fun o => nz (ow_wipe o)), E'.there, fun a u z nz => (E'.new a u z nz).imp id ow_wipe, fun a z => (E'.ow a (ow_unwipe R' z)).imp ow_wipe id, E'.tab⟩
    refine w F' H' D av (E1.trans E8) R'.unwipe hf hp ha (fun z => no (ow_unwipe R' z)) ?_
    cases q : H D with
    | none => rfl
    | some u =>
      obtain ⟨u', z⟩ := E1.there D u q
      rw [hD] at z; cases z
theorem dl_lcV (n j : Nat) (own : List (Str × Nat)) {elt tg iter : Expr} {ifs : List Expr} {scope : Scope} {g : DTg} {tt : DTb} {te : DT} (hc : X.calm = true) (hN : X.N.Nodup) (hi : DE X iter (kVar j)) (ok : BlkOk X.N X.env.scope scope own)
    (hg : ∀ (s : Shared) (H : Hp) (C : Addr) (cl : List (Str × Addr)) (fp : List Addr), DG (X.blk s H scope (compEnvC scope cl C X.env) fp) n (own.map (·.2)) (RpR X.K) tg g) (ht : ∀ (s : Shared) (H : Hp) (C : Addr) (cl : List (Str × Addr)) (fp : List Addr), DTs (X.blk s H scope (compEnvC scope cl C X.env) fp) ifs tt)
    (he : ∀ (s : Shared) (H : Hp) (C : Addr) (cl : List (Str × Addr)) (fp : List Addr), DE (X.blk s H scope (compEnvC scope cl C X.env) fp) elt te)
    (hs : ∀ x, foldedSetIterable iter X.env x = pure x := by intro _; rfl) : DL X (.ListComp elt [⟨tg, iter, ifs, 0⟩] scope pos) (kCompV (own.map (·.2)) j g tt te) :=
  have mg := (hg X.s_0 X.H_0 0 [] []).mono
  have mt := (ht X.s_0 X.H_0 0 [] []).mono
  have me := (he X.s_0 X.H_0 0 [] []).mono
  ⟨fun env Q Q' i q => gL_mono (fun ds q => ⟨q.1, q.2.1, dCompV_mono mg mt me i _ _ _ q.2.2⟩) q, (pe_lc hc hN (pi_sq hi.run) ok (fun s H C cl fp => (hg s H C cl fp).run) (fun s H C cl fp => (ht s H C cl fp).run) (fun s H C cl fp => (he s H C cl fp).run) hs).mono fun σ H Q h => compV_run (n := n) mg mt me h⟩
end
section
variable {vs : List Nat} {g : DTg} {c : DTb} {te : DT} {Ql : List Dt → Dn → Prop} {ds : List Dt} {env : Dn} {j : Nat}
theorem i_compV {ds : List Dt} (e : env[j]? = some (some (.obj (.lst ds)))) (hj : j ∉ vs) (hl : ds.length ≤ 1000) (h : dCompV vs j ds g c te Ql ds [] (wipeD env vs)) : kCompV vs j g c te env Ql := by
  show gL env j _
  exact i_gL e ⟨hj, lenOk_lit hl, h⟩
theorem compV_keep (kp : Dt → Bool) {ds : List Dt} (e : env[j]? = some (some (.obj (.lst ds)))) (hs : ∀ d ∈ ds, ∀ (K : Dt → Dn → Prop) (J : Dn → Prop), (kp d = true → K d env) → (kp d = false → J env) → g d env fun env1 => c env1 fun b env2 => if b = true then te env2 fun ev env3 => as1 ev fun r => K r (wipeD env3 vs) else J (wipeD env2 vs))
    (h0 : Ql (ds.filter kp) env) : dCompV vs j ds g c te Ql ds [] env := by
  have key : ∀ (post : List Dt) (acc : List Dt), (∀ d ∈ post, d ∈ ds) → acc ++ post.filter kp = ds.filter kp → dCompV vs j ds g c te Ql post acc env := by
    intro post
    induction post with
    | nil =>
      intro acc _ e'
      have : acc = ds.filter kp := by simpa using e'
      exact ⟨e, by rw [this]; exact h0⟩
    | cons d r ih =>
      intro acc hm e'
      refine ⟨e, hs d (hm d (List.mem_cons_self ..)) (fun r' env' => dCompV vs j ds g c te Ql r (acc ++ [r']) env') (fun env' => dCompV vs j ds g c te Ql r acc env') (fun h => ?_) fun h => ?_⟩
      · exact ih (acc ++ [d]) (fun x hx => hm x (List.mem_cons_of_mem _ hx)) (by rw [← e']; simp [h])
      · exact ih acc (fun x hx => hm x (List.mem_cons_of_mem _ hx)) (by rw [← e']; simp [h])
  exact key ds [] (fun _ h => h) (by simp)
end
open PySem PySem.Spec L2

section
variable {X : Cx} {n : Nat} {pos : Pos} {a b : Expr} {ta tb : DT}
def inOk (d : Dt) (ds : List Dt) : Bool := d.canLay0 && PyData.canLayAll0 ds && decide (min (PyData.depthAll ds) d.depth ≤ 100)
def inXD (d e : Dt) : Option Dt := (seqD e).bind fun ds => if inOk d ds = true then some (.bool (memD d ds)) else none
def ninXD (d e : Dt) : Option Dt := (seqD e).bind fun ds => if inOk d ds = true then some (.bool (!memD d ds)) else none
def rInX (K : PySem.W.Frag) (neg : Bool) : R2 := fun x y H Q => ∃ d e ds, Dp K H x d ∧ Dp K H y e ∧ seqD e = some ds ∧ inOk d ds = true ∧ Q (.bl (if neg then !memD d ds else memD d ds)) H
theorem inOk_get {d : Dt} {ds : List Dt} (h : inOk d ds = true) : d.canLay0 = true ∧ PyData.canLayAll0 ds = true ∧ min (PyData.depthAll ds) d.depth ≤ 100 := by
  unfold inOk at h
  simp only [Bool.and_eq_true, decide_eq_true_eq] at h
  exact ⟨h.1.1, h.1.2, h.2⟩
theorem seqD_get {e : Dt} {ds : List Dt} (h : seqD e = some ds) : e = .list ds ∨ e = .tuple ds := by
  cases e <;> simp [seqD] at h
  · exact .inl (by rw [h])
  · exact .inr (by rw [h])
theorem op_inX (hv : X.A.units + 150 < cLine) : OpR X (compareOp .In) (rInX X.K false) := by
  intro pins s σ H x y v u Q I rx ry h
  obtain ⟨d, e, ds, hd, he, hs, ok, q⟩ := h
  obtain ⟨c1, c2, c3⟩ := inOk_get ok
  obtain ⟨as, r1⟩ := Dp.reads I d x v hd rx
  obtain ⟨bs, r2⟩ := Dp.reads I e y u he ry
  rcases seqD_get hs with rfl | rfl
  · exact SeqAt.in_list_reads r2 r1 c2 c1 (by omega) ⟨.bl _, H, I, rfl, q⟩
  · exact SeqAt.in_tuple_reads r2 r1 c2 c1 (by omega) ⟨.bl _, H, I, rfl, q⟩
theorem op_ninX (hv : X.A.units + 150 < cLine) : OpR X (compareOp .NotIn) (rInX X.K true) := by
  intro pins s σ H x y v u Q I rx ry h
  obtain ⟨d, e, ds, hd, he, hs, ok, q⟩ := h
  obtain ⟨c1, c2, c3⟩ := inOk_get ok
  obtain ⟨as, r1⟩ := Dp.reads I d x v hd rx
  obtain ⟨bs, r2⟩ := Dp.reads I e y u he ry
  rcases seqD_get hs with rfl | rfl
  · exact SeqAt.notIn_list_reads r2 r1 c2 c1 (by omega) ⟨.bl _, H, I, rfl, q⟩
  · exact SeqAt.notIn_tuple_reads r2 r1 c2 c1 (by omega) ⟨.bl _, H, I, rfl, q⟩
theorem lk_inX : LkOp X.K (rInX X.K false) inXD := by
  intro F H x y dx dy d Q sm tx ty e q
  unfold inXD at e
  cases hs : seqD dy with
  | none => rw [hs] at e; cases e
  | some ds =>
    rw [hs] at e
    simp only [Option.bind_some] at e
    split at e
    · rename_i ok
      cases e
      exact ⟨dx, dy, ds, (tx.rp sm).dp, (ty.rp sm).dp, hs, ok, q _ _ (.old (.bl _))⟩
    · cases e
theorem lk_ninX : LkOp X.K (rInX X.K true) ninXD := by
  intro F H x y dx dy d Q sm tx ty e q
  unfold ninXD at e
  cases hs : seqD dy with
  | none => rw [hs] at e; cases e
  | some ds =>
    rw [hs] at e
    simp only [Option.bind_some] at e
    split at e
    · rename_i ok
      cases e
      exact ⟨dx, dy, ds, (tx.rp sm).dp, (ty.rp sm).dp, hs, ok, q _ _ (.old (.bl _))⟩
    · cases e
theorem de_inX (hv : X.A.units + 150 < cLine) (ha : DE X a ta) (hb : DE X b tb) (hm : behindInMarks .In b = false := by rfl) : DE X (.Compare a [.In] [b] pos) (kOp inXD ta tb) := de_cmp (op_inX hv) lk_inX ha hb hm
theorem de_ninX (hv : X.A.units + 150 < cLine) (ha : DE X a ta) (hb : DE X b tb) (hm : behindInMarks .NotIn b = false := by rfl) : DE X (.Compare a [.NotIn] [b] pos) (kOp ninXD ta tb) := de_cmp (op_ninX hv) lk_ninX ha hb hm
theorem db_inX (hv : X.A.units + 150 < cLine) (ha : DE X a ta) (hb : DE X b tb) (hm : behindInMarks .In b = false := by rfl) : DB X (.Compare a [.In] [b] pos) (kB (kOp inXD ta tb)) := db_cmp (op_inX hv) lk_inX ha hb hm
theorem db_ninX (hv : X.A.units + 150 < cLine) (ha : DE X a ta) (hb : DE X b tb) (hm : behindInMarks .NotIn b = false := by rfl) : DB X (.Compare a [.NotIn] [b] pos) (kB (kOp ninXD ta tb)) := db_cmp (op_ninX hv) lk_ninX ha hb hm
theorem i_inXT {d : Dt} {ds : List Dt} {Qd : Dt → Prop} (h : inOk d ds = true) (q : Qd (.bool (memD d ds))) : wr (inXD d (.tuple ds)) Qd := i_wr (by simp only [inXD, seqD, Option.bind_some, if_pos h]) q
theorem i_ninXT {d : Dt} {ds : List Dt} {Qd : Dt → Prop} (h : inOk d ds = true) (q : Qd (.bool (!memD d ds))) : wr (ninXD d (.tuple ds)) Qd := i_wr (by simp only [ninXD, seqD, Option.bind_some, if_pos h]) q
theorem i_inXL {d : Dt} {ds : List Dt} {Qd : Dt → Prop} (h : inOk d ds = true) (q : Qd (.bool (memD d ds))) : wr (inXD d (.list ds)) Qd := i_wr (by simp only [inXD, seqD, Option.bind_some, if_pos h]) q
theorem i_ninXL {d : Dt} {ds : List Dt} {Qd : Dt → Prop} (h : inOk d ds = true) (q : Qd (.bool (!memD d ds))) : wr (ninXD d (.list ds)) Qd := i_wr (by simp only [ninXD, seqD, Option.bind_some, if_pos h]) q
end
def spN {α : Type} (args : α → List Dv) (pre : α → Prop) (post : α → Dt → Prop) : DSp := fun as Q => ∃ a : α, as = args a ∧ pre a ∧ ∀ d, post a d → Q (.dat d) (List.replicate as.length none)
theorem spN_mono {α : Type} (args : α → List Dv) (pre : α → Prop) (post : α → Dt → Prop) : ∀ as (Q Q' : Dv → Dn → Prop), (∀ r o, Q r o → Q' r o) → spN args pre post as Q → spN args pre post as Q' :=
  fun as Q Q' i ⟨a, e, h, q⟩ => ⟨a, e, h, fun d p => i _ _ (q d p)⟩
def isDat : Ev → Bool
  | .dat _ => true
  | _ => false
theorem bkA_dat : ∀ {es : List Ev} {outs env : Dn}, es.all isDat = true → bkA es outs env = env
  | [], outs, env, _ => by cases outs <;> rfl
  | .dat d :: es, [], env, h => rfl
  | .dat d :: es, o :: outs, env, h => bkA_dat (es := es) (by simpa [isDat] using h)
  | .var _ :: _, _, _, h => by simp [isDat] at h
  | .new _ :: _, _, _, h => by simp [isDat] at h
theorem i_callN {α : Type} {args : α → List Dv} {pre : α → Prop} {post : α → Dt → Prop} {nP nK : Nat} {dd : List Dt} {pick : List Nat} {evs kevs : List Ev} {env : Dn} {Q : Ev → Dn → Prop} (a : α)
    (h1 : evs.length = nP) (h2 : kevs.length = nK) (h3 : okV (getP (evs ++ kevs ++ dd.map Ev.dat) pick) = true) (h4 : argsO env (getP (evs ++ kevs ++ dd.map Ev.dat) pick) = some (args a)) (h5 : (getP (evs ++ kevs ++ dd.map Ev.dat) pick).all isDat = true) (hp : pre a) (hq : ∀ d, post a d → Q (.dat d) env) :
    doFn (spN args pre post) nP nK dd pick evs kevs env Q := by
  refine ⟨h1, h2, h3, ?_⟩
  rw [h4]
  refine ⟨a, rfl, hp, fun d p => ?_⟩
  show Q (.dat d) _
  rw [bkA_dat h5]
  exact hq d p
section
variable {X : Cx} {n : Nat} {pos : Pos}
def rIndexX (K : PySem.W.Frag) : V → List V → Hp → VK → Prop := fun x xs H Q => ∃ (a : Addr) (y : V) (d : PyData) (ds : List PyData) (j : Nat) (z : PyData), x = V.ref a ∧ xs = [y] ∧ Dp K H (V.ref a) (.tuple ds) ∧ Dp K H y d ∧
  inOk d ds = true ∧ ds[j]? = some z ∧ PyData.eqv z d = true ∧ (∀ (m : Nat) (z' : PyData), m < j → ds[m]? = some z' → PyData.eqv z' d = false) ∧ Q (.int (j : Nat)) H
theorem mt_indexX (hv : X.A.units + 150 < cLine) : MtR X "tuple.index" (rIndexX X.K) := by
  intro pins s σ H x xs v us Q I rx rxs h
  obtain ⟨a, y, d, ds, j, z, rfl, rfl, hl, hy, ok, hz, hzj, hno, q⟩ := h
  obtain ⟨sd, hxs, c3⟩ := inOk_get ok
  cases rx
  cases rxs with
  | cons ry rt =>
    rename_i uy ut
    cases rt
    obtain ⟨bs, r1⟩ := Dp.reads I d y uy hy ry
    have hroom : X.A.units + 1 + min (PyData.depthAll ds) d.depth < cLine := by omega
    cases hl with
    | tup hs ha =>
      obtain ⟨its, rv, pl, hlen⟩ := I.tuple hs
      obtain ⟨⟨cls, dd, dt, sls⟩, ho, hc, n, hdt⟩ := pl
      simp only at hc hdt
      subst hc hdt
      obtain ⟨as, h4⟩ := Dp.readsAll I ds _ its ha rv
      have hn : its.length = ds.length := SeqAt.ReadsAll.length ds its as h4
      have hmap : its.map (SeqAt.readOf s.heap) = ds := SeqAt.readsAll_map ds its as hxs h4
      obtain ⟨hjd, _⟩ := List.getElem?_eq_some_iff.mp hz
      have hjl : j < its.length := by omega
      have hj : j < its.toArray.size := by simpa using hjl
      have at_ : ∀ (m : Nat) (hm : m < its.toArray.size) (z' : PyData), ds[m]? = some z' → SeqAt.readOf s.heap its.toArray[m] = z' := by
        intro m hm z' hz'
        have hml : m < its.length := by simpa using hm
        rw [← hmap, List.getElem?_map, List.getElem?_eq_getElem hml] at hz'
        have e1 : SeqAt.readOf s.heap its[m] = z' := Option.some.inj (show some (SeqAt.readOf s.heap its[m]) = some z' from hz')
        simpa using e1
      refine call_meets PySem.F.slot_tuple_index ⟨_, ho, rfl⟩ PySem.F.entry_tuple_index (PySem.F.args_tuple_index_2 _ _)
        (TI.tuple_indexAt a its.toArray n dd sls uy (fun u => PyData.eqv (SeqAt.readOf s.heap u) d) j hj ?_ ?_) ⟨ho, SeqAt.items_eqAt (vs := its.toArray) (show ReadsAll s.heap its.toArray.toList ds as from h4) r1 hxs sd hroom, ?_⟩
      · show PyData.eqv (SeqAt.readOf s.heap its.toArray[j]) d = true
        rw [at_ j hj z hz]
        exact hzj
      · intro m hm hmj
        have hmd : m < ds.length := by omega
        have hz' : ds[m]? = some ds[m] := List.getElem?_eq_getElem hmd
        show PyData.eqv (SeqAt.readOf s.heap its.toArray[m]) d = false
        rw [at_ m hm _ hz']
        exact hno m _ hmj hz'
      · exact ⟨.int (j : Nat), H, I.tok _, ⟨_, rfl⟩, q⟩
end
end Dx
namespace Fx
open PySem PySem.Spec L2 Dx

/-- what is asked of a run: a word of its end, and of its errors -/
structure Tr (α : Type) where
  wp : (α → Prop) → XP → Prop
  mono : ∀ {Q Q' : α → Prop} {E E' : XP}, (∀ a, Q a → Q' a) → (∀ e, E e → E' e) → wp Q E → wp Q' E'
section
variable {α β γ σ : Type}
theorem Tr.ext {m n : Tr α} (h : ∀ Q E, m.wp Q E ↔ n.wp Q E) : m = n := by
  cases m; cases n
  congr
  funext Q E
  exact propext (h Q E)
theorem Tr.post {m : Tr α} {Q Q' : α → Prop} {E : XP} (h : m.wp Q E) (i : ∀ a, Q a → Q' a) : m.wp Q' E := m.mono i (fun _ e => e) h
def ret (a : α) : Tr α := ⟨fun Q _ => Q a, fun h _ q => h _ q⟩
def fail : Tr α := ⟨fun _ _ => False, fun _ _ q => q⟩
def bnd (m : Tr α) (k : α → Tr β) : Tr β := ⟨fun Q E => m.wp (fun a => (k a).wp Q E) E, fun h he => m.mono (fun a => (k a).mono h he) he⟩
def lift (o : Option α) : Tr α := ⟨fun Q _ => wr o Q, fun h _ q => wr_mono h q⟩
def raiseT (e : Ex) : Tr α := ⟨fun _ E => E e, fun _ he => he e⟩
def need (p : Prop) (m : Tr α) : Tr α := ⟨fun Q E => p ∧ m.wp Q E, fun h he q => ⟨q.1, m.mono h he q.2⟩⟩
/-- any that fits -/
def anyT (P : α → Prop) : Tr α := ⟨fun Q _ => ∀ a, P a → Q a, fun h _ q a p => h _ (q a p)⟩
def drawT (d : Dt) : Tr Dt := ⟨fun Q _ => ∃ m, d = .int m ∧ 0 < m ∧ m < 1073741824 ∧ ∀ k, 0 ≤ k → k < m → Q (.int k), fun h _ ⟨m, e, h0, h1, q⟩ => ⟨m, e, h0, h1, fun k k0 k1 => h _ (q k k0 k1)⟩⟩
theorem bind_ret (a : α) (k : α → Tr β) : bnd (ret a) k = k a := rfl
theorem ret_bind (m : Tr α) : bnd m ret = m := rfl
theorem bind_bind (m : Tr α) (k : α → Tr β) (l : β → Tr γ) : bnd (bnd m k) l = bnd m fun a => bnd (k a) l := rfl
theorem lift_some (a : α) : lift (some a) = ret a := rfl
theorem wp_ret {a : α} {Q : α → Prop} {E : XP} : (ret a).wp Q E ↔ Q a := Iff.rfl
theorem wp_bind {m : Tr α} {k : α → Tr β} {Q : β → Prop} {E : XP} : (bnd m k).wp Q E ↔ m.wp (fun a => (k a).wp Q E) E := Iff.rfl
theorem bind_fail (k : α → Tr β) : bnd fail k = fail := rfl
theorem bind_raise (e : Ex) (k : α → Tr β) : bnd (raiseT e) k = raiseT e := rfl
theorem bind_cond (b : Bool) (m n : Tr α) (k : α → Tr β) : bnd (cond b m n) k = cond b (bnd m k) (bnd n k) := by cases b <;> rfl
theorem bind_need (p : Prop) (m : Tr α) (k : α → Tr β) : bnd (need p m) k = need p (bnd m k) := rfl
theorem need_of {p : Prop} (h : p) (m : Tr α) : need p m = m := Tr.ext fun Q E => ⟨fun x => x.2, fun x => ⟨h, x⟩⟩
theorem wp_need {p : Prop} {m : Tr α} {Q : α → Prop} {E : XP} : (need p m).wp Q E ↔ p ∧ m.wp Q E := Iff.rfl

def opT (f : Dt → Dt → Option Dt) (a b : Tr Dt) : Tr Dt := bnd a fun x => bnd b fun y => lift (f x y)
def uopT (f : Dt → Option Dt) (a : Tr Dt) : Tr Dt := bnd a fun x => lift (f x)
def consT (a : Tr Dt) (l : Tr (List Dt)) : Tr (List Dt) := bnd a fun x => bnd l fun xs => ret (x :: xs)
def nilT : Tr (List Dt) := ret []
def callT (f : List Dt → Option Dt) (l : Tr (List Dt)) : Tr Dt := bnd l fun xs => lift (f xs)
def tupT (l : Tr (List Dt)) : Tr Dt := bnd l fun xs => ret (.tuple xs)
def lstT (l : Tr (List Dt)) : Tr Dt := bnd l fun xs => ret (.list xs)
def isiT (g : Dt → Bool) (a : Tr Dt) : Tr Dt := bnd a fun x => ret (.bool (g x))
def blD : Dt → Option Bool
  | .bool b => some b
  | _ => none
theorem blD_get {d : Dt} {b : Bool} (h : blD d = some b) : d = .bool b := by
  cases d <;> simp [blD] at h
  rw [h]
def tbT (a : Tr Dt) : Tr Bool := bnd a fun x => lift (blD x)
def andT (a b : Tr Bool) : Tr Bool := bnd a fun x => cond x b (ret false)
def orT (a b : Tr Bool) : Tr Bool := bnd a fun x => cond x (ret true) b
def notT (a : Tr Bool) : Tr Bool := bnd a fun x => ret (!x)
def ifT (c : Tr Bool) (a b : Tr α) : Tr α := bnd c fun x => cond x a b
def bvT (a : Tr Bool) : Tr Dt := bnd a fun x => ret (.bool x)
def pairT (a : Tr α) (b : Tr β) : Tr (α × β) := bnd a fun x => bnd b fun y => ret (x, y)
def unitT : Tr Unit := ret ()
def asLD : Dt → Option (List Dt)
  | .list ds => some ds
  | _ => none
def asTD : Dt → Option (List Dt)
  | .tuple ds => some ds
  | _ => none
def asID : Dt → Option Int
  | .int i => some i
  | _ => none

variable {E : XP} {env : Dn}
def SD (E : XP) (t : DT) (env : Dn) (m : Tr Dt) : Prop := ∀ Q : Dk, m.wp (fun d => Q (.dat d) env) E → t env Q
def SR (E : XP) (t : DT) (env : Dn) (m : Tr Dt) : Prop := ∀ Q : Dk, m.wp (fun d => ∀ ev, rs env ev = some d → Q ev env) E → t env Q
def SB (E : XP) (t : DTb) (env : Dn) (m : Tr Bool) : Prop := ∀ Q : Bool → Dn → Prop, m.wp (fun b => Q b env) E → t env Q
def SL (E : XP) (t : DTl) (env : Dn) (m : Tr (List Dt)) : Prop := ∀ Q : List Dt → Dn → Prop, m.wp (fun d => Q d env) E → t env Q
/-- data arguments, n of them -/
def SA (E : XP) (t : DTa) (env : Dn) (m : Tr (List Dt)) (n : Nat) : Prop := ∀ Q : List Ev → Dn → Prop, m.wp (fun d => d.length = n → Q (d.map Ev.dat) env) E → t env Q
/-- arguments that are read -/
def SAr (E : XP) (t : DTa) (env : Dn) (m : Tr (List Dt)) : Prop := ∀ Q : List Ev → Dn → Prop, m.wp (fun d => ∀ evs, rsL env evs = some d → Q evs env) E → t env Q
/-- arguments of any sort -/
def SP (E : XP) (t : DTa) (env : Dn) (m : Tr β) (k : β → List Ev) : Prop := ∀ Q : List Ev → Dn → Prop, m.wp (fun b => Q (k b) env) E → t env Q
def SO (E : XP) (t : DTo) (env : Dn) (m : Tr (Option Int)) : Prop := ∀ Q : Option Int → Dn → Prop, m.wp (fun b => Q b env) E → t env Q
def SG (E : XP) (g : DTg) (x : Dt) (env : Dn) (m : Tr β) (φ : β → Dn) : Prop := ∀ Q : Dn → Prop, m.wp (fun b => Q (φ b)) E → g x env Q

variable {ta tb te : DT} {ma mb me : Tr Dt} {c c' : DTb} {mc mc' : Tr Bool} {tz : DTa} {mz : Tr (List Dt)} {tl : DTl} {ml : Tr (List Dt)} {n : Nat}
theorem SD.sr (h : SD E te env me) : SR E te env me := fun Q w => h Q (Tr.post w fun d q => q (.dat d) rfl)
theorem sd_c {d : Dt} : SD E (kC d) env (ret d) := fun Q w => w
theorem sd_var {i : Nat} {d : Dt} (e : env[i]? = some (some (.dat d))) : SD E (kVar i) env (ret d) := fun Q w => by
  show match env[i]? with | some (some (.dat d)) => Q (.dat d) env | some (some (.obj _)) => Q (.var i) env | _ => False
  rw [e]; exact w
theorem sr_var {i : Nat} {ds : List Dt} (e : env[i]? = some (some (.obj (.lst ds)))) : SR E (kVar i) env (ret (.list ds)) := fun Q w => by
  show match env[i]? with | some (some (.dat d)) => Q (.dat d) env | some (some (.obj _)) => Q (.var i) env | _ => False
  rw [e]; exact w _ (by show (match env[i]? with | some (some (.dat d)) => some d | some (some (.obj (.lst xs))) => some (.list xs) | _ => none) = _; rw [e])
theorem sd_op {f : Dt → Dt → Option Dt} (ha : SR E ta env ma) (hb : SR E tb env mb) : SD E (kOp f ta tb) env (opT f ma mb) := fun Q w =>
  ha _ (Tr.post w fun x w ev e => hb _ (Tr.post w fun y w ev' e' => wr_of e (wr_of e' w)))
theorem sd_un {f : Dt → Option Dt} (ha : SR E ta env ma) : SD E (kUn f ta) env (uopT f ma) := fun Q w => ha _ (Tr.post w fun x w ev e => wr_of e w)
theorem sd_isi {g : Dt → Bool} (ha : SR E ta env ma) : SD E (kIsi g ta) env (isiT g ma) := fun Q w => ha _ (Tr.post w fun x w ev e => wr_of e w)
theorem sar_nil : SAr E kNil env nilT := fun Q w => w [] rfl
theorem sar_cons (ha : SR E te env me) (hz : SAr E tz env mz) : SAr E (kCons te tz) env (consT me mz) := fun Q w =>
  ha _ (Tr.post w fun x w ev e => hz _ (Tr.post w fun xs w evs es => w (ev :: evs) (by simp only [rsL, e, es])))
theorem sd_call {f : List Dt → Option Dt} (hz : SAr E tz env mz) : SD E (kCall f tz) env (callT f mz) := fun Q w => hz _ (Tr.post w fun xs w evs es => wr_of es w)
theorem sa_nil : SA E kNil env nilT 0 := fun Q w => w rfl
theorem sa_cons {n : Nat} (ha : SD E te env me) (hz : SA E tz env mz n) : SA E (kCons te tz) env (consT me mz) (n + 1) := fun Q w =>
  ha _ (Tr.post w fun x w => hz _ (Tr.post w fun xs w hl => w (by simp [hl])))
theorem asD_map (ds : List Dt) (Q : List Dt → Prop) (h : Q ds) : asD (ds.map Ev.dat) Q := by
  induction ds generalizing Q with
  | nil => exact h
  | cons d ds ih => exact ih _ h
theorem sd_tup (hz : SA E tz env mz n) (hn : n ≤ 1000 := by decide) : SD E (kTup tz) env (tupT mz) := fun Q w =>
  hz _ (Tr.post w fun xs w hl => asD_map xs _ ⟨by show xs.length ≤ sizeLine; rw [hl]; exact Nat.le_trans hn (by decide +kernel), w⟩)
theorem sl_lst (hz : SA E tz env mz n) (hn : n ≤ 1000 := by decide) : SL E (kLst tz) env mz := fun Q w =>
  hz _ (Tr.post w fun xs w hl => asD_map xs _ ⟨by show xs.length ≤ sizeLine; rw [hl]; exact Nat.le_trans hn (by decide +kernel), w⟩)
theorem sd_LF (h : SL E tl env ml) : SD E (kLF tl) env (lstT ml) := fun Q w => h _ w
theorem sb_B (h : SD E te env me) : SB E (kB te) env (tbT me) := fun Q w => h _ (Tr.post w fun d w => by
  obtain ⟨b, e, w⟩ := wr_get w
  cases d <;> simp [blD] at e
  subst e
  exact w)
theorem sb_and (h : SB E c env mc) (h' : SB E c' env mc') : SB E (kAndB c c') env (andT mc mc') := fun Q w => h _ (Tr.post w fun b w => by
  cases b
  · simp only [Bool.false_eq_true, if_false]; exact w
  · simp only [if_true]; exact h' _ w)
theorem sb_or (h : SB E c env mc) (h' : SB E c' env mc') : SB E (kOrB c c') env (orT mc mc') := fun Q w => h _ (Tr.post w fun b w => by
  cases b
  · simp only [Bool.false_eq_true, if_false]; exact h' _ w
  · simp only [if_true]; exact w)
theorem sb_not (h : SB E c env mc) : SB E (kNotB c) env (notT mc) := fun Q w => h _ w
theorem sb_yes : SB E tYesD env (ret true) := fun Q w => w
theorem sd_if (h : SB E c env mc) (ha : SD E ta env ma) (hb : SD E tb env mb) : SD E (kIf c ta tb) env (ifT mc ma mb) := fun Q w => h _ (Tr.post w fun b w => by
  cases b
  · simp only [Bool.false_eq_true, if_false]; exact hb _ w
  · simp only [if_true]; exact ha _ w)
theorem sd_and (ha : SD E ta env ma) (hb : SD E tb env mb) : SD E (kAndV ta tb) env (bnd (tbT ma) fun b => cond b mb (ret (.bool false))) := fun Q w => ha _ (Tr.post w fun d w => by
  obtain ⟨b, e, w'⟩ := wr_get w
  obtain rfl := blD_get e
  cases b
  · exact i_asB (q := fun b => if b = true then tb env Q else Q (.dat (.bool false)) env) (i_iteF w')
  · exact i_asB (q := fun b => if b = true then tb env Q else Q (.dat (.bool false)) env) (i_iteT (hb _ w')))
theorem sd_or (ha : SD E ta env ma) (hb : SD E tb env mb) : SD E (kOrV ta tb) env (bnd (tbT ma) fun b => cond b (ret (.bool true)) mb) := fun Q w => ha _ (Tr.post w fun d w => by
  obtain ⟨b, e, w'⟩ := wr_get w
  obtain rfl := blD_get e
  cases b
  · exact i_asB (q := fun b => if b = true then Q (.dat (.bool true)) env else tb env Q) (i_iteF (hb _ w'))
  · exact i_asB (q := fun b => if b = true then Q (.dat (.bool true)) env else tb env Q) (i_iteT w'))
theorem sd_not (ha : SD E ta env ma) : SD E (kNotV ta) env (bvT (notT (tbT ma))) := fun Q w => ha _ (Tr.post w fun d w => by
  obtain ⟨b, e, w⟩ := wr_get w
  cases d <;> simp [blD] at e
  subst e
  exact w)
theorem sp_nil : SP E kNil env unitT (fun _ => []) := fun Q w => w
theorem sp_D {m : Tr β} {k : β → List Ev} (ha : SD E te env me) (hz : SP E tz env m k) : SP E (kCons te tz) env (pairT me m) (fun p => .dat p.1 :: k p.2) := fun Q w =>
  ha _ (Tr.post w fun x w => hz _ w)
theorem sp_V {m : Tr β} {k : β → List Ev} {i : Nat} {o : Ob} (e : env[i]? = some (some (.obj o))) (hz : SP E tz env m k) : SP E (kCons (kVar i) tz) env m (fun p => .var i :: k p) := fun Q w => by
  show match env[i]? with | some (some (.dat d)) => _ | some (some (.obj _)) => _ | _ => False
  rw [e]; exact hz _ w
theorem sp_N {m : Tr β} {k : β → List Ev} (ha : SL E tl env ml) (hz : SP E tz env m k) : SP E (kCons (kLN tl) tz) env (pairT ml m) (fun p => .new (.lst p.1) :: k p.2) := fun Q w =>
  ha _ (Tr.post w fun x w => hz _ w)
def oNT : Tr (Option Int) := ret none
def oST (a : Tr Dt) : Tr (Option Int) := bnd a fun d => bnd (lift (asID d)) fun i => ret (some i)
theorem so_none : SO E oN env oNT := fun Q w => w
theorem so_some (h : SR E te env me) : SO E (oS te) env (oST me) := fun Q w => h _ (Tr.post w fun d w ev e => wr_of e (by
  obtain ⟨b, e, w⟩ := wr_get w
  cases d <;> simp [asID] at e
  subst e
  exact w))
def slTT (a : Tr Dt) (l h : Tr (Option Int)) : Tr Dt := bnd a fun d => bnd l fun x => bnd h fun y => bnd (lift (asTD d)) fun ds => ret (.tuple (cutD ds x y))
def slLT (a : Tr Dt) (l h : Tr (Option Int)) : Tr (List Dt) := bnd a fun d => bnd l fun x => bnd h fun y => bnd (lift (asLD d)) fun ds => ret (cutD ds x y)
theorem sd_slT {t1 t2 : DTo} {m1 m2 : Tr (Option Int)} (h : SR E te env me) (h1 : SO E t1 env m1) (h2 : SO E t2 env m2) : SD E (kSlT te t1 t2) env (slTT me m1 m2) := fun Q w =>
  h _ (Tr.post w fun d w ev e => h1 _ (Tr.post w fun x w => h2 _ (Tr.post w fun y w => wr_of e (by
    obtain ⟨b, e, w⟩ := wr_get w
    cases d <;> simp [asTD] at e
    subst e
    exact w))))
theorem sl_slL {t1 t2 : DTo} {m1 m2 : Tr (Option Int)} (h : SR E te env me) (h1 : SO E t1 env m1) (h2 : SO E t2 env m2) : SL E (kSlL te t1 t2) env (slLT me m1 m2) := fun Q w =>
  h _ (Tr.post w fun d w ev e => h1 _ (Tr.post w fun x w => h2 _ (Tr.post w fun y w => wr_of e (by
    obtain ⟨b, e, w⟩ := wr_get w
    cases d <;> simp [asLD] at e
    subst e
    exact w))))
def catT (a b : Tr Dt) : Tr (List Dt) := bnd a fun x => bnd b fun y => bnd (lift (asLD x)) fun xs => bnd (lift (asLD y)) fun ys => need (xs.length + ys.length ≤ sizeLine) (ret (xs ++ ys))
theorem sl_cat (ha : SR E ta env ma) (hb : SR E tb env mb) : SL E (kCatL ta tb) env (catT ma mb) := fun Q w =>
  ha _ (Tr.post w fun x w ev e => hb _ (Tr.post w fun y w ev' e' => wr_of e (wr_of e' (by
    obtain ⟨b, e, w⟩ := wr_get w
    obtain ⟨b', e', w⟩ := wr_get w
    cases x <;> simp [asLD] at e
    cases y <;> simp [asLD] at e'
    subst e e'
    exact w))))
def revT (a : Tr Dt) : Tr (List Dt) := bnd a fun x => bnd (lift (asLD x)) fun xs => ret xs.reverse
theorem sl_rev (ha : SR E ta env ma) : SL E (kRev ta) env (revT ma) := fun Q w =>
  ha _ (Tr.post w fun x w ev e => wr_of e (by
    obtain ⟨b, e, w⟩ := wr_get w
    cases x <;> simp [asLD] at e
    subst e
    exact w))
def toLT (l : Tr (List Dt)) : Tr (List Dt) := bnd l fun ds => bnd (lift ds.head?) fun d => lift (seqD d)
theorem sl_toL (ha : SR E te env me) : SL E (kToLst (kCons te kNil)) env (bnd me fun d => lift (seqD d)) := fun Q w =>
  ha _ (Tr.post w fun x w ev e => by
    show wr (rsL env [ev]) _
    simp only [rsL, e]
    exact w)
def seqT (a : Tr Dt) : Tr (List Dt) := bnd a fun d => lift (seqD d)
theorem sl_seq (h : SD E te env me) : SL E (iSeq te) env (seqT me) := fun Q w => h _ w
def rngT (a : Tr Dt) : Tr (List Dt) := bnd a fun d => bnd (lift (asID d)) fun j => need (-(2 ^ 62) ≤ j ∧ j < 2 ^ 62) (ret (rngL 0 j))
theorem sl_rng (h : SD E te env me) : SL E (iRng te) env (rngT me) := fun Q w => h _ (Tr.post w fun d w => by
  obtain ⟨b, e, w⟩ := wr_get w
  cases d <;> simp [asID] at e
  subst e
  exact w)
def rng2T (a b : Tr Dt) : Tr (List Dt) := bnd a fun d => bnd b fun d' => bnd (lift (asID d)) fun i => bnd (lift (asID d')) fun j => need (-(2 ^ 62) ≤ i ∧ i < 2 ^ 62 ∧ -(2 ^ 62) ≤ j ∧ j < 2 ^ 62) (ret (rngL i j))
theorem sl_rng2 (h : SD E ta env ma) (h' : SD E tb env mb) : SL E (iRng2 (kCons ta (kCons tb kNil))) env (rng2T ma mb) := fun Q w => h _ (Tr.post w fun d w => h' _ (Tr.post w fun d' w => by
  obtain ⟨b, e, w⟩ := wr_get w
  obtain ⟨b', e', w⟩ := wr_get w
  cases d <;> simp [asID] at e
  cases d' <;> simp [asID] at e'
  subst e e'
  exact w))
def zpO : Dt → Dt → Option (List Dt)
  | .tuple xs, .tuple ys => some (zipD xs ys)
  | .list xs, .list ys => some (zipD xs ys)
  | _, _ => none
def zipT (a b : Tr Dt) : Tr (List Dt) := bnd a fun d => bnd b fun d' => lift (zpO d d')
theorem sl_zip (h : SD E ta env ma) (h' : SD E tb env mb) : SL E (iZp (kCons ta (kCons tb kNil))) env (zipT ma mb) := fun Q w => h _ (Tr.post w fun d w => h' _ (Tr.post w fun d' w => by
  obtain ⟨b, e, w⟩ := wr_get w
  cases d <;> cases d' <;> simp [zpO] at e <;> subst e <;> exact w))
def un1 (x : Dt) : Tr Dt := ⟨fun Q _ => ∃ a, x = .tuple [a] ∧ Q a, fun h _ ⟨a, e, q⟩ => ⟨a, e, h _ q⟩⟩
def un2 (x : Dt) : Tr (Dt × Dt) := ⟨fun Q _ => ∃ a b, x = .tuple [a, b] ∧ Q (a, b), fun h _ ⟨a, b, e, q⟩ => ⟨a, b, e, h _ q⟩⟩
def un3 (x : Dt) : Tr (Dt × Dt × Dt) := ⟨fun Q _ => ∃ a b c, x = .tuple [a, b, c] ∧ Q (a, b, c), fun h _ ⟨a, b, c, e, q⟩ => ⟨a, b, c, e, h _ q⟩⟩
def un4 (x : Dt) : Tr (Dt × Dt × Dt × Dt) := ⟨fun Q _ => ∃ a b c d, x = .tuple [a, b, c, d] ∧ Q (a, b, c, d), fun h _ ⟨a, b, c, d, e, q⟩ => ⟨a, b, c, d, e, h _ q⟩⟩
def un5 (x : Dt) : Tr (Dt × Dt × Dt × Dt × Dt) := ⟨fun Q _ => ∃ a b c d f, x = .tuple [a, b, c, d, f] ∧ Q (a, b, c, d, f), fun h _ ⟨a, b, c, d, f, e, q⟩ => ⟨a, b, c, d, f, e, h _ q⟩⟩
def un6 (x : Dt) : Tr (Dt × Dt × Dt × Dt × Dt × Dt) := ⟨fun Q _ => ∃ a b c d f g, x = .tuple [a, b, c, d, f, g] ∧ Q (a, b, c, d, f, g), fun h _ ⟨a, b, c, d, f, g, e, q⟩ => ⟨a, b, c, d, f, g, e, h _ q⟩⟩
def un7 (x : Dt) : Tr (Dt × Dt × Dt × Dt × Dt × Dt × Dt) := ⟨fun Q _ => ∃ a b c d f g i, x = .tuple [a, b, c, d, f, g, i] ∧ Q (a, b, c, d, f, g, i), fun h _ ⟨a, b, c, d, f, g, i, e, q⟩ => ⟨a, b, c, d, f, g, i, e, h _ q⟩⟩
theorem un2_ret (a b : Dt) : un2 (.tuple [a, b]) = ret (a, b) := Tr.ext fun Q E => ⟨by rintro ⟨x, y, e, q⟩; cases e; exact q, fun q => ⟨_, _, rfl, q⟩⟩
theorem un1_ret (a : Dt) : un1 (.tuple [a]) = ret a := Tr.ext fun Q E => ⟨by rintro ⟨x, e, q⟩; cases e; exact q, fun q => ⟨_, rfl, q⟩⟩
theorem un3_ret (a b c : Dt) : un3 (.tuple [a, b, c]) = ret (a, b, c) := Tr.ext fun Q E => ⟨by rintro ⟨x, y, z, e, q⟩; cases e; exact q, fun q => ⟨_, _, _, rfl, q⟩⟩
theorem un4_ret (a b c d : Dt) : un4 (.tuple [a, b, c, d]) = ret (a, b, c, d) := Tr.ext fun Q E => ⟨by rintro ⟨x, y, z, u, e, q⟩; cases e; exact q, fun q => ⟨_, _, _, _, rfl, q⟩⟩
theorem un5_ret (a b c d f : Dt) : un5 (.tuple [a, b, c, d, f]) = ret (a, b, c, d, f) := Tr.ext fun Q E => ⟨by rintro ⟨x, y, z, u, v, e, q⟩; cases e; exact q, fun q => ⟨_, _, _, _, _, rfl, q⟩⟩
theorem un6_ret (a b c d f g : Dt) : un6 (.tuple [a, b, c, d, f, g]) = ret (a, b, c, d, f, g) := Tr.ext fun Q E => ⟨by rintro ⟨x, y, z, u, v, w, e, q⟩; cases e; exact q, fun q => ⟨_, _, _, _, _, _, rfl, q⟩⟩
theorem un7_ret (a b c d f g i : Dt) : un7 (.tuple [a, b, c, d, f, g, i]) = ret (a, b, c, d, f, g, i) := Tr.ext fun Q E => ⟨by rintro ⟨x, y, z, u, v, w, s, e, q⟩; cases e; exact q, fun q => ⟨_, _, _, _, _, _, _, rfl, q⟩⟩
theorem sg_n {i : Nat} {x : Dt} {φ : Dt → Dn} (e : ∀ d, env.set i (some (.dat d)) = φ d) : SG E (gN i) x env (ret x) φ := fun Q w => by
  show Q (env.set i (some (.dat x))); rw [e]; exact w
theorem sg_1 {gs : DTgs} {x : Dt} {φ : Dt → Dn} (e : ∀ a (Q : Dn → Prop), gs [a] env Q = Q (φ a)) : SG E (gT 1 gs) x env (un1 x) φ := fun Q w => by
  obtain ⟨a, rfl, q⟩ := w; exact ⟨rfl, (e _ _).symm ▸ q⟩
theorem sg_2 {gs : DTgs} {x : Dt} {φ : Dt × Dt → Dn} (e : ∀ a b (Q : Dn → Prop), gs [a, b] env Q = Q (φ (a, b))) : SG E (gT 2 gs) x env (un2 x) φ := fun Q w => by
  obtain ⟨a, b, rfl, q⟩ := w; exact ⟨rfl, (e _ _ _).symm ▸ q⟩
theorem sg_3 {gs : DTgs} {x : Dt} {φ : Dt × Dt × Dt → Dn} (e : ∀ a b c (Q : Dn → Prop), gs [a, b, c] env Q = Q (φ (a, b, c))) : SG E (gT 3 gs) x env (un3 x) φ := fun Q w => by
  obtain ⟨a, b, c, rfl, q⟩ := w; exact ⟨rfl, (e _ _ _ _).symm ▸ q⟩
theorem sg_4 {gs : DTgs} {x : Dt} {φ : Dt × Dt × Dt × Dt → Dn} (e : ∀ a b c d (Q : Dn → Prop), gs [a, b, c, d] env Q = Q (φ (a, b, c, d))) : SG E (gT 4 gs) x env (un4 x) φ := fun Q w => by
  obtain ⟨a, b, c, d, rfl, q⟩ := w; exact ⟨rfl, (e _ _ _ _ _).symm ▸ q⟩
theorem sg_5 {gs : DTgs} {x : Dt} {φ : Dt × Dt × Dt × Dt × Dt → Dn} (e : ∀ a b c d f (Q : Dn → Prop), gs [a, b, c, d, f] env Q = Q (φ (a, b, c, d, f))) : SG E (gT 5 gs) x env (un5 x) φ := fun Q w => by
  obtain ⟨a, b, c, d, f, rfl, q⟩ := w; exact ⟨rfl, (e _ _ _ _ _ _).symm ▸ q⟩
theorem sg_6 {gs : DTgs} {x : Dt} {φ : Dt × Dt × Dt × Dt × Dt × Dt → Dn} (e : ∀ a b c d f g (Q : Dn → Prop), gs [a, b, c, d, f, g] env Q = Q (φ (a, b, c, d, f, g))) : SG E (gT 6 gs) x env (un6 x) φ := fun Q w => by
  obtain ⟨a, b, c, d, f, g, rfl, q⟩ := w; exact ⟨rfl, (e _ _ _ _ _ _ _).symm ▸ q⟩
theorem sg_7 {gs : DTgs} {x : Dt} {φ : Dt × Dt × Dt × Dt × Dt × Dt × Dt → Dn} (e : ∀ a b c d f g i (Q : Dn → Prop), gs [a, b, c, d, f, g, i] env Q = Q (φ (a, b, c, d, f, g, i))) : SG E (gT 7 gs) x env (un7 x) φ := fun Q w => by
  obtain ⟨a, b, c, d, f, g, i, rfl, q⟩ := w; exact ⟨rfl, (e _ _ _ _ _ _ _ _).symm ▸ q⟩
end
open PySem PySem.Spec L2 Dx

inductive Kd : Type 1 where
  | nx {J : Type} (e : J → Dn)
  | lp {J : Type} (e : J → Dn)
  | bk {J : Type} (e : J → Dn)
  | rt (n : Nat) (r : Dv) (pre : Dn)
def Kd.on (D : DEnds) : Kd → Prop
  | .nx e => ∀ j, D.nx (e j)
  | .lp e => (∀ j, D.nx (e j)) ∧ ∀ j, D.ct (e j)
  | .bk e => ∀ j, D.bk (e j)
  | .rt n r pre => ∀ env, env.take n = pre → D.rt r env
inductive Lp (σ β : Type) where
  | nx (s : σ)
  | bk (s : σ)
  | rt (b : β)
section
variable {α β γ σ : Type}
def Lp.el (l : Lp σ β) (a b : σ → Tr γ) (c : β → Tr γ) : Tr γ := match l with
  | .nx s => a s
  | .bk s => b s
  | .rt r => c r
def sumE (r : σ ⊕ β) (f : σ → Tr γ) (g : β → Tr γ) : Tr γ := match r with
  | .inl s => f s
  | .inr b => g b
/-- a loop without ends of its own -/
def foldT : List Dt → σ → (σ → Dt → Tr σ) → Tr σ
  | [], s, _ => ret s
  | x :: xs, s, f => bnd (f s x) fun s' => foldT xs s' f
def forR : List Dt → σ → (σ → Dt → Tr (Lp σ β)) → Tr (σ ⊕ β)
  | [], s, _ => ret (.inl s)
  | x :: xs, s, f => bnd (f s x) fun l => l.el (fun s' => forR xs s' f) (fun s' => ret (.inl s')) fun b => ret (.inr b)
def mapT : List Dt → (Dt → Tr Dt) → Tr (List Dt)
  | [], _ => ret []
  | x :: xs, f => bnd (f x) fun y => bnd (mapT xs f) fun ys => ret (y :: ys)
def fmapT : List Dt → (Dt → Tr (Option Dt)) → Tr (List Dt)
  | [], _ => ret []
  | x :: xs, f => bnd (f x) fun y => bnd (fmapT xs f) fun ys => ret (y.toList ++ ys)
def lenN (l : Tr (List Dt)) : Tr (List Dt) := bnd l fun xs => need (xs.length ≤ sizeLine) (ret xs)
def mapN (l : Tr (List Dt)) (f : Dt → Tr Dt) : Tr (List Dt) := bnd (lenN l) fun xs => mapT xs f
def fmapN (l : Tr (List Dt)) (f : Dt → Tr (Option Dt)) : Tr (List Dt) := bnd (lenN l) fun xs => fmapT xs f
def keepT (c : Tr Bool) (e : Tr Dt) : Tr (Option Dt) := bnd c fun b => cond b (bnd e fun r => ret (some r)) (ret none)
/-- a comprehension whose things turn a state -/
def mapS : List Dt → σ → (σ → Dt → Tr (Dt × σ)) → Tr (List Dt × σ)
  | [], s, _ => ret ([], s)
  | x :: xs, s, f => bnd (f s x) fun p => bnd (mapS xs p.2 f) fun q => ret (p.1 :: q.1, q.2)
def whileT : Nat → σ → (σ → Tr Bool) → (σ → Tr (Lp σ β)) → Tr (σ ⊕ β)
  | 0, _, _, _ => fail
  | n + 1, s, c, f => bnd (c s) fun b => cond b (bnd (f s) fun l => l.el (fun s' => whileT n s' c f) (fun s' => ret (.inl s')) fun r => ret (.inr r)) (ret (.inl s))

variable {E : XP} {env : Dn} {κ : γ → Kd}
variable {ta tb te : DT} {ma mb me : Tr Dt} {c c' : DTb} {mc mc' : Tr Bool} {tz : DTa} {mz : Tr (List Dt)} {tl : DTl} {ml : Tr (List Dt)} {n : Nat}
theorem comp_map {vs : List Nat} {g : DTg} {mg : Dt → Tr β} {ψ : β → Dn} {f : β → Tr Dt} {Q : List Dt → Dn → Prop}
    (hg : ∀ x, SG E g x env (mg x) ψ) (he : ∀ b, SD E te (ψ b) (f b)) (hw : ∀ b, wipeD (ψ b) vs = env) :
    ∀ (ds acc : List Dt), (mapT ds fun x => bnd (mg x) f).wp (fun l => Q (acc ++ l) env) E → dComp vs g tYesD te Q ds acc env
  | [], acc, w => by
    have w : Q (acc ++ []) env := w
    rw [List.append_nil] at w
    exact w
  | d :: ds, acc, w => hg d _ (Tr.post (m := mg d) w fun b w => i_yes (i_iteT (he b _ (Tr.post (m := f b) w fun r w => by
      show dComp vs g tYesD te Q ds (acc ++ [r]) (wipeD (ψ b) vs)
      rw [hw]
      exact comp_map hg he hw ds _ (Tr.post w fun l w => by
        have w : Q (acc ++ (r :: l)) env := w
        simpa using w)))))
theorem sl_map {vs : List Nat} {g : DTg} {mg : Dt → Tr β} {ψ : β → Dn} {f : β → Tr Dt} (hi : SL E tl env ml) (hw0 : wipeD env vs = env)
    (hg : ∀ x, SG E g x env (mg x) ψ) (he : ∀ b, SD E te (ψ b) (f b)) (hw : ∀ b, wipeD (ψ b) vs = env) :
    SL E (kComp vs tl g tYesD te) env (mapN ml fun x => bnd (mg x) f) := fun Q w =>
  hi _ (Tr.post w fun xs w => ⟨w.1, by
    rw [hw0]
    exact comp_map hg he hw xs [] (Tr.post w.2 fun l w => w)⟩)
theorem comp_fmap {vs : List Nat} {g : DTg} {mg : Dt → Tr β} {ψ : β → Dn} {t : β → Tr Bool} {f : β → Tr Dt} {Q : List Dt → Dn → Prop}
    (hg : ∀ x, SG E g x env (mg x) ψ) (ht : ∀ b, SB E c (ψ b) (t b)) (he : ∀ b, SD E te (ψ b) (f b)) (hw : ∀ b, wipeD (ψ b) vs = env) :
    ∀ (ds acc : List Dt), (fmapT ds fun x => bnd (mg x) fun b => keepT (t b) (f b)).wp (fun l => Q (acc ++ l) env) E → dComp vs g c te Q ds acc env
  | [], acc, w => by
    have w : Q (acc ++ []) env := w
    rw [List.append_nil] at w
    exact w
  | d :: ds, acc, w => hg d _ (Tr.post (m := mg d) w fun b w => ht b _ (Tr.post (m := t b) w fun k w => by
      cases k
      · refine i_iteF ?_
        rw [hw]
        exact comp_fmap hg ht he hw ds _ (Tr.post w fun l w => w)
      · refine i_iteT (he b _ (Tr.post (m := f b) w fun r w => ?_))
        show dComp vs g c te Q ds (acc ++ [r]) (wipeD (ψ b) vs)
        rw [hw]
        exact comp_fmap hg ht he hw ds _ (Tr.post w fun l w => by
          have w : Q (acc ++ (r :: l)) env := w
          simpa using w)))
theorem sl_fmap {vs : List Nat} {g : DTg} {mg : Dt → Tr β} {ψ : β → Dn} {t : β → Tr Bool} {f : β → Tr Dt} (hi : SL E tl env ml) (hw0 : wipeD env vs = env)
    (hg : ∀ x, SG E g x env (mg x) ψ) (ht : ∀ b, SB E c (ψ b) (t b)) (he : ∀ b, SD E te (ψ b) (f b)) (hw : ∀ b, wipeD (ψ b) vs = env) :
    SL E (kComp vs tl g c te) env (fmapN ml fun x => bnd (mg x) fun b => keepT (t b) (f b)) := fun Q w =>
  hi _ (Tr.post w fun xs w => ⟨w.1, by
    rw [hw0]
    exact comp_fmap hg ht he hw xs [] (Tr.post w.2 fun l w => w)⟩)
theorem compV_map {vs : List Nat} {j : Nat} {D0 : List Dt} {g : DTg} {mg : Dt → Tr β} {ψ : β → Dn} {t : β → Tr Bool} {f : β → Tr Dt} {Q : List Dt → Dn → Prop} (hj : env[j]? = some (some (.obj (.lst D0))))
    (hg : ∀ x, SG E g x env (mg x) ψ) (ht : ∀ b, SB E c (ψ b) (t b)) (he : ∀ b, SD E te (ψ b) (f b)) (hw : ∀ b, wipeD (ψ b) vs = env) :
    ∀ (ds acc : List Dt), (fmapT ds fun x => bnd (mg x) fun b => keepT (t b) (f b)).wp (fun l => Q (acc ++ l) env) E → dCompV vs j D0 g c te Q ds acc env
  | [], acc, w => ⟨hj, by
    have w : Q (acc ++ []) env := w
    rw [List.append_nil] at w
    exact w⟩
  | d :: ds, acc, w => ⟨hj, hg d _ (Tr.post (m := mg d) w fun b w => ht b _ (Tr.post (m := t b) w fun k w => by
      cases k
      · refine i_iteF ?_
        rw [hw]
        exact compV_map hj hg ht he hw ds _ (Tr.post w fun l w => w)
      · refine i_iteT (he b _ (Tr.post (m := f b) w fun r w => ?_))
        show dCompV vs j D0 g c te Q ds (acc ++ [r]) (wipeD (ψ b) vs)
        rw [hw]
        exact compV_map hj hg ht he hw ds _ (Tr.post w fun l w => by
          have w : Q (acc ++ (r :: l)) env := w
          simpa using w)))⟩
theorem sl_fmapV {vs : List Nat} {j : Nat} {D0 : List Dt} {g : DTg} {mg : Dt → Tr β} {ψ : β → Dn} {t : β → Tr Bool} {f : β → Tr Dt} (hj : env[j]? = some (some (.obj (.lst D0)))) (hv : j ∉ vs) (hw0 : wipeD env vs = env)
    (hg : ∀ x, SG E g x env (mg x) ψ) (ht : ∀ b, SB E c (ψ b) (t b)) (he : ∀ b, SD E te (ψ b) (f b)) (hw : ∀ b, wipeD (ψ b) vs = env) :
    SL E (kCompV vs j g c te) env (fmapN (ret D0) fun x => bnd (mg x) fun b => keepT (t b) (f b)) := fun Q w => by
  show gL env j _
  refine i_gL hj ⟨hv, w.1, ?_⟩
  rw [hw0]
  exact compV_map hj hg ht he hw D0 [] (Tr.post w.2 fun l w => w)
theorem compV_map1 {vs : List Nat} {j : Nat} {D0 : List Dt} {g : DTg} {mg : Dt → Tr β} {ψ : β → Dn} {f : β → Tr Dt} {Q : List Dt → Dn → Prop} (hj : env[j]? = some (some (.obj (.lst D0))))
    (hg : ∀ x, SG E g x env (mg x) ψ) (he : ∀ b, SD E te (ψ b) (f b)) (hw : ∀ b, wipeD (ψ b) vs = env) :
    ∀ (ds acc : List Dt), (mapT ds fun x => bnd (mg x) f).wp (fun l => Q (acc ++ l) env) E → dCompV vs j D0 g tYesD te Q ds acc env
  | [], acc, w => ⟨hj, by
    have w : Q (acc ++ []) env := w
    rw [List.append_nil] at w
    exact w⟩
  | d :: ds, acc, w => ⟨hj, hg d _ (Tr.post (m := mg d) w fun b w => i_yes (i_iteT (he b _ (Tr.post (m := f b) w fun r w => by
      show dCompV vs j D0 g tYesD te Q ds (acc ++ [r]) (wipeD (ψ b) vs)
      rw [hw]
      exact compV_map1 hj hg he hw ds _ (Tr.post w fun l w => by
        have w : Q (acc ++ (r :: l)) env := w
        simpa using w)))))⟩
theorem sl_mapV {vs : List Nat} {j : Nat} {D0 : List Dt} {g : DTg} {mg : Dt → Tr β} {ψ : β → Dn} {f : β → Tr Dt} (hj : env[j]? = some (some (.obj (.lst D0)))) (hv : j ∉ vs) (hw0 : wipeD env vs = env)
    (hg : ∀ x, SG E g x env (mg x) ψ) (he : ∀ b, SD E te (ψ b) (f b)) (hw : ∀ b, wipeD (ψ b) vs = env) :
    SL E (kCompV vs j g tYesD te) env (mapN (ret D0) fun x => bnd (mg x) f) := fun Q w => by
  show gL env j _
  refine i_gL hj ⟨hv, w.1, ?_⟩
  rw [hw0]
  exact compV_map1 hj hg he hw D0 [] (Tr.post w.2 fun l w => w)

def SE (E : XP) (t : DT) (env : Dn) (m : Tr γ) (ev : γ → Ev) (φ : γ → Dn) : Prop := ∀ Q : Dk, m.wp (fun g => Q (ev g) (φ g)) E → t env Q
theorem SD.se (h : SD E te env me) : SE E te env me (fun d => .dat d) (fun _ => env) := h
theorem se_LN (h : SL E tl env ml) : SE E (kLN tl) env ml (fun xs => .new (.lst xs)) (fun _ => env) := fun Q w => h _ w
def SLs (E : XP) (t : DTl) (env : Dn) (m : Tr (List Dt × σ)) (φ : σ → Dn) : Prop := ∀ Q : List Dt → Dn → Prop, m.wp (fun p => Q p.1 (φ p.2)) E → t env Q
theorem se_LFs {m : Tr (List Dt × σ)} {φ : σ → Dn} (h : SLs E tl env m φ) : SE E (kLF tl) env m (fun p => .dat (.list p.1)) (fun p => φ p.2) := fun Q w => h _ w
/-- f(e), of one thing, that turns slots -/
theorem se_call1 {f : List Dt → Option Dt} {m : Tr γ} {v : γ → Dt} {φ : γ → Dn} (h : SE E te env m (fun g => .dat (v g)) φ) :
    SE E (kCall f (kCons te kNil)) env (bnd m fun g => bnd (lift (f [v g])) fun d => ret (d, g)) (fun p => .dat p.1) (fun p => φ p.2) := fun Q w =>
  h _ (Tr.post w fun g w => by
    show wr (rsL (φ g) [.dat (v g)]) (fun ds => wr (f ds) fun d => Q (.dat d) (φ g))
    exact i_rsL1 (by
      obtain ⟨d, e, w⟩ := wr_get w
      exact wr_of e w))
theorem comp_mapS {vs : List Nat} {φ : σ → Dn} {g : DTg} {mg : Dt → Tr β} {ψ : σ → β → Dn} {f : σ → β → Tr (Dt × σ)} {χ : β → σ → Dn} {Q : List Dt → Dn → Prop}
    (hg : ∀ s x, SG E g x (φ s) (mg x) (ψ s)) (he : ∀ s b, SE E te (ψ s b) (f s b) (fun p => .dat p.1) (fun p => χ b p.2)) (hw : ∀ b s, wipeD (χ b s) vs = φ s) :
    ∀ (ds acc : List Dt) (s : σ), (mapS ds s fun s x => bnd (mg x) (f s)).wp (fun p => Q (acc ++ p.1) (φ p.2)) E → dComp vs g tYesD te Q ds acc (φ s)
  | [], acc, s, w => by
    have w : Q (acc ++ []) (φ s) := w
    rw [List.append_nil] at w
    exact w
  | d :: ds, acc, s, w => hg s d _ (Tr.post (m := mg d) w fun b w => i_yes (i_iteT (he s b _ (Tr.post (m := f s b) w fun r w => by
      show dComp vs g tYesD te Q ds (acc ++ [r.1]) (wipeD (χ b r.2) vs)
      rw [hw]
      exact comp_mapS hg he hw ds _ _ (Tr.post w fun l w => by
        have w : Q (acc ++ (r.1 :: l.1)) (φ l.2) := w
        simpa using w)))))
theorem sls_map {vs : List Nat} {φ : σ → Dn} (s0 : σ) {g : DTg} {mg : Dt → Tr β} {ψ : σ → β → Dn} {f : σ → β → Tr (Dt × σ)} {χ : β → σ → Dn} (hi : SL E tl env ml) (hw0 : wipeD env vs = φ s0)
    (hg : ∀ s x, SG E g x (φ s) (mg x) (ψ s)) (he : ∀ s b, SE E te (ψ s b) (f s b) (fun p => .dat p.1) (fun p => χ b p.2)) (hw : ∀ b s, wipeD (χ b s) vs = φ s) :
    SLs E (kComp vs tl g tYesD te) env (bnd (lenN ml) fun xs => mapS xs s0 fun s x => bnd (mg x) (f s)) φ := fun Q w =>
  hi _ (Tr.post w fun xs w => ⟨w.1, by
    rw [hw0]
    exact comp_mapS hg he hw xs [] s0 (Tr.post w.2 fun l w => w)⟩)
def spT {α β : Type} (inA : α → List Dv) (F : α → Tr β) (ρ : α → β → Dv × Dn) : DSp := fun as Q => ∃ a, as = inA a ∧ (F a).wp (fun b => Q (ρ a b).1 (ρ a b).2) noE
theorem spT_mono {α β : Type} (inA : α → List Dv) (F : α → Tr β) (ρ : α → β → Dv × Dn) : ∀ as (Q Q' : Dv → Dn → Prop), (∀ r o, Q r o → Q' r o) → spT inA F ρ as Q → spT inA F ρ as Q' :=
  fun as Q Q' i ⟨a, e, w⟩ => ⟨a, e, Tr.post w fun b q => i _ _ q⟩
theorem se_fn {A B : Type} {inA : α → List Dv} {F : α → Tr β} {ρ : α → β → Dv × Dn} {nP nK : Nat} {dd : List Dt} {pick : List Nat} {t tk : DTa} {ma : Tr A} {ka : A → List Ev} {mk : Tr B} {kk : B → List Ev} (arr : A → B → α) {ev : β → Ev} {φ : β → Dn}
    (ha : SP noE t env ma ka) (hk : SP noE tk env mk kk)
    (h1 : ∀ a b, (ka a).length = nP ∧ (kk b).length = nK ∧ okV (getP (ka a ++ kk b ++ dd.map Ev.dat) pick) = true ∧ argsO env (getP (ka a ++ kk b ++ dd.map Ev.dat) pick) = some (inA (arr a b)))
    (h2 : ∀ a b r, (ρ (arr a b) r).1.ev = ev r ∧ bkA (getP (ka a ++ kk b ++ dd.map Ev.dat) pick) (ρ (arr a b) r).2 env = φ r) :
    SE noE (kFn (spT inA F ρ) nP nK dd pick t tk) env (bnd ma fun a => bnd mk fun b => F (arr a b)) ev φ := fun Q w =>
  ha _ (Tr.post w fun a w => hk _ (Tr.post w fun b w => ⟨(h1 a b).1, (h1 a b).2.1, (h1 a b).2.2.1, wr_of (h1 a b).2.2.2 ⟨arr a b, rfl, Tr.post w fun r q => by
    show Q (ρ (arr a b) r).1.ev (bkA (getP (ka a ++ kk b ++ dd.map Ev.dat) pick) (ρ (arr a b) r).2 env)
    rw [(h2 a b r).1, (h2 a b r).2]; exact q⟩⟩))
theorem sd_fn {A B : Type} {inA : α → List Dv} {F : α → Tr Dt} {ρ : α → Dt → Dv × Dn} {nP nK : Nat} {dd : List Dt} {pick : List Nat} {t tk : DTa} {ma : Tr A} {ka : A → List Ev} {mk : Tr B} {kk : B → List Ev} (arr : A → B → α)
    (ha : SP noE t env ma ka) (hk : SP noE tk env mk kk)
    (h1 : ∀ a b, (ka a).length = nP ∧ (kk b).length = nK ∧ okV (getP (ka a ++ kk b ++ dd.map Ev.dat) pick) = true ∧ argsO env (getP (ka a ++ kk b ++ dd.map Ev.dat) pick) = some (inA (arr a b)))
    (h2 : ∀ a b r, (ρ (arr a b) r).1.ev = .dat r ∧ bkA (getP (ka a ++ kk b ++ dd.map Ev.dat) pick) (ρ (arr a b) r).2 env = env) :
    SD noE (kFn (spT inA F ρ) nP nK dd pick t tk) env (bnd ma fun a => bnd mk fun b => F (arr a b)) := se_fn arr ha hk h1 h2

def SS (E : XP) (t : DTS) (env : Dn) (m : Tr γ) (κ : γ → Kd) : Prop := ∀ D : DEnds, (∀ x, E x → D.ex x) → m.wp (fun g => (κ g).on D) E → t D env
variable {t u v : DTS} {m : Tr γ}
theorem ss_assoc (h : SS E (sSeq t (sSeq u v)) env m κ) : SS E (sSeq (sSeq t u) v) env m κ := h
theorem ss_sk (h : SS E u env m κ) : SS E (sSeq sNx u) env m κ := h
theorem ss_end (h : SS E (sSeq t sNx) env m κ) : SS E t env m κ := h
theorem ss_nx {J : Type} {e : J → Dn} (g : γ) (j : J) (h : κ g = .nx e) (he : e j = env) : SS E sNx env (ret g) κ := fun D hE w => by
  have w : (κ g).on D := w
  rw [h] at w
  have := w j
  rw [he] at this
  exact this
theorem ss_lp {J : Type} {e : J → Dn} (g : γ) (j : J) (h : κ g = .lp e) (he : e j = env) : SS E sNx env (ret g) κ := fun D hE w => by
  have w : (κ g).on D := w
  rw [h] at w
  have := w.1 j
  rw [he] at this
  exact this
theorem ss_ct {J : Type} {e : J → Dn} (g : γ) (j : J) (h : κ g = .lp e) (he : e j = env) : SS E (sSeq sCt u) env (ret g) κ := fun D hE w => by
  have w : (κ g).on D := w
  rw [h] at w
  have := w.2 j
  rw [he] at this
  exact this
theorem ss_bk {J : Type} {e : J → Dn} (g : γ) (j : J) (h : κ g = .bk e) (he : e j = env) : SS E (sSeq sBk u) env (ret g) κ := fun D hE w => by
  have w : (κ g).on D := w
  rw [h] at w
  have := w j
  rw [he] at this
  exact this
/-- return of data -/
theorem ss_ret {n : Nat} {pre : Dn} (ι : Dt → γ) (h : SD E te env me) (hk : ∀ d, κ (ι d) = .rt n (.dat d) pre) (hp : env.take n = pre) : SS E (sSeq (sRet te) u) env (bnd me fun d => ret (ι d)) κ := fun D hE w =>
  h _ (Tr.post w fun d w => by
    have w : (κ (ι d)).on D := w
    rw [hk] at w
    exact w env hp)
theorem ss_retE {δ : Type} {m : Tr δ} {ev : δ → Ev} {φ : δ → Dn} {n : Nat} {r : δ → Dv} {pre : δ → Dn} (ι : δ → γ) (h : SE E te env m ev φ) (hr : ∀ d (Q : Dv → Prop), retE (ev d) Q = Q (r d)) (hk : ∀ d, κ (ι d) = .rt n (r d) (pre d)) (hp : ∀ d, (φ d).take n = pre d) : SS E (sSeq (sRet te) u) env (bnd m fun d => ret (ι d)) κ := fun D hE w =>
  h _ (Tr.post w fun d w => by
    have w : (κ (ι d)).on D := w
    rw [hk] at w
    show retE (ev d) _
    rw [hr]
    exact w _ (hp d))
theorem ss_retN {n : Nat} {pre : Dn} (g : γ) (hk : κ g = .rt n (.dat .none) pre) (hp : env.take n = pre) : SS E sRetN env (ret g) κ := fun D hE w => by
  have w : (κ g).on D := w
  rw [hk] at w
  exact w env hp
theorem ss_retN' {n : Nat} {pre : Dn} (g : γ) (hk : κ g = .rt n (.dat .none) pre) (hp : env.take n = pre) : SS E (sSeq sRetN u) env (ret g) κ := fun D hE w => by
  have w : (κ g).on D := w
  rw [hk] at w
  exact w env hp
theorem ss_set {i : Nat} {env' : Dt → Dn} {mu : Dt → Tr γ} (h : SD E te env me) (he : ∀ d, env.set i (some (.dat d)) = env' d) (hu : ∀ d, SS E u (env' d) (mu d) κ) : SS E (sSeq (sSet i te) u) env (bnd me mu) κ := fun D hE w =>
  h _ (Tr.post w fun d w => by
    show u D (env.set i (some (.dat d)))
    rw [he]
    exact hu d D hE w)
theorem ss_setE {δ : Type} {m : Tr δ} {ev : δ → Ev} {φ : δ → Dn} {i : Nat} {env' : δ → Dn} {mu : δ → Tr γ} (h : SE E te env m ev φ) (he : ∀ d (Q : Dn → Prop), setE i (ev d) (φ d) Q = Q (env' d)) (hu : ∀ d, SS E u (env' d) (mu d) κ) : SS E (sSeq (sSet i te) u) env (bnd m mu) κ := fun D hE w =>
  h _ (Tr.post w fun d w => by
    show setE i (ev d) (φ d) _
    rw [he]
    exact hu d D hE w)
theorem ss_par {A : Type} {is : List Nat} {ta : DTa} {ma : Tr A} {ka : A → List Ev} {env' : A → Dn} {mu : A → Tr γ} (h : SP E ta env ma ka) (he : ∀ a (Q : Dn → Prop), setL is (ka a) env Q = Q (env' a)) (hu : ∀ a, SS E u (env' a) (mu a) κ) : SS E (sSeq (sPar is ta) u) env (bnd ma mu) κ := fun D hE w =>
  h _ (Tr.post w fun d w => by
    show setL is (ka d) env _
    rw [he]
    exact hu d D hE w)
theorem ss_asg {B : Type} {g : DTg} {mg : Dt → Tr B} {φ : B → Dn} {mu : B → Tr γ} (h : SD E te env me) (hg : ∀ x, SG E g x env (mg x) φ) (hu : ∀ b, SS E u (φ b) (mu b) κ) : SS E (sSeq (sAsg te g) u) env (bnd me fun x => bnd (mg x) mu) κ := fun D hE w =>
  h _ (Tr.post w fun x w => hg x _ (Tr.post w fun b w => hu b D hE w))
theorem ss_drop {mu : Tr γ} (h : SD E te env me) (hu : SS E u env mu κ) : SS E (sSeq (sDrop te) u) env (bnd me fun _ => mu) κ := fun D hE w =>
  h _ (Tr.post w fun d w => hu D hE w)
theorem ss_dropE {δ : Type} {m : Tr δ} {ev : δ → Ev} {φ : δ → Dn} {mu : δ → Tr γ} (h : SE E te env m ev φ) (hu : ∀ d, SS E u (φ d) (mu d) κ) : SS E (sSeq (sDrop te) u) env (bnd m mu) κ := fun D hE w =>
  h _ (Tr.post w fun d w => hu d D hE w)
def appT (xs : List Dt) (e : Tr Dt) : Tr (List Dt) := bnd e fun d => need (xs.length < sizeLine) (ret (xs ++ [d]))
def extT (xs : List Dt) (e : Tr Dt) : Tr (List Dt) := bnd e fun d => bnd (lift (asLD d)) fun ys => need (xs.length + ys.length ≤ sizeLine) (ret (xs ++ ys))
def extTT (xs : List Dt) (e : Tr Dt) : Tr (List Dt) := bnd e fun d => bnd (lift (asTD d)) fun ys => need (xs.length + ys.length ≤ sizeLine) (ret (xs ++ ys))
theorem asLD_get {d : Dt} {xs : List Dt} (h : asLD d = some xs) : d = .list xs := by
  cases d <;> simp [asLD] at h
  rw [h]
theorem asTD_get {d : Dt} {xs : List Dt} (h : asTD d = some xs) : d = .tuple xs := by
  cases d <;> simp [asTD] at h
  rw [h]
theorem asID_get {d : Dt} {xs : Int} (h : asID d = some xs) : d = .int xs := by
  cases d <;> simp [asID] at h
  rw [h]
theorem ss_app {i : Nat} {xs : List Dt} {env' : List Dt → Dn} {mu : List Dt → Tr γ} (h : SD E te env me) (hx : env[i]? = some (some (.obj (.lst xs)))) (he : ∀ l, env.set i (some (.obj (.lst l))) = env' l) (hu : ∀ l, SS E u (env' l) (mu l) κ) : SS E (sSeq (sDrop (kApp i te)) u) env (bnd (appT xs me) mu) κ := fun D hE w => by
  show gL env i _
  exact i_gL hx (h _ (Tr.post w fun d w => i_gL hx ⟨w.1, by
    show u D (env.set i _)
    rw [he]
    exact hu _ D hE w.2⟩))
theorem ss_ext {i : Nat} {xs : List Dt} {env' : List Dt → Dn} {mu : List Dt → Tr γ} (h : SD E te env me) (hx : env[i]? = some (some (.obj (.lst xs)))) (he : ∀ l, env.set i (some (.obj (.lst l))) = env' l) (hu : ∀ l, SS E u (env' l) (mu l) κ) : SS E (sSeq (sDrop (kExt i te)) u) env (bnd (extT xs me) mu) κ := fun D hE w => by
  show gL env i _
  exact i_gL hx (h _ (Tr.post w fun d w => by
    obtain ⟨ys, e, w'⟩ := wr_get w
    obtain rfl := asLD_get e
    exact i_gL hx ⟨w'.1, by
      show u D (env.set i _)
      rw [he]
      exact hu _ D hE w'.2⟩))
theorem ss_extT {i : Nat} {xs : List Dt} {env' : List Dt → Dn} {mu : List Dt → Tr γ} (h : SD E te env me) (hx : env[i]? = some (some (.obj (.lst xs)))) (he : ∀ l, env.set i (some (.obj (.lst l))) = env' l) (hu : ∀ l, SS E u (env' l) (mu l) κ) : SS E (sSeq (sDrop (kExtT i te)) u) env (bnd (extTT xs me) mu) κ := fun D hE w => by
  show gL env i _
  exact i_gL hx (h _ (Tr.post w fun d w => by
    obtain ⟨ys, e, w'⟩ := wr_get w
    obtain rfl := asTD_get e
    exact i_gL hx ⟨w'.1, by
      show u D (env.set i _)
      rw [he]
      exact hu _ D hE w'.2⟩))
def lputT (xs : List Dt) (k : Tr Dt) (e : Tr Dt) : Tr (List Dt) := bnd e fun d => bnd k fun j => bnd (lift (asID j)) fun j => bnd (lift (ixN xs.length j)) fun m => ret (xs.set m d)
theorem lput_aux {i : Nat} {k d : Dt} {D : DEnds} {xs : List Dt} {env' : List Dt → Dn} {mu : List Dt → Tr γ} (he : ∀ l, env.set i (some (.obj (.lst l))) = env' l) (hu : ∀ l, SS E u (env' l) (mu l) κ) (hE : ∀ x, E x → D.ex x) (w : (bnd (bnd (lift (asID k)) fun j => bnd (lift (ixN xs.length j)) fun m => ret (xs.set m d)) mu).wp (fun g => (κ g).on D) E) :
    asI k fun j => wr (ixN xs.length j) fun m => u D (env.set i (some (.obj (.lst (xs.set m d))))) := by
  obtain ⟨j, e, w'⟩ := wr_get w
  obtain rfl := asID_get e
  obtain ⟨m, e, w''⟩ := wr_get w'
  refine wr_of e ?_
  rw [he]
  exact hu _ D hE w''
theorem ss_lput {i : Nat} {ti : DT} {mi : Tr Dt} {xs : List Dt} {env' : List Dt → Dn} {mu : List Dt → Tr γ} (hi : SR E ti env mi) (h : SD E te env me) (hx : env[i]? = some (some (.obj (.lst xs)))) (he : ∀ l, env.set i (some (.obj (.lst l))) = env' l) (hu : ∀ l, SS E u (env' l) (mu l) κ) : SS E (sSeq (sLput i ti te) u) env (bnd (lputT xs mi me) mu) κ := fun D hE w =>
  h _ (Tr.post w fun d w => i_gL hx (hi _ (Tr.post w fun k w ev e => i_gL hx (wr_of e (lput_aux (u := u) (D := D) (κ := κ) (mu := mu) (E := E) he hu hE w)))))
theorem ss_if {mA mB : Tr γ} (h : SB E c env mc) (ha : SS E (sSeq t v) env mA κ) (hb : SS E (sSeq u v) env mB κ) : SS E (sSeq (sIf c t u) v) env (ifT mc mA mB) κ := fun D hE w =>
  h _ (Tr.post w fun b w => by
    cases b
    · exact i_iteF (hb D hE w)
    · exact i_iteT (ha D hE w))
theorem ss_join {J δ : Type} {φ : δ → J → Dn} {mA mB : Tr δ} {mu : δ → Tr γ} (h : SB E c env mc) (ha : SS E t env mA (fun s => .nx (φ s))) (hb : SS E u env mB (fun s => .nx (φ s))) (hu : ∀ s j, SS E v (φ s j) (mu s) κ) : SS E (sSeq (sIf c t u) v) env (bnd (ifT mc mA mB) mu) κ := fun D hE w =>
  h _ (Tr.post w fun b w => by
    cases b
    · refine i_iteF (hb _ hE (Tr.post w fun s w j => hu s j D hE w))
    · refine i_iteT (ha _ hE (Tr.post w fun s w j => hu s j D hE w)))
theorem for_fold {J B : Type} {φ : σ → J → Dn} {g : DTg} {mg : Dt → Tr B} {ψ : σ → J → B → Dn} {mb : σ → B → Tr σ} {D : DEnds} (hg : ∀ s j x, SG E g x (φ s j) (mg x) (ψ s j)) (hb : ∀ s j b, SS E t (ψ s j b) (mb s b) (fun s' => .lp (φ s'))) (hE : ∀ x, E x → D.ex x) :
    ∀ (ds : List Dt) (s : σ) (j : J), (foldT ds s fun s x => bnd (mg x) (mb s)).wp (fun s' => ∀ j', D.nx (φ s' j')) E → dFor g t D ds (φ s j)
  | [], s, j, w => w j
  | d :: ds, s, j, w => hg s j d _ (Tr.post (m := mg d) w fun b w => hb s j b _ hE (Tr.post (m := mb s b) w fun s' w => ⟨fun j' => for_fold hg hb hE ds s' j' w, fun j' => for_fold hg hb hE ds s' j' w⟩))
theorem ss_for {J B : Type} {φ : σ → J → Dn} (s0 : σ) (j0 : J) {g : DTg} {mg : Dt → Tr B} {ψ : σ → J → B → Dn} {mb : σ → B → Tr σ} {mu : σ → Tr γ} (hi : SL E tl env ml) (he : φ s0 j0 = env) (hg : ∀ s j x, SG E g x (φ s j) (mg x) (ψ s j))
    (hb : ∀ s j b, SS E t (ψ s j b) (mb s b) (fun s' => .lp (φ s'))) (hu : ∀ s j, SS E u (φ s j) (mu s) κ) : SS E (sSeq (sFor tl g t) u) env (bnd ml fun xs => bnd (foldT xs s0 fun s x => bnd (mg x) (mb s)) mu) κ := fun D hE w =>
  hi _ (Tr.post w fun xs w => by
    subst he
    exact for_fold (D := { D with nx := u D }) hg hb hE xs s0 j0 (Tr.post w fun s w j => hu s j D hE w))
theorem for_R {J B : Type} {φ : σ → J → Dn} {g : DTg} {mg : Dt → Tr B} {ψ : σ → J → B → Dn} {mb : σ → B → Tr (Lp σ β)} {D : DEnds} {κr : β → Kd} (hr : ∀ b, ∃ n r pre, κr b = .rt n r pre) (hg : ∀ s j x, SG E g x (φ s j) (mg x) (ψ s j)) (hb : ∀ s j b, SS E t (ψ s j b) (mb s b) (fun l => match l with | .nx s' => .lp (φ s') | .bk s' => .bk (φ s') | .rt b => κr b)) (hE : ∀ x, E x → D.ex x) :
    ∀ (ds : List Dt) (s : σ) (j : J), (forR ds s fun s x => bnd (mg x) (mb s)).wp (fun r => match r with | .inl s' => ∀ j', D.nx (φ s' j') | .inr b => (κr b).on D) E → dFor g t D ds (φ s j)
  | [], s, j, w => w j
  | d :: ds, s, j, w => hg s j d _ (Tr.post (m := mg d) w fun b w => hb s j b _ hE (Tr.post (m := mb s b) w fun l w => by
      cases l with
      | nx s' => exact ⟨fun j' => for_R hr hg hb hE ds s' j' w, fun j' => for_R hr hg hb hE ds s' j' w⟩
      | bk s' => exact w
      | rt b =>
        have w : (κr b).on D := w
        obtain ⟨n, r, pre, e⟩ := hr b
        show (κr b).on _
        rw [e] at w ⊢
        exact w))
theorem ss_forR {J B : Type} {φ : σ → J → Dn} (s0 : σ) (j0 : J) (ι : β → γ) {g : DTg} {mg : Dt → Tr B} {ψ : σ → J → B → Dn} {mb : σ → B → Tr (Lp σ β)} {mu : σ → Tr γ} {κr : β → Kd} (hr : ∀ b, ∃ n r pre, κr b = .rt n r pre) (hι : ∀ b, κ (ι b) = κr b) (hi : SL E tl env ml) (he : φ s0 j0 = env) (hg : ∀ s j x, SG E g x (φ s j) (mg x) (ψ s j))
    (hb : ∀ s j b, SS E t (ψ s j b) (mb s b) (fun l => match l with | .nx s' => .lp (φ s') | .bk s' => .bk (φ s') | .rt b => κr b)) (hu : ∀ s j, SS E u (φ s j) (mu s) κ) : SS E (sSeq (sFor tl g t) u) env (bnd ml fun xs => bnd (forR xs s0 fun s x => bnd (mg x) (mb s)) fun r => sumE r mu fun b => ret (ι b)) κ := fun D hE w =>
  hi _ (Tr.post w fun xs w => by
    subst he
    exact for_R (D := { D with nx := u D }) hr hg hb hE xs s0 j0 (Tr.post w fun r w => by
      cases r with
      | inl s => exact fun j => hu s j D hE w
      | inr b =>
        have w : (κ (ι b)).on D := w
        rw [hι] at w
        show (κr b).on _
        obtain ⟨n, r, pre, e⟩ := hr b
        rw [e] at w ⊢
        exact w))
theorem ss_while {J : Type} {φ : σ → J → Dn} (fu : Nat) (s0 : σ) (j0 : J) (ι : β → γ) {cc : σ → Tr Bool} {mb : σ → Tr (Lp σ β)} {mu : σ → Tr γ} {κr : β → Kd} (hr : ∀ b, ∃ n r pre, κr b = .rt n r pre) (hι : ∀ b, κ (ι b) = κr b) (he : φ s0 j0 = env) (hc : ∀ s j, SB E c (φ s j) (cc s))
    (hb : ∀ s j, SS E t (φ s j) (mb s) (fun l => match l with | .nx s' => .lp (φ s') | .bk s' => .bk (φ s') | .rt b => κr b)) (hu : ∀ s j, SS E u (φ s j) (mu s) κ) : SS E (sSeq (sWhile c t) u) env (bnd (whileT fu s0 cc mb) fun r => sumE r mu fun b => ret (ι b)) κ := fun D hE w => by
  refine ⟨fun m env => ∃ s j, env = φ s j ∧ (whileT m s cc mb).wp (fun r => (sumE r mu fun b => ret (ι b)).wp (fun g => (κ g).on D) E) E, ⟨fu, s0, j0, he.symm, w⟩, ?_⟩
  rintro m env ⟨s, j, rfl, w⟩
  cases m with
  | zero => exact w.elim
  | succ m =>
    refine hc s j _ (Tr.post (m := cc s) w fun b w => ?_)
    cases b
    · exact i_iteF (hu s j D hE w)
    · refine i_iteT (hb s j _ hE (Tr.post (m := mb s) w fun l w => ?_))
      cases l with
      | nx s' => exact ⟨fun j' => ⟨m, Nat.lt_succ_self m, s', j', rfl, w⟩, fun j' => ⟨m, Nat.lt_succ_self m, s', j', rfl, w⟩⟩
      | bk s' => exact fun j' => hu s' j' D hE w
      | rt b =>
        have w : (κ (ι b)).on D := w
        rw [hι] at w
        show (κr b).on _
        obtain ⟨n, r, pre, e⟩ := hr b
        rw [e] at w ⊢
        exact w
/-- a list that is still written is gone through: it is plain from then on -/
theorem ss_frz {i : Nat} {xs : List Dt} {env' : Dn} {g : DTg} (hx : env[i]? = some (some (.obj (.lst xs)))) (he : env.set i (some (.dat (.list xs))) = env') (hx' : env'[i]? = some (some (.dat (.list xs)))) (h : SS E (sSeq (sFor (iSeq (kVar i)) g t) u) env' m κ) : SS E (sSeq (sFor (iSeq (kFrz i)) g t) u) env m κ := fun D hE w => by
  have := h D hE w
  show match env[i]? with | some (some (.dat d)) => _ | some (some (.obj (.lst xs))) => _ | _ => False
  rw [hx]
  have this : match env'[i]? with | some (some (.dat d)) => _ | some (some (.obj _)) => _ | _ => False := this
  rw [hx'] at this
  show dFor g t _ xs (env.set i _)
  rw [he]
  exact this
theorem fn_T {inA : α → List Dv} {F : α → Tr β} {ρ : α → β → Dv × Dn} {n k : Nat} {N : List Str} {pre : α → β → Dn}
    (h : ∀ a, SS noE (sSeq t sRetN) (startD N (inA a)) (F a) (fun b => .rt n (ρ a b).1 (pre a b))) (hρ : ∀ a b, (ρ a b).2 = pre a b ++ List.replicate (k - n) none) (as : List Dv) (Q : Dv → Dn → Prop) (hl : as.length = k) (w : spT inA F ρ as Q) :
    t { nx := fun env => Q (.dat .none) (outP n k env), rt := fun r env => Q r (outP n k env) } (startD N as) := by
  obtain ⟨a, rfl, w⟩ := w
  refine h a { nx := fun _ => False, rt := fun r env => Q r (outP n k env) } (fun _ z => z) (Tr.post w fun b q env e => ?_)
  rw [hρ, ← e] at q
  exact q
end
open PySem PySem.Spec L2 Dx
open PyProof.Rows (sortedS risingS ltCps_eq sortedS_of_pairwise)

def leS (a b : Str) : Prop := a.cps.toList ≤ b.cps.toList
instance (a b : Str) : Decidable (leS a b) := by unfold leS; infer_instance
theorem leS_of {a b : Str} (h : (!Spec.ltCps b.cps.toList a.cps.toList) = true) : leS a b := by
  rw [ltCps_eq] at h
  simpa [leS] using h
theorem leS_trans {a b c : Str} (h : leS a b) (h' : leS b c) : leS a c := List.le_trans h h'
theorem leS_total (a b : Str) : leS a b ∨ leS b a := List.le_total ..
theorem leS_refl (a : Str) : leS a a := List.le_refl _
theorem rising_pw : ∀ (l : List Str) (p : Str), risingS p l = true → (p :: l).Pairwise leS
  | [], p, _ => by simp
  | x :: r, p, h => by
    simp only [risingS, Bool.and_eq_true] at h
    have h1 := leS_of h.1
    have h2 := rising_pw r x h.2
    refine List.pairwise_cons.mpr ⟨fun y hy => ?_, h2⟩
    rcases List.mem_cons.mp hy with rfl | hy
    · exact h1
    · exact List.le_trans h1 (List.rel_of_pairwise_cons h2 hy)
theorem sorted_pw : ∀ {l : List Str}, sortedS l = true → l.Pairwise leS
  | [], _ => .nil
  | x :: r, h => rising_pw r x h
theorem leS_anti {a b : Str} (h : leS a b) (h' : leS b a) : a = b := by
  have := List.le_antisymm h h'
  cases a; cases b
  simpa using Array.toList_inj.mp this
theorem sorted_uniq : ∀ {a b : List Str}, a.Perm b → a.Pairwise leS → b.Pairwise leS → a = b
  | [], b, p, _, _ => (List.nil_perm.mp p).symm
  | x :: a, [], p, _, _ => by simp at p
  | x :: a, y :: b, p, ha, hb => by
    have e : x = y := by
      have h1 : x ∈ y :: b := p.mem_iff.mp (List.mem_cons_self ..)
      have h2 : y ∈ x :: a := p.mem_iff.mpr (List.mem_cons_self ..)
      rcases List.mem_cons.mp h1 with e | h1
      · exact e
      · rcases List.mem_cons.mp h2 with e | h2
        · exact e.symm
        · exact leS_anti (List.rel_of_pairwise_cons ha h2) (List.rel_of_pairwise_cons hb h1)
    subst e
    rw [sorted_uniq (List.perm_cons x |>.mp p) (List.pairwise_cons.mp ha).2 (List.pairwise_cons.mp hb).2]
def sortS (l : List Str) : List Str := l.mergeSort fun a b => decide (leS a b)
theorem sortS_perm (l : List Str) : (sortS l).Perm l := List.mergeSort_perm ..
theorem sortS_pw (l : List Str) : (sortS l).Pairwise leS := by
  have := List.pairwise_mergeSort (le := fun a b : Str => decide (leS a b)) (fun a b c h h' => by simp at h h' ⊢; exact leS_trans h h') (fun a b => by simp; exact leS_total a b) l
  exact this.imp fun h => by simpa using h
theorem sortS_of {ys l : List Str} (p : ys.Perm l) (h : sortedS ys = true) : ys = sortS l := sorted_uniq (p.trans (sortS_perm l).symm) (sorted_pw h) (sortS_pw l)
theorem sortS_id {l : List Str} (h : l.Pairwise leS) : sortS l = l := sorted_uniq (sortS_perm l) (sortS_pw l) h
theorem sortS_eq {l l' : List Str} (h : l.Perm l') : sortS l = sortS l' := sorted_uniq ((sortS_perm l).trans (h.trans (sortS_perm l').symm)) (sortS_pw l) (sortS_pw l')

section
variable {α β γ σ : Type} {E : XP} {env : Dn} {κ : γ → Kd}
variable {ta tb te tk tv : DT} {ma mb me mk mv : Tr Dt} {tz : DTa} {n : Nat} {t u : DTS} {m : Tr γ}
theorem sp_E {δ : Type} {m : Tr δ} {ev : δ → Ev} {mz : Tr β} {k : β → List Ev} (ha : SE E te env m ev (fun _ => env)) (hz : SP E tz env mz k) : SP E (kCons te tz) env (pairT m mz) (fun p => ev p.1 :: k p.2) := fun Q w =>
  ha _ (Tr.post w fun x w => hz _ w)
abbrev Kv := List (Str × Dt)
def dictT (a : Tr Dt) : Tr Kv := bnd a fun d => bnd (lift (dicOf d)) fun kvs => ret (mergeS [] kvs)
theorem se_dict (h : SR E te env me) : SE E (kDict (kCons te kNil)) env (dictT me) (fun kvs => .new (.dic kvs)) (fun _ => env) := fun Q w =>
  h _ (Tr.post w fun d w ev e => by
    show wr (rsL env [ev]) _
    simp only [rsL, e]
    exact w)
theorem se_dnew : SE E kDnew env (ret ([] : Kv)) (fun kvs => .new (.dic kvs)) (fun _ => env) := fun Q w => w
def getT2 (kvs : Kv) (a b : Tr Dt) : Tr Dt := bnd a fun k => bnd b fun d0 => bnd (lift (strK k)) fun k => ret ((getS kvs k).getD d0)
def getT (kvs : Kv) (a : Tr Dt) : Tr Dt := bnd a fun k => bnd (lift (strK k)) fun k => lift (getS kvs k)
def putT (kvs : Kv) (a b : Tr Dt) : Tr Kv := bnd b fun d => bnd a fun k => bnd (lift (strK k)) fun k => need (kvs.length < sizeLine) (ret (putS kvs k d))
theorem strK_get {d : Dt} {xs : Str} (h : strK d = some xs) : d = .str xs := by
  cases d <;> simp [strK] at h
  rw [h]
theorem sd_dget2 {i : Nat} {kvs : Kv} (hx : env[i]? = some (some (.obj (.dic kvs)))) (hk : SR E tk env mk) (hv : SD E tv env mv) : SD E (kDget2 i tk tv) env (getT2 kvs mk mv) := fun Q w =>
  i_gD hx (hk _ (Tr.post w fun k w ev e => hv _ (Tr.post w fun d w => i_gD hx (by
    rw [e]
    obtain ⟨s, es, w'⟩ := wr_get w
    exact wr_of es w'))))
theorem sd_dix {i : Nat} {kvs : Kv} (hx : env[i]? = some (some (.obj (.dic kvs)))) (hk : SR E tk env mk) : SD E (kDix i tk) env (getT kvs mk) := fun Q w =>
  i_gD hx (hk _ (Tr.post w fun k w ev e => i_gD hx (by
    rw [e]
    obtain ⟨s, es, w'⟩ := wr_get w
    exact wr_of es w')))
theorem dput_aux {i : Nat} {k d : Dt} {ev : Ev} {kvs : Kv} {D : DEnds} {env' : Kv → Dn} {mu : Kv → Tr γ} (e : rs env ev = some k) (he : ∀ l, env.set i (some (.obj (.dic l))) = env' l) (hu : ∀ l, SS E u (env' l) (mu l) κ) (hE : ∀ x, E x → D.ex x) (w : (bnd (bnd (lift (strK k)) fun k => need (kvs.length < sizeLine) (ret (putS kvs k d))) mu).wp (fun g => (κ g).on D) E) :
    wr ((rs env ev).bind strK) fun k => kvs.length < sizeLine ∧ u D (env.set i (some (.obj (.dic (putS kvs k d))))) := by
  rw [e]
  obtain ⟨s, es, w'⟩ := wr_get w
  refine wr_of es ⟨w'.1, ?_⟩
  rw [he]
  exact hu _ D hE w'.2
theorem ss_dput {i : Nat} {kvs : Kv} {env' : Kv → Dn} {mu : Kv → Tr γ} (hk : SR E tk env mk) (hv : SD E tv env mv) (hx : env[i]? = some (some (.obj (.dic kvs)))) (he : ∀ l, env.set i (some (.obj (.dic l))) = env' l) (hu : ∀ l, SS E u (env' l) (mu l) κ) : SS E (sSeq (sDput i tk tv) u) env (bnd (putT kvs mk mv) mu) κ := fun D hE w =>
  hv _ (Tr.post w fun d w => i_gD hx (hk _ (Tr.post w fun k w ev e => i_gD hx (dput_aux (u := u) (D := D) (κ := κ) (mu := mu) (E := E) e he hu hE w))))
def sortKT (kvs : Kv) : Tr (List Dt) := need (kvs.length < 64) (ret ((sortS (kvs.map (·.1))).map .str))
theorem sl_sortD {i : Nat} {kvs : Kv} (hx : env[i]? = some (some (.obj (.dic kvs)))) : SL E (kSortD i) env (sortKT kvs) := fun Q w =>
  i_gD hx ⟨w.1, fun ys p h => by rw [sortS_of p h]; exact w.2⟩
def sortLT (a : Tr Dt) : Tr (List Dt) := bnd a fun d => bnd (lift (asLD d)) fun xs => bnd (lift (strsD xs)) fun ss => need (ss.length < 64) (ret ((sortS ss).map .str))
theorem sl_sortL (h : SR E te env me) : SL E (kSortL (kCons te kNil)) env (sortLT me) := fun Q w =>
  h _ (Tr.post w fun d w ev e => by
    show wr (rsL env [ev]) _
    simp only [rsL, e]
    obtain ⟨xs, ex, w1⟩ := wr_get w
    obtain rfl := asLD_get ex
    obtain ⟨ss, es, w2⟩ := wr_get w1
    show wr (strsD xs) _
    exact wr_of es ⟨w2.1, fun ys p h => by rw [sortS_of p h]; exact w2.2⟩)
def sPre (vs : List Nat) (t : DTS) : DTS := fun D env => t D (wipeD env vs)
theorem ss_pre {vs : List Nat} {env' : Dn} (he : wipeD env vs = env') (h : SS E (sSeq t u) env' m κ) : SS E (sSeq (sPre vs t) u) env m κ := fun D hE w => by
  show t _ (wipeD env vs)
  rw [he]
  exact h D hE w
end
theorem wipeD_at {vs : List Nat} : ∀ {env : Dn} {i : Nat} {d : Dv}, (wipeD env vs)[i]? = some (some d) → env[i]? = some (some d) := by
  induction vs with
  | nil => intro env i d h; exact h
  | cons v vs ih =>
    intro env i d h
    simp only [wipeD, List.getElem?_set] at h
    split at h
    · split at h <;> simp at h
    · exact ih h
theorem wipeD_len {vs : List Nat} {env : Dn} : (wipeD env vs).length = env.length := by
  induction vs with
  | nil => rfl
  | cons v vs ih => simp [wipeD, ih]
theorem ow_wipe {σ : L2.St} {env : Dn} {vs : List Nat} {a : Addr} (h : Ow σ (wipeD env vs) a) : Ow σ env a := by
  obtain ⟨i, o, h1, h2⟩ := h
  exact ⟨i, o, wipeD_at h1, h2⟩
theorem rep_wipe {K : PySem.W.Frag} {F H : Hp} {σ : L2.St} {env : Dn} (vs : List Nat) (R : Rep K F H σ env) : Rep K F H σ (wipeD env vs) :=
  ⟨R.sub, by rw [wipeD_len]; exact R.len, fun i dv h => R.val i dv (wipeD_at h), fun i j o o' p h h' => R.inj i j o o' p (wipeD_at h) (wipeD_at h')⟩
theorem ext_wipe {σ σ' : L2.St} {env env' : Dn} {F F' H H' : Hp} {vs : List Nat} (e : Ext σ (wipeD env vs) F H σ' env' F' H') : Ext σ env F H σ' env' F' H' :=
  ⟨e.same, fun a o h n => e.keep a o h (fun w => n (ow_wipe w)), e.there, fun a o h h' => (e.new a o h h').imp id ow_wipe, fun a h => (e.ow a h).imp ow_wipe id, e.tab⟩
theorem exts_wipe {n : Nat} {σ σ' : L2.St} {env env' : Dn} {F F' H H' : Hp} {vs : List Nat} (e : ExtS n σ (wipeD env vs) F H σ' env' F' H') : ExtS n σ env F H σ' env' F' H' := ⟨ext_wipe e.ext, e.par⟩
theorem pre_imp {X : Cx} {n : Nat} {vs : List Nat} {t : DTS} {D : Ends} {σ : L2.St} {H : Hp} (h : tDs X n (sPre vs t) D σ H) : tDs X n t D σ H := by
  obtain ⟨F, env, E, R, h, L⟩ := h
  exact ⟨F, wipeD env vs, E, rep_wipe vs R, h, ⟨fun a b c d e => L.nx a b c d (exts_wipe e), fun a b c d e => L.bk a b c d (exts_wipe e), fun a b c d e => L.ct a b c d (exts_wipe e), fun r v a b c d e => L.rt r v a b c d (exts_wipe e), fun x y z a b c d e => L.ex x y z a b c d (exts_wipe e)⟩⟩
theorem ds_pre {X : Cx} {n : Nat} {st : Stmt} {t : DTS} (vs : List Nat) (h : DS X n st t) : DS X n st (sPre vs t) := ⟨h.run.mono fun _ _ _ => pre_imp⟩
open PySem PySem.Spec L2 Dx
theorem sd_frz {E : XP} {env : Dn} {i : Nat} {d : Dt} (e : env[i]? = some (some (.dat d))) : SD E (kFrz i) env (ret d) := fun Q w => by
  show match env[i]? with | some (some (.dat d)) => Q (.dat d) env | some (some (.obj (.lst xs))) => Q (.dat (.list xs)) (env.set i (some (.dat (.list xs)))) | _ => False
  rw [e]; exact w
theorem sg_by {β : Type} {E : XP} {env : Dn} {g : DTg} {x : Dt} {m : Tr β} {φ : β → Dn} (h : ∀ Q : Dn → Prop, m.wp (fun b => Q (φ b)) E → g x env Q) : SG E g x env m φ := h
abbrev sp__law_draw : DSp := spT (α := Dt) (β := Dt) (fun z => [feed, .dat z]) (fun z => drawT z) (fun z b => (.dat b, [some feed, some (.dat z)]))
theorem draw_T {P : Program} {w : World} {K : PySem.W.Frag} {mg : Str → Option Value} {base : Heap} {k : Nat} {f : Addr} {fd : FuncData} {ps : List Str} (G : FnG P w K mg base k f fd ps spDr) : FnG P w K mg base k f fd ps sp__law_draw :=
  G.imp (spT_mono _ _ _) fun as Q ⟨z, e, m, hz, h0, h1, q⟩ => ⟨m, by rw [e, hz], ⟨h0, h1⟩, fun d ⟨k, hd, k0, k1⟩ => by rw [hd, e]; exact q k k0 k1⟩
open PySem PySem.Spec L2 Dx
section
variable {α β γ σ : Type} {E : XP} {env : Dn} {tz : DTa}
theorem sp_A {m : Tr β} {k : β → List Ev} {i : Nat} {d : Dt} (e : env[i]? = some (some (.dat d))) (hz : SP E tz env m k) : SP E (kCons (kVar i) tz) env m (fun p => .dat d :: k p) := fun Q w => by
  show match env[i]? with | some (some (.dat d)) => _ | some (some (.obj _)) => _ | _ => False
  rw [e]; exact hz _ w
theorem sp_C {m : Tr β} {k : β → List Ev} {d : Dt} (hz : SP E tz env m k) : SP E (kCons (kC d) tz) env m (fun p => .dat d :: k p) := fun Q w => hz _ w
variable {inA : α → List Dv} {F : α → Tr β} {ρ : α → β → Dv × Dn} {nP nK : Nat} {dd : List Dt} {pick : List Nat} {t tk : DTa}
/-- no argument but variables and constants -/
theorem se_fn0 {ka kk : Unit → List Ev} (z : α) {ev : β → Ev} {φ : β → Dn} (ha : SP noE t env unitT ka) (hk : SP noE tk env unitT kk)
    (h1 : (ka ()).length = nP ∧ (kk ()).length = nK ∧ okV (getP (ka () ++ kk () ++ dd.map Ev.dat) pick) = true ∧ argsO env (getP (ka () ++ kk () ++ dd.map Ev.dat) pick) = some (inA z))
    (h2 : ∀ r, (ρ z r).1.ev = ev r ∧ bkA (getP (ka () ++ kk () ++ dd.map Ev.dat) pick) (ρ z r).2 env = φ r) :
    SE noE (kFn (spT inA F ρ) nP nK dd pick t tk) env (F z) ev φ := se_fn (fun _ _ => z) ha hk (fun _ _ => h1) (fun _ _ => h2)
theorem se_fnA {A : Type} {ma : Tr A} {ka : A → List Ev} {kk : Unit → List Ev} (arr : A → α) {ev : β → Ev} {φ : β → Dn} (ha : SP noE t env ma ka) (hk : SP noE tk env unitT kk)
    (h1 : ∀ a, (ka a).length = nP ∧ (kk ()).length = nK ∧ okV (getP (ka a ++ kk () ++ dd.map Ev.dat) pick) = true ∧ argsO env (getP (ka a ++ kk () ++ dd.map Ev.dat) pick) = some (inA (arr a)))
    (h2 : ∀ a r, (ρ (arr a) r).1.ev = ev r ∧ bkA (getP (ka a ++ kk () ++ dd.map Ev.dat) pick) (ρ (arr a) r).2 env = φ r) :
    SE noE (kFn (spT inA F ρ) nP nK dd pick t tk) env (bnd ma fun a => F (arr a)) ev φ := se_fn (fun a _ => arr a) ha hk (fun a _ => h1 a) (fun a _ => h2 a)
theorem se_fnB {B : Type} {mk : Tr B} {ka : Unit → List Ev} {kk : B → List Ev} (arr : B → α) {ev : β → Ev} {φ : β → Dn} (ha : SP noE t env unitT ka) (hk : SP noE tk env mk kk)
    (h1 : ∀ a, (ka ()).length = nP ∧ (kk a).length = nK ∧ okV (getP (ka () ++ kk a ++ dd.map Ev.dat) pick) = true ∧ argsO env (getP (ka () ++ kk a ++ dd.map Ev.dat) pick) = some (inA (arr a)))
    (h2 : ∀ a r, (ρ (arr a) r).1.ev = ev r ∧ bkA (getP (ka () ++ kk a ++ dd.map Ev.dat) pick) (ρ (arr a) r).2 env = φ r) :
    SE noE (kFn (spT inA F ρ) nP nK dd pick t tk) env (bnd mk fun b => F (arr b)) ev φ := se_fn (fun _ b => arr b) ha hk (fun _ b => h1 b) (fun _ b => h2 b)
end
section
variable {α : Type} {env : Dn} {inA : α → List Dv} {F : α → Tr Dt} {ρ : α → Dt → Dv × Dn} {nP nK : Nat} {dd : List Dt} {pick : List Nat} {t tk : DTa}
theorem sd_fn0 {ka kk : Unit → List Ev} (z : α) (ha : SP noE t env unitT ka) (hk : SP noE tk env unitT kk)
    (h1 : (ka ()).length = nP ∧ (kk ()).length = nK ∧ okV (getP (ka () ++ kk () ++ dd.map Ev.dat) pick) = true ∧ argsO env (getP (ka () ++ kk () ++ dd.map Ev.dat) pick) = some (inA z))
    (h2 : ∀ r, (ρ z r).1.ev = .dat r ∧ bkA (getP (ka () ++ kk () ++ dd.map Ev.dat) pick) (ρ z r).2 env = env) :
    SD noE (kFn (spT inA F ρ) nP nK dd pick t tk) env (F z) := se_fn0 z ha hk h1 h2
theorem sd_fnA {A : Type} {ma : Tr A} {ka : A → List Ev} {kk : Unit → List Ev} (arr : A → α) (ha : SP noE t env ma ka) (hk : SP noE tk env unitT kk)
    (h1 : ∀ a, (ka a).length = nP ∧ (kk ()).length = nK ∧ okV (getP (ka a ++ kk () ++ dd.map Ev.dat) pick) = true ∧ argsO env (getP (ka a ++ kk () ++ dd.map Ev.dat) pick) = some (inA (arr a)))
    (h2 : ∀ a r, (ρ (arr a) r).1.ev = .dat r ∧ bkA (getP (ka a ++ kk () ++ dd.map Ev.dat) pick) (ρ (arr a) r).2 env = env) :
    SD noE (kFn (spT inA F ρ) nP nK dd pick t tk) env (bnd ma fun a => F (arr a)) := se_fnA arr ha hk h1 h2
theorem sd_fnB {B : Type} {mk : Tr B} {ka : Unit → List Ev} {kk : B → List Ev} (arr : B → α) (ha : SP noE t env unitT ka) (hk : SP noE tk env mk kk)
    (h1 : ∀ a, (ka ()).length = nP ∧ (kk a).length = nK ∧ okV (getP (ka () ++ kk a ++ dd.map Ev.dat) pick) = true ∧ argsO env (getP (ka () ++ kk a ++ dd.map Ev.dat) pick) = some (inA (arr a)))
    (h2 : ∀ a r, (ρ (arr a) r).1.ev = .dat r ∧ bkA (getP (ka () ++ kk a ++ dd.map Ev.dat) pick) (ρ (arr a) r).2 env = env) :
    SD noE (kFn (spT inA F ρ) nP nK dd pick t tk) env (bnd mk fun b => F (arr b)) := se_fnB arr ha hk h1 h2
end
end Fx
namespace Dw
open PySem PySem.Spec L2 Dx
theorem cut_map {α β : Type} (f : α → β) (xs : List α) (lo hi : Option Int) : cutD (xs.map f) lo hi = (cutD xs lo hi).map f := by
  unfold cutD
  rw [List.length_map, List.map_take, List.map_drop]
theorem cut_mem {α : Type} {xs : List α} {lo hi : Option Int} {x : α} (h : x ∈ cutD xs lo hi) : x ∈ xs := List.mem_of_mem_drop (List.mem_of_mem_take h)
theorem cut_len {α : Type} (xs : List α) (lo hi : Option Int) : (cutD xs lo hi).length ≤ xs.length := by
  unfold cutD
  exact Nat.le_trans (List.length_take_le' _ _) (by rw [List.length_drop]; omega)
theorem nm_cut (ns : List Str) (lo hi : Option Int) : ∃ ms, cutD (nmD ns) lo hi = nmD ms ∧ (∀ s ∈ ms, s ∈ ns) ∧ ms.length ≤ ns.length := ⟨cutD ns lo hi, cut_map _ _ _ _, fun _ h => cut_mem h, cut_len _ _ _⟩
theorem nm_cut' {ns : List Str} {lo hi : Option Int} {ct : List Dt} (h : cutD (nmD ns) lo hi = ct) : ∃ ms, ct = nmD ms ∧ (∀ s ∈ ms, s ∈ ns) ∧ ms.length ≤ ns.length := by
  obtain ⟨ms, e, h1, h2⟩ := nm_cut ns lo hi
  exact ⟨ms, h.symm.trans e, h1, h2⟩
theorem cut_take {α : Type} (xs : List α) (j : Nat) : cutD xs none (some (j : Int)) = xs.take j := by
  unfold cutD
  rw [HT.sIx_nat, HT.sIx_none, List.drop_zero, Nat.sub_zero]
  by_cases h : j ≤ xs.length
  · rw [Nat.min_eq_left h]
  · rw [Nat.min_eq_right (by omega), List.take_of_length_le (Nat.le_refl _), List.take_of_length_le (by omega)]
theorem nm_take0 (ps : List Str) (j : Nat) : cutD (nmD ps) none (some (j : Int)) = nmD (ps.take j) := by rw [cut_take, nmD, nmD, List.map_take]
theorem nm_take (ps : List Str) (j : Nat) : cutD (nmD ps) none (some (1 + (j : Int))) = nmD (ps.take (j + 1)) := by rw [show 1 + (j : Int) = ((j + 1 : Nat) : Int) by omega]; exact nm_take0 ps (j + 1)
theorem nm_filter (kp : Dt → Bool) (ns : List Str) : (nmD ns).filter kp = nmD (ns.filter fun s => kp (.str s)) := by
  unfold nmD
  rw [List.filter_map]
  rfl
theorem nm_append (a b : List Str) : nmD a ++ nmD b = nmD (a ++ b) := by simp [nmD]
theorem NmOk.append {a b : Nat} {x y : List Str} (h : NmOk a x) (h' : NmOk b y) : NmOk (a + b) (x ++ y) := ⟨fun s hs => (List.mem_append.mp hs).elim (h.1 s) (h'.1 s), by have := h.2; have := h'.2; simp; omega⟩
theorem NmOk.filter {a : Nat} {x : List Str} (h : NmOk a x) (p : Str → Bool) : NmOk a (x.filter p) := ⟨fun s hs => h.1 s (List.mem_filter.mp hs).1, Nat.le_trans (List.length_filter_le _ _) h.2⟩
section
variable {vs : List Nat} {g : DTg} {c : DTb} {te : DT} {Ql : List Dt → Dn → Prop} {ds : List Dt} {env : Dn}
/-- a comprehension whose element may write two lists of names, in slots i and j -/
theorem comp_nh (i j : Nat) (R : Dt → Prop) {n0 m0 : Nat} {ns0 hs0 : List Str} (hn : NmOk n0 ns0) (hh : NmOk m0 hs0)
    (he : (env.set i (some (.obj (.lst (nmD ns0))))).set j (some (.obj (.lst (nmD hs0)))) = env)
    (hs : ∀ d ∈ ds, ∀ (k : Nat) (ns hs : List Str), k < ds.length → NmOk (n0 + k) ns → NmOk (m0 + k) hs → ∀ (K : Dt → Dn → Prop) (J : Dn → Prop),
      (∀ r ns' hs', R r → NmOk (n0 + k + 1) ns' → NmOk (m0 + k + 1) hs' → K r ((env.set i (some (.obj (.lst (nmD ns'))))).set j (some (.obj (.lst (nmD hs')))))) →
      g d ((env.set i (some (.obj (.lst (nmD ns))))).set j (some (.obj (.lst (nmD hs))))) fun env1 => c env1 fun b env2 => if b = true then te env2 fun ev env3 => as1 ev fun r => K r (wipeD env3 vs) else J (wipeD env2 vs))
    (h0 : ∀ rs ns hs, rs.length = ds.length → (∀ r ∈ rs, R r) → NmOk (n0 + ds.length) ns → NmOk (m0 + ds.length) hs → Ql rs ((env.set i (some (.obj (.lst (nmD ns))))).set j (some (.obj (.lst (nmD hs)))))) : dComp vs g c te Ql ds [] env := by
  have key : ∀ (post pre : List Dt) (acc : List Dt) (ns hs' : List Str), ds = pre ++ post → acc.length = pre.length → (∀ r ∈ acc, R r) → NmOk (n0 + pre.length) ns → NmOk (m0 + pre.length) hs' → dComp vs g c te Ql post acc ((env.set i (some (.obj (.lst (nmD ns))))).set j (some (.obj (.lst (nmD hs'))))) := by
    intro post
    induction post with
    | nil =>
      intro pre acc ns hs' e hl hr h1 h2
      have e' : ds = pre := by simpa using e
      subst e'
      exact i_comp0 (h0 acc ns hs' hl hr h1 h2)
    | cons d r ih =>
      intro pre acc ns hs' e hl hr h1 h2
      refine i_comp1 (hs d (by rw [e]; simp) pre.length ns hs' (by rw [e]; simp) h1 h2 (fun r' env' => dComp vs g c te Ql r (acc ++ [r']) env') (fun env' => dComp vs g c te Ql r acc env') fun x ns' hs'' hx h3 h4 => ?_)
      refine ih (pre ++ [d]) (acc ++ [x]) ns' hs'' (by rw [e]; simp) (by simp [hl]) (fun y hy => ?_) (by simpa [Nat.add_assoc] using h3) (by simpa [Nat.add_assoc] using h4)
      rcases List.mem_append.mp hy with hy | hy
      · exact hr y hy
      · simp at hy; subst hy; exact hx
  have := key ds [] [] ns0 hs0 rfl rfl (fun r hr => nomatch hr) hn hh
  rw [he] at this
  exact this
end
def kpOf (ws : List Str) : Dt → Bool
  | .str x => ws.any fun y => y == x
  | _ => false
theorem b_cases {b : Bool} {p q : Prop} (h1 : b = true → p) (h2 : b = false → q) : if b = true then p else q := i_ite h1 h2
open PySem PySem.Spec L2 Dx
theorem Leads.snoc : ∀ {es : List Ed} {e f : Ed}, Leads (es ++ [e]) → TbOk e.code f.code f.st f.lt → Leads (es ++ [e] ++ [f])
  | [], e, f, _, h => ⟨h, trivial⟩
  | [x], e, f, l, h => ⟨l.1, h, trivial⟩
  | x :: y :: r, e, f, l, h => ⟨l.1, Leads.snoc (es := y :: r) l.2 h⟩
def lkD (t : Str × Nat) : Dt := .tuple [.str t.1, .int t.2]
theorem LKEYS_ok : ∀ t ∈ LKEYS, WdOk t.1 ∧ t.2 ≤ 4 := by decide +kernel
def ABCD : List Str := ["a", "b", "c", "d"]
theorem ABCD_ok : NmOk 4 ABCD := ⟨by decide +kernel, by decide⟩
theorem NmOk.take {m : Nat} {ns : List Str} (h : NmOk m ns) (j : Nat) : NmOk m (ns.take j) := ⟨fun s hs => h.1 s (List.mem_of_mem_take hs), Nat.le_trans (List.length_take_le' _ _) h.2⟩
theorem BsOk.pos {bs : List Bh} (h : BsOk bs) : 1 ≤ bs.length := by simpa using h.1.1
theorem BsOk.two {bs : List Bh} (h : BsOk bs) : bs.length ≤ 2 := by simpa using h.1.2.1
theorem sub_snoc {α : Type} {a b : List α} {x : α} (h : a.Sublist b) : (a ++ [x]).Sublist (b ++ [x]) := List.Sublist.append h (List.Sublist.refl _)
theorem sub_skip {α : Type} {a b : List α} {x : α} (h : a.Sublist b) : a.Sublist (b ++ [x]) := h.trans (List.sublist_append_left ..)
end Dw
namespace Fx
open PySem PySem.Spec L2 Dx
/-- the law's own rows, behind the first -/
theorem law_T {t : DTS} {env : Dn} {m : Tr Dt} (h : SS noE (sSeq t sRetN) env m (fun b => .rt 0 (.dat b) [])) (w : m.wp (fun d => d = .bool true) noE) : t { nx := fun _ => False, rt := fun r _ => r = .dat (.bool true) } env := by
  have e : (fun _ : Dn => False) = fun _ : Dn => ((Dv.dat .none) = .dat (.bool true)) := by funext _; simp
  refine Eq.mp (congrArg (fun f => t { nx := f, rt := fun r _ => r = .dat (.bool true) } env) e.symm) ?_
  exact h { nx := fun _ => False, rt := fun r _ => r = .dat (.bool true) } (fun _ z => z) (Tr.post w fun d q env _ => by rw [q])
open PySem PySem.Spec L2 Dx
section
variable {α β γ σ : Type} {Q : α → Prop} {E : XP}
theorem w_bnd {m : Tr β} {k : β → Tr α} : (bnd m k).wp Q E = m.wp (fun a => (k a).wp Q E) E := rfl
theorem w_ret {a : α} : (ret a).wp Q E = Q a := rfl
theorem w_lift {o : Option α} : (lift o).wp Q E = wr o Q := rfl
theorem w_some {a : α} : wr (some a) Q = Q a := rfl
theorem w_opT {f : Dt → Dt → Option Dt} {a b : Tr Dt} {Q : Dt → Prop} : (opT f a b).wp Q E = a.wp (fun x => b.wp (fun y => wr (f x y) Q) E) E := rfl
theorem w_uopT {f : Dt → Option Dt} {a : Tr Dt} {Q : Dt → Prop} : (uopT f a).wp Q E = a.wp (fun x => wr (f x) Q) E := rfl
theorem w_consT {a : Tr Dt} {l : Tr (List Dt)} {Q : List Dt → Prop} : (consT a l).wp Q E = a.wp (fun x => l.wp (fun xs => Q (x :: xs)) E) E := rfl
theorem w_nilT {Q : List Dt → Prop} : nilT.wp Q E = Q [] := rfl
theorem w_callT {f : List Dt → Option Dt} {l : Tr (List Dt)} {Q : Dt → Prop} : (callT f l).wp Q E = l.wp (fun xs => wr (f xs) Q) E := rfl
theorem w_tupT {l : Tr (List Dt)} {Q : Dt → Prop} : (tupT l).wp Q E = l.wp (fun xs => Q (.tuple xs)) E := rfl
theorem w_lstT {l : Tr (List Dt)} {Q : Dt → Prop} : (lstT l).wp Q E = l.wp (fun xs => Q (.list xs)) E := rfl
theorem w_isiT {g : Dt → Bool} {a : Tr Dt} {Q : Dt → Prop} : (isiT g a).wp Q E = a.wp (fun x => Q (.bool (g x))) E := rfl
theorem w_tbT {a : Tr Dt} {Q : Bool → Prop} : (tbT a).wp Q E = a.wp (fun x => wr (blD x) Q) E := rfl
theorem w_bl {b : Bool} {Q : Bool → Prop} : wr (blD (.bool b)) Q = Q b := rfl
theorem w_notT {a : Tr Bool} {Q : Bool → Prop} : (notT a).wp Q E = a.wp (fun x => Q (!x)) E := rfl
theorem w_bvT {a : Tr Bool} {Q : Dt → Prop} : (bvT a).wp Q E = a.wp (fun x => Q (.bool x)) E := rfl
theorem w_pairT {a : Tr β} {b : Tr γ} {Q : β × γ → Prop} : (pairT a b).wp Q E = a.wp (fun x => b.wp (fun y => Q (x, y)) E) E := rfl
theorem w_unitT {Q : Unit → Prop} : unitT.wp Q E = Q () := rfl
theorem w_need {p : Prop} {m : Tr α} : (need p m).wp Q E = (p ∧ m.wp Q E) := rfl
theorem w_un2 {a b : Dt} {Q : Dt × Dt → Prop} : (un2 (.tuple [a, b])).wp Q E = Q (a, b) := by rw [un2_ret]; rfl
theorem w_un3 {a b c : Dt} {Q : Dt × Dt × Dt → Prop} : (un3 (.tuple [a, b, c])).wp Q E = Q (a, b, c) := by rw [un3_ret]; rfl
theorem w_un4 {a b c d : Dt} {Q : Dt × Dt × Dt × Dt → Prop} : (un4 (.tuple [a, b, c, d])).wp Q E = Q (a, b, c, d) := by rw [un4_ret]; rfl
theorem w_un5 {a b c d e : Dt} {Q : Dt × Dt × Dt × Dt × Dt → Prop} : (un5 (.tuple [a, b, c, d, e])).wp Q E = Q (a, b, c, d, e) := by rw [un5_ret]; rfl
theorem w_un6 {a b c d e f : Dt} {Q : Dt × Dt × Dt × Dt × Dt × Dt → Prop} : (un6 (.tuple [a, b, c, d, e, f])).wp Q E = Q (a, b, c, d, e, f) := by rw [un6_ret]; rfl
theorem w_un7 {a b c d e f g : Dt} {Q : Dt × Dt × Dt × Dt × Dt × Dt × Dt → Prop} : (un7 (.tuple [a, b, c, d, e, f, g])).wp Q E = Q (a, b, c, d, e, f, g) := by rw [un7_ret]; rfl
theorem w_oNT {Q : Option Int → Prop} : oNT.wp Q E = Q none := rfl
theorem w_oST {a : Tr Dt} {Q : Option Int → Prop} : (oST a).wp Q E = a.wp (fun d => wr (asID d) fun i => Q (some i)) E := rfl
theorem w_asI {i : Int} {Q : Int → Prop} : wr (asID (.int i)) Q = Q i := rfl
theorem w_asL {l : List Dt} {Q : List Dt → Prop} : wr (asLD (.list l)) Q = Q l := rfl
theorem w_asT {l : List Dt} {Q : List Dt → Prop} : wr (asTD (.tuple l)) Q = Q l := rfl
theorem w_slTT {a : Tr Dt} {l h : Tr (Option Int)} {Q : Dt → Prop} : (slTT a l h).wp Q E = a.wp (fun d => l.wp (fun x => h.wp (fun y => wr (asTD d) fun ds => Q (.tuple (cutD ds x y))) E) E) E := rfl
theorem w_slLT {a : Tr Dt} {l h : Tr (Option Int)} {Q : List Dt → Prop} : (slLT a l h).wp Q E = a.wp (fun d => l.wp (fun x => h.wp (fun y => wr (asLD d) fun ds => Q (cutD ds x y)) E) E) E := rfl
theorem w_catT {a b : Tr Dt} {Q : List Dt → Prop} : (catT a b).wp Q E = a.wp (fun x => b.wp (fun y => wr (asLD x) fun xs => wr (asLD y) fun ys => xs.length + ys.length ≤ sizeLine ∧ Q (xs ++ ys)) E) E := rfl
theorem w_revT {a : Tr Dt} {Q : List Dt → Prop} : (revT a).wp Q E = a.wp (fun x => wr (asLD x) fun xs => Q xs.reverse) E := rfl
theorem w_seqT {a : Tr Dt} {Q : List Dt → Prop} : (seqT a).wp Q E = a.wp (fun d => wr (seqD d) Q) E := rfl
theorem w_sqT {l : List Dt} {Q : List Dt → Prop} : wr (seqD (.tuple l)) Q = Q l := rfl
theorem w_sqL {l : List Dt} {Q : List Dt → Prop} : wr (seqD (.list l)) Q = Q l := rfl
theorem w_rngT {a : Tr Dt} {Q : List Dt → Prop} : (rngT a).wp Q E = a.wp (fun d => wr (asID d) fun j => (-(2 ^ 62) ≤ j ∧ j < 2 ^ 62) ∧ Q (rngL 0 j)) E := rfl
theorem w_zipT {a b : Tr Dt} {Q : List Dt → Prop} : (zipT a b).wp Q E = a.wp (fun d => b.wp (fun d' => wr (zpO d d') Q) E) E := rfl
theorem w_zpT {a b : List Dt} {Q : List Dt → Prop} : wr (zpO (.tuple a) (.tuple b)) Q = Q (zipD a b) := rfl
theorem w_appT {xs : List Dt} {e : Tr Dt} {Q : List Dt → Prop} : (appT xs e).wp Q E = e.wp (fun d => xs.length < sizeLine ∧ Q (xs ++ [d])) E := rfl
theorem w_extT {xs : List Dt} {e : Tr Dt} {Q : List Dt → Prop} : (extT xs e).wp Q E = e.wp (fun d => wr (asLD d) fun ys => xs.length + ys.length ≤ sizeLine ∧ Q (xs ++ ys)) E := rfl
theorem w_extTT {xs : List Dt} {e : Tr Dt} {Q : List Dt → Prop} : (extTT xs e).wp Q E = e.wp (fun d => wr (asTD d) fun ys => xs.length + ys.length ≤ sizeLine ∧ Q (xs ++ ys)) E := rfl
theorem w_lputT {xs : List Dt} {k e : Tr Dt} {Q : List Dt → Prop} : (lputT xs k e).wp Q E = e.wp (fun d => k.wp (fun j => wr (asID j) fun j => wr (ixN xs.length j) fun m => Q (xs.set m d)) E) E := rfl
theorem w_sortLT {a : Tr Dt} {Q : List Dt → Prop} : (sortLT a).wp Q E = a.wp (fun d => wr (asLD d) fun xs => wr (strsD xs) fun ss => ss.length < 64 ∧ Q ((sortS ss).map .str)) E := rfl
theorem w_sortKT {kvs : Kv} {Q : List Dt → Prop} : (sortKT kvs).wp Q E = (kvs.length < 64 ∧ Q ((sortS (kvs.map (·.1))).map .str)) := rfl
theorem w_dictT {a : Tr Dt} {Q : Kv → Prop} : (dictT a).wp Q E = a.wp (fun d => wr (dicOf d) fun kvs => Q (mergeS [] kvs)) E := rfl
theorem w_getT2 {kvs : Kv} {a b : Tr Dt} {Q : Dt → Prop} : (getT2 kvs a b).wp Q E = a.wp (fun k => b.wp (fun d0 => wr (strK k) fun k => Q ((getS kvs k).getD d0)) E) E := rfl
theorem w_getT {kvs : Kv} {a : Tr Dt} {Q : Dt → Prop} : (getT kvs a).wp Q E = a.wp (fun k => wr (strK k) fun k => wr (getS kvs k) Q) E := rfl
theorem w_putT {kvs : Kv} {a b : Tr Dt} {Q : Kv → Prop} : (putT kvs a b).wp Q E = b.wp (fun d => a.wp (fun k => wr (strK k) fun k => kvs.length < sizeLine ∧ Q (putS kvs k d)) E) E := rfl
theorem w_strK {s : Str} {Q : Str → Prop} : wr (strK (.str s)) Q = Q s := rfl
theorem w_lenN {l : Tr (List Dt)} {Q : List Dt → Prop} : (lenN l).wp Q E = l.wp (fun xs => xs.length ≤ sizeLine ∧ Q xs) E := rfl
theorem w_mapN {l : Tr (List Dt)} {f : Dt → Tr Dt} {Q : List Dt → Prop} : (mapN l f).wp Q E = l.wp (fun xs => xs.length ≤ sizeLine ∧ (mapT xs f).wp Q E) E := rfl
theorem w_fmapN {l : Tr (List Dt)} {f : Dt → Tr (Option Dt)} {Q : List Dt → Prop} : (fmapN l f).wp Q E = l.wp (fun xs => xs.length ≤ sizeLine ∧ (fmapT xs f).wp Q E) E := rfl
theorem w_fold0 {s : α} {f : α → Dt → Tr α} : (foldT [] s f).wp Q E = Q s := rfl
theorem w_addI {a b : Int} {Q : Dt → Prop} : wr (addD (.int a) (.int b)) Q = Q (.int (a + b)) := rfl
theorem w_subI {a b : Int} {Q : Dt → Prop} : wr (subD (.int a) (.int b)) Q = Q (.int (a - b)) := rfl
theorem w_negI {a : Int} {Q : Dt → Prop} : wr (negD (.int a)) Q = Q (.int (-a)) := rfl
theorem w_ltI {a b : Int} {Q : Dt → Prop} : wr (ltD (.int a) (.int b)) Q = Q (.bool (decide (a < b))) := rfl
theorem w_leI {a b : Int} {Q : Dt → Prop} : wr (leD (.int a) (.int b)) Q = Q (.bool (decide (a ≤ b))) := rfl
theorem w_gtI {a b : Int} {Q : Dt → Prop} : wr (gtD (.int a) (.int b)) Q = Q (.bool (decide (b < a))) := rfl
theorem w_geI {a b : Int} {Q : Dt → Prop} : wr (geD (.int a) (.int b)) Q = Q (.bool (decide (b ≤ a))) := rfl
theorem eqI (a b : Int) : PyData.eqv (.int a) (.int b) = decide (a = b) := by
  have h := i_eqI (Qd := fun d => d = .bool (decide (a = b))) (a := a) (b := b) rfl
  obtain ⟨d, e, q⟩ := wr_get h
  unfold eqD at e
  split at e
  · simp only [Option.some.injEq] at e; rw [q] at e; simpa using e
  · cases e
theorem w_eqI {a b : Int} {Q : Dt → Prop} : wr (eqD (.int a) (.int b)) Q = Q (.bool (decide (a = b))) := by unfold eqD; rw [eqOk_int, eqI]; rfl
theorem w_neI {a b : Int} {Q : Dt → Prop} : wr (neD (.int a) (.int b)) Q = Q (.bool (!decide (a = b))) := by unfold neD; rw [eqOk_int, eqI]; rfl
theorem w_eqS {a b : Str} {Q : Dt → Prop} : wr (eqD (.str a) (.str b)) Q = Q (.bool (a == b)) := by rw [eqD_str]; rfl
theorem w_neS {a b : Str} {Q : Dt → Prop} : wr (neD (.str a) (.str b)) Q = Q (.bool (!(a == b))) := by rw [neD_str]; rfl
theorem w_lenL {l : List Dt} {Q : Dt → Prop} : wr (lenD [.list l]) Q = Q (.int l.length) := rfl
theorem w_lenT {l : List Dt} {Q : Dt → Prop} : wr (lenD [.tuple l]) Q = Q (.int l.length) := rfl
theorem w_ttL {l : List Dt} {Q : Dt → Prop} : wr (toTupD [.list l]) Q = Q (.tuple l) := rfl
theorem w_ttT {l : List Dt} {Q : Dt → Prop} : wr (toTupD [.tuple l]) Q = Q (.tuple l) := rfl
theorem w_tiB {b : Bool} {Q : Dt → Prop} : wr (toIntD [.bool b]) Q = Q (.int (if b then 1 else 0)) := rfl
theorem w_max {a b : Int} {Q : Dt → Prop} : wr (maxD [.int a, .int b]) Q = Q (.int (if b > a then b else a)) := rfl
theorem w_min {a b : Int} {Q : Dt → Prop} : wr (minD [.int a, .int b]) Q = Q (.int (if b < a then b else a)) := rfl
theorem w_isN {d : Dt} {Q : Dt → Prop} (h : d ≠ .none) : wr (isND d .none) Q = Q (.bool false) := by cases d <;> first | rfl | exact absurd rfl h
theorem w_isNN {Q : Dt → Prop} : wr (isND .none .none) Q = Q (.bool true) := rfl
theorem w_notN {d : Dt} {Q : Dt → Prop} (h : d ≠ .none) : wr (notND d .none) Q = Q (.bool true) := by cases d <;> first | rfl | exact absurd rfl h
theorem w_notNN {Q : Dt → Prop} : wr (notND .none .none) Q = Q (.bool false) := rfl
theorem w_isB {a b : Bool} {Q : Dt → Prop} : wr (isBD (.bool a) (.bool b)) Q = Q (.bool (a == b)) := rfl
theorem w_isntB {a b : Bool} {Q : Dt → Prop} : wr (isntBD (.bool a) (.bool b)) Q = Q (.bool (!(a == b))) := rfl
theorem w_condT {m n : Tr α} : (cond true m n).wp Q E = m.wp Q E := rfl
theorem w_condF {m n : Tr α} : (cond false m n).wp Q E = n.wp Q E := rfl
theorem w_cond {b : Bool} {m n : Tr α} (h : b = true → m.wp Q E) (h' : b = false → n.wp Q E) : (cond b m n).wp Q E := by
  cases b
  · exact h' rfl
  · exact h rfl
theorem w_if {c : Tr Bool} {m n : Tr α} {P P' : Prop} (hc : c.wp (fun b => (b = true → P) ∧ (b = false → P')) E) (hm : P → m.wp Q E) (hn : P' → n.wp Q E) : (ifT c m n).wp Q E :=
  Tr.post (m := c) (Q' := fun b => (cond b m n).wp Q E) hc fun b hb => w_cond (fun e => hm (hb.1 e)) fun e => hn (hb.2 e)
/-- a test whose answer is known -/
theorem w_ifT {c : Tr Bool} {m n : Tr α} (hc : c.wp (fun b => b = true) E) (hm : m.wp Q E) : (ifT c m n).wp Q E := Tr.post (m := c) (Q' := fun b => (cond b m n).wp Q E) hc fun b hb => by subst hb; exact hm
theorem w_ifF {c : Tr Bool} {m n : Tr α} (hc : c.wp (fun b => b = false) E) (hm : n.wp Q E) : (ifT c m n).wp Q E := Tr.post (m := c) (Q' := fun b => (cond b m n).wp Q E) hc fun b hb => by subst hb; exact hm
theorem w_and {a b : Tr Bool} {Q : Bool → Prop} : (andT a b).wp Q E = a.wp (fun x => (cond x b (ret false)).wp Q E) E := rfl
theorem w_or {a b : Tr Bool} {Q : Bool → Prop} : (orT a b).wp Q E = a.wp (fun x => (cond x (ret true) b).wp Q E) E := rfl
theorem w_draw {m : Int} {Q : Dt → Prop} (h0 : 0 < m) (h1 : m < 1073741824) (h : ∀ k, 0 ≤ k → k < m → Q (.int k)) : (drawT (.int m)).wp Q E := ⟨m, rfl, h0, h1, h⟩
theorem w_ixM {ds : List Dt} {j : Int} {Q : Dt → Prop} (h0 : 0 ≤ j) (h1 : j < ds.length) (h : ∀ x ∈ ds, Q x) : wr (ixD (.list ds) (.int j)) Q := i_ixM h0 h1 h
theorem w_ixMT {ds : List Dt} {j : Int} {Q : Dt → Prop} (h0 : 0 ≤ j) (h1 : j < ds.length) (h : ∀ x ∈ ds, Q x) : wr (ixD (.tuple ds) (.int j)) Q := i_ixM (ds := ds) h0 h1 h
theorem w_ixT {ds : List Dt} {j : Int} {x : Dt} {Q : Dt → Prop} (e : atI ds j = some x) (h : Q x) : wr (ixD (.tuple ds) (.int j)) Q := i_ixT e h
theorem w_ixL {ds : List Dt} {j : Int} {x : Dt} {Q : Dt → Prop} (e : atI ds j = some x) (h : Q x) : wr (ixD (.list ds) (.int j)) Q := i_ixL e h
theorem w_fold {xs : List Dt} {s : σ} {f : σ → Dt → Tr σ} {Q : σ → Prop} (I : List Dt → σ → Prop) (h0 : I xs s) (hs : ∀ x xs s, I (x :: xs) s → (f s x).wp (fun s' => I xs s') E) (hq : ∀ s, I [] s → Q s) : (foldT xs s f).wp Q E := by
  induction xs generalizing s with
  | nil => exact hq s h0
  | cons x xs ih =>
    show (f s x).wp (fun s' => (foldT xs s' f).wp Q E) E
    exact Tr.post (hs x xs s h0) fun s' i => ih i
theorem w_forR {xs : List Dt} {s : σ} {f : σ → Dt → Tr (Lp σ β)} {Q : σ ⊕ β → Prop} (I : List Dt → σ → Prop) (h0 : I xs s) (hs : ∀ x xs s, I (x :: xs) s → (f s x).wp (fun l => match l with | .nx s' => I xs s' | .bk s' => Q (.inl s') | .rt b => Q (.inr b)) E) (hq : ∀ s, I [] s → Q (.inl s)) : (forR xs s f).wp Q E := by
  induction xs generalizing s with
  | nil => exact hq s h0
  | cons x xs ih =>
    show (f s x).wp (fun l => (l.el (fun s' => forR xs s' f) (fun s' => ret (.inl s')) fun b => ret (.inr b)).wp Q E) E
    refine Tr.post (hs x xs s h0) fun l i => ?_
    cases l with
    | nx s' => exact ih i
    | bk s' => exact i
    | rt b => exact i
/-- each thing by itself -/
theorem w_map {xs : List Dt} {f : Dt → Tr Dt} {Q : List Dt → Prop} (g : γ → Dt) (P : Dt → γ → Prop) (hs : ∀ x ∈ xs, (f x).wp (fun d => ∃ y, d = g y ∧ P x y) E) (hq : ∀ ys : List γ, ys.length = xs.length → (∀ (i : Nat) x y, xs[i]? = some x → ys[i]? = some y → P x y) → Q (ys.map g)) : (mapT xs f).wp Q E := by
  induction xs generalizing Q with
  | nil => exact hq [] rfl (by intro i x y h; simp at h)
  | cons x xs ih =>
    show (f x).wp (fun y => (mapT xs f).wp (fun ys => Q (y :: ys)) E) E
    refine Tr.post (m := f x) (hs x (List.mem_cons_self ..)) ?_
    rintro d ⟨y, rfl, py⟩
    refine ih (fun z hz => hs z (List.mem_cons_of_mem _ hz)) fun ys hl hp => ?_
    refine hq (y :: ys) (by simp [hl]) fun i a b ha hb => ?_
    cases i with
    | zero => simp at ha hb; subst ha hb; exact py
    | succ i => simp at ha hb; exact hp i a b ha hb
theorem w_mapA {xs : List Dt} {f : Dt → Tr Dt} {Q : List Dt → Prop} (g : γ → Dt) (P : γ → Prop) (hs : ∀ x ∈ xs, (f x).wp (fun d => ∃ y, d = g y ∧ P y) E) (hq : ∀ ys : List γ, ys.length = xs.length → (∀ y ∈ ys, P y) → Q (ys.map g)) : (mapT xs f).wp Q E :=
  w_map g (fun _ y => P y) hs fun ys hl hp => hq ys hl fun y hy => by
    obtain ⟨i, hi, rfl⟩ := List.getElem_of_mem hy
    exact hp i xs[i] ys[i] (List.getElem?_eq_getElem (by omega)) (List.getElem?_eq_getElem hi)
theorem map_ret {xs : List Dt} {f : Dt → Tr Dt} {g : Dt → Dt} (h : ∀ x ∈ xs, f x = ret (g x)) : mapT xs f = ret (xs.map g) := by
  induction xs with
  | nil => rfl
  | cons x xs ih => rw [mapT, h x (List.mem_cons_self ..), ih fun y hy => h y (List.mem_cons_of_mem _ hy)]; rfl
theorem fmap_ret {xs : List Dt} {f : Dt → Tr (Option Dt)} {g : Dt → Option Dt} (h : ∀ x ∈ xs, f x = ret (g x)) : fmapT xs f = ret (xs.filterMap g) := by
  induction xs with
  | nil => rfl
  | cons x xs ih =>
    rw [fmapT, h x (List.mem_cons_self ..), ih fun y hy => h y (List.mem_cons_of_mem _ hy)]
    simp only [bind_ret, List.filterMap_cons]
    cases g x <;> rfl
theorem w_mapS {xs : List Dt} {s : σ} {f : σ → Dt → Tr (Dt × σ)} {Q : List Dt × σ → Prop} (I : Nat → σ → Prop) (R : Dt → Prop) (h0 : I 0 s) (hs : ∀ k, k < xs.length → ∀ x ∈ xs, ∀ s, I k s → (f s x).wp (fun p => R p.1 ∧ I (k + 1) p.2) E) (hq : ∀ ds s, ds.length = xs.length → (∀ d ∈ ds, R d) → I xs.length s → Q (ds, s)) : (mapS xs s f).wp Q E := by
  suffices H : ∀ (n : Nat) (xs' : List Dt) (s : σ) (Q : List Dt × σ → Prop), n + xs'.length = xs.length → (∀ x ∈ xs', x ∈ xs) → I n s → (∀ ds s, ds.length = xs'.length → (∀ d ∈ ds, R d) → I xs.length s → Q (ds, s)) → (mapS xs' s f).wp Q E from H 0 xs s Q (by simp) (fun _ h => h) h0 hq
  intro n xs'
  induction xs' generalizing n with
  | nil => intro s Q hn _ hi hq; exact hq [] s rfl (by simp) (by simp at hn; rw [← hn]; exact hi)
  | cons x r ih =>
    intro s Q hn hm hi hq
    simp at hn
    show (f s x).wp (fun p => (mapS r p.2 f).wp (fun q => Q (p.1 :: q.1, q.2)) E) E
    refine Tr.post (m := f s x) (hs n (by omega) x (hm x (List.mem_cons_self ..)) s hi) fun p hp => ?_
    refine ih (n + 1) p.2 _ (by omega) (fun y hy => hm y (List.mem_cons_of_mem _ hy)) hp.2 fun ds s' hl hd hi' => ?_
    refine hq (p.1 :: ds) s' (by simp [hl]) (fun d hd' => ?_) hi'
    rcases List.mem_cons.mp hd' with rfl | h
    · exact hp.1
    · exact hd d h
end
open PySem PySem.Spec L2 Dx
theorem w_pow {a b : Int} {Q : Dt → Prop} (h : CPow a b) : wr (powD (.int a) (.int b)) Q = Q (.int (a ^ b.toNat)) := by
  have e : powD (.int a) (.int b) = some (.int (a ^ b.toNat)) := if_pos h
  rw [e]; rfl
theorem w_pow6 {Q : Dt → Prop} : wr (powD (.int 10) (.int 6)) Q = Q (.int 1000000) := by
  rw [w_pow (by decide +kernel)]
  rw [show ((10 : Int) ^ (Int.toNat 6)) = 1000000 by decide +kernel]
open PySem PySem.Spec L2 Dx
theorem addTT {a b : List Dt} (h : a.length + b.length ≤ sizeLine) : addD (.tuple a) (.tuple b) = some (.tuple (a ++ b)) := if_pos h
theorem addLL {a b : List Dt} (h : a.length + b.length ≤ sizeLine) : addD (.list a) (.list b) = some (.list (a ++ b)) := if_pos h
open PySem PySem.Spec L2 Dx
section
variable {α β γ σ : Type} {E : XP}
theorem w_sumL {s : σ} {f : σ → Tr γ} {g : β → Tr γ} {Q : γ → Prop} : (sumE (.inl s) f g).wp Q E = (f s).wp Q E := rfl
theorem w_sumR {b : β} {f : σ → Tr γ} {g : β → Tr γ} {Q : γ → Prop} : (sumE (.inr b) f g).wp Q E = (g b).wp Q E := rfl
/-- a loop in which nothing ends it -/
theorem w_forN {xs : List Dt} {f : Unit → Dt → Tr (Lp Unit β)} {Q : Unit ⊕ β → Prop} (hs : ∀ x ∈ xs, (f () x).wp (fun l => l = .nx ()) E) (hq : Q (.inl ())) : (forR xs () f).wp Q E := by
  refine w_forR (I := fun ys _ => ∀ y ∈ ys, y ∈ xs) (fun y hy => hy) ?_ ?_
  · intro x ys s h
    exact Tr.post (hs x (h x (List.mem_cons_self ..))) fun l e => by subst e; exact fun y hy => h y (List.mem_cons_of_mem _ hy)
  · intro s _; exact hq
theorem w_neS1 {a : Str} {Q : Dt → Prop} : wr (neD (.str a) (.str a)) Q = Q (.bool false) := by rw [w_neS]; simp
end
end Fx
namespace Dx
open PySem PySem.Spec L2
section
variable {prog : Program} {w : World} {A : Around} {E : Value → Shared → Prop} {s : Shared}
theorem new_enumT (t : Addr) (items : Array Value) (n : Nat) (dct : Option Addr) (sl : Array (Option Value)) :
    Meets (Builtin.«enumerate.__new__» ⟨[.type "enumerate", .ref t], []⟩) (fun _ R s =>
      s.heap.get? t = some { cls := .type "tuple", dict := dct, data := .seq items n, slots := sl } ∧
      R (.ok (.ret (.ref (s.heap.push { cls := .type "tuple_iterator", data := .fields #[.ref t, .int 0 0] }).objs.size)))
        { s with heap := (s.heap.push { cls := .type "tuple_iterator", data := .fields #[.ref t, .int 0 0] }).push { cls := .type "enumerate", data := .fields #[.none, .bool false, .ref s.heap.objs.size, rawInt 0, .none, .none] } }) := .of_wp fun prog w A R s h => by
  obtain ⟨hp, g, d, tk, os⟩ := s
  obtain ⟨hl, h⟩ := h
  have hsub := sub_enumerate
  have hT : Heap.IsTuple (Shared.heap ⟨hp, g, d, tk, os⟩) t items := ⟨_, hl, rfl, n, rfl⟩
  wp_walk using AutoSeq1.wpAny_loadPart' hl
  refine wpAny_stack_any fun st => wpAny_pure ?_
  split
  · rename_i c _ _ _ _ _
    cases (c == Value.type "enumerate") <;>
      (wp_walk using AutoSeq1.wpAny_loadPart' hl, wpAny_pyIter_tuple hT
       exact ⟨_, rfl, h⟩)
  · wp_walk using AutoSeq1.wpAny_loadPart' hl, wpAny_pyIter_tuple hT
    exact ⟨_, rfl, h⟩
theorem call_enumT {t : Addr} {items : Array Value} {Q : Value → Shared → Prop} (hT : s.heap.IsTuple t items)
    (h : ∀ h', IsEnum h' (s.heap.objs.size + 1) s.heap.objs.size 0 .none → h'.IsTupleIter s.heap.objs.size t 0 → (∀ b o, s.heap.get? b = some o → h'.get? b = some o) → Q (.ref (s.heap.objs.size + 1)) { s with heap := h' }) :
    wpAny (model prog w) A (call (.type "enumerate") [.ref t]) Q E s := by
  obtain ⟨⟨c, dct, dt, sl⟩, hl, hc, n, hd⟩ := hT
  obtain rfl : c = .type "tuple" := hc
  obtain rfl : dt = .seq items n := hd
  refine callType_new F.called_enumerate (by decide) (F.typeCall_enumerate_1 _) (F.newCall_enumerate_1 _) (fun obj => F.args_object_init_2 obj _) F.entry_enumerate_new (new_enumT t items n dct sl) ⟨hl, ?_⟩
  generalize hp1 : s.heap.push { cls := .type "tuple_iterator", data := .fields #[.ref t, .int 0 0] } = h1
  have hz : h1.objs.size = s.heap.objs.size + 1 := by rw [← hp1]; exact Heap.size_push ..
  show _ ∧ _
  rw [hz]
  have hit : h1.IsTupleIter s.heap.objs.size t 0 := by rw [← hp1]; exact ⟨_, Heap.get?_push_size _ rfl, rfl, rfl⟩
  have he : IsEnum (h1.push { cls := .type "enumerate", data := .fields #[.none, .bool false, .ref s.heap.objs.size, rawInt 0, .none, .none] }) (s.heap.objs.size + 1) s.heap.objs.size 0 .none := by
    have := Heap.get?_push_size h1 (o := { cls := .type "enumerate", data := .fields #[.none, .bool false, .ref s.heap.objs.size, rawInt 0, .none, .none] }) rfl
    rw [hz] at this; exact this
  refine ⟨⟨_, he, rfl⟩, h _ he ?_ fun b o x => Heap.get?_push_of_some _ (show h1.get? b = some o by rw [← hp1]; exact Heap.get?_push_of_some _ x)⟩
  obtain ⟨o, ho, r⟩ := hit
  exact ⟨o, Heap.get?_push_of_some _ ho, r⟩
end
/-- the tuple at a, its items in new pairs with their numbers -/
def IteT (K : PySem.W.Frag) (a : Addr) : It :=
  ⟨fun i H => ∃ (xs : List V) (x : V), SqT K H a xs ∧ xs[i]? = some x, fun i H v H' => ∃ T x, v = .ref T ∧ H T = none ∧ H' = upd H T (.tup [.int (i : Nat), x]) ∧ ∀ xs, SqT K H a xs → xs[i]? = some x, fun i H => ∃ xs : List V, SqT K H a xs ∧ xs.length ≤ i⟩
theorem turn_enumT {P : Program} {w : World} {K : PySem.W.Frag} {elts : List Expr} {kk : Nat} {tpos : Pos} (a e it : Addr) :
    Turn P w K (.Tuple elts kk tpos) (IteT K a) [e, it] e (fun i h => (∃ old, IsEnum h e it ((i : Nat) : Int) old) ∧ h.IsTupleIter it a i ∧ e ≠ it ∧ a ≠ it ∧ a ≠ e) where
  mem := by simp
  obj := fun i h st b hb => by
    obtain ⟨⟨old, he⟩, ⟨o, ho, hc, hd⟩, _⟩ := st
    rcases (by simpa using hb : b = e ∨ b = it) with z | z
    · rw [z]; exact ⟨_, he, fun v q => nomatch q⟩
    · rw [z]; exact ⟨o, ho, fun v q => by rw [hd] at q; cases q⟩
  keep := fun i h h' st k => by
    obtain ⟨⟨old, he⟩, ⟨o, ho, r⟩, hne⟩ := st
    exact ⟨⟨old, k e (by simp) _ he⟩, ⟨o, k it (by simp) o ho, r⟩, hne⟩
  item := by
    intro X hP hw hK hc i pins s σ H E I hf st hg
    subst hP hw hK
    obtain ⟨⟨old, he⟩, hit, hne, hai, hae⟩ := st
    obtain ⟨xs, x, hq, hx⟩ := hg
    obtain ⟨its, rv, p, hz⟩ := I.tuple hq
    obtain ⟨u, hu, ru⟩ := rv.get hx
    have hel : e < s.heap.objs.size := Heap.lt_size he
    have hil : it < s.heap.objs.size := by obtain ⟨_, q, _⟩ := hit; exact Heap.lt_size q
    have pT : s.heap.IsTuple a its.toArray := p
    have hlt : i < its.toArray.size := by
      have := List.getElem?_eq_some_iff.mp hu
      obtain ⟨h1, _⟩ := this
      simpa using h1
    refine wpAny_pyNext_enum_itemD (Draws.tuple (A := X.A.in1) (show X.A.in1.handled = none from I.ok.hd hc) it a hai its.toArray) he ⟨hit, pT⟩ hlt hne (by simp [hne, Ne.symm hae]) fun u' h' tk hu' ho hst' hT hsz hk => ?_
    have eu : u' = u := by
      have h1 : its[i]? = some u' := by simpa using hu'
      rw [hu] at h1; exact (Option.some.inj h1).symm
    subst eu
    refine ⟨_, rfl, wpAny_letOwnedTupleGo_enum (s := { s with heap := h', toks := tk + 1 }) ho fun h'' he' sb => ?_⟩
    have hT2 : h''.get? s.heap.objs.size = some { cls := .type "tuple", data := .seq #[.int i tk, u'] } := (sb.2 _ (Nat.ne_of_gt hel)).trans hT
    have new : ObjOk X.prog X.w (upd H s.heap.objs.size (.tup [.int (i : Nat), x])) h'' s.heap.objs.size (.tup [.int (i : Nat), x]) :=
      ⟨by show 2 ≤ sizeLine; decide, [.int i tk, u'], .cons ⟨_, rfl⟩ (.cons ru .nil), ⟨_, hT2, rfl, _, rfl⟩⟩
    have I1 : Inv X pins σ (upd H s.heap.objs.size (.tup [.int (i : Nat), x])) { s with heap := h'', toks := tk + 1 } :=
      I.turnedNew (ch := [e, it]) (fun b ob hb q => (sb.2 b (fun z => hb (by simp [z]))).trans (hk b ob (fun z => hb (by simp [z])) (fun z => hb (by simp [z])) q)) hf (Nat.le_refl _) new
    refine ⟨.ref s.heap.objs.size, _, I1, rfl, ⟨_, x, rfl, I.hok.fresh (Nat.le_refl _), rfl, fun ys hy => by rw [I.tuple_inj hy hq]; exact hx⟩, ⟨⟨u', ?_⟩, ?_, hne, hai, hae⟩, fun b hb => ?_⟩
    · have e1 : ((i + 1 : Nat) : Int) = (i : Int) + 1 := by omega
      rw [e1]; exact he'
    · obtain ⟨o, ho', r⟩ := hst'.1
      exact ⟨o, (sb.2 it (Ne.symm hne)).trans ho', r⟩
    · have hb' : b < s.heap.objs.size := by
        rcases (by simpa using hb : b = e ∨ b = it) with z | z
        · rw [z]; exact hel
        · rw [z]; exact hil
      rw [upd_ne (Nat.ne_of_lt hb')]
      exact (hf b hb).1
  done := by
    intro X hP hw hK hc i pins s σ H E I hf st hg
    subst hP hw hK
    obtain ⟨⟨old, he⟩, hit, hne, hai, hae⟩ := st
    obtain ⟨xs, hq, hx⟩ := hg
    obtain ⟨its, rv, p, hz⟩ := I.tuple hq
    obtain ⟨f0, f1, f2, f3, f4, f5⟩ := hf it (by simp)
    have hl := rv.length
    have hT : s.TypeIs (.ref e) "enumerate" := ⟨_, he, rfl⟩
    unfold pyNext
    refine wpAny_bind (wpAny_attempt (wpAny_callSpecial?_slot (name := Str.ofString "__next__") hT F.slot_enumerate_next (wpAny_call_entry F.slot_enumerate_next hT F.entry_enumerate_next ?_ (F.args_enumerate_next_1 _))))
    show wpAny _ _ (field (.ref e) 2 >>= _) _ _ _
    refine wpAny_bind (wpAny_field he rfl (x := .ref it) rfl ?_)
    refine wpAny_bind (wpAny_nextOf_tuple_end (I.ok.hd hc) hit p (by simp; omega) fun h' x he' hx' => ?_)
    obtain ⟨o, ho, hc'⟩ := hx'
    refine wpAny_bind (wpAny_isInstance (T := "StopIteration") (b := true) ⟨o, ho, hc'⟩ isSubtype_stop ?_)
    exact wpAny_pure ⟨rfl, I.turned (t' := s.toks) (fun b o hb q => he' b o hb q) f0 f1 f3 f4 f5⟩
  self := fun A i s Q E st h => by
    obtain ⟨⟨_, he⟩, _⟩ := st
    exact wpAny_pyIter_enum he h
def iEnumT (K : PySem.W.Frag) (ta : TA) : TI := fun σ H R => ta σ H fun vs H1 => ∃ a xs, vs = [.ref a] ∧ SqT K H1 a xs ∧ R (IteT K a) H1
theorem pi_enumT {X : Cx} {e : Expr} {ta : TA} {p pos tpos : Pos} {elts : List Expr} {kk : Nat} (hg : Gl X "enumerate") (hm : X.mg "enumerate" = none) (ha : PA X [e] ta) (hs : starEach [e] X.env = [(false, eval e X.env)] := by rfl) :
    PI X (.Tuple elts kk tpos) (.Call (.Name "enumerate" p) [e] [] pos) (iEnumT X.K ta) := by
  refine ⟨fun pins s σ H R I h => ?_⟩
  refine PyProof.Rows.Call_ (ld_blt I hg hm PyProof.Rows.boot_enumerate (PyProof.Rows.callWith_type1 (thn (ha.run pos pins s σ H _ I h) fun us s1 ⟨vs, H1, I1, r1, q1⟩ => ?_) hs rfl))
  obtain ⟨a, xs, ex, hq, q⟩ := q1
  subst ex
  cases r1 with
  | cons r rr =>
    cases rr
    cases r
    obtain ⟨its, rv, p', hz⟩ := I1.tuple hq
    have hal : a < s1.heap.objs.size := by obtain ⟨o, ho, _⟩ := p'; exact Heap.lt_size ho
    refine call_enumT p' fun h' he hit hk => wpAny_pyIter_enum he ?_
    have I2 : Inv X pins σ H1 { s1 with heap := h' } := I1.kept (t' := s1.toks) hk
    refine ⟨s1.heap.objs.size + 1, [s1.heap.objs.size + 1, s1.heap.objs.size], _, _, H1, rfl, I2, turn_enumT a (s1.heap.objs.size + 1) s1.heap.objs.size, ⟨⟨.none, he⟩, hit, Nat.succ_ne_self _, Nat.ne_of_lt hal, Nat.ne_of_lt (Nat.lt_succ_of_lt hal)⟩, fun b hb => ?_, q⟩
    have hle : s1.heap.objs.size ≤ b := by
      rcases (by simpa using hb : b = s1.heap.objs.size + 1 ∨ b = s1.heap.objs.size) with z | z
      · rw [z]; exact Nat.le_add_right _ _
      · rw [z]; exact Nat.le_refl _
    exact I1.fpOk hle (I1.hok.fresh hle)
section
variable {X : Cx} {pos : Pos}
def enumD (xs : List Dt) : List Dt := (List.range xs.length).zipWith (fun k x => PyData.tuple [.int (k : Nat), x]) xs
theorem enumD_at {xs : List Dt} {i : Nat} {d : Dt} (e : (enumD xs)[i]? = some d) : ∃ x, xs[i]? = some x ∧ d = .tuple [.int (i : Nat), x] := by
  unfold enumD at e
  rw [List.getElem?_zipWith] at e
  by_cases h : i < xs.length
  · rw [List.getElem?_range h, List.getElem?_eq_getElem h] at e
    simp at e
    exact ⟨_, List.getElem?_eq_getElem h, e.symm⟩
  · rw [List.getElem?_eq_none (l := xs) (by omega)] at e
    revert e
    cases (List.range xs.length)[i]? <;> simp
theorem enumD_len (xs : List Dt) : (enumD xs).length = xs.length := by simp [enumD]
theorem wk_enumT {K : PySem.W.Frag} {F : Hp} {a : Addr} {vs : List V} {xs : List Dt} (h1 : TuA K F a vs) (r1 : RpAll K F vs xs) : Wk (PrR K) (IteT K a) F (enumD xs) := by
  intro i F' H s1 s2
  have q1 : SqT K H a vs := (seqT_same s2 (seqT_same s1 h1)).sq
  refine ⟨fun d e => ?_, fun hl => ⟨vs, q1, ?_⟩⟩
  · obtain ⟨x, e1, rfl⟩ := enumD_at e
    obtain ⟨v, e3, e4⟩ := r1.get e1
    refine ⟨⟨vs, v, q1, e3⟩, fun w H' yl => ?_⟩
    obtain ⟨T, v', ew, hT, eH, g1⟩ := yl
    have z1 := g1 vs q1
    rw [e3] at z1; cases z1
    subst ew eH
    exact .inr ⟨T, _, hT, nb_tup, rfl, T, _, _, rfl, upd_same, .cons (.int _) (.cons (dp_same s1 e4) .nil), rfl⟩
  · rw [enumD_len] at hl
    rw [r1.length]
    exact hl
theorem wk_enumL {K : PySem.W.Frag} {F : Hp} {a : Addr} {vs : List V} {xs : List Dt} (h1 : F a = some (.lst vs)) (r1 : RpAll K F vs xs) : Wk (PrR K) (Ite K a) F (enumD xs) := by
  intro i F' H s1 s2
  have q1 : SqL K H a vs := SqL.of (s2 _ _ (s1 _ _ h1))
  refine ⟨fun d e => ?_, fun hl => ⟨vs, q1, ?_⟩⟩
  · obtain ⟨x, e1, rfl⟩ := enumD_at e
    obtain ⟨v, e3, e4⟩ := r1.get e1
    refine ⟨⟨vs, v, q1, e3⟩, fun w H' yl => ?_⟩
    obtain ⟨T, v', ew, hT, eH, g1⟩ := yl
    have z1 := g1 vs q1
    rw [e3] at z1; cases z1
    subst ew eH
    exact .inr ⟨T, _, hT, nb_tup, rfl, T, _, _, rfl, upd_same, .cons (.int _) (.cons (dp_same s1 e4) .nil), rfl⟩
  · rw [enumD_len] at hl
    rw [r1.length]
    exact hl
/-- enumerate of a tuple -/
def iEnT (te : DT) : DTl := fun env Q => te env fun ev env1 => as1 ev fun d => asT d fun xs => Q (enumD xs) env1
def iEnL (te : DT) : DTl := fun env Q => te env fun ev env1 => as1 ev fun d => asL d fun xs => Q (enumD xs) env1
theorem di_enT {e : Expr} {te : DT} {p tpos : Pos} {elts : List Expr} {kk : Nat} (hg : Gl X "enumerate") (hm : X.mg "enumerate" = none) (h : DE X e te) (ha : DA X [e] (kCons te kNil)) (hs : starEach [e] X.env = [(false, eval e X.env)] := by rfl) :
    DI X (PrR X.K) (.Tuple elts kk tpos) (.Call (.Name "enumerate" p) [e] [] pos) (iEnT te) := by
  refine ⟨fun env Q Q' i q => h.mono _ _ _ (fun ev env1 q => as1_mono (fun d q => asT_mono (fun xs q => i _ _ q) q) q) q, (pi_enumT hg hm ha.run hs).mono fun σ H Q => ?_⟩
  rintro ⟨F, env, R, q⟩
  refine ⟨F, env, R, ?_⟩
  refine h.mono _ _ _ (fun ev env1 q F1 H1 vs E1 R1 V1 => ?_) q
  obtain ⟨d, rfl, q⟩ := as1_get q
  obtain ⟨xs, rfl, q⟩ := asT_get q
  have a := V1.dats (ds := [.tuple xs])
  cases a with
  | cons a1 a =>
    cases a
    cases a1 with
    | tup t1 r1 => exact ⟨_, _, rfl, (seqT_same R1.sub t1).sq, q F1 H1 _ E1 R1 (wk_enumT t1 r1)⟩
theorem di_enL {e : Expr} {te : DT} {p tpos : Pos} {elts : List Expr} {kk : Nat} (hg : Gl X "enumerate") (hm : X.mg "enumerate" = none) (h : DE X e te) (ha : DA X [e] (kCons te kNil)) (hs : starEach [e] X.env = [(false, eval e X.env)] := by rfl) :
    DI X (PrR X.K) (.Tuple elts kk tpos) (.Call (.Name "enumerate" p) [e] [] pos) (iEnL te) := by
  refine ⟨fun env Q Q' i q => h.mono _ _ _ (fun ev env1 q => as1_mono (fun d q => asL_mono (fun xs q => i _ _ q) q) q) q, (pi_enum hg hm ha.run hs).mono fun σ H Q => ?_⟩
  rintro ⟨F, env, R, q⟩
  refine ⟨F, env, R, ?_⟩
  refine h.mono _ _ _ (fun ev env1 q F1 H1 vs E1 R1 V1 => ?_) q
  obtain ⟨d, rfl, q⟩ := as1_get q
  obtain ⟨xs, rfl, q⟩ := asL_get q
  have a := V1.dats (ds := [.list xs])
  cases a with
  | cons a1 a =>
    cases a
    cases a1 with
    | lst t1 r1 => exact ⟨_, _, rfl, SqL.of (R1.sub _ _ t1), q F1 H1 _ E1 R1 (wk_enumL t1 r1)⟩
end
open PySem PySem.Spec L2
def intsD : List Dt → Option (List Int)
  | [] => some []
  | .int b :: r => (intsD r).map fun l => b :: l
  | _ => none
theorem intsD_map : ∀ ss : List Int, intsD (ss.map PyData.int) = some ss
  | [] => rfl
  | x :: r => by simp only [List.map_cons, intsD, intsD_map r, Option.map_some]
theorem intsD_rp {K : PySem.W.Frag} {F : Hp} : ∀ {vs : List V} {ds : List Dt} {ss : List Int}, RpAll K F vs ds → intsD ds = some ss → vs = ss.map V.int
  | _, [], ss, h, e => by cases h; cases e; rfl
  | _, d :: ds, ss, h, e => by
    cases h with
    | cons h1 h2 =>
      cases d with
      | int b =>
        simp only [intsD] at e
        obtain ⟨l, e1, e2⟩ := Option.map_eq_some_iff.mp e
        subst e2
        cases h1
        rw [intsD_rp h2 e1]; rfl
      | _ => cases e
theorem rp_ints' {K : PySem.W.Frag} {F : Hp} : ∀ (ss : List Int), RpAll K F (ss.map V.int) (ss.map PyData.int)
  | [] => .nil
  | x :: r => .cons (.int x) (rp_ints' r)
section
variable {X : Cx} {pos : Pos} {n : Nat}
def kSortI (t : DTa) : DTl := fun env Q => t env fun evs env1 => wr (rsL env1 evs) fun ds => one ds fun d => asL d fun xs => wr (intsD xs) fun ss => ∀ ys : List Int, ys.Perm ss → ys.Pairwise (· ≤ ·) → Q (ys.map PyData.int) env1
theorem none_back {σ : L2.St} {env env1 : Dn} {F F1 H H1 : Hp} {p : Addr} (E1 : Ext σ env F H σ env1 F1 H1) (hp : H1 p = none) : H p = none := by
  cases z : H p with
  | none => rfl
  | some u =>
    obtain ⟨u', z'⟩ := E1.there p u z
    rw [hp] at z'; cases z'
theorem dl_sortI {e : Expr} {p : Pos} {t : DTa} (hg : Gl X "sorted") (hm : X.mg "sorted" = none) (ha : DA X [e] t) (he : starEach [e] X.env = (false, eval e X.env) :: starEach [] X.env := by rfl) : DL X (.Call (.Name "sorted" p) [e] [] pos) (kSortI t) := by
  refine ⟨fun env Q Q' i q => ha.mono _ _ _ (fun evs env1 q => wr_mono (fun ds q => one_mono (fun d q => asL_mono (fun xs q => wr_mono (fun ss q => fun ys a b => i _ _ (q ys a b)) q) q) q) q) q, (pe_callB cr_sortedI hg hm (by decide +kernel) ha.run (by decide) (by decide) he (by rfl)).mono fun σ H Q => ?_⟩
  rintro ⟨F, env, R, q⟩
  refine ⟨F, env, R, ha.mono _ _ _ (fun evs env1 q F1 H1 vs E1 R1 V1 => ?_) q⟩
  obtain ⟨ds, e1, q⟩ := wr_get q
  obtain ⟨d, rfl, q⟩ := one_get q
  obtain ⟨xs, rfl, q⟩ := asL_get q
  obtain ⟨ss, e2, q⟩ := wr_get q
  have t := tpA_of R1 V1 e1
  cases t with
  | cons h t =>
    cases t
    cases h with
    | lst h r =>
      have := intsD_rp r e2
      subst this
      refine ⟨_, ss, rfl, SqL.of h, fun ys p pm so hp => ?_⟩
      obtain ⟨R2, E2⟩ := R1.growN hp (.lst (ys.map V.int))
      exact q ys pm so F1 _ p _ (E1.trans E2) R2 (R1.fnone hp) upd_same (rp_ints' ys) (R1.not_ow hp) (none_back E1 hp)
/-- sorted(xs, reverse=True), of numbers -/
def kSortR (t tk : DTa) : DTl := fun env Q => t env fun evs env1 => tk env1 fun kevs env2 => kevs = [.dat (.bool true)] ∧ wr (rsL env2 evs) fun ds => one ds fun d => asL d fun xs => wr (intsD xs) fun ss => ∀ ys : List Int, ys.Perm ss → ys.Pairwise (· ≥ ·) → Q (ys.map PyData.int) env2
theorem dl_sortR {e : Expr} {p : Pos} {kws : List Keyword} {t tk : DTa} (hg : Gl X "sorted") (hm : X.mg "sorted" = none) (ha : DA X [e] t) (hk : DKw X kws tk)
    (he : backTo pos (starEach [e] X.env) = (false, eval e X.env) :: backTo pos (starEach [] X.env) := by rfl) (hpl : (backTo pos (starEach [e] X.env)).any (·.1) = false := by rfl)
    (hall : (backToKw pos (keywordEach kws X.env)).all (·.1.isSome) = true := by rfl) (hnone : (backToKw pos (keywordEach kws X.env)).any (·.1.isNone) = false := by rfl) (hks : (backToKw pos (keywordEach kws X.env)).filterMap (·.1) = [Str.ofString "reverse"] := by rfl) :
    DL X (.Call (.Name "sorted" p) [e] kws pos) (kSortR t tk) := by
  refine ⟨fun env Q Q' i q => ha.mono _ _ _ (fun evs env1 q => hk.mono _ _ _ (fun kevs env2 q => ⟨q.1, wr_mono (fun ds q => one_mono (fun d q => asL_mono (fun xs q => wr_mono (fun ss q => fun ys a b => i _ _ (q ys a b)) q) q) q) q.2⟩) q) q,
    (pe_callBK (cr_sortedRev (b := true)) hg hm (by decide +kernel) ha.run hk.run (by decide) (by decide) he hpl hall hnone hks).mono fun σ H Q => ?_⟩
  rintro ⟨F, env, R, q⟩
  refine ⟨F, env, R, ha.mono _ _ _ (fun evs env1 q F1 H1 vs E1 R1 V1 => ⟨F1, env1, R1, hk.mono _ _ _ (fun kevs env2 q F2 H2 zs E2 R2 Z2 => ?_) q⟩) q⟩
  obtain ⟨rfl, q⟩ := q
  have V2 := V1.move E2
  obtain ⟨ds, e1, q⟩ := wr_get q
  obtain ⟨d, rfl, q⟩ := one_get q
  obtain ⟨xs, rfl, q⟩ := asL_get q
  obtain ⟨ss, e2, q⟩ := wr_get q
  have tz := Z2.dats (ds := [.bool true])
  have t := tpA_of R2 V2 e1
  cases tz with
  | cons z1 tz =>
  cases tz
  cases z1
  cases t with
  | cons h t =>
    cases t
    cases h with
    | lst h r =>
      have := intsD_rp r e2
      subst this
      refine ⟨_, ss, rfl, rfl, SqL.of h, fun ys p pm so hp => ?_⟩
      obtain ⟨R3, E3⟩ := R2.growN hp (.lst (ys.map V.int))
      have so' : ys.Pairwise (· ≥ ·) := so
      exact q ys pm so' F2 _ p _ ((E1.trans E2).trans E3) R3 (R2.fnone hp) upd_same (rp_ints' ys) (R2.not_ow hp) (none_back (E1.trans E2) hp)
def kLRng (te : DT) : DTl := fun env Q => te env fun ev env1 => as1 ev fun d => asI d fun j => (0 ≤ j ∧ j ≤ 16777216) ∧ Q (rngL 0 j) env1
theorem asI_get' {d : Dt} {q : Int → Prop} (h : asI d q) : ∃ j, d = .int j ∧ q j := by
  cases d <;> first | exact h.elim | exact ⟨_, rfl, h⟩
theorem asI_mono' {d : Dt} {q q' : Int → Prop} (i : ∀ j, q j → q' j) (h : asI d q) : asI d q' := by
  obtain ⟨j, rfl, h⟩ := asI_get' h; exact i _ h
theorem rp_rng {K : PySem.W.Frag} {F : Hp} (j : Int) : RpAll K F (rgV 0 j) (rngL 0 j) := by
  unfold rgV rngL
  generalize List.range (j - 0).toNat = l
  induction l with
  | nil => exact .nil
  | cons a l ih => exact .cons (.int _) ih
theorem dl_lrng {e : Expr} {te : DT} {p p2 pos2 : Pos} (hc : X.calm = true) (hg : Gl X "list") (hm : X.mg "list" = none) (hg2 : Gl X "range") (hm2 : X.mg "range" = none) (h : DE X e te)
    (na : starEach [Expr.Call (.Name "range" p2) [e] [] pos2] X.env = (false, eval (Expr.Call (.Name "range" p2) [e] [] pos2) X.env) :: starEach [] X.env := by rfl) (na2 : starEach [e] X.env = (false, eval e X.env) :: starEach [] X.env := by rfl) :
    DL X (.Call (.Name "list" p) [.Call (.Name "range" p2) [e] [] pos2] [] pos) (kLRng te) := by
  refine ⟨fun env Q Q' i q => h.mono _ _ _ (fun ev env1 q => as1_mono (fun d q => asI_mono' (fun j q => ⟨q.1, i _ _ q.2⟩) q) q) q, (pe_listRg hc hg hm (prg_1 hg2 hm2 h.run na2) na).mono fun σ H Q => ?_⟩
  rintro ⟨F, env, R, q⟩
  refine ⟨F, env, R, h.mono _ _ _ (fun ev env1 q F1 H1 v E1 R1 V1 => ?_) q⟩
  obtain ⟨d, rfl, q⟩ := as1_get q
  obtain ⟨j, rfl, hj, q⟩ := asI_get' q
  cases V1
  refine ⟨j, rfl, RgOk.of_le (by omega) hj.2 (by omega) hj.1, fun l hl => ?_⟩
  obtain ⟨R2, E2⟩ := R1.growN hl (.lst (rgV 0 j))
  exact q F1 _ l _ (E1.trans E2) R2 (R1.fnone hl) upd_same (rp_rng j) (R1.not_ow hl) (none_back E1 hl)
def asDic (ev : Ev) (Q : List (Str × Dt) → Prop) : Prop := match ev with
  | .new (.dic kvs) => Q kvs
  | _ => False
theorem asDic_get {ev : Ev} {Q : List (Str × Dt) → Prop} (h : asDic ev Q) : ∃ kvs, ev = .new (.dic kvs) ∧ Q kvs := by
  unfold asDic at h
  split at h
  · exact ⟨_, rfl, h⟩
  · exact h.elim
theorem asDic_mono {ev : Ev} {Q Q' : List (Str × Dt) → Prop} (i : ∀ kvs, Q kvs → Q' kvs) (h : asDic ev Q) : asDic ev Q' := by
  obtain ⟨kvs, rfl, h⟩ := asDic_get h; exact i _ h
/-- {..}[k], dict(..)[k] -/
def kDixN (td tk : DT) : DT := fun env Q => td env fun ed env1 => asDic ed fun kvs => tk env1 fun ek env2 => wr ((rs env2 ek).bind strK) fun k => wr (getS kvs k) fun d => Q (.dat d) env2
theorem de_dixN {o e : Expr} {td tk : DT} (hu : X.A.units + 1 < cLine) (ho : DE X o td) (he : DE X e tk) (hs : NoSl e := by exact fun _ _ => rfl) : DE X (.Subscript o e pos) (kDixN td tk) := by
  refine ⟨fun env Q Q' m q => ho.mono _ _ _ (fun ed env1 q => asDic_mono (fun kvs q => he.mono _ _ _ (fun ek env2 q => wr_mono (fun k q => wr_mono (fun d q => m _ _ q) q) q) q) q) q, (pe_dget hu ho.run he.run hs).mono fun σ H Q => ?_⟩
  rintro ⟨F, env, R, q⟩
  refine ⟨F, env, R, ho.mono _ _ _ (fun ed env1 q F1 H1 x E1 R1 V1 => ?_) q⟩
  obtain ⟨kvs, rfl, q⟩ := asDic_get q
  refine ⟨F1, env1, R1, he.mono _ _ _ (fun ek env2 q F2 H2 y E2 R2 V2 => ?_) q⟩
  obtain ⟨k, e2, q⟩ := wr_get q
  obtain ⟨d, ed, q⟩ := wr_get q
  obtain ⟨dk, e3, e4⟩ := Option.bind_eq_some_iff.mp e2
  have ey := rp_str (tp_of R2 V2 e3) e4
  subst ey
  obtain ⟨a0, rfl, hf, ⟨vs, hp, rk⟩, hno, hH⟩ := V1.move E2
  rcases kvR_get (k := k) rk with ⟨g1, g2⟩ | ⟨d', v, g1, g2, g3⟩
  · rw [g1] at ed; cases ed
  · rw [g1] at ed; cases ed
    exact ⟨a0, v, rfl, by have := DGet.k (k := Sum.inr k) hp; rw [g2] at this; exact this, q F2 H2 v (E1.trans E2) R2 g3⟩
/-- dict(..).get(k): what is there, or None -/
def kDgN1 (td tk : DT) : DT := fun env Q => td env fun ed env1 => asDic ed fun kvs => tk env1 fun ek env2 => wr ((rs env2 ek).bind strK) fun k => Q (.dat ((getS kvs k).getD .none)) env2
theorem de_dgN1 {o e : Expr} {td tk : DT} {apos cpos : Pos} (hu : X.A.units + 1 < cLine) (ho : DE X o td) (he : DE X e tk) (m : M1 X o "get" apos e cpos) : DE X (.Call (.Attribute o "get" apos) [e] [] cpos) (kDgN1 td tk) := by
  refine ⟨fun env Q Q' m q => ho.mono _ _ _ (fun ed env1 q => asDic_mono (fun kvs q => he.mono _ _ _ (fun ek env2 q => wr_mono (fun k q => m _ _ q) q) q) q) q, (pe_dget1 hu ho.run he.run m).mono fun σ H Q => ?_⟩
  rintro ⟨F, env, R, q⟩
  refine ⟨F, env, R, ho.mono _ _ _ (fun ed env1 q F1 H1 x E1 R1 V1 => ?_) q⟩
  obtain ⟨kvs, rfl, q⟩ := asDic_get q
  have V1' := V1
  obtain ⟨a0, rfl, hf, ⟨vs, hp, rk⟩, hno, hH⟩ := V1'
  refine ⟨a0, rfl, .inl ⟨vs, .inl hp⟩, F1, env1, R1, he.mono _ _ _ (fun ek env2 q F2 H2 y E2 R2 V2 => ?_) q⟩
  obtain ⟨k, e2, q⟩ := wr_get q
  obtain ⟨dk, e3, e4⟩ := Option.bind_eq_some_iff.mp e2
  have ey := rp_str (tp_of R2 V2 e3) e4
  subst ey
  obtain ⟨a1, ea, hf1, ⟨vs1, hp1, rk1⟩, hno1, hH1⟩ := V1.move E2
  cases ea
  have g := DGet.k (k := Sum.inr k) hp1
  rcases kvR_get (k := k) rk1 with ⟨g1, g2⟩ | ⟨d', v, g1, g2, g3⟩
  · rw [g2] at g
    rw [g1] at q
    exact ⟨none, g, q F2 H2 .non (E1.trans E2) R2 .non⟩
  · rw [g2] at g
    rw [g1] at q
    exact ⟨some v, g, q F2 H2 v (E1.trans E2) R2 g3⟩
def idxD (d : Dt) : List Dt → Nat → Option Nat
  | [], _ => none
  | e :: r, k => if PyData.eqv e d = true then some k else idxD d r (k + 1)
theorem idxD_get {d : Dt} : ∀ {ds : List Dt} {k j : Nat}, idxD d ds k = some j → ∃ i, j = k + i ∧ (∃ z, ds[i]? = some z ∧ PyData.eqv z d = true) ∧ ∀ m z', m < i → ds[m]? = some z' → PyData.eqv z' d = false
  | [], k, j, h => by cases h
  | e :: r, k, j, h => by
    unfold idxD at h
    split at h
    · rename_i he
      cases h
      exact ⟨0, rfl, ⟨e, rfl, he⟩, fun m z' hm => absurd hm (Nat.not_lt_zero m)⟩
    · rename_i he
      obtain ⟨i, rfl, ⟨z, h1, h2⟩, h3⟩ := idxD_get h
      refine ⟨i + 1, by omega, ⟨z, by simpa using h1, h2⟩, fun m z' hm hz => ?_⟩
      cases m with
      | zero => simp at hz; subst hz; simpa using he
      | succ m => exact h3 m z' (by omega) (by simpa using hz)
theorem pe_tix {o e : Expr} {to : TE} {t : TA} {apos cpos : Pos} {r : V → List V → Hp → VK → Prop} (hm : MtR X "tuple.index" r) (ho : PE X o to) (ha : PA X [e] t)
    (hbase : attributeBase o "index" X.env (eval o X.env) = eval o X.env := by rfl)
    (hfew : ((backTo cpos (starEach [e] X.env)).all (fun x => !x.1) && (backToKw cpos (keywordEach [] X.env)).all (fun x => x.1.isSome) && decide (([e] : List Expr).length + ([] : List Keyword).length + (if ([] : List Keyword).isEmpty then 0 else 1) < 30)) = true := by rfl)
    (hline : (apos.endLine == cpos.line) = true := by rfl) (hs : starEach [e] X.env = (false, eval e X.env) :: starEach [] X.env := by rfl) :
    PE X (.Call (.Attribute o "index" apos) [e] [] cpos) (fun σ H Q => to σ H fun x H1 => (∃ a xs, x = .ref a ∧ TuA X.K H1 a xs) ∧ t σ H1 fun xs H2 => r x xs H2 Q) := by
  refine ⟨fun pins s σ H Q I h => ?_⟩
  refine wpAny_Call_method_late hbase hfew hline rfl (thn (ho.run pins s σ H _ I h) fun v s1 ⟨x, H1, I1, r1, ty, q1⟩ => ?_)
  obtain ⟨a, xs, rfl, hT⟩ := ty
  cases r1
  obtain ⟨ob, hob, to'⟩ : ∃ ob, s1.heap.get? a = some ob ∧ TObj ob := by
    rcases hT with ⟨ob, h, ho⟩ | ⟨ob, its, m, h1, h2, h3, h4, h5⟩
    · obtain ⟨e1, _⟩ := (show ObjOk X.prog X.w H1 s1.heap a (.frz ob (.tup xs)) from I1.hok a _ h)
      exact ⟨ob, e1, ho⟩
    · exact ⟨ob, I1.kIn a ob h1, h2⟩
  refine ⟨"tuple", "tuple.index", PySem.F.plainAttrs_tuple, PySem.F.slot_tuple_index, rfl, ⟨ob, hob, to'.1⟩, fun a' e' => by cases e'; exact ⟨ob, hob, to'.2.1⟩, ?_⟩
  have hA := ha.run cpos pins s1 σ H1 _ I1 q1
  rw [hs] at hA ⊢
  refine Calls.callWith_builtin (by rfl) (Calls.evalArgs_plain ?_)
  exact thn hA fun us s2 ⟨vs, H2, I2, r2, q2⟩ => hm pins s2 σ H2 (.ref a) vs _ us Q I2 rfl r2 q2
def kTix (to te : DT) : DT := fun env Q => to env fun ea env1 => te env1 fun eb env2 => as1 ea fun d => as1 eb fun e => asT d fun ds => inOk e ds = true ∧ wr (idxD e ds 0) fun j => Q (.dat (.int (j : Nat))) env2
theorem de_tix {o e : Expr} {to te : DT} {apos cpos : Pos} (hv : X.A.units + 150 < cLine) (ho : DE X o to) (he : DE X e te) (ha : DA X [e] (kCons te kNil))
    (hbase : attributeBase o "index" X.env (eval o X.env) = eval o X.env := by rfl)
    (hfew : ((backTo cpos (starEach [e] X.env)).all (fun x => !x.1) && (backToKw cpos (keywordEach [] X.env)).all (fun x => x.1.isSome) && decide (([e] : List Expr).length + ([] : List Keyword).length + (if ([] : List Keyword).isEmpty then 0 else 1) < 30)) = true := by rfl)
    (hline : (apos.endLine == cpos.line) = true := by rfl) (hs : starEach [e] X.env = (false, eval e X.env) :: starEach [] X.env := by rfl) :
    DE X (.Call (.Attribute o "index" apos) [e] [] cpos) (fun env Q => to env fun ea env1 => as1 ea fun d => asT d fun ds => te env1 fun eb env2 => as1 eb fun e => inOk e ds = true ∧ wr (idxD e ds 0) fun j => Q (.dat (.int (j : Nat))) env2) := by
  refine ⟨fun env Q Q' i q => ho.mono _ _ _ (fun ea env1 q => as1_mono (fun d q => asT_mono (fun ds q => he.mono _ _ _ (fun eb env2 q => as1_mono (fun e q => ⟨q.1, wr_mono (fun j q => i _ _ q) q.2⟩) q) q) q) q) q, (pe_tix (mt_indexX hv) ho.run ha.run hbase hfew hline hs).mono fun σ H Q => ?_⟩
  rintro ⟨F, env, R, q⟩
  refine ⟨F, env, R, ho.mono _ _ _ (fun ea env1 q F1 H1 x E1 R1 V1 => ?_) q⟩
  obtain ⟨d, rfl, q⟩ := as1_get q
  obtain ⟨ds, rfl, q⟩ := asT_get q
  have V1' : Rp X.K F1 x (.tuple ds) := V1
  cases V1' with
  | @tup a xs _ t1 r1 =>
  refine ⟨⟨a, xs, rfl, seqT_same R1.sub t1⟩, F1, env1, R1, he.mono _ _ _ (fun eb env2 q F2 H2 vs E2 R2 V2 => ?_) q⟩
  obtain ⟨e', rfl, ok, q⟩ := as1_get q
  obtain ⟨j, ej, q⟩ := wr_get q
  obtain ⟨i, hi, ⟨z, hz, hzd⟩, hno⟩ := idxD_get ej
  rw [Nat.zero_add] at hi
  subst hi
  have tz := V2.dats (ds := [e'])
  cases tz with
  | cons z1 tz =>
  cases tz
  have hx : Rp X.K F2 (.ref a) (.tuple ds) := dp_same E2.same (.tup t1 r1)
  exact ⟨a, _, e', ds, j, z, rfl, rfl, (dp_same R2.sub hx).dp, (dp_same R2.sub z1).dp, ok, hz, hzd, hno, q F2 H2 (.int (j : Nat)) (E1.trans E2) R2 (.int _)⟩
def sFz (i : Nat) (t : DTS) : DTS := fun E env => match env[i]? with
  | some (some (.obj (.lst xs))) => t E (env.set i (some (.dat (.list xs))))
  | _ => t E env
theorem fz_imp {X : Cx} {i : Nat} {t : DTS} {D : Ends} {σ : L2.St} {H : Hp} (h : tDs X n (sFz i t) D σ H) : tDs X n t D σ H := by
  obtain ⟨F, env, E, R, h, L⟩ := h
  unfold sFz at h
  split at h
  · rename_i xs e
    obtain ⟨v, e1, p, e2, hf, vs, hp, ha⟩ := R.val i _ e
    subst e2
    obtain ⟨R', X'⟩ := R.freeze e e1 hf hp ha
    exact ⟨_, _, E, R', h, ⟨fun a b c d e => L.nx a b c d ⟨X'.trans e.ext, e.par⟩, fun a b c d e => L.bk a b c d ⟨X'.trans e.ext, e.par⟩, fun a b c d e => L.ct a b c d ⟨X'.trans e.ext, e.par⟩, fun r v a b c d e => L.rt r v a b c d ⟨X'.trans e.ext, e.par⟩, fun x y z a b c d e => L.ex x y z a b c d ⟨X'.trans e.ext, e.par⟩⟩⟩
  · exact ⟨F, env, E, R, h, L⟩
theorem ds_fz {st : Stmt} {t : DTS} (i : Nat) (h : DS X n st t) : DS X n st (sFz i t) := ⟨h.run.mono fun _ _ _ => fz_imp⟩
end
end Dx
namespace Fx
open PySem PySem.Spec L2 Dx
section
variable {α β γ σ : Type} {E : XP} {env : Dn} {κ : γ → Kd}
variable {ta tb te tk tv td : DT} {ma mb me mk mv : Tr Dt} {tz : DTa} {n : Nat} {t u : DTS} {m : Tr γ} {md : Tr Kv}
def enumT (a : Tr Dt) : Tr (List Dt) := bnd a fun d => bnd (lift (asTD d)) fun xs => ret (enumD xs)
def enumLT (a : Tr Dt) : Tr (List Dt) := bnd a fun d => bnd (lift (asLD d)) fun xs => ret (enumD xs)
theorem sl_enum (h : SD E te env me) : SL E (iEnT te) env (enumT me) := fun Q w => h _ (Tr.post w fun d w => by
  obtain ⟨xs, e, w'⟩ := wr_get w
  obtain rfl := asTD_get e
  exact w')
theorem sl_enumL (h : SD E te env me) : SL E (iEnL te) env (enumLT me) := fun Q w => h _ (Tr.post w fun d w => by
  obtain ⟨xs, e, w'⟩ := wr_get w
  obtain rfl := asLD_get e
  exact w')
theorem ints_uniq : ∀ {a b : List Int}, a.Perm b → a.Pairwise (· ≤ ·) → b.Pairwise (· ≤ ·) → a = b
  | [], b, p, _, _ => (List.nil_perm.mp p).symm
  | x :: a, [], p, _, _ => by simp at p
  | x :: a, y :: b, p, ha, hb => by
    have e : x = y := by
      have h1 : x ∈ y :: b := p.mem_iff.mp (List.mem_cons_self ..)
      have h2 : y ∈ x :: a := p.mem_iff.mpr (List.mem_cons_self ..)
      rcases List.mem_cons.mp h1 with e | h1
      · exact e
      · rcases List.mem_cons.mp h2 with e | h2
        · exact e.symm
        · exact Int.le_antisymm (List.rel_of_pairwise_cons ha h2) (List.rel_of_pairwise_cons hb h1)
    subst e
    rw [ints_uniq (List.perm_cons x |>.mp p) (List.pairwise_cons.mp ha).2 (List.pairwise_cons.mp hb).2]
def sortI (l : List Int) : List Int := l.mergeSort fun a b => decide (a ≤ b)
theorem sortI_perm (l : List Int) : (sortI l).Perm l := List.mergeSort_perm ..
theorem sortI_pw (l : List Int) : (sortI l).Pairwise (· ≤ ·) := by
  have := List.pairwise_mergeSort (le := fun a b : Int => decide (a ≤ b)) (fun a b c h h' => by simp at h h' ⊢; omega) (fun a b => by simp; omega) l
  exact this.imp fun h => by simpa using h
theorem sortI_of {ys l : List Int} (p : ys.Perm l) (h : ys.Pairwise (· ≤ ·)) : ys = sortI l := ints_uniq (p.trans (sortI_perm l).symm) h (sortI_pw l)
theorem sortI_id {l : List Int} (h : l.Pairwise (· ≤ ·)) : sortI l = l := (sortI_of (List.Perm.refl l) h).symm
theorem sortI_rev {ys l : List Int} (p : ys.Perm l) (h : ys.Pairwise (· ≥ ·)) : ys = (sortI l).reverse := by
  rw [← sortI_of (ys := ys.reverse) ((List.reverse_perm ys).trans p) (List.pairwise_reverse.mpr h), List.reverse_reverse]
def sortIT (a : Tr Dt) : Tr (List Dt) := bnd a fun d => bnd (lift (asLD d)) fun xs => bnd (lift (intsD xs)) fun ss => ret ((sortI ss).map .int)
def sortRT (a : Tr Dt) : Tr (List Dt) := bnd a fun d => bnd (lift (asLD d)) fun xs => bnd (lift (intsD xs)) fun ss => ret ((sortI ss).reverse.map .int)
theorem sl_sortI (h : SR E te env me) : SL E (kSortI (kCons te kNil)) env (sortIT me) := fun Q w =>
  h _ (Tr.post w fun d w ev e => by
    show wr (rsL env [ev]) _
    simp only [rsL, e]
    obtain ⟨xs, ex, w1⟩ := wr_get w
    obtain rfl := asLD_get ex
    obtain ⟨ss, es, w2⟩ := wr_get w1
    show wr (intsD xs) _
    exact wr_of es fun ys p h => by rw [sortI_of p h]; exact w2)
theorem sl_sortR (h : SR E te env me) : SL E (kSortR (kCons te kNil) (kCons (kC (.bool true)) kNil)) env (sortRT me) := fun Q w =>
  h _ (Tr.post w fun d w ev e => by
    refine ⟨rfl, ?_⟩
    show wr (rsL env [ev]) _
    simp only [rsL, e]
    obtain ⟨xs, ex, w1⟩ := wr_get w
    obtain rfl := asLD_get ex
    obtain ⟨ss, es, w2⟩ := wr_get w1
    show wr (intsD xs) _
    exact wr_of es fun ys p h => by rw [sortI_rev p h]; exact w2)
def lrngT (a : Tr Dt) : Tr (List Dt) := bnd a fun d => bnd (lift (asID d)) fun j => need (0 ≤ j ∧ j ≤ 16777216) (ret (rngL 0 j))
theorem sl_lrng (h : SD E te env me) : SL E (kLRng te) env (lrngT me) := fun Q w => h _ (Tr.post w fun d w => by
  obtain ⟨j, e, w'⟩ := wr_get w
  obtain rfl := asID_get e
  exact w')
def getNT (a : Tr Kv) (b : Tr Dt) : Tr Dt := bnd a fun kvs => bnd b fun k => bnd (lift (strK k)) fun k => lift (getS kvs k)
def getN1T (a : Tr Kv) (b : Tr Dt) : Tr Dt := bnd a fun kvs => bnd b fun k => bnd (lift (strK k)) fun k => ret ((getS kvs k).getD .none)
theorem sd_dixN (hd : SE E td env md (fun kvs => .new (.dic kvs)) (fun _ => env)) (hk : SR E tk env mk) : SD E (kDixN td tk) env (getNT md mk) := fun Q w =>
  hd _ (Tr.post w fun kvs w => hk _ (Tr.post w fun k w ev e => by
    rw [e]
    obtain ⟨s, es, w'⟩ := wr_get w
    exact wr_of es w'))
theorem sd_dgN1 (hd : SE E td env md (fun kvs => .new (.dic kvs)) (fun _ => env)) (hk : SR E tk env mk) : SD E (kDgN1 td tk) env (getN1T md mk) := fun Q w =>
  hd _ (Tr.post w fun kvs w => hk _ (Tr.post w fun k w ev e => by
    rw [e]
    obtain ⟨s, es, w'⟩ := wr_get w
    exact wr_of es w'))
def SPp (E : XP) (t : DTp) (env : Dn) (m : Tr Kv) (n : Nat) : Prop := ∀ Q : Kv → Dn → Prop, m.wp (fun kvs => kvs.length = n → Q kvs env) E → t env Q
def pConsT (k : Str) (a : Tr Dt) (l : Tr Kv) : Tr Kv := bnd a fun x => bnd l fun xs => ret ((k, x) :: xs)
def pNilT : Tr Kv := ret []
theorem spp_nil : SPp E pNil env pNilT 0 := fun Q w => w rfl
theorem spp_cons {k : Str} {up : DTp} {mp : Tr Kv} (ha : SD E te env me) (hz : SPp E up env mp n) : SPp E (pCons k te up) env (pConsT k me mp) (n + 1) := fun Q w =>
  ha _ (Tr.post w fun x w => hz _ (Tr.post w fun xs w hl => w (by simp [hl])))
def dispT (a : Tr Kv) : Tr Kv := bnd a fun kvs => ret (mergeS [] kvs)
theorem se_disp {tp : DTp} {mp : Tr Kv} (h : SPp E tp env mp n) (hn : n ≤ 15 := by decide) : SE E (kDisp tp) env (dispT mp) (fun kvs => .new (.dic kvs)) (fun _ => env) := fun Q w =>
  h _ (Tr.post w fun kvs w hl => ⟨by omega, w⟩)
def tixT (a b : Tr Dt) : Tr Dt := bnd a fun d => bnd (lift (asTD d)) fun ds => bnd b fun e => need (inOk e ds = true) (bnd (lift (idxD e ds 0)) fun j => ret (.int (j : Nat)))
theorem sd_tix (ha : SD E ta env ma) (hb : SD E tb env mb) : SD E (fun env Q => ta env fun ea env1 => as1 ea fun d => asT d fun ds => tb env1 fun eb env2 => as1 eb fun e => inOk e ds = true ∧ wr (idxD e ds 0) fun j => Q (.dat (.int (j : Nat))) env2) env (tixT ma mb) := fun Q w =>
  ha _ (Tr.post w fun d w => by
    obtain ⟨ds, e, w'⟩ := wr_get w
    obtain rfl := asTD_get e
    exact hb _ (Tr.post w' fun x w => ⟨w.1, by
      obtain ⟨j, ej, w''⟩ := wr_get w.2
      exact wr_of ej w''⟩))
theorem ss_fz {i : Nat} {xs : List Dt} {env' : Dn} (hx : env[i]? = some (some (.obj (.lst xs)))) (he : env.set i (some (.dat (.list xs))) = env') (h : SS E (sSeq t u) env' m κ) : SS E (sSeq (sFz i t) u) env m κ := fun D hE w => by
  show match env[i]? with | some (some (.obj (.lst xs))) => t _ (env.set i (some (.dat (.list xs)))) | _ => t _ env
  rw [hx]
  show t _ (env.set i _)
  rw [he]
  exact h D hE w
theorem ss_fz0 {i : Nat} {d : Dt} (hx : env[i]? = some (some (.dat d))) (h : SS E (sSeq t u) env m κ) : SS E (sSeq (sFz i t) u) env m κ := fun D hE w => by
  show match env[i]? with | some (some (.obj (.lst xs))) => t _ (env.set i (some (.dat (.list xs)))) | _ => t _ env
  rw [hx]
  exact h D hE w
theorem w_enumT {a : Tr Dt} {Q : List Dt → Prop} : (enumT a).wp Q E = a.wp (fun d => wr (asTD d) fun xs => Q (enumD xs)) E := rfl
theorem w_enumLT {a : Tr Dt} {Q : List Dt → Prop} : (enumLT a).wp Q E = a.wp (fun d => wr (asLD d) fun xs => Q (enumD xs)) E := rfl
theorem w_sortIT {a : Tr Dt} {Q : List Dt → Prop} : (sortIT a).wp Q E = a.wp (fun d => wr (asLD d) fun xs => wr (intsD xs) fun ss => Q ((sortI ss).map .int)) E := rfl
theorem w_sortRT {a : Tr Dt} {Q : List Dt → Prop} : (sortRT a).wp Q E = a.wp (fun d => wr (asLD d) fun xs => wr (intsD xs) fun ss => Q ((sortI ss).reverse.map .int)) E := rfl
theorem w_lrngT {a : Tr Dt} {Q : List Dt → Prop} : (lrngT a).wp Q E = a.wp (fun d => wr (asID d) fun j => (0 ≤ j ∧ j ≤ 16777216) ∧ Q (rngL 0 j)) E := rfl
theorem w_getNT {a : Tr Kv} {b : Tr Dt} {Q : Dt → Prop} : (getNT a b).wp Q E = a.wp (fun kvs => b.wp (fun k => wr (strK k) fun k => wr (getS kvs k) Q) E) E := rfl
theorem w_getN1T {a : Tr Kv} {b : Tr Dt} {Q : Dt → Prop} : (getN1T a b).wp Q E = a.wp (fun kvs => b.wp (fun k => wr (strK k) fun k => Q ((getS kvs k).getD .none)) E) E := rfl
theorem w_pConsT {k : Str} {a : Tr Dt} {l : Tr Kv} {Q : Kv → Prop} : (pConsT k a l).wp Q E = a.wp (fun x => l.wp (fun xs => Q ((k, x) :: xs)) E) E := rfl
theorem w_pNilT {Q : Kv → Prop} : pNilT.wp Q E = Q [] := rfl
theorem w_dispT {a : Tr Kv} {Q : Kv → Prop} : (dispT a).wp Q E = a.wp (fun kvs => Q (mergeS [] kvs)) E := rfl
theorem w_tixT {a b : Tr Dt} {Q : Dt → Prop} : (tixT a b).wp Q E = a.wp (fun d => wr (asTD d) fun ds => b.wp (fun e => inOk e ds = true ∧ wr (idxD e ds 0) fun j => Q (.int (j : Nat))) E) E := rfl
theorem w_rng2T {a b : Tr Dt} {Q : List Dt → Prop} : (rng2T a b).wp Q E = a.wp (fun d => b.wp (fun d' => wr (asID d) fun i => wr (asID d') fun j => (-(2 ^ 62) ≤ i ∧ i < 2 ^ 62 ∧ -(2 ^ 62) ≤ j ∧ j < 2 ^ 62) ∧ Q (rngL i j)) E) E := rfl
theorem w_keepT {c : Tr Bool} {e : Tr Dt} {Q : Option Dt → Prop} : (keepT c e).wp Q E = c.wp (fun b => (cond b (bnd e fun r => ret (some r)) (ret none)).wp Q E) E := rfl
end
open PySem PySem.Spec L2 Dx
section
variable {α β γ σ : Type} {E : XP}
def isN : Dt → Bool
  | .none => true
  | _ => false
theorem w_notNg {d : Dt} {Q : Dt → Prop} : wr (notND d .none) Q = Q (.bool (!isN d)) := by cases d <;> rfl
theorem w_isNg {d : Dt} {Q : Dt → Prop} : wr (isND d .none) Q = Q (.bool (isN d)) := by cases d <;> rfl
theorem isN_iff {d : Dt} : isN d = true ↔ d = .none := by cases d <;> simp [isN]
theorem w_fmapE {xs : List Dt} {f : Dt → Tr (Option Dt)} {Q : List Dt → Prop} (g : Dt → Option Dt) (hs : ∀ x ∈ xs, ∀ Q' : Option Dt → Prop, Q' (g x) → (f x).wp Q' E) (hq : Q (xs.filterMap g)) : (fmapT xs f).wp Q E := by
  induction xs generalizing Q with
  | nil => exact hq
  | cons x xs ih =>
    show (f x).wp (fun y => (fmapT xs f).wp (fun ys => Q (y.toList ++ ys)) E) E
    refine hs x (List.mem_cons_self ..) _ (ih (fun y hy => hs y (List.mem_cons_of_mem _ hy)) ?_)
    rw [List.filterMap_cons] at hq
    cases h : g x with
    | none => rw [h] at hq; exact hq
    | some y => rw [h] at hq; exact hq
theorem w_mapE {xs : List Dt} {f : Dt → Tr Dt} {Q : List Dt → Prop} (g : Dt → Dt) (hs : ∀ x ∈ xs, ∀ Q' : Dt → Prop, Q' (g x) → (f x).wp Q' E) (hq : Q (xs.map g)) : (mapT xs f).wp Q E := by
  induction xs generalizing Q with
  | nil => exact hq
  | cons x xs ih =>
    show (f x).wp (fun y => (mapT xs f).wp (fun ys => Q (y :: ys)) E) E
    exact hs x (List.mem_cons_self ..) _ (ih (fun y hy => hs y (List.mem_cons_of_mem _ hy)) hq)
end
open PySem PySem.Spec L2 Dx
class Sw (p : Prop) (q : outParam Prop) : Prop where
  imp : q → p
section
variable {α β γ σ : Type} {Q : α → Prop} {E : XP}
instance i_w_bnd {m : Tr β} {k : β → Tr α} : Sw ((bnd m k).wp Q E) (m.wp (fun a => (k a).wp Q E) E) := ⟨fun h => (Iff.of_eq w_bnd).mpr h⟩
instance i_w_ret {a : α} : Sw ((ret a).wp Q E) (Q a) := ⟨fun h => (Iff.of_eq w_ret).mpr h⟩
instance i_w_lift {o : Option α} : Sw ((lift o).wp Q E) (wr o Q) := ⟨fun h => (Iff.of_eq w_lift).mpr h⟩
instance i_w_some {a : α} : Sw (wr (some a) Q) (Q a) := ⟨fun h => (Iff.of_eq w_some).mpr h⟩
instance i_w_opT {f : Dt → Dt → Option Dt} {a b : Tr Dt} {Q : Dt → Prop} : Sw ((opT f a b).wp Q E) (a.wp (fun x => b.wp (fun y => wr (f x y) Q) E) E) := ⟨fun h => (Iff.of_eq w_opT).mpr h⟩
instance i_w_uopT {f : Dt → Option Dt} {a : Tr Dt} {Q : Dt → Prop} : Sw ((uopT f a).wp Q E) (a.wp (fun x => wr (f x) Q) E) := ⟨fun h => (Iff.of_eq w_uopT).mpr h⟩
instance i_w_consT {a : Tr Dt} {l : Tr (List Dt)} {Q : List Dt → Prop} : Sw ((consT a l).wp Q E) (a.wp (fun x => l.wp (fun xs => Q (x :: xs)) E) E) := ⟨fun h => (Iff.of_eq w_consT).mpr h⟩
instance i_w_nilT {Q : List Dt → Prop} : Sw (nilT.wp Q E) (Q []) := ⟨fun h => (Iff.of_eq w_nilT).mpr h⟩
instance i_w_callT {f : List Dt → Option Dt} {l : Tr (List Dt)} {Q : Dt → Prop} : Sw ((callT f l).wp Q E) (l.wp (fun xs => wr (f xs) Q) E) := ⟨fun h => (Iff.of_eq w_callT).mpr h⟩
instance i_w_tupT {l : Tr (List Dt)} {Q : Dt → Prop} : Sw ((tupT l).wp Q E) (l.wp (fun xs => Q (.tuple xs)) E) := ⟨fun h => (Iff.of_eq w_tupT).mpr h⟩
instance i_w_lstT {l : Tr (List Dt)} {Q : Dt → Prop} : Sw ((lstT l).wp Q E) (l.wp (fun xs => Q (.list xs)) E) := ⟨fun h => (Iff.of_eq w_lstT).mpr h⟩
instance i_w_isiT {g : Dt → Bool} {a : Tr Dt} {Q : Dt → Prop} : Sw ((isiT g a).wp Q E) (a.wp (fun x => Q (.bool (g x))) E) := ⟨fun h => (Iff.of_eq w_isiT).mpr h⟩
instance i_w_tbT {a : Tr Dt} {Q : Bool → Prop} : Sw ((tbT a).wp Q E) (a.wp (fun x => wr (blD x) Q) E) := ⟨fun h => (Iff.of_eq w_tbT).mpr h⟩
instance i_w_bl {b : Bool} {Q : Bool → Prop} : Sw (wr (blD (.bool b)) Q) (Q b) := ⟨fun h => (Iff.of_eq w_bl).mpr h⟩
instance i_w_notT {a : Tr Bool} {Q : Bool → Prop} : Sw ((notT a).wp Q E) (a.wp (fun x => Q (!x)) E) := ⟨fun h => (Iff.of_eq w_notT).mpr h⟩
instance i_w_bvT {a : Tr Bool} {Q : Dt → Prop} : Sw ((bvT a).wp Q E) (a.wp (fun x => Q (.bool x)) E) := ⟨fun h => (Iff.of_eq w_bvT).mpr h⟩
instance i_w_pairT {a : Tr β} {b : Tr γ} {Q : β × γ → Prop} : Sw ((pairT a b).wp Q E) (a.wp (fun x => b.wp (fun y => Q (x, y)) E) E) := ⟨fun h => (Iff.of_eq w_pairT).mpr h⟩
instance i_w_unitT {Q : Unit → Prop} : Sw (unitT.wp Q E) (Q ()) := ⟨fun h => (Iff.of_eq w_unitT).mpr h⟩
instance i_w_need {p : Prop} {m : Tr α} : Sw ((need p m).wp Q E) ((p ∧ m.wp Q E)) := ⟨fun h => (Iff.of_eq w_need).mpr h⟩
instance i_w_un2 {a b : Dt} {Q : Dt × Dt → Prop} : Sw ((un2 (.tuple [a, b])).wp Q E) (Q (a, b)) := ⟨fun h => (Iff.of_eq w_un2).mpr h⟩
instance i_w_un3 {a b c : Dt} {Q : Dt × Dt × Dt → Prop} : Sw ((un3 (.tuple [a, b, c])).wp Q E) (Q (a, b, c)) := ⟨fun h => (Iff.of_eq w_un3).mpr h⟩
instance i_w_un4 {a b c d : Dt} {Q : Dt × Dt × Dt × Dt → Prop} : Sw ((un4 (.tuple [a, b, c, d])).wp Q E) (Q (a, b, c, d)) := ⟨fun h => (Iff.of_eq w_un4).mpr h⟩
instance i_w_un5 {a b c d e : Dt} {Q : Dt × Dt × Dt × Dt × Dt → Prop} : Sw ((un5 (.tuple [a, b, c, d, e])).wp Q E) (Q (a, b, c, d, e)) := ⟨fun h => (Iff.of_eq w_un5).mpr h⟩
instance i_w_un6 {a b c d e f : Dt} {Q : Dt × Dt × Dt × Dt × Dt × Dt → Prop} : Sw ((un6 (.tuple [a, b, c, d, e, f])).wp Q E) (Q (a, b, c, d, e, f)) := ⟨fun h => (Iff.of_eq w_un6).mpr h⟩
instance i_w_un7 {a b c d e f g : Dt} {Q : Dt × Dt × Dt × Dt × Dt × Dt × Dt → Prop} : Sw ((un7 (.tuple [a, b, c, d, e, f, g])).wp Q E) (Q (a, b, c, d, e, f, g)) := ⟨fun h => (Iff.of_eq w_un7).mpr h⟩
instance i_w_oNT {Q : Option Int → Prop} : Sw (oNT.wp Q E) (Q none) := ⟨fun h => (Iff.of_eq w_oNT).mpr h⟩
instance i_w_oST {a : Tr Dt} {Q : Option Int → Prop} : Sw ((oST a).wp Q E) (a.wp (fun d => wr (asID d) fun i => Q (some i)) E) := ⟨fun h => (Iff.of_eq w_oST).mpr h⟩
instance i_w_asI {i : Int} {Q : Int → Prop} : Sw (wr (asID (.int i)) Q) (Q i) := ⟨fun h => (Iff.of_eq w_asI).mpr h⟩
instance i_w_asL {l : List Dt} {Q : List Dt → Prop} : Sw (wr (asLD (.list l)) Q) (Q l) := ⟨fun h => (Iff.of_eq w_asL).mpr h⟩
instance i_w_asT {l : List Dt} {Q : List Dt → Prop} : Sw (wr (asTD (.tuple l)) Q) (Q l) := ⟨fun h => (Iff.of_eq w_asT).mpr h⟩
instance i_w_slTT {a : Tr Dt} {l h : Tr (Option Int)} {Q : Dt → Prop} : Sw ((slTT a l h).wp Q E) (a.wp (fun d => l.wp (fun x => h.wp (fun y => wr (asTD d) fun ds => Q (.tuple (cutD ds x y))) E) E) E) := ⟨fun h => (Iff.of_eq w_slTT).mpr h⟩
instance i_w_slLT {a : Tr Dt} {l h : Tr (Option Int)} {Q : List Dt → Prop} : Sw ((slLT a l h).wp Q E) (a.wp (fun d => l.wp (fun x => h.wp (fun y => wr (asLD d) fun ds => Q (cutD ds x y)) E) E) E) := ⟨fun h => (Iff.of_eq w_slLT).mpr h⟩
instance i_w_catT {a b : Tr Dt} {Q : List Dt → Prop} : Sw ((catT a b).wp Q E) (a.wp (fun x => b.wp (fun y => wr (asLD x) fun xs => wr (asLD y) fun ys => xs.length + ys.length ≤ sizeLine ∧ Q (xs ++ ys)) E) E) := ⟨fun h => (Iff.of_eq w_catT).mpr h⟩
instance i_w_revT {a : Tr Dt} {Q : List Dt → Prop} : Sw ((revT a).wp Q E) (a.wp (fun x => wr (asLD x) fun xs => Q xs.reverse) E) := ⟨fun h => (Iff.of_eq w_revT).mpr h⟩
instance i_w_seqT {a : Tr Dt} {Q : List Dt → Prop} : Sw ((seqT a).wp Q E) (a.wp (fun d => wr (seqD d) Q) E) := ⟨fun h => (Iff.of_eq w_seqT).mpr h⟩
instance i_w_sqT {l : List Dt} {Q : List Dt → Prop} : Sw (wr (seqD (.tuple l)) Q) (Q l) := ⟨fun h => (Iff.of_eq w_sqT).mpr h⟩
instance i_w_sqL {l : List Dt} {Q : List Dt → Prop} : Sw (wr (seqD (.list l)) Q) (Q l) := ⟨fun h => (Iff.of_eq w_sqL).mpr h⟩
instance i_w_rngT {a : Tr Dt} {Q : List Dt → Prop} : Sw ((rngT a).wp Q E) (a.wp (fun d => wr (asID d) fun j => (-(2 ^ 62) ≤ j ∧ j < 2 ^ 62) ∧ Q (rngL 0 j)) E) := ⟨fun h => (Iff.of_eq w_rngT).mpr h⟩
instance i_w_zipT {a b : Tr Dt} {Q : List Dt → Prop} : Sw ((zipT a b).wp Q E) (a.wp (fun d => b.wp (fun d' => wr (zpO d d') Q) E) E) := ⟨fun h => (Iff.of_eq w_zipT).mpr h⟩
instance i_w_zpT {a b : List Dt} {Q : List Dt → Prop} : Sw (wr (zpO (.tuple a) (.tuple b)) Q) (Q (zipD a b)) := ⟨fun h => (Iff.of_eq w_zpT).mpr h⟩
instance i_w_appT {xs : List Dt} {e : Tr Dt} {Q : List Dt → Prop} : Sw ((appT xs e).wp Q E) (e.wp (fun d => xs.length < sizeLine ∧ Q (xs ++ [d])) E) := ⟨fun h => (Iff.of_eq w_appT).mpr h⟩
instance i_w_extT {xs : List Dt} {e : Tr Dt} {Q : List Dt → Prop} : Sw ((extT xs e).wp Q E) (e.wp (fun d => wr (asLD d) fun ys => xs.length + ys.length ≤ sizeLine ∧ Q (xs ++ ys)) E) := ⟨fun h => (Iff.of_eq w_extT).mpr h⟩
instance i_w_extTT {xs : List Dt} {e : Tr Dt} {Q : List Dt → Prop} : Sw ((extTT xs e).wp Q E) (e.wp (fun d => wr (asTD d) fun ys => xs.length + ys.length ≤ sizeLine ∧ Q (xs ++ ys)) E) := ⟨fun h => (Iff.of_eq w_extTT).mpr h⟩
instance i_w_lputT {xs : List Dt} {k e : Tr Dt} {Q : List Dt → Prop} : Sw ((lputT xs k e).wp Q E) (e.wp (fun d => k.wp (fun j => wr (asID j) fun j => wr (ixN xs.length j) fun m => Q (xs.set m d)) E) E) := ⟨fun h => (Iff.of_eq w_lputT).mpr h⟩
instance i_w_sortLT {a : Tr Dt} {Q : List Dt → Prop} : Sw ((sortLT a).wp Q E) (a.wp (fun d => wr (asLD d) fun xs => wr (strsD xs) fun ss => ss.length < 64 ∧ Q ((sortS ss).map .str)) E) := ⟨fun h => (Iff.of_eq w_sortLT).mpr h⟩
instance i_w_sortKT {kvs : Kv} {Q : List Dt → Prop} : Sw ((sortKT kvs).wp Q E) ((kvs.length < 64 ∧ Q ((sortS (kvs.map (·.1))).map .str))) := ⟨fun h => (Iff.of_eq w_sortKT).mpr h⟩
instance i_w_dictT {a : Tr Dt} {Q : Kv → Prop} : Sw ((dictT a).wp Q E) (a.wp (fun d => wr (dicOf d) fun kvs => Q (mergeS [] kvs)) E) := ⟨fun h => (Iff.of_eq w_dictT).mpr h⟩
instance i_w_getT2 {kvs : Kv} {a b : Tr Dt} {Q : Dt → Prop} : Sw ((getT2 kvs a b).wp Q E) (a.wp (fun k => b.wp (fun d0 => wr (strK k) fun k => Q ((getS kvs k).getD d0)) E) E) := ⟨fun h => (Iff.of_eq w_getT2).mpr h⟩
instance i_w_getT {kvs : Kv} {a : Tr Dt} {Q : Dt → Prop} : Sw ((getT kvs a).wp Q E) (a.wp (fun k => wr (strK k) fun k => wr (getS kvs k) Q) E) := ⟨fun h => (Iff.of_eq w_getT).mpr h⟩
instance i_w_putT {kvs : Kv} {a b : Tr Dt} {Q : Kv → Prop} : Sw ((putT kvs a b).wp Q E) (b.wp (fun d => a.wp (fun k => wr (strK k) fun k => kvs.length < sizeLine ∧ Q (putS kvs k d)) E) E) := ⟨fun h => (Iff.of_eq w_putT).mpr h⟩
instance i_w_strK {s : Str} {Q : Str → Prop} : Sw (wr (strK (.str s)) Q) (Q s) := ⟨fun h => (Iff.of_eq w_strK).mpr h⟩
instance i_w_lenN {l : Tr (List Dt)} {Q : List Dt → Prop} : Sw ((lenN l).wp Q E) (l.wp (fun xs => xs.length ≤ sizeLine ∧ Q xs) E) := ⟨fun h => (Iff.of_eq w_lenN).mpr h⟩
instance i_w_mapN {l : Tr (List Dt)} {f : Dt → Tr Dt} {Q : List Dt → Prop} : Sw ((mapN l f).wp Q E) (l.wp (fun xs => xs.length ≤ sizeLine ∧ (mapT xs f).wp Q E) E) := ⟨fun h => (Iff.of_eq w_mapN).mpr h⟩
instance i_w_fmapN {l : Tr (List Dt)} {f : Dt → Tr (Option Dt)} {Q : List Dt → Prop} : Sw ((fmapN l f).wp Q E) (l.wp (fun xs => xs.length ≤ sizeLine ∧ (fmapT xs f).wp Q E) E) := ⟨fun h => (Iff.of_eq w_fmapN).mpr h⟩
instance i_w_fold0 {s : α} {f : α → Dt → Tr α} : Sw ((foldT [] s f).wp Q E) (Q s) := ⟨fun h => (Iff.of_eq w_fold0).mpr h⟩
instance i_w_addI {a b : Int} {Q : Dt → Prop} : Sw (wr (addD (.int a) (.int b)) Q) (Q (.int (a + b))) := ⟨fun h => (Iff.of_eq w_addI).mpr h⟩
instance i_w_subI {a b : Int} {Q : Dt → Prop} : Sw (wr (subD (.int a) (.int b)) Q) (Q (.int (a - b))) := ⟨fun h => (Iff.of_eq w_subI).mpr h⟩
instance i_w_negI {a : Int} {Q : Dt → Prop} : Sw (wr (negD (.int a)) Q) (Q (.int (-a))) := ⟨fun h => (Iff.of_eq w_negI).mpr h⟩
instance i_w_ltI {a b : Int} {Q : Dt → Prop} : Sw (wr (ltD (.int a) (.int b)) Q) (Q (.bool (decide (a < b)))) := ⟨fun h => (Iff.of_eq w_ltI).mpr h⟩
instance i_w_leI {a b : Int} {Q : Dt → Prop} : Sw (wr (leD (.int a) (.int b)) Q) (Q (.bool (decide (a ≤ b)))) := ⟨fun h => (Iff.of_eq w_leI).mpr h⟩
instance i_w_gtI {a b : Int} {Q : Dt → Prop} : Sw (wr (gtD (.int a) (.int b)) Q) (Q (.bool (decide (b < a)))) := ⟨fun h => (Iff.of_eq w_gtI).mpr h⟩
instance i_w_geI {a b : Int} {Q : Dt → Prop} : Sw (wr (geD (.int a) (.int b)) Q) (Q (.bool (decide (b ≤ a)))) := ⟨fun h => (Iff.of_eq w_geI).mpr h⟩
instance i_w_eqI {a b : Int} {Q : Dt → Prop} : Sw (wr (eqD (.int a) (.int b)) Q) (Q (.bool (decide (a = b)))) := ⟨fun h => (Iff.of_eq w_eqI).mpr h⟩
instance i_w_neI {a b : Int} {Q : Dt → Prop} : Sw (wr (neD (.int a) (.int b)) Q) (Q (.bool (!decide (a = b)))) := ⟨fun h => (Iff.of_eq w_neI).mpr h⟩
instance i_w_eqS {a b : Str} {Q : Dt → Prop} : Sw (wr (eqD (.str a) (.str b)) Q) (Q (.bool (a == b))) := ⟨fun h => (Iff.of_eq w_eqS).mpr h⟩
instance i_w_neS {a b : Str} {Q : Dt → Prop} : Sw (wr (neD (.str a) (.str b)) Q) (Q (.bool (!(a == b)))) := ⟨fun h => (Iff.of_eq w_neS).mpr h⟩
instance i_w_lenL {l : List Dt} {Q : Dt → Prop} : Sw (wr (lenD [.list l]) Q) (Q (.int l.length)) := ⟨fun h => (Iff.of_eq w_lenL).mpr h⟩
instance i_w_lenT {l : List Dt} {Q : Dt → Prop} : Sw (wr (lenD [.tuple l]) Q) (Q (.int l.length)) := ⟨fun h => (Iff.of_eq w_lenT).mpr h⟩
instance i_w_ttL {l : List Dt} {Q : Dt → Prop} : Sw (wr (toTupD [.list l]) Q) (Q (.tuple l)) := ⟨fun h => (Iff.of_eq w_ttL).mpr h⟩
instance i_w_ttT {l : List Dt} {Q : Dt → Prop} : Sw (wr (toTupD [.tuple l]) Q) (Q (.tuple l)) := ⟨fun h => (Iff.of_eq w_ttT).mpr h⟩
instance i_w_tiB {b : Bool} {Q : Dt → Prop} : Sw (wr (toIntD [.bool b]) Q) (Q (.int (if b then 1 else 0))) := ⟨fun h => (Iff.of_eq w_tiB).mpr h⟩
instance i_w_max {a b : Int} {Q : Dt → Prop} : Sw (wr (maxD [.int a, .int b]) Q) (Q (.int (if b > a then b else a))) := ⟨fun h => (Iff.of_eq w_max).mpr h⟩
instance i_w_min {a b : Int} {Q : Dt → Prop} : Sw (wr (minD [.int a, .int b]) Q) (Q (.int (if b < a then b else a))) := ⟨fun h => (Iff.of_eq w_min).mpr h⟩
instance i_w_isNN {Q : Dt → Prop} : Sw (wr (isND .none .none) Q) (Q (.bool true)) := ⟨fun h => (Iff.of_eq w_isNN).mpr h⟩
instance i_w_notNN {Q : Dt → Prop} : Sw (wr (notND .none .none) Q) (Q (.bool false)) := ⟨fun h => (Iff.of_eq w_notNN).mpr h⟩
instance i_w_isB {a b : Bool} {Q : Dt → Prop} : Sw (wr (isBD (.bool a) (.bool b)) Q) (Q (.bool (a == b))) := ⟨fun h => (Iff.of_eq w_isB).mpr h⟩
instance i_w_isntB {a b : Bool} {Q : Dt → Prop} : Sw (wr (isntBD (.bool a) (.bool b)) Q) (Q (.bool (!(a == b)))) := ⟨fun h => (Iff.of_eq w_isntB).mpr h⟩
instance i_w_condT {m n : Tr α} : Sw ((cond true m n).wp Q E) (m.wp Q E) := ⟨fun h => (Iff.of_eq w_condT).mpr h⟩
instance i_w_condF {m n : Tr α} : Sw ((cond false m n).wp Q E) (n.wp Q E) := ⟨fun h => (Iff.of_eq w_condF).mpr h⟩
instance i_w_and {a b : Tr Bool} {Q : Bool → Prop} : Sw ((andT a b).wp Q E) (a.wp (fun x => (cond x b (ret false)).wp Q E) E) := ⟨fun h => (Iff.of_eq w_and).mpr h⟩
instance i_w_or {a b : Tr Bool} {Q : Bool → Prop} : Sw ((orT a b).wp Q E) (a.wp (fun x => (cond x (ret true) b).wp Q E) E) := ⟨fun h => (Iff.of_eq w_or).mpr h⟩
instance i_w_pow6 {Q : Dt → Prop} : Sw (wr (powD (.int 10) (.int 6)) Q) (Q (.int 1000000)) := ⟨fun h => (Iff.of_eq w_pow6).mpr h⟩
instance i_w_sumL {s : σ} {f : σ → Tr γ} {g : β → Tr γ} {Q : γ → Prop} : Sw ((sumE (.inl s) f g).wp Q E) ((f s).wp Q E) := ⟨fun h => (Iff.of_eq w_sumL).mpr h⟩
instance i_w_sumR {b : β} {f : σ → Tr γ} {g : β → Tr γ} {Q : γ → Prop} : Sw ((sumE (.inr b) f g).wp Q E) ((g b).wp Q E) := ⟨fun h => (Iff.of_eq w_sumR).mpr h⟩
instance i_w_neS1 {a : Str} {Q : Dt → Prop} : Sw (wr (neD (.str a) (.str a)) Q) (Q (.bool false)) := ⟨fun h => (Iff.of_eq w_neS1).mpr h⟩
instance i_w_enumT {a : Tr Dt} {Q : List Dt → Prop} : Sw ((enumT a).wp Q E) (a.wp (fun d => wr (asTD d) fun xs => Q (enumD xs)) E) := ⟨fun h => (Iff.of_eq w_enumT).mpr h⟩
instance i_w_enumLT {a : Tr Dt} {Q : List Dt → Prop} : Sw ((enumLT a).wp Q E) (a.wp (fun d => wr (asLD d) fun xs => Q (enumD xs)) E) := ⟨fun h => (Iff.of_eq w_enumLT).mpr h⟩
instance i_w_sortIT {a : Tr Dt} {Q : List Dt → Prop} : Sw ((sortIT a).wp Q E) (a.wp (fun d => wr (asLD d) fun xs => wr (intsD xs) fun ss => Q ((sortI ss).map .int)) E) := ⟨fun h => (Iff.of_eq w_sortIT).mpr h⟩
instance i_w_sortRT {a : Tr Dt} {Q : List Dt → Prop} : Sw ((sortRT a).wp Q E) (a.wp (fun d => wr (asLD d) fun xs => wr (intsD xs) fun ss => Q ((sortI ss).reverse.map .int)) E) := ⟨fun h => (Iff.of_eq w_sortRT).mpr h⟩
instance i_w_lrngT {a : Tr Dt} {Q : List Dt → Prop} : Sw ((lrngT a).wp Q E) (a.wp (fun d => wr (asID d) fun j => (0 ≤ j ∧ j ≤ 16777216) ∧ Q (rngL 0 j)) E) := ⟨fun h => (Iff.of_eq w_lrngT).mpr h⟩
instance i_w_getNT {a : Tr Kv} {b : Tr Dt} {Q : Dt → Prop} : Sw ((getNT a b).wp Q E) (a.wp (fun kvs => b.wp (fun k => wr (strK k) fun k => wr (getS kvs k) Q) E) E) := ⟨fun h => (Iff.of_eq w_getNT).mpr h⟩
instance i_w_getN1T {a : Tr Kv} {b : Tr Dt} {Q : Dt → Prop} : Sw ((getN1T a b).wp Q E) (a.wp (fun kvs => b.wp (fun k => wr (strK k) fun k => Q ((getS kvs k).getD .none)) E) E) := ⟨fun h => (Iff.of_eq w_getN1T).mpr h⟩
instance i_w_pConsT {k : Str} {a : Tr Dt} {l : Tr Kv} {Q : Kv → Prop} : Sw ((pConsT k a l).wp Q E) (a.wp (fun x => l.wp (fun xs => Q ((k, x) :: xs)) E) E) := ⟨fun h => (Iff.of_eq w_pConsT).mpr h⟩
instance i_w_pNilT {Q : Kv → Prop} : Sw (pNilT.wp Q E) (Q []) := ⟨fun h => (Iff.of_eq w_pNilT).mpr h⟩
instance i_w_dispT {a : Tr Kv} {Q : Kv → Prop} : Sw ((dispT a).wp Q E) (a.wp (fun kvs => Q (mergeS [] kvs)) E) := ⟨fun h => (Iff.of_eq w_dispT).mpr h⟩
instance i_w_tixT {a b : Tr Dt} {Q : Dt → Prop} : Sw ((tixT a b).wp Q E) (a.wp (fun d => wr (asTD d) fun ds => b.wp (fun e => inOk e ds = true ∧ wr (idxD e ds 0) fun j => Q (.int (j : Nat))) E) E) := ⟨fun h => (Iff.of_eq w_tixT).mpr h⟩
instance i_w_rng2T {a b : Tr Dt} {Q : List Dt → Prop} : Sw ((rng2T a b).wp Q E) (a.wp (fun d => b.wp (fun d' => wr (asID d) fun i => wr (asID d') fun j => (-(2 ^ 62) ≤ i ∧ i < 2 ^ 62 ∧ -(2 ^ 62) ≤ j ∧ j < 2 ^ 62) ∧ Q (rngL i j)) E) E) := ⟨fun h => (Iff.of_eq w_rng2T).mpr h⟩
instance i_w_keepT {c : Tr Bool} {e : Tr Dt} {Q : Option Dt → Prop} : Sw ((keepT c e).wp Q E) (c.wp (fun b => (cond b (bnd e fun r => ret (some r)) (ret none)).wp Q E) E) := ⟨fun h => (Iff.of_eq w_keepT).mpr h⟩
instance i_w_notNg {d : Dt} {Q : Dt → Prop} : Sw (wr (notND d .none) Q) (Q (.bool (!isN d))) := ⟨fun h => (Iff.of_eq w_notNg).mpr h⟩
instance i_w_isNg {d : Dt} {Q : Dt → Prop} : Sw (wr (isND d .none) Q) (Q (.bool (isN d))) := ⟨fun h => (Iff.of_eq w_isNg).mpr h⟩
end
end Fx
namespace Dx
open PySem PySem.Spec L2
def keyE : Dt → Option Key
  | .int i => some (.inl i)
  | .str x => some (.inr x)
  | _ => none
def keysE : List Dt → Option (List Key)
  | [] => some []
  | d :: ds => (keyE d).bind fun k => (keysE ds).map (k :: ·)
def keyT : Dt → Option (List Key)
  | .tuple ds => keysE ds
  | _ => none
abbrev Kt := List (List Key × Dt)
def gtT (kvs : Kt) (k : List Key) : Option Dt := (kvs.find? fun kv => decide (kv.1 = k)).map (·.2)
def ptT (kvs : Kt) (k : List Key) (d : Dt) : Kt := if (gtT kvs k).isSome = true then kvs.map (fun kv => if kv.1 = k then (kv.1, d) else kv) else kvs ++ [(k, d)]
def mgT (kvs more : Kt) : Kt := more.foldl (fun acc kv => ptT acc kv.1 kv.2) kvs
def parT : List Dt → Option Kt
  | [] => some []
  | .tuple [k, d] :: r => (keyT k).bind fun k => (parT r).map ((k, d) :: ·)
  | _ => none
/-- the object -/
def DctO (P : Program) (w : World) (p : Addr) (xs : List (List Key × Addr × Value)) : HO := .ext fun h => (p == sysModules) = false ∧
  ∃ o es ep, h.get? p = some o ∧ o.ExactDict ∧ o.data = .dict es ep ∧ es.toList = xs.map (entryOfKey (tupleKind (mixKind P w))) ∧ (xs.map (·.1)).Nodup
def DcR (K : PySem.W.Frag) (F : Hp) : Kt → List (List Key × Addr × Value) → Prop :=
  Paired fun kv x => kv.1 = x.1 ∧ TuA K F x.2.1 (x.1.map kV) ∧ ∃ v, RelV v x.2.2 ∧ Rp K F v kv.2
def DctR (P : Program) (w : World) (kvs : Kt) : PySem.W.Frag → Hp → Addr → HO → Prop := fun K F p u => ∃ xs, u = DctO P w p xs ∧ DcR K F kvs xs
abbrev dct (P : Program) (w : World) (kvs : Kt) : Ob := .oth (DctR P w kvs)
theorem dcR_same {K : PySem.W.Frag} {F G : Hp} (e : Same F G) {kvs : Kt} {xs : List (List Key × Addr × Value)} (h : DcR K F kvs xs) : DcR K G kvs xs :=
  Paired.mapP h fun _ _ z => ⟨z.1, seqT_same e z.2.1, let ⟨v, a, b⟩ := z.2.2; ⟨v, a, dp_same e b⟩⟩
theorem heap_fill (o : Obj) (ho : o.isFreed = false) : ∀ n : Nat, ∃ h : Heap, h.objs.size = n ∧ (∀ a, a < n → h.get? a = some o) ∧ ∀ a u, h.get? a = some u → u = o
  | 0 => ⟨{}, rfl, fun a h => absurd h (by omega), fun a u e => by
    have := Heap.lt_size e
    simp at this⟩
  | n + 1 => by
    obtain ⟨h, h1, h2, h3⟩ := heap_fill o ho n
    refine ⟨h.push o, by rw [Heap.objs_push, Array.size_push, h1], fun a ha => ?_, fun a u e => ?_⟩
    · by_cases k : a = n
      · rw [k, ← h1]; exact Heap.get?_push_size h ho
      · exact Heap.get?_push_of_some _ (h2 a (by omega))
    · rcases Heap.get?_push_cases e with ⟨_, z⟩ | z
      · exact z
      · exact h3 a u z
theorem nt_dct {P : Program} {w : World} {p : Addr} {xs : List (List Key × Addr × Value)} : NT (DctO P w p xs) := by
  refine ⟨fun _ z => (by unfold DctO at z; exact nomatch z), fun c q z => ?_⟩
  obtain ⟨h, h1, h2, h3⟩ := heap_fill { cls := .none, data := .fields #[.none, .str q 0] } rfl (c + 1)
  unfold DctO LamX.CodeO at z
  have e := congrFun (HO.ext.inj z) h
  have y : ∃ (oc : Obj) (vs : Array Value) (t : Tok), h.get? c = some oc ∧ oc.data = .fields vs ∧ vs[1]? = some (.str q t) := ⟨_, _, 0, h2 c (by omega), rfl, rfl⟩
  rw [← e] at y
  obtain ⟨_, o, es, ep, g1, _, g2, _⟩ := y
  rw [h3 _ _ g1] at g2
  cases g2
theorem repO_dct {K : PySem.W.Frag} {F H : Hp} {p : Addr} {P : Program} {w : World} {kvs : Kt} (h : RepO K F H p (dct P w kvs)) : ∃ xs, H p = some (DctO P w p xs) ∧ DcR K F kvs xs := by
  obtain ⟨u, F0, h1, _, h2, xs, rfl, h3⟩ := h
  exact ⟨xs, h1, dcR_same h2 h3⟩
theorem DcR.get {K : PySem.W.Frag} {F : Hp} {k : List Key} : ∀ {kvs : Kt} {xs : List (List Key × Addr × Value)}, DcR K F kvs xs → (gtT kvs k = none ∧ atKey xs k = none) ∨ ∃ d v p, gtT kvs k = some d ∧ atKey xs k = some p ∧ RelV v p.2 ∧ Rp K F v d
  | _, _, .nil => .inl ⟨rfl, rfl⟩
  | _, _, .cons (a := kv) (b := x) (l₁ := ps) (l₂ := qs) r t => by
    obtain ⟨e1, _, v, e2, e3⟩ := r
    by_cases e : x.1 = k
    · refine .inr ⟨kv.2, v, x.2, ?_, ?_, e2, e3⟩
      · simp [gtT, List.find?_cons, e1, e]
      · simp [atKey, List.find?_cons, e]
    · have a : gtT (kv :: ps) k = gtT ps k := by simp [gtT, List.find?_cons, e1, e]
      have b : atKey (x :: qs) k = atKey qs k := by simp [atKey, List.find?_cons, e]
      rw [a, b]
      exact DcR.get t
theorem DcR.put {K : PySem.W.Frag} {F : Hp} {kvs : Kt} {xs : List (List Key × Addr × Value)} (h : DcR K F kvs xs) {k : List Key} {b : Addr} {v : V} {u : Value} {d : Dt} (hb : TuA K F b (k.map kV)) (rv : RelV v u) (rd : Rp K F v d) : DcR K F (ptT kvs k d) (storedH xs k b u) := by
  have e : (gtT kvs k).isSome = (atKey xs k).isSome := by
    rcases h.get (k := k) with ⟨a, c⟩ | ⟨_, _, _, a, c, _⟩ <;> rw [a, c] <;> rfl
  unfold ptT storedH
  rw [e]
  split
  · rename_i hx
    clear e hx
    induction h with
    | nil => exact .nil
    | @cons kv x ps qs r t ih =>
      refine .cons ?_ ih
      obtain ⟨e1, e2, w, e3, e4⟩ := r
      unfold putAt
      dsimp only
      by_cases e : x.1 = k
      · have e' : kv.1 = k := e1.trans e
        rw [if_pos e, if_pos e']; exact ⟨e1, e2, v, rv, rd⟩
      · have e' : ¬ kv.1 = k := fun z => e (e1.symm.trans z)
        rw [if_neg e, if_neg e']; exact ⟨e1, e2, w, e3, e4⟩
  · exact Paired.snoc h ⟨rfl, hb, v, rv, rd⟩
theorem DcR.merge {K : PySem.W.Frag} {F : Hp} : ∀ {more : Kt} {ps : List (List Key × Addr × Value)} {kvs : Kt} {xs : List (List Key × Addr × Value)}, DcR K F more ps → DcR K F kvs xs → DcR K F (mgT kvs more) (storedAllH xs ps)
  | _, _, _, _, .nil, h => h
  | _, _, _, _, .cons (a := kv) (b := x) r t, h => by
    obtain ⟨e1, e2, v, e3, e4⟩ := r
    have := DcR.merge t (h.put (k := x.1) (b := x.2.1) (u := x.2.2) (d := kv.2) e2 e3 e4)
    show DcR K F (mgT (ptT _ kv.1 kv.2) _) _
    rw [e1]
    exact this
section
variable {X : Cx} {pins : List (Addr × Obj)} {σ : L2.St} {H : Hp} {s : Shared} {a b : Addr} {y v : V} {u r : Value} {o : Option V} {A : Around} {E : Value → Shared → Prop}
theorem key_told (I : Inv X pins σ H s) {k : List Key} (h : TuA X.K H b (k.map kV)) : (tupleKind (mixKind X.prog X.w)).is s.heap k b := by
  obtain ⟨its, r, ⟨o, h1, h2, n, h3⟩, _⟩ := I.tuple h.sq
  exact ⟨o, its.toArray, n, h1, h2, h3, by simpa using items_are r⟩
/-- what the dict at a holds at the key y -/
def DGt (X : Cx) (H : Hp) (a : Addr) (y : V) (o : Option V) : Prop := ∃ xs k b, H a = some (DctO X.prog X.w a xs) ∧ (∀ x ∈ xs, TuA X.K H x.2.1 (x.1.map kV)) ∧ y = .ref b ∧ TuA X.K H b (k.map kV) ∧ RelO o ((atKey xs k).map (·.2))
theorem dct_at (I : Inv X pins σ H s) {xs : List (List Key × Addr × Value)} (h : H a = some (DctO X.prog X.w a xs)) : (a == sysModules) = false ∧ s.TypeIs (.ref a) "dict" ∧ (∀ b, Value.ref a = .ref b → ∃ ob, s.heap.get? b = some ob ∧ ob.dict = none) ∧
    ((∀ x ∈ xs, TuA X.K H x.2.1 (x.1.map kV)) → s.heap.DictOfH (tupleKind (mixKind X.prog X.w)) a xs) := by
  obtain ⟨⟨hd, o, es, ep, h1, h2, h3, h4, h5⟩, _⟩ := (show ObjOk X.prog X.w H s.heap a (DctO X.prog X.w a xs) from I.hok a _ h)
  refine ⟨hd, ⟨o, h1, h2.1⟩, fun b e => ?_, fun hk => ⟨o, es, ep, h1, h2, h3, h4, fun x hx => key_told I (hk x hx), h5⟩⟩
  cases e
  exact ⟨o, h1, h2.2.1⟩
theorem dg_getItem {Q : Value → Shared → Prop} (hu : A.units + 1 < cLine) (I : Inv X pins σ H s) (g : DGt X H a y (some v)) (ry : RelV y u) (h : ∀ w' s', Inv X pins σ H s' → RelV v w' → Q w' s') :
    wpAny (model X.prog X.w) A (getItem (.ref a) u) Q E s := by
  obtain ⟨xs, k, b, ha, hk, rfl, hb, l⟩ := g
  cases (show u = Value.ref b from ry)
  obtain ⟨_, _, _, dd⟩ := dct_at I ha
  obtain ⟨w', hw, rw'⟩ := RelO.some_of l
  obtain ⟨p, hp, hp2⟩ := Option.map_eq_some_iff.mp hw
  refine wpAny_getItem_heap (tupleKind_room_in1 hu) (key_told I hb) (dd hk) hp ?_
  rw [hp2]
  exact h w' _ (I.tok _) rw'
theorem dg_in {Q : Value → Shared → Prop} (hu : A.units + 1 < cLine) (I : Inv X pins σ H s) (g : DGt X H a y o) (ry : RelV y u) (h : ∀ s', Inv X pins σ H s' → Q (.bool o.isSome) s') :
    wpAny (model X.prog X.w) A (compareOp .In u (.ref a)) Q E s := by
  obtain ⟨xs, k, b, ha, hk, rfl, hb, l⟩ := g
  cases (show u = Value.ref b from ry)
  obtain ⟨hd, _, _, dd⟩ := dct_at I ha
  refine wpAny_in_heap (tupleKind_room_in1 hu) (key_told I hb) hd (dd hk) ?_
  have q := l.isSome_eq
  rw [Option.isSome_map] at q
  rw [← q]
  exact h _ (I.tok _)
theorem dg_notIn {Q : Value → Shared → Prop} (hu : A.units + 1 < cLine) (I : Inv X pins σ H s) (g : DGt X H a y o) (ry : RelV y u) (h : ∀ s', Inv X pins σ H s' → Q (.bool (!o.isSome)) s') :
    wpAny (model X.prog X.w) A (compareOp .NotIn u (.ref a)) Q E s := by
  obtain ⟨xs, k, b, ha, hk, rfl, hb, l⟩ := g
  cases (show u = Value.ref b from ry)
  obtain ⟨hd, _, _, dd⟩ := dct_at I ha
  refine PyProof.Rows.wpAny_notIn_heap (tupleKind_room_in1 hu) (key_told I hb) hd (dd hk) ?_
  have q := l.isSome_eq
  rw [Option.isSome_map] at q
  rw [← q]
  exact h _ (I.tok _)
theorem dg_get1 {Q : Value → Shared → Prop} (hu : A.units + 1 < cLine) (I : Inv X pins σ H s) (g : DGt X H a y o) (ry : RelV y u) (h : ∀ w' s', Inv X pins σ H s' → RelV (o.getD .non) w' → Q w' s') :
    wpAny (model X.prog X.w) A (call (.builtin "dict.get") [.ref a, u]) Q E s := by
  obtain ⟨xs, k, b, ha, hk, rfl, hb, l⟩ := g
  cases (show u = Value.ref b from ry)
  obtain ⟨hd, ht, _, dd⟩ := dct_at I ha
  exact call_meetsIn PySem.F.slot_dict_get ht PySem.F.entry_dict_get (PySem.F.args_dict_get_2 _ _) (meetsH_dict_get (tupleKind (mixKind X.prog X.w)) a b hd) ⟨tupleKind_room_in1 hu, k, xs, key_told I hb, dd hk, h _ _ (I.tok _) (l.getD rfl)⟩
end
section
variable {X : Cx} {o i e : Expr} {pos apos cpos : Pos} {td ty : TE}
def tXGet (X : Cx) (td ty : TE) : TE := fun σ H Q => td σ H fun x H1 => ty σ H1 fun y H2 => ∃ a v, x = .ref a ∧ DGt X H2 a y (some v) ∧ Q v H2
def tXIn (X : Cx) (ty td : TE) : TE := fun σ H Q => ty σ H fun y H1 => td σ H1 fun x H2 => ∃ a o, x = .ref a ∧ DGt X H2 a y o ∧ Q (.bl o.isSome) H2
def tXNotIn (X : Cx) (ty td : TE) : TE := fun σ H Q => ty σ H fun y H1 => td σ H1 fun x H2 => ∃ a o, x = .ref a ∧ DGt X H2 a y o ∧ Q (.bl (!o.isSome)) H2
def tXGet1 (X : Cx) (td ty : TE) : TE := fun σ H Q => td σ H fun x H1 => ∃ a xs, x = .ref a ∧ H1 a = some (DctO X.prog X.w a xs) ∧ ty σ H1 fun y H2 => ∃ o, DGt X H2 a y o ∧ Q (o.getD .non) H2
theorem pe_xget (hu : X.A.units + 1 < cLine) (ho : PE X o td) (hi : PE X i ty) (hs : NoSl i) : PE X (.Subscript o i pos) (tXGet X td ty) := by
  refine ⟨fun pins s σ H Q I h => ?_⟩
  refine subD_of PySem.F.slot_dict_getitem.lookup hs (thn (ho.run pins s σ H _ I h) fun u s1 ⟨x, H1, I1, rx, q1⟩ => thn (hi.run pins s1 σ H1 _ I1 q1) fun iv s2 ⟨y, H2, I2, ry, a, v, ex, g, q2⟩ => ?_)
  subst ex
  obtain rfl : u = Value.ref a := rx
  have ⟨xs, _, _, ha, _⟩ := g
  exact ⟨(dct_at I2 ha).2.1, dg_getItem hu I2 g ry fun w' s3 I3 rw' => ⟨v, H2, I3, rw', q2⟩⟩
theorem pc_xin (hu : X.A.units + 1 < cLine) (hi : PE X i ty) (ho : PE X o td) : PC X .In i o (tXIn X ty td) := by
  refine ⟨fun pins s σ H Q I h => ?_⟩
  refine thn (hi.run pins s σ H _ I h) fun iv s1 ⟨y, H1, I1, ry, q1⟩ => thn (ho.run pins s1 σ H1 _ I1 q1) fun u s2 ⟨x, H2, I2, rx, a, ov, ex, g, q2⟩ => ?_
  subst ex
  obtain rfl : u = Value.ref a := rx
  exact dg_in hu I2 g ry fun s3 I3 => ⟨.bl ov.isSome, H2, I3, rfl, q2⟩
theorem pc_xnotin (hu : X.A.units + 1 < cLine) (hi : PE X i ty) (ho : PE X o td) : PC X .NotIn i o (tXNotIn X ty td) := by
  refine ⟨fun pins s σ H Q I h => ?_⟩
  refine thn (hi.run pins s σ H _ I h) fun iv s1 ⟨y, H1, I1, ry, q1⟩ => thn (ho.run pins s1 σ H1 _ I1 q1) fun u s2 ⟨x, H2, I2, rx, a, ov, ex, g, q2⟩ => ?_
  subst ex
  obtain rfl : u = Value.ref a := rx
  exact dg_notIn hu I2 g ry fun s3 I3 => ⟨.bl (!ov.isSome), H2, I3, rfl, q2⟩
theorem pe_xget1 (hu : X.A.units + 1 < cLine) (ho : PE X o td) (he : PE X e ty) (m : M1 X o "get" apos e cpos) : PE X (.Call (.Attribute o "get" apos) [e] [] cpos) (tXGet1 X td ty) := by
  refine ⟨fun pins s σ H Q I h => ?_⟩
  refine wpAny_Call_method m.base m.few m.line PySem.F.plainAttrs_dict PySem.F.slot_dict_get PySem.F.type_dict_get (thn (ho.run pins s σ H _ I h) fun u s1 ⟨x, H1, I1, rx, a, xs, ex, d, q1⟩ => ?_)
  subst ex
  obtain rfl : u = Value.ref a := rx
  obtain ⟨_, t1, t2, _⟩ := dct_at I1 d
  refine ⟨t1, t2, ?_⟩
  rw [m.trees]
  refine Calls.callWith_builtin rfl (Calls.evalArgs_plain (Calls.spliced_cons (thn (he.run pins s1 σ H1 _ I1 q1) fun iv s2 ⟨y, H2, I2, ry, ov, g, q2⟩ => Calls.spliced_nil ?_)))
  exact dg_get1 hu I2 g ry fun w' s3 I3 rw' => ⟨_, H2, I3, rw', q2⟩
end
open PySem PySem.Spec L2
theorem keysE_rp {K : PySem.W.Frag} {F : Hp} : ∀ {xs : List V} {ds : List Dt} {ks : List Key}, RpAll K F xs ds → keysE ds = some ks → xs = ks.map kV
  | _, _, _, .nil, e => by cases e; rfl
  | _, _, _, .cons (v := v) (d := d) h t, e => by
    unfold keysE at e
    obtain ⟨k, e1, e2⟩ := Option.bind_eq_some_iff.mp e
    obtain ⟨ks, e3, rfl⟩ := Option.map_eq_some_iff.mp e2
    rw [keysE_rp t e3, List.map_cons]
    congr 1
    cases h <;> cases e1 <;> rfl
theorem rp_keyT {K : PySem.W.Frag} {F : Hp} {v : V} {d : Dt} {k : List Key} (h : Rp K F v d) (e : keyT d = some k) : ∃ b, v = .ref b ∧ TuA K F b (k.map kV) := by
  cases h with
  | tup t r => exact ⟨_, rfl, by rw [← keysE_rp r e]; exact t⟩
  | _ => cases e
theorem tp_keyT {K : PySem.W.Frag} {F H : Hp} {v : V} {d : Dt} {k : List Key} (sm : Same F H) (h : Tp K F H v d) (e : keyT d = some k) : ∃ b, v = .ref b ∧ TuA K H b (k.map kV) := by
  cases h with
  | tup t r => exact ⟨_, rfl, by rw [← keysE_rp r e]; exact seqT_same sm t⟩
  | _ => cases e
theorem DcR.keys {K : PySem.W.Frag} {F : Hp} : ∀ {kvs : Kt} {xs : List (List Key × Addr × Value)}, DcR K F kvs xs → ∀ x ∈ xs, TuA K F x.2.1 (x.1.map kV)
  | _, _, .nil, _, hx => nomatch hx
  | _, _, .cons r t, x, hx => by
    rcases List.mem_cons.mp hx with rfl | hx
    · exact r.2.1
    · exact DcR.keys t x hx
section
variable {X : Cx} {pos : Pos} {n : Nat}
/-- what a dict of slot or place a holds -/
theorem dgt_of {F H : Hp} {a b : Addr} {kvs : Kt} {k : List Key} {xs : List (List Key × Addr × Value)} (sm : Same F H) (hp : H a = some (DctO X.prog X.w a xs)) (r : DcR X.K F kvs xs) (hb : TuA X.K H b (k.map kV)) :
    (gtT kvs k = none ∧ DGt X H a (.ref b) none) ∨ ∃ d v, gtT kvs k = some d ∧ DGt X H a (.ref b) (some v) ∧ Rp X.K F v d := by
  have hk : ∀ x ∈ xs, TuA X.K H x.2.1 (x.1.map kV) := fun x hx => seqT_same sm (r.keys x hx)
  rcases r.get (k := k) with ⟨e1, e2⟩ | ⟨d, v, p, e1, e2, e3, e4⟩
  · exact .inl ⟨e1, xs, k, b, hp, hk, rfl, hb, by rw [e2]; trivial⟩
  · exact .inr ⟨d, v, e1, ⟨xs, k, b, hp, hk, rfl, hb, by rw [e2]; exact e3⟩, e4⟩
def gX (P : Program) (w : World) (env : Dn) (i : Nat) (Q : Kt → Prop) : Prop := ∃ kvs, env[i]? = some (some (.obj (dct P w kvs))) ∧ Q kvs
theorem gX_mono {P : Program} {w : World} {env : Dn} {i : Nat} {Q Q' : Kt → Prop} (m : ∀ kvs, Q kvs → Q' kvs) (h : gX P w env i Q) : gX P w env i Q' := let ⟨a, b, c⟩ := h; ⟨a, b, m _ c⟩
/-- x[k] -/
def kXix (P : Program) (w : World) (i : Nat) (tk : DT) : DT := fun env Q => gX P w env i fun _ => tk env fun ek env1 => gX P w env1 i fun kvs => wr ((rs env1 ek).bind keyT) fun k => wr (gtT kvs k) fun d => Q (.dat d) env1
theorem de_xix (i : Nat) {x : Str} {e : Expr} {tk : DT} {p : Pos} (hu : X.A.units + 1 < cLine) (he : DE X e tk) (hs : NoSl e := by exact fun _ _ => rfl) (hN : X.N[i]? = some x := by rfl) (hv : Vis X.env.scope x := by first | exact Or.inl rfl | exact Or.inr (Or.inl rfl) | exact Or.inr (Or.inr rfl)) (hd : (x == ("__debug__" : Str)) = false := by decide) (hcd : (x == ("__classdict__" : Str)) = false := by decide) :
    DE X (.Subscript (.Name x p) e pos) (kXix X.prog X.w i tk) := by
  refine ⟨fun env Q Q' m q => gX_mono (fun _ q => he.mono _ _ _ (fun ek env1 q => gX_mono (fun kvs q => wr_mono (fun k q => wr_mono (fun d q => m _ _ q) q) q) q) q) q, (pe_xget hu (pe_var hN hv hd hcd) he.run hs).mono fun σ H Q => ?_⟩
  rintro ⟨F, env, R, q⟩
  obtain ⟨kvs0, e0, q⟩ := q
  obtain ⟨v0, es, a0, ev0, hf0, _⟩ := R.val i _ e0
  subst ev0
  refine ⟨_, es, F, env, R, he.mono _ _ _ (fun ek env1 q F1 H1 y E1 R1 V1 => ?_) q⟩
  obtain ⟨kvs, e1, q⟩ := q
  obtain ⟨k, e2, q⟩ := wr_get q
  obtain ⟨d, ed, q⟩ := wr_get q
  obtain ⟨dk, e3, e4⟩ := Option.bind_eq_some_iff.mp e2
  obtain ⟨b, rfl, hb⟩ := tp_keyT R1.sub (tp_of R1 V1 e3) e4
  obtain ⟨v1, es1, a1, ev1, hf1, ro⟩ := R1.val i _ e1
  rw [es] at es1; cases es1; cases ev1
  obtain ⟨xs, hp, r⟩ := repO_dct ro
  rcases dgt_of R1.sub hp r hb with ⟨g1, g2⟩ | ⟨d', v, g1, g2, g3⟩
  · rw [g1] at ed; cases ed
  · rw [g1] at ed; cases ed
    exact ⟨a0, v, rfl, g2, q F1 H1 v E1 R1 g3⟩
/-- k in x, k not in x -/
def kXin (P : Program) (w : World) (f : Bool → Bool) (tk : DT) (i : Nat) : DTb := fun env Q => tk env fun ek env1 => gX P w env1 i fun kvs => wr ((rs env1 ek).bind keyT) fun k => Q (f (gtT kvs k).isSome) env1
theorem kXin_mono {P : Program} {w : World} {f : Bool → Bool} {tk : DT} {i : Nat} (m : MonoD tk) : MonoB (kXin P w f tk i) := fun env Q Q' i q => m _ _ _ (fun ek env1 q => gX_mono (fun kvs q => wr_mono (fun k q => i _ _ q) q) q) q
theorem xin_of {f : Bool → Bool} {tk : DT} {i : Nat} {e : Expr} (he : DE X e tk) {σ : L2.St} {H : Hp} {Q : Bool → Hp → Prop} (h : tDb X.K (kXin X.prog X.w f tk i) σ H Q) :
    tD X.K tk σ H fun y H1 => ∃ v, σ[i]? = some (some v) ∧ ∃ a o, v = .ref a ∧ DGt X H1 a y o ∧ Q (f o.isSome) H1 := by
  obtain ⟨F, env, R, q⟩ := h
  refine ⟨F, env, R, he.mono _ _ _ (fun ek env1 q F1 H1 y E1 R1 V1 => ?_) q⟩
  obtain ⟨kvs, e1, q⟩ := q
  obtain ⟨k, e2, q⟩ := wr_get q
  obtain ⟨dk, e3, e4⟩ := Option.bind_eq_some_iff.mp e2
  obtain ⟨b, rfl, hb⟩ := tp_keyT R1.sub (tp_of R1 V1 e3) e4
  obtain ⟨v1, es1, a1, ev1, hf1, ro⟩ := R1.val i _ e1
  subst ev1
  obtain ⟨xs, hp, r⟩ := repO_dct ro
  refine ⟨_, es1, a1, ?_⟩
  rcases dgt_of R1.sub hp r hb with ⟨g1, g2⟩ | ⟨d', v, g1, g2, g3⟩
  · rw [g1] at q; exact ⟨_, rfl, g2, q F1 H1 E1 R1⟩
  · rw [g1] at q; exact ⟨_, rfl, g2, q F1 H1 E1 R1⟩
theorem db_xin (i : Nat) {x : Str} {e : Expr} {tk : DT} {p : Pos} (hu : X.A.units + 1 < cLine) (he : DE X e tk) (hN : X.N[i]? = some x := by rfl) (hv : Vis X.env.scope x := by first | exact Or.inl rfl | exact Or.inr (Or.inl rfl) | exact Or.inr (Or.inr rfl)) (hd : (x == ("__debug__" : Str)) = false := by decide) (hcd : (x == ("__classdict__" : Str)) = false := by decide) (hm : behindInMarks .In (.Name x p) = false := by rfl) :
    DB X (.Compare e [.In] [.Name x p] pos) (kXin X.prog X.w (fun b => b) tk i) :=
  ⟨kXin_mono he.mono, (pt_cmp (pc_xin hu he.run (pe_var hN hv hd hcd)) hm).mono fun σ H Q h => by
    obtain ⟨F, env, R, q⟩ := xin_of he h
    refine ⟨F, env, R, he.mono _ _ _ (fun ek env1 q F1 H1 y E1 R1 V1 => ?_) q⟩
    obtain ⟨v, e1, a, o, e2, e3, e4⟩ := q F1 H1 y E1 R1 V1
    exact ⟨v, e1, a, o, e2, e3, ⟨_, rfl, e4⟩⟩⟩
theorem db_xnin (i : Nat) {x : Str} {e : Expr} {tk : DT} {p : Pos} (hu : X.A.units + 1 < cLine) (he : DE X e tk) (hN : X.N[i]? = some x := by rfl) (hv : Vis X.env.scope x := by first | exact Or.inl rfl | exact Or.inr (Or.inl rfl) | exact Or.inr (Or.inr rfl)) (hd : (x == ("__debug__" : Str)) = false := by decide) (hcd : (x == ("__classdict__" : Str)) = false := by decide) (hm : behindInMarks .NotIn (.Name x p) = false := by rfl) :
    DB X (.Compare e [.NotIn] [.Name x p] pos) (kXin X.prog X.w (fun b => !b) tk i) :=
  ⟨kXin_mono he.mono, (pt_cmp (pc_xnotin hu he.run (pe_var hN hv hd hcd)) hm).mono fun σ H Q h => by
    obtain ⟨F, env, R, q⟩ := xin_of he h
    refine ⟨F, env, R, he.mono _ _ _ (fun ek env1 q F1 H1 y E1 R1 V1 => ?_) q⟩
    obtain ⟨v, e1, a, o, e2, e3, e4⟩ := q F1 H1 y E1 R1 V1
    exact ⟨v, e1, a, o, e2, e3, ⟨_, rfl, e4⟩⟩⟩
def asX (P : Program) (w : World) (ev : Ev) (Q : Kt → Prop) : Prop := ∃ kvs, ev = .new (dct P w kvs) ∧ Q kvs
theorem asX_mono {P : Program} {w : World} {ev : Ev} {Q Q' : Kt → Prop} (i : ∀ kvs, Q kvs → Q' kvs) (h : asX P w ev Q) : asX P w ev Q' := let ⟨a, b, c⟩ := h; ⟨a, b, i _ c⟩
/-- dict(..).get(k) -/
def kXg1 (P : Program) (w : World) (td tk : DT) : DT := fun env Q => td env fun ed env1 => asX P w ed fun kvs => tk env1 fun ek env2 => wr ((rs env2 ek).bind keyT) fun k => Q (.dat ((gtT kvs k).getD .none)) env2
theorem de_xg1 {o e : Expr} {td tk : DT} {apos cpos : Pos} (hu : X.A.units + 1 < cLine) (ho : DE X o td) (he : DE X e tk) (m : M1 X o "get" apos e cpos) : DE X (.Call (.Attribute o "get" apos) [e] [] cpos) (kXg1 X.prog X.w td tk) := by
  refine ⟨fun env Q Q' m q => ho.mono _ _ _ (fun ed env1 q => asX_mono (fun kvs q => he.mono _ _ _ (fun ek env2 q => wr_mono (fun k q => m _ _ q) q) q) q) q, (pe_xget1 hu ho.run he.run m).mono fun σ H Q => ?_⟩
  rintro ⟨F, env, R, q⟩
  refine ⟨F, env, R, ho.mono _ _ _ (fun ed env1 q F1 H1 x E1 R1 V1 => ?_) q⟩
  obtain ⟨kvs, rfl, q⟩ := q
  have V1' := V1
  obtain ⟨a0, rfl, hf, ro, hno, hH⟩ := V1'
  obtain ⟨xs, hp, r⟩ := repO_dct ro
  refine ⟨a0, xs, rfl, hp, F1, env1, R1, he.mono _ _ _ (fun ek env2 q F2 H2 y E2 R2 V2 => ?_) q⟩
  obtain ⟨k, e2, q⟩ := wr_get q
  obtain ⟨dk, e3, e4⟩ := Option.bind_eq_some_iff.mp e2
  obtain ⟨b, rfl, hb⟩ := tp_keyT R2.sub (tp_of R2 V2 e3) e4
  obtain ⟨a1, ea, hf1, ro1, hno1, hH1⟩ := V1.move E2
  cases ea
  obtain ⟨xs1, hp1, r1⟩ := repO_dct ro1
  rcases dgt_of R2.sub hp1 r1 hb with ⟨g1, g2⟩ | ⟨d', v, g1, g2, g3⟩
  · rw [g1] at q
    exact ⟨none, g2, q F2 H2 .non (E1.trans E2) R2 .non⟩
  · rw [g1] at q
    exact ⟨some v, g2, q F2 H2 v (E1.trans E2) R2 g3⟩
theorem pairs_toldX {pins : List (Addr × Obj)} {σ : L2.St} {H : Hp} {s : Shared} (I : Inv X pins σ H s) : ∀ {ps : List Addr} {kvs : List (List Key × Addr × V)}, Paired (fun p kv => SqT X.K H p [.ref kv.2.1, kv.2.2] ∧ TuA X.K H kv.2.1 (kv.1.map kV)) ps kvs →
    ∃ (prs : List (List Key × Addr × Value)) (uvs : List (Value × Value)), Paired (fun kv q => kv.1 = q.1 ∧ kv.2.1 = q.2.1 ∧ RelV kv.2.2 q.2.2) kvs prs ∧ prs.length = ps.length ∧ uvs.length = ps.length ∧
      (∀ (j : Nat) (u v : Value), uvs[j]? = some (u, v) → ∃ (b : Addr) (k : List Key) (c : Addr), ps[j]? = some b ∧ PyProof.Rows.IsTup s.heap b #[u, v] ∧ prs[j]? = some (k, c, v) ∧ u = .ref c) ∧ ∀ x ∈ prs, TuA X.K H x.2.1 (x.1.map kV)
  | _, _, .nil => ⟨[], [], .nil, rfl, rfl, fun j u v e => by simp at e, fun x hx => nomatch hx⟩
  | _, _, .cons (a := p) (b := kv) h t => by
    obtain ⟨prs, uvs, r, hl, hl', hp, hk⟩ := pairs_toldX I t
    obtain ⟨its, rv, ht, _⟩ := I.tuple h.1
    obtain ⟨u, y, ei, ru, ry⟩ := vals2 rv
    subst ei
    cases (show u = Value.ref kv.2.1 from ru)
    refine ⟨(kv.1, kv.2.1, y) :: prs, (.ref kv.2.1, y) :: uvs, .cons ⟨rfl, rfl, ry⟩ r, by simp [hl], by simp [hl'], fun j u' v' e => ?_, fun x hx => ?_⟩
    · cases j with
      | zero =>
        simp at e
        obtain ⟨e1, e2⟩ := e
        subst e1 e2
        exact ⟨p, kv.1, kv.2.1, rfl, ht, rfl, rfl⟩
      | succ j =>
        obtain ⟨b, k, c, e1, e2, e3, e4⟩ := hp j u' v' (by simpa using e)
        exact ⟨b, k, c, by simpa using e1, e2, by simpa using e3, e4⟩
    · rcases List.mem_cons.mp hx with rfl | hx
      · exact h.2
      · exact hk x hx
end
open PySem PySem.Spec L2
section
variable {X : Cx} {pos : Pos} {n : Nat}
/-- dict(pairs), the keys tuples -/
def rDictX (X : Cx) : List V → Hp → VK → Prop := fun xs H Q => ∃ (a : Addr) (ps : List Addr) (kvs : List (List Key × Addr × V)), xs = [.ref a] ∧ (H a = some (.lst (ps.map V.ref)) ∨ TuA X.K H a (ps.map V.ref)) ∧
    Paired (fun p kv => SqT X.K H p [.ref kv.2.1, kv.2.2] ∧ TuA X.K H kv.2.1 (kv.1.map kV)) ps kvs ∧
    ∀ (p : Addr) (prs : List (List Key × Addr × Value)), H p = none → Paired (fun kv q => kv.1 = q.1 ∧ kv.2.1 = q.2.1 ∧ RelV kv.2.2 q.2.2) kvs prs → Q (.ref p) (upd H p (DctO X.prog X.w p (storedAllH [] prs)))
theorem call_dictX (hcalm : X.calm = true) (hu : X.A.units + 2 < cLine) : CallR X (.type "dict") (rDictX X) := by
  intro pins s σ H xs us Q I r q
  obtain ⟨a, ps, kvs, rfl, hq, hp, q⟩ := q
  obtain ⟨u, rfl, rx⟩ := vals1 r
  cases rx
  obtain ⟨prs, uvs, rel, hl, hl', hpr, hk⟩ := pairs_toldX I hp
  have items : ∀ (its : List Value), Vals (ps.map V.ref) its → PairItems s.heap (ps.map Value.ref).toArray (fun j => ps.getD j 0) uvs := fun its rv => by
    refine ⟨by simp [hl'], fun j k v e => ?_⟩
    obtain ⟨b, kk, c, e1, e2, e3, e4⟩ := hpr j k v e
    refine ⟨by simp [e1], .inl ?_⟩
    show s.heap.IsTuple (ps.getD j 0) #[k, v]
    rw [show ps.getD j 0 = b by simp [List.getD, e1]]
    exact e2
  have have' : PairsHaveH (tupleKind (mixKind X.prog X.w)) uvs.length (PairRel uvs) prs := ⟨by rw [hl, hl'], fun j key v e => by
    obtain ⟨b, kk, c, e1, e2, e3, e4⟩ := hpr j key v e
    exact ⟨kk, c, e3, e4⟩⟩
  have stay : KeysStay (tupleKind (mixKind X.prog X.w)) s.heap s.heap.objs.size [] prs := fun h' hk' x hx => by
    obtain ⟨o, its, m, h1, h2⟩ := key_told I (hk x hx)
    exact ⟨o, its, m, hk' _ _ (Nat.ne_of_lt (Heap.lt_size h1)) (by simp) h1, h2⟩
  have room : (tupleKind (mixKind X.prog X.w)).room X.A.in1.in1 := hu
  have fin : ∀ (h' : Heap) (tk : Nat), h'.DictOfH (tupleKind (mixKind X.prog X.w)) s.heap.objs.size (storedAllH [] prs) → (∀ b o, b ∉ ([] : List Addr) → s.heap.get? b = some o → h'.get? b = some o) →
      ∃ v H', Inv X pins σ H' { s with heap := h', toks := tk } ∧ RelV v (Value.ref s.heap.objs.size) ∧ Q v H' := fun h' tk hd' k => by
    have hm : (s.heap.objs.size == sysModules) = false := beq_eq_false_iff_ne.mpr (Nat.ne_of_gt I.big)
    obtain ⟨o, es, ep, h1, h2, h3, h4, h5, h6⟩ := hd'
    refine ⟨.ref s.heap.objs.size, upd H s.heap.objs.size (DctO X.prog X.w s.heap.objs.size (storedAllH [] prs)), I.laid (t' := tk) (fun b o e => k b o (by simp) e) (Nat.le_refl _) ?_, rfl, q _ prs (I.hok.fresh (Nat.le_refl _)) rel⟩
    refine ⟨⟨hm, o, es, ep, h1, h2, h3, h4, h6⟩, ⟨o, h1⟩, fun g1 g2 ⟨a1, o', es', ep', b1, b2⟩ kk => ⟨a1, o', es', ep', kk _ b1, b2⟩⟩
  rcases hq with hq | hq
  · obtain ⟨hz, its, m, rv, ho⟩ := (show ObjOk X.prog X.w H s.heap a (.lst (ps.map V.ref)) from I.hok a _ hq)
    have ei := refs_at rv
    subst ei
    exact PySem.call_dict_pairsH (knd := tupleKind (mixKind X.prog X.w)) (ps := prs) (PySem.PairArg.list (prog := X.prog) (w := X.w) a (ps.map Value.ref).toArray (fun j => ps.getD j 0) uvs) (I.ok.hd hcalm) room ⟨⟨_, m, ho, rfl, rfl, rfl⟩, items _ rv⟩ have' stay (by rw [hl']; simpa using hz) fin
  · have told : ∃ (o : Obj) (its : List Value) (m : Nat), s.heap.get? a = some o ∧ TObj o ∧ o.data = .seq its.toArray m ∧ Vals (ps.map V.ref) its ∧ ps.length ≤ sizeLine := by
      rcases hq with ⟨o, h, ho⟩ | ⟨o, its, m, h1, h2, h3, h4, h5⟩
      · obtain ⟨e1, hz, its, rv, o', e2, _, m, e3⟩ := (show ObjOk X.prog X.w H s.heap a (.frz o (.tup (ps.map V.ref))) from I.hok a _ h)
        rw [e1] at e2; cases e2
        exact ⟨o, its, m, e1, ho, e3, rv, by simpa using hz⟩
      · refine ⟨o, its.toList, m, I.kIn a o h1, h2, by simpa using h3, h5, ?_⟩
        have := h5.length
        simp at this
        omega
    obtain ⟨o, its, m, ho, to, hdat, rv, hz⟩ := told
    have ei := refs_at rv
    subst ei
    exact PySem.call_dict_pairsH (knd := tupleKind (mixKind X.prog X.w)) (ps := prs) (PySem.PairArg.tuple (prog := X.prog) (w := X.w) a (ps.map Value.ref).toArray (fun j => ps.getD j 0) uvs) (I.ok.hd hcalm) room ⟨⟨o, m, ho, to.1, to.2.1, hdat⟩, items _ rv⟩ have' stay (by rw [hl']; exact hz) fin
theorem parT_rp {K : PySem.W.Frag} {F H : Hp} (sm : Same F H) : ∀ {vs : List V} {ds : List Dt} {kvs : Kt}, RpAll K F vs ds → parT ds = some kvs → ∃ (ps : List Addr) (vk : List (List Key × Addr × V)), vs = ps.map V.ref ∧ Paired (fun p kv => SqT K H p [.ref kv.2.1, kv.2.2] ∧ TuA K H kv.2.1 (kv.1.map kV)) ps vk ∧
    Paired (fun (kv : List Key × Dt) (x : List Key × Addr × V) => kv.1 = x.1 ∧ TuA K F x.2.1 (x.1.map kV) ∧ Rp K F x.2.2 kv.2) kvs vk
  | _, [], kvs, h, e => by cases h; cases e; exact ⟨[], [], rfl, .nil, .nil⟩
  | _, d :: ds, kvs, h, e => by
    unfold parT at e
    split at e
    · rename_i heq; cases heq
    · rename_i k d' r heq
      cases heq
      obtain ⟨kk, e0, e⟩ := Option.bind_eq_some_iff.mp e
      obtain ⟨l, e1, e2⟩ := Option.map_eq_some_iff.mp e
      subst e2
      cases h with
      | cons h1 h2 =>
        obtain ⟨ps, vk, a1, a2, a3⟩ := parT_rp sm h2 e1
        cases h1 with
        | @tup a xs _ t r =>
          cases r with
          | @cons v1 vs1 _ _ r1 r2 =>
            cases r2 with
            | @cons v2 vs2 _ _ r2 r3 =>
              cases r3
              obtain ⟨b, rfl, hb⟩ := rp_keyT r1 e0
              exact ⟨a :: ps, (kk, b, v2) :: vk, by rw [a1]; rfl, .cons ⟨(seqT_same sm t).sq, seqT_same sm hb⟩ a2, .cons ⟨rfl, hb, r2⟩ a3⟩
    · cases e
theorem dcR_of {K : PySem.W.Frag} {F : Hp} : ∀ {kvs : Kt} {vk : List (List Key × Addr × V)} {prs : List (List Key × Addr × Value)}, Paired (fun (kv : List Key × Dt) (x : List Key × Addr × V) => kv.1 = x.1 ∧ TuA K F x.2.1 (x.1.map kV) ∧ Rp K F x.2.2 kv.2) kvs vk →
    Paired (fun (kv : List Key × Addr × V) (q : List Key × Addr × Value) => kv.1 = q.1 ∧ kv.2.1 = q.2.1 ∧ RelV kv.2.2 q.2.2) vk prs → DcR K F kvs prs
  | _, _, _, .nil, .nil => .nil
  | _, _, _, .cons a t, .cons b u => .cons ⟨a.1.trans b.1, by rw [← b.1, ← b.2.1]; exact a.2.1, _, b.2.2, a.2.2⟩ (dcR_of t u)
def dctOf : Dt → Option Kt
  | .list ds => parT ds
  | .tuple ds => parT ds
  | _ => none
def kDctX (P : Program) (w : World) (t : DTa) : DT := fun env Q => t env fun evs env1 => wr (rsL env1 evs) fun ds => one ds fun d => wr (dctOf d) fun kvs => Q (.new (dct P w (mgT [] kvs))) env1
theorem de_dctX {e : Expr} {p : Pos} {t : DTa} (hc : X.calm = true) (hu : X.A.units + 2 < cLine) (hg : Gl X "dict") (hm : X.mg "dict" = none) (ha : DA X [e] t)
    (he : starEach [e] X.env = [(false, eval e X.env)] := by rfl) : DE X (.Call (.Name "dict" p) [e] [] pos) (kDctX X.prog X.w t) := by
  refine ⟨fun env Q Q' i q => ha.mono _ _ _ (fun evs env1 q => wr_mono (fun ds q => one_mono (fun d q => wr_mono (fun xs q => i _ _ q) q) q) q) q, (pe_callTy (call_dictX hc hu) hg hm (by decide +kernel) ha.run (by decide) (by decide) he (by rfl)).mono fun σ H Q => ?_⟩
  rintro ⟨F, env, R, q⟩
  refine ⟨F, env, R, ha.mono _ _ _ (fun evs env1 h1 F1 H1 vs E1 R1 V1 => ?_) q⟩
  obtain ⟨ds, e1, h2⟩ := wr_get h1
  obtain ⟨d, rfl, h2⟩ := one_get h2
  obtain ⟨kvs, e2, h2⟩ := wr_get h2
  have tv := tpA_of R1 V1 e1
  have fin : ∀ (vk : List (List Key × Addr × V)) (l : Addr) (prs : List (List Key × Addr × Value)), Paired (fun (kv : List Key × Dt) (x : List Key × Addr × V) => kv.1 = x.1 ∧ TuA X.K F1 x.2.1 (x.1.map kV) ∧ Rp X.K F1 x.2.2 kv.2) kvs vk → H1 l = none →
      Paired (fun (kv : List Key × Addr × V) (q : List Key × Addr × Value) => kv.1 = q.1 ∧ kv.2.1 = q.2.1 ∧ RelV kv.2.2 q.2.2) vk prs → Q (.ref l) (upd H1 l (DctO X.prog X.w l (storedAllH [] prs))) := fun vk l prs r hl r2 => by
    obtain ⟨R2, E2⟩ := R1.growN hl (DctO X.prog X.w l (storedAllH [] prs)) nt_dct.1
    exact h2 F1 _ (.ref l) (E1.trans E2) R2 ⟨l, rfl, R1.fnone hl, ⟨_, F1, upd_same, nt_dct, Same.refl _, _, rfl, DcR.merge (dcR_of r r2) .nil⟩, R1.not_ow hl, none_back E1 hl⟩
  cases tv with
  | cons h t =>
    cases t
    cases h with
    | lst h r =>
      obtain ⟨ps, vk, a1, a2, a3⟩ := parT_rp R1.sub r e2
      subst a1
      exact ⟨_, ps, vk, rfl, .inl h, a2, fun l prs hl r2 => fin vk l prs a3 hl r2⟩
    | tup h r =>
      obtain ⟨ps, vk, a1, a2, a3⟩ := parT_rp R1.sub r e2
      subst a1
      exact ⟨_, ps, vk, rfl, .inr (seqT_same R1.sub h), a2, fun l prs hl r2 => fin vk l prs a3 hl r2⟩
    | _ => cases e2
end
open PySem PySem.Spec L2
section
variable {X : Cx} {pos : Pos} {n : Nat}
/-- s[a:b] of a text -/
def kSlS (te : DT) (tl th : DTo) : DT := fun env Q => te env fun ev env1 => tl env1 fun l env2 => th env2 fun h env3 => wr ((rs env3 ev).bind strK) fun z => z.length ≤ sizeLine ∧ Q (.dat (.str (cutS z l h))) env3
theorem de_slS {e : Expr} {lo hi : Option Expr} {te : DT} {tl th : DTo} {p2 : Pos} (he : DE X e te) (hl : DO X lo tl) (hh : DO X hi th) : DE X (.Subscript e (.Slice lo hi none p2) pos) (kSlS te tl th) := by
  refine ⟨fun env Q Q' i q => he.mono _ _ _ (fun ev env1 q => hl.mono _ _ _ (fun l env2 q => hh.mono _ _ _ (fun h env3 q => wr_mono (fun z q => ⟨q.1, i _ _ q.2⟩) q) q) q) q, (pe_slice sl_str he.run hl.run hh.run).mono fun σ H Q => ?_⟩
  rintro ⟨F, env, R, q⟩
  refine ⟨F, env, R, he.mono _ _ _ (fun ev env1 q F1 H1 x E1 R1 V1 => ⟨F1, env1, R1, hl.mono _ _ _ (fun l env2 q F2 H2 E2 R2 => ⟨F2, env2, R2, hh.mono _ _ _ (fun h env3 q F3 H3 E3 R3 => ?_) q⟩) q⟩) q⟩
  obtain ⟨z, e1, hz, q⟩ := wr_get q
  obtain ⟨d, e2, e3⟩ := Option.bind_eq_some_iff.mp e1
  have ey := rp_str (tp_of R3 ((V1.move E2).move E3) e2) e3
  subst ey
  exact ⟨z, rfl, hz, q F3 H3 _ ((E1.trans E2).trans E3) R3 (.str _)⟩
/-- the signs of a text -/
def signs (z : Str) : List Str := z.cps.toList.map fun c => ⟨#[c]⟩
def toTupSD : List Dt → Option Dt
  | [.str z] => if z.cps.size ≤ sizeLine then some (.tuple ((signs z).map PyData.str)) else none
  | _ => none
def rToTupS : List V → Hp → VK → Prop := fun xs H Q => ∃ z, xs = [.str z] ∧ z.cps.size ≤ sizeLine ∧ ∀ l o, H l = none → TObj o → Q (.ref l) (upd H l (.frz o (.tup ((signs z).map V.str))))
theorem signs_vals {z : Str} {acc : Array Value} (h : ItemsOf (SignAt z) acc z.cps.size) : Vals ((signs z).map V.str) acc.toList := by
  have key : ∀ (l : List Nat) (vs : List Value), l.length = vs.length → (∀ (j : Nat) (v : Value), vs[j]? = some v → ∃ (c : Nat) (u : Tok), l[j]? = some c ∧ v = Value.str ⟨#[c]⟩ u) → Vals ((l.map fun c => (⟨#[c]⟩ : Str)).map V.str) vs := by
    intro l
    induction l with
    | nil => intro vs hl _; cases vs with
      | nil => exact .nil
      | cons _ _ => cases hl
    | cons c l ih => intro vs hl hp; cases vs with
      | nil => cases hl
      | cons v vs =>
        obtain ⟨c', u, e1, e2⟩ := hp 0 v rfl
        simp at e1
        subst e1 e2
        exact .cons ⟨u, rfl⟩ (ih vs (by simpa using hl) fun j v e => by simpa using hp (j + 1) v (by simpa using e))
  refine key z.cps.toList acc.toList (by simp [h.1]) fun j v e => ?_
  obtain ⟨c, u, e1, e2⟩ := h.2 j v (by simpa using e)
  exact ⟨c, u, by simpa using e1, e2⟩
theorem call_toTupS (hc : X.calm = true) : CallR X (.type "tuple") rToTupS := by
  intro pins s σ H xs us Q I r h
  obtain ⟨z, rfl, hz, q⟩ := h
  obtain ⟨u, rfl, rx⟩ := vals1 r
  obtain ⟨t, rfl⟩ := rx
  refine call_tuple_str (I.ok.hd hc) z t (fun h' tk acc kp hi => ?_) hz
  have I1 : Inv X pins σ H { s with heap := h', toks := tk } := I.kept (t' := tk) kp
  have := lay_tup I1 (signs_vals hi) (by simp [signs]; exact hz) q
  simpa using this
theorem rp_signs {K : PySem.W.Frag} {F : Hp} : ∀ (l : List Str), RpAll K F (l.map V.str) (l.map PyData.str)
  | [] => .nil
  | x :: l => .cons (.str x) (rp_signs l)
theorem lk_toTupS : LkC X.K rToTupS toTupSD := by
  intro F H vs ds d Q sm tv e q
  unfold toTupSD at e
  split at e
  · split at e
    · rename_i hz
      cases tv with
      | cons h t =>
        cases t
        cases h
        cases e
        exact ⟨_, rfl, hz, fun l o hl ho => q _ _ (.tup hl ho (rp_signs _))⟩
    · cases e
  · cases e
end
end Dx
namespace Fx
open PySem L2 Dx
section
variable {α β γ σ : Type} {E : XP} {env : Dn} {κ : γ → Kd} {P : Program} {w : World}
variable {ta tb te tk td tv : DT} {ma mb me mk mv : Tr Dt} {tz : DTa} {n : Nat} {t u : DTS} {m : Tr γ} {md : Tr Kt}
theorem hv2 {n : Nat} (h : n + 150 < cLine) : n + 2 < cLine := by omega
def dctT (a : Tr Dt) : Tr Kt := bnd a fun d => bnd (lift (dctOf d)) fun kvs => ret (mgT [] kvs)
theorem se_dct (h : SR E te env me) : SE E (kDctX P w (kCons te kNil)) env (dctT me) (fun kvs => .new (dct P w kvs)) (fun _ => env) := fun Q w =>
  h _ (Tr.post w fun d w ev e => by
    show wr (rsL env [ev]) _
    simp only [rsL, e]
    exact w)
def xg1T (a : Tr Kt) (b : Tr Dt) : Tr Dt := bnd a fun kvs => bnd b fun k => bnd (lift (keyT k)) fun k => ret ((gtT kvs k).getD .none)
theorem sd_xg1 (hd : SE E td env md (fun kvs => .new (dct P w kvs)) (fun _ => env)) (hk : SR E tk env mk) : SD E (kXg1 P w td tk) env (xg1T md mk) := fun Q w =>
  hd _ (Tr.post w fun kvs w => ⟨kvs, rfl, hk _ (Tr.post w fun k w ev e => by
    rw [e]
    obtain ⟨s, es, w'⟩ := wr_get w
    exact wr_of es w')⟩)
def xixT (kvs : Kt) (a : Tr Dt) : Tr Dt := bnd a fun k => bnd (lift (keyT k)) fun k => lift (gtT kvs k)
theorem sd_xix {i : Nat} {kvs : Kt} (hx : env[i]? = some (some (.obj (dct P w kvs)))) (hk : SR E tk env mk) : SD E (kXix P w i tk) env (xixT kvs mk) := fun Q w =>
  ⟨kvs, hx, hk _ (Tr.post w fun k w ev e => ⟨kvs, hx, by
    rw [e]
    obtain ⟨s, es, w'⟩ := wr_get w
    exact wr_of es w'⟩)⟩
def xinT (f : Bool → Bool) (kvs : Kt) (a : Tr Dt) : Tr Bool := bnd a fun k => bnd (lift (keyT k)) fun k => ret (f (gtT kvs k).isSome)
theorem sb_xin {i : Nat} {f : Bool → Bool} {kvs : Kt} (hx : env[i]? = some (some (.obj (dct P w kvs)))) (hk : SR E tk env mk) : SB E (kXin P w f tk i) env (xinT f kvs mk) := fun Q w =>
  hk _ (Tr.post w fun k w ev e => ⟨kvs, hx, by
    rw [e]
    obtain ⟨s, es, w'⟩ := wr_get w
    exact wr_of es w'⟩)
def slST (a : Tr Dt) (l h : Tr (Option Int)) : Tr Dt := bnd a fun d => bnd l fun x => bnd h fun y => bnd (lift (strK d)) fun z => need (z.length ≤ sizeLine) (ret (.str (cutS z x y)))
theorem sd_slS {t1 t2 : DTo} {m1 m2 : Tr (Option Int)} (h : SR E te env me) (h1 : SO E t1 env m1) (h2 : SO E t2 env m2) : SD E (kSlS te t1 t2) env (slST me m1 m2) := fun Q w =>
  h _ (Tr.post w fun d w ev e => h1 _ (Tr.post w fun x w => h2 _ (Tr.post w fun y w => by
    rw [e]
    obtain ⟨z, ez, w'⟩ := wr_get w
    exact wr_of ez w')))
theorem w_slST {a : Tr Dt} {l h : Tr (Option Int)} {Q : Dt → Prop} : (slST a l h).wp Q E = a.wp (fun d => l.wp (fun x => h.wp (fun y => wr (strK d) fun z => z.length ≤ sizeLine ∧ Q (.str (cutS z x y))) E) E) E := rfl
instance i_w_slST {a : Tr Dt} {l h : Tr (Option Int)} {Q : Dt → Prop} : Sw ((slST a l h).wp Q E) (a.wp (fun d => l.wp (fun x => h.wp (fun y => wr (strK d) fun z => z.length ≤ sizeLine ∧ Q (.str (cutS z x y))) E) E) E) := ⟨fun h => (Iff.of_eq w_slST).mpr h⟩
theorem w_dctT {a : Tr Dt} {Q : Kt → Prop} : (dctT a).wp Q E = a.wp (fun d => wr (dctOf d) fun kvs => Q (mgT [] kvs)) E := rfl
theorem w_xg1T {a : Tr Kt} {b : Tr Dt} {Q : Dt → Prop} : (xg1T a b).wp Q E = a.wp (fun kvs => b.wp (fun k => wr (keyT k) fun k => Q ((gtT kvs k).getD .none)) E) E := rfl
theorem w_xixT {kvs : Kt} {a : Tr Dt} {Q : Dt → Prop} : (xixT kvs a).wp Q E = a.wp (fun k => wr (keyT k) fun k => wr (gtT kvs k) Q) E := rfl
theorem w_xinT {f : Bool → Bool} {kvs : Kt} {a : Tr Dt} {Q : Bool → Prop} : (xinT f kvs a).wp Q E = a.wp (fun k => wr (keyT k) fun k => Q (f (gtT kvs k).isSome)) E := rfl
instance i_w_dctT {a : Tr Dt} {Q : Kt → Prop} : Sw ((dctT a).wp Q E) (a.wp (fun d => wr (dctOf d) fun kvs => Q (mgT [] kvs)) E) := ⟨fun h => (Iff.of_eq w_dctT).mpr h⟩
instance i_w_xg1T {a : Tr Kt} {b : Tr Dt} {Q : Dt → Prop} : Sw ((xg1T a b).wp Q E) (a.wp (fun kvs => b.wp (fun k => wr (keyT k) fun k => Q ((gtT kvs k).getD .none)) E) E) := ⟨fun h => (Iff.of_eq w_xg1T).mpr h⟩
instance i_w_xixT {kvs : Kt} {a : Tr Dt} {Q : Dt → Prop} : Sw ((xixT kvs a).wp Q E) (a.wp (fun k => wr (keyT k) fun k => wr (gtT kvs k) Q) E) := ⟨fun h => (Iff.of_eq w_xixT).mpr h⟩
instance i_w_xinT {f : Bool → Bool} {kvs : Kt} {a : Tr Dt} {Q : Bool → Prop} : Sw ((xinT f kvs a).wp Q E) (a.wp (fun k => wr (keyT k) fun k => Q (f (gtT kvs k).isSome)) E) := ⟨fun h => (Iff.of_eq w_xinT).mpr h⟩
end
end Fx
namespace Zl
open PySem
open Sem (wp)
open PySem.W (kdx_alive)
theorem zip_no_len : typeLookup (.type "zip") "__len__" = pure none := by rw [typeLookup_type, builtinLookup_eq_fast]; kernel_rfl
theorem zip_no_hint : typeLookup (.type "zip") "__length_hint__" = pure none := by rw [typeLookup_type, builtinLookup_eq_fast]; kernel_rfl
section
variable {prog : Program} {w : World} {A : Around} {E : Value → Shared → Prop} {s : Shared} {z TI TO T i1 i2 : Addr} {f : Bool} {oT : Obj} {fp1 fp2 : List Addr} {n1 n2 i : Nat} {P1 P2 : Nat → Value → Prop} {St1 St2 : Nat → Heap → Prop} {a1 a2 : Value}
theorem held_item {Q : Value → Shared → Prop} (S : ZipSep2 z TI TO i1 i2 fp1 fp2) (D1 : Draws prog w A i1 fp1 n1 P1 St1) (D2 : Draws prog w A i2 fp2 n2 P2 St2)
    (hz : IsZipHeld s.heap z TI TO T f) (hT : s.heap.get? T = some oT) (hTI : IsTupOf2 s.heap TI (.ref i1) (.ref i2)) (st1 : St1 i s.heap) (st2 : St2 i s.heap) (hlt1 : i < n1) (hlt2 : i < n2)
    (hQ : ∀ x1 x2 h' tk, P1 i x1 → P2 i x2 → IsZipHeld h' z TI TO T true → St1 (i + 1) h' → St2 (i + 1) h' → IsTupOf2 h' s.heap.objs.size x1 x2 → h'.objs.size = s.heap.objs.size + 1 →
      (∀ c o, c ≠ z → c ≠ i1 → c ≠ i2 → s.heap.get? c = some o → h'.get? c = some o) → Q (.ref s.heap.objs.size) { s with heap := h', toks := tk }) :
    wpAny (model prog w) A (Builtin.«zip.__next__» ⟨[.ref z], []⟩) (fun fin s' => ∃ v, fin = .done (.ret v) ∧ Q v s') E s := by
  obtain ⟨hp, g, d, tk0, os⟩ := s
  show wpAny _ _ (field (.ref z) 2 >>= _) _ _ _
  refine wpAny_bind (wpAny_field hz rfl (x := .bool false) rfl ?_)
  show wpAny _ _ (field (.ref z) 3 >>= _) _ _ _
  refine wpAny_bind (wpAny_field hz rfl (x := .ref TI) rfl ?_)
  refine wpAny_bind (wpAny_seqItems hTI rfl ?_)
  show wpAny _ _ (Builtin.SmallTypes.ownedTupleIsFree (.ref z) >>= _) _ _ _
  refine wpAny_bind (wpAny_tupleHeld_zip hz hT fun h₁ hz₁ hs₁ => ?_)
  replace hs₁ : Heap.SameBut z hp h₁ := hs₁
  simp only [Bool.false_eq_true, if_false]
  refine wpAny_bind ?_
  rw [← Array.forIn_toList]
  simp only [List.forIn_cons, List.forIn_nil]
  refine wpAny_bind (wpAny_bind (wpAny_holding ?_))
  show wpAny _ _ (Builtin.SmallTypes.nextOf (.ref i1) >>= _) _ _ ⟨h₁, g, d, tk0, os⟩
  refine wpAny_bind (D1.item i _ _ _ hlt1 (D1.over st1 hs₁ S.zf1) fun x1 p1 tk1 hx1 sn1 hp1 => wpAny_pure ?_)
  replace hp1 : Heap.SameBut i1 h₁ p1 := hp1
  refine wpAny_pure ?_
  refine wpAny_bind (wpAny_bind (wpAny_holding ?_))
  show wpAny _ _ (Builtin.SmallTypes.nextOf (.ref i2) >>= _) _ _ ⟨p1, g, d, tk1, os⟩
  refine wpAny_bind (D2.item i _ _ _ hlt2 (D2.over (D2.over st2 hs₁ S.zf2) hp1 S.sep1_2) fun x2 p2 tk2 hx2 sn2 hp2 => wpAny_pure ?_)
  replace hp2 : Heap.SameBut i2 p1 p2 := hp2
  refine wpAny_pure (wpAny_pure ?_)
  show wpAny _ _ (newTuple [x1, x2] >>= _) _ _ ⟨p2, g, d, tk2, os⟩
  refine wpAny_bind (wpAny_newTuple ?_)
  have hsz : p2.objs.size = hp.objs.size := by rw [hp2.1, hp1.1, hs₁.1]
  have hz₃ : IsZipHeld p2 z TI TO T true := hp2.extBut _ _ S.zi2 (hp1.extBut _ _ S.zi1 hz₁)
  have hk : ∀ c o, c ≠ z → c ≠ i1 → c ≠ i2 → hp.get? c = some o → p2.get? c = some o := fun c o c1 c2 c3 e => hp2.extBut _ _ c3 (hp1.extBut _ _ c2 (hs₁.extBut _ _ c1 e))
  have hj1 : St1 (i + 1) p2 := D1.over sn1 hp2 S.sep2_1
  refine wpAny_pure ⟨_, rfl, ?_⟩
  show Q (.ref p2.objs.size) ⟨p2.push { cls := .type "tuple", data := .seq #[x1, x2] }, g, d, tk2, os⟩
  have ht : IsTupOf2 (p2.push { cls := .type "tuple", data := .seq #[x1, x2] }) p2.objs.size x1 x2 := Heap.get?_push_size _ rfl
  have hz4 : (p2.push { cls := .type "tuple", data := .seq #[x1, x2] }).objs.size = p2.objs.size + 1 := Heap.size_push ..
  rw [hsz] at ht hz4 ⊢
  exact hQ x1 x2 _ tk2 hx1 hx2 (Heap.get?_push_of_some _ hz₃) (D1.frame _ _ _ hj1 fun b _ o e => Heap.get?_push_of_some _ e) (D2.frame _ _ _ sn2 fun b _ o e => Heap.get?_push_of_some _ e) ht hz4 fun c o c1 c2 c3 e => Heap.get?_push_of_some _ (hk c o c1 c2 c3 e)
theorem held_end {Q : Fin → Shared → Prop} (S : ZipSep2 z TI TO i1 i2 fp1 fp2) (D1 : Draws prog w A i1 fp1 n1 P1 St1) (D2 : Draws prog w A i2 fp2 n2 P2 St2)
    (hz : IsZipHeld s.heap z TI TO T f) (hT : s.heap.get? T = some oT) (hTI : IsTupOf2 s.heap TI (.ref i1) (.ref i2)) (st1 : St1 i s.heap) (st2 : St2 i s.heap) (hle1 : i ≤ n1) (hle2 : i ≤ n2) (hend : i = n1 ∨ i = n2)
    (hE : ∀ h' tk e, (∀ c o, c ≠ z → c ≠ i1 → c ≠ i2 → s.heap.get? c = some o → h'.get? c = some o) → (∃ o, h'.get? e = some o ∧ o.cls = .type "StopIteration") → E (.ref e) { s with heap := h', toks := tk }) :
    wpAny (model prog w) A (Builtin.«zip.__next__» ⟨[.ref z], []⟩) Q E s := by
  obtain ⟨hp, g, d, tk0, os⟩ := s
  show wpAny _ _ (field (.ref z) 2 >>= _) _ _ _
  refine wpAny_bind (wpAny_field hz rfl (x := .bool false) rfl ?_)
  show wpAny _ _ (field (.ref z) 3 >>= _) _ _ _
  refine wpAny_bind (wpAny_field hz rfl (x := .ref TI) rfl ?_)
  refine wpAny_bind (wpAny_seqItems hTI rfl ?_)
  show wpAny _ _ (Builtin.SmallTypes.ownedTupleIsFree (.ref z) >>= _) _ _ _
  refine wpAny_bind (wpAny_tupleHeld_zip hz hT fun h₁ hz₁ hs₁ => ?_)
  replace hs₁ : Heap.SameBut z hp h₁ := hs₁
  simp only [Bool.false_eq_true, if_false]
  refine wpAny_bind ?_
  rw [← Array.forIn_toList]
  simp only [List.forIn_cons, List.forIn_nil]
  refine wpAny_bind (wpAny_bind (wpAny_holding ?_))
  show wpAny _ _ (Builtin.SmallTypes.nextOf (.ref i1) >>= _) _ _ ⟨h₁, g, d, tk0, os⟩
  by_cases hlt1 : i < n1
  · refine wpAny_bind (D1.item i _ _ _ hlt1 (D1.over st1 hs₁ S.zf1) fun x1 p1 tk1 hx1 sn1 hp1 => wpAny_pure ?_)
    replace hp1 : Heap.SameBut i1 h₁ p1 := hp1
    refine wpAny_pure ?_
    refine wpAny_bind (wpAny_bind (wpAny_holding ?_))
    show wpAny _ _ (Builtin.SmallTypes.nextOf (.ref i2) >>= _) _ _ ⟨p1, g, d, tk1, os⟩
    have hi2 : i = n2 := by omega
    refine wpAny_bind (D2.done ⟨p1, g, d, tk1, os⟩ _ _ (by rw [← hi2]; exact D2.over (D2.over st2 hs₁ S.zf2) hp1 S.sep1_2) fun q e hq he => ?_)
    replace hq : Heap.ExtBut i2 p1 q := hq
    exact hE q tk1 e (fun c o cz c1 c2 x => hq _ _ c2 (hp1.extBut _ _ c1 (hs₁.extBut _ _ cz x))) he
  · have hi1 : i = n1 := by omega
    refine wpAny_bind (D1.done ⟨h₁, g, d, tk0, os⟩ _ _ (by rw [← hi1]; exact D1.over st1 hs₁ S.zf1) fun q e hq he => ?_)
    replace hq : Heap.ExtBut i1 h₁ q := hq
    exact hE q tk0 e (fun c o cz c1 c2 x => hq _ _ c1 (hs₁.extBut _ _ cz x)) he
theorem pyNext_item {Q : Option Value → Shared → Prop} (S : ZipSep2 z TI TO i1 i2 fp1 fp2) (D1 : Draws prog w A.in1 i1 fp1 n1 P1 St1) (D2 : Draws prog w A.in1 i2 fp2 n2 P2 St2)
    (hz : IsZipHeld s.heap z TI TO T f) (hT : s.heap.get? T = some oT) (hTI : IsTupOf2 s.heap TI (.ref i1) (.ref i2)) (st1 : St1 i s.heap) (st2 : St2 i s.heap) (hlt1 : i < n1) (hlt2 : i < n2)
    (hQ : ∀ x1 x2 h' tk, P1 i x1 → P2 i x2 → IsZipHeld h' z TI TO T true → St1 (i + 1) h' → St2 (i + 1) h' → IsTupOf2 h' s.heap.objs.size x1 x2 → h'.objs.size = s.heap.objs.size + 1 →
      (∀ c o, c ≠ z → c ≠ i1 → c ≠ i2 → s.heap.get? c = some o → h'.get? c = some o) → Q (some (.ref s.heap.objs.size)) { s with heap := h', toks := tk }) :
    wpAny (model prog w) A (pyNext (.ref z)) Q E s := by
  have hTy : s.TypeIs (.ref z) "zip" := ⟨_, hz, rfl⟩
  unfold pyNext
  exact wpAny_bind (wpAny_attempt (wpAny_callSpecial?_slot (name := Str.ofString "__next__") hTy F.slot_zip_next
    (wpAny_call_entry F.slot_zip_next hTy F.entry_zip_next
      (held_item S D1 D2 hz hT hTI st1 st2 hlt1 hlt2 fun x1 x2 h' tk y1 y2 b1 d1 d2 b5 b6 b7 => wpAny_pure (hQ x1 x2 h' tk y1 y2 b1 d1 d2 b5 b6 b7)) (F.args_zip_next_1 _))))
theorem pyNext_end {Q : Option Value → Shared → Prop} (S : ZipSep2 z TI TO i1 i2 fp1 fp2) (D1 : Draws prog w A.in1 i1 fp1 n1 P1 St1) (D2 : Draws prog w A.in1 i2 fp2 n2 P2 St2)
    (hz : IsZipHeld s.heap z TI TO T f) (hT : s.heap.get? T = some oT) (hTI : IsTupOf2 s.heap TI (.ref i1) (.ref i2)) (st1 : St1 i s.heap) (st2 : St2 i s.heap) (hle1 : i ≤ n1) (hle2 : i ≤ n2) (hend : i = n1 ∨ i = n2)
    (hQ : ∀ h' tk, (∀ c o, c ≠ z → c ≠ i1 → c ≠ i2 → s.heap.get? c = some o → h'.get? c = some o) → Q none { s with heap := h', toks := tk }) : wpAny (model prog w) A (pyNext (.ref z)) Q E s := by
  have hTy : s.TypeIs (.ref z) "zip" := ⟨_, hz, rfl⟩
  unfold pyNext
  refine wpAny_bind (wpAny_attempt (wpAny_callSpecial?_slot (name := Str.ofString "__next__") hTy F.slot_zip_next
    (wpAny_call_entry F.slot_zip_next hTy F.entry_zip_next (held_end S D1 D2 hz hT hTI st1 st2 hle1 hle2 hend fun h' tk e hk he => ?_) (F.args_zip_next_1 _))))
  obtain ⟨o, ho, hc⟩ := he
  refine wpAny_bind (wpAny_isInstance (T := "StopIteration") (b := true) ⟨o, ho, hc⟩ isSubtype_stop ?_)
  exact wpAny_pure (hQ _ _ hk)
/-- the zip's state: S is the list that grows -/
def ZSt (z TI TO i1 i2 S : Addr) (St1 St2 : Nat → Heap → Prop) (i : Nat) (h : Heap) : Prop := IsTupOf2 h TI (.ref i1) (.ref i2) ∧ St1 i h ∧ St2 i h ∧
  ((IsZip h z TI TO .none ∧ ∃ a1 a2, IsTupOf2 h TO a1 a2) ∨ ∃ T f oT, IsZipHeld h z TI TO T f ∧ h.get? T = some oT ∧ T ≠ z ∧ T ≠ i1 ∧ T ≠ i2 ∧ T ≠ S)
structure Lay (z TI TO i1 i2 S : Addr) (fp1 fp2 : List Addr) : Prop where
  sep : ZipSep2 z TI TO i1 i2 fp1 fp2
  zS : z ≠ S
  TIS : TI ≠ S
  TOS : TO ≠ S
  i1S : i1 ≠ S
  i2S : i2 ≠ S
  f1S : S ∉ fp1
  f2S : S ∉ fp2
theorem ZSt.keep {S : Addr} {h h' : Heap} (x : ZSt z TI TO i1 i2 S St1 St2 i h) (L : Lay z TI TO i1 i2 S fp1 fp2) (D1 : Draws prog w A i1 fp1 n1 P1 St1) (D2 : Draws prog w A i2 fp2 n2 P2 St2) (hk : ∀ b o, b ≠ S → h.get? b = some o → h'.get? b = some o) : ZSt z TI TO i1 i2 S St1 St2 i h' := by
  obtain ⟨hTI, st1, st2, hz⟩ := x
  refine ⟨hk _ _ L.TIS hTI, D1.frame _ _ _ st1 fun b hb o e => hk b o (fun q => L.f1S (q ▸ hb)) e, D2.frame _ _ _ st2 fun b hb o e => hk b o (fun q => L.f2S (q ▸ hb)) e, ?_⟩
  rcases hz with ⟨hz, a1, a2, hTO⟩ | ⟨T, f, oT, hz, hT, r1, r2, r3, r4⟩
  · exact .inl ⟨hk _ _ L.zS hz, a1, a2, hk _ _ L.TOS hTO⟩
  · exact .inr ⟨T, f, oT, hk _ _ L.zS hz, hk _ _ r4 hT, r1, r2, r3, r4⟩
theorem zst_item {S : Addr} {Q : Option Value → Shared → Prop} (L : Lay z TI TO i1 i2 S fp1 fp2) (D1 : Draws prog w A.in1 i1 fp1 n1 P1 St1) (D2 : Draws prog w A.in1 i2 fp2 n2 P2 St2) (st : ZSt z TI TO i1 i2 S St1 St2 i s.heap) (hS : S < s.heap.objs.size) (hlt1 : i < n1) (hlt2 : i < n2)
    (hQ : ∀ x1 x2 h' tk, P1 i x1 → P2 i x2 → ZSt z TI TO i1 i2 S St1 St2 (i + 1) h' → IsTupOf2 h' s.heap.objs.size x1 x2 → h'.objs.size = s.heap.objs.size + 1 →
      (∀ c o, c ≠ z → c ≠ TO → c ≠ i1 → c ≠ i2 → s.heap.get? c = some o → h'.get? c = some o) → Q (some (.ref s.heap.objs.size)) { s with heap := h', toks := tk }) :
    wpAny (model prog w) A (pyNext (.ref z)) Q E s := by
  obtain ⟨hTI, st1, st2, hz⟩ := st
  have lt : ∀ {c o}, s.heap.get? c = some o → s.heap.objs.size ≠ c := fun e => Nat.ne_of_gt (Heap.lt_size e)
  have l1 : s.heap.objs.size ≠ i1 := by obtain ⟨_, e⟩ := D1.live _ _ st1; exact lt e
  have l2 : s.heap.objs.size ≠ i2 := by obtain ⟨_, e⟩ := D2.live _ _ st2; exact lt e
  have D := L.sep
  rcases hz with ⟨hz, a1, a2, hTO⟩ | ⟨T, f, oT, hz, hT, r1, r2, r3, r4⟩
  · refine wpAny_pyNext_zipD2_item D D1 D2 hz hTI hTO st1 st2 hlt1 hlt2 fun x1 x2 h' tk y1 y2 b1 b2 d1 d2 b5 b6 hk => ?_
    exact hQ x1 x2 h' tk y1 y2 ⟨hk _ _ D.TIz D.TITO D.TIi1 D.TIi2 hTI, d1, d2, .inr ⟨s.heap.objs.size, false, _, b1, b5, lt hz, l1, l2, Nat.ne_of_gt hS⟩⟩ b5 b6 hk
  · refine pyNext_item D D1 D2 hz hT hTI st1 st2 hlt1 hlt2 fun x1 x2 h' tk y1 y2 b1 d1 d2 b5 b6 hk => ?_
    exact hQ x1 x2 h' tk y1 y2 ⟨hk _ _ D.TIz D.TIi1 D.TIi2 hTI, d1, d2, .inr ⟨T, true, oT, b1, hk _ _ r1 r2 r3 hT, r1, r2, r3, r4⟩⟩ b5 b6 fun c o c1 _ c2 c3 e => hk c o c1 c2 c3 e
theorem zst_done {S : Addr} {Q : Option Value → Shared → Prop} (L : Lay z TI TO i1 i2 S fp1 fp2) (D1 : Draws prog w A.in1 i1 fp1 n1 P1 St1) (D2 : Draws prog w A.in1 i2 fp2 n2 P2 St2) (st : ZSt z TI TO i1 i2 S St1 St2 i s.heap) (hle1 : i ≤ n1) (hle2 : i ≤ n2) (hend : i = n1 ∨ i = n2)
    (hQ : ∀ h' tk, (∀ c o, c ≠ z → c ≠ TO → c ≠ i1 → c ≠ i2 → s.heap.get? c = some o → h'.get? c = some o) → Q none { s with heap := h', toks := tk }) : wpAny (model prog w) A (pyNext (.ref z)) Q E s := by
  obtain ⟨hTI, st1, st2, hz⟩ := st
  have D := L.sep
  rcases hz with ⟨hz, a1, a2, hTO⟩ | ⟨T, f, oT, hz, hT, r1, r2, r3, r4⟩
  · exact wpAny_pyNext_zipD2_end D D1 D2 hz hTI hTO st1 st2 hle1 hle2 hend hQ
  · exact pyNext_end D D1 D2 hz hT hTI st1 st2 hle1 hle2 hend fun h' tk hk => hQ h' tk fun c o c1 _ c2 c3 e => hk c o c1 c2 c3 e
structure ZG (P1 P2 : Nat → Value → Prop) (lo : Addr) (h : Heap) (as : List Addr) : Prop where
  rise : as.Pairwise (· < ·)
  above : ∀ a ∈ as, lo < a
  pairs : ∀ (j : Nat) (a : Addr), as[j]? = some a → ∃ x1 x2, P1 j x1 ∧ P2 j x2 ∧ IsTupOf2 h a x1 x2
theorem ZG.there {lo : Addr} {h : Heap} {as : List Addr} (g : ZG P1 P2 lo h as) {a : Addr} (ha : a ∈ as) : a < h.objs.size := by
  obtain ⟨j, hj⟩ := List.mem_iff_getElem?.mp ha
  obtain ⟨_, _, _, _, e⟩ := g.pairs j a hj
  exact Heap.lt_size e
end
section
variable {prog : Program} {w : World} {A : Around} {s : Shared} {R : Result → Shared → Prop} {z TI TO i1 i2 : Addr} {fp1 fp2 : List Addr} {n1 n2 : Nat} {P1 P2 : Nat → Value → Prop} {St1 St2 : Nat → Heap → Prop}
theorem zl_loop {S : Addr} (L : Lay z TI TO i1 i2 S fp1 fp2) (low : ∀ b, b = z ∨ b = TO ∨ b = i1 ∨ b = i2 → b < S) (D1 : Draws prog w A.in1.in1 i1 fp1 n1 P1 St1) (D2 : Draws prog w A.in1.in1 i2 fp2 n2 P2 St2) (hn : min n1 n2 ≤ sizeLine) (res : Value) {h₁ : Heap}
    (hR : ∀ h' tk acc c as, (∀ b o, b ≠ S → b ≠ z → b ≠ TO → b ≠ i1 → b ≠ i2 → h₁.get? b = some o → h'.get? b = some o) → h'.get? S = some { cls := .type "list", dict := none, data := .seq acc c, slots := #[] } → as.length = min n1 n2 → ZG P1 P2 S h' as →
      acc.toList = as.map Value.ref → R (.ok (.ret res)) { s with heap := h', toks := tk }) :
    ∀ (k i : Nat) (h : Heap) (tk c : Nat) (acc : Array Value) (as : List Addr), min n1 n2 - i = k → i ≤ min n1 n2 → ZSt z TI TO i1 i2 S St1 St2 i h → (∀ b o, b ≠ S → b ≠ z → b ≠ TO → b ≠ i1 → b ≠ i2 → h₁.get? b = some o → h.get? b = some o) →
      h.get? S = some { cls := .type "list", dict := none, data := .seq acc c, slots := #[] } → acc.toList = as.map Value.ref → as.length = i → ZG P1 P2 S h as →
      codeAny (model prog w) A (.builtin "list.extend.loop" ⟨[.ref S, .ref z, res], []⟩) R { s with heap := h, toks := tk } := by
  have off : ∀ {a : Addr}, S < a → a ≠ z ∧ a ≠ TO ∧ a ≠ i1 ∧ a ≠ i2 := fun {a} ha => ⟨fun e => absurd (low a (.inl e)) (Nat.lt_asymm ha), fun e => absurd (low a (.inr (.inl e))) (Nat.lt_asymm ha), fun e => absurd (low a (.inr (.inr (.inl e)))) (Nat.lt_asymm ha), fun e => absurd (low a (.inr (.inr (.inr e)))) (Nat.lt_asymm ha)⟩
  intro k
  induction k with
  | zero =>
    intro i h tk c acc as hk hi hst hkeep hS hacc hal hG
    have hin : i = min n1 n2 := by omega
    refine codeAny_builtin PySem.F.entry_extend_loop ?_
    rw [Around.under_plainId PySem.F.plain_extend_loop _]
    show wpAny _ A.in1 (pyNext (.ref z) >>= _) _ _ _
    refine wpAny_bind (zst_done (s := { s with heap := h, toks := tk }) (A := A.in1) L D1 D2 hst (by omega) (by omega) (by omega) fun h' tk' he => ?_)
    refine wpAny_pure (hR h' tk' acc c as (fun b o h0 h1 h2 h3 h4 e => he b o h1 h2 h3 h4 (hkeep b o h0 h1 h2 h3 h4 e)) (he S _ L.zS.symm L.TOS.symm L.i1S.symm L.i2S.symm hS) (by omega) ⟨hG.rise, hG.above, fun j a hj => ?_⟩ hacc)
    obtain ⟨x1, x2, e1, e2, e3⟩ := hG.pairs j a hj
    obtain ⟨o1, o2, o3, o4⟩ := off (hG.above a (List.mem_of_getElem? hj))
    exact ⟨x1, x2, e1, e2, he a _ o1 o2 o3 o4 e3⟩
  | succ k ih =>
    intro i h tk c acc as hk hi hst hkeep hS hacc hal hG
    have hlt1 : i < n1 := by omega
    have hlt2 : i < n2 := by omega
    have hsz : acc.size = i := by rw [← Array.length_toList, hacc, List.length_map, hal]
    have hSl : S < h.objs.size := Heap.lt_size hS
    refine codeAny_builtin PySem.F.entry_extend_loop ?_
    rw [Around.under_plainId PySem.F.plain_extend_loop _]
    show wpAny _ A.in1 (pyNext (.ref z) >>= _) _ _ _
    refine wpAny_bind (zst_item (s := { s with heap := h, toks := tk }) (S := S) L D1 D2 hst hSl hlt1 hlt2 fun x1 x2 h' tk' y1 y2 hst' ht hz hkp => ?_)
    dsimp only at ht hz hkp ⊢
    have hS' := hkp S _ L.zS.symm L.TOS.symm L.i1S.symm L.i2S.symm hS
    have up : ∀ b o, b ≠ S → h'.get? b = some o → (h'.update S (Obj.mapSeq (·.push (Value.ref h.objs.size)))).get? b = some o := fun b o hb e => (Heap.get?_update_other _ _ (Ne.symm hb)).trans e
    show wpAny _ A.in1 (updateSeq S (·.push (Value.ref h.objs.size)) >>= _) _ _ _
    refine wpAny_bind ?_
    refine wpAny_updateSeq hS' rfl (wpAny_pure ⟨plainId_quiet PySem.F.plain_extend_loop _, ih (i + 1) _ tk' _ (acc.push (Value.ref h.objs.size)) (as ++ [h.objs.size]) (by omega) (by omega) (hst'.keep L D1 D2 up)
      (fun b o h0 h1 h2 h3 h4 e => up b o h0 (hkp b o h1 h2 h3 h4 (hkeep b o h0 h1 h2 h3 h4 e))) (Heap.get?_update_self _ hS' rfl) (by rw [Array.toList_push, hacc, List.map_append]; rfl) (by rw [List.length_append, hal]; rfl) ⟨?_, ?_, ?_⟩⟩) (by rw [hsz]; omega) (by show (acc.push (Value.ref h.objs.size)).size ≤ sizeLine + 1; rw [Array.size_push, hsz]; omega)
    · refine List.pairwise_append.mpr ⟨hG.rise, List.pairwise_singleton _ _, fun a ha b hb => ?_⟩
      rw [List.mem_singleton.mp hb]
      exact hG.there ha
    · intro a ha
      rcases List.mem_append.mp ha with ha | ha
      · exact hG.above a ha
      · rw [List.mem_singleton.mp ha]; exact hSl
    · intro j b hj
      rcases Nat.lt_trichotomy j as.length with h1 | h1 | h1
      · rw [List.getElem?_append_left h1] at hj
        obtain ⟨x1', x2', e1, e2, e3⟩ := hG.pairs j b hj
        have hb := hG.above b (List.mem_of_getElem? hj)
        obtain ⟨o1, o2, o3, o4⟩ := off hb
        exact ⟨x1', x2', e1, e2, up b _ (Nat.ne_of_gt hb) (hkp b _ o1 o2 o3 o4 e3)⟩
      · subst h1
        have hb : h.objs.size = b := by simpa using hj
        subst hb
        exact ⟨x1, x2, by rw [hal]; exact y1, by rw [hal]; exact y2, up _ _ (Nat.ne_of_gt hSl) ht⟩
      · have hnone : (as ++ [h.objs.size])[j]? = none := List.getElem?_eq_none (by rw [List.length_append, List.length_singleton]; omega)
        rw [hnone] at hj; cases hj
theorem zl_extend {S : Addr} (L : Lay z TI TO i1 i2 S fp1 fp2) (low : ∀ b, b = z ∨ b = TO ∨ b = i1 ∨ b = i2 → b < S) (D1 : Draws prog w A.in1.in1 i1 fp1 n1 P1 St1) (D2 : Draws prog w A.in1.in1 i2 fp2 n2 P2 St2) (hn : min n1 n2 ≤ sizeLine) (res : Value) (c₀ : Nat)
    (hz : IsZip s.heap z TI TO .none) (hTI : IsTupOf2 s.heap TI (.ref i1) (.ref i2)) (hTO : ∃ a1 a2, IsTupOf2 s.heap TO a1 a2) (st1 : St1 0 s.heap) (st2 : St2 0 s.heap) (hS : s.heap.get? S = some { cls := .type "list", data := .seq #[] c₀ })
    (hR : ∀ h' tk acc c as, (∀ b o, b ≠ S → b ≠ z → b ≠ TO → b ≠ i1 → b ≠ i2 → s.heap.get? b = some o → h'.get? b = some o) → h'.get? S = some { cls := .type "list", dict := none, data := .seq acc c, slots := #[] } → as.length = min n1 n2 → ZG P1 P2 S h' as →
      acc.toList = as.map Value.ref → R (.ok (.ret res)) { s with heap := h', toks := tk }) :
    wpAny (model prog w) A.in1 (Builtin.List.listExtendWith (.ref S) (.ref z) res)
      (fun fin s' => match fin with | .done f => R (.ok f) s' | .again c' => c'.quiet = true ∧ codeAny (model prog w) A c' R s') (fun e s' => R (.error e) s') s := by
  have hTy : s.TypeIs (.ref z) "zip" := ⟨_, hz, rfl⟩
  unfold Builtin.List.listExtendWith
  refine wpAny_bind (wpAny_typeOf hTy ?_)
  have h1 : Builtin.List.listSameRef (.ref S) (.ref z) = false := by simp [Builtin.List.listSameRef, L.zS.symm]
  have h2 : (Value.type "zip" == Value.type "list") = false := by decide
  have h3 : (Value.type "zip" == Value.type "tuple") = false := by decide
  simp only [h1, h2, h3, Bool.or_false, Bool.false_eq_true, if_false]
  refine wpAny_bind (wpAny_pyIter_zip hz ?_)
  refine wpAny_bind (wpAny_holding ?_)
  unfold Builtin.List.listLengthHint
  refine wpAny_bind (wpAny_specialOf hTy zip_no_len ?_)
  show wpAny _ A.in1 (specialOf (Value.ref z) (Str.ofString "__length_hint__") >>= _) _ _ _
  refine wpAny_bind (wpAny_specialOf hTy zip_no_hint ?_)
  refine wpAny_pure ?_
  show wpAny _ A.in1 (rule "list.extend.makes-room" >>= fun _ => Builtin.List.listTouch (.ref S) >>= fun _ =>
    again (.builtin "list.extend.loop" ⟨[.ref S, .ref z, res], []⟩)) _ _ _
  refine wpAny_bind (wpAny_rule ?_)
  refine wpAny_bind ?_
  show wpAny _ A.in1 (updateSeq S (·.push .none) >>= fun _ => updateSeq S (·.pop)) _ _ _
  refine wpAny_bind (wpAny_updateSeq hS rfl ?_)
  have hS₂ := Heap.get?_update_self (Obj.mapSeq (·.push Value.none)) hS rfl
  refine wpAny_updateSeq (hz := by seq_fits) hS₂ rfl ?_
  have hS₃ := Heap.get?_update_self (Obj.mapSeq (·.pop)) hS₂ rfl
  have oth : ∀ b o, b ≠ S → s.heap.get? b = some o → ((s.heap.update S (Obj.mapSeq (·.push Value.none))).update S (Obj.mapSeq (·.pop))).get? b = some o :=
    fun b o hb e => (Heap.get?_update_other _ _ (Ne.symm hb)).trans ((Heap.get?_update_other _ _ (Ne.symm hb)).trans e)
  refine wpAny_pure ⟨plainId_quiet F.plain_extend_loop _, zl_loop (s := s) (h₁ := s.heap) L low D1 D2 hn res hR (min n1 n2) 0 _ s.toks _ #[] [] (Nat.sub_zero _) (Nat.zero_le _) ?_ (fun b o hb _ _ _ _ e => oth b o hb e) hS₃ rfl rfl ⟨List.Pairwise.nil, (fun _ ha => nomatch ha), (fun j a hj => by simp at hj)⟩⟩
  exact ZSt.keep (h := s.heap) ⟨hTI, st1, st2, .inl ⟨hz, hTO⟩⟩ L D1 D2 oth
theorem zl_init {S : Addr} (L : Lay z TI TO i1 i2 S fp1 fp2) (low : ∀ b, b = z ∨ b = TO ∨ b = i1 ∨ b = i2 → b < S) (D1 : Draws prog w A.in1.in1 i1 fp1 n1 P1 St1) (D2 : Draws prog w A.in1.in1 i2 fp2 n2 P2 St2) (hn : min n1 n2 ≤ sizeLine)
    (hz : IsZip s.heap z TI TO .none) (hTI : IsTupOf2 s.heap TI (.ref i1) (.ref i2)) (hTO : ∃ a1 a2, IsTupOf2 s.heap TO a1 a2) (st1 : St1 0 s.heap) (st2 : St2 0 s.heap) (hS : s.heap.get? S = some { cls := .type "list", data := .seq #[] })
    (hR : ∀ h' tk acc c as, (∀ b o, b ≠ S → b ≠ z → b ≠ TO → b ≠ i1 → b ≠ i2 → s.heap.get? b = some o → h'.get? b = some o) → h'.get? S = some { cls := .type "list", dict := none, data := .seq acc c, slots := #[] } → as.length = min n1 n2 → ZG P1 P2 S h' as →
      acc.toList = as.map Value.ref → R (.ok (.ret .none)) { s with heap := h', toks := tk }) :
    wpAny (model prog w) A.in1 (Builtin.«list.__init__» ⟨[.ref S, .ref z], []⟩)
      (fun fin s' => match fin with | .done f => R (.ok f) s' | .again c' => c'.quiet = true ∧ codeAny (model prog w) A c' R s') (fun e s' => R (.error e) s') s := by
  show wpAny _ A.in1 (do let old ← Builtin.List.listItems (.ref S); Builtin.List.listUpdate (.ref S) (fun _ => #[]); letGo old.toList.reverse; Builtin.List.listExtendWith (.ref S) (.ref z) .none) _ _ s
  refine wpAny_bind ?_
  unfold Builtin.List.listItems
  refine wpAny_bind (wpAny_seqItems hS rfl (wpAny_pure ?_))
  show wpAny _ A.in1 (updateSeq S (fun _ => #[]) >>= fun _ => letGo (#[] : Array Value).toList.reverse >>= fun _ => Builtin.List.listExtendWith (.ref S) (.ref z) .none) _ _ s
  refine wpAny_bind (wpAny_updateSeq hS rfl ?_)
  have hS₂ := Heap.get?_update_self (Obj.mapSeq (fun _ => (#[] : Array Value))) hS rfl
  have oth : ∀ b o, b ≠ S → s.heap.get? b = some o → (s.heap.update S (Obj.mapSeq (fun _ => (#[] : Array Value)))).get? b = some o :=
    fun b o hb e => (Heap.get?_update_other _ _ (Ne.symm hb)).trans e
  refine wpAny_bind (wpAny_letGo ?_)
  obtain ⟨a1, a2, hTO⟩ := hTO
  refine zl_extend L low D1 D2 hn .none _ (oth _ _ L.zS hz) (oth _ _ L.TIS hTI) ⟨a1, a2, oth _ _ L.TOS hTO⟩ (D1.frame _ _ _ st1 fun b hb o e => oth b o (fun q => L.f1S (q ▸ hb)) e) (D2.frame _ _ _ st2 fun b hb o e => oth b o (fun q => L.f2S (q ▸ hb)) e) hS₂ fun h' tk acc c as hk hS' hl hG hacc => ?_
  exact hR h' tk acc c as (fun b o h0 h1 h2 h3 h4 e => hk b o h0 h1 h2 h3 h4 (oth b o h0 e)) hS' hl hG hacc
end
section
variable {prog : Program} {w : World} {A : Around} {E : Value → Shared → Prop} {s : Shared} {z TI TO i1 i2 : Addr} {fp1 fp2 : List Addr} {n1 n2 : Nat} {P1 P2 : Nat → Value → Prop} {St1 St2 : Nat → Heap → Prop}
/-- list(z), z a new zip -/
theorem call_list_zip {Q : Value → Shared → Prop} (D : ZipSep2 z TI TO i1 i2 fp1 fp2) (D1 : Draws prog w A.in1.in1.in1 i1 fp1 n1 P1 St1) (D2 : Draws prog w A.in1.in1.in1 i2 fp2 n2 P2 St2) (hn : min n1 n2 ≤ sizeLine)
    (hz : IsZip s.heap z TI TO .none) (hTI : IsTupOf2 s.heap TI (.ref i1) (.ref i2)) (hTO : ∃ a1 a2, IsTupOf2 s.heap TO a1 a2) (st1 : St1 0 s.heap) (st2 : St2 0 s.heap) (hf1 : ∀ b ∈ fp1, b < s.heap.objs.size) (hf2 : ∀ b ∈ fp2, b < s.heap.objs.size)
    (hQ : ∀ h' tk acc c as, (∀ b o, b ≠ s.heap.objs.size → b ≠ z → b ≠ TO → b ≠ i1 → b ≠ i2 → s.heap.get? b = some o → h'.get? b = some o) → h'.get? s.heap.objs.size = some { cls := .type "list", dict := none, data := .seq acc c, slots := #[] } → as.length = min n1 n2 → ZG P1 P2 s.heap.objs.size h' as →
      acc.toList = as.map Value.ref → Q (.ref s.heap.objs.size) { s with heap := h', toks := tk }) :
    wpAny (model prog w) A (call (.type "list") [.ref z]) Q E s := by
  obtain ⟨a1, a2, hTO⟩ := hTO
  have lz := Heap.lt_size hz
  have lT := Heap.lt_size hTI
  have lO := Heap.lt_size hTO
  have l1 := hf1 _ D.mem1
  have l2 := hf2 _ D.mem2
  have L : Lay z TI TO i1 i2 s.heap.objs.size fp1 fp2 := ⟨D, Nat.ne_of_lt lz, Nat.ne_of_lt lT, Nat.ne_of_lt lO, Nat.ne_of_lt l1, Nat.ne_of_lt l2, fun h => Nat.lt_irrefl _ (hf1 _ h), fun h => Nat.lt_irrefl _ (hf2 _ h)⟩
  refine callType_codes (Q₁ := fun obj s₁ => obj = .ref s.heap.objs.size ∧ s₁ = { s with heap := s.heap.push { cls := .type "list", data := .seq #[] } }) F.called_list (F.typeCall_list_1 _) F.entry_list_init
    (code_list_new _ ⟨rfl, rfl⟩) fun obj s₁ h₁ => ?_
  obtain ⟨rfl, rfl⟩ := h₁
  have hS : (s.heap.push { cls := .type "list", data := .seq #[] }).get? s.heap.objs.size = some { cls := .type "list", data := .seq #[] } := Heap.get?_push_size _ rfl
  refine ⟨⟨_, hS, rfl⟩, F.args_list_init_2 _ _, zl_init (s := { s with heap := s.heap.push { cls := .type "list", data := .seq #[] } }) L (fun b hb => by rcases hb with rfl | rfl | rfl | rfl <;> assumption) D1 D2 hn (Heap.get?_push_of_some _ hz) (Heap.get?_push_of_some _ hTI) ⟨a1, a2, Heap.get?_push_of_some _ hTO⟩
    (D1.frame _ _ _ st1 fun b _ o e => Heap.get?_push_of_some _ e) (D2.frame _ _ _ st2 fun b _ o e => Heap.get?_push_of_some _ e) hS fun h' tk acc c as hk hS' hl hG hacc => ?_⟩
  exact ⟨rfl, hQ h' tk acc c as (fun b o h0 h1 h2 h3 h4 e => hk b o h0 h1 h2 h3 h4 (Heap.get?_push_of_some _ e)) hS' hl hG hacc⟩
end
end Zl
namespace Dx
open PySem PySem.Spec L2 Zl
theorem neA {a b : Nat} (h : a < b ∨ b < a) : (show Addr from a) ≠ b := fun e => by
  have e : a = b := e
  omega
theorem ltA {a b : Nat} (h : (show Addr from a) < b) (k : b ≤ a) : False := Nat.lt_irrefl _ (Nat.lt_of_lt_of_le h k)
abbrev Its := List (Addr × Obj × List V)
def putF : Hp → Its → Hp
  | H, [] => H
  | H, t :: l => putF (upd H t.1 (.frz t.2.1 (.tup t.2.2))) l
theorem putF_off {b : Addr} : ∀ (l : Its) (H : Hp), b ∉ l.map (·.1) → putF H l b = H b
  | [], _, _ => rfl
  | t :: l, H, h => by
    simp only [List.map_cons, List.mem_cons, not_or] at h
    show putF (upd H t.1 _) l b = H b
    rw [putF_off l _ h.2, upd_ne h.1]
theorem putF_at : ∀ (l : Its) (H : Hp), (l.map (·.1)).Nodup → ∀ t ∈ l, putF H l t.1 = some (.frz t.2.1 (.tup t.2.2))
  | [], _, _, _, h => by cases h
  | u :: l, H, nd, t, h => by
    simp only [List.map_cons, List.nodup_cons] at nd
    show putF (upd H u.1 _) l t.1 = _
    rcases List.mem_cons.mp h with rfl | h
    · rw [putF_off l _ nd.1, upd_same]
    · exact putF_at l _ nd.2 t h
/-- what an iterable draws, as values -/
def ZD (X : Cx) (u : Value) (us : List V) (s : Shared) : Prop := ∃ (o : Obj) (Hb : Heap → Prop) (more : List Addr) (P : Nat → Value → Prop), Begins u o Hb ∧ Hb s.heap ∧ (∀ b ∈ more, b < s.heap.objs.size) ∧ (∀ j v, P j v → ∃ y, us[j]? = some y ∧ RelV y v) ∧
  ∀ (it : Addr), s.heap.objs.size ≤ it → ∃ St : Nat → Heap → Prop, (∀ A : Around, A.handled = none → Draws X.prog X.w A it (it :: more) us.length P St) ∧ ∀ h' : Heap, (∀ b o', s.heap.get? b = some o' → h'.get? b = some o') → h'.get? it = some o → St 0 h'
theorem zd_str {X : Cx} {s : Shared} (x : Str) (t : Tok) : ZD X (.str x t) ((signs x).map V.str) s := by
  refine ⟨_, _, [], (fun i v => ∃ c u, x.cps[i]? = some c ∧ v = .str ⟨#[c]⟩ u), begins_text x t, trivial, (fun b h => nomatch h), ?_, fun it hit => ⟨(fun i h => h.IsStrIter it (strIterType x) x t i), fun A hh => ?_, fun h' hk e => ?_⟩⟩
  rotate_left
  · have := Draws.text (prog := X.prog) (w := X.w) hh it x t
    rw [show ((signs x).map V.str).length = x.cps.size by simp [signs]]
    exact this
  · exact ⟨_, e, rfl, rfl⟩
  · rintro j v ⟨c, u, e, rfl⟩
    exact ⟨.str ⟨#[c]⟩, by simp [signs, e], u, rfl⟩
theorem zd_tup {X : Cx} {s : Shared} {pins : List (Addr × Obj)} {σ : L2.St} {H : Hp} {b : Addr} {us : List V} (I : Inv X pins σ H s) (h : SqT X.K H b us) : ZD X (.ref b) us s := by
  obtain ⟨its, rv, p1, _⟩ := I.tuple h
  have p1 : s.heap.IsTuple b its.toArray := p1
  obtain ⟨o, ho, _⟩ := id p1
  have hlt := Heap.lt_size ho
  refine ⟨_, _, [b], (fun i v => its.toArray[i]? = some v), begins_tuple b its.toArray, p1, (fun c hc => (List.mem_singleton.mp hc) ▸ hlt), ?_, fun it hit => ⟨(fun i h => h.IsTupleIter it b i ∧ h.IsTuple b its.toArray), fun A hh => ?_, fun h' hk e => ?_⟩⟩
  rotate_left
  · have := Draws.tuple (prog := X.prog) (w := X.w) hh it b (Nat.ne_of_lt (Nat.lt_of_lt_of_le hlt hit)) its.toArray
    rw [show us.length = its.toArray.size by simp [rv.length]]
    exact this
  · exact ⟨⟨_, e, rfl, rfl⟩, p1.at fun o e => hk _ o e⟩
  · intro j v e
    have e : its[j]? = some v := by simpa using e
    have key : ∀ {us : List V} {its : List Value}, Vals us its → ∀ {j : Nat} {v : Value}, its[j]? = some v → ∃ y, us[j]? = some y ∧ RelV y v := by
      intro us its rv
      induction rv with
      | nil => intro j v e; simp at e
      | cons h t ih =>
        intro j v e
        cases j with
        | zero => simp at e; subst e; exact ⟨_, rfl, h⟩
        | succ j => simpa using ih (by simpa using e)
    exact key rv e
/-- the tuples that were given, as things -/
theorem its_of {h : Heap} : ∀ {as : List Addr} {ps : List (V × V)}, as.length = ps.length → (∀ (j : Nat) (a : Addr), as[j]? = some a → ∃ p x1 x2, ps[j]? = some p ∧ RelV p.1 x1 ∧ RelV p.2 x2 ∧ IsTupOf2 h a x1 x2) →
    ∃ l : Its, l.map (·.1) = as ∧ l.map (·.2.2) = ps.map (fun p => [p.1, p.2]) ∧ ∀ t ∈ l, h.get? t.1 = some t.2.1 ∧ TObj t.2.1 ∧ ∃ us, t.2.1.data = .seq us.toArray ∧ Vals t.2.2 us ∧ t.2.2.length ≤ sizeLine
  | [], [], _, _ => ⟨[], rfl, rfl, fun t h => by cases h⟩
  | [], _ :: _, h, _ => by cases h
  | _ :: _, [], h, _ => by cases h
  | a :: as, p :: ps, hl, hp => by
    obtain ⟨l, e1, e2, e3⟩ := its_of (as := as) (ps := ps) (by simpa using hl) fun j b e => by simpa using hp (j + 1) b (by simpa using e)
    obtain ⟨p', x1, x2, e4, r1, r2, e5⟩ := hp 0 a rfl
    simp at e4
    subst e4
    refine ⟨(a, { cls := .type "tuple", data := .seq #[x1, x2] }, [p.1, p.2]) :: l, by simp [e1], by simp [e2], fun t ht => ?_⟩
    rcases List.mem_cons.mp ht with rfl | ht
    · exact ⟨e5, ⟨rfl, rfl, rfl⟩, [x1, x2], rfl, .cons r1 (.cons r2 .nil), by show 2 ≤ sizeLine; decide⟩
    · exact e3 t ht
theorem its_laid {X : Cx} {pins : List (Addr × Obj)} {σ : L2.St} {H : Hp} {s : Shared} {h' : Heap} {tk S c : Nat} {acc : Array Value} {l : Its} (I : Inv X pins σ H s) (hk : ∀ b o, s.heap.get? b = some o → h'.get? b = some o) (hS0 : s.heap.objs.size ≤ S) (hS : h'.get? S = some { cls := .type "list", dict := none, data := .seq acc c, slots := #[] })
    (hz : l.length ≤ sizeLine) (hacc : acc.toList = (l.map (·.1)).map Value.ref) (nd : (l.map (·.1)).Nodup) (ab : ∀ t ∈ l, S < t.1) (hl : ∀ t ∈ l, h'.get? t.1 = some t.2.1 ∧ TObj t.2.1 ∧ ∃ us, t.2.1.data = .seq us.toArray ∧ Vals t.2.2 us ∧ t.2.2.length ≤ sizeLine) :
    Inv X pins σ (upd (putF H l) S (.lst ((l.map (·.1)).map V.ref))) { s with heap := h', toks := tk } := by
  have new : ∀ t ∈ l, H t.1 = none := fun t ht => I.hok.fresh (Nat.le_of_lt (Nat.lt_of_le_of_lt hS0 (ab t ht)))
  have newA : ∀ b ∈ l.map (·.1), H b = none := fun b hb => by obtain ⟨t, ht, rfl⟩ := List.mem_map.mp hb; exact new t ht
  have newS : H S = none := I.hok.fresh hS0
  have hSn : S ∉ l.map (·.1) := fun hb => by obtain ⟨t, ht, e⟩ := List.mem_map.mp hb; exact Nat.lt_irrefl _ (e ▸ ab t ht)
  have off : ∀ b, b ∉ l.map (·.1) → b ≠ S → upd (putF H l) S (.lst ((l.map (·.1)).map V.ref)) b = H b := fun b h1 h2 => by rw [upd_ne h2, putF_off l _ h1]
  have low : ∀ b o, s.heap.get? b = some o → b ∉ l.map (·.1) ∧ b ≠ S := fun b o e => by
    have hb := Heap.lt_size e
    refine ⟨fun hm => ?_, Nat.ne_of_lt (Nat.lt_of_lt_of_le hb hS0)⟩
    obtain ⟨t, ht, rfl⟩ := List.mem_map.mp hm
    exact Nat.lt_asymm (Nat.lt_of_lt_of_le hb hS0) (ab t ht)
  have kp : ∀ b u, H b = some u → upd (putF H l) S (.lst ((l.map (·.1)).map V.ref)) b = some u := fun b u e => by
    rw [off b (fun z => by rw [newA b z] at e; cases e) (fun z => by rw [z, newS] at e; cases e)]
    exact e
  refine I.call' (ch := []) rfl ⟨fun b o q _ _ _ => hk b o q, fun b o q _ _ _ => ⟨o.slots, hk b o q⟩, fun b o q n _ => ?_, fun b o q _ => ⟨o, hk b o q⟩, fun b xs q => kp b _ q, fun b o u q => kp b _ q, fun b ps q => ⟨#[], by rw [kp b _ q]; simp⟩⟩ (fun b u q => ?_) I.bare fun b z => by simp at z
  · obtain ⟨z1, z2⟩ := low b o q
    rw [off b z1 z2]
    exact n
  · by_cases hb2 : b = S
    · subst hb2
      rw [upd_same] at q
      cases q
      refine ⟨by simpa using hz, acc.toList, c, ?_, by rw [Array.toArray_toList]; exact hS⟩
      rw [hacc]
      exact LiI.vals_refs _
    · by_cases hb : b ∈ l.map (·.1)
      · obtain ⟨t, ht, rfl⟩ := List.mem_map.mp hb
        rw [upd_ne hb2, putF_at l H nd t ht] at q
        cases q
        obtain ⟨e1, e2, us, e3, e4, e5⟩ := hl t ht
        exact ⟨e1, e5, us, e4, ⟨_, e1, e2.1, _, e3⟩⟩
      · rw [off b hb hb2] at q
        exact (I.hok b u q).stay (fun d v _ y => hk d v y) (fun d y => kp d _ y) fun d xs y => kp d _ y
section
variable {X : Cx} {pos : Pos}
def ZV (K : PySem.W.Frag) (H : Hp) (v : V) (us : List V) : Prop := (∃ x, v = .str x ∧ us = (signs x).map V.str) ∨ ∃ b, v = .ref b ∧ SqT K H b us
theorem ZV.d {pins : List (Addr × Obj)} {σ : L2.St} {H : Hp} {s : Shared} {v : V} {u : Value} {us : List V} (z : ZV X.K H v us) (I : Inv X pins σ H s) (r : RelV v u) : ZD X u us s := by
  rcases z with ⟨x, rfl, rfl⟩ | ⟨b, rfl, h⟩
  · obtain ⟨t, rfl⟩ := r
    exact zd_str x t
  · obtain rfl : u = Value.ref b := r
    exact zd_tup I h
def tLZip (K : PySem.W.Frag) (ta : TA) : TE := fun σ H Q => ta σ H fun vs H1 => ∃ v1 v2 us1 us2, vs = [v1, v2] ∧ ZV K H1 v1 us1 ∧ ZV K H1 v2 us2 ∧ min us1.length us2.length ≤ sizeLine ∧
  ∀ (S : Addr) (l : Its), H1 S = none → (∀ t ∈ l, H1 t.1 = none ∧ t.1 ≠ S ∧ TObj t.2.1) → (l.map (·.1)).Nodup → l.map (·.2.2) = List.zipWith (fun a b => [a, b]) us1 us2 → Q (.ref S) (upd (putF H1 l) S (.lst ((l.map (·.1)).map V.ref)))
theorem pe_lzip {a b : Expr} {ta : TA} {p p2 pos2 : Pos} (hc : X.calm = true) (hg : Gl X "list") (hm : X.mg "list" = none) (hg2 : Gl X "zip") (hm2 : X.mg "zip" = none) (ha : PA X [a, b] ta)
    (hs : starEach [.Call (.Name "zip" p2) [a, b] [] pos2] X.env = (false, eval (.Call (.Name "zip" p2) [a, b] [] pos2) X.env) :: starEach [] X.env := by rfl)
    (hs2 : starEach [a, b] X.env = (false, eval a X.env) :: starEach [b] X.env := by rfl) (hpl : (backTo pos2 (starEach [b] X.env)).any (·.1) = false := by rfl) :
    PE X (.Call (.Name "list" p) [.Call (.Name "zip" p2) [a, b] [] pos2] [] pos) (tLZip X.K ta) := by
  refine ⟨fun pins s σ H Q I hq => ?_⟩
  refine wpAny_Call_Name_kw (ld_blt I hg hm (u := .type "list") (by decide +kernel) ?_)
  refine PyProof.Rows.callWith_type1 ?_ hs rfl
  rw [hs]
  show wpAny _ _ (spliced ((false, eval (.Call (.Name "zip" p2) [a, b] [] pos2) X.env) :: backTo pos (starEach [] X.env))) _ _ s
  refine Calls.spliced_cons ?_
  refine PyProof.Rows.Call_ (ld_blt I hg2 hm2 PyProof.Rows.boot_zip (PyProof.Rows.callWith_type1 (thn (ha.run pos2 pins s σ H _ I hq) fun us s1 ⟨vs, H1, I1, r1, q1⟩ => ?_) hs2 hpl))
  obtain ⟨v1, v2, us1, us2, rfl, z1, z2, hz, q⟩ := q1
  cases r1 with
  | cons ra rr =>
    cases rr with
    | cons rb rr =>
      cases rr
      obtain ⟨o1, Hb1, m1, P1, B1, hb1, mm1, rel1, dr1⟩ := z1.d I1 ra
      obtain ⟨o2, Hb2, m2, P2, B2, hb2, mm2, rel2, dr2⟩ := z2.d I1 rb
      refine zip_begins2 B1 B2 hb1 hb2 fun h' iz iTI iTO e1 e2 hsz hk => ?_
      refine Calls.spliced_nil ?_
      obtain ⟨St1, D1, s01⟩ := dr1 s1.heap.objs.size (Nat.le_refl _)
      obtain ⟨St2, D2, s02⟩ := dr2 (s1.heap.objs.size + 1) (Nat.le_succ _)
      have hh : X.A.handled = none := I1.ok.hd hc
      have n1 : ∀ k, s1.heap.objs.size + k ∉ m1 := fun k hm => ltA (mm1 _ hm) (by omega)
      have n2 : ∀ k, s1.heap.objs.size + k ∉ m2 := fun k hm => ltA (mm2 _ hm) (by omega)
      have Sp : ZipSep2 (s1.heap.objs.size + 4) (s1.heap.objs.size + 2) (s1.heap.objs.size + 3) s1.heap.objs.size (s1.heap.objs.size + 1) (s1.heap.objs.size :: m1) ((s1.heap.objs.size + 1) :: m2) := by
        refine ⟨neA (by omega), neA (by omega), neA (by omega), neA (by omega), List.mem_cons_self .., ?_, ?_, neA (by omega), List.mem_cons_self .., ?_, ?_, ?_, ?_⟩
        · simp only [List.mem_cons, not_or]; exact ⟨neA (by omega), n1 4⟩
        · simp only [List.mem_cons, not_or]; exact ⟨neA (by omega), n1 3⟩
        · simp only [List.mem_cons, not_or]; exact ⟨neA (by omega), n2 4⟩
        · simp only [List.mem_cons, not_or]; exact ⟨neA (by omega), n2 3⟩
        · simp only [List.mem_cons, not_or]; exact ⟨neA (by omega), n2 0⟩
        · simp only [List.mem_cons, not_or]; exact ⟨neA (by omega), n1 1⟩
      refine call_list_zip (s := { s1 with heap := h' }) Sp (D1 _ hh) (D2 _ hh) hz iz iTI ⟨_, _, iTO⟩ (s01 h' hk e1) (s02 h' hk e2) ?_ ?_ fun h2 tk acc c as hk2 hS hal hG hacc => ?_
      · intro b hb
        show b < h'.objs.size
        rcases List.mem_cons.mp hb with rfl | hb
        · rw [hsz]; exact Nat.lt_add_of_pos_right (by decide)
        · rw [hsz]; exact Nat.lt_of_lt_of_le (mm1 _ hb) (Nat.le_add_right _ _)
      · intro b hb
        show b < h'.objs.size
        rcases List.mem_cons.mp hb with rfl | hb
        · rw [hsz]; exact Nat.add_lt_add_left (by decide) _
        · rw [hsz]; exact Nat.lt_of_lt_of_le (mm2 _ hb) (Nat.le_add_right _ _)
      have hal' : as.length = (us1.zip us2).length := by rw [hal, List.length_zip]
      obtain ⟨l, l1, l2, l3⟩ := its_of (h := h2) hal' fun j b e => by
        obtain ⟨x1, x2, p1, p2, t⟩ := hG.pairs j b e
        obtain ⟨y1, f1, g1⟩ := rel1 j x1 p1
        obtain ⟨y2, f2, g2⟩ := rel2 j x2 p2
        exact ⟨(y1, y2), x1, x2, by simp [List.getElem?_zip_eq_some, f1, f2], g1, g2, t⟩
      have kp : ∀ b o, s1.heap.get? b = some o → h2.get? b = some o := fun b o e => by
        have lt := Heap.lt_size e
        have ne : ∀ k, b ≠ s1.heap.objs.size + k := fun k => Nat.ne_of_lt (Nat.lt_of_lt_of_le lt (Nat.le_add_right _ _))
        exact hk2 b o (by show b ≠ h'.objs.size; rw [hsz]; exact ne 5) (ne 4) (ne 3) (ne 0) (ne 1) (hk b o e)
      have ab : ∀ t ∈ l, h'.objs.size < t.1 := fun t ht => hG.above t.1 (by rw [← l1]; exact List.mem_map.mpr ⟨t, ht, rfl⟩)
      have nd : (l.map (·.1)).Nodup := by rw [l1]; exact List.Pairwise.imp (fun {a b} (h : a < b) => Nat.ne_of_lt h) hG.rise
      have hll : l.length ≤ sizeLine := by
        have : (l.map (·.1)).length = as.length := by rw [l1]
        rw [List.length_map] at this
        rw [this, hal]; exact hz
      have le5 : s1.heap.objs.size ≤ h'.objs.size := by rw [hsz]; exact Nat.le_add_right _ _
      have J := its_laid (tk := tk) (S := h'.objs.size) I1 kp le5 hS hll (by rw [l1]; exact hacc) nd ab l3
      refine ⟨.ref h'.objs.size, _, J, rfl, q h'.objs.size l (I1.hok.fresh le5) (fun t ht => ⟨I1.hok.fresh (Nat.le_trans le5 (Nat.le_of_lt (ab t ht))), Nat.ne_of_gt (ab t ht), (l3 t ht).2.1⟩) nd ?_⟩
      rw [l2, List.zip, List.map_zipWith]
def zArg : Dt → Option (List Dt)
  | .str x => some ((signs x).map PyData.str)
  | .tuple ds => some ds
  | _ => none
theorem zArg_v {K : PySem.W.Frag} {F H : Hp} {v : V} {d : Dt} {ds : List Dt} (sm : Same F H) (h : Rp K F v d) (e : zArg d = some ds) : ∃ us, ZV K H v us ∧ RpAll K F us ds := by
  cases h with
  | str x => cases e; exact ⟨_, .inl ⟨x, rfl, rfl⟩, rp_signs _⟩
  | tup s t => cases e; exact ⟨_, .inr ⟨_, rfl, (seqT_same sm s).sq⟩, t⟩
  | _ => cases e
theorem Rep.growF {K : PySem.W.Frag} {F H : Hp} {σ : L2.St} {env : Dn} : ∀ (l : Its), Rep K F H σ env → (∀ t ∈ l, H t.1 = none) → (l.map (·.1)).Nodup → Rep K (putF F l) (putF H l) σ env ∧ Ext σ env F H σ env (putF F l) (putF H l)
  | [], R, _, _ => ⟨R, Ext.refl⟩
  | t :: l, R, hn, nd => by
    simp only [List.map_cons, List.nodup_cons] at nd
    obtain ⟨R1, E1⟩ := R.grow (hn t (List.mem_cons_self ..)) (.frz t.2.1 (.tup t.2.2))
    obtain ⟨R2, E2⟩ := Rep.growF l R1 (fun u hu => by
      rw [upd_ne (fun z => nd.1 (by rw [← z]; exact List.mem_map.mpr ⟨u, hu, rfl⟩))]
      exact hn u (List.mem_cons_of_mem _ hu)) nd.2
    exact ⟨R2, E1.trans E2⟩
theorem zip_rp {K : PySem.W.Frag} {F : Hp} : ∀ {us1 us2 : List V} {xs ys : List Dt} {l : Its}, RpAll K F us1 xs → RpAll K F us2 ys → l.map (·.2.2) = List.zipWith (fun a b => [a, b]) us1 us2 → (∀ t ∈ l, F t.1 = some (.frz t.2.1 (.tup t.2.2)) ∧ TObj t.2.1) → RpAll K F ((l.map (·.1)).map V.ref) (zipD xs ys)
  | [], _, _, _, l, h1, _, e, _ => by
    cases h1
    simp at e
    subst e
    exact .nil
  | _ :: _, [], _, _, l, h1, h2, e, _ => by
    cases h2
    simp at e
    subst e
    cases h1
    exact .nil
  | a :: us1, b :: us2, _, _, l, h1, h2, e, hl => by
    cases h1 with
    | cons ra ta =>
      cases h2 with
      | cons rb tb =>
        cases l with
        | nil => simp at e
        | cons t l =>
          simp at e
          obtain ⟨f1, f2⟩ := hl t (List.mem_cons_self ..)
          rw [e.1] at f1
          refine .cons (.tup (.inl ⟨_, f1, f2⟩) (.cons ra (.cons rb .nil))) (zip_rp ta tb e.2 fun u hu => hl u (List.mem_cons_of_mem _ hu))
def kLZ (ta : DTa) : DTl := fun env Q => ta env fun evs env1 => asD evs fun ds => match ds with
  | [d1, d2] => wr (zArg d1) fun xs => wr (zArg d2) fun ys => min xs.length ys.length ≤ sizeLine ∧ Q (zipD xs ys) env1
  | _ => False
theorem dl_lzip {a b : Expr} {ta : DTa} {p p2 pos2 : Pos} (hc : X.calm = true) (hg : Gl X "list") (hm : X.mg "list" = none) (hg2 : Gl X "zip") (hm2 : X.mg "zip" = none) (ha : DA X [a, b] ta)
    (hs : starEach [.Call (.Name "zip" p2) [a, b] [] pos2] X.env = (false, eval (.Call (.Name "zip" p2) [a, b] [] pos2) X.env) :: starEach [] X.env := by rfl)
    (hs2 : starEach [a, b] X.env = (false, eval a X.env) :: starEach [b] X.env := by rfl) (hpl : (backTo pos2 (starEach [b] X.env)).any (·.1) = false := by rfl) :
    DL X (.Call (.Name "list" p) [.Call (.Name "zip" p2) [a, b] [] pos2] [] pos) (kLZ ta) := by
  refine ⟨fun env Q Q' i q => ha.mono _ _ _ (fun evs env1 q => asD_mono (fun ds q => ?_) q) q, (pe_lzip hc hg hm hg2 hm2 ha.run hs hs2 hpl).mono fun σ H Q => ?_⟩
  · match ds, q with
    | [d1, d2], q => exact wr_mono (fun xs q => wr_mono (fun ys q => ⟨q.1, i _ _ q.2⟩) q) q
  · rintro ⟨F, env, R, q⟩
    refine ⟨F, env, R, ha.mono _ _ _ (fun evs env1 q F1 H1 vs E1 R1 V1 => ?_) q⟩
    obtain ⟨ds, rfl, q⟩ := asD_get q
    have al := V1.dats
    match ds, q with
    | [d1, d2], q =>
      obtain ⟨xs, e1, q⟩ := wr_get q
      obtain ⟨ys, e2, hz, q⟩ := wr_get q
      cases al with
      | cons r1 t1 =>
        cases t1 with
        | cons r2 t2 =>
          cases t2
          obtain ⟨us1, z1, a1⟩ := zArg_v R1.sub r1 e1
          obtain ⟨us2, z2, a2⟩ := zArg_v R1.sub r2 e2
          refine ⟨_, _, us1, us2, rfl, z1, z2, by rw [a1.length, a2.length]; exact hz, fun S l hS hl nd e => ?_⟩
          obtain ⟨R2, E2⟩ := R1.growF l (fun t ht => (hl t ht).1) nd
          have hS2 : putF H1 l S = none := by
            rw [putF_off l _ (fun hm => by obtain ⟨t, ht, z⟩ := List.mem_map.mp hm; exact (hl t ht).2.1 z)]
            exact hS
          obtain ⟨R3, E3⟩ := R2.growN hS2 (.lst ((l.map (·.1)).map V.ref))
          refine q (putF F1 l) _ S _ ((E1.trans E2).trans E3) R3 (R2.fnone hS2) upd_same ?_ (R2.not_ow hS2) (none_back (E1.trans E2) hS2)
          exact zip_rp (dpAll_same E2.same a1) (dpAll_same E2.same a2) e fun t ht => ⟨putF_at l F1 nd t ht, (hl t ht).2.2⟩
end
open PySem L2
theorem de_globS {X : Cx} {x : Str} {z : Str} {pos : Pos} (hg : Gl X x) (hm : ∃ t, X.mg x = some (.str z t)) (hd : (x == ("__debug__" : Str)) = false := by decide) : DE X (.Name x pos) (kC (.str z)) := by
  obtain ⟨t, hm⟩ := hm
  exact de_glob hg hm (v := .str z) ⟨t, rfl⟩ (.str z) hd
theorem de_globI {X : Cx} {x : Str} {z : Int} {pos : Pos} (hg : Gl X x) (hm : ∃ t, X.mg x = some (.int z t)) (hd : (x == ("__debug__" : Str)) = false := by decide) : DE X (.Name x pos) (kC (.int z)) := by
  obtain ⟨t, hm⟩ := hm
  exact de_glob hg hm (v := .int z) ⟨t, rfl⟩ (.int z) hd
end Dx
namespace Fx
open PySem L2 Dx
section
variable {α β γ σ : Type} {E : XP} {env : Dn} {κ : γ → Kd} {P : Program} {w : World}
variable {ta tb te tk td tv : DT} {ma mb me mk mv : Tr Dt} {tz : DTa} {n : Nat} {t u : DTS} {m : Tr γ}
def lzT (a b : Tr Dt) : Tr (List Dt) := bnd a fun x => bnd b fun y => bnd (lift (zArg x)) fun xs => bnd (lift (zArg y)) fun ys => need (min xs.length ys.length ≤ sizeLine) (ret (zipD xs ys))
theorem sl_lzip (ha : SD E ta env ma) (hb : SD E tb env mb) : SL E (kLZ (kCons ta (kCons tb kNil))) env (lzT ma mb) := fun Q w =>
  ha _ (Tr.post w fun x w => hb _ (Tr.post w fun y w => by
    obtain ⟨xs, e1, w⟩ := wr_get w
    obtain ⟨ys, e2, w⟩ := wr_get w
    exact wr_of e1 (wr_of e2 w)))
theorem w_lzT {a b : Tr Dt} {Q : List Dt → Prop} : (lzT a b).wp Q E = a.wp (fun x => b.wp (fun y => wr (zArg x) fun xs => wr (zArg y) fun ys => min xs.length ys.length ≤ sizeLine ∧ Q (zipD xs ys)) E) E := rfl
instance i_w_lzT {a b : Tr Dt} {Q : List Dt → Prop} : Sw ((lzT a b).wp Q E) (a.wp (fun x => b.wp (fun y => wr (zArg x) fun xs => wr (zArg y) fun ys => min xs.length ys.length ≤ sizeLine ∧ Q (zipD xs ys)) E) E) := ⟨fun h => (Iff.of_eq w_lzT).mpr h⟩
instance i_w_zArgT {ds : List Dt} {Q : List Dt → Prop} : Sw (wr (zArg (.tuple ds)) Q) (Q ds) := ⟨fun h => h⟩
instance i_w_zArgS {x : Str} {Q : List Dt → Prop} : Sw (wr (zArg (.str x)) Q) (Q ((signs x).map PyData.str)) := ⟨fun h => h⟩
end
end Fx
namespace Dx
open PySem PySem.Spec L2
section
variable {X : Cx} {pos : Pos} {n : Nat}
def kKin (f : Bool → Bool) (tk : DT) (i : Nat) : DTb := fun env Q => tk env fun ek env1 => gD env1 i fun kvs => wr ((rs env1 ek).bind strK) fun k => Q (f (getS kvs k).isSome) env1
theorem kKin_mono {f : Bool → Bool} {tk : DT} {i : Nat} (m : MonoD tk) : MonoB (kKin f tk i) := fun env Q Q' i q => m _ _ _ (fun ek env1 q => gD_mono (fun kvs q => wr_mono (fun k q => i _ _ q) q) q) q
theorem kin_of {f : Bool → Bool} {tk : DT} {i : Nat} {e : Expr} (he : DE X e tk) {σ : L2.St} {H : Hp} {Q : Bool → Hp → Prop} (h : tDb X.K (kKin f tk i) σ H Q) :
    tD X.K tk σ H fun y H1 => ∃ v, σ[i]? = some (some v) ∧ ∃ a o, v = .ref a ∧ DGet H1 a y o ∧ Q (f o.isSome) H1 := by
  obtain ⟨F, env, R, q⟩ := h
  refine ⟨F, env, R, he.mono _ _ _ (fun ek env1 q F1 H1 y E1 R1 V1 => ?_) q⟩
  obtain ⟨kvs, e1, q⟩ := gD_get q
  obtain ⟨k, e2, q⟩ := wr_get q
  obtain ⟨dk, e3, e4⟩ := Option.bind_eq_some_iff.mp e2
  have ey := rp_str (tp_of R1 V1 e3) e4
  subst ey
  obtain ⟨v1, es1, a1, ev1, hf1, vs1, hp1, rk⟩ := R1.val i _ e1
  subst ev1
  refine ⟨_, es1, a1, _, rfl, DGet.k (k := Sum.inr k) hp1, ?_⟩
  rcases kvR_get (k := k) rk with ⟨g1, g2⟩ | ⟨d', v, g1, g2, g3⟩
  · rw [g2]; rw [g1] at q; exact q F1 H1 E1 R1
  · rw [g2]; rw [g1] at q; exact q F1 H1 E1 R1
theorem db_kin (i : Nat) {x : Str} {e : Expr} {tk : DT} {p : Pos} (hu : X.A.units + 1 < cLine) (he : DE X e tk) (hN : X.N[i]? = some x := by rfl) (hv : Vis X.env.scope x := by first | exact Or.inl rfl | exact Or.inr (Or.inl rfl) | exact Or.inr (Or.inr rfl)) (hd : (x == ("__debug__" : Str)) = false := by decide) (hcd : (x == ("__classdict__" : Str)) = false := by decide) (hm : behindInMarks .In (.Name x p) = false := by rfl) :
    DB X (.Compare e [.In] [.Name x p] pos) (kKin (fun b => b) tk i) :=
  ⟨kKin_mono he.mono, (pt_cmp (pc_din hu he.run (pe_var hN hv hd hcd)) hm).mono fun σ H Q h => by
    obtain ⟨F, env, R, q⟩ := kin_of he h
    refine ⟨F, env, R, he.mono _ _ _ (fun ek env1 q F1 H1 y E1 R1 V1 => ?_) q⟩
    obtain ⟨v, e1, a, o, e2, e3, e4⟩ := q F1 H1 y E1 R1 V1
    exact ⟨v, e1, a, o, e2, e3, ⟨_, rfl, e4⟩⟩⟩
theorem db_knin (i : Nat) {x : Str} {e : Expr} {tk : DT} {p : Pos} (hu : X.A.units + 1 < cLine) (he : DE X e tk) (hN : X.N[i]? = some x := by rfl) (hv : Vis X.env.scope x := by first | exact Or.inl rfl | exact Or.inr (Or.inl rfl) | exact Or.inr (Or.inr rfl)) (hd : (x == ("__debug__" : Str)) = false := by decide) (hcd : (x == ("__classdict__" : Str)) = false := by decide) (hm : behindInMarks .NotIn (.Name x p) = false := by rfl) :
    DB X (.Compare e [.NotIn] [.Name x p] pos) (kKin (fun b => !b) tk i) :=
  ⟨kKin_mono he.mono, (pt_cmp (pc_dnotin hu he.run (pe_var hN hv hd hcd)) hm).mono fun σ H Q h => by
    obtain ⟨F, env, R, q⟩ := kin_of he h
    refine ⟨F, env, R, he.mono _ _ _ (fun ek env1 q F1 H1 y E1 R1 V1 => ?_) q⟩
    obtain ⟨v, e1, a, o, e2, e3, e4⟩ := q F1 H1 y E1 R1 V1
    exact ⟨v, e1, a, o, e2, e3, ⟨_, rfl, e4⟩⟩⟩
def kChain (f f' : Dt → Dt → Option Dt) (ta tb tc : DT) : DT := fun env Q => ta env fun a env1 => tb env1 fun b env2 => wr (rs env2 a) fun dx => wr (rs env2 b) fun dy => wr (f dx dy) fun d => asB (.dat d) fun k =>
  if k = true then tc env2 fun c env3 => wr (rs env3 b) fun dy' => wr (rs env3 c) fun dz => wr (f' dy' dz) fun d' => Q (.dat d') env3 else Q (.dat (.bool false)) env2
theorem asB_mono {ev : Ev} {Q Q' : Bool → Prop} (i : ∀ b, Q b → Q' b) (h : asB ev Q) : asB ev Q' := by
  obtain ⟨b, rfl, h⟩ := asB_get h; exact i _ h
theorem ite_mono {b : Bool} {p q p' q' : Prop} (i : p → p') (j : q → q') (h : if b = true then p else q) : if b = true then p' else q' := by
  cases b
  · exact j h
  · exact i h
theorem kChain_mono {f f' : Dt → Dt → Option Dt} {ta tb tc : DT} (ma : MonoD ta) (mb : MonoD tb) (mc : MonoD tc) : MonoD (kChain f f' ta tb tc) := fun env Q Q' i q =>
  ma _ _ _ (fun a env1 q => mb _ _ _ (fun b env2 q => wr_mono (fun dx q => wr_mono (fun dy q => wr_mono (fun d q => asB_mono (fun k q => ite_mono (fun q => mc _ _ _ (fun c env3 q => wr_mono (fun _ q => wr_mono (fun _ q => wr_mono (fun _ q => i _ _ q) q) q) q) q) (fun q => i _ _ q) q) q) q) q) q) q) q
theorem kChain_run {f f' : Dt → Dt → Option Dt} {r r' : R2} {a b c : Expr} {ta tb tc : DT} (lk : LkOp X.K r f) (lk' : LkOp X.K r' f') (ha : DE X a ta) (hb : DE X b tb) (hc : DE X c tc) {σ : L2.St} {H : Hp} {Q : VK} (h : tD X.K (kChain f f' ta tb tc) σ H Q) : tChain r r' (tD X.K ta) (tD X.K tb) (tD X.K tc) σ H Q := by
  obtain ⟨F, env, R, q⟩ := h
  refine ⟨F, env, R, ha.mono _ _ _ (fun ea env1 q F1 H1 x E1 R1 V1 => ⟨F1, env1, R1, hb.mono _ _ _ (fun eb env2 q F2 H2 y E2 R2 V2 => ?_) q⟩) q⟩
  obtain ⟨dx, e1, q⟩ := wr_get q
  obtain ⟨dy, e2, q⟩ := wr_get q
  obtain ⟨d, e3, q⟩ := wr_get q
  obtain ⟨k, e4, q⟩ := asB_get q
  cases e4
  refine lk F2 H2 x y dx dy _ _ R2.sub (tp_of R2 (V1.move E2) e1) (tp_of R2 V2 e2) e3 fun H3 v rs3 => ?_
  cases rs3 with
  | old rv =>
    cases rv
    refine ⟨k, rfl, ?_⟩
    cases k
    · exact q F2 H2 (.bl false) (E1.trans E2) R2 (.bl false)
    · refine ⟨F2, env2, R2, hc.mono _ _ _ (fun ec env3 q F3 H3 z E3 R3 V3 => ?_) q⟩
      obtain ⟨dy', e5, q⟩ := wr_get q
      obtain ⟨dz, e6, q⟩ := wr_get q
      obtain ⟨d', e7, q⟩ := wr_get q
      refine lk' F3 H3 y z dy' dz _ _ R3.sub (tp_of R3 (V2.move E3) e5) (tp_of R3 V3 e6) e7 fun H4 v4 rs4 => ?_
      obtain ⟨F4, E4, R4, r4⟩ := Res.frz R3 rs4
      exact q F4 H4 v4 (((E1.trans E2).trans E3).trans E4) R4 r4
theorem de_chain {f f' : Dt → Dt → Option Dt} {r r' : R2} {op op' : CmpOp} {a b c : Expr} {ta tb tc : DT} (ho : OpR X (compareOp op) r) (ho' : OpR X (compareOp op') r') (lk : LkOp X.K r f) (lk' : LkOp X.K r' f') (ha : DE X a ta) (hb : DE X b tb) (hc : DE X c tc)
    (hm : lastMarks [op, op'] [b, c] = false := by with_unfolding_all rfl) : DE X (.Compare a [op, op'] [b, c] pos) (kChain f f' ta tb tc) :=
  ⟨kChain_mono ha.mono hb.mono hc.mono, (pe_chain ho ho' ha.run hb.run hc.run hm).mono fun σ H Q h => kChain_run lk lk' ha hb hc h⟩
theorem db_chain {f f' : Dt → Dt → Option Dt} {r r' : R2} {op op' : CmpOp} {a b c : Expr} {ta tb tc : DT} (ho : OpR X (compareOp op) r) (ho' : OpR X (compareOp op') r') (lk : LkOp X.K r f) (lk' : LkOp X.K r' f') (ha : DE X a ta) (hb : DE X b tb) (hc : DE X c tc)
    (hm : lastMarks [op, op'] [b, c] = false := by with_unfolding_all rfl) : DB X (.Compare a [op, op'] [b, c] pos) (kB (kChain f f' ta tb tc)) := by
  have m : MonoD (kChain f f' ta tb tc) := kChain_mono ha.mono hb.mono hc.mono
  exact ⟨kB_mono m, (pt_chain ho ho' ha.run hb.run hc.run hm).mono fun _ _ _ h => kChain_run lk lk' ha hb hc (tB_of m h)⟩
theorem wk_str {K : PySem.W.Frag} {F : Hp} (z : Str) : Wk (RpR K) (L2.Its z) F ((signs z).map PyData.str) := by
  intro i F' H s1 s2
  refine ⟨fun d e => ?_, fun hl => show z.cps.size ≤ i by simpa [signs] using hl⟩
  have e' : ∃ c, z.cps[i]? = some c ∧ d = .str ⟨#[c]⟩ := by
    simp only [signs, List.map_map, List.getElem?_map, Array.getElem?_toList] at e
    obtain ⟨c, e1, e2⟩ := Option.map_eq_some_iff.mp e
    exact ⟨c, e1, e2.symm⟩
  obtain ⟨c, e1, rfl⟩ := e'
  refine ⟨show i < z.cps.size from (Array.getElem?_eq_some_iff.mp e1).1, fun x H' ⟨e3, c', e4, e5⟩ => ?_⟩
  rw [e1] at e4
  cases e4
  subst e3 e5
  exact .inl ⟨rfl, .str _⟩
def iStrD (te : DT) : DTl := fun env Q => te env fun ev env1 => as1 ev fun d => wr (strK d) fun z => Q ((signs z).map PyData.str) env1
theorem di_str {tg e : Expr} {te : DT} (h : DE X e te) : DI X (RpR X.K) tg e (iStrD te) := by
  refine ⟨fun env Q Q' i q => h.mono _ _ _ (fun ev env1 q => as1_mono (fun d q => wr_mono (fun ds q => i _ _ q) q) q) q, (pi_str h.run).mono fun σ H Q => ?_⟩
  rintro ⟨F, env, R, q⟩
  refine ⟨F, env, R, h.mono _ _ _ (fun ev env1 q F1 H1 v E1 R1 V1 => ?_) q⟩
  obtain ⟨d, rfl, q'⟩ := as1_get q
  obtain ⟨z, e, q⟩ := wr_get q'
  have V1 : Rp X.K F1 v d := V1
  cases V1 with
  | str x => cases e; exact ⟨_, rfl, q F1 H1 _ E1 R1 (wk_str _)⟩
  | _ => cases e
def inSD : Dt → Dt → Option Dt
  | .str s, .str z => match s.cps.toList with
    | [c] => some (.bool (decide (c ∈ z.cps.toList)))
    | _ => none
  | _, _ => none
theorem lk_inS : LkOp X.K (fun x y H Q => ∃ (c : Nat) (z : Str), x = .str ⟨#[c]⟩ ∧ y = .str z ∧ Q (.bl (decide (c ∈ z.cps.toList))) H) inSD := by
  intro F H x y dx dy d Q sm tx ty e q
  cases tx with
  | str s =>
    cases ty with
    | str z =>
      unfold inSD at e
      simp only at e
      split at e
      · rename_i c hc
        cases e
        have : s = ⟨#[c]⟩ := by
          obtain ⟨cps⟩ := s
          congr 1
          exact Array.toList_inj.mp (by simpa using hc)
        subst this
        exact ⟨c, z, rfl, rfl, q _ _ (.old (.bl _))⟩
      · cases e
    | _ => cases e
  | _ => cases e
theorem de_inS {a b : Expr} {ta tb : DT} (ha : DE X a ta) (hb : DE X b tb) (hm : behindInMarks .In b = false := by rfl) : DE X (.Compare a [.In] [b] pos) (kOp inSD ta tb) := de_cmp op_in_sign lk_inS ha hb hm
theorem db_inS {a b : Expr} {ta tb : DT} (ha : DE X a ta) (hb : DE X b tb) (hm : behindInMarks .In b = false := by rfl) : DB X (.Compare a [.In] [b] pos) (kB (kOp inSD ta tb)) := db_cmp op_in_sign lk_inS ha hb hm
def sNever : DTS := fun _ _ => False
theorem ds_never {st : Stmt} : DS X n st sNever := ⟨ps_never.mono fun D σ H => by
  rintro ⟨F, env, E, R, q, l⟩
  exact q.elim⟩
end
end Dx
namespace Fx
open PySem L2 Dx
section
variable {α β γ σ : Type} {E : XP} {env : Dn} {κ : γ → Kd} {P : Program} {w : World}
variable {ta tb tc te tk td tv : DT} {ma mb mc me mk mv : Tr Dt} {tz : DTa} {n : Nat} {t u : DTS} {m : Tr γ}
def kinT (f : Bool → Bool) (kvs : Kv) (a : Tr Dt) : Tr Bool := bnd a fun k => bnd (lift (strK k)) fun k => ret (f (getS kvs k).isSome)
theorem sb_kin {i : Nat} {f : Bool → Bool} {kvs : Kv} (hx : env[i]? = some (some (.obj (.dic kvs)))) (hk : SR E tk env mk) : SB E (kKin f tk i) env (kinT f kvs mk) := fun Q w =>
  hk _ (Tr.post w fun k w ev e => i_gD hx (by
    rw [e]
    obtain ⟨s, es, w'⟩ := wr_get w
    exact wr_of es w'))
theorem w_kinT {f : Bool → Bool} {kvs : Kv} {a : Tr Dt} {Q : Bool → Prop} : (kinT f kvs a).wp Q E = a.wp (fun k => wr (strK k) fun k => Q (f (getS kvs k).isSome)) E := rfl
instance i_w_kinT {f : Bool → Bool} {kvs : Kv} {a : Tr Dt} {Q : Bool → Prop} : Sw ((kinT f kvs a).wp Q E) (a.wp (fun k => wr (strK k) fun k => Q (f (getS kvs k).isSome)) E) := ⟨fun h => (Iff.of_eq w_kinT).mpr h⟩
def chainT (f f' : Dt → Dt → Option Dt) (a b c : Tr Dt) : Tr Dt := bnd a fun x => bnd b fun y => bnd (lift (f x y)) fun d => bnd (lift (blD d)) fun k => cond k (bnd c fun z => lift (f' y z)) (ret (.bool false))
theorem sd_chain {f f' : Dt → Dt → Option Dt} (ha : SR E ta env ma) (hb : SR E tb env mb) (hc : SR E tc env mc) : SD E (kChain f f' ta tb tc) env (chainT f f' ma mb mc) := fun Q w =>
  ha _ (Tr.post w fun x w ev e => hb _ (Tr.post w fun y w ev' e' => wr_of e (wr_of e' (by
    obtain ⟨d, e1, w⟩ := wr_get w
    obtain ⟨k, e2, w⟩ := wr_get w
    obtain rfl := blD_get e2
    refine wr_of e1 ?_
    cases k
    · exact w
    · exact hc _ (Tr.post (m := mc) w fun z w ev3 e3 => wr_of e' (wr_of e3 w))))))
theorem w_chainT {f f' : Dt → Dt → Option Dt} {a b c : Tr Dt} {Q : Dt → Prop} : (chainT f f' a b c).wp Q E = a.wp (fun x => b.wp (fun y => wr (f x y) fun d => wr (blD d) fun k => (cond k (bnd c fun z => lift (f' y z)) (ret (.bool false))).wp Q E) E) E := rfl
instance i_w_chainT {f f' : Dt → Dt → Option Dt} {a b c : Tr Dt} {Q : Dt → Prop} : Sw ((chainT f f' a b c).wp Q E) (a.wp (fun x => b.wp (fun y => wr (f x y) fun d => wr (blD d) fun k => (cond k (bnd c fun z => lift (f' y z)) (ret (.bool false))).wp Q E) E) E) := ⟨fun h => (Iff.of_eq w_chainT).mpr h⟩
def strT (a : Tr Dt) : Tr (List Dt) := bnd a fun d => bnd (lift (strK d)) fun z => ret ((signs z).map PyData.str)
theorem sl_str (h : SD E te env me) : SL E (iStrD te) env (strT me) := fun Q w => h _ (Tr.post w fun d w => by
  obtain ⟨z, e, w⟩ := wr_get w
  exact wr_of e w)
theorem w_strT {a : Tr Dt} {Q : List Dt → Prop} : (strT a).wp Q E = a.wp (fun d => wr (strK d) fun z => Q ((signs z).map PyData.str)) E := rfl
instance i_w_strT {a : Tr Dt} {Q : List Dt → Prop} : Sw ((strT a).wp Q E) (a.wp (fun d => wr (strK d) fun z => Q ((signs z).map PyData.str)) E) := ⟨fun h => (Iff.of_eq w_strT).mpr h⟩
theorem ss_never : SS E (sSeq sNever u) env (fail : Tr γ) κ := fun D hE w => w.elim
end
end Fx
namespace Dx
open PySem PySem.Spec L2
def dDc (vs : List Nat) (g : DTg) (tt : DTb) (tk tv : DT) (Q : List (Str × Dt) → Dn → Prop) : List Dt → List (Str × Dt) → Dn → Prop
  | [], acc, env => Q acc env
  | d :: ds, acc, env => g d env fun env1 => tt env1 fun b env2 => if b = true then tk env2 fun ek env3 => as1 ek fun k => wr (strK k) fun k => tv env3 fun ev env4 => as1 ev fun r => dDc vs g tt tk tv Q ds (putS acc k r) (wipeD env4 vs) else dDc vs g tt tk tv Q ds acc (wipeD env2 vs)
def kDc (vs : List Nat) (ti : DTl) (g : DTg) (tt : DTb) (tk tv : DT) : DT := fun env Q => ti env fun ds env1 => lenOk ds.length ∧ dDc vs g tt tk tv (fun kvs env' => Q (.new (.dic kvs)) env') ds [] (wipeD env1 vs)
theorem dDc_mono {vs : List Nat} {g : DTg} {tt : DTb} {tk tv : DT} (mg : ∀ d env (Q Q' : Dn → Prop), (∀ e, Q e → Q' e) → g d env Q → g d env Q') (mt : MonoB tt) (mk : MonoD tk) (me : MonoD tv) {Q Q' : List (Str × Dt) → Dn → Prop} (i : ∀ ds env, Q ds env → Q' ds env) :
    ∀ (ds : List Dt) (acc : List (Str × Dt)) (env : Dn), dDc vs g tt tk tv Q ds acc env → dDc vs g tt tk tv Q' ds acc env
  | [], acc, env, h => i _ _ h
  | d :: ds, acc, env, h => mg _ _ _ _ (fun env1 h => mt _ _ _ (fun b env2 h => by
      cases b
      · exact dDc_mono mg mt mk me i ds _ _ h
      · exact mk _ _ _ (fun ek env3 h => as1_mono (fun k h => wr_mono (fun k h => me _ _ _ (fun ev env4 h => as1_mono (fun r h => dDc_mono mg mt mk me i ds _ _ h) h) h) h) h) h) h) h
section
variable {X : Cx} {n : Nat} {pos : Pos}
theorem dc_run {ti : DTl} {rel : IR} {g : DTg} {tt : DTb} {tk tv : DT} {vs : List Nat} (mi : MonoL ti) (mg : ∀ d env (Q Q' : Dn → Prop), (∀ e, Q e → Q' e) → g d env Q → g d env Q') (mt : MonoB tt) (mk : MonoD tk) (me : MonoD tv) {σ : L2.St} {H : Hp} {Q : VK}
    (h : tD X.K (kDc vs ti g tt tk tv) σ H Q) : tDc (tDi X.K rel ti) (tDg X.K n vs rel g) (tDb X.K tt) (tD X.K tk) (tD X.K tv) vs σ H Q := by
  obtain ⟨F, env, R, q⟩ := h
  refine ⟨F, env, R, mi _ _ _ (fun ds env1 q F1 H1 J E1 R1 hw D hD => ?_) q⟩
  obtain ⟨hz, q⟩ := q
  have R1w : Rep X.K F1 H1 (wipe σ vs) (wipeD env1 vs) := R1.wipe
  obtain ⟨R2w, E2w⟩ := R1w.growN hD (.dK [])
  have ww : wipe (wipe σ vs) vs = wipe σ vs := by
    apply List.ext_getElem?
    intro j
    rw [wipe_get, wipe_get, wipe_length]
    by_cases hj : j ∈ vs <;> simp [hj]
  -- what holds between two turns
  refine ⟨fun i m H' => m = ds.length - i ∧ i ≤ ds.length ∧ ∃ F' env' acc av, Rep X.K F' H' (wipe σ vs) env' ∧ Ext (wipe σ vs) (wipeD env1 vs) F1 H1 (wipe σ vs) env' F' H' ∧ H' D = some (.dK av) ∧ KvR X.K F' av acc ∧ F' D = none ∧ ¬ Ow (wipe σ vs) env' D ∧ av.length ≤ i ∧
      dDc vs g tt tk tv (fun kvs env' => ∀ F' H' v, Ext σ env F H σ env' F' H' → Rep X.K F' H' σ env' → RepE X.K F' H' σ env' H v (.new (.dic kvs)) → Q v H') (ds.drop i) acc env',
    ⟨_, rfl, Nat.zero_le _, F1, wipeD env1 vs, [], [], R2w, E2w, upd_same, trivial, R1.fnone hD, fun w => R1.not_ow hD (ow_wipe w), Nat.le_refl _, by simpa using q⟩, ?_⟩
  rintro i m H' ⟨rfl, hi, F', env', acc, av, R', E', hp, ha, hf, no, hl, w⟩
  obtain ⟨k1, k2⟩ := hw i F' H' E'.same R'.sub
  by_cases hlt : i < ds.length
  · right
    have e : ds[i]? = some ds[i] := List.getElem?_eq_getElem hlt
    obtain ⟨go, yl⟩ := k1 _ e
    rw [List.drop_eq_getElem_cons hlt] at w
    refine ⟨go, _, fun H'' z => ⟨ds.length - (i + 1), by omega, z⟩, fun x H2 y => ?_⟩
    obtain ⟨R2, E2, r2⟩ := (yl x H2 y).rep R'
    refine ⟨F', env', _, R2, r2, mg _ _ _ _ (fun env3 q3 σ3 E3 R3 w3 => ⟨w3.trans ww, F', env3, R3, mt _ _ _ (fun b env4 q4 F4 H4 E4 R4 => ?_) q3⟩) w⟩
    have E24 : Ext (wipe σ vs) env' F' H' σ3 env4 F4 H4 := (E2.trans E3.ext).trans E4
    have hp4 : H4 D = some (.dK av) := E24.keep D _ hp no nt_dK.1
    have hf4 : ∀ {σ5 : L2.St} {env5 : Dn} {F5 H5 : Hp}, Ext (wipe σ vs) env' F' H' σ5 env5 F5 H5 → F5 D = none := fun {σ5 env5 F5 H5} E => by
      cases q : F5 D with
      | none => rfl
      | some u =>
        rcases E.new D u q hf with z | z
        · rw [hp] at z; cases z
        · exact absurd z no
    have no4 : ∀ {σ5 : L2.St} {env5 : Dn} {F5 H5 : Hp}, Ext (wipe σ vs) env' F' H' σ5 env5 F5 H5 → ¬ Ow σ5 env5 D := fun {σ5 env5 F5 H5} E z => by
      rcases E.ow D z with z | z
      · exact no z
      · rw [hp] at z; cases z
    -- back to the wiped slots
    have back : ∀ {env5 : Dn} {F5 H5 : Hp}, Rep X.K F5 H5 σ3 env5 → Ext (wipe σ vs) env' F' H' σ3 env5 F5 H5 → Rep X.K F5 H5 (wipe σ vs) (wipeD env5 vs) ∧ Ext (wipe σ vs) env' F' H' (wipe σ vs) (wipeD env5 vs) F5 H5 := fun {env5 F5 H5} R5 E5 => by
      have z : Rep X.K F5 H5 (wipe σ3 vs) (wipeD env5 vs) := R5.wipe
      rw [w3, ww] at z
      refine ⟨z, E5.same, E5.keep, E5.there, E5.new, fun a q => E5.ow a ?_, E5.tab⟩
      rw [show wipe σ vs = wipe σ3 vs from (w3.trans ww).symm] at q
      exact ow_wipe q
    cases b
    · obtain ⟨R5, E5⟩ := back R4 E24
      exact ⟨rfl, hlt, F4, wipeD env4 vs, acc, av, R5, E'.trans E5, hp4, kvR_same E24.same ha, hf4 E5, no4 E5, by omega, q4⟩
    · refine ⟨F4, env4, R4, mk _ _ _ (fun ek env5 q5 F5 H5 y E5 R5 V5 => ?_) q4⟩
      obtain ⟨kd, rfl, q5⟩ := as1_get q5
      obtain ⟨kk, ek, q5⟩ := wr_get q5
      have V5 : Rp X.K F5 y kd := V5
      have ey : y = .str kk := by
        cases V5 <;> simp [strK] at ek
        rw [ek]
      subst ey
      refine ⟨F5, env5, R5, me _ _ _ (fun ev env6 q6 F6 H6 z E6' R6' V6 => ?_) q5⟩
      obtain ⟨r, rfl, q6⟩ := as1_get q6
      have E25 := (E24.trans E5).trans E6'
      have hp5 : H6 D = some (.dK av) := E25.keep D _ hp no nt_dK.1
      obtain ⟨R6, E6⟩ := back R6' E25
      have lz : av.length < sizeLine := by
        have h2 : ds.length ≤ sizeLine := hz
        omega
      have lp := length_putK av (Sum.inr kk) z
      refine ⟨av, Sum.inr kk, rfl, hp5, lz, rfl, hlt, F6, wipeD env6 vs, putS acc kk r, putK av (Sum.inr kk) z, ?_, ?_, upd_same, kvR_put V6 (kvR_same E25.same ha), hf4 E25, no4 E6, by omega, q6⟩
      · refine ⟨fun a u z => ?_, R6.len, fun j dv ej => ?_, R6.inj⟩
        · have z1 := R6.sub a u z
          rw [upd_ne]
          · exact z1
          · intro eq
            subst eq
            rw [hf4 E25] at z; cases z
        · obtain ⟨v, e1, e2⟩ := R6.val j dv ej
          refine ⟨v, e1, ?_⟩
          cases dv with
          | dat d => exact e2
          | inv φ => exact e2
          | tab P => exact TabF.over e2 hp5 nt_dK nt_dK.1
          | obj ob =>
            obtain ⟨p, e3, e4, e5⟩ := e2
            have ne : p ≠ D := fun eq => no4 E6 ⟨j, ob, ej, by rw [e1, e3, eq]⟩
            exact ⟨p, e3, e4, e5.move (Same.refl _) (upd_ne ne)⟩
      · have E7 := E'.trans E6
        refine ⟨E7.same, fun a u z nz nt => ?_, fun a u z => ?_, E7.new, E7.ow, fun P t => (E7.tab P t).over hp5 nt_dK nt_dK.1⟩
        · rw [upd_ne (ne_of_none z hD)]; exact E7.keep a u z nz nt
        · obtain ⟨u', z'⟩ := E7.there a u z
          exact ⟨u', by rw [upd_ne (ne_of_none z hD)]; exact z'⟩
  · left
    have e : i = ds.length := by omega
    subst e
    rw [List.drop_length] at w
    refine ⟨k2 (Nat.le_refl _), ?_⟩
    have E8 : Ext σ env1 F1 H1 σ env' F' H' := ⟨E'.same, fun a u z nz => E'.keep a u z (fun o => nz (ow_wipe o)), E'.there, fun a u z nz => (E'.new a u z nz).imp id ow_wipe, fun a z => (E'.ow a (ow_unwipe R' z)).imp ow_wipe id, E'.tab⟩
    refine w F' H' (.ref D) (E1.trans E8) R'.unwipe ⟨D, rfl, hf, ⟨av, hp, ha⟩, fun z => no (ow_unwipe R' z), ?_⟩
    cases q : H D with
    | none => rfl
    | some u =>
      obtain ⟨u', z⟩ := E1.there D u q
      rw [hD] at z; cases z
theorem de_dc (n : Nat) (own : List (Str × Nat)) {kx vx tg iter : Expr} {ifs : List Expr} {scope : Scope} {rel : IR} {ti : DTl} {g : DTg} {tt : DTb} {tk tv : DT} (hc : X.calm = true) (hN : X.N.Nodup) (hi : DI X rel tg iter ti) (ok : BlkOk X.N X.env.scope scope own)
    (hg : ∀ (s : Shared) (H : Hp) (C : Addr) (cl : List (Str × Addr)) (fp : List Addr), DG (X.blk s H scope (compEnvC scope cl C X.env) fp) n (own.map (·.2)) rel tg g) (ht : ∀ (s : Shared) (H : Hp) (C : Addr) (cl : List (Str × Addr)) (fp : List Addr), DTs (X.blk s H scope (compEnvC scope cl C X.env) fp) ifs tt)
    (hk : ∀ (s : Shared) (H : Hp) (C : Addr) (cl : List (Str × Addr)) (fp : List Addr), DE (X.blk s H scope (compEnvC scope cl C X.env) fp) kx tk) (he : ∀ (s : Shared) (H : Hp) (C : Addr) (cl : List (Str × Addr)) (fp : List Addr), DE (X.blk s H scope (compEnvC scope cl C X.env) fp) vx tv)
    (hs : ∀ x, foldedSetIterable iter X.env x = pure x := by intro _; rfl) : DE X (.DictComp kx vx [⟨tg, iter, ifs, 0⟩] scope pos) (kDc (own.map (·.2)) ti g tt tk tv) := by
  have mg := (hg X.s_0 X.H_0 0 [] []).mono
  have mt := (ht X.s_0 X.H_0 0 [] []).mono
  have mk := (hk X.s_0 X.H_0 0 [] []).mono
  have me := (he X.s_0 X.H_0 0 [] []).mono
  exact ⟨fun env Q Q' i q => hi.mono _ _ _ (fun ds env1 q => ⟨q.1, dDc_mono mg mt mk me (fun kvs env' q => i _ _ q) _ _ _ q.2⟩) q,
    (pe_dc hc hN hi.run ok (fun s H C cl fp => (hg s H C cl fp).run) (fun s H C cl fp => (ht s H C cl fp).run) (fun s H C cl fp => (hk s H C cl fp).run) (fun s H C cl fp => (he s H C cl fp).run) hs).mono fun σ H Q h => dc_run (n := n) hi.mono mg mt mk me h⟩
def sumDt : List Dt → Option Dt
  | [.list ds] => (intsD ds).map fun ns => .int ns.sum
  | _ => none
theorem lk_sum : LkC X.K (rSum X.K) sumDt := by
  intro F H vs ds d Q sm tv e q
  unfold sumDt at e
  split at e
  · obtain ⟨ns, e1, rfl⟩ := Option.map_eq_some_iff.mp e
    cases tv with
    | cons h t =>
      cases t
      cases h with
      | lst h r =>
        have := intsD_rp r e1
        subst this
        exact ⟨_, ns, rfl, SqL.of h, q _ _ (.old (.int _))⟩
  · cases e
end
end Dx
namespace Fx
open PySem L2 Dx
section
variable {α β γ σ : Type} {E : XP} {env : Dn} {κ : γ → Kd} {P : Program} {w : World}
variable {ta tb tc te tk td tv : DT} {ma mb mc me mk mv : Tr Dt} {tz : DTa} {n : Nat} {t u : DTS} {m : Tr γ} {tl : DTl} {ml : Tr (List Dt)}
def kvT (a b : Tr Dt) : Tr (Str × Dt) := bnd a fun k => bnd (lift (strK k)) fun k => bnd b fun v => ret (k, v)
def dcL (xs : List Dt) (kvs : Kv) (f : Dt → Tr (Str × Dt)) : Tr Kv := foldT xs kvs fun kvs x => bnd (f x) fun p => ret (putS kvs p.1 p.2)
def dcN (l : Tr (List Dt)) (f : Dt → Tr (Str × Dt)) : Tr Kv := bnd l fun xs => need (xs.length ≤ sizeLine) (dcL xs [] f)
theorem comp_dc {vs : List Nat} {g : DTg} {mg : Dt → Tr β} {ψ : β → Dn} {fk fv : β → Tr Dt} {Q : Kv → Dn → Prop}
    (hg : ∀ x, SG E g x env (mg x) ψ) (hk : ∀ b, SD E tk (ψ b) (fk b)) (he : ∀ b, SD E tv (ψ b) (fv b)) (hw : ∀ b, wipeD (ψ b) vs = env) :
    ∀ (ds : List Dt) (acc : Kv), (dcL ds acc fun x => bnd (mg x) fun b => kvT (fk b) (fv b)).wp (fun l => Q l env) E → dDc vs g tYesD tk tv Q ds acc env
  | [], acc, w => w
  | d :: ds, acc, w => hg d _ (Tr.post (m := mg d) w fun b w => i_yes (i_iteT (hk b _ (Tr.post (m := fk b) w fun k w => by
      obtain ⟨z, ez, w⟩ := wr_get w
      show wr (strK k) _
      refine wr_of ez (he b _ (Tr.post (m := fv b) w fun r w => ?_))
      show dDc vs g tYesD tk tv Q ds (putS acc z r) (wipeD (ψ b) vs)
      rw [hw]
      exact comp_dc hg hk he hw ds _ w))))
theorem se_dc {vs : List Nat} {g : DTg} {mg : Dt → Tr β} {ψ : β → Dn} {fk fv : β → Tr Dt} (hi : SL E tl env ml) (hw0 : wipeD env vs = env)
    (hg : ∀ x, SG E g x env (mg x) ψ) (hk : ∀ b, SD E tk (ψ b) (fk b)) (he : ∀ b, SD E tv (ψ b) (fv b)) (hw : ∀ b, wipeD (ψ b) vs = env) :
    SE E (kDc vs tl g tYesD tk tv) env (dcN ml fun x => bnd (mg x) fun b => kvT (fk b) (fv b)) (fun kvs => .new (.dic kvs)) (fun _ => env) := fun Q w =>
  hi _ (Tr.post w fun xs w => ⟨w.1, by
    rw [hw0]
    exact comp_dc hg hk he hw xs [] w.2⟩)
theorem w_dcN {l : Tr (List Dt)} {f : Dt → Tr (Str × Dt)} {Q : Kv → Prop} : (dcN l f).wp Q E = l.wp (fun xs => xs.length ≤ sizeLine ∧ (dcL xs [] f).wp Q E) E := rfl
instance i_w_dcN {l : Tr (List Dt)} {f : Dt → Tr (Str × Dt)} {Q : Kv → Prop} : Sw ((dcN l f).wp Q E) (l.wp (fun xs => xs.length ≤ sizeLine ∧ (dcL xs [] f).wp Q E) E) := ⟨fun h => (Iff.of_eq w_dcN).mpr h⟩
theorem w_kvT {a b : Tr Dt} {Q : Str × Dt → Prop} : (kvT a b).wp Q E = a.wp (fun k => wr (strK k) fun k => b.wp (fun v => Q (k, v)) E) E := rfl
instance i_w_kvT {a b : Tr Dt} {Q : Str × Dt → Prop} : Sw ((kvT a b).wp Q E) (a.wp (fun k => wr (strK k) fun k => b.wp (fun v => Q (k, v)) E) E) := ⟨fun h => (Iff.of_eq w_kvT).mpr h⟩
end
end Fx
namespace Dx
open PySem PySem.Spec L2
section
variable {X : Cx} {pos : Pos} {a b : Expr} {ta tb : DT}
def b2n (b : Bool) : Int := if b = true then 1 else 0
def rBI (g : Int → Int → Int) : R2 := fun x y H Q => ∃ (a : Bool) (b : Int), x = .bl a ∧ y = .int b ∧ Q (.int (g (b2n a) b)) H
def rIB (g : Int → Int → Int) : R2 := fun x y H Q => ∃ (a : Int) (b : Bool), x = .int a ∧ y = .bl b ∧ Q (.int (g a (b2n b))) H
theorem op_addBI : OpR X (binaryOp .Add) (rBI (· + ·)) := by
  intro pins s σ H x y v u Q I rx ry h
  obtain ⟨i, j, rfl, rfl, q⟩ := h
  cases rx
  obtain ⟨t, rfl⟩ := ry
  exact PySem.IntBool.add_bool_int ⟨.int _, H, I.tok _, ⟨_, rfl⟩, q⟩
theorem op_subBI : OpR X (binaryOp .Sub) (rBI (· - ·)) := by
  intro pins s σ H x y v u Q I rx ry h
  obtain ⟨i, j, rfl, rfl, q⟩ := h
  cases rx
  obtain ⟨t, rfl⟩ := ry
  exact PySem.IntBool.sub_bool_int ⟨.int _, H, I.tok _, ⟨_, rfl⟩, q⟩
theorem op_subIB : OpR X (binaryOp .Sub) (rIB (· - ·)) := by
  intro pins s σ H x y v u Q I rx ry h
  obtain ⟨i, j, rfl, rfl, q⟩ := h
  obtain ⟨t, rfl⟩ := rx
  cases ry
  exact PySem.IntBool.sub_int_bool ⟨.int _, H, I.tok _, ⟨_, rfl⟩, q⟩
theorem op_mulIB : OpR X (binaryOp .Mult) (rIB (· * ·)) := by
  intro pins s σ H x y v u Q I rx ry h
  obtain ⟨i, j, rfl, rfl, q⟩ := h
  obtain ⟨t, rfl⟩ := rx
  cases ry
  exact PySem.IntBool.mul_int_bool ⟨.int _, H, I.tok _, ⟨_, rfl⟩, q⟩
def addBD : Dt → Dt → Option Dt
  | .int a, .int b => some (.int (a + b))
  | .bool a, .int b => some (.int (b2n a + b))
  | _, _ => none
def subBD : Dt → Dt → Option Dt
  | .int a, .int b => some (.int (a - b))
  | .bool a, .int b => some (.int (b2n a - b))
  | .int a, .bool b => some (.int (a - b2n b))
  | _, _ => none
def mulBD : Dt → Dt → Option Dt
  | .int a, .int b => if CMulB a b then some (.int (a * b)) else none
  | .int a, .bool b => some (.int (a * b2n b))
  | _, _ => none
theorem lk_addB : LkOp X.K (fun x y H Q => rI0 (fun i j => .int (i + j)) x y H Q ∨ rBI (· + ·) x y H Q) addBD := by
  intro F H x y dx dy d Q sm tx ty e q
  unfold addBD at e
  split at e
  · cases tx; cases ty; cases e
    exact .inl ⟨_, _, rfl, rfl, q _ _ (.old (.int _))⟩
  · cases tx; cases ty; cases e
    exact .inr ⟨_, _, rfl, rfl, q _ _ (.old (.int _))⟩
  · cases e
theorem lk_subB : LkOp X.K (fun x y H Q => rI0 (fun i j => .int (i - j)) x y H Q ∨ rBI (· - ·) x y H Q ∨ rIB (· - ·) x y H Q) subBD := by
  intro F H x y dx dy d Q sm tx ty e q
  unfold subBD at e
  split at e
  · cases tx; cases ty; cases e
    exact .inl ⟨_, _, rfl, rfl, q _ _ (.old (.int _))⟩
  · cases tx; cases ty; cases e
    exact .inr (.inl ⟨_, _, rfl, rfl, q _ _ (.old (.int _))⟩)
  · cases tx; cases ty; cases e
    exact .inr (.inr ⟨_, _, rfl, rfl, q _ _ (.old (.int _))⟩)
  · cases e
theorem lk_mulB : LkOp X.K (fun x y H Q => rI CMulB (fun i j => .int (i * j)) x y H Q ∨ rIB (· * ·) x y H Q) mulBD := by
  intro F H x y dx dy d Q sm tx ty e q
  unfold mulBD at e
  split at e
  · split at e
    · rename_i hc
      cases tx; cases ty; cases e
      exact .inl ⟨_, _, rfl, rfl, hc, q _ _ (.old (.int _))⟩
    · cases e
  · cases tx; cases ty; cases e
    exact .inr ⟨_, _, rfl, rfl, q _ _ (.old (.int _))⟩
  · cases e
theorem de_addB (ha : DE X a ta) (hb : DE X b tb) : DE X (.BinOp a .Add b pos) (kOp addBD ta tb) := de_op (op_add.or op_addBI) lk_addB ha hb
theorem de_subB (ha : DE X a ta) (hb : DE X b tb) : DE X (.BinOp a .Sub b pos) (kOp subBD ta tb) := de_op (op_sub.or (op_subBI.or op_subIB)) lk_subB ha hb
theorem de_mulB (ha : DE X a ta) (hb : DE X b tb) : DE X (.BinOp a .Mult b pos) (kOp mulBD ta tb) := de_op (op_mulB.or op_mulIB) lk_mulB ha hb
def rStrX : List V → Hp → VK → Prop := fun xs H Q => (∃ i, xs = [.int i] ∧ i.natAbs.log2 < 1920 ∧ Q (.str (toString i)) H) ∨ ∃ b : Bool, xs = [.bl b] ∧ Q (.str (if b then "True" else "False")) H
theorem call_strX : CallR X (.type "str") rStrX := by
  intro pins s σ H xs us Q I r h
  rcases h with h | ⟨b, rfl, q⟩
  · exact call_str_int pins s σ H xs us Q I r h
  · obtain ⟨u, rfl, r1⟩ := vals1 r
    cases r1
    exact P.str_of_bool ⟨.str _, H, I.tok _, ⟨_, rfl⟩, q⟩
def strXD : List Dt → Option Dt
  | [.int i] => if i.natAbs.log2 < 1920 then some (.str (toString i)) else none
  | [.bool b] => some (.str (if b then "True" else "False"))
  | _ => none
theorem lk_strX : LkC X.K rStrX strXD := by
  intro F H vs ds d Q sm tv e q
  unfold strXD at e
  split at e
  · split at e
    · rename_i hz
      cases tv with
      | cons h t =>
        cases t
        cases h
        cases e
        exact .inl ⟨_, rfl, hz, q _ _ (.old (.str _))⟩
    · cases e
  · cases tv with
    | cons h t =>
      cases t
      cases h
      cases e
      exact .inr ⟨_, rfl, q _ _ (.old (.str _))⟩
  · cases e
def repD : Dt → Dt → Option Dt
  | .list a, .int k => if 0 ≤ k ∧ k < 1000 ∧ a.length * k.toNat ≤ sizeLine then some (.list (List.replicate k.toNat a).flatten) else none
  | _, _ => none
theorem rpAll_rep {K : PySem.W.Frag} {F : Hp} {xs : List V} {ds : List Dt} (r : RpAll K F xs ds) : ∀ n, RpAll K F (List.replicate n xs).flatten (List.replicate n ds).flatten
  | 0 => .nil
  | n + 1 => by
    simp only [List.replicate_succ, List.flatten_cons]
    exact r.append (rpAll_rep r n)
theorem lk_rep : LkOp X.K rRep repD := by
  intro F H x y dx dy d Q sm tx ty e q
  unfold repD at e
  split at e
  · split at e
    · rename_i hz
      cases tx with
      | lst h1 a1 =>
        cases ty
        cases e
        exact ⟨_, _, _, rfl, rfl, h1, by omega, by omega, by rw [a1.length]; exact hz.2.2, fun p hp => q _ _ (.lst hp (rpAll_rep a1 _))⟩
    · cases e
  · cases e
theorem de_rep (ha : DE X a ta) (hb : DE X b tb) : DE X (.BinOp a .Mult b pos) (kOp repD ta tb) := de_op op_rep lk_rep ha hb
theorem adj_rev (n : Nat) : Builtin.Slice.sliceAdjust none none (-1) (n : Int) = ((n : Int) - 1, -1) := by
  unfold Builtin.Slice.sliceAdjust
  simp
theorem places_rev (n : Nat) : Builtin.Slice.slicePlaces ((n : Int) - 1) (-1) (-1) = n := by
  unfold Builtin.Slice.slicePlaces
  simp
  omega
theorem pick_rev (xs : Array Value) : ((List.range xs.size).filterMap fun (m : Nat) => xs[(((xs.size : Int) - 1) + (m : Int) * (-1)).toNat]?).toArray = xs.toList.reverse.toArray := by
  have e : (List.range xs.size).filterMap (fun (m : Nat) => xs[(((xs.size : Int) - 1) + (m : Int) * (-1)).toNat]?) = ((List.range xs.size).map fun k => xs.size - 1 - k).filterMap (xs[·]?) := by
    rw [List.filterMap_map]
    have key : ∀ (l : List Nat), (∀ m ∈ l, m < xs.size) → l.filterMap (fun (m : Nat) => xs[(((xs.size : Int) - 1) + (m : Int) * (-1)).toNat]?) = l.filterMap ((xs[·]?) ∘ fun k => xs.size - 1 - k) := by
      intro l
      induction l with
      | nil => intro _; rfl
      | cons m l ih =>
        intro hm
        have h1 := hm m (List.mem_cons_self ..)
        have h2 : (((xs.size : Int) - 1) + (m : Int) * (-1)).toNat = xs.size - 1 - m := by omega
        simp only [List.filterMap_cons, h2, Function.comp_apply, ih fun k hk => hm k (List.mem_cons_of_mem _ hk)]
    exact key _ fun m hm => List.mem_range.mp hm
  rw [e, PySem.W.krv_range, List.filterMap_reverse, PySem.W.krv_all]
theorem applied_rev {prog : Program} {w : World} {A : Around} {E : Value → Shared → Prop} {s : Shared} {sl : Addr} {vl vu vs : Value} {n : Nat} {Q : Int × Int × Nat → Shared → Prop} (hs : s.heap.IsSliceOf sl vl vu vs) (pl : IsPart vl none) (pu : IsPart vu none) (ps : IsPart vs (some (-1)))
    (h : Q ((n : Int) - 1, -1, n) s) : wpAny (model prog w) A (Builtin.Slice.sliceApplied (.ref sl) (pure (n : Int))) Q E s := by
  obtain ⟨os, hos, hcs, hds⟩ := id hs
  unfold Builtin.Slice.sliceApplied Builtin.Slice.sliceFields
  refine wpAny_bind (wpAny_bind (wpAny_field hos hds (x := vl) rfl (wpAny_bind (wpAny_field hos hds (x := vu) rfl (wpAny_bind (wpAny_field hos hds (x := vs) rfl (wpAny_pure ?_)))))))
  refine wpAny_bind (HT.slicePart_ ps ?_)
  show wpAny _ _ (if ((-1 : Int) == 0) = true then _ else _) _ _ s
  rw [if_neg (by decide)]
  refine wpAny_bind (HT.slicePart_ pl (wpAny_bind (HT.slicePart_ pu (wpAny_bind (wpAny_pure ?_)))))
  show wpAny _ _ (match Builtin.Slice.sliceAdjust none none (-1) (n : Int) with | (lo, hi) => pure (lo, (-1 : Int), Builtin.Slice.slicePlaces lo hi (-1))) _ _ s
  rw [adj_rev n]
  show wpAny _ _ (pure ((n : Int) - 1, (-1 : Int), Builtin.Slice.slicePlaces ((n : Int) - 1) (-1) (-1))) _ _ s
  rw [places_rev]
  exact wpAny_pure h
theorem getItem_tuple_rev {prog : Program} {w : World} {A : Around} {E : Value → Shared → Prop} {s : Shared} {t sl : Addr} {items : Array Value} {vl vu vs : Value} {Q : Value → Shared → Prop} (ht : PyProof.Rows.IsTup s.heap t items) (hs : s.heap.IsSliceOf sl vl vu vs) (pl : IsPart vl none) (pu : IsPart vu none) (ps : IsPart vs (some (-1)))
    (h : Q (.ref s.heap.objs.size) { s with heap := s.heap.push { cls := .type "tuple", data := .seq items.toList.reverse.toArray } })
    (hsz : items.size ≤ sizeLine) : wpAny (model prog w) A (getItem (.ref t) (.ref sl)) Q E s := by
  have htake : sizeOk (.seq items.toList.reverse.toArray) := by
    show items.toList.reverse.toArray.size ≤ sizeLine
    rw [List.size_toArray, List.length_reverse, Array.length_toList]
    exact hsz
  obtain ⟨os, hos, hcs, hds⟩ := id hs
  have hTs : s.TypeIs (.ref sl) "slice" := ⟨os, hos, hcs⟩
  unfold getItem
  try with_reducible refine wpAny_holding ?_
  first | refine wpAny_bind (wpAny_pure ?_) | skip
  refine wpAny_bind (wpAny_sequenceKey ht.typeIs (by decide) ?_)
  refine wpAny_bind (wpAny_callSpecial?_slot (name := Str.ofString "__getitem__") ht.typeIs PyProof.Rows.slot_tuple_getitem
    (wpAny_call_entry PyProof.Rows.slot_tuple_getitem ht.typeIs PyProof.Rows.entry_tuple_getitem ?_ (PyProof.Rows.args_tuple_getitem _ _)))
  show wpAny _ _ (Builtin.Tuple.tupleItemsOf (.ref t) >>= _) _ _ s
  refine wpAny_bind (PyProof.Rows.tupleItemsOf_ ht ?_)
  refine wpAny_bind (wpAny_typeOf hTs ?_)
  rw [if_pos (by decide)]
  refine wpAny_bind (applied_rev hs pl pu ps ?_)
  have hno : ¬ ((((items.size : Int) - 1) == 0 && (-1 : Int) == 1 && items.size == items.size) = true) := by simp
  show wpAny _ _ (if (((items.size : Int) - 1) == 0 && (-1 : Int) == 1 && items.size == items.size) = true then _ else _) _ _ s
  rw [if_neg hno, pick_rev]
  first
    | exact wpAny_bind (m := Builtin.Tuple.tupleExact _) (wpAny_newObj_type (wpAny_pure ⟨_, rfl, wpAny_pure h⟩) htake)
    | exact wpAny_bind (m := Builtin.Tuple.tupleExact _) (wpAny_newObj_type (wpAny_bind (wpAny_pure (wpAny_pure ⟨_, rfl, wpAny_pure h⟩))) htake)
    | exact wpAny_bind (wpAny_bind (m := Builtin.Tuple.tupleExact _) (wpAny_newObj_type (wpAny_pure (wpAny_pure ⟨_, rfl, wpAny_pure h⟩)) htake))
    | exact wpAny_bind (wpAny_bind (m := Builtin.Tuple.tupleExact _) (wpAny_newObj_type (wpAny_pure ⟨_, rfl, wpAny_pure h⟩) htake))
def tRevT (K : PySem.W.Frag) (te : TE) : TE := fun σ H Q => te σ H fun x H1 => ∃ a xs, x = .ref a ∧ SqT K H1 a xs ∧ ∀ p o, H1 p = none → TObj o → Q (.ref p) (upd H1 p (.frz o (.tup xs.reverse)))
theorem pe_revT {e : Expr} {te : TE} {k : Nat} {p1 p2 p3 pos : Pos} (he : PE X e te) : PE X (.Subscript e (.Slice none none (some (.UnaryOp .USub (.Constant (.int 1) k p1) p2)) p3) pos) (tRevT X.K te) := by
  refine ⟨fun pins s σ H Q I h => ?_⟩
  refine PyProof.Rows.Subscript_ (thn (he.run pins s σ H _ I h) fun v s1 ⟨x, H1, I1, r1, q1⟩ => ?_)
  obtain ⟨a, xs, ex, hx, q⟩ := q1
  subst ex
  cases r1
  have hst : PO X (some (.UnaryOp .USub (.Constant (.int 1) k p1) p2)) (tPart (tUn (rU fun i => .int (-i)) (tC (.int 1)))) := po_some (pe_un un_neg pe_int)
  refine wpAny_Slice (thn (po_none.run pins s1 σ H1 (fun o H2 => o = none ∧ H2 = H1) I1 ⟨rfl, rfl⟩) fun vl s2 ⟨l, H2, I2, pl, el, e2⟩ => ?_)
  subst el e2
  refine thn (po_none.run pins s2 σ H2 (fun o H3 => o = none ∧ H3 = H2) I2 ⟨rfl, rfl⟩) fun vu s3 ⟨u, H3, I3, pu, eu, e3⟩ => ?_
  subst eu e3
  refine thn (hst.run pins s3 σ H3 (fun o H4 => o = some (-1) ∧ H4 = H3) I3 ⟨1, rfl, -1, rfl, rfl, rfl⟩) fun vs s4 ⟨o, H4, I4, ps, eo, e4⟩ => ?_
  subst eo e4
  have I5 : Inv X pins σ H4 { s4 with heap := s4.heap.push { cls := .type "slice", data := .fields #[vl, vu, vs] } } := I4.kept (t' := s4.toks) fun b ob q => Heap.get?_push_of_some _ q
  obtain ⟨its, r, ht, hz⟩ := I5.tuple hx
  have hlen := r.length
  show wpAny (model X.prog X.w) X.A (PyProof.Rows.subscriptTail e (.Slice none none (some (.UnaryOp .USub (.Constant (.int 1) k p1) p2)) p3) (.ref a) (.ref s4.heap.objs.size)) (EP X pins σ Q) X.xe { s4 with heap := s4.heap.push { cls := .type "slice", data := .fields #[vl, vu, vs] } }
  refine PyProof.Rows.tail_any (ops := [.ref a, .ref s4.heap.objs.size]) ht.typeIs (PyProof.Rows.slot_tuple_getitem.lookup) ?_ (by with_unfolding_all rfl)
  refine getItem_tuple_rev ht (Heap.IsSliceOf.new _ vl vu vs) pl pu ps ?_ (by rw [List.size_toArray]; omega)
  exact lay_tup I5 r.reverse (by rw [List.length_reverse]; exact hz) q
def kRevT (te : DT) : DT := fun env Q => te env fun ev env1 => wr (rs env1 ev) fun d => asT d fun ds => Q (.dat (.tuple ds.reverse)) env1
theorem rpAll_rev {K : PySem.W.Frag} {F : Hp} : ∀ {xs : List V} {ds : List Dt}, RpAll K F xs ds → RpAll K F xs.reverse ds.reverse
  | _, _, .nil => .nil
  | _, _, .cons h t => by
    simp only [List.reverse_cons]
    exact (rpAll_rev t).append (.cons h .nil)
theorem de_revT {e : Expr} {te : DT} {k : Nat} {p1 p2 p3 : Pos} (he : DE X e te) : DE X (.Subscript e (.Slice none none (some (.UnaryOp .USub (.Constant (.int 1) k p1) p2)) p3) pos) (kRevT te) := by
  refine ⟨fun env Q Q' i q => he.mono _ _ _ (fun ev env1 q => wr_mono (fun d q => asT_mono (fun ds q => i _ _ q) q) q) q, (pe_revT he.run).mono fun σ H Q => ?_⟩
  rintro ⟨F, env, R, q⟩
  refine ⟨F, env, R, he.mono _ _ _ (fun ev env1 q F1 H1 x E1 R1 V1 => ?_) q⟩
  obtain ⟨d, e1, q⟩ := wr_get q
  obtain ⟨ds, rfl, q⟩ := asT_get q
  have t := tp_of R1 V1 e1
  have fin : ∀ H' v, Res X.K F1 H1 H' v (.tuple ds.reverse) → Q v H' := fun H' v r => by
    obtain ⟨F4, E4, R4, r4⟩ := Res.frz R1 r
    exact q F4 H' v (E1.trans E4) R4 r4
  cases t with
  | tup ht r => exact ⟨_, _, rfl, (seqT_same R1.sub ht).sq, fun p o hp ho => fin _ _ (.tup hp ho (rpAll_rev r))⟩
end
end Dx
namespace Fx
open PySem L2 Dx
section
variable {α β γ σ : Type} {E : XP} {env : Dn} {κ : γ → Kd} {P : Program} {w : World}
variable {ta tb tc te tk td tv : DT} {ma mb mc me mk mv : Tr Dt} {tz : DTa} {n : Nat} {t u : DTS} {m : Tr γ}
def revTT (a : Tr Dt) : Tr Dt := bnd a fun d => bnd (lift (asTD d)) fun ds => ret (.tuple ds.reverse)
theorem sd_revT (h : SR E te env me) : SD E (kRevT te) env (revTT me) := fun Q w =>
  h _ (Tr.post w fun d w ev e => wr_of e (by
    obtain ⟨b, e, w⟩ := wr_get w
    cases d <;> simp [asTD] at e
    subst e
    exact w))
theorem w_revTT {a : Tr Dt} {Q : Dt → Prop} : (revTT a).wp Q E = a.wp (fun d => wr (asTD d) fun ds => Q (.tuple ds.reverse)) E := rfl
instance i_w_revTT {a : Tr Dt} {Q : Dt → Prop} : Sw ((revTT a).wp Q E) (a.wp (fun d => wr (asTD d) fun ds => Q (.tuple ds.reverse)) E) := ⟨fun h => (Iff.of_eq w_revTT).mpr h⟩
end
end Fx
namespace Dx
open PySem PySem.Spec L2
section
variable {X : Cx} {pos : Pos} {n : Nat}
def sAug (g : Int → Int → Int) (i : Nat) (te : DT) : DTS := fun E env => ∃ a, env[i]? = some (some (.dat (.int a))) ∧ te env fun ev env1 => ∃ b, rs env1 ev = some (.int b) ∧ E.nx (env1.set i (some (.dat (.int (g a b)))))
theorem ds_aug {g : Int → Int → Int} {op : Operator} {i : Nat} {x : Str} {e : Expr} {te : DT} {pos' : Pos} (ho : PIp X op (ipI g)) (hN : X.N.Nodup) (hi : X.N[i]? = some x) (hx : Loc X.env.scope x) (he : DE X e te) (hn : n ≤ i := by decide) (hf : X.fn x = true ∨ X.env.scope.names.lookup x = some .local := by first | exact .inl rfl | exact .inr rfl | assumption) :
    DS X n (.AugAssign (.Name x pos') op e pos) (sAug g i te) := ⟨(ps_aug hN hi hx he.run ho hf).mono fun D σ H => by
  rintro ⟨F, env, E, R, q, l⟩
  obtain ⟨a, ea, q⟩ := q
  obtain ⟨v, ev, rv⟩ := R.val i _ ea
  replace rv : Rp X.K F v (.int a) := rv
  cases rv
  refine ⟨.int a, ev, F, env, R, he.mono _ _ _ (fun ew env1 q F1 H1 w E1 R1 V1 => ?_) q⟩
  obtain ⟨b, eb, q⟩ := q
  have t := tp_of R1 V1 eb
  cases t
  refine ⟨a, b, rfl, rfl, ?_⟩
  have V2 : RepE X.K F1 H1 σ env1 H (.int (g a b)) (Dv.ev (.dat (.int (g a b)))) := (Rp.int _ : Rp X.K F1 (.int (g a b)) (.int (g a b)))
  exact l.nx _ _ _ _ (ext_set E1 R1 V2 hn) (rep_set R1 V2) q⟩
end
end Dx
namespace Fx
open PySem L2 Dx
section
variable {α β γ σ : Type} {E : XP} {env : Dn} {κ : γ → Kd} {P : Program} {w : World}
variable {ta tb tc te tk td tv : DT} {ma mb mc me mk mv : Tr Dt} {tz : DTa} {n : Nat} {t u : DTS} {m : Tr γ}
def augT (g : Int → Int → Int) (x : Dt) (a : Tr Dt) : Tr Dt := bnd (lift (asID x)) fun i => bnd a fun d => bnd (lift (asID d)) fun j => ret (.int (g i j))
theorem ss_aug {g : Int → Int → Int} {i : Nat} {x : Dt} {env' : Dt → Dn} {mu : Dt → Tr γ} (h : SR E te env me) (hx : env[i]? = some (some (.dat x))) (he : ∀ d, env.set i (some (.dat d)) = env' d) (hu : ∀ d, SS E u (env' d) (mu d) κ) : SS E (sSeq (sAug g i te) u) env (bnd (augT g x me) mu) κ := fun D hE w => by
  obtain ⟨a, ea, w⟩ := wr_get w
  cases x <;> simp [asID] at ea
  subst ea
  refine ⟨_, hx, h _ (Tr.post (m := me) w fun d w ev e => ?_)⟩
  obtain ⟨b, eb, w⟩ := wr_get w
  cases d <;> simp [asID] at eb
  subst eb
  refine ⟨_, e, ?_⟩
  show u D (env.set i (some (.dat _)))
  rw [he]
  exact hu _ D hE w
theorem w_augT {g : Int → Int → Int} {x : Dt} {a : Tr Dt} {Q : Dt → Prop} : (augT g x a).wp Q E = wr (asID x) fun i => a.wp (fun d => wr (asID d) fun j => Q (.int (g i j))) E := rfl
instance i_w_augT {g : Int → Int → Int} {x : Dt} {a : Tr Dt} {Q : Dt → Prop} : Sw ((augT g x a).wp Q E) (wr (asID x) fun i => a.wp (fun d => wr (asID d) fun j => Q (.int (g i j))) E) := ⟨fun h => (Iff.of_eq w_augT).mpr h⟩
end
end Fx
namespace Dx
open PySem PySem.Spec L2
section
variable {X : Cx} {pins : List (Addr × Obj)} {σ : L2.St} {H : Hp} {s : Shared} {A : Around} {E : Value → Shared → Prop} {a : Addr} {y d : V} {u r : Value} {o : Option V}
theorem dg_get2 {Q : Value → Shared → Prop} (hu : A.units + 1 < cLine) (I : Inv X pins σ H s) (g : DGt X H a y o) (ry : RelV y u) (rd : RelV d r) (h : ∀ w' s', Inv X pins σ H s' → RelV (o.getD d) w' → Q w' s') :
    wpAny (model X.prog X.w) A (call (.builtin "dict.get") [.ref a, u, r]) Q E s := by
  obtain ⟨xs, k, b, ha, hk, rfl, hb, l⟩ := g
  cases (show u = Value.ref b from ry)
  obtain ⟨hd, ht, _, dd⟩ := dct_at I ha
  exact call_meetsIn PySem.F.slot_dict_get ht PySem.F.entry_dict_get (PySem.F.args_dict_get_3 _ _ _) (meetsH_dict_get_default (tupleKind (mixKind X.prog X.w)) a b hd r) ⟨tupleKind_room_in1 hu, k, xs, key_told I hb, dd hk, h _ _ (I.tok _) (l.getD rd)⟩
end
section
variable {X : Cx} {o e f : Expr} {pos apos cpos : Pos} {td ty tx : TE}
def tXGet2 (X : Cx) (td ty tx : TE) : TE := fun σ H Q => td σ H fun x H1 => ∃ a xs, x = .ref a ∧ H1 a = some (DctO X.prog X.w a xs) ∧ ty σ H1 fun y H2 => tx σ H2 fun z H3 => ∃ o, DGt X H3 a y o ∧ Q (o.getD z) H3
theorem pe_xget2 (hu : X.A.units + 1 < cLine) (ho : PE X o td) (he : PE X e ty) (hf : PE X f tx) (m : M2 X o "get" apos e f cpos) : PE X (.Call (.Attribute o "get" apos) [e, f] [] cpos) (tXGet2 X td ty tx) := by
  refine ⟨fun pins s σ H Q I h => ?_⟩
  refine wpAny_Call_method m.base m.few m.line PySem.F.plainAttrs_dict PySem.F.slot_dict_get PySem.F.type_dict_get (thn (ho.run pins s σ H _ I h) fun u s1 ⟨x, H1, I1, rx, a, xs, ex, d, q1⟩ => ?_)
  subst ex
  obtain rfl : u = Value.ref a := rx
  obtain ⟨_, t1, t2, _⟩ := dct_at I1 d
  refine ⟨t1, t2, ?_⟩
  rw [m.trees]
  refine Calls.callWith_builtin rfl (Calls.evalArgs_plain (Calls.spliced_cons (thn (he.run pins s1 σ H1 _ I1 q1) fun iv s2 ⟨y, H2, I2, ry, q2⟩ =>
    Calls.spliced_cons (thn (hf.run pins s2 σ H2 _ I2 q2) fun fv s3 ⟨z, H3, I3, rz, ov, g, q3⟩ => Calls.spliced_nil ?_))))
  exact dg_get2 hu I3 g ry rz fun w' s4 I4 rw' => ⟨_, H3, I4, rw', q3⟩
def kXg2 (P : Program) (w : World) (td tk tf : DT) : DT := fun env Q => td env fun ed env1 => asX P w ed fun kvs => tk env1 fun ek env2 => tf env2 fun ef env3 => as1 ef fun d0 => wr ((rs env3 ek).bind keyT) fun k => Q (.dat ((gtT kvs k).getD d0)) env3
theorem de_xg2 {td tk tf : DT} (hu : X.A.units + 1 < cLine) (ho : DE X o td) (he : DE X e tk) (hf : DE X f tf) (m : M2 X o "get" apos e f cpos) : DE X (.Call (.Attribute o "get" apos) [e, f] [] cpos) (kXg2 X.prog X.w td tk tf) := by
  refine ⟨fun env Q Q' m q => ho.mono _ _ _ (fun ed env1 q => asX_mono (fun kvs q => he.mono _ _ _ (fun ek env2 q => hf.mono _ _ _ (fun ef env3 q => as1_mono (fun d0 q => wr_mono (fun k q => m _ _ q) q) q) q) q) q) q, (pe_xget2 hu ho.run he.run hf.run m).mono fun σ H Q => ?_⟩
  rintro ⟨F, env, R, q⟩
  refine ⟨F, env, R, ho.mono _ _ _ (fun ed env1 q F1 H1 x E1 R1 V1 => ?_) q⟩
  obtain ⟨kvs, rfl, q⟩ := q
  have V1' := V1
  obtain ⟨a0, rfl, hf0, ro, hno, hH⟩ := V1'
  obtain ⟨xs, hp, r⟩ := repO_dct ro
  refine ⟨a0, xs, rfl, hp, F1, env1, R1, he.mono _ _ _ (fun ek env2 q F2 H2 y E2 R2 V2 => ⟨F2, env2, R2, hf.mono _ _ _ (fun ef env3 q F3 H3 z E3 R3 V3 => ?_) q⟩) q⟩
  obtain ⟨d0, rfl, q⟩ := as1_get q
  obtain ⟨k, e2, q⟩ := wr_get q
  obtain ⟨dk, e3, e4⟩ := Option.bind_eq_some_iff.mp e2
  obtain ⟨b, rfl, hb⟩ := tp_keyT R3.sub (tp_of R3 (V2.move E3) e3) e4
  obtain ⟨a1, ea, hf1, ro1, hno1, hH1⟩ := (V1.move E2).move E3
  cases ea
  obtain ⟨xs1, hp1, r1⟩ := repO_dct ro1
  rcases dgt_of R3.sub hp1 r1 hb with ⟨g1, g2⟩ | ⟨d', v, g1, g2, g3⟩
  · rw [g1] at q
    exact ⟨none, g2, q F3 H3 z ((E1.trans E2).trans E3) R3 V3⟩
  · rw [g1] at q
    exact ⟨some v, g2, q F3 H3 v ((E1.trans E2).trans E3) R3 g3⟩
end
end Dx
namespace Fx
open PySem L2 Dx
section
variable {α β γ σ : Type} {E : XP} {env : Dn} {κ : γ → Kd} {P : Program} {w : World}
variable {ta tb tc te tk td tv tf : DT} {ma mb mc me mk mv mf : Tr Dt} {md : Tr Kt} {tz : DTa} {n : Nat} {t u : DTS} {m : Tr γ}
def xg2T (a : Tr Kt) (b c : Tr Dt) : Tr Dt := bnd a fun kvs => bnd b fun k => bnd c fun d0 => bnd (lift (keyT k)) fun k => ret ((gtT kvs k).getD d0)
theorem sd_xg2 (hd : SE E td env md (fun kvs => .new (dct P w kvs)) (fun _ => env)) (hk : SR E tk env mk) (hf : SD E tf env mf) : SD E (kXg2 P w td tk tf) env (xg2T md mk mf) := fun Q w =>
  hd _ (Tr.post w fun kvs w => ⟨kvs, rfl, hk _ (Tr.post w fun k w ev e => hf _ (Tr.post w fun d0 w => by
    show wr ((rs env ev).bind keyT) _
    rw [e]
    obtain ⟨s, es, w'⟩ := wr_get w
    exact wr_of es w'))⟩)
theorem w_xg2T {a : Tr Kt} {b c : Tr Dt} {Q : Dt → Prop} : (xg2T a b c).wp Q E = a.wp (fun kvs => b.wp (fun k => c.wp (fun d0 => wr (keyT k) fun k => Q ((gtT kvs k).getD d0)) E) E) E := rfl
instance i_w_xg2T {a : Tr Kt} {b c : Tr Dt} {Q : Dt → Prop} : Sw ((xg2T a b c).wp Q E) (a.wp (fun kvs => b.wp (fun k => c.wp (fun d0 => wr (keyT k) fun k => Q ((gtT kvs k).getD d0)) E) E) E) := ⟨fun h => (Iff.of_eq w_xg2T).mpr h⟩
end
end Fx
namespace Zl
open PySem
section
variable {prog : Program} {w : World} {z TI TO i1 i2 : Addr} {fp1 fp2 : List Addr} {n1 n2 : Nat} {P1 P2 : Nat → Value → Prop} {St1 St2 : Nat → Heap → Prop}
theorem pairArg_zipD (A0 : Around) (hA0 : A0.handled = none) (D : ZipSep2 z TI TO i1 i2 fp1 fp2) (D1 : ∀ A : Around, A.handled = none → Draws prog w A i1 fp1 n1 P1 St1) (D2 : ∀ A : Around, A.handled = none → Draws prog w A i2 fp2 n2 P2 St2) :
    PairArg prog w "zip" z (z :: TI :: TO :: i1 :: i2 :: (fp1 ++ fp2)) [z, TO, i1, i2] (min n1 n2) (fun i k v => P1 i k ∧ P2 i v)
      (fun h => IsZip h z TI TO .none ∧ IsTupOf2 h TI (.ref i1) (.ref i2) ∧ (∃ a b, IsTupOf2 h TO a b) ∧ St1 0 h ∧ St2 0 h ∧ ∀ b ∈ fp1 ++ fp2, ∃ o, h.get? b = some o) where
  type := fun s ok => ⟨_, ok.1, rfl⟩
  notDict := by decide
  keep := fun h h' ok hk => by
    obtain ⟨hz, hTI, ⟨a, b, hTO⟩, s1, s2, th⟩ := ok
    exact ⟨hk _ _ hz, hk _ _ hTI, ⟨a, b, hk _ _ hTO⟩, (D1 A0 hA0).frame _ _ _ s1 fun b _ o e => hk b o e, (D2 A0 hA0).frame _ _ _ s2 fun b _ o e => hk b o e, fun b hb => let ⟨o, e⟩ := th b hb; ⟨o, hk _ _ e⟩⟩
  there := fun h ok b hb => by
    obtain ⟨hz, hTI, ⟨a, c, hTO⟩, s1, s2, th⟩ := ok
    simp only [List.mem_cons] at hb
    rcases hb with rfl | rfl | rfl | rfl | rfl | hb
    · exact ⟨_, hz⟩
    · exact ⟨_, hTI⟩
    · exact ⟨_, hTO⟩
    · exact (D1 A0 hA0).live _ _ s1
    · exact (D2 A0 hA0).live _ _ s2
    · exact th b hb
  sub := fun b hb => by simp at hb ⊢; rcases hb with rfl | rfl | rfl | rfl <;> simp
  noKeys := fun A s Q E hA ok h => getAttrOr_miss_zip ok.1 rfl rfl rfl zip_no_keys (by decide +kernel) hA h
  iter := fun A s d Q E hA ok hd hdf h => by
    obtain ⟨hz, hTI, ⟨a, b, hTO⟩, s1, s2, th⟩ := ok
    simp only [List.mem_cons, List.mem_append, not_or] at hdf
    obtain ⟨dz, dTI, dTO, di1, di2, df1, df2⟩ := hdf
    have L : Lay z TI TO i1 i2 d fp1 fp2 := ⟨D, Ne.symm dz, Ne.symm dTI, Ne.symm dTO, Ne.symm di1, Ne.symm di2, df1, df2⟩
    refine wpAny_pyIter_zip hz (h z [z, TO, i1, i2] (ZSt z TI TO i1 i2 d St1 St2) s.heap s.toks ?_ ⟨hTI, s1, s2, .inl ⟨hz, a, b, hTO⟩⟩ (fun _ _ e => e) fun b hb => .inl hb)
    exact {
      off := fun hm => by
        simp only [List.mem_cons, List.not_mem_nil, or_false] at hm
        rcases hm with e | e | e | e
        · exact dz e
        · exact dTO e
        · exact di1 e
        · exact di2 e
      frame := fun i h₁ h₂ st hk => st.keep L (D1 A hA) (D2 A hA) hk
      item := fun i s₁ Q₁ E₁ hi st hds hQ => by
        refine zst_item L (D1 A.in1 hA) (D2 A.in1 hA) st hds (Nat.lt_of_lt_of_le hi (Nat.min_le_left ..)) (Nat.lt_of_lt_of_le hi (Nat.min_le_right ..)) fun x1 x2 h' tk y1 y2 st' a5 a6 hk => ?_
        exact hQ s₁.heap.objs.size _ _ h' tk ⟨y1, y2⟩ (.inl ⟨_, a5, rfl, _, rfl⟩) st' fun c o hc e => hk c o (fun x => hc (by simp [x])) (fun x => hc (by simp [x])) (fun x => hc (by simp [x])) (fun x => hc (by simp [x])) e
      done := fun s₁ Q₁ E₁ st hQ => by
        refine zst_done L (D1 A.in1 hA) (D2 A.in1 hA) st (Nat.min_le_left ..) (Nat.min_le_right ..) ?_ fun h' tk hk => hQ h' tk fun c o hc e => hk c o (fun x => hc (by simp [x])) (fun x => hc (by simp [x])) (fun x => hc (by simp [x])) (fun x => hc (by simp [x])) e
        rcases Nat.le_total n1 n2 with h | h
        · exact .inl (Nat.min_eq_left h)
        · exact .inr (Nat.min_eq_right h) }
end
end Zl
namespace Dx
open PySem PySem.Spec L2 Zl
/-- what an iterable draws, as values -/
def ZE (X : Cx) (u : Value) (us : List V) (s : Shared) : Prop := ∃ (o : Obj) (Hb : Heap → Prop) (more : List Addr) (P : Nat → Value → Prop), Begins u o Hb ∧ Hb s.heap ∧ (∀ b ∈ more, ∃ o, s.heap.get? b = some o) ∧ (∀ j v, P j v → ∃ y, us[j]? = some y ∧ RelV y v) ∧
  ∀ (it : Addr), s.heap.objs.size ≤ it → ∃ St : Nat → Heap → Prop, (∀ A : Around, A.handled = none → Draws X.prog X.w A it (it :: more) us.length P St) ∧ ∀ h' : Heap, (∀ b o', s.heap.get? b = some o' → h'.get? b = some o') → h'.get? it = some o → St 0 h'
theorem ze_str {X : Cx} {s : Shared} (x : Str) (t : Tok) : ZE X (.str x t) ((signs x).map V.str) s := by
  refine ⟨_, _, [], (fun i v => ∃ c u, x.cps[i]? = some c ∧ v = .str ⟨#[c]⟩ u), begins_text x t, trivial, (fun b h => nomatch h), ?_, fun it hit => ⟨(fun i h => h.IsStrIter it (strIterType x) x t i), fun A hh => ?_, fun h' hk e => ?_⟩⟩
  rotate_left
  · have := Draws.text (prog := X.prog) (w := X.w) hh it x t
    rw [show ((signs x).map V.str).length = x.cps.size by simp [signs]]
    exact this
  · exact ⟨_, e, rfl, rfl⟩
  · rintro j v ⟨c, u, e, rfl⟩
    exact ⟨.str ⟨#[c]⟩, by simp [signs, e], u, rfl⟩
theorem ze_tup {X : Cx} {s : Shared} {pins : List (Addr × Obj)} {σ : L2.St} {H : Hp} {b : Addr} {us : List V} (I : Inv X pins σ H s) (h : SqT X.K H b us) : ZE X (.ref b) us s := by
  obtain ⟨its, rv, p1, _⟩ := I.tuple h
  have p1 : s.heap.IsTuple b its.toArray := p1
  obtain ⟨o, ho, _⟩ := id p1
  have hlt := Heap.lt_size ho
  refine ⟨_, _, [b], (fun i v => its.toArray[i]? = some v), begins_tuple b its.toArray, p1, (fun c hc => (List.mem_singleton.mp hc) ▸ ⟨o, ho⟩), ?_, fun it hit => ⟨(fun i h => h.IsTupleIter it b i ∧ h.IsTuple b its.toArray), fun A hh => ?_, fun h' hk e => ?_⟩⟩
  rotate_left
  · have := Draws.tuple (prog := X.prog) (w := X.w) hh it b (Nat.ne_of_lt (Nat.lt_of_lt_of_le hlt hit)) its.toArray
    rw [show us.length = its.toArray.size by simp [rv.length]]
    exact this
  · exact ⟨⟨_, e, rfl, rfl⟩, p1.at fun o e => hk _ o e⟩
  · intro j v e
    have e : its[j]? = some v := by simpa using e
    have key : ∀ {us : List V} {its : List Value}, Vals us its → ∀ {j : Nat} {v : Value}, its[j]? = some v → ∃ y, us[j]? = some y ∧ RelV y v := by
      intro us its rv
      induction rv with
      | nil => intro j v e; simp at e
      | cons h t ih =>
        intro j v e
        cases j with
        | zero => simp at e; subst e; exact ⟨_, rfl, h⟩
        | succ j => simpa using ih (by simpa using e)
    exact key rv e
theorem ze_lst {X : Cx} {s : Shared} {pins : List (Addr × Obj)} {σ : L2.St} {H : Hp} {b : Addr} {us : List V} (I : Inv X pins σ H s) (h : SqL X.K H b us) : ZE X (.ref b) us s := by
  obtain ⟨its, rv, p0, _⟩ := I.list h
  have p1 : s.heap.IsList b its.toArray := p0.isList
  obtain ⟨o, ho, _⟩ := id p1
  have hlt := Heap.lt_size ho
  refine ⟨_, _, [b], (fun i v => its.toArray[i]? = some v), begins_list b its.toArray, p1, (fun c hc => (List.mem_singleton.mp hc) ▸ ⟨o, ho⟩), ?_, fun it hit => ⟨(fun i h => h.IsListIter it b i ∧ h.IsList b its.toArray), fun A hh => ?_, fun h' hk e => ?_⟩⟩
  rotate_left
  · have := Draws.list (prog := X.prog) (w := X.w) hh it b (Nat.ne_of_lt (Nat.lt_of_lt_of_le hlt hit)) its.toArray
    rw [show us.length = its.toArray.size by simp [rv.length]]
    exact this
  · exact ⟨⟨_, e, rfl, rfl⟩, p1.at fun o e => hk _ o e⟩
  · intro j v e
    have e : its[j]? = some v := by simpa using e
    have key : ∀ {us : List V} {its : List Value}, Vals us its → ∀ {j : Nat} {v : Value}, its[j]? = some v → ∃ y, us[j]? = some y ∧ RelV y v := by
      intro us its rv
      induction rv with
      | nil => intro j v e; simp at e
      | cons h t ih =>
        intro j v e
        cases j with
        | zero => simp at e; subst e; exact ⟨_, rfl, h⟩
        | succ j => simpa using ih (by simpa using e)
    exact key rv e
def ZW (K : PySem.W.Frag) (H : Hp) (v : V) (us : List V) : Prop := ZV K H v us ∨ ∃ b, v = .ref b ∧ SqL K H b us
theorem ZW.e {X : Cx} {pins : List (Addr × Obj)} {σ : L2.St} {H : Hp} {s : Shared} {v : V} {u : Value} {us : List V} (z : ZW X.K H v us) (I : Inv X pins σ H s) (r : RelV v u) : ZE X u us s := by
  rcases z with (⟨x, rfl, rfl⟩ | ⟨b, rfl, h⟩) | ⟨b, rfl, h⟩
  · obtain ⟨t, rfl⟩ := r
    exact ze_str x t
  · obtain rfl : u = Value.ref b := r
    exact ze_tup I h
  · obtain rfl : u = Value.ref b := r
    exact ze_lst I h
section
variable {X : Cx} {pos : Pos}
theorem vals_at {us : List V} {its : List Value} (rv : Vals us its) : ∀ {j : Nat} {v : Value}, its[j]? = some v → ∃ y, us[j]? = some y ∧ RelV y v := by
  induction rv with
  | nil => intro j v e; simp at e
  | cons h t ih =>
    intro j v e
    cases j with
    | zero => simp at e; subst e; exact ⟨_, rfl, h⟩
    | succ j => simpa using ih (by simpa using e)
theorem kv_zip : ∀ {ks : List Key} {us : List V} {its : List Value}, Vals us its → KV (ks.zip us) (ks.zip its)
  | [], _, _, _ => .nil
  | _ :: _, _, _, .nil => .nil
  | k :: ks, _, _, .cons h t => .cons ⟨rfl, h⟩ (kv_zip t)
def tDZip (K : PySem.W.Frag) (ta : TA) : TE := fun σ H Q => ta σ H fun vs H1 => ∃ (v1 : V) (b2 : Addr) (us2 : List V) (ks : List Key), vs = [v1, .ref b2] ∧ ZW K H1 v1 (ks.map kV) ∧ SqT K H1 b2 us2 ∧ min ks.length us2.length ≤ sizeLine ∧
  ∀ (S : Addr), H1 S = none → Q (.ref S) (upd H1 S (.dK (mergeK [] (ks.zip us2))))
theorem pe_dzip {a b : Expr} {ta : TA} {p p2 pos2 : Pos} (hc : X.calm = true) (hg : Gl X "dict") (hm : X.mg "dict" = none) (hg2 : Gl X "zip") (hm2 : X.mg "zip" = none) (ha : PA X [a, b] ta)
    (hs : starEach [.Call (.Name "zip" p2) [a, b] [] pos2] X.env = (false, eval (.Call (.Name "zip" p2) [a, b] [] pos2) X.env) :: starEach [] X.env := by rfl)
    (hs2 : starEach [a, b] X.env = (false, eval a X.env) :: starEach [b] X.env := by rfl) (hpl : (backTo pos2 (starEach [b] X.env)).any (·.1) = false := by rfl) :
    PE X (.Call (.Name "dict" p) [.Call (.Name "zip" p2) [a, b] [] pos2] [] pos) (tDZip X.K ta) := by
  refine ⟨fun pins s σ H Q I hq => ?_⟩
  refine wpAny_Call_Name_kw (ld_blt I hg hm (u := .type "dict") (by decide +kernel) ?_)
  refine PyProof.Rows.callWith_type1 ?_ hs rfl
  rw [hs]
  show wpAny _ _ (spliced ((false, eval (.Call (.Name "zip" p2) [a, b] [] pos2) X.env) :: backTo pos (starEach [] X.env))) _ _ s
  refine Calls.spliced_cons ?_
  refine PyProof.Rows.Call_ (ld_blt I hg2 hm2 PyProof.Rows.boot_zip (PyProof.Rows.callWith_type1 (thn (ha.run pos2 pins s σ H _ I hq) fun us s1 ⟨vs, H1, I1, r1, q1⟩ => ?_) hs2 hpl))
  obtain ⟨v1, b2, us2, ks, rfl, z1, z2, hz, q⟩ := q1
  cases r1 with
  | cons ra rr =>
    cases rr with
    | cons rb rr =>
      cases rr
      cases (show _ = Value.ref b2 from rb)
      obtain ⟨o1, Hb1, m1, P1, B1, hb1, mm1, rel1, dr1⟩ := z1.e I1 ra
      obtain ⟨its2, rv2, p2', _⟩ := I1.tuple z2
      have p2' : s1.heap.IsTuple b2 its2.toArray := p2'
      obtain ⟨o2, ho2, _⟩ := id p2'
      have hlt2 := Heap.lt_size ho2
      refine zip_begins2 B1 (begins_tuple b2 its2.toArray) hb1 p2' fun h' iz iTI iTO e1 e2 hsz hk => ?_
      refine Calls.spliced_nil ?_
      obtain ⟨St1, D1, s01⟩ := dr1 s1.heap.objs.size (Nat.le_refl _)
      have hh : X.A.handled = none := I1.ok.hd hc
      have D2 : ∀ A : Around, A.handled = none → Draws X.prog X.w A (s1.heap.objs.size + 1) [s1.heap.objs.size + 1, b2] its2.toArray.size (fun i v => its2.toArray[i]? = some v) (fun i h => h.IsTupleIter (s1.heap.objs.size + 1) b2 i ∧ h.IsTuple b2 its2.toArray) := fun A hA =>
        Draws.tuple (prog := X.prog) (w := X.w) hA (s1.heap.objs.size + 1) b2 (Nat.ne_of_lt (Nat.lt_of_lt_of_le hlt2 (Nat.le_succ _))) its2.toArray
      have n1 : ∀ k, s1.heap.objs.size + k ∉ m1 := fun k hm => ltA (let ⟨_, e⟩ := mm1 _ hm; Heap.lt_size e) (by omega)
      have n2 : ∀ k, s1.heap.objs.size + k ∉ [b2] := fun k hm => ltA (show (show Addr from s1.heap.objs.size + k) < s1.heap.objs.size from (List.mem_singleton.mp hm) ▸ hlt2) (by omega)
      have Sp : ZipSep2 (s1.heap.objs.size + 4) (s1.heap.objs.size + 2) (s1.heap.objs.size + 3) s1.heap.objs.size (s1.heap.objs.size + 1) (s1.heap.objs.size :: m1) ((s1.heap.objs.size + 1) :: [b2]) := by
        refine ⟨neA (by omega), neA (by omega), neA (by omega), neA (by omega), List.mem_cons_self .., ?_, ?_, neA (by omega), List.mem_cons_self .., ?_, ?_, ?_, ?_⟩
        · simp only [List.mem_cons, not_or]; exact ⟨neA (by omega), n1 4⟩
        · simp only [List.mem_cons, not_or]; exact ⟨neA (by omega), n1 3⟩
        · rw [List.mem_cons, not_or]; exact ⟨neA (by omega), n2 4⟩
        · rw [List.mem_cons, not_or]; exact ⟨neA (by omega), n2 3⟩
        · rw [List.mem_cons, not_or]; exact ⟨neA (by omega), n2 0⟩
        · simp only [List.mem_cons, not_or]; exact ⟨neA (by omega), n1 1⟩
      have pa := pairArg_zipD (prog := X.prog) (w := X.w) X.A hh Sp D1 D2
      have th : ∀ b ∈ (s1.heap.objs.size :: m1) ++ ((s1.heap.objs.size + 1) :: [b2]), ∃ o, h'.get? b = some o := by
        intro b hb
        have low : ∀ b, (∃ o, s1.heap.get? b = some o) → ∃ o, h'.get? b = some o := fun b ⟨o, e⟩ => ⟨o, hk b o e⟩
        simp only [List.mem_append, List.mem_cons, List.not_mem_nil, or_false] at hb
        rcases hb with (rfl | hb) | rfl | rfl
        · exact ⟨_, e1⟩
        · exact low b (mm1 b hb)
        · exact ⟨_, e2⟩
        · exact low _ ⟨_, ho2⟩
      have hlen2 : its2.length = us2.length := rv2.length.symm
      refine PySem.call_dict_pairs (s := { s1 with heap := h' }) (knd := mixKind X.prog X.w) (kvs := ks.zip its2) pa hh ⟨iz, iTI, ⟨_, _, iTO⟩, s01 h' hk e1, ⟨⟨_, e2, rfl, rfl⟩, p2'.at fun o e => hk _ o e⟩, th⟩ ⟨?_, fun j key v e => ?_⟩ ?_ fun h2 tk hd' k => ?_
      · simp only [List.length_zip, List.length_map, List.size_toArray]
      · obtain ⟨e3, e4⟩ := e
        obtain ⟨y, e5, e6⟩ := rel1 j key e3
        rw [List.getElem?_map] at e5
        obtain ⟨kk, e7, rfl⟩ := Option.map_eq_some_iff.mp e5
        have e4 : its2[j]? = some v := by simpa using e4
        exact ⟨kk, by simp [List.getElem?_zip_eq_some, e7, e4], kV_is e6⟩
      · simp only [List.length_map, List.size_toArray, hlen2]
        exact hz
      · have hsz' : s1.heap.objs.size ≤ h'.objs.size := by rw [hsz]; exact Nat.le_add_right _ _
        have hm : (h'.objs.size == sysModules) = false := beq_eq_false_iff_ne.mpr (Nat.ne_of_gt (Nat.lt_of_lt_of_le I1.big hsz'))
        have hl : (mergeK [] (ks.zip us2)).length ≤ sizeLine := by
          refine Nat.le_trans (length_mergeK _ []) ?_
          rw [List.length_nil, Nat.zero_add, List.length_zip]
          exact hz
        have kp : ∀ b o, s1.heap.get? b = some o → h2.get? b = some o := fun b o e => by
          have lt := Heap.lt_size e
          have ne : ∀ k, b ≠ s1.heap.objs.size + k := fun k => Nat.ne_of_lt (Nat.lt_of_lt_of_le lt (Nat.le_add_right _ _))
          refine k b o ?_ (hk b o e)
          simp only [List.mem_cons, List.not_mem_nil, or_false, not_or]
          exact ⟨ne 4, ne 3, ne 0, ne 1⟩
        exact ⟨.ref h'.objs.size, upd H1 h'.objs.size (.dK (mergeK [] (ks.zip us2))), I1.laid (t' := tk) kp hsz' ⟨hl, hm, merged [] (ks.zip its2), KV.merge (kv_zip rv2) .nil, hd'⟩, rfl, q _ (I1.hok.fresh hsz')⟩
end
open PySem PySem.Spec L2 Zl
section
variable {X : Cx} {pos : Pos}
def ksD : List Dt → Option (List Str)
  | [] => some []
  | .str k :: r => (ksD r).map fun l => k :: l
  | _ :: _ => none
theorem ksD_nm : ∀ ks : List Str, ksD (ks.map PyData.str) = some ks
  | [] => rfl
  | k :: r => by simp only [List.map_cons, ksD, ksD_nm r, Option.map_some]
theorem ksD_rp {K : PySem.W.Frag} {F : Hp} : ∀ {vs : List V} {ds : List Dt} {ks : List Str}, RpAll K F vs ds → ksD ds = some ks → vs = (ks.map fun k => (Sum.inr k : Key)).map kV
  | _, [], _, h, e => by cases h; cases e; rfl
  | _, .str k :: ds, ks, h, e => by
    simp only [ksD, Option.map_eq_some_iff] at e
    obtain ⟨l, e1, rfl⟩ := e
    cases h with
    | cons r t =>
      cases r
      rw [ksD_rp t e1]
      rfl
  | _, .none :: _, _, _, e => by cases e
  | _, .bool _ :: _, _, _, e => by cases e
  | _, .int _ :: _, _, _, e => by cases e
  | _, .list _ :: _, _, _, e => by cases e
  | _, .tuple _ :: _, _, _, e => by cases e
  | _, .dict _ :: _, _, _, e => by cases e
theorem kvR_zip {K : PySem.W.Frag} {F : Hp} : ∀ (ks : List Str) {vs : List V} {ds : List Dt}, RpAll K F vs ds → KvR K F ((ks.map fun k => (Sum.inr k : Key)).zip vs) (ks.zip ds)
  | [], _, _, _ => trivial
  | _ :: _, _, _, .nil => trivial
  | k :: ks, _, _, .cons h t => ⟨rfl, h, kvR_zip ks t⟩
def zArgW : Dt → Option (List Dt)
  | .list ds => some ds
  | d => zArg d
theorem zArgW_v {K : PySem.W.Frag} {F H : Hp} {v : V} {d : Dt} {ds : List Dt} (sm : Same F H) (h : Rp K F v d) (e : zArgW d = some ds) : ∃ us, ZW K H v us ∧ RpAll K F us ds := by
  cases h with
  | lst s t => cases e; exact ⟨_, .inr ⟨_, rfl, SqL.of (sm _ _ s)⟩, t⟩
  | str x => obtain ⟨us, a, b⟩ := zArg_v sm (.str x) e; exact ⟨us, .inl a, b⟩
  | tup s t => obtain ⟨us, a, b⟩ := zArg_v sm (.tup s t) e; exact ⟨us, .inl a, b⟩
  | _ => cases e
def kDZ (ta : DTa) : DT := fun env Q => ta env fun evs env1 => asD evs fun ds => match ds with
  | [d1, .tuple ys] => wr ((zArgW d1).bind ksD) fun ks => min ks.length ys.length ≤ sizeLine ∧ Q (.new (.dic (mergeS [] (ks.zip ys)))) env1
  | _ => False
theorem de_dzip {a b : Expr} {ta : DTa} {p p2 pos2 : Pos} (hc : X.calm = true) (hg : Gl X "dict") (hm : X.mg "dict" = none) (hg2 : Gl X "zip") (hm2 : X.mg "zip" = none) (ha : DA X [a, b] ta)
    (hs : starEach [.Call (.Name "zip" p2) [a, b] [] pos2] X.env = (false, eval (.Call (.Name "zip" p2) [a, b] [] pos2) X.env) :: starEach [] X.env := by rfl)
    (hs2 : starEach [a, b] X.env = (false, eval a X.env) :: starEach [b] X.env := by rfl) (hpl : (backTo pos2 (starEach [b] X.env)).any (·.1) = false := by rfl) :
    DE X (.Call (.Name "dict" p) [.Call (.Name "zip" p2) [a, b] [] pos2] [] pos) (kDZ ta) := by
  refine ⟨fun env Q Q' i q => ha.mono _ _ _ (fun evs env1 q => asD_mono (fun ds q => ?_) q) q, (pe_dzip hc hg hm hg2 hm2 ha.run hs hs2 hpl).mono fun σ H Q => ?_⟩
  · match ds, q with
    | [d1, .tuple ys], q => exact wr_mono (fun ks q => ⟨q.1, i _ _ q.2⟩) q
  · rintro ⟨F, env, R, q⟩
    refine ⟨F, env, R, ha.mono _ _ _ (fun evs env1 q F1 H1 vs E1 R1 V1 => ?_) q⟩
    obtain ⟨ds, rfl, q⟩ := asD_get q
    have al := V1.dats
    match ds, q with
    | [d1, .tuple ys], q =>
      obtain ⟨ks, e1, hz, q⟩ := wr_get q
      obtain ⟨xs, e1, e2⟩ := Option.bind_eq_some_iff.mp e1
      cases al with
      | cons r1 t1 =>
        cases t1 with
        | cons r2 t2 =>
          cases t2
          obtain ⟨us1, z1, a1⟩ := zArgW_v R1.sub r1 e1
          have e3 := ksD_rp a1 e2
          subst e3
          cases r2 with
          | tup ht r =>
            refine ⟨_, _, _, ks.map fun k => (Sum.inr k : Key), rfl, z1, (seqT_same R1.sub ht).sq, by rw [List.length_map, r.length]; exact hz, fun l hl => ?_⟩
            obtain ⟨R2, E2⟩ := R1.growN hl (.dK (mergeK [] ((ks.map fun k => (Sum.inr k : Key)).zip _)))
            exact q F1 _ (.ref l) (E1.trans E2) R2 ⟨l, rfl, R1.fnone hl, ⟨_, upd_same, kvR_merge (kvR_zip ks r) trivial⟩, R1.not_ow hl, none_back E1 hl⟩
end
end Dx
namespace Fx
open PySem L2 Dx
section
variable {α β γ σ : Type} {E : XP} {env : Dn} {κ : γ → Kd} {P : Program} {w : World}
variable {ta tb tc te tk td tv tf : DT} {ma mb mc me mk mv mf : Tr Dt} {tz : DTa} {mz : Tr (List Dt)} {n : Nat} {t u : DTS} {m : Tr γ}
def dzT (a b : Tr Dt) : Tr Kv := bnd a fun x => bnd b fun y => bnd (lift ((zArgW x).bind ksD)) fun ks => bnd (lift (asTD y)) fun ys => need (min ks.length ys.length ≤ sizeLine) (ret (mergeS [] (ks.zip ys)))
theorem se_dzip (ha : SD E ta env ma) (hb : SD E tb env mb) : SE E (kDZ (kCons ta (kCons tb kNil))) env (dzT ma mb) (fun kvs => .new (.dic kvs)) (fun _ => env) := fun Q w =>
  ha _ (Tr.post w fun x w => hb _ (Tr.post w fun y w => by
    obtain ⟨ks, e1, w⟩ := wr_get w
    obtain ⟨ys, e2, w⟩ := wr_get w
    cases y <;> simp [asTD] at e2
    subst e2
    exact wr_of e1 w))
theorem w_dzT {a b : Tr Dt} {Q : Kv → Prop} : (dzT a b).wp Q E = a.wp (fun x => b.wp (fun y => wr ((zArgW x).bind ksD) fun ks => wr (asTD y) fun ys => min ks.length ys.length ≤ sizeLine ∧ Q (mergeS [] (ks.zip ys))) E) E := rfl
instance i_w_dzT {a b : Tr Dt} {Q : Kv → Prop} : Sw ((dzT a b).wp Q E) (a.wp (fun x => b.wp (fun y => wr ((zArgW x).bind ksD) fun ks => wr (asTD y) fun ys => min ks.length ys.length ≤ sizeLine ∧ Q (mergeS [] (ks.zip ys))) E) E) := ⟨fun h => (Iff.of_eq w_dzT).mpr h⟩
end
end Fx
namespace Dx
open PySem PySem.Spec L2
section
variable {X : Cx} {pos : Pos}
def rToLstS : List V → Hp → VK → Prop := fun xs H Q => ∃ z : Str, xs = [.str z] ∧ z.length ≤ sizeLine ∧ ∀ l, H l = none → Q (.ref l) (upd H l (.lst ((signs z).map V.str)))
theorem call_toLstS (hc : X.calm = true) : CallR X (.type "list") rToLstS := by
  intro pins s σ H xs us Q I r h
  obtain ⟨z, rfl, hz, q⟩ := h
  obtain ⟨u, rfl, rx⟩ := vals1 r
  obtain ⟨t, rfl⟩ := rx
  refine call_list_str (I.ok.hd hc) z t (fun h' tk acc c kp hS hi => ?_) hz
  exact ⟨.ref _, _, I.laid (t' := tk) (o := .lst ((signs z).map V.str)) kp (Nat.le_refl _) ⟨by simp [signs]; exact hz, acc.toList, c, signs_vals hi, by rw [Array.toArray_toList]; exact hS⟩, rfl, q _ (I.hok.fresh (Nat.le_refl _))⟩
def kToLstS (t : DTa) : DTl := fun env Q => t env fun evs env1 => wr (rsL env1 evs) fun ds => match ds with
  | [d] => wr (strK d) fun z => z.length ≤ sizeLine ∧ Q ((signs z).map PyData.str) env1
  | _ => False
theorem dl_listS {e : Expr} {p : Pos} {t : DTa} (hc : X.calm = true) (hg : Gl X "list") (hm : X.mg "list" = none) (ha : DA X [e] t)
    (he : starEach [e] X.env = [(false, eval e X.env)] := by rfl) : DL X (.Call (.Name "list" p) [e] [] pos) (kToLstS t) := by
  refine ⟨fun env Q Q' i q => ha.mono _ _ _ (fun evs env1 q => wr_mono (fun ds q => ?_) q) q, (pe_callTy (call_toLstS hc) hg hm (by decide +kernel) ha.run (by decide) (by decide) he (by rfl)).mono fun σ H Q => ?_⟩
  · revert q
    dsimp only
    split
    · exact fun q => wr_mono (fun xs q => ⟨q.1, i _ _ q.2⟩) q
    · exact fun q => q
  · rintro ⟨F, env, R, q⟩
    refine ⟨F, env, R, ha.mono _ _ _ (fun evs env1 h1 F1 H1 vs E1 R1 V1 => ?_) q⟩
    obtain ⟨ds, e1, h2⟩ := wr_get h1
    dsimp only at h2
    split at h2
    · rename_i d
      obtain ⟨z, e2, hz, h2⟩ := wr_get h2
      have tv := tpA_of R1 V1 e1
      cases tv with
      | cons h t =>
        cases t
        have ev := rp_str h e2
        subst ev
        refine ⟨z, rfl, hz, fun l hl => ?_⟩
        obtain ⟨R2, E2⟩ := R1.growN hl (.lst ((signs z).map V.str))
        refine h2 F1 _ l _ (E1.trans E2) R2 (R1.fnone hl) upd_same (rp_signs _) (R1.not_ow hl) ?_
        cases e : H l with
        | none => rfl
        | some u =>
          obtain ⟨u', z⟩ := E1.there l u e
          rw [hl] at z; cases z
    · exact h2.elim
end
end Dx
namespace Fx
open PySem L2 Dx
section
variable {α β γ σ : Type} {E : XP} {env : Dn} {κ : γ → Kd} {P : Program} {w : World}
variable {ta tb tc te tk td tv tf : DT} {ma mb mc me mk mv mf : Tr Dt} {n : Nat} {t u : DTS} {m : Tr γ}
def lstST (a : Tr Dt) : Tr (List Dt) := bnd a fun d => bnd (lift (strK d)) fun z => need (z.length ≤ sizeLine) (ret ((signs z).map PyData.str))
theorem sl_listS (h : SR E te env me) : SL E (kToLstS (kCons te kNil)) env (lstST me) := fun Q w =>
  h _ (Tr.post w fun d w ev e => by
    show wr (rsL env [ev]) _
    simp only [rsL, e]
    obtain ⟨z, e1, w⟩ := wr_get w
    refine wr_of (a := [d]) rfl ?_
    exact wr_of e1 w)
theorem w_lstST {a : Tr Dt} {Q : List Dt → Prop} : (lstST a).wp Q E = a.wp (fun d => wr (strK d) fun z => z.length ≤ sizeLine ∧ Q ((signs z).map PyData.str)) E := rfl
instance i_w_lstST {a : Tr Dt} {Q : List Dt → Prop} : Sw ((lstST a).wp Q E) (a.wp (fun d => wr (strK d) fun z => z.length ≤ sizeLine ∧ Q ((signs z).map PyData.str)) E) := ⟨fun h => (Iff.of_eq w_lstST).mpr h⟩
end
end Fx
namespace Dx
open PySem PySem.Spec L2
section
variable {X : Cx} {o e : Expr} {apos cpos : Pos} {td ty : TE}
def tDUpd (K : PySem.W.Frag) (td ty : TE) : TE := fun σ H Q => td σ H fun x H1 => ∃ a kvs0, x = .ref a ∧ H1 a = some (.dK kvs0) ∧ ty σ H1 fun y H2 => ∃ (l : Addr) (ps : List Addr) (kvs acc : List (Key × V)), y = .ref l ∧ H2 a = some (.dK acc) ∧ SqL K H2 l (ps.map V.ref) ∧
  Paired (fun p kv => SqT K H2 p [kV kv.1, kv.2]) ps kvs ∧ acc.length + kvs.length ≤ sizeLine ∧ Q .non (upd H2 a (.dK (mergeK acc kvs)))
theorem pe_dupd (hc : X.calm = true) (ho : PE X o td) (he : PE X e ty) (m : M1 X o "update" apos e cpos) : PE X (.Call (.Attribute o "update" apos) [e] [] cpos) (tDUpd X.K td ty) := by
  refine ⟨fun pins s σ H Q I h => ?_⟩
  refine wpAny_Call_method m.base m.few m.line PySem.F.plainAttrs_dict PySem.F.slot_dict_update PySem.F.type_dict_update (thn (ho.run pins s σ H _ I h) fun u s1 ⟨x, H1, I1, rx, a, kvs0, ex, d, q1⟩ => ?_)
  subst ex
  obtain rfl : u = Value.ref a := rx
  obtain ⟨t1, t2, _⟩ := isD_at I1 (.inl ⟨kvs0, .inl d⟩)
  refine ⟨t1, t2, ?_⟩
  rw [m.trees]
  refine Calls.callWith_builtin rfl (Calls.evalArgs_plain (Calls.spliced_cons (thn (he.run pins s1 σ H1 _ I1 q1) fun iv s2 ⟨y, H2, I2, ry, l, ps, kvs, acc, ey, da, hl, hp, hz, q2⟩ => Calls.spliced_nil ?_)))
  subst ey
  obtain rfl : iv = Value.ref l := ry
  obtain ⟨z, hd, vs, rel, dd⟩ := dk_of I2.hok da
  obtain ⟨its, rv, pl, hz2⟩ := I2.list hl
  have ei := refs_at rv
  subst ei
  obtain ⟨prs, uvs, relp, hl1, hl2, hpr⟩ := pairs_told I2 hp
  obtain ⟨ol, n, hol, hcl, hdl, hdat⟩ := pl
  have pa := PySem.PairArg.list (prog := X.prog) (w := X.w) l (ps.map Value.ref).toArray (fun j => ps.getD j 0) uvs
  refine PySem.call_update_pairs (knd := mixKind X.prog X.w) (acc := vs) (kvs := prs) pa (I2.ok.hd hc) ⟨⟨ol, n, hol, hcl, hdl, hdat⟩, by simp [hl2], fun j k v e => ?_⟩ ?_ ⟨by rw [hl1, hl2], fun j key v e => ?_⟩ dd ?_ fun h' tk hd' k => ?_
  · obtain ⟨b, kk, e1, e2, e3, e4⟩ := hpr j k v e
    refine ⟨by simp [e1], .inl ?_⟩
    show s2.heap.IsTuple (ps.getD j 0) #[k, v]
    rw [show ps.getD j 0 = b by simp [List.getD, e1]]
    exact e2
  · obtain ⟨oa, hoa, hca⟩ := dd.typeIs
    intro hm
    rcases List.mem_cons.mp hm with e | hm
    · subst e
      rw [hol] at hoa
      cases hoa
      rw [hcl] at hca
      exact absurd hca (by decide)
    · obtain ⟨j, hj, e⟩ := List.mem_map.mp hm
      have hj := List.mem_range.mp hj
      obtain ⟨b, kk, e1, e2, _⟩ := hpr j uvs[j].1 uvs[j].2 (List.getElem?_eq_getElem hj)
      have eb : ps.getD j 0 = b := by simp [List.getD, e1]
      rw [eb] at e
      subst e
      obtain ⟨ob, hob, hcb⟩ := e2.typeIs
      rw [hob] at hoa
      cases hoa
      rw [hcb] at hca
      exact absurd hca (by decide)
  · obtain ⟨b, kk, e1, e2, e3, e4⟩ := hpr j key v e
    exact ⟨kk, e3, e4⟩
  · rw [← rel.length, hl2, ← hl1, ← relp.length]
    exact hz
  · have hlen : (mergeK acc kvs).length ≤ sizeLine := Nat.le_trans (length_mergeK kvs acc) hz
    have he' : ∃ q, h'.get? a = some q := let ⟨q, _, _, hq, _⟩ := hd'; ⟨q, hq⟩
    exact ⟨.non, upd H2 a (.dK (mergeK acc kvs)), I2.write (x := a) (e := a) (by rw [da]; exact True.intro) (.inl rfl) (fun b u hb z => k b u hb (by simp) z) he' (dk_new hlen hd (KV.merge relp rel) hd'), rfl, q2⟩
end
open PySem PySem.Spec L2
section
variable {X : Cx} {x : Str} {e : Expr} {te : DT} {p apos cpos : Pos}
def pairsD : Dt → Option (List (Str × Dt))
  | .list ds => parS ds
  | _ => none
def kDupd (i : Nat) (te : DT) : DT := fun env Q => gD env i fun _ => te env fun ev env1 => as1 ev fun d => gD env1 i fun kvs => wr (pairsD d) fun more => kvs.length + more.length ≤ sizeLine ∧ Q (.dat .none) (env1.set i (some (.obj (.dic (mergeS kvs more)))))
theorem kvR_len' {K : PySem.W.Frag} {F : Hp} {vs : List (Key × V)} {kvs : List (Str × Dt)} (h : KvR K F vs kvs) : vs.length = kvs.length := kvR_len h
theorem de_dupd (i : Nat) (hc : X.calm = true) (he : DE X e te) (m : M1 X (.Name x p) "update" apos e cpos) (hN : X.N[i]? = some x := by rfl) (hv : Vis X.env.scope x := by first | exact Or.inl rfl | exact Or.inr (Or.inl rfl) | exact Or.inr (Or.inr rfl)) (hd : (x == ("__debug__" : Str)) = false := by decide) (hcd : (x == ("__classdict__" : Str)) = false := by decide) :
    DE X (.Call (.Attribute (.Name x p) "update" apos) [e] [] cpos) (kDupd i te) := by
  refine ⟨fun env Q Q' m q => gD_mono (fun _ q => he.mono _ _ _ (fun ev env1 q => as1_mono (fun d q => gD_mono (fun kvs q => wr_mono (fun more q => ⟨q.1, m _ _ q.2⟩) q) q) q) q) q, (pe_dupd hc (pe_var hN hv hd hcd) he.run m).mono fun σ H Q => ?_⟩
  rintro ⟨F, env, R, q⟩
  obtain ⟨kvs0, e0, q⟩ := gD_get q
  obtain ⟨v0, es, a0, ev0, hf0, vs0, hp0, _⟩ := R.val i _ e0
  subst ev0
  refine ⟨_, es, a0, vs0, rfl, hp0, F, env, R, he.mono _ _ _ (fun ev env1 q F1 H1 y E1 R1 V1 => ?_) q⟩
  obtain ⟨d, rfl, q⟩ := as1_get q
  obtain ⟨kvs, e1, q⟩ := gD_get q
  obtain ⟨more, e2, hz, q9⟩ := wr_get q
  obtain ⟨v1, es1, a1, ev1, hf1, vs1, hp1, rk⟩ := R1.val i _ e1
  rw [es] at es1; cases es1; cases ev1
  cases d with
  | list ds =>
    have V1' : Rp X.K F1 y (.list ds) := V1
    cases V1' with
    | lst h r =>
      obtain ⟨ps, vk, b1, b2, b3⟩ := parS_rp R1.sub r e2
      subst b1
      obtain ⟨R2, E2⟩ := R1.write (o' := .dic (mergeS kvs more)) (ho := .dK (mergeK vs1 vk)) e1 es hf1 ⟨_, upd_same, kvR_merge b3 rk⟩
      exact ⟨_, ps, vk, vs1, rfl, hp1, SqL.of (R1.sub _ _ h), b2, by rw [kvR_len rk, kvR_len b3]; exact hz, q9 F1 _ .non (E1.trans E2) R2 .non⟩
  | _ => cases e2
end
end Dx
namespace Fx
open PySem L2 Dx
section
variable {α β γ σ : Type} {E : XP} {env : Dn} {κ : γ → Kd} {P : Program} {w : World}
variable {ta tb tc te tk td tv tf : DT} {ma mb mc me mk mv mf : Tr Dt} {n : Nat} {t u : DTS} {m : Tr γ}
def updT (kvs : Kv) (a : Tr Dt) : Tr Kv := bnd a fun d => bnd (lift (pairsD d)) fun more => need (kvs.length + more.length ≤ sizeLine) (ret (mergeS kvs more))
theorem ss_upd {i : Nat} {kvs : Kv} {env' : Kv → Dn} {mu : Kv → Tr γ} (h : SD E te env me) (hx : env[i]? = some (some (.obj (.dic kvs)))) (he : ∀ l, env.set i (some (.obj (.dic l))) = env' l) (hu : ∀ l, SS E u (env' l) (mu l) κ) : SS E (sSeq (sDrop (kDupd i te)) u) env (bnd (updT kvs me) mu) κ := fun D hE w => by
  show gD env i _
  exact i_gD hx (h _ (Tr.post w fun d w => i_gD hx (by
    obtain ⟨more, e1, w⟩ := wr_get w
    refine wr_of e1 ⟨w.1, ?_⟩
    show u D (env.set i _)
    rw [he]
    exact hu _ D hE w.2)))
theorem w_updT {kvs : Kv} {a : Tr Dt} {Q : Kv → Prop} : (updT kvs a).wp Q E = a.wp (fun d => wr (pairsD d) fun more => kvs.length + more.length ≤ sizeLine ∧ Q (mergeS kvs more)) E := rfl
instance i_w_updT {kvs : Kv} {a : Tr Dt} {Q : Kv → Prop} : Sw ((updT kvs a).wp Q E) (a.wp (fun d => wr (pairsD d) fun more => kvs.length + more.length ≤ sizeLine ∧ Q (mergeS kvs more)) E) := ⟨fun h => (Iff.of_eq w_updT).mpr h⟩
end
end Fx
namespace Dx
open PySem PySem.Spec L2

/-- the i-th row of a class -/
def clsRow (st : Stmt) (i : Nat) : Stmt := match st with
  | .ClassDef _ _ _ body _ _ _ _ _ _ _ => body.getD i (.Pass ⟨0, 0, 0, 0⟩)
  | _ => .Pass ⟨0, 0, 0, 0⟩
/-- B.__init__(self, ..), B an own class -/
theorem pe_ownInit {X : Cx} {e : Expr} {es : List Expr} {ta : TA} {B : Str} {CB : Addr} {p1 p2 pos : Pos} {pl : Sem Bool} (hg : Gl X B) (hm : X.mg B = some (.ref CB)) (hga : PySem.W.specialIn X.K (.ref CB) "__getattribute__" = some (some (.builtin "type.__getattribute__")))
    (hrd : PySem.W.readsIn X.K CB (.type "type") = true) (vV : PySem.W.findCls X.K (.ref CB) (.type "type") "__init__" = some (.val (.builtin "ValueError.__init__"))) (ha : PA X (e :: es) ta) (hdb : (B == ("__debug__" : Str)) = false := by decide)
    (hc : eval (.Call (.Attribute (.Name B p1) "__init__" p2) (e :: es) [] pos) X.env = (do
      let ov ← eval (.Name B p1) X.env
      standAt p2.atName
      let (f, first) ← holding [ov] (getMethod ov "__init__" pl)
      callWith pos f first (backTo pos (starEach (e :: es) X.env)) (backToKw pos (keywordEach [] X.env))) := by rfl)
    (he : starEach (e :: es) X.env = (false, eval e X.env) :: starEach es X.env := by rfl) (hpl : (backTo pos (starEach es X.env)).any (·.1) = false := by rfl) :
    PE X (.Call (.Attribute (.Name B p1) "__init__" p2) (e :: es) [] pos) (tVeI X.K ta) := by
  refine ⟨fun pins s σ H Q I h => ?_⟩
  refine PySem.W.methodCall_KW (ld_glob I hg hm ?_ hdb) hc
  refine PySem.W.method_cls I.kIn hga (PySem.W.cls_value I.kIn hrd vV (by decide +kernel) ?_)
  show wpAny _ _ (callWith pos (Value.builtin "ValueError.__init__") [] (backTo pos (starEach (e :: es) X.env)) []) _ _ _
  refine PyProof.Rows.callWith_method1 (thn (ha.run pos pins _ σ H _ (I.tok _) h) fun us s1 ⟨vs, H1, I1, r1, a, C, ws, ev, hl, T, ea, q⟩ => ?_) he hpl
  subst ev
  cases r1 with
  | @cons _ u0 _ ur ra rw' =>
    obtain rfl : u0 = Value.ref a := ra
    have hlen : ur.length ≤ sizeLine := by
      rw [← Paired.length rw', PySem.sizeLine_eq]
      omega
    exact oinit_ok T I1 ea hlen fun s' J => ⟨.non, H1, J, rfl, q⟩

/-- what the text says of an own exception class x (at C), its __init__ (at fI, the row st), its base B (at CB) -/
structure XcF (K : PySem.W.Frag) (mg : Str → Option Value) (x B qual : Str) (st : Stmt) (fns : List Str) (C CB fI : Addr) : Prop where
  gC : mg x = some (.ref C)
  gB : mg B = some (.ref CB)
  oex : OexC K C
  xf : XfC K C
  noF : ∀ f ∈ fns, PySem.W.findIn K (.ref C) f = some none
  iC : PySem.W.findIn K (.ref C) "__init__" = some (some (.ref fI))
  tI : PySem.W.typeIn K (.ref fI) = some (.type "function")
  bga : PySem.W.specialIn K (.ref CB) "__getattribute__" = some (some (.builtin "type.__getattribute__"))
  brd : PySem.W.readsIn K CB (.type "type") = true
  bin : PySem.W.findCls K (.ref CB) (.type "type") "__init__" = some (.val (.builtin "ValueError.__init__"))
  fn : ∃ (oc : Value) (od : Option Addr) (doc pm : Value) (an : Option Addr) (cdv ct : Value) (osl : Array (Option Value)),
    K.lookup fI = some ⟨oc, od, .func (PySem.W.fnOf "__init__" qual (defArgs st) (defBody st) (defScope st) .none .none doc pm an cdv ct), osl⟩ ∧ PySem.W.codeIn K cdv qual = true
/-- __init__ of one field -/
structure Ini1 (B : Str) (f : Str) (st : Stmt) : Prop where
  body : ∃ (txt : Str) (j : Nat) (p1 p2 p3 p4 p5 p6 q1 q2 q3 q4 : Pos), defBody st = [.Expr (.Call (.Attribute (.Name B p1) "__init__" p2) [.Name "self" p3, .Constant (.str txt) j p4] [] p5) p6, .Assign [.Attribute (.Name "self" q1) f q2] (.Name f q3) q4] ∧ ∀ env : Env, ∃ pl : Sem Bool, eval (.Call (.Attribute (.Name B p1) "__init__" p2) [.Name "self" p3, .Constant (.str txt) j p4] [] p5) env = (do
      let ov ← eval (.Name B p1) env
      standAt p2.atName
      let (f, first) ← holding [ov] (getMethod ov "__init__" pl)
      callWith p5 f first (backTo p5 (starEach [.Name "self" p3, .Constant (.str txt) j p4] env)) (backToKw p5 (keywordEach [] env)))
  sc : FnScope ["self", f] ["self", f] (defScope st)
  vs : (defScope st).names.lookup ("self" : Str) = some .local
  vf : (defScope st).names.lookup f = some .local
  gl : (defScope st).names.lookup B = some .globalImplicit
  nd : (B == ("__debug__" : Str)) = false ∧ (f == ("__debug__" : Str)) = false ∧ (f == ("__classdict__" : Str)) = false
  bind : ∀ (qual : Str) (doc pm : Value) (an : Option Addr) (cdv ct : Value) (u v : Value), bindArgs (PySem.W.fnOf "__init__" qual (defArgs st) (defBody st) (defScope st) .none .none doc pm an cdv ct) ⟨[u, v], []⟩ = pure [(("self" : Str), u), (f, v)]
/-- __init__ of two fields -/
structure Ini2 (B : Str) (f g : Str) (st : Stmt) : Prop where
  body : ∃ (txt : Str) (j : Nat) (p1 p2 p3 p4 p5 p6 q1 q2 q3 q4 r1 r2 r3 r4 : Pos), defBody st = [.Expr (.Call (.Attribute (.Name B p1) "__init__" p2) [.Name "self" p3, .Constant (.str txt) j p4] [] p5) p6, .Assign [.Attribute (.Name "self" q1) f q2] (.Name f q3) q4, .Assign [.Attribute (.Name "self" r1) g r2] (.Name g r3) r4] ∧ ∀ env : Env, ∃ pl : Sem Bool, eval (.Call (.Attribute (.Name B p1) "__init__" p2) [.Name "self" p3, .Constant (.str txt) j p4] [] p5) env = (do
      let ov ← eval (.Name B p1) env
      standAt p2.atName
      let (f, first) ← holding [ov] (getMethod ov "__init__" pl)
      callWith p5 f first (backTo p5 (starEach [.Name "self" p3, .Constant (.str txt) j p4] env)) (backToKw p5 (keywordEach [] env)))
  sc : FnScope ["self", f, g] ["self", f, g] (defScope st)
  vs : (defScope st).names.lookup ("self" : Str) = some .local
  vf : (defScope st).names.lookup f = some .local
  vg : (defScope st).names.lookup g = some .local
  gl : (defScope st).names.lookup B = some .globalImplicit
  nd : (B == ("__debug__" : Str)) = false ∧ (f == ("__debug__" : Str)) = false ∧ (f == ("__classdict__" : Str)) = false ∧ (g == ("__debug__" : Str)) = false ∧ (g == ("__classdict__" : Str)) = false
  bind : ∀ (qual : Str) (doc pm : Value) (an : Option Addr) (cdv ct : Value) (u v z : Value), bindArgs (PySem.W.fnOf "__init__" qual (defArgs st) (defBody st) (defScope st) .none .none doc pm an cdv ct) ⟨[u, v, z], []⟩ = pure [(("self" : Str), u), (f, v), (g, z)]
section
variable {P : Program} {w : World} {K : PySem.W.Frag} {mg : Str → Option Value} {base : Heap} {x B qual f g : Str} {st : Stmt} {C CB fI : Addr}
def spI1 (C : Addr) (f : Str) : Sp := fun vs H Q _ => ∃ a y, vs = [.ref a, y] ∧ H a = some (exo a C none) ∧ ∀ dx, H dx = none → dx ≠ a → Q .non (upd (upd H dx (exd dx [(f, y)])) a (exo a C (some dx)))
def spI2 (C : Addr) (f g : Str) : Sp := fun vs H Q _ => ∃ a y z, vs = [.ref a, y, z] ∧ H a = some (exo a C none) ∧ ∀ dx, H dx = none → dx ≠ a → Q .non (upd (upd (upd H dx (exd dx [(f, y)])) a (exo a C (some dx))) dx (exd dx [(g, z), (f, y)]))
theorem init1 (T : XcF K mg x B qual st [f] C CB fI) (S : Ini1 B f st) {CX : CXT} : ∃ fd, FnOk P w K mg base CX 1 fI fd ["self", f] (spI1 C f) ∧ Binds K fd ["self", f] [] := by
  obtain ⟨oc, od, doc, pm, an, cdv, ct, osl, lk, hcd⟩ := T.fn
  obtain ⟨txt, j, p1, p2, p3, p4, p5, p6, q1, q2, q3, q4, hb, hev⟩ := S.body
  refine ⟨_, fn_of (k := 0) (N := ["self", f]) lk hcd S.sc (fun vs H Q E ⟨a, y, e, _⟩ => by rw [e]; rfl) ?_, fun s us _ hl => BindsTo.of_eq ?_⟩
  · intro A outer s H vs Q E hr hsp
    rw [hb]
    obtain ⟨pl, hpl⟩ := hev (cxOf CX P w K mg base ["self", f] qual (defScope st) fI cdv A outer s H E).env
    refine ⟨_, pss_cons (ps_expr (pe_ownInit (pl := pl) (X := cxOf CX P w K mg base ["self", f] qual (defScope st) fI cdv A outer s H E) S.gl T.gB T.bga T.brd T.bin (pa_cons (pv 0 (hv := .inl S.vs)) (pa_cons pe_str pa_nil)) S.nd.1 hpl)) (pss_one (ps_ost (pv 0 (hv := .inl S.vs)) (pv 1 (hv := .inl S.vf) (hd := S.nd.2.1) (hcd := S.nd.2.2)))), ?_⟩
    obtain ⟨a, y, rfl, ha, hq⟩ := hsp
    exact ⟨.ref a, rfl, a, C, [.str txt], rfl, (by show 1 ≤ 1000; decide), T.oex, ha, y, rfl, .ref a, rfl, a, C, rfl, T.oex, T.noF f (by simp), .inl ⟨ha, hq⟩⟩
  · match us, hl with
    | [u, v], _ => exact S.bind _ _ _ _ _ _ u v
theorem init2 (T : XcF K mg x B qual st [f, g] C CB fI) (S : Ini2 B f g st) {CX : CXT} : ∃ fd, FnOk P w K mg base CX 1 fI fd ["self", f, g] (spI2 C f g) ∧ Binds K fd ["self", f, g] [] := by
  obtain ⟨oc, od, doc, pm, an, cdv, ct, osl, lk, hcd⟩ := T.fn
  obtain ⟨txt, j, p1, p2, p3, p4, p5, p6, q1, q2, q3, q4, r1, r2, r3, r4, hb, hev⟩ := S.body
  refine ⟨_, fn_of (k := 0) (N := ["self", f, g]) lk hcd S.sc (fun vs H Q E ⟨a, y, z, e, _⟩ => by rw [e]; rfl) ?_, fun s us _ hl => BindsTo.of_eq ?_⟩
  · intro A outer s H vs Q E hr hsp
    rw [hb]
    obtain ⟨pl, hpl⟩ := hev (cxOf CX P w K mg base ["self", f, g] qual (defScope st) fI cdv A outer s H E).env
    refine ⟨_, pss_cons (ps_expr (pe_ownInit (pl := pl) (X := cxOf CX P w K mg base ["self", f, g] qual (defScope st) fI cdv A outer s H E) S.gl T.gB T.bga T.brd T.bin (pa_cons (pv 0 (hv := .inl S.vs)) (pa_cons pe_str pa_nil)) S.nd.1 hpl)) (pss_cons (ps_ost (pv 0 (hv := .inl S.vs)) (pv 1 (hv := .inl S.vf) (hd := S.nd.2.1) (hcd := S.nd.2.2.1))) (pss_one (ps_ost (pv 0 (hv := .inl S.vs)) (pv 2 (hv := .inl S.vg) (hd := S.nd.2.2.2.1) (hcd := S.nd.2.2.2.2))))), ?_⟩
    obtain ⟨a, y, z, rfl, ha, hq⟩ := hsp
    refine ⟨.ref a, rfl, a, C, [.str txt], rfl, (by show 1 ≤ 1000; decide), T.oex, ha, y, rfl, .ref a, rfl, a, C, rfl, T.oex, T.noF f (by simp), .inl ⟨ha, fun dx h1 h2 => ?_⟩⟩
    exact ⟨z, rfl, .ref a, rfl, a, C, rfl, T.oex, T.noF g (by simp), .inr ⟨dx, [(f, y)], upd_same, by rw [upd_ne h2, upd_same], (by show 1 ≤ 900; decide), hq dx h1 h2⟩⟩
  · match us, hl with
    | [u, v, z], _ => exact S.bind _ _ _ _ _ _ u v z
theorem xd_end {H1 : Hp} {a d C : Addr} {fs : List (Str × V)} {o : HO} (ha : H1 a = none) (hda : d ≠ a) : upd (del (upd (upd (upd H1 a (exo a C none)) d o) a (exo a C (some d))) a) d (.xd fs) = upd H1 d (.xd fs) := by
  funext b
  by_cases e : b = d
  · subst e; rw [upd_same, upd_same]
  · rw [upd_ne e, upd_ne e]
    by_cases e2 : b = a
    · subst e2; rw [del_same, ha]
    · rw [del_ne e2, upd_ne e2, upd_ne e, upd_ne e2]
theorem xd_end2 {H1 : Hp} {a d C : Addr} {fs : List (Str × V)} {o o' : HO} (ha : H1 a = none) (hda : d ≠ a) : upd (del (upd (upd (upd (upd H1 a (exo a C none)) d o) a (exo a C (some d))) d o') a) d (.xd fs) = upd H1 d (.xd fs) := by
  funext b
  by_cases e : b = d
  · subst e; rw [upd_same, upd_same]
  · rw [upd_ne e, upd_ne e]
    by_cases e2 : b = a
    · subst e2; rw [del_same, ha]
    · rw [del_ne e2, upd_ne e, upd_ne e2, upd_ne e, upd_ne e2]
end
/-- raise x(e, ..) -/
def sRaise (x : Str) (fns : List Str) (ta : DTa) : DTS := fun E env => ta env fun evs _ => asD evs fun ds => ds.length = fns.length ∧ E.ex ⟨x, (fns.zip ds).reverse⟩
theorem Rep.growX {K : PySem.W.Frag} {F H : Hp} {σ : L2.St} {env : Dn} {d : Addr} (R : Rep K F H σ env) (hd : H d = none) (vs : List (Str × V)) : Rep K (upd F d (.xd vs)) (upd H d (.xd vs)) σ env ∧ Ext σ env F H σ env (upd F d (.xd vs)) (upd H d (.xd vs)) := R.grow hd _
section
variable {X : Cx} {x B qual f g : Str} {st : Stmt} {C CB fI : Addr} {n : Nat} {ta : DTa} {p pos pos2 : Pos} {e1 e2 : Expr}
theorem ds_raise1 (hc : X.calm = true) (T : XcF X.K X.mg x B qual st [f] C CB fI) (S : Ini1 B f st) (hr : Room 2 X.A) (hg : Gl X x) (ha : DA X [e1] ta) (hdb : (x == ("__debug__" : Str)) = false := by decide) (he : starEach [e1] X.env = (false, eval e1 X.env) :: starEach [] X.env := by rfl) (hpl : (backTo pos (starEach [] X.env)).any (·.1) = false := by rfl) :
    DS X n (.Raise (some (.Call (.Name x p) [e1] [] pos)) none pos2) (sRaise x [f] ta) := by
  obtain ⟨fd, F, hb⟩ := init1 (P := X.prog) (w := X.w) (base := X.base) (CX := fun _ _ _ _ _ _ => False) T S
  refine ⟨(ps_raise hc takes_wm (pmk_oex (p := p) (pos := pos) T.oex T.iC T.tI F hr hb .nil (fun _ _ _ _ _ _ _ z => z.elim) hg T.gC ha.run hdb he hpl)).mono fun D σ H => ?_⟩
  rintro ⟨F0, env, E, R, q, l⟩
  refine ⟨F0, env, R, ha.mono _ _ _ (fun evs env1 q F1 H1 vs E1 R1 V1 => ?_) q⟩
  obtain ⟨ds, rfl, hx⟩ := asD_get q
  have hl := hx.1
  have a := V1.dats
  match ds, hl, a with
  | [d1], _, .cons r1 .nil =>
    refine ⟨(by show 1 ≤ 1000; decide), fun a hna => ⟨a, _, rfl, upd_same, fun dx hdx ne => ⟨rfl, dx, _, upd_same, by rw [upd_ne ne, upd_same], by rw [upd_ne ne] at hdx; exact hdx, ?_⟩⟩⟩
    have hdx' : H1 dx = none := by rw [upd_ne ne] at hdx; exact hdx
    rw [xd_end hna ne]
    obtain ⟨R2, E2⟩ := R1.growX hdx' [(f, _)]
    exact l.ex ⟨x, ([f].zip [d1]).reverse⟩ _ _ _ _ _ _ (E1.trans E2).s R2 ⟨C, dx, _, T.gC, rfl, rfl, upd_same, rfl, dp_same E2.same r1, trivial⟩ hx.2
theorem ds_raise2 (hc : X.calm = true) (T : XcF X.K X.mg x B qual st [f, g] C CB fI) (S : Ini2 B f g st) (hr : Room 2 X.A) (hg : Gl X x) (ha : DA X [e1, e2] ta) (hdb : (x == ("__debug__" : Str)) = false := by decide) (he : starEach [e1, e2] X.env = (false, eval e1 X.env) :: starEach [e2] X.env := by rfl) (hpl : (backTo pos (starEach [e2] X.env)).any (·.1) = false := by rfl) :
    DS X n (.Raise (some (.Call (.Name x p) [e1, e2] [] pos)) none pos2) (sRaise x [f, g] ta) := by
  obtain ⟨fd, F, hb⟩ := init2 (P := X.prog) (w := X.w) (base := X.base) (CX := fun _ _ _ _ _ _ => False) T S
  refine ⟨(ps_raise hc takes_wm (pmk_oex (p := p) (pos := pos) T.oex T.iC T.tI F hr hb .nil (fun _ _ _ _ _ _ _ z => z.elim) hg T.gC ha.run hdb he hpl)).mono fun D σ H => ?_⟩
  rintro ⟨F0, env, E, R, q, l⟩
  refine ⟨F0, env, R, ha.mono _ _ _ (fun evs env1 q F1 H1 vs E1 R1 V1 => ?_) q⟩
  obtain ⟨ds, rfl, hx⟩ := asD_get q
  have hl := hx.1
  have a := V1.dats
  match ds, hl, a with
  | [d1, d2], _, .cons r1 (.cons r2 .nil) =>
    refine ⟨(by show 2 ≤ 1000; decide), fun a hna => ⟨a, _, _, rfl, upd_same, fun dx hdx ne => ⟨rfl, dx, _, by rw [upd_ne (Ne.symm ne), upd_same], upd_same, by rw [upd_ne ne] at hdx; exact hdx, ?_⟩⟩⟩
    have hdx' : H1 dx = none := by rw [upd_ne ne] at hdx; exact hdx
    rw [xd_end2 hna ne]
    obtain ⟨R2, E2⟩ := R1.growX hdx' [(g, _), (f, _)]
    exact l.ex ⟨x, ([f, g].zip [d1, d2]).reverse⟩ _ _ _ _ _ _ (E1.trans E2).s R2 ⟨C, dx, _, T.gC, rfl, rfl, upd_same, rfl, dp_same E2.same r2, rfl, dp_same E2.same r1, trivial⟩ hx.2
end
open PySem PySem.Spec L2

abbrev XW := Ex → Dn → Prop
abbrev DTX := XW → Dn → Dk → Prop
def MonoX (t : DTX) : Prop := ∀ (E E' : XW) (env : Dn) (Q Q' : Dk), (∀ x e, E x e → E' x e) → (∀ ev e, Q ev e → Q' ev e) → t E env Q → t E' env Q'
/-- W: what is taken of exceptions -/
def tDW (K : PySem.W.Frag) (mg : Str → Option Value) (W : L2.WX) (t : DTX) : TE := fun σ H Q => ∃ F env E, Rep K F H σ env ∧ t E env (fun ev env' => ∀ F' H' v, Ext σ env F H σ env' F' H' → Rep K F' H' σ env' → RepE K F' H' σ env' H v ev → Q v H') ∧
  ∀ x cls d env' F' H', Ext σ env F H σ env' F' H' → Rep K F' H' σ env' → XRep K mg F' cls d x → E x env' → W cls d σ H'
structure DEX (X : Cx) (e : Expr) (t : DTX) : Prop where
  mono : MonoX t
  run : PE X e (tDW X.K X.mg (Wm X) t)
theorem tDW_imp {K : PySem.W.Frag} {mg : Str → Option Value} {W W' : L2.WX} {t : DTX} {σ : L2.St} {H : Hp} {Q : VK} (i : ∀ cls d σ H, W cls d σ H → W' cls d σ H) (h : tDW K mg W t σ H Q) : tDW K mg W' t σ H Q := by
  obtain ⟨F, env, E, R, q, x⟩ := h
  exact ⟨F, env, E, R, q, fun x' cls d env' F' H' e1 R1 xr hx => i _ _ _ _ (x x' cls d env' F' H' e1 R1 xr hx)⟩
section
variable {X : Cx} {n : Nat} {pos : Pos}
theorem dx_of {e : Expr} {t : DT} (h : DE X e t) : DEX X e (fun _ => t) := by
  refine ⟨fun E E' env Q Q' _ i q => h.mono _ _ _ i q, h.run.mono fun σ H Q => ?_⟩
  rintro ⟨F, env, E, R, q, _⟩
  exact ⟨F, env, R, q⟩
abbrev DTaX := XW → Dn → (List Ev → Dn → Prop) → Prop
def MonoAX (t : DTaX) : Prop := ∀ (E E' : XW) (env : Dn) (Q Q' : List Ev → Dn → Prop), (∀ x e, E x e → E' x e) → (∀ ev e, Q ev e → Q' ev e) → t E env Q → t E' env Q'
def tDWa (K : PySem.W.Frag) (mg : Str → Option Value) (W : L2.WX) (t : DTaX) : TA := fun σ H Q => ∃ F env E, Rep K F H σ env ∧ t E env (fun evs env' => ∀ F' H' vs, Ext σ env F H σ env' F' H' → Rep K F' H' σ env' → RepA K F' H' σ env' H vs evs → Q vs H') ∧
  ∀ x cls d env' F' H', Ext σ env F H σ env' F' H' → Rep K F' H' σ env' → XRep K mg F' cls d x → E x env' → W cls d σ H'
structure DAX (X : Cx) (es : List Expr) (t : DTaX) : Prop where
  mono : MonoAX t
  run : PA X es (tDWa X.K X.mg (Wm X) t)
theorem dax_of {es : List Expr} {t : DTa} (h : DA X es t) : DAX X es (fun _ => t) := by
  refine ⟨fun E E' env Q Q' _ i q => h.mono _ _ _ i q, h.run.mono fun σ H Q => ?_⟩
  rintro ⟨F, env, E, R, q, _⟩
  exact ⟨F, env, R, q⟩
def kConsX (t : DTX) (u : DTaX) : DTaX := fun E env Q => t E env fun ev env1 => u E env1 fun evs env2 => Q (ev :: evs) env2
theorem dax_cons {e : Expr} {es : List Expr} {t : DTX} {u : DTaX} (ha : DEX X e t) (hr : DAX X es u) (hs : starEach (e :: es) X.env = (false, eval e X.env) :: starEach es X.env := by rfl) : DAX X (e :: es) (kConsX t u) := by
  refine ⟨fun E E' env Q Q' j i h => ha.mono _ _ _ _ _ j (fun ev env1 h1 => hr.mono _ _ _ _ _ j (fun evs env2 h2 => i _ _ h2) h1) h, (pa_cons ha.run hr.run hs).mono fun σ H Q => ?_⟩
  rintro ⟨F, env, E, R, q, x⟩
  refine ⟨F, env, E, R, ha.mono _ _ _ _ _ (fun _ _ h => h) (fun ev env1 h1 F1 H1 v E1 R1 V1 => ⟨F1, env1, E, R1, hr.mono _ _ _ _ _ (fun _ _ h => h) (fun evs env2 h2 F2 H2 vs E2 R2 V2 => ?_) h1, fun x' cls d env' F' H' e1 R' xr hx => x x' cls d env' F' H' (E1.trans e1) R' xr hx⟩) q, x⟩
  refine h2 F2 H2 (v :: vs) (E1.trans E2) R2 (.cons (V1.move E2) (V2.back E1.there) fun p o e1 e2 nw => ?_)
  have z := V2.newNone nw
  subst e1 e2
  obtain ⟨q, e, _, r, _⟩ := V1
  cases e
  obtain ⟨u, hu⟩ := r.some
  rw [z] at hu; cases hu
def kTupX (t : DTaX) : DTX := fun E env Q => t E env fun evs env1 => asD evs fun ds => lenOk ds.length ∧ Q (.dat (.tuple ds)) env1
theorem dx_tup {es : List Expr} {t : DTaX} {x1} {pos : Pos} (h : DAX X es t) : DEX X (.Tuple es x1 pos) (kTupX t) := by
  refine ⟨fun E E' env Q Q' j i q => h.mono _ _ _ _ _ j (fun evs env1 q => asD_mono (fun ds q => ⟨q.1, i _ _ q.2⟩) q) q, (pe_tupF h.run).mono fun σ H Q => ?_⟩
  rintro ⟨F, env, E, R, q, x⟩
  refine ⟨F, env, E, R, h.mono _ _ _ _ _ (fun _ _ h => h) (fun evs env1 q F1 H1 vs E1 R1 V1 => ?_) q, x⟩
  obtain ⟨ds, rfl, z, q⟩ := asD_get q
  have a := V1.dats
  refine ⟨by rw [a.length]; exact z, fun p o hp ho => ?_⟩
  obtain ⟨F2, E2, R2, r2⟩ := Res.frz R1 (Res.tup (K := X.K) hp ho a)
  exact q F2 _ _ (E1.trans E2) R2 r2

def sDropX (te : DTX) : DTS := fun E env => te (fun x _ => E.ex x) env fun _ env1 => E.nx env1
theorem ds_exprX {e : Expr} {te : DTX} (he : DEX X e te) (hs : swapsWith e none pos.line X.env = pure false := by rfl) : DS X n (.Expr e pos) (sDropX te) := ⟨(ps_expr he.run hs).mono fun D σ H => by
  rintro ⟨F, env, E, R, q, l⟩
  exact ⟨F, env, _, R, he.mono _ _ _ _ _ (fun _ _ h => h) (fun ev env1 q F1 H1 v E1 R1 V1 => l.nx _ _ _ _ E1.s R1 q) q, fun x cls d env' F' H' e1 R' xr hx => l.ex x cls d σ env' F' H' e1.s R' xr hx⟩⟩
def sRetX (te : DTX) : DTS := fun E env => te (fun x _ => E.ex x) env fun ev env1 => retE ev fun r => E.rt r env1
theorem ds_retX {e : Expr} {te : DTX} (he : DEX X e te) : DS X n (.Return (some e) pos) (sRetX te) := ⟨(ps_ret he.run).mono fun D σ H => by
  rintro ⟨F, env, E, R, q, l⟩
  refine ⟨F, env, _, R, he.mono _ _ _ _ _ (fun _ _ h => h) (fun ev env1 q F1 H1 v E1 R1 V1 => ?_) q, fun x cls d env' F' H' e1 R' xr hx => l.ex x cls d σ env' F' H' e1.s R' xr hx⟩
  obtain ⟨r, rfl, q'⟩ := retE_get q
  exact l.rt r _ _ _ _ _ E1.s R1 V1 q'⟩
def sSetX (i : Nat) (te : DTX) : DTS := fun E env => te (fun x _ => E.ex x) env fun ev env1 => setE i ev env1 E.nx
theorem ds_setX {i : Nat} {x : Str} {e : Expr} {te : DTX} {pos' : Pos} (hN : X.N.Nodup) (hi : X.N[i]? = some x) (hx : Loc X.env.scope x) (he : DEX X e te) (hn : n ≤ i := by decide) (hs : swapsWith e (some (.Name x pos')) pos.line X.env = pure false := by rfl) (hf : X.fn x = true ∨ X.env.scope.names.lookup x = some .local := by first | exact .inl rfl | exact .inr rfl | assumption) :
    DS X n (.Assign [.Name x pos'] e pos) (sSetX i te) := ⟨(ps_set hN hi hx he.run hs hf).mono fun D σ H => by
  rintro ⟨F, env, E, R, q, l⟩
  refine ⟨F, env, _, R, he.mono _ _ _ _ _ (fun _ _ h => h) (fun ev env1 q F1 H1 v E1 R1 V1 => ?_) q, fun x cls d env' F' H' e1 R' xr hx => l.ex x cls d σ env' F' H' e1.s R' xr hx⟩
  obtain ⟨r, rfl, q'⟩ := retE_get q
  exact l.nx _ _ _ _ (ext_set E1 R1 V1 hn) (rep_set R1 V1) q'⟩
end

abbrev DSpX := List Dv → (Dv → Dn → Prop) → XP → Prop
def tSpX (K : PySem.W.Frag) (mg : Str → Option Value) (sp : DSpX) (vs : List V) (H : Hp) (Q : VK) (E : XK) : Prop := ∃ F as EX, Rep K F H (vs.map some) (as.map some) ∧
  sp as (fun r outs => ∀ F' H' v, Ext (vs.map some) (as.map some) F H (vs.map some) outs F' H' → Rep K F' H' (vs.map some) outs → RepE K F' H' (vs.map some) outs H v r.ev → Q v H') EX ∧
  ∀ x outs F' H' cls d, EX x → Ext (vs.map some) (as.map some) F H (vs.map some) outs F' H' → Rep K F' H' (vs.map some) outs → XRep K mg F' cls d x → E cls d H'
structure FnX (P : Program) (w : World) (K : PySem.W.Frag) (mg : Str → Option Value) (base : Heap) (k : Nat) (f : Addr) (fd : FuncData) (ps : List Str) (sp : DSpX) : Prop where
  mono : ∀ as (Q Q' : Dv → Dn → Prop) (E E' : XP), (∀ r o, Q r o → Q' r o) → (∀ x, E x → E' x) → sp as Q E → sp as Q' E'
  run : ∀ (A : Around) (outer : List Env) (s : Shared) (H : Hp) (args : Args) (us : List Value) (vs : List V) (Q : VK) (E : XK), Room k A → A.guards = some [] → Env0 P w K mg base A outer s H → BindsTo s fd args (ps.zip us) → Vals vs us → vs.length = ps.length → tSpX K mg sp vs H Q E →
    codeAny (model P w) A (.call (.ref f) args) (CR (L2.CX P w) outer P w H s Q E) s
section
variable {P : Program} {w : World} {K : PySem.W.Frag} {mg : Str → Option Value} {base : Heap}
theorem FnX.up {j k : Nat} {f : Addr} {fd : FuncData} {ps : List Str} {sp : DSpX} (F : FnX P w K mg base j f fd ps sp) (h : j ≤ k) : FnX P w K mg base k f fd ps sp :=
  ⟨F.mono, fun A outer s H args us vs Q E hr => F.run A outer s H args us vs Q E (hr.mono h)⟩
theorem FnX.imp {k : Nat} {f : Addr} {fd : FuncData} {ps : List Str} {sp sp' : DSpX} (F : FnX P w K mg base k f fd ps sp) (m : ∀ as (Q Q' : Dv → Dn → Prop) (E E' : XP), (∀ r o, Q r o → Q' r o) → (∀ x, E x → E' x) → sp' as Q E → sp' as Q' E')
    (h : ∀ as Q E, sp' as Q E → sp as Q E) : FnX P w K mg base k f fd ps sp' :=
  ⟨m, fun A outer s H args us vs Q E hr hg e0 hb r hl ⟨F0, as, EX, R, q, x⟩ => F.run A outer s H args us vs Q E hr hg e0 hb r hl ⟨F0, as, EX, R, h _ _ _ q, x⟩⟩
theorem startD_rep {F H : Hp} {N : List Str} {vs : List V} {as : List Dv} (R : Rep K F H (vs.map some) (as.map some)) (hl : as.length = vs.length) (hn : as.length ≤ N.length) : Rep K F H (L2.start N vs) (startD N as) := by
  refine ⟨R.sub, ?_, fun i dv e => ?_, fun i j o o' p h1 h2 h3 h4 => ?_⟩
  · unfold L2.start startD
    simp only [List.length_append, List.length_map, List.length_replicate]
    omega
  · obtain ⟨v, e1, e2⟩ := R.val i dv (map_some_at.mpr (startD_some e))
    exact ⟨v, start_at (map_some_at.mp e1), e2⟩
  · exact R.inj i j o o' p (map_some_at.mpr (startD_some h1)) (map_some_at.mpr (startD_some h2)) (map_some_at.mpr (start_le h3)) (map_some_at.mpr (start_le h4))
/-- the state at an end of a def -/
theorem end_rep {n m : Nat} {F H F' H' : Hp} {N : List Str} {vs : List V} {as : List Dv} {σ' : L2.St} {env' : Dn} (R : Rep K F H (vs.map some) (as.map some)) (hl : as.length = vs.length) (hm : vs.length = m) (hnm : n ≤ m) (E : ExtS n (L2.start N vs) (startD N as) F H σ' env' F' H') (R' : Rep K F' H' σ' env') :
    Rep K F' H' (vs.map some) (outP n m env') ∧ Ext (vs.map some) (as.map some) F H (vs.map some) (outP n m env') F' H' ∧ (∀ a, Ow (vs.map some) (outP n m env') a → Ow σ' env' a) := by
  have ow0 : ∀ a, Ow (L2.start N vs) (startD N as) a → Ow (vs.map some) (as.map some) a := fun a ⟨i, o, h1, h2⟩ => ⟨i, o, map_some_at.mpr (startD_some h1), map_some_at.mpr (start_le h2)⟩
  have at' : ∀ {i : Nat} {d : Dv}, (outP n m env')[i]? = some (some d) → env'[i]? = some (some d) ∧ ∃ v, σ'[i]? = some (some v) ∧ (vs.map some)[i]? = some (some v) := by
    intro i d h
    obtain ⟨hi, e⟩ := outP_some h
    obtain ⟨v, e1, _⟩ := R'.val i d e
    refine ⟨e, v, e1, ?_⟩
    rw [E.par i hi] at e1
    exact map_some_at.mpr (start_le e1)
  have ow' : ∀ a, Ow (vs.map some) (outP n m env') a → Ow σ' env' a := by
    rintro a ⟨i, o, h1, h2⟩
    obtain ⟨e, v, e1, e2⟩ := at' h1
    rw [e2] at h2; cases h2
    exact ⟨i, o, e, e1⟩
  have hlen : n ≤ env'.length := by
    rw [R'.len]
    by_cases hz : n = 0
    · omega
    · have hpar := E.par (n - 1) (by omega)
      have hv : n - 1 < vs.length := by omega
      have := start_at (N := N) (List.getElem?_eq_getElem hv)
      rw [← hpar] at this
      have := (List.getElem?_eq_some_iff.mp this).1
      omega
  refine ⟨⟨R'.sub, ?_, fun i dv e => ?_, fun i j o o' p h1 h2 h3 h4 => ?_⟩, ⟨E.ext.same, fun a u h nw => E.ext.keep a u h (fun z => nw (ow0 a z)), E.ext.there, fun a u h z => (E.ext.new a u h z).imp id (ow0 a), fun a z => (E.ext.ow a (ow' a z)).imp (ow0 a) id, E.ext.tab⟩, ow'⟩
  · unfold outP
    rw [List.length_append, List.length_take, List.length_replicate, List.length_map]
    omega
  · obtain ⟨e1, v, e2, e3⟩ := at' e
    obtain ⟨v', e4, e5⟩ := R'.val i dv e1
    rw [e2] at e4; cases e4
    exact ⟨v, e3, e5⟩
  · obtain ⟨a1, v1, a2, a3⟩ := at' h1
    obtain ⟨b1, v2, b2, b3⟩ := at' h2
    rw [a3] at h3; cases h3
    rw [b3] at h4; cases h4
    exact R'.inj i j o o' p a1 b1 a2 b2
theorem fnx_of {k n : Nat} {f : Addr} {name qual : Str} {params : Arguments} {body : List Stmt} {scope : Scope} {dV kV doc pm cdv ct oc : Value} {an od : Option Addr} {osl : Array (Option Value)} {N ps : List Str} {sp : DSpX}
    (lk : K.lookup f = some ⟨oc, od, .func (PySem.W.fnOf name qual params body scope dV kV doc pm an cdv ct), osl⟩) (hcd : PySem.W.codeIn K cdv qual = true) (S : FnScope N ps scope) (hn : n ≤ ps.length)
    (mono : ∀ as (Q Q' : Dv → Dn → Prop) (E E' : XP), (∀ r o, Q r o → Q' r o) → (∀ x, E x → E' x) → sp as Q E → sp as Q' E')
    (hbody : ∀ (A : Around) (outer : List Env) (s : Shared) (H : Hp) (E : XK), Room k (A.deeper (PyProof.Rows.envOfC qual scope s.heap.objs.size f cdv)) → A.guards = some [] →
      ∃ t, DSs (cxOf (L2.CX P w) P w K mg base N qual scope f cdv A outer s H E) n body t ∧ ∀ as Q EX, as.length = ps.length → sp as Q EX → t { nx := fun env => Q (.dat .none) (outP n ps.length env), rt := fun r env => Q r (outP n ps.length env), ex := EX } (startD N as)) :
    FnX P w K mg base (k + 1) f (PySem.W.fnOf name qual params body scope dV kV doc pm an cdv ct) ps sp := by
  refine ⟨mono, ?_⟩
  intro A outer s H args us vs Q E hr hgd e0 hb r hl hsp
  obtain ⟨F, as, EX, R, hsp, hex⟩ := hsp
  have la : as.length = ps.length := by
    have := R.len
    rw [List.length_map, List.length_map] at this
    omega
  have hpl : ps.length ≤ N.length := by have := congrArg List.length S.pre; rw [List.length_take] at this; omega
  have KX : K.In s.heap := e0.mod.kin.keeps fun b o e => (e0.bs b o e).1
  have lim : s.heap.NoLimit := e0.mod.nolimit.keeps fun b o e => (e0.bs b o e).1
  have hkind : ∀ y ∈ ps.zip us, scope.names.lookup y.1 = some .local ∨ (scope.names.lookup y.1 = some .cell ∧ ((cellsFrom (s.heap.objs.size + 1) scope.names []).lookup y.1).isSome = true) := by
    rintro ⟨x, v⟩ hy
    rcases S.par x (List.of_mem_zip hy).1 with q | q
    · exact .inl q
    · exact .inr ⟨q, PySem.W.cellsFrom_some _ _ _ (.inl q)⟩
  apply codeAny_call_function hr.depth (KX _ _ lk) rfl S.co S.gen rfl (PySem.W.codeRec_of KX hcd)
  apply hb
  apply wpAny_newFunctionEnv_cells S.kind hkind
  intro env he s1 x
  subst he
  refine ⟨lim.keeps x.toInCall.keep, codeAny_func ?_⟩
  obtain ⟨t, ht, hq⟩ := hbody A outer s H E (hr.deeper _) hgd
  have hq := hq as _ EX la hsp
  have I : Inv (cxOf (L2.CX P w) P w K mg base N qual scope f cdv A outer s H E) [] (L2.start N vs) H s1 := inv_start S hr.hd e0 hl r x
  have R0 : Rep K F H (L2.start N vs) (startD N as) := startD_rep R (by omega) (by omega)
  have tk : Takes (cxOf (L2.CX P w) P w K mg base N qual scope f cdv A outer s H E) (fun cls d _ H => E cls d H) := takes_of (E₁ := fun e' s'' => L2.CX P w outer H s E e' s'') rfl rfl rfl rfl
  refine wpAny_mono (ht.run.run [] s1 (L2.start N vs) H { nx := fun _ H' => Q .non H', rt := Q } I ⟨F, startD N as, _, R0, hq, ?_⟩) (fun fl s' hs => ?_) fun e s' hs => hs
  · refine ⟨fun σ' env' F' H' E R' z => ?_, fun _ _ _ _ _ _ z => z.elim, fun _ _ _ _ _ _ z => z.elim, fun rr v σ' env' F' H' E R' V z => ?_, fun x cls d σ' env' F' H' E2 R' xr z => ?_⟩
    · obtain ⟨R2, E2, _⟩ := end_rep R (by omega) hl hn E R'
      exact z F' H' .non E2 R2 (show Rp K F' .non .none from .non)
    · obtain ⟨R2, E2, o2⟩ := end_rep R (by omega) hl hn E R'
      refine z F' H' v E2 R2 ?_
      cases rr with
      | dat d => exact V
      | inv φ => exact V
      | tab P => obtain ⟨_, _, z⟩ := V; exact z.elim
      | obj o =>
        obtain ⟨p, e1, e2, e3, e4, e5⟩ := V
        exact ⟨p, e1, e2, e3, fun z => e4 (o2 p z), e5⟩
    · obtain ⟨R3, E3, _⟩ := end_rep R (by omega) hl hn E2 R'
      exact wm_of tk (hex x _ F' H' cls d z E3 R3 xr)
  · have done : ∀ {σ' : L2.St} {H' : Hp} {v : V} {u : Value}, Inv (cxOf (L2.CX P w) P w K mg base N qual scope f cdv A outer s H E) [] σ' H' s' → RelV v u → Q v H' → CE outer P w H s Q u s' := fun {σ' H' v u} J rv q => ⟨v, H', J.os, J.bare, J.base, J.hok, rv, q⟩
    cases fl with
    | ret u =>
      obtain ⟨v, σ', H', J, rv, q⟩ := hs
      exact done J rv q
    | next =>
      obtain ⟨σ', H', J, q⟩ := hs
      exact done (v := V.non) (u := Value.none) J rfl q
    | brk => obtain ⟨_, _, _, q⟩ := hs; exact q.elim
    | cont => obtain ⟨_, _, _, q⟩ := hs; exact q.elim
theorem FnF.okX {x : Str} {st : Stmt} {f : Addr} {fd : FuncData} {k n : Nat} {N ps : List Str} {sp : DSpX} (F : FnF K mg x st f fd) (S : FnScope N ps (defScope st)) (mono : ∀ as (Q Q' : Dv → Dn → Prop) (E E' : XP), (∀ r o, Q r o → Q' r o) → (∀ x, E x → E' x) → sp as Q E → sp as Q' E')
    (hbody : ∀ (cdv : Value) (A : Around) (outer : List Env) (s : Shared) (H : Hp) (E : XK), Room k (A.deeper (PyProof.Rows.envOfC x (defScope st) s.heap.objs.size f cdv)) → A.guards = some [] →
      ∃ t, DSs (cxOf (L2.CX P w) P w K mg base N x (defScope st) f cdv A outer s H E) n (defBody st) t ∧ ∀ as Q EX, as.length = ps.length → sp as Q EX → t { nx := fun env => Q (.dat .none) (outP n ps.length env), rt := fun r env => Q r (outP n ps.length env), ex := EX } (startD N as)) (hn : n ≤ ps.length := by decide) :
    FnX P w K mg base (k + 1) f fd ps sp := by
  obtain ⟨oc, od, kV, doc, pm, an, cdv, ct, osl, rfl, lk, hcd⟩ := F.ex
  exact fnx_of lk hcd S hn mono fun A outer s H E hr hg => hbody cdv A outer s H E hr hg
end

def kFnX (sp : DSpX) (nP nK : Nat) (dd : List Dt) (pick : List Nat) (t tk : DTa) : DTX := fun E env Q => t env fun evs env1 => tk env1 fun kevs env2 => evs.length = nP ∧ kevs.length = nK ∧
  okV (getP (evs ++ kevs ++ dd.map Ev.dat) pick) = true ∧ wr (argsO env2 (getP (evs ++ kevs ++ dd.map Ev.dat) pick)) fun as => sp as (fun r outs => Q r.ev (bkA (getP (evs ++ kevs ++ dd.map Ev.dat) pick) outs env2)) (fun x => ∀ outs, E x (bkA (getP (evs ++ kevs ++ dd.map Ev.dat) pick) outs env2))
def tCGX (X : Cx) (sp : DSpX) (nP nK : Nat) (dvs : List V) (pick : List Nat) (t tk : TA) : TE := fun σ H Q => t σ H fun vs H1 => tk σ H1 fun zs H2 => vs.length = nP ∧ zs.length = nK ∧ ∃ E : XK, tSpX X.K X.mg sp (getP (vs ++ zs ++ dvs) pick) H2 Q E ∧ ∀ cls d H', E cls d H' → Wm X cls d σ H'
section
variable {X : Cx} {pos : Pos}
theorem run_gx {k : Nat} {f : Addr} {fd : FuncData} {ps : List Str} {sp : DSpX} {pins : List (Addr × Obj)} {σ : L2.St} {H : Hp} {s : Shared} {Q : VK} {E : XK} {us us' : List Value} {kw : List (Str × Value)} {vs' : List V} (F : FnX X.prog X.w X.K X.mg X.base k f fd ps sp) (hr : Room k X.A) (hgd : X.A.guards = some [])
    (I : Inv X pins σ H s) (b : BindsTo s fd ⟨us, kw⟩ (ps.zip us')) (r : Vals vs' us') (hl : vs'.length = ps.length) (h : tSpX X.K X.mg sp vs' H Q E) (hW : ∀ cls d H', E cls d H' → Wm X cls d σ H') : wpAny (model X.prog X.w) X.A (call (.ref f) us kw) (EP X pins σ Q) X.xe s := by
  refine wpAny_call (codeAny_mono (F.run X.A X.stack s H ⟨us, kw⟩ us' vs' Q E hr hgd I.env0 b r hl h) ?_)
  intro rr s' hq
  cases rr with
  | error e => exact takes_wm e s' (XE.of_call I (fun cls d H' h => hW cls d H' h) hq)
  | ok fl =>
    cases fl with
    | ret u => exact I.after hq
    | next => exact (show False from hq).elim
    | brk => exact (show False from hq).elim
    | cont => exact (show False from hq).elim
section
variable {k nP : Nat} {f : Addr} {fd : FuncData} {ps ks : List Str} {sp : DSpX} {dvs : List V} {dd : List Dt} {pick : List Nat} {x : Str} {p : Pos} {e : Expr} {es : List Expr} {kws : List Keyword} {t tk : DTa}
theorem kFnX_mono (F : FnX X.prog X.w X.K X.mg X.base k f fd ps sp) {nK : Nat} (mt : MonoA t) (mk : MonoA tk) : MonoX (kFnX sp nP nK dd pick t tk) := fun E E' env Q Q' j i q =>
  mt _ _ _ (fun evs env1 q => mk _ _ _ (fun kevs env2 q => ⟨q.1, q.2.1, q.2.2.1, wr_mono (fun as q => F.mono _ _ _ _ _ (fun r o q => i _ _ q) (fun x q outs => j _ _ (q outs)) q) q.2.2.2⟩) q) q
theorem kFnX_run (F : FnX X.prog X.w X.K X.mg X.base k f fd ps sp) (hb : BindP X.K fd ps nP ks dvs pick) (hd : RpAll X.K (fun _ => none) dvs dd) (mt : MonoA t) (mk : MonoA tk) {σ : L2.St} {H : Hp} {Q : VK} (h : tDW X.K X.mg (Wm X) (kFnX sp nP ks.length dd pick t tk) σ H Q) : tCGX X sp nP ks.length dvs pick (tDa X.K t) (tDa X.K tk) σ H Q := by
  obtain ⟨F0, env, EW, R, q, xw⟩ := h
  refine ⟨F0, env, R, mt _ _ _ (fun evs env1 q F1 H1 vs E1 R1 V1 => ⟨F1, env1, R1, mk _ _ _ (fun kevs env2 q F2 H2 zs E2 R2 V2 => ?_) q⟩) q⟩
  obtain ⟨l1, l2, ok, q⟩ := q
  obtain ⟨as, ea, q⟩ := wr_get q
  have E12 := E1.trans E2
  have A1 : RepA X.K F2 H2 σ env2 H vs evs := V1.move E2
  have A2 : RepA X.K F2 H2 σ env2 H zs kevs := V2.back E1.there
  have A12 : RepA X.K F2 H2 σ env2 H (vs ++ zs) (evs ++ kevs) := A2.append A1 fun p n1 n2 => by
    obtain ⟨u, hu⟩ := V1.newSome n1
    have z := V2.newNone n2
    rw [hu] at z; cases z
  have hd' : RpAll X.K F2 dvs dd := dpAll_same (fun _ u z => absurd (show (none : Option HO) = some u from z) (by simp)) hd
  have A3 : RepA X.K F2 H2 σ env2 H (vs ++ zs ++ dvs) (evs ++ kevs ++ dd.map Ev.dat) := (repA_dats hd').append A12 fun p _ n2 => newAt_dats n2
  have hl : (evs ++ kevs ++ dd.map Ev.dat).length = nP + ks.length + dvs.length := by
    rw [List.length_append, List.length_append, l1, l2, List.length_map, hd.length]
  have AP := A3.p.pick (pick := pick) (fun j hj => by rw [hl]; exact hb.lt j hj) hb.nd
  refine ⟨by rw [V1.length]; exact l1, by rw [V2.length]; exact l2, fun cls d H' => Wm X cls d σ H', ⟨F2, as, _, rep_args R2 AP ok ea, F.mono _ _ _ _ _ (fun r outs q F3 H3 v E3 R3 V3 => ?_) (fun x q => q) q, fun x outs F3 H3 cls d hx E3 R3 xr => ?_⟩, fun _ _ _ h => h⟩
  · obtain ⟨R4, E4, n4⟩ := rep_back E12 R2 AP ok ea E3 R3
    refine q F3 H3 v E4 R4 ?_
    cases r with
    | dat d => exact V3
    | inv φ => exact V3
    | tab P => obtain ⟨_, _, z⟩ := V3; exact z.elim
    | obj o =>
      obtain ⟨p, e1, e2, e3, e4, e5⟩ := V3
      refine ⟨p, e1, e2, e3, n4 p e5 e4, ?_⟩
      cases z : H p with
      | none => rfl
      | some u =>
        obtain ⟨u', z'⟩ := E12.there p u z
        rw [e5] at z'; cases z'
  · obtain ⟨R4, E4, n4⟩ := rep_back E12 R2 AP ok ea E3 R3
    exact xw x cls d _ F3 H3 E4 R4 xr (hx outs)
theorem dx_fn (F : FnX X.prog X.w X.K X.mg X.base k f fd ps sp) (hr : Room k X.A) (hgd : X.A.guards = some []) (hg : Gl X x) (hm : X.mg x = some (.ref f)) (hk : PySem.W.keepIn X.K (.ref f) = true) (hb : BindP X.K fd ps nP [] dvs pick) (hd : RpAll X.K (fun _ => none) dvs dd) (ha : DA X (e :: es) t)
    (hdb : (x == ("__debug__" : Str)) = false := by decide) (he : starEach (e :: es) X.env = (false, eval e X.env) :: starEach es X.env := by rfl) (hpl : (backTo pos (starEach es X.env)).any (·.1) = false := by rfl) :
    DEX X (.Call (.Name x p) (e :: es) [] pos) (kFnX sp nP 0 dd pick t kNil) := by
  have mk : MonoA kNil := fun env Q Q' i h => i _ _ h
  have pe : PE X (.Call (.Name x p) (e :: es) [] pos) (tCGX X sp nP 0 dvs pick (tDa X.K t) tNil) := by
    constructor
    intro pins s σ H Q I h
    apply wpAny_Call_Name_kw
    apply ld_glob I hg hm _ hdb
    refine PySem.W.callWith_K (h₀ := X.base) I.ok.mod.kin hk (thn (ha.run.run pos pins s σ H _ I h) ?_) he hpl
    rintro us s1 ⟨vs, H1, I1, r, l1, _, E, q, hW⟩
    refine ⟨I1.kIn, ?_⟩
    obtain ⟨ds, rd, to⟩ := hb.to
    have b := to s1 us [] I1.kIn (by rw [← r.length]; exact l1) rfl
    have rr : Vals (getP (vs ++ [] ++ dvs) pick) (getP (us ++ [] ++ ds) pick) := vals_getP (by rw [List.append_nil, List.append_nil]; exact r.append rd) pick
    refine run_gx F hr hgd I1 b rr ?_ q hW
    rw [getP_len]
    · exact hb.len
    · intro j hj
      have := hb.lt j hj
      rw [List.length_append, List.length_append, l1]
      exact this
  exact ⟨kFnX_mono F ha.mono mk, pe.mono fun σ H Q h => by
    have z := kFnX_run (ks := []) F hb hd ha.mono mk h
    obtain ⟨F0, env, R, q⟩ := z
    refine ⟨F0, env, R, ha.mono _ _ _ (fun evs env1 q F1 H1 vs E1 R1 V1 => ?_) q⟩
    obtain ⟨F2, env2, R2, q2⟩ := q F1 H1 vs E1 R1 V1
    exact q2 F2 H1 [] Ext.refl R2 .nil⟩
theorem dx_fn0 (F : FnX X.prog X.w X.K X.mg X.base k f fd ps sp) (hr : Room k X.A) (hgd : X.A.guards = some []) (hg : Gl X x) (hm : X.mg x = some (.ref f)) (hk : PySem.W.keepIn X.K (.ref f) = true) (hb : BindP X.K fd ps 0 [] dvs pick) (hd : RpAll X.K (fun _ => none) dvs dd)
    (hdb : (x == ("__debug__" : Str)) = false := by decide) : DEX X (.Call (.Name x p) [] [] pos) (kFnX sp 0 0 dd pick kNil kNil) := by
  have mk : MonoA kNil := fun env Q Q' i h => i _ _ h
  have pe : PE X (.Call (.Name x p) [] [] pos) (tCGX X sp 0 0 dvs pick tNil tNil) := by
    constructor
    intro pins s σ H Q I h
    apply wpAny_Call_Name_kw
    apply ld_glob I hg hm _ hdb
    obtain ⟨_, _, E, q, hW⟩ := h
    obtain ⟨ds, rd, to⟩ := hb.to
    have b := to s [] [] I.kIn rfl rfl
    have rr : Vals (getP ([] ++ [] ++ dvs) pick) (getP ([] ++ [] ++ ds) pick) := vals_getP rd pick
    refine PySem.W.callWith_K0 I.kIn hk (run_gx F hr hgd I b rr ?_ q hW)
    rw [getP_len]
    · exact hb.len
    · intro j hj
      have := hb.lt j hj
      simpa using this
  exact ⟨kFnX_mono F mk mk, pe.mono fun σ H Q h => by
    obtain ⟨F0, env, R, q⟩ := kFnX_run (ks := []) F hb hd mk mk h
    obtain ⟨F2, env2, R2, q2⟩ := q F0 H [] Ext.refl R .nil
    exact q2 F2 H [] Ext.refl R2 .nil⟩
theorem dx_fnK (F : FnX X.prog X.w X.K X.mg X.base k f fd ps sp) (hr : Room k X.A) (hgd : X.A.guards = some []) (hg : Gl X x) (hm : X.mg x = some (.ref f)) (hk : PySem.W.keepIn X.K (.ref f) = true) (hb : BindP X.K fd ps nP ks dvs pick) (hd : RpAll X.K (fun _ => none) dvs dd) (ha : DA X (e :: es) t) (hkw : DKw X kws tk)
    (hall : (backToKw pos (keywordEach kws X.env)).all (·.1.isSome) = true := by rfl) (hks : (backToKw pos (keywordEach kws X.env)).filterMap (·.1) = ks := by rfl)
    (hdb : (x == ("__debug__" : Str)) = false := by decide) (he : starEach (e :: es) X.env = (false, eval e X.env) :: starEach es X.env := by rfl)
    (hpl : ((backTo pos (starEach (e :: es) X.env)).any (·.1) || (backToKw pos (keywordEach kws X.env)).any (·.1.isNone)) = false := by rfl) :
    DEX X (.Call (.Name x p) (e :: es) kws pos) (kFnX sp nP ks.length dd pick t tk) := by
  have pe : PE X (.Call (.Name x p) (e :: es) kws pos) (tCGX X sp nP ks.length dvs pick (tDa X.K t) (tDa X.K tk)) := by
    constructor
    intro pins s σ H Q I h
    apply wpAny_Call_Name_kw
    apply ld_glob I hg hm _ hdb
    refine PySem.W.callWith_KW (h₀ := X.base) I.ok.mod.kin hk hall (thn (ha.run.run pos pins s σ H _ I h) ?_) hpl he
    rintro us s1 ⟨vs, H1, I1, r, q⟩
    refine thn (hkw.run.run pos pins s1 σ H1 _ I1 q) ?_
    rintro ws s2 ⟨zs, H2, I2, rz, l1, l2, E, q2, hW⟩
    refine ⟨I2.kIn, ?_⟩
    rw [hks]
    obtain ⟨ds, rd, to⟩ := hb.to
    have b := to s2 us ws I2.kIn (by rw [← r.length]; exact l1) (by rw [← rz.length]; exact l2)
    refine run_gx F hr hgd I2 b (vals_getP ((r.append rz).append rd) pick) ?_ q2 hW
    rw [getP_len]
    · exact hb.len
    · intro j hj
      have := hb.lt j hj
      rw [List.length_append, List.length_append, l1, l2]
      exact this
  exact ⟨kFnX_mono F ha.mono hkw.mono, pe.mono fun σ H Q h => kFnX_run F hb hd ha.mono hkw.mono h⟩
theorem dx_fnK0 (F : FnX X.prog X.w X.K X.mg X.base k f fd ps sp) (hr : Room k X.A) (hgd : X.A.guards = some []) (hg : Gl X x) (hm : X.mg x = some (.ref f)) (hk : PySem.W.keepIn X.K (.ref f) = true) (hb : BindP X.K fd ps 0 ks dvs pick) (hd : RpAll X.K (fun _ => none) dvs dd) (hkw : DKw X kws tk)
    (hall : (backToKw pos (keywordEach kws X.env)).all (·.1.isSome) = true := by rfl) (hks : (backToKw pos (keywordEach kws X.env)).filterMap (·.1) = ks := by rfl)
    (hdb : (x == ("__debug__" : Str)) = false := by decide)
    (hpl : ((backTo pos (starEach [] X.env)).any (·.1) || (backToKw pos (keywordEach kws X.env)).any (·.1.isNone)) = false := by rfl) :
    DEX X (.Call (.Name x p) [] kws pos) (kFnX sp 0 ks.length dd pick kNil tk) := by
  have mk : MonoA kNil := fun env Q Q' i h => i _ _ h
  have pe : PE X (.Call (.Name x p) [] kws pos) (tCGX X sp 0 ks.length dvs pick tNil (tDa X.K tk)) := by
    constructor
    intro pins s σ H Q I h
    apply wpAny_Call_Name_kw
    apply ld_glob I hg hm _ hdb
    refine PySem.W.callWith_KW0 (h₀ := X.base) I.ok.mod.kin hk hall (thn (hkw.run.run pos pins s σ H _ I h) ?_) hpl
    rintro ws s2 ⟨zs, H2, I2, rz, l1, l2, E, q2, hW⟩
    refine ⟨I2.kIn, ?_⟩
    rw [hks]
    obtain ⟨ds, rd, to⟩ := hb.to
    have b := to s2 [] ws I2.kIn rfl (by rw [← rz.length]; exact l2)
    refine run_gx F hr hgd I2 b (vals_getP ((show Vals ([] ++ zs) ([] ++ ws) from rz).append rd) pick) ?_ q2 hW
    rw [getP_len]
    · exact hb.len
    · intro j hj
      have := hb.lt j hj
      rw [List.length_append, List.length_append, l2]
      exact this
  exact ⟨kFnX_mono F mk hkw.mono, pe.mono fun σ H Q h => by
    obtain ⟨F0, env, R, q⟩ := kFnX_run F hb hd mk hkw.mono h
    exact q F0 H [] Ext.refl R .nil⟩
end
end
open PySem PySem.Spec L2

def XIn (mg : Str → Option Value) (a : Addr) (cls : Value) (d : Option Addr) (x : Ex) : PySem.W.Frag → Hp → V → Prop := fun K F v => v = .ref a ∧ XRep K mg F cls d x
/-- what is known of an error's class: its instances are asked rightly -/
structure ExK (K : PySem.W.Frag) (C : Addr) : Prop where
  hcl : (PySem.W.clsIn K C).isSome = true
  xf : XfC K C
  ha : PySem.W.findIn K (.ref C) "__class__" = some (some (.builtin "object.__class__"))
  hn : PySem.W.specialIn K (.builtin "object.__class__") "__get__" = some (some (.builtin "getset_descriptor.__get__"))
  ht : PySem.W.takesIn K (.builtin "object.__class__") = some true
  hm : PySem.W.mroIn K C (.type "object") = some true
theorem set_none_at {α : Type} {l : List (Option α)} {i j : Nat} {y : α} (h : (l.set i none)[j]? = some (some y)) : j ≠ i ∧ l[j]? = some (some y) := by
  rcases set_get h with ⟨_, q, _⟩ | q
  · cases q
  · exact q
theorem rep_none {K : PySem.W.Frag} {F H : Hp} {σ : L2.St} {env : Dn} (R : Rep K F H σ env) (i : Nat) : Rep K F H (σ.set i none) (env.set i none) := by
  refine ⟨R.sub, by rw [List.length_set, List.length_set]; exact R.len, fun j dv e => ?_, fun j k o o' p h1 h2 h3 h4 => ?_⟩
  · obtain ⟨ne, q⟩ := set_none_at e
    obtain ⟨v, e1, e2⟩ := R.val j dv q
    exact ⟨v, by rw [List.getElem?_set_ne (Ne.symm ne)]; exact e1, e2⟩
  · exact R.inj j k o o' p (set_none_at h1).2 (set_none_at h2).2 (set_none_at h3).2 (set_none_at h4).2
theorem ext_none {n : Nat} {F H : Hp} {σ : L2.St} {env : Dn} {i : Nat} (hi : n ≤ i) : ExtS n σ env F H (σ.set i none) (env.set i none) F H :=
  ⟨⟨Same.refl _, fun _ _ h _ _ => h, fun _ o h => ⟨o, h⟩, fun a o h n => (by rw [n] at h; cases h), fun a ⟨j, o, h1, h2⟩ => .inl ⟨j, o, (set_none_at h1).2, (set_none_at h2).2⟩, fun _ t => t⟩, fun j hj => by rw [List.getElem?_set_ne (by omega)]⟩
/-- the handler's word at L2: nothing is raised in it -/
def tHd (X : Cx) (n : Nat) (t : DTS) : TS := fun D σ H => ∃ F env E, Rep X.K F H σ env ∧ t { E with ex := noE } env ∧ Lnk X n σ env F H E D
def sHd (i : Nat) (E : DEnds) : DEnds := { nx := fun e => E.nx (e.set i none), rt := E.rt, bk := fun e => E.bk (e.set i none), ct := fun e => E.ct (e.set i none), ex := noE }
def sTryX (mg : Str → Option Value) (i : Nat) (ca : Str → Option Bool) (te : DTX) (fin : Ev → Dn → DEnds → Prop) (th : Addr → Value → Option Addr → DTS) : DTS := fun E env =>
  te (fun x env1 => wr (ca x.cls) fun b => (b = true → ∀ a cls d, th a cls d (sHd i E) (env1.set i (some (.inv (XIn mg a cls d x))))) ∧ (b = false → E.ex x)) env fun ev env1 => fin ev env1 E
def fSet (j : Nat) : Ev → Dn → DEnds → Prop := fun ev env E => setE j ev env E.nx
def fRet : Ev → Dn → DEnds → Prop := fun ev env E => retE ev fun r => E.rt r env
def sTryN (ca : Str → Option Bool) (te : DTX) (fin : Ev → Dn → DEnds → Prop) (th : DTS) : DTS := fun E env =>
  te (fun x env1 => wr (ca x.cls) fun b => (b = true → th { E with ex := noE } env1) ∧ (b = false → E.ex x)) env fun ev env1 => fin ev env1 E
section
variable {X : Cx} {n : Nat} {pos : Pos}
theorem hd_run {a : Addr} {oe : Obj} {pn : List (Addr × Obj)} {b₀ : Stmt} {suite : List Stmt} {t : DTS} (h : DSs (X.suite a ((a, oe) :: pn)) n (b₀ :: suite) t) : PSs (X.suite a ((a, oe) :: pn)) (b₀ :: suite) (tHd X n t) :=
  h.run.mono fun D σ H ⟨F, env, E, R, q, l⟩ => ⟨F, env, { E with ex := noE }, R, q, ⟨l.nx, l.bk, l.ct, l.rt, fun _ _ _ _ _ _ _ _ _ _ z => z.elim⟩⟩
/-- what is known of the clause's class -/
def CaOk (X : Cx) (CE : Addr) (ca : Str → Option Bool) : Prop := ∀ c b, ca c = some b → ∀ C, X.mg c = some (.ref C) → PySem.W.exmOne X.K (.ref C) (.ref CE) = some b
theorem try_ex {i : Nat} {ca : Str → Option Bool} {CE : Addr} {th : Addr → Value → Option Addr → DTS} {D : Ends} {σ : L2.St} {H F : Hp} {env : Dn} {E : DEnds} (hca : CaOk X CE ca) (hi : n ≤ i) (l : Lnk X n σ env F H E D) (x : Ex) (cls : Value) (d : Option Addr) (env1 : Dn) (F1 H1 : Hp) (e1 : Ext σ env F H σ env1 F1 H1) (R1 : Rep X.K F1 H1 σ env1) (xr : XRep X.K X.mg F1 cls d x)
    (h : wr (ca x.cls) fun b => (b = true → ∀ a cls d, th a cls d (sHd i E) (env1.set i (some (.inv (XIn X.mg a cls d x))))) ∧ (b = false → E.ex x)) : wAs X.K (.ref CE) i (fun a cls d => tHd X n (th a cls d)) (Wm X) D cls d σ H1 := by
  obtain ⟨b, eb, h1, h2⟩ := wr_get h
  obtain ⟨C, dd, vs, g1, g2, g3, g4, g5⟩ := id xr
  refine ⟨b, by rw [g2]; exact hca _ _ eb C g1, fun hb a na => ?_, fun hb => l.ex x cls d σ env1 F1 H1 e1.s R1 xr (h2 hb)⟩
  have V : RepE X.K F1 H1 σ env1 H (.ref a) (Dv.inv (XIn X.mg a cls d x)).ev := ⟨F1, Same.refl _, rfl, xr⟩
  have R2 : Rep X.K F1 H1 (σ.set i (some (.ref a))) (env1.set i (some (.inv (XIn X.mg a cls d x)))) := rep_set R1 V
  have E2 : ExtS n σ env F H (σ.set i (some (.ref a))) (env1.set i (some (.inv (XIn X.mg a cls d x)))) F1 H1 := ext_set e1 R1 V hi
  refine ⟨F1, _, sHd i E, R2, h1 hb a cls d, ⟨fun σ' env' F' H' e R z => ?_, fun σ' env' F' H' e R z => ?_, fun σ' env' F' H' e R z => ?_, fun r v σ' env' F' H' e R V z => ?_, fun _ _ _ _ _ _ _ _ _ _ z => z.elim⟩⟩
  · exact l.nx _ _ _ _ ((E2.trans e).trans (ext_none hi)) (rep_none R i) z
  · exact l.bk _ _ _ _ ((E2.trans e).trans (ext_none hi)) (rep_none R i) z
  · exact l.ct _ _ _ _ ((E2.trans e).trans (ext_none hi)) (rep_none R i) z
  · exact l.rt r v _ _ _ _ (E2.trans e) R (V.back e1.there) z
theorem tryN_ex {ca : Str → Option Bool} {CE : Addr} {th : DTS} {D : Ends} {σ : L2.St} {H F : Hp} {env : Dn} {E : DEnds} (hca : CaOk X CE ca) (l : Lnk X n σ env F H E D) (x : Ex) (cls : Value) (d : Option Addr) (env1 : Dn) (F1 H1 : Hp) (e1 : Ext σ env F H σ env1 F1 H1) (R1 : Rep X.K F1 H1 σ env1) (xr : XRep X.K X.mg F1 cls d x)
    (h : wr (ca x.cls) fun b => (b = true → th { E with ex := noE } env1) ∧ (b = false → E.ex x)) : wOnly X.K (.ref CE) (fun a cls d => tHd X n th) (Wm X) D cls d σ H1 := by
  obtain ⟨b, eb, h1, h2⟩ := wr_get h
  obtain ⟨C, dd, vs, g1, g2, g3, g4, g5⟩ := id xr
  refine ⟨b, by rw [g2]; exact hca _ _ eb C g1, fun hb a na => ?_, fun hb => l.ex x cls d σ env1 F1 H1 e1.s R1 xr (h2 hb)⟩
  exact ⟨F1, env1, E, R1, h1 hb, l.move e1.s⟩
variable {en cn y : Str} {i j : Nat} {CE : Addr} {ca : Str → Option Bool} {te : DTX} {th : Addr → Value → Option Addr → DTS} {tn : DTS} {e : Expr} {b₀ : Stmt} {suite : List Stmt} {np pos' pos2 p1 : Pos}
/-- try: y = e / except C as en: .. -/
theorem ds_trySet (hs : X.stack = X.env :: X.outer) (hf : X.env.frame = some X.env.locals) (hN : X.N.Nodup) (hi : X.N[i]? = some en) (hln : X.env.scope.names.lookup en = some .local) (hg : Gl X cn) (hm : X.mg cn = some (.ref CE)) (hca : CaOk X CE ca)
    (hj : X.N[j]? = some y) (hy : Loc X.env.scope y) (he : ∀ (pn : List (Addr × Obj)) (xe : Value → Shared → Prop), DEX (X.tr pn xe) e te)
    (hh : ∀ (a : Addr) (oe : Obj) (cls : Value) (d : Option Addr) (pn : List (Addr × Obj)), Zc cls d oe → (∃ vs, oe.data = .fields vs) → DSs (X.suite a ((a, oe) :: pn)) n (b₀ :: suite) (th a cls d))
    (hni : n ≤ i := by decide) (hnj : n ≤ j := by decide) (hd : (cn == ("__debug__" : Str)) = false := by decide) (hsw : swapsWith e (some (.Name y p1)) pos2.line X.env = pure false := by rfl) (hfn : X.fn y = true ∨ X.env.scope.names.lookup y = some .local := by first | exact .inl rfl | exact .inr rfl | assumption) :
    DS X n (.Try [.Assign [.Name y p1] e pos2] [.ExceptHandler (some (.Name cn np)) (some en) (b₀ :: suite) pos'] [] [] pos) (sTryX X.mg i ca te (fSet j) th) :=
  ⟨(ps_try_as (tb := fun W => tAsg (tDW X.K X.mg W te) (gName j)) (ts := fun a cls d => tHd X n (th a cls d)) hs hf hN hi hln ⟨hg, hd, .inl hm⟩ takes_wm (fun W pn xe tk _ => pss_one (ps_set hN hj hy ((he pn xe).run.mono fun σ H Q h => tDW_imp (fun cls d σ H w => wm_of tk w) h) hsw hfn)) fun a oe cls d pn hz hfd => hd_run (hh a oe cls d pn hz hfd)).mono fun D σ H => by
    rintro ⟨F, env, E, R, q, l⟩
    refine ⟨F, env, _, R, (he [] (fun _ _ => False)).mono _ _ _ _ _ (fun _ _ h => h) (fun ev env1 q F1 H1 v E1 R1 V1 => ?_) q, fun x cls d env1 F1 H1 e1 R1 xr h => try_ex hca hni l x cls d env1 F1 H1 e1 R1 xr h⟩
    have q : retE ev fun r => E.nx (env1.set j (some r)) := q
    obtain ⟨r, rfl, q'⟩ := retE_get q
    exact l.nx _ _ _ _ (ext_set E1 R1 V1 hnj) (rep_set R1 V1) q'⟩
/-- try: return e / except C as en: .. -/
theorem ds_tryRet (hs : X.stack = X.env :: X.outer) (hf : X.env.frame = some X.env.locals) (hN : X.N.Nodup) (hi : X.N[i]? = some en) (hln : X.env.scope.names.lookup en = some .local) (hg : Gl X cn) (hm : X.mg cn = some (.ref CE)) (hca : CaOk X CE ca)
    (he : ∀ (pn : List (Addr × Obj)) (xe : Value → Shared → Prop), DEX (X.tr pn xe) e te)
    (hh : ∀ (a : Addr) (oe : Obj) (cls : Value) (d : Option Addr) (pn : List (Addr × Obj)), Zc cls d oe → (∃ vs, oe.data = .fields vs) → DSs (X.suite a ((a, oe) :: pn)) n (b₀ :: suite) (th a cls d))
    (hni : n ≤ i := by decide) (hd : (cn == ("__debug__" : Str)) = false := by decide) :
    DS X n (.Try [.Return (some e) pos2] [.ExceptHandler (some (.Name cn np)) (some en) (b₀ :: suite) pos'] [] [] pos) (sTryX X.mg i ca te fRet th) :=
  ⟨(ps_try_as (tb := fun W D σ H => tDW X.K X.mg W te σ H D.rt) (ts := fun a cls d => tHd X n (th a cls d)) hs hf hN hi hln ⟨hg, hd, .inl hm⟩ takes_wm (fun W pn xe tk _ => pss_one (ps_ret ((he pn xe).run.mono fun σ H Q h => tDW_imp (fun cls d σ H w => wm_of tk w) h))) fun a oe cls d pn hz hfd => hd_run (hh a oe cls d pn hz hfd)).mono fun D σ H => by
    rintro ⟨F, env, E, R, q, l⟩
    refine ⟨F, env, _, R, (he [] (fun _ _ => False)).mono _ _ _ _ _ (fun _ _ h => h) (fun ev env1 q F1 H1 v E1 R1 V1 => ?_) q, fun x cls d env1 F1 H1 e1 R1 xr h => try_ex hca hni l x cls d env1 F1 H1 e1 R1 xr h⟩
    have q : retE ev fun r => E.rt r env1 := q
    obtain ⟨r, rfl, q'⟩ := retE_get q
    exact l.rt r _ _ _ _ _ E1.s R1 V1 q'⟩
/-- try: return e / except C: .. -/
theorem ds_tryNRet (hs : X.stack = X.env :: X.outer) (hf : X.env.frame = some X.env.locals) (hg : Gl X cn) (hm : X.mg cn = some (.ref CE)) (hca : CaOk X CE ca)
    (he : ∀ (pn : List (Addr × Obj)) (xe : Value → Shared → Prop), DEX (X.tr pn xe) e te)
    (hh : ∀ (a : Addr) (oe : Obj) (pn : List (Addr × Obj)), DSs (X.suite a ((a, oe) :: pn)) n (b₀ :: suite) tn) (hd : (cn == ("__debug__" : Str)) = false := by decide) :
    DS X n (.Try [.Return (some e) pos2] [.ExceptHandler (some (.Name cn np)) none (b₀ :: suite) pos'] [] [] pos) (sTryN ca te fRet tn) :=
  ⟨(ps_try_only (tb := fun W D σ H => tDW X.K X.mg W te σ H D.rt) (ts := fun a cls d => tHd X n tn) hs hf ⟨hg, hd, .inl hm⟩ takes_wm (fun W pn xe tk _ => pss_one (ps_ret ((he pn xe).run.mono fun σ H Q h => tDW_imp (fun cls d σ H w => wm_of tk w) h))) fun a oe cls d pn hz hfd => hd_run (hh a oe pn)).mono fun D σ H => by
    rintro ⟨F, env, E, R, q, l⟩
    refine ⟨F, env, _, R, (he [] (fun _ _ => False)).mono _ _ _ _ _ (fun _ _ h => h) (fun ev env1 q F1 H1 v E1 R1 V1 => ?_) q, fun x cls d env1 F1 H1 e1 R1 xr h => tryN_ex hca l x cls d env1 F1 H1 e1 R1 xr h⟩
    have q : retE ev fun r => E.rt r env1 := q
    obtain ⟨r, rfl, q'⟩ := retE_get q
    exact l.rt r _ _ _ _ _ E1.s R1 V1 q'⟩

/-- e.f -/
def kXf (mg : Str → Option Value) (a : Addr) (cls : Value) (d : Option Addr) (i : Nat) (f : Str) (cs : List Str) : DT := fun env Q => ∃ x : Ex, env[i]? = some (some (.inv (XIn mg a cls d x))) ∧ x.cls ∈ cs ∧ wr (x.fs.lookup f) fun d => Q (.dat d) env
theorem de_xf (i : Nat) {x f : Str} {cs : List Str} {a : Addr} {oe : Obj} {cls : Value} {d : Option Addr} {pn : List (Addr × Obj)} {p1 pos : Pos} (hz : Zc cls d oe) (hf : ∃ vs, oe.data = .fields vs)
    (hcs : ∀ c ∈ cs, ∀ C, X.mg c = some (.ref C) → XfC X.K C ∧ PySem.W.findIn X.K (.ref C) f = some none)
    (hN : X.N[i]? = some x := by rfl) (hv : Vis X.env.scope x := by first | exact Or.inl rfl | exact Or.inr (Or.inl rfl) | exact Or.inr (Or.inr rfl)) (hd : (x == ("__debug__" : Str)) = false := by decide) (hcd : (x == ("__classdict__" : Str)) = false := by decide)
    (hb : attributeBase (.Name x p1) f X.env (eval (.Name x p1) X.env) = eval (.Name x p1) X.env := by rfl) : DE (X.suite a ((a, oe) :: pn)) (.Attribute (.Name x p1) f pos) (kXf X.mg a cls d i f cs) := by
  refine ⟨fun env Q Q' m q => ?_, ⟨fun pins s σ H Q I h => ?_⟩⟩
  · obtain ⟨x, e1, e2, q⟩ := q
    exact ⟨x, e1, e2, wr_mono (fun d q => m _ _ q) q⟩
  · obtain ⟨F, env, R, xx, e1, e2, q⟩ := h
    obtain ⟨dt, e3, q⟩ := wr_get q
    obtain ⟨v, es, F0, s0, ev, C, dd, vs, g1, g2, g3, g4, g5⟩ := R.val i _ e1
    obtain ⟨hx, hno⟩ := hcs _ e2 C g1
    obtain ⟨u, e4, ru⟩ := xfs_look g5 e3
    subst ev
    refine (pe_xf (X := X) (e := .Name x p1) hx hno hz hf (pe_var (X := X.suite a ((a, oe) :: pn)) hN hv hd hcd) hb).run pins s σ H Q I ?_
    exact ⟨.ref a, es, rfl, g2, dd, vs, u, g3, R.sub _ _ (s0 _ _ g4), e4, q F H u Ext.refl R (dp_same s0 ru)⟩
/-- isinstance(e, C) -/
def kXis (mg : Str → Option Value) (a : Addr) (cls : Value) (d : Option Addr) (i : Nat) (sub : Str → Option Bool) : DT := fun env Q => ∃ x : Ex, env[i]? = some (some (.inv (XIn mg a cls d x))) ∧ wr (sub x.cls) fun b => Q (.dat (.bool b)) env
def SubOk (K : PySem.W.Frag) (mg : Str → Option Value) (CD : Addr) (sub : Str → Option Bool) : Prop := ∀ c b, sub c = some b → ∀ C, mg c = some (.ref C) → ExK K C ∧ PySem.W.kitOne K (.ref C) (.ref CD) = some b
theorem call_isX {a CD : Addr} {oe : Obj} {pn : List (Addr × Obj)} {cls : Value} {d : Option Addr} (hz : Zc cls d oe) (hf : ∃ vs, oe.data = .fields vs) :
    CallR (X.suite a ((a, oe) :: pn)) (.builtin "isinstance") (fun xs H Q => ∃ (C : Addr) (dd : Addr) (fs : List (Str × V)) (b : Bool), xs = [.ref a, .ref CD] ∧ cls = .ref C ∧ d = some dd ∧ H dd = some (.xd fs) ∧ ExK X.K C ∧ PySem.W.kitOne X.K (.ref C) (.ref CD) = some b ∧ Q (.bl b) H) := by
  intro pins s σ H xs us Q I r h
  obtain ⟨C, dd, fs, b, rfl, rfl, rfl, hdd, EK, kit, q⟩ := h
  obtain ⟨u1, u2, rfl, r1, r2⟩ := vals2 r
  obtain rfl : u1 = Value.ref a := r1
  obtain rfl : u2 = Value.ref CD := r2
  obtain ⟨hget, _⟩ := I.pin (a, oe) (List.mem_append.mpr (.inl List.mem_cons_self))
  obtain ⟨vs, hv⟩ := hf
  obtain ⟨mA, hns, hr⟩ := (show ObjOk X.prog X.w H s.heap dd (.xd fs) from I.hok dd _ hdd)
  obtain ⟨od, ho, hl⟩ := lookIn_ns hns
  have J : PySem.W.InstAt s.heap a oe C (some od) := ⟨hget, hz.1, by unfold PySem.W.notCls; rw [hv] <;> rfl, by rw [hz.2]; exact ho⟩
  exact PySem.W.kia_one (PySem.W.kitx_exc EK.hcl EK.xf.ga EK.xf.gg EK.xf.exC EK.ha EK.hn EK.ht EK.hm) I.kIn J kit (fun z => nomatch z) fun tk => ⟨.bl b, H, I.kept (t' := tk) fun _ _ z => z, rfl, q⟩
theorem de_xis (i : Nat) {x cn : Str} {CD : Addr} {sub : Str → Option Bool} {a : Addr} {oe : Obj} {cls : Value} {d : Option Addr} {pn : List (Addr × Obj)} {p0 p1 p2 pos : Pos} (hz : Zc cls d oe) (hf : ∃ vs, oe.data = .fields vs)
    (hgi : Gl X "isinstance") (hmi : X.mg "isinstance" = none) (hg : Gl X cn) (hm : X.mg cn = some (.ref CD)) (hsub : SubOk X.K X.mg CD sub)
    (hN : X.N[i]? = some x := by rfl) (hv : Vis X.env.scope x := by first | exact Or.inl rfl | exact Or.inr (Or.inl rfl) | exact Or.inr (Or.inr rfl)) (hd : (x == ("__debug__" : Str)) = false := by decide) (hcd : (x == ("__classdict__" : Str)) = false := by decide) (hdc : (cn == ("__debug__" : Str)) = false := by decide)
    (h1 : starEach [.Name x p1, .Name cn p2] X.env = (false, eval (.Name x p1) X.env) :: starEach [.Name cn p2] X.env := by rfl) (h2 : starEach [.Name cn p2] X.env = (false, eval (.Name cn p2) X.env) :: starEach [] X.env := by rfl) (hpl : (backTo pos (starEach [.Name cn p2] X.env)).any (·.1) = false := by rfl) :
    DE (X.suite a ((a, oe) :: pn)) (.Call (.Name "isinstance" p0) [.Name x p1, .Name cn p2] [] pos) (kXis X.mg a cls d i sub) := by
  refine ⟨fun env Q Q' m q => ?_, ⟨fun pins s σ H Q I h => ?_⟩⟩
  · obtain ⟨x, e1, q⟩ := q
    exact ⟨x, e1, wr_mono (fun d q => m _ _ q) q⟩
  · obtain ⟨F, env, R, xx, e1, q⟩ := h
    obtain ⟨b, e3, q⟩ := wr_get q
    obtain ⟨v, es, F0, s0, ev, C, dd, vs, g1, g2, g3, g4, g5⟩ := R.val i _ e1
    obtain ⟨EK, kit⟩ := hsub _ _ e3 C g1
    subst ev
    refine (pe_callB (X := X.suite a ((a, oe) :: pn)) (call_isX (CD := CD) hz hf) hgi hmi (by decide +kernel) (pa_cons (pe_var (X := X.suite a ((a, oe) :: pn)) hN hv hd hcd) (pa_cons (pe_glob (X := X.suite a ((a, oe) :: pn)) (v := .ref CD) hg hm rfl hdc) pa_nil h2) h1) (he := h1) (hpl := hpl)).run pins s σ H Q I ?_
    exact ⟨.ref a, es, C, dd, vs, b, rfl, g2, g3, R.sub _ _ (s0 _ _ g4), EK, kit, q F H (.bl b) Ext.refl R (.bl b)⟩
end
end Dx
namespace Fx
open PySem PySem.Spec L2 Dx

section
variable {X : Cx} {pins : List (Addr × Obj)} {σ : L2.St} {F H : Hp} {s : Shared}
/-- how the heap stands behind it: as it stood, or the table has a row more -/
def Made (H H1 : Hp) (P c : Addr) : Prop := H1 = H ∨ ∃ ps qs : Array Value, H P = some (.tbl ps) ∧ H c = none ∧ H1 = upd (upd H P (.tbl qs)) c (LamX.CodeO c lamNm)
abbrev lamObj (params : Arguments) (body : Expr) (scope : Scope) (cl : List (Str × Addr)) (pm : Value) (c : Addr) (ct : Value) : Obj := PySem.W.kla_obj "<lambda>" lamNm params body scope cl pm c ct
theorem code_ne {c : Addr} {q : Str} (ps : Array Value) : LamX.CodeO c q ≠ .tbl ps := LamX.codeO_ne ps
theorem lam_made {c P : Addr} {params : Arguments} {body : Expr} {scope : Scope} {pos : Pos} {E Q : Value → Shared → Prop} (I : Inv X pins σ H s) (TB : LamX.TabB X.base X.mg c P) (hc : X.env.code = .ref c) (hq : X.env.qual ++ "<lambda>" = lamNm)
    (hT : TabF F H P) (hd : defaultsOf params X.env = ([], [])) (hf : ∀ y ∈ scope.names, y.2 = .free → ∃ c, X.env.cells.lookup y.1 = some c)
    (h : ∀ (f c' : Addr) (pm ct : Value) (H1 : Hp) (s' : Shared), Inv X pins σ H1 s' → Made H H1 P c' → TabF F H1 P → s'.heap.get? f = some (lamObj params body scope (cloFrom X.env.cells scope.names []) pm c' ct) → H1 f = none → f ∉ frs X.stack → H1 c' = some (LamX.CodeO c' lamNm) → Q (.ref f) s') :
    wpAny (model X.prog X.w) X.A (eval (.Lambda params body scope pos) X.env) Q E s := by
  obtain ⟨f0, ⟨ps, hP, ht, ha⟩, only⟩ := id hT
  apply PySem.W.kla_eval hd
  rw [hq]
  have bi : s.heap.BuiltinsAt X.mg P := TB.bm.keeps I.bk
  have oP : s.heap.get? P = some { cls := .none, data := .fields ps } := I.hok P _ hP
  have away : ∀ f, s.heap.objs.size ≤ f → f ∉ frs X.stack := by
    intro f hf z
    rcases List.mem_cons.mp (I.stkSub _ z) with e | e
    · have := I.lt
      rw [← e] at this
      exact absurd (Nat.lt_of_lt_of_le this hf) (Nat.lt_irrefl _)
    · exact I.nofs hf e
  cases hca : codeAmong pos ps.toList with
  | some cv =>
    obtain ⟨c', rfl, hco⟩ := ha pos cv hca
    apply PySem.W.kla_makeFunctionHit (mg := X.mg) (c := c) (P := P) (ps := ps) (closure_ok hf) I.ok.glob (I.mod.glob.keeps I.bk) hc (TB.code.keeps I.bk) oP ht hca bi
    intro ct h' tk hx hsz
    exact h _ c' _ ct H _ (I.kept (t' := tk) fun b o e => Heap.get?_push_of_some _ (hx b o e)) (.inl rfl) hT (Heap.get?_push_size _ rfl) (I.hok.fresh hsz) (away _ hsz) hco
  | none =>
    apply PySem.W.kla_makeFunction (mg := X.mg) (c := c) (P := P) (ps := ps) (closure_ok hf) I.ok.glob (I.mod.glob.keeps I.bk) hc (TB.code.keeps I.bk) oP ht hca TB.gP bi
    intro c' ct h' tk hx hge hlt hrec htb
    obtain ⟨c2, oc, vs, t, e2, hoc, hdt, hv⟩ := hrec
    cases e2
    have big : s.heap.objs.size ≤ h'.objs.size := by omega
    have nc : H c' = none := I.hok.fresh hge
    have nPc : P ≠ c' := ne_of_none hP nc
    have J := LamX.inv_table (t' := tk) (q := lamNm) (more := #[rawInt pos.line, rawInt pos.col, .ref c']) (h' := h'.push (lamObj params body scope (cloFrom X.env.cells scope.names []) ((X.mg "__name__").getD .none) c' ct)) I hP
      (fun b o hb e => Heap.get?_push_of_some _ (hx b o hb e)) (Heap.get?_push_of_some _ htb) hge ⟨oc, vs, t, Heap.get?_push_of_some _ hoc, hdt, hv⟩
    have at_ : ∀ b, b ≠ P → b ≠ c' → upd (upd H P (.tbl (ps ++ #[rawInt pos.line, rawInt pos.col, .ref c']))) c' (LamX.CodeO c' lamNm) b = H b := fun b h1 h2 => by rw [upd_ne h2, upd_ne h1]
    have el : (ps ++ #[rawInt pos.line, rawInt pos.col, .ref c']).toList = ps.toList ++ [rawInt pos.line, rawInt pos.col, .ref c'] := by simp
    refine h _ c' _ ct _ _ J (.inr ⟨ps, _, hP, nc, rfl⟩) ⟨f0, ⟨_, by rw [upd_ne nPc, upd_same], by rw [el]; exact PySem.TriplesOk_snoc _ _ _ _ ht, fun p' cv hcv => ?_⟩, fun a qs z => ?_⟩ (Heap.get?_push_size _ rfl) ?_ (away _ big) upd_same
    · rw [el] at hcv
      rcases LamX.among_app _ ht hcv with z | z
      · obtain ⟨c0, e1, e2⟩ := ha p' cv z
        refine ⟨c0, e1, ?_⟩
        rw [at_ _ (fun k => by rw [k, hP] at e2; exact code_ne _ (Option.some.inj e2).symm) (ne_of_none e2 nc)]
        exact e2
      · exact ⟨c', z, upd_same⟩
    · by_cases k1 : a = c'
      · rw [k1, upd_same] at z; exact absurd (Option.some.inj z) (code_ne _)
      · by_cases k2 : a = P
        · exact k2
        · rw [at_ a k2 k1] at z; exact only a _ z
    · rw [at_ _ (Nat.ne_of_gt (Nat.lt_of_lt_of_le (Heap.lt_size oP) big)) (Nat.ne_of_gt hlt)]
      exact I.hok.fresh big
theorem Made.ext {P c : Addr} (m : Made H H1 P c) (t0 : TabF F H P) (t1 : TabF F H1 P) : Ext [] [] F H [] [] F H1 := by
  have no : ∀ {a : Addr}, ¬ Ow [] [] a := fun ⟨i, o, e, _⟩ => by simp at e
  rcases m with rfl | ⟨ps, qs, hP, hc, rfl⟩
  · exact Ext.refl
  · have at_ : ∀ a o, H a = some o → NB o → upd (upd H P (.tbl qs)) c (LamX.CodeO c lamNm) a = some o := fun a o e n => by
      rw [upd_ne (ne_of_none e hc), upd_ne (Ne.symm (t0.ne e n))]
      exact e
    refine ⟨Same.refl _, fun a o e _ n => at_ a o e n, fun a o e => ?_, fun a o e z => (by rw [z] at e; cases e), fun a w => (no w).elim, fun Q tq => ?_⟩
    · by_cases k : a = P
      · exact ⟨.tbl qs, by rw [k, upd_ne (ne_of_none hP hc), upd_same]⟩
      · exact ⟨o, by rw [upd_ne (ne_of_none e hc), upd_ne k]; exact e⟩
    · have : Q = P := by
        obtain ⟨_, ⟨ps', h1, _⟩, _⟩ := tq
        exact t0.2.2 Q ps' h1
      rw [this]; exact t1
end

section
variable {K : PySem.W.Frag} {F H F' H' : Hp} {σ σ1 σ2 : L2.St} {envd env env1 env2 : Dn}
theorem ow_nil {a : Addr} : ¬ Ow [] [] a := fun ⟨i, o, e, _⟩ => by simp at e
theorem ext_any (no : ∀ a, ¬ Ow σ envd a) (e : Ext σ envd F H σ1 env1 F' H') : Ext σ2 env2 F H σ2 env2 F' H' :=
  ⟨e.same, fun a o h _ n => e.keep a o h (no a) n, e.there, fun a o h n => .inl ((e.new a o h n).resolve_right (no a)), fun a w => .inl w, e.tab⟩
theorem rep_any (no : ∀ a, ¬ Ow σ envd a) (e : Ext σ envd F H σ1 env1 F' H') (s : Same F' H') (R : Rep K F H σ2 env2) : Rep K F' H' σ2 env2 := by
  refine ⟨s, R.len, fun i dv q => ?_, R.inj⟩
  obtain ⟨v, e1, r⟩ := R.val i dv q
  refine ⟨v, e1, ?_⟩
  cases dv with
  | dat d => exact dp_same e.same r
  | inv φ => obtain ⟨F0, s0, z⟩ := r; exact ⟨F0, s0.trans e.same, z⟩
  | tab P => exact e.tab P r
  | obj o =>
    obtain ⟨p, e2, e3, ro⟩ := r
    obtain ⟨u, hu⟩ := ro.some
    refine ⟨p, e2, ?_, ro.move e.same ((e.keep p u hu (no p) (ro.nt hu).1).trans hu.symm)⟩
    cases z : F' p with
    | none => rfl
    | some w =>
      rcases e.new p w z e3 with y | y
      · rw [hu] at y; cases y
      · exact absurd y (no p)
/-- the slots that hold data -/
def dOnly (env : Dn) : Dn := env.map fun o => match o with
  | some (.dat d) => some (.dat d)
  | _ => none
theorem dOnly_at {i : Nat} {dv : Dv} (h : (dOnly env)[i]? = some (some dv)) : ∃ d, dv = .dat d ∧ env[i]? = some (some (.dat d)) := by
  unfold dOnly at h
  rw [List.getElem?_map] at h
  cases e : env[i]? with
  | none => rw [e] at h; cases h
  | some o =>
    rw [e] at h
    cases o with
    | none => cases h
    | some dv' =>
      cases dv' with
      | dat d => cases h; exact ⟨d, rfl, rfl⟩
      | obj o => cases h
      | inv φ => cases h
      | tab P => cases h
theorem ow_dOnly (a : Addr) : ¬ Ow σ (dOnly env) a := fun ⟨i, o, e, _⟩ => by
  obtain ⟨d, z, _⟩ := dOnly_at e
  cases z
theorem rep_dOnly (R : Rep K F H σ env) (s1 : Same F F') (s2 : Same F' H') : Rep K F' H' σ (dOnly env) := by
  refine ⟨s2, by unfold dOnly; rw [List.length_map]; exact R.len, fun i dv e => ?_, fun i j o o' p e => ?_⟩
  · obtain ⟨d, rfl, q⟩ := dOnly_at e
    obtain ⟨v, e1, r⟩ := R.val i _ q
    exact ⟨v, e1, dp_same s1 r⟩
  · obtain ⟨d, z, _⟩ := dOnly_at e
    cases z
mutual
theorem dp_sub (h1 : ∀ a xs, F a = some (.lst xs) → F' a = some (.lst xs)) (h2 : ∀ a o xs, F a = some (.frz o (.tup xs)) → F' a = some (.frz o (.tup xs))) : ∀ {v : V} {d : Dt}, Rp K F v d → Rp K F' v d
  | _, _, .non => .non
  | _, _, .bl b => .bl b
  | _, _, .int i => .int i
  | _, _, .str x => .str x
  | _, _, .lst s t => .lst (h1 _ _ s) (dpAll_sub h1 h2 t)
  | _, _, .tup s t => .tup (by
      rcases s with ⟨o, h, ho⟩ | h
      · exact .inl ⟨o, h2 _ _ _ h, ho⟩
      · exact .inr h) (dpAll_sub h1 h2 t)
theorem dpAll_sub (h1 : ∀ a xs, F a = some (.lst xs) → F' a = some (.lst xs)) (h2 : ∀ a o xs, F a = some (.frz o (.tup xs)) → F' a = some (.frz o (.tup xs))) : ∀ {vs : List V} {ds : List Dt}, RpAll K F vs ds → RpAll K F' vs ds
  | _, _, .nil => .nil
  | _, _, .cons h t => .cons (dp_sub h1 h2 h) (dpAll_sub h1 h2 t)
end
end

/-- the lambda's call -/
theorem lam_call {X : Cx} {pins : List (Addr × Obj)} {σ : L2.St} {H1 H3 : Hp} {s1 s3 : Shared} {A3 : Around} {O3 : List Env} {E3 : XK} {Q2 : VK} {k : Nat} {f c' : Addr} {pm ctv : Value} {params : Arguments} {body : Expr} {scope : Scope} {te : DTX}
    (I1 : Inv X pins σ H1 s1) (L : LamX.LamS X.env.scope scope) (of3 : s3.heap.get? f = some (lamObj params body scope (cloFrom X.env.cells scope.names []) pm c' ctv)) (e0 : Env0 X.prog X.w X.K X.mg X.base A3 O3 s3 H3) (un : Un (frs X.stack) [] H1 H3 s1.heap s3.heap)
    (lim : s3.heap.NoLimit) (hr : Room (k + 1) A3) (hgd : A3.guards = some []) (cr : s3.heap.CodeRec (.ref c') lamNm) (hq : X.env.qual ++ "<lambda>" = lamNm)
    (hbind : ∀ (q : Str) (cl : List (Str × Addr)) (pm cv ctv : Value), bindArgs (PySem.W.kla_fn "<lambda>" q params body scope cl pm cv ctv) ⟨[], []⟩ = pure [])
    (hbody : ∀ (A : Around) (outer : List Env) (s : Shared) (H : Hp) (E : XK) (f c' : Addr), Room k (A.deeper (LamX.lamEnv X scope s.heap.objs.size f c')) → A.guards = some [] → DEX (LamX.lamCx X A outer s H E scope f c') body te)
    (go : tDW X.K X.mg (fun cls d _ H => E3 cls d H) te σ H3 Q2) : codeAny (model X.prog X.w) A3 (.call (.ref f) ⟨[], []⟩) (CR (L2.CX X.prog X.w) O3 X.prog X.w H3 s3 Q2 E3) s3 := by
  apply PySem.W.kla_callFunE hr.depth of3 rfl L.co L.gen rfl cr
  rw [hbind]
  apply wpAny_pure
  refine wpAny_newFunctionEnv (fun y hy => (L.own y hy).2) (by intro y hy; simp at hy) ?_ L.kind
  intro h3 hns hsb
  refine ⟨lim.fresh _ hsb, ?_⟩
  have kp : ∀ b o, s3.heap.get? b = some o → h3.get? b = some o := fun b o e =>
    hsb.extBut b o (Nat.ne_of_lt (Heap.lt_size e)) (Heap.get?_push_of_some _ e)
  have J : Inv (LamX.lamCx X A3 O3 s3 H3 E3 scope f c') [] σ H3 { s3 with heap := h3, toks := s3.toks + ([] : List (Str × Value)).length } := LamX.lam_start2 I1 L e0 hr.hd un hns kp
  have D := hbody A3 O3 s3 H3 E3 f c' (hr.deeper _) hgd
  have tk : Takes (LamX.lamCx X A3 O3 s3 H3 E3 scope f c') (fun cls d _ H => E3 cls d H) := takes_of (E₁ := fun e' s'' => L2.CX X.prog X.w O3 H3 s3 E3 e' s'') rfl rfl rfl rfl
  have run := D.run.run [] _ _ H3 Q2 J (tDW_imp (fun cls d σ H w => wm_of tk w) go)
  rw [← hq]
  apply PySem.W.kla_codeExpr
  refine wpAny_mono run ?_ (fun e s' z => z)
  rintro v s' ⟨v5, H5, J5, rv, q5⟩
  exact ⟨v5, H5, J5.os, J5.bare, J5.base, J5.hok, rv, q5⟩

/-- a(), a the parameter that holds the lambda: m is what it does -/
def kThk (φ : PySem.W.Frag → Hp → V → Prop) (m : Tr Dt) : DTX := fun E env Q => env[0]? = some (some (.inv φ)) ∧ m.wp (fun d => Q (.dat d) env) fun x => E x env
structure SaidG (P : Program) (w : World) (K : PySem.W.Frag) (mg : Str → Option Value) (base : Heap) (k : Nat) (x a : Str) (st : Stmt) (g : Addr) (Ng : List Str) (sw : Tr Dt → Tr Dt) : Prop where
  run : ∀ (cdv : Value) (A : Around) (outer : List Env) (s : Shared) (H : Hp) (m : Tr Dt) (φ : PySem.W.Frag → Hp → V → Prop), Room k (A.deeper (PyProof.Rows.envOfC x (defScope st) s.heap.objs.size g cdv)) → A.guards = some [] →
    (∀ (pn : List (Addr × Obj)) (xe : Value → Shared → Prop) (p1 p2 : Pos), DEX ((cxOf CX0 P w K mg base Ng x (defScope st) g cdv A outer s H E0).nox.tr pn xe) (.Call (.Name a p1) [] [] p2) (kThk φ m)) →
    ∃ t, DSs (cxOf CX0 P w K mg base Ng x (defScope st) g cdv A outer s H E0).nox 1 (defBody st) t ∧ ∀ Qd : Dt → Prop, (sw m).wp Qd noE → t { nx := fun _ => Qd .none, rt := fun r _ => ∃ d, r = .dat d ∧ Qd d } (some (.inv φ) :: List.replicate (Ng.length - 1) none)
def kLam (j : Nat) (P : Addr) (te : DTX) (sw : Tr Dt → Tr Dt) : DT := fun env Q => env[j]? = some (some (.tab P)) ∧
  ∃ m : Tr Dt, (∀ (Qd : Dt → Prop) (EX : XP), m.wp Qd EX → te (fun x _ => EX x) (dOnly env) fun ev _ => as1 ev Qd) ∧ (sw m).wp (fun d => Q (.dat d) env) noE
section
variable {X : Cx} {pos : Pos}
theorem de_lam {k j : Nat} {x a : Str} {g c P : Addr} {gd : FuncData} {st : Stmt} {Ng : List Str} {sw : Tr Dt → Tr Dt} {te : DTX} {params : Arguments} {body : Expr} {scope : Scope} {p lpos : Pos}
    (S : SaidG X.prog X.w X.K X.mg X.base (k + 1) x a st g Ng sw) (T : FnF X.K X.mg x st g gd) (Sg : FnScope Ng [a] (defScope st)) (hNg : Ng[0]? = some a) (hva : Vis (defScope st) a) (hb : L2.Binds X.K gd [a] []) (hr : Room (k + 2) X.A) (hgd : X.A.guards = some []) (hg : Gl X x)
    (TB : LamX.TabB X.base X.mg c P) (hcode : X.env.code = .ref c) (hq : X.env.qual ++ "<lambda>" = lamNm) (L : LamX.LamS X.env.scope scope) (hdef : defaultsOf params X.env = ([], []))
    (hbind : ∀ (q : Str) (cl : List (Str × Addr)) (pm cv ctv : Value), bindArgs (PySem.W.kla_fn "<lambda>" q params body scope cl pm cv ctv) ⟨[], []⟩ = pure [])
    (hbody : ∀ (A : Around) (outer : List Env) (s : Shared) (H : Hp) (E : XK) (f c' : Addr), Room k (A.deeper (LamX.lamEnv X scope s.heap.objs.size f c')) → A.guards = some [] → DEX (LamX.lamCx X A outer s H E scope f c') body te)
    (hdb : (x == ("__debug__" : Str)) = false := by decide) (hda : (a == ("__debug__" : Str)) = false := by decide) (hdc : (a == ("__classdict__" : Str)) = false := by decide) :
    DE X (.Call (.Name x p) [.Lambda params body scope lpos] [] pos) (kLam j P te sw) := by
  refine ⟨fun env Q Q' i q => ?_, ⟨fun pins s σ H Q I h => ?_⟩⟩
  · obtain ⟨e, m, h1, h2⟩ := q
    exact ⟨e, m, h1, Tr.post h2 fun d q => i _ _ q⟩
  obtain ⟨F, env, R, ej, m, hm, hsw⟩ := h
  obtain ⟨_, _, t0⟩ := R.val j _ ej
  have t0 : TabF F H P := t0
  obtain ⟨oc, od, kV, doc, pmv, an, cdv, ct0, osl, rfl, lk, hcd⟩ := T.ex
  apply wpAny_Call_Name_kw
  apply ld_glob I hg T.mg _ hdb
  refine PySem.W.callWith_K (h₀ := X.base) I.ok.mod.kin T.kp ?_ (by rfl) (by rfl)
  show wpAny _ _ (spliced ((false, eval (.Lambda params body scope lpos) X.env) :: [])) _ _ s
  refine Calls.spliced_cons (lam_made I TB hcode hq t0 hdef (L.has I.ok) fun f c' pm ctv H1 s1 I1 md t1 hf hfn hfr hco => ?_)
  refine Calls.spliced_nil ⟨I1.kIn, ?_⟩
  have E1 := md.ext t0 t1
  have s1H : Same F H1 := fun b o e => E1.keep b o (R.sub _ _ e) ow_nil fun ps z => by
    rw [z] at e
    have := t0.2.2 b ps (R.sub _ _ e)
    rw [this, t0.1] at e
    cases e
  have R1 : Rep X.K F H1 σ env := rep_any (fun _ => ow_nil) E1 s1H R
  let φ : PySem.W.Frag → Hp → V → Prop := fun _ F0 v => v = .ref f ∧ F0 c' = some (LamX.CodeO c' lamNm) ∧ Same F F0
  have thk : ∀ (hr' : Room (k + 1) (X.A.deeper (PyProof.Rows.envOfC x (defScope st) s1.heap.objs.size g cdv))) (pn : List (Addr × Obj)) (xe : Value → Shared → Prop) (p1 p2 : Pos), DEX ((cxOf CX0 X.prog X.w X.K X.mg X.base Ng x (defScope st) g cdv X.A X.stack s1 H1 E0).nox.tr pn xe) (.Call (.Name a p1) [] [] p2) (kThk φ m) := by
    intro hr' pn xe p1 p2
    refine ⟨fun E E' env Q Q' j i q => ⟨q.1, m.mono (fun d q => i _ _ q) (fun x q => j _ _ q) q.2⟩, ⟨fun pins2 s2 σ2 H2 Q2 I2 h2 => ?_⟩⟩
    obtain ⟨F2, env2, EW, R2, ⟨e0, q⟩, xw⟩ := h2
    obtain ⟨v, es, F0, s0, rfl, hc0, sF⟩ := R2.val 0 _ e0
    have hc2 : H2 c' = some (LamX.CodeO c' lamNm) := R2.sub _ _ (s0 _ _ hc0)
    have RL : Rep X.K F2 H2 σ (dOnly env) := rep_dOnly R1 (sF.trans s0) R2.sub
    have vv := (pe_var (X := (cxOf CX0 X.prog X.w X.K X.mg X.base Ng x (defScope st) g cdv X.A X.stack s1 H1 E0).nox.tr pn xe) (pos := p1) hNg hva hda hdc).run pins2 s2 σ2 H2 (fun v H' => v = .ref f ∧ H' = H2) I2 ⟨.ref f, es, rfl, rfl⟩
    apply wpAny_Call_Name_kw
    refine thn vv ?_
    rintro u s3 ⟨v3, H3, I3, r3, rfl, rfl⟩
    obtain rfl : u = Value.ref f := r3
    have of3 : s3.heap.get? f = some (lamObj params body scope (cloFrom X.env.cells scope.names []) pm c' ctv) := I3.base.keep f _ hf hfn hfr (fun z => nomatch z)
    apply PySem.W.callWith_F0 ⟨_, _, _, _, of3⟩
    obtain ⟨⟨co, vs, t, g1, g2, g3⟩, _⟩ := I3.hok c' _ hc2
    let E3 : XK := fun cls d H' => Wm ((cxOf CX0 X.prog X.w X.K X.mg X.base Ng x (defScope st) g cdv X.A X.stack s1 H1 E0).nox.tr pn xe) cls d σ2 H'
    have bm : MonoX te := (hbody (X.A.deeper (PyProof.Rows.envOfC x (defScope st) s1.heap.objs.size g cdv)) X.stack s3 H3 E3 f c' (hr'.deeper _) hgd).mono
    have go : tDW X.K X.mg (fun cls d _ H => E3 cls d H) te σ H3 Q2 := by
      refine ⟨F2, dOnly env, fun x _ => EW x env2, RL, bm _ _ _ _ _ (fun _ _ h => h) (fun ev env3 z F4 H4 v4 e4 r4 V4 => ?_) (hm _ _ q), fun x cls d env3 F4 H4 e4 r4 xr hx => ?_⟩
      · obtain ⟨d, rfl, z⟩ := as1_get z
        exact z F4 H4 v4 (ext_any ow_dOnly e4) (rep_any ow_dOnly e4 r4.sub R2) V4
      · exact xw x cls d env2 F4 H4 (ext_any ow_dOnly e4) (rep_any ow_dOnly e4 r4.sub R2) xr hx
    have rc := lam_call (E3 := E3) I1 L of3 I3.env0 I3.base I3.nolimit hr' hgd ⟨c', co, vs, t, rfl, g1, g2, g3⟩ hq hbind hbody go
    refine wpAny_call (codeAny_mono rc ?_)
    intro rr s' hq
    cases rr with
    | error e => exact takes_wm e s' (XE.of_call I3 (fun cls d H' h => h) hq)
    | ok fl =>
      cases fl with
      | ret u => exact I3.after hq
      | next => exact (show False from hq).elim
      | brk => exact (show False from hq).elim
      | cont => exact (show False from hq).elim
  have rc : codeAny (model X.prog X.w) X.A (.call (.ref g) ⟨[.ref f], []⟩) (CR CX0 X.stack X.prog X.w H1 s1 Q E0) s1 := by
    refine LamX.run_ofS (N := Ng) (ps := [a]) (us := [.ref f]) (vs := [.ref f]) lk hcd Sg hr I1.env0 (hb s1 [.ref f] I1.kIn rfl) (.cons rfl .nil) rfl fun hr' => ?_
    obtain ⟨t, ht, hq2⟩ := S.run cdv X.A X.stack s1 H1 m φ hr' hgd (thk hr')
    have sFs : Same F (upd F c' (LamX.CodeO c' lamNm)) := fun b o e => by
      by_cases z : b = c'
      · subst z
        have := s1H _ _ e
        rw [hco] at this
        rw [upd_same]; exact this
      · rw [upd_ne z]; exact e
    have sFh : Same (upd F c' (LamX.CodeO c' lamNm)) H1 := fun b o e => by
      by_cases z : b = c'
      · subst z; rw [upd_same] at e; rw [hco]; exact e
      · rw [upd_ne z] at e; exact s1H _ _ e
    have nl : 1 ≤ Ng.length := (List.getElem?_eq_some_iff.mp hNg).1
    have noS : ∀ b, ¬ Ow (L2.start Ng [V.ref f]) (some (Dv.inv φ) :: List.replicate (Ng.length - 1) none) b := fun b ⟨i, o, e, _⟩ => by
      cases i with
      | zero => cases e
      | succ i =>
        rw [List.getElem?_cons_succ, List.getElem?_replicate] at e
        split at e <;> cases e
    have R0 : Rep X.K (upd F c' (LamX.CodeO c' lamNm)) H1 (L2.start Ng [V.ref f]) (some (Dv.inv φ) :: List.replicate (Ng.length - 1) none) := by
      refine ⟨sFh, ?_, fun i dv e => ?_, fun i j o o' p e => ?_⟩
      · unfold L2.start
        simp only [List.length_cons, List.length_append, List.length_map, List.length_replicate, List.length_nil]
        omega
      · cases i with
        | zero => cases e; exact ⟨.ref f, rfl, _, Same.refl _, rfl, upd_same, sFs⟩
        | succ i =>
          rw [List.getElem?_cons_succ, List.getElem?_replicate] at e
          split at e <;> cases e
      · cases i with
        | zero => cases e
        | succ i =>
          rw [List.getElem?_cons_succ, List.getElem?_replicate] at e
          split at e <;> cases e
    have fin : ∀ (d : Dt) (v : V) (σ' : L2.St) (env' : Dn) (F' H' : Hp), ExtS 1 (L2.start Ng [V.ref f]) (some (Dv.inv φ) :: List.replicate (Ng.length - 1) none) (upd F c' (LamX.CodeO c' lamNm)) H1 σ' env' F' H' → Rep X.K F' H' σ' env' → Rp X.K F' v d →
        (∀ F' H' v, Ext σ env F H σ env F' H' → Rep X.K F' H' σ env → RepE X.K F' H' σ env H v (.dat d) → Q v H') → Q v H' := fun d v σ' env' F' H' e R' V z => by
      let G : Hp := fun b => if b = c' ∧ F c' = none then none else F' b
      have hG : ∀ b, ¬ (b = c' ∧ F c' = none) → G b = F' b := fun b n => if_neg n
      have hGc : ∀ b, (b = c' ∧ F c' = none) → G b = none := fun b n => if_pos n
      have Gs : Same G F' := fun b o y => by
        by_cases n : b = c' ∧ F c' = none
        · rw [hGc b n] at y; cases y
        · rw [hG b n] at y; exact y
      have hcF : F' c' = some (LamX.CodeO c' lamNm) := e.ext.same _ _ upd_same
      have V' : Rp X.K G v d := dp_sub (fun b xs y => by rw [hG b (fun n => by rw [n.1, hcF] at y; exact nomatch y)]; exact y) (fun b o xs y => by rw [hG b (fun n => by rw [n.1, hcF] at y; exact nomatch y)]; exact y) V
      have pc : P ≠ c' := t1.ne hco fun ps => code_ne ps
      have EG : Ext [] [] F H1 [] [] G H' := by
        refine ⟨fun b o y => ?_, fun b o y _ n => e.ext.keep b o y (noS b) n, e.ext.there, fun b o y n => ?_, fun b w => (ow_nil w).elim, fun Q tq => ?_⟩
        · rw [hG b (fun n => by rw [n.1, n.2] at y; cases y)]
          exact e.ext.same _ _ (sFs _ _ y)
        · have nb : b ≠ c' := fun k => by
            subst k
            rw [hGc b ⟨rfl, n⟩] at y; cases y
          rw [hG b (fun k => nb k.1)] at y
          exact .inl ((e.ext.new b o y (by rw [upd_ne nb]; exact n)).resolve_right (noS b))
        · have : Q = P := by
            obtain ⟨_, ⟨ps', h1, _⟩, _⟩ := tq
            exact t1.2.2 Q ps' h1
          subst this
          have t2 := e.ext.tab Q (tq.setF pc)
          exact ⟨by rw [hG Q (fun n => pc n.1)]; exact t2.1, t2.2⟩
      exact z G H' v ((ext_any (fun _ => ow_nil) E1).trans (ext_any (fun _ => ow_nil) EG)) (rep_any (fun _ => ow_nil) EG (Gs.trans R'.sub) R1) V'
    refine ⟨_, ht.run.nox, _, _, _, R0, hq2 _ hsw, ⟨fun σ' env' F' H' e R' z => fin .none .non σ' env' F' H' e R' .non z, fun _ _ _ _ _ _ z => z.elim, fun _ _ _ _ _ _ z => z.elim, fun r v σ' env' F' H' e R' V z => ?_, fun _ _ _ _ _ _ _ _ _ _ z => z.elim⟩⟩
    obtain ⟨d, rfl, z⟩ := z
    exact fin d v σ' env' F' H' e R' V z
  refine wpAny_call (codeAny_mono rc ?_)
  intro rr s' hq
  cases rr with
  | error e => exact (show False from hq).elim
  | ok fl =>
    cases fl with
    | ret u => exact I1.after hq
    | next => exact (show False from hq).elim
    | brk => exact (show False from hq).elim
    | cont => exact (show False from hq).elim
end
open PySem PySem.Spec L2 Dx
section
variable {α β γ δ σ : Type} {E : XP} {env : Dn} {κ : γ → Kd} {te ta : DT} {me ma : Tr Dt} {tx : DTX} {mx : Tr Dt} {c : DTb} {mc : Tr Bool} {tl : DTl} {ml : Tr (List Dt)} {tz : DTa} {tzx : DTaX} {mz : Tr (List Dt)} {n : Nat} {t u v : DTS}
/-- what raises nothing -/
def calmT (m : Tr α) : Tr α := ⟨fun Q _ => m.wp Q noE, fun h _ q => m.mono h (fun _ e => e) q⟩
theorem w_calm {m : Tr α} {Q : α → Prop} (h : m.wp Q noE) : (calmT m).wp Q E := h
theorem SD.calm (h : SD noE te env me) : SD E te env (calmT me) := fun Q w => h Q w
theorem SB.calm (h : SB noE c env mc) : SB E c env (calmT mc) := fun Q w => h Q w
theorem SL.calm (h : SL noE tl env ml) : SL E tl env (calmT ml) := fun Q w => h Q w
theorem SE.calm {m : Tr γ} {ev : γ → Ev} {φ : γ → Dn} (h : SE noE te env m ev φ) : SE E te env (calmT m) ev φ := fun Q w => h Q w
theorem SP.calm {m : Tr β} {k : β → List Ev} (h : SP noE tz env m k) : SP E tz env (calmT m) k := fun Q w => h Q w
theorem SA.calm (h : SA noE tz env mz n) : SA E tz env (calmT mz) n := fun Q w => h Q w
def SDX (E : XP) (t : DTX) (env : Dn) (m : Tr Dt) : Prop := ∀ (EW : XW) (Q : Dk), (∀ x, E x → EW x env) → m.wp (fun d => Q (.dat d) env) E → t EW env Q
theorem SD.x (h : SD E te env me) : SDX E (fun _ => te) env me := fun EW Q _ w => h Q w
def SAX (E : XP) (t : DTaX) (env : Dn) (m : Tr (List Dt)) (n : Nat) : Prop := ∀ (EW : XW) (Q : List Ev → Dn → Prop), (∀ x, E x → EW x env) → m.wp (fun d => d.length = n → Q (d.map Ev.dat) env) E → t EW env Q
theorem SA.x (h : SA E tz env mz n) : SAX E (fun _ => tz) env mz n := fun EW Q _ w => h Q w
theorem sax_cons (ha : SDX E tx env mx) (hz : SAX E tzx env mz n) : SAX E (kConsX tx tzx) env (consT mx mz) (n + 1) := fun EW Q he w =>
  ha EW _ he (Tr.post w fun x w => hz EW _ he (Tr.post w fun xs w hl => w (by simp [hl])))
theorem sdx_tup (hz : SAX E tzx env mz n) (hn : n ≤ 1000 := by decide) : SDX E (kTupX tzx) env (tupT mz) := fun EW Q he w =>
  hz EW _ he (Tr.post w fun xs w hl => asD_map xs _ ⟨by show xs.length ≤ sizeLine; rw [hl]; exact Nat.le_trans hn (by decide +kernel), w⟩)
def spTX {α β : Type} (inA : α → List Dv) (F : α → Tr β) (ρ : α → β → Dv × Dn) : DSpX := fun as Q EX => ∃ a, as = inA a ∧ (F a).wp (fun b => Q (ρ a b).1 (ρ a b).2) EX
theorem spTX_mono {α β : Type} (inA : α → List Dv) (F : α → Tr β) (ρ : α → β → Dv × Dn) : ∀ as (Q Q' : Dv → Dn → Prop) (E E' : XP), (∀ r o, Q r o → Q' r o) → (∀ x, E x → E' x) → spTX inA F ρ as Q E → spTX inA F ρ as Q' E' :=
  fun as Q Q' E E' i j ⟨a, e, w⟩ => ⟨a, e, (F a).mono (fun b q => i _ _ q) j w⟩
def notVar : Ev → Bool
  | .var _ => false
  | _ => true
theorem bkA_data : ∀ {es : List Ev} {outs env : Dn}, es.all notVar = true → bkA es outs env = env
  | [], _, _, _ => by simp [bkA]
  | e :: es, [], env, _ => by cases e <;> simp [bkA]
  | e :: es, o :: os, env, h => by
    simp only [List.all_cons, Bool.and_eq_true] at h
    cases e with
    | var i => cases h.1
    | dat d => exact bkA_data (es := es) h.2
    | inv d => exact bkA_data (es := es) h.2
    | new d => exact bkA_data (es := es) h.2
section
variable {inA : α → List Dv} {F : α → Tr Dt} {ρ : α → Dt → Dv × Dn} {nP nK : Nat} {dd : List Dt} {pick : List Nat} {t tk : DTa}
theorem sdx_fn {A B : Type} {ma : Tr A} {ka : A → List Ev} {mk : Tr B} {kk : B → List Ev} (arr : A → B → α) (ha : SP noE t env ma ka) (hk : SP noE tk env mk kk)
    (h1 : ∀ a b, (ka a).length = nP ∧ (kk b).length = nK ∧ okV (getP (ka a ++ kk b ++ dd.map Ev.dat) pick) = true ∧ argsO env (getP (ka a ++ kk b ++ dd.map Ev.dat) pick) = some (inA (arr a b)))
    (h2 : ∀ a b r, (ρ (arr a b) r).1.ev = .dat r ∧ (getP (ka a ++ kk b ++ dd.map Ev.dat) pick).all notVar = true) :
    SDX E (kFnX (spTX inA F ρ) nP nK dd pick t tk) env (bnd (calmT ma) fun a => bnd (calmT mk) fun b => F (arr a b)) := fun EW Q he w =>
  ha _ (Tr.post (m := ma) (E := noE) w fun a w => hk _ (Tr.post (m := mk) (E := noE) w fun b w => ⟨(h1 a b).1, (h1 a b).2.1, (h1 a b).2.2.1, wr_of (h1 a b).2.2.2 ⟨arr a b, rfl, (F (arr a b)).mono (fun r q => by
    show Q (ρ (arr a b) r).1.ev (bkA (getP (ka a ++ kk b ++ dd.map Ev.dat) pick) (ρ (arr a b) r).2 env)
    rw [(h2 a b r).1, bkA_data (h2 a b r).2]; exact q) (fun x hx outs => by
    rw [bkA_data (h2 a b .none).2]; exact he x hx) w⟩⟩))
theorem sdx_fn0 {ka kk : Unit → List Ev} (z : α) (ha : SP noE t env unitT ka) (hk : SP noE tk env unitT kk)
    (h1 : (ka ()).length = nP ∧ (kk ()).length = nK ∧ okV (getP (ka () ++ kk () ++ dd.map Ev.dat) pick) = true ∧ argsO env (getP (ka () ++ kk () ++ dd.map Ev.dat) pick) = some (inA z))
    (h2 : ∀ r, (ρ z r).1.ev = .dat r ∧ (getP (ka () ++ kk () ++ dd.map Ev.dat) pick).all notVar = true) :
    SDX E (kFnX (spTX inA F ρ) nP nK dd pick t tk) env (F z) := sdx_fn (fun _ _ => z) ha hk (fun _ _ => h1) (fun _ _ => h2)
theorem sdx_fnA {A : Type} {ma : Tr A} {ka : A → List Ev} {kk : Unit → List Ev} (arr : A → α) (ha : SP noE t env ma ka) (hk : SP noE tk env unitT kk)
    (h1 : ∀ a, (ka a).length = nP ∧ (kk ()).length = nK ∧ okV (getP (ka a ++ kk () ++ dd.map Ev.dat) pick) = true ∧ argsO env (getP (ka a ++ kk () ++ dd.map Ev.dat) pick) = some (inA (arr a)))
    (h2 : ∀ a r, (ρ (arr a) r).1.ev = .dat r ∧ (getP (ka a ++ kk () ++ dd.map Ev.dat) pick).all notVar = true) :
    SDX E (kFnX (spTX inA F ρ) nP nK dd pick t tk) env (bnd (calmT ma) fun a => F (arr a)) := sdx_fn (fun a _ => arr a) ha hk (fun a _ => h1 a) (fun a _ => h2 a)
theorem sdx_fnB {B : Type} {mk : Tr B} {ka : Unit → List Ev} {kk : B → List Ev} (arr : B → α) (ha : SP noE t env unitT ka) (hk : SP noE tk env mk kk)
    (h1 : ∀ a, (ka ()).length = nP ∧ (kk a).length = nK ∧ okV (getP (ka () ++ kk a ++ dd.map Ev.dat) pick) = true ∧ argsO env (getP (ka () ++ kk a ++ dd.map Ev.dat) pick) = some (inA (arr a)))
    (h2 : ∀ a r, (ρ (arr a) r).1.ev = .dat r ∧ (getP (ka () ++ kk a ++ dd.map Ev.dat) pick).all notVar = true) :
    SDX E (kFnX (spTX inA F ρ) nP nK dd pick t tk) env (bnd (calmT mk) fun b => F (arr b)) := sdx_fn (fun _ b => arr b) ha hk (fun _ b => h1 b) (fun _ b => h2 b)
end
theorem sdx_thk {φ : PySem.W.Frag → Hp → V → Prop} {m : Tr Dt} (e : env[0]? = some (some (.inv φ))) : SDX E (kThk φ m) env m := fun EW Q he w => ⟨e, m.mono (fun _ q => q) he w⟩
theorem sd_lam {j : Nat} {P : Addr} {sw : Tr Dt → Tr Dt} (e : env[j]? = some (some (.tab P))) (h : ∀ E', SDX E' tx (dOnly env) mx) : SD noE (kLam j P tx sw) env (sw mx) := fun Q w =>
  ⟨e, mx, fun Qd EX w => h EX (fun x _ => EX x) (fun ev _ => as1 ev Qd) (fun x h => h) w, w⟩
theorem ss_exprX {mu : Tr γ} (h : SDX E tx env mx) (hu : SS E u env mu κ) : SS E (sSeq (sDropX tx) u) env (bnd mx fun _ => mu) κ := fun D hE w =>
  h _ _ hE (Tr.post w fun d w => hu D hE w)
theorem ss_setX {i : Nat} {env' : Dt → Dn} {mu : Dt → Tr γ} (h : SDX E tx env mx) (he : ∀ d, env.set i (some (.dat d)) = env' d) (hu : ∀ d, SS E u (env' d) (mu d) κ) : SS E (sSeq (sSetX i tx) u) env (bnd mx mu) κ := fun D hE w =>
  h _ _ hE (Tr.post w fun d w => by
    show u D (env.set i (some (.dat d)))
    rw [he]
    exact hu d D hE w)
theorem ss_retX {n : Nat} {pre : Dn} (ι : Dt → γ) (h : SDX E tx env mx) (hk : ∀ d, κ (ι d) = .rt n (.dat d) pre) (hp : env.take n = pre) : SS E (sSeq (sRetX tx) u) env (bnd mx fun d => ret (ι d)) κ := fun D hE w =>
  h _ _ hE (Tr.post w fun d w => by
    have w : (κ (ι d)).on D := w
    rw [hk] at w
    exact w env hp)
theorem ss_raise {x : Str} {fns : List Str} (h : SA E tz env mz n) (hn : fns.length = n) : SS E (sSeq (sRaise x fns tz) u) env (bnd mz fun ds => raiseT ⟨x, (fns.zip ds).reverse⟩) κ := fun D hE w =>
  h _ (Tr.post w fun ds w hl => asD_map ds _ ⟨by rw [hl, hn], hE _ w⟩)
/-- try: .. except C as e: ..; both ways go on -/
def tryJ (m : Tr Dt) (ca : Str → Option Bool) (sd : Dt → δ) (mx : Ex → Tr δ) : Tr δ := ⟨fun Q E => m.wp (fun d => Q (sd d)) fun x => wr (ca x.cls) fun b => (b = true → (mx x).wp Q noE) ∧ (b = false → E x),
  fun h he q => m.mono (fun d q => h _ q) (fun x q => wr_mono (fun b q => ⟨fun z => (mx x).mono h (fun _ e => e) (q.1 z), fun z => he _ (q.2 z)⟩) q) q⟩
theorem ss_trySet {J : Type} {φ : δ → J → Dn} {φ' : δ → J → Dn} {mg : Str → Option Value} {i j : Nat} {ca : Str → Option Bool} {th : Addr → Value → Option Addr → DTS} {sd : Dt → δ} {mh : Ex → Tr δ} {mu : δ → Tr γ} (jd : Dt → J) (he : ∀ E', SDX E' tx env mx) (hd : ∀ d, env.set j (some (.dat d)) = φ (sd d) (jd d))
    (hh : ∀ a cls d x, SS noE (th a cls d) (env.set i (some (.inv (XIn mg a cls d x)))) (mh x) (fun s => .nx (φ' s))) (hφ : ∀ s j, (φ' s j).set i none = φ s j) (hu : ∀ s j, SS E u (φ s j) (mu s) κ) :
    SS E (sSeq (sTryX mg i ca tx (fSet j) th) u) env (bnd (tryJ mx ca sd mh) mu) κ := fun D hE w =>
  he (fun x => wr (ca x.cls) fun b => (b = true → (mh x).wp (fun s => (mu s).wp (fun g => (κ g).on D) E) noE) ∧ (b = false → E x)) _ _ (fun x q => wr_mono (fun b q => ⟨fun z a cls d => hh a cls d x _ (fun _ z => z.elim) (Tr.post (q.1 z) fun s w j' => by
      show u D ((φ' s j').set i none)
      rw [hφ]
      exact hu s j' D hE w), fun z => hE x (q.2 z)⟩) q) (Tr.post (m := mx) w fun d w => by
    show u D (env.set j (some (.dat d)))
    rw [hd]
    exact hu _ _ D hE w)
/-- try: return e except C: .. (the clause returns, or goes on) -/
def tryR (m : Tr Dt) (ca : Str → Option Bool) (ι : Dt → γ) (mh : Tr γ) : Tr γ := ⟨fun Q E => m.wp (fun d => Q (ι d)) fun x => wr (ca x.cls) fun b => (b = true → mh.wp Q noE) ∧ (b = false → E x),
  fun h he q => m.mono (fun d q => h _ q) (fun x q => wr_mono (fun b q => ⟨fun z => mh.mono h (fun _ e => e) (q.1 z), fun z => he _ (q.2 z)⟩) q) q⟩
theorem ss_tryN {ca : Str → Option Bool} {th : DTS} {n : Nat} {pre : Dn} {mh : Tr γ} (ι : Dt → γ) (he : ∀ E', SDX E' tx env mx) (hk : ∀ d, κ (ι d) = .rt n (.dat d) pre) (hp : env.take n = pre) (hh : ∀ u', SS noE (sSeq th u') env mh κ) :
    SS noE (sSeq (sTryN ca tx fRet th) u) env (tryR mx ca ι mh) κ := fun D hE w =>
  he (fun x => wr (ca x.cls) fun b => (b = true → mh.wp (fun g => (κ g).on D) noE) ∧ (b = false → noE x)) _ _ (fun x q => wr_mono (fun b q => ⟨fun z => by
      have e : (κ · |>.on D) = fun g => (κ g).on { D with ex := noE } := by
        funext g
        cases κ g <;> rfl
      have q1 := q.1 z
      rw [e] at q1
      exact hh (fun _ => u D) { D with ex := noE } (fun _ z => z) q1, fun z => (q.2 z).elim⟩) q) (Tr.post (m := mx) w fun d w => by
    have w : (κ (ι d)).on D := w
    rw [hk] at w
    exact w env hp)
def xfT (cs : List Str) (f : Str) (x : Ex) : Tr Dt := need (x.cls ∈ cs) (lift (x.fs.lookup f))
theorem sd_xf {mg : Str → Option Value} {a : Addr} {cls : Value} {d : Option Addr} {i : Nat} {f : Str} {cs : List Str} {x : Ex} (e : env[i]? = some (some (.inv (XIn mg a cls d x)))) : SD E (kXf mg a cls d i f cs) env (xfT cs f x) := fun Q w => ⟨x, e, w.1, w.2⟩
def xisT (sub : Str → Option Bool) (x : Ex) : Tr Dt := bnd (lift (sub x.cls)) fun b => ret (.bool b)
theorem sd_xis {mg : Str → Option Value} {a : Addr} {cls : Value} {d : Option Addr} {i : Nat} {sub : Str → Option Bool} {x : Ex} (e : env[i]? = some (some (.inv (XIn mg a cls d x)))) : SD E (kXis mg a cls d i sub) env (xisT sub x) := fun Q w => ⟨x, e, w⟩
theorem fnx_T {inA : α → List Dv} {F : α → Tr β} {ρ : α → β → Dv × Dn} {n k : Nat} {N : List Str} {pre : α → β → Dn}
    (h : ∀ a E, SS E (sSeq t sRetN) (startD N (inA a)) (F a) (fun b => .rt n (ρ a b).1 (pre a b))) (hρ : ∀ a b, (ρ a b).2 = pre a b ++ List.replicate (k - n) none) (as : List Dv) (Q : Dv → Dn → Prop) (EX : XP) (hl : as.length = k) (w : spTX inA F ρ as Q EX) :
    t { nx := fun env => Q (.dat .none) (outP n k env), rt := fun r env => Q r (outP n k env), ex := EX } (startD N as) := by
  obtain ⟨a, rfl, w⟩ := w
  refine h a EX { nx := fun _ => False, rt := fun r env => Q r (outP n k env), ex := EX } (fun _ z => z) (Tr.post w fun b q env e => ?_)
  rw [hρ, ← e] at q
  exact q
theorem said_T {m : Tr Dt} {pre : Dn} (h : SS noE (sSeq t sRetN) env m (fun b => .rt 1 (.dat b) pre)) (Qd : Dt → Prop) (w : m.wp Qd noE) : t { nx := fun _ => Qd .none, rt := fun r _ => ∃ d, r = .dat d ∧ Qd d } env := by
  have e : (fun _ : Dn => Qd .none) = fun _ : Dn => ∃ d, (Dv.dat .none) = .dat d ∧ Qd d := by
    funext _
    refine propext ⟨fun z => ⟨_, rfl, z⟩, fun ⟨d, e, z⟩ => ?_⟩
    cases e
    exact z
  refine Eq.mp (congrArg (fun f => t { nx := f, rt := fun r _ => ∃ d, r = .dat d ∧ Qd d } env) e.symm) ?_
  exact h { nx := fun _ => False, rt := fun r _ => ∃ d, r = .dat d ∧ Qd d } (fun _ z => z) (Tr.post w fun d q env _ => ⟨d, rfl, q⟩)
end
end Fx
namespace Dx
open PySem PySem.Spec L2
def LawRunT (P : Program) (w : World) (K : PySem.W.Frag) (mg : Str → Option Value) (base : Heap) (fa : Addr) (most : Nat) (T : Addr) : Prop :=
  ∀ (s : Shared) (H : Hp) (a : Addr) (ns : List Int), ns.length ≤ most → Env0 P w K mg base callerA [] s H → SqL K H a (ns.map V.int) → H T = some (.tbl #[]) → (∀ b ps, H b = some (.tbl ps) → b = T) →
    codeAny (model P w) callerA (.call (.ref fa) ⟨[.ref a], []⟩) (CR CX0 [] P w H s (fun v _ => v = .bl true) E0) s
theorem law_entryT {P : Program} {w : World} {K : PySem.W.Frag} {mg mb : Str → Option Value} {fa a c T : Addr} {s : Shared} {vs : List Value} {ns : List Int} {most : Nat}
    (KX : K.In s.heap) (hns : s.heap.Ns mainGlobals mg) (hb : s.heap.Ns builtinsNs mb) (hbb : ∀ x : Str, x ≠ "__name__" → mb x = bootBuiltins x) (hlim : s.heap.NoLimit) (hg : s.gens = #[])
    (hT : s.heap.get? T = some { cls := .none, data := .fields #[] }) (nT : K.lookup T = none) (C : PySem.W.CodeHd s.heap c T)
    (hbm : ∃ (bm : Addr) (ob : Obj), mg "__builtins__" = some (.ref bm) ∧ bm ≠ builtinsNs ∧ s.heap.get? bm = some ob ∧ ob.cls = .type "module" ∧ ob.dict = some builtinsNs ∧ ob.data = .plain)
    (ha : s.heap.get? a = some { cls := .type "list", data := .seq vs.toArray }) (hi : PyProof.Rows.IntsAre vs ns) (hm : ns.length ≤ most) (hl : ns.length ≤ sizeLine)
    (run : ∀ base : Heap, K.In base → base.Ns mainGlobals mg → LamX.TabB base mg c T → LawRunT P w K mg base fa most T) :
    codeAny (model P w) callerA (.call (.ref fa) ⟨[.ref a], []⟩) (fun r s' => r = .ok (.ret (.bool true)) ∧ OldK s.heap s'.heap ∧ s'.os = s.os ∧ PyProof.Rows.AllBare s'.gens) s := by
  have rv := vals_ints hi
  have aT : a ≠ T := fun z => by
    rw [z, hT] at ha
    have z' : Data.fields #[] = Data.seq vs.toArray _ := congrArg Obj.data (Option.some.inj ha)
    cases z'
  let fz : HO := .frz { cls := .type "list", data := .seq vs.toArray } (.lst (ns.map V.int))
  let H : Hp := fun b => if b = T then some (.tbl #[]) else if b = a ∧ K.lookup a = none then some fz else none
  have HT : H T = some (.tbl #[]) := if_pos rfl
  have Hne : ∀ b, b ≠ T → H b = if b = a ∧ K.lookup a = none then some fz else none := fun b n => if_neg n
  have Hat : ∀ b u, H b = some u → (b = T ∧ u = .tbl #[]) ∨ (b = a ∧ K.lookup a = none ∧ u = fz) := by
    intro b u e
    by_cases k : b = T
    · rw [k, HT] at e; cases e; exact .inl ⟨k, rfl⟩
    · rw [Hne b k] at e
      by_cases k2 : b = a ∧ K.lookup a = none
      · rw [if_pos k2] at e; cases e; exact .inr ⟨k2.1, k2.2, rfl⟩
      · rw [if_neg k2] at e; cases e
  have okS : ObjOk P w H s.heap a (.lst (ns.map V.int)) := ⟨by rw [List.length_map]; exact hl, vs, _, rv, ha⟩
  have hok : HOk P w H s.heap := by
    intro b u e
    rcases Hat b u e with ⟨rfl, rfl⟩ | ⟨rfl, _, rfl⟩
    · exact hT
    · exact ⟨ha, okS⟩
  have hS : SqL K H a (ns.map V.int) := by
    cases hk : K.lookup a with
    | none => exact .inl (.inr ⟨_, (Hne a aT).trans (if_pos ⟨rfl, hk⟩)⟩)
    | some o =>
      have e := KX a o hk
      rw [ha] at e
      cases e
      refine .inr ⟨_, vs.toArray, _, hk, rfl, rfl, rfl, ?_, by simpa using rv⟩
      rw [List.size_toArray, hi.length]
      exact hl
  have only : ∀ b ps, H b = some (.tbl ps) → b = T := fun b ps e => by
    rcases Hat b _ e with ⟨k, _⟩ | ⟨_, _, z⟩
    · exact k
    · have z' : HO.tbl ps = .frz { cls := .type "list", data := .seq vs.toArray } (.lst (ns.map V.int)) := z
      cases z'
  have hid : ∀ {b : Addr} {o : Obj}, s.heap.get? b = some o → (b = a → K.lookup a = none → False) → b ≠ T → (hidT s.heap H).get? b = some o := by
    intro b o e n1 n2
    refine hidT_get e ?_
    cases q : H b with
    | none => rfl
    | some u =>
      rcases Hat b u q with ⟨k, _⟩ | ⟨k, k2, _⟩
      · exact absurd k n2
      · exact (n1 k k2).elim
  have apart : ∀ {b : Addr} {o : Obj}, s.heap.get? b = some o → (∀ vs n, o.data ≠ .seq vs n) → o.data ≠ .fields #[] → (hidT s.heap H).get? b = some o := by
    intro b o e h1 h2
    refine hid e (fun k _ => ?_) fun k => ?_
    · rw [k, ha] at e
      cases e
      exact h1 _ _ rfl
    · rw [k, hT] at e
      cases e
      exact h2 rfl
  have nsOk : ∀ {b : Addr} {m : Str → Option Value}, s.heap.Ns b m → (hidT s.heap H).Ns b m := by
    rintro b m ⟨o, es, ep, e, d, r⟩
    exact ⟨o, es, ep, apart e (fun _ _ z => by rw [d] at z; cases z) (fun z => by rw [d] at z; cases z), d, r⟩
  have hKb : K.In (hidT s.heap H) := fun b o e => hid (KX b o e) (fun k k2 => by rw [k, k2] at e; cases e) fun k => by rw [k, nT] at e; cases e
  have TB : LamX.TabB (hidT s.heap H) mg c T := by
    refine ⟨?_, ?_, fun z => ?_⟩
    · obtain ⟨o, us, fl, tf, fg, tg, nf, tx, tt, e1, r1, r2, r3, rr⟩ := C
      refine ⟨o, us, fl, tf, fg, tg, nf, tx, tt, apart e1 (fun _ _ z => by rw [r2] at z; cases z) (fun z => ?_), r1, r2, r3, rr⟩
      rw [r2] at z
      cases z
      simp at r3
    · obtain ⟨bm, ob, b1, b2, b3, b4, b5, b6⟩ := hbm
      refine ⟨bm, ob, b1, b2, fun q => ?_, fun q => ?_, apart b3 (fun _ _ z => by rw [b6] at z; cases z) (fun z => by rw [b6] at z; cases z), b4, b5, b6⟩
      · obtain ⟨o, es, ep, e, hd, _⟩ := hns
        rw [q, e] at b3
        cases b3
        rw [hd] at b6
        cases b6
      · rw [q, hT] at b3
        cases b3
        cases b6
    · obtain ⟨o, es, ep, e, hd, _⟩ := hns
      rw [z, hT] at e
      cases e
      cases hd
  have hM : Mod K mg (hidT s.heap H) := by
    obtain ⟨mc, h1, h2⟩ := hlim
    exact ⟨hKb, nsOk hns, ⟨mb, nsOk hb, hbb⟩, mc, nsOk h1, h2⟩
  have e0 : Env0 P w K mg (hidT s.heap H) callerA [] s H := by
    refine ⟨rfl, hM, fun b o e => of_hidT e, Nat.le_of_eq (hidT_size _ _), trivial, fun b z => ?_, hok, .of_eq hg⟩
    cases z
  refine codeAny_mono (run _ hKb (nsOk hns) TB s H a ns hm e0 hS HT only) ?_
  intro r s' h
  cases r with
  | error e => exact (show False from h).elim
  | ok fl =>
    cases fl with
    | next => exact (show False from h).elim
    | brk => exact (show False from h).elim
    | cont => exact (show False from h).elim
    | ret u =>
      obtain ⟨v, H', os, bare, un, hok', r', rfl⟩ := h
      obtain rfl : u = Value.bool true := r'
      obtain ⟨more, hmore⟩ := un.tbls T #[] HT
      have gT : s'.heap.get? T = some { cls := .none, data := .fields (#[] ++ more) } := hok' T _ hmore
      have key : ∀ b o, b ≠ T → s.heap.get? b = some o → s'.heap.get? b = some o := fun b o nb e => by
        cases q : H b with
        | none => exact un.keep b o e q (fun z => nomatch z) (fun z => nomatch z)
        | some x =>
          rcases Hat b x q with ⟨k, _⟩ | ⟨rfl, _, rfl⟩
          · exact absurd k nb
          · obtain ⟨z1, _⟩ := hok' _ _ (un.frzs _ _ _ q)
            rw [ha] at e; cases e
            exact z1
      refine ⟨rfl, ⟨fun b o e => ?_, fun b o e => ?_⟩, os, bare⟩
      · by_cases k : b = T
        · subst k
          rw [hT] at e
          cases e
          exact .inr (.inl ⟨(C.tab hT).isCodeTable, rfl, _, more, rfl, gT⟩)
        · exact .inl (key b o k e)
      · by_cases k : b = T
        · subst k; exact ⟨_, gT⟩
        · exact ⟨o, key b o k e⟩
theorem walk_lawT {l : PySem.W.OpenLaw} {n : Nat} {q : Program} {loose : List Str} {XP : (Str → Option Value) → Heap → Prop} {YP : World → Heap → Prop} {d : DefRec} {K : Params → PySem.W.Frag}
    (hn : l.most = some n) (hn2 : n ≤ sizeLine) (hdf : d.params.defaults = []) (hY : ∀ (w : World) (h : Heap), YP w h → (K w.params).In h) (hrec : ((PyProof.Rows.recsOf q).find? (fun e => e.name == d.name)).isSome = true)
    (F : ∀ (w : World) (mg : Str → Option Value) (fa : Addr) (h : Heap), (K w.params).In h → h.Ns mainGlobals mg → mg d.name = some (.ref fa) → ∃ c T : Addr, PySem.W.tabIn (K w.params) d.name = some (c, T) ∧ (K w.params).lookup T = none ∧
      ∀ base : Heap, (K w.params).In base → base.Ns mainGlobals mg → LamX.TabB base mg c T → LawRunT l.prog w (K w.params) mg base fa n T) :
    PySem.W.WalkO q loose XP YP l.row.toRowW d [] (fun f vs => PySem.call f vs) := by
  apply Att.attach_call hn hdf
  intro w s0 s1 mg mb fa o pm cd doc a vs ns G Y ho hd hcd hmg hobj hints hlen hg
  have KX := hY w _ Y
  obtain ⟨c, T, h1, h2, h3⟩ := F w mg fa _ KX G.T.g hmg
  obtain ⟨d', hd'⟩ := Option.isSome_iff_exists.mp hrec
  obtain ⟨C, hT⟩ := PySem.W.tab_of G.T KX hd' h1
  exact law_entryT KX G.T.g G.T.b G.T.builtins G.T.nolimit hg hT h2 C G.T.bmain hobj hints hlen (Nat.le_trans hlen hn2) h3
theorem tabIn_code {K : PySem.W.Frag} {x : Str} {f c T : Addr} {oc : Value} {od : Option Addr} {fd : FuncData} {sl : Array (Option Value)} (h : PySem.W.tabIn K x = some (c, T)) (hn : PySem.W.nsIn K mainGlobals x = some (some (.ref f))) (lk : K.lookup f = some ⟨oc, od, .func fd, sl⟩) : fd.code = .ref c := by
  unfold PySem.W.tabIn at h
  rw [hn] at h
  dsimp only at h
  rw [lk] at h
  dsimp only at h
  split at h
  · rename_i c' e
    split at h
    · split at h
      · cases h; exact e
      · cases h
    · cases h
  · cases h
section
variable {P : Program} {w : World} {K : PySem.W.Frag} {mg : Str → Option Value} {base : Heap} {st : Stmt} {f : Addr} {fd : FuncData}
theorem law_ofT {g c T : Addr} {gd : FuncData} {N : List Str} {rest : List Stmt} {k most : Nat} {p1 p2 p3 p4 p5 : Pos} (F : FnF K mg "law" st f fd) (hcd0 : fd.code = .ref c) (S : FnScope N ["_law_script"] (defScope st)) (hr : Room (k + 1) callerA)
    (hb : defBody st = .Assign [.Name "_law_feed_here" p1] (.Call (.Name "_law_feed" p2) [.Name "_law_script" p3] [] p4) p5 :: rest) (hN : ∃ N' : List Str, N = ("_law_script" : Str) :: ("_law_feed_here" : Str) :: N')
    (l0 : (defScope st).names.lookup ("_law_script" : Str) = some NameKind.local) (l1 : (defScope st).names.lookup ("_law_feed_here" : Str) = some NameKind.local)
    (bL : ∀ (s : Shared) (u : Value), BindsTo s fd ⟨[u], []⟩ [("_law_script", u)])
    (G : FnOk P w K mg base CX0 1 g gd ["_law_script"] (spFeed K)) (bG : Binds K gd ["_law_script"] []) (mG : mg "_law_feed" = some (.ref g)) (kG : PySem.W.keepIn K (.ref g) = true)
    (hgl : ∀ (cdv : Value) (A : Around) (outer : List Env) (s : Shared) (H : Hp) (E : XK), Gl (cxOf CX0 P w K mg base N "law" (defScope st) f cdv A outer s H E).nox "_law_feed")
    (hsw : ∀ (cdv : Value) (A : Around) (outer : List Env) (s : Shared) (H : Hp) (E : XK), swapsWith (.Call (.Name "_law_feed" p2) [.Name "_law_script" p3] [] p4) (some (.Name "_law_feed_here" p1)) p5.line (cxOf CX0 P w K mg base N "law" (defScope st) f cdv A outer s H E).nox.env = pure false)
    (hrest : ∀ (A : Around) (outer : List Env) (s : Shared) (H : Hp) (E : XK), Room k (A.deeper (PyProof.Rows.envOfC "law" (defScope st) s.heap.objs.size f (.ref c))) → A.guards = some [] →
      ∃ t, DSs (cxOf CX0 P w K mg base N "law" (defScope st) f (.ref c) A outer s H E).nox 0 rest t ∧ t { nx := fun _ => False, rt := fun r _ => r = .dat (.bool true) } (some (.tab T) :: some feed :: List.replicate (N.length - 2) none)) (hk : 1 ≤ k := by decide) :
    LawRunT P w K mg base f most T := by
  intro s H a ns hlen e0 hS hT only
  obtain ⟨oc, od, kV, doc, pm, an, cdv, ct, osl, rfl, lk, hcd⟩ := F.ex
  obtain rfl : cdv = .ref c := hcd0
  obtain ⟨N', rfl⟩ := hN
  have KX : K.In s.heap := e0.mod.kin.keeps fun b o e => (e0.bs b o e).1
  have lim : s.heap.NoLimit := e0.mod.nolimit.keeps fun b o e => (e0.bs b o e).1
  apply codeAny_call_function hr.depth (KX _ _ lk) rfl S.co S.gen rfl (PySem.W.codeRec_of KX hcd)
  apply bL
  apply wpAny_newFunctionEnv_cells S.kind (fun y hy => .inl (by simp at hy; subst hy; exact l0))
  intro env he s1 x
  subst he
  refine ⟨lim.keeps x.toInCall.keep, codeAny_func ?_⟩
  obtain ⟨t, ht, hq⟩ := hrest callerA [] s H E0 (hr.deeper _) rfl
  have I : Inv (cxOf CX0 P w K mg base (("_law_script" : Str) :: ("_law_feed_here" : Str) :: N') "law" (defScope st) f (.ref c) callerA [] s H E0) [] (L2.start (("_law_script" : Str) :: ("_law_feed_here" : Str) :: N') [.ref a]) H s1 := inv_start S hr.hd e0 rfl (.cons rfl .nil) x
  have body := pss_cons (ps_set (X := (cxOf CX0 P w K mg base (("_law_script" : Str) :: ("_law_feed_here" : Str) :: N') "law" (defScope st) f (.ref c) callerA [] s H E0).nox) (i := 1) (pos := p5) (pos' := p1) S.nd rfl (Or.inl l1) (pe_call (pos := p4) (p := p2) G ((hr.deeper _).mono hk) (hgl _ _ _ _ _ _) mG kG bG .nil pass0 (pa_cons (pv 0 (hv := Or.inl l0) (pos := p3)) pa_nil)) (hsw _ _ _ _ _ _)) ht.run
  rw [← hb] at body
  refine wpAny_mono (body.nox.run [] s1 _ H { nx := fun _ _ => False, rt := fun v _ => v = .bl true } I ?_) (fun fl s' hs => ?_) fun e s' hs => hs
  · refine ⟨_, rfl, a, ns, rfl, hS, fun H' p q ms g hp hq' npq ep eq eT => ?_⟩
    let F0 : Hp := fun b => if b = q then some (.lst (ms.map V.int)) else none
    have Fq : F0 q = some (.lst (ms.map V.int)) := if_pos rfl
    have Fp : F0 p = none := if_neg npq
    have hT' : H' T = some (.tbl #[]) := g _ _ hT
    have tb : TabF F0 H' T := by
      refine ⟨if_neg fun z => ?_, ⟨#[], hT', True.intro, fun pos cv hc => ?_⟩, fun b ps z => only b ps (eT b ps z)⟩
      · rw [z, eq] at hT'; cases hT'
      · simp [codeAmong] at hc
    refine ⟨F0, _, _, ⟨fun b u e => ?_, ?_, fun i dv e => ?_, fun i j o o' pp h1 h2 h3 h4 => ?_⟩, hq, ⟨fun _ _ _ _ _ _ z => z, fun _ _ _ _ _ _ z => z, fun _ _ _ _ _ _ z => z, fun r v σ' env' F' H2 E R V z => ?_, fun _ _ _ _ _ _ _ _ _ _ z => z.elim⟩⟩
    · by_cases c : b = q
      · subst c
        have e' : some _ = some u := (if_pos rfl).symm.trans e
        rw [eq]; exact e'
      · have e' : none = some u := (if_neg c).symm.trans e
        cases e'
    · simp [L2.start]
    · match i, e with
      | 0, e => cases e; exact ⟨.ref a, rfl, tb⟩
      | 1, e =>
        cases e
        exact ⟨.ref p, rfl, p, rfl, Fp, fkv ms 0 0 0, _, ⟨ms, 0, 0, 0, rfl⟩, ep, ⟨rfl, .lst Fq (rp_ints ms), rfl, .int 0, rfl, .int 0, rfl, .int 0, trivial⟩⟩
      | i + 2, e =>
        have e' : (List.replicate N'.length (none : Option Dv))[i]? = some (some dv) := by simpa using e
        rw [List.getElem?_replicate] at e'
        split at e' <;> cases e'
    · have one : ∀ (i : Nat) (o : Ob), (some (.tab T) :: some feed :: List.replicate (("_law_script" :: "_law_feed_here" :: N' : List Str).length - 2) none : Dn)[i]? = some (some (.obj o)) → i = 1 := by
        intro i o e
        match i, e with
        | 0, e => cases e
        | 1, e => rfl
        | i + 2, e =>
          have e' : (List.replicate N'.length (none : Option Dv))[i]? = some (some (.obj o)) := by simpa using e
          rw [List.getElem?_replicate] at e'
          split at e' <;> cases e'
      rw [one i o h1, one j o' h2]
    · subst z
      have V' : Rp K F' v (.bool true) := V
      cases V'
      rfl
  · have done : ∀ {σ' : L2.St} {H' : Hp} {v : V} {u : Value}, Inv (cxOf CX0 P w K mg base (("_law_script" : Str) :: ("_law_feed_here" : Str) :: N') "law" (defScope st) f (.ref c) callerA [] s H E0) [] σ' H' s' → RelV v u → v = .bl true → CE [] P w H s (fun v _ => v = .bl true) u s' := fun {σ' H' v u} J rv q => ⟨v, H', J.os, J.bare, J.base, J.hok, rv, q⟩
    cases fl with
    | ret u =>
      obtain ⟨v, σ', H', J, rv, q⟩ := hs
      exact done J rv q
    | next => obtain ⟨_, _, _, q⟩ := hs; exact q.elim
    | brk => obtain ⟨_, _, _, q⟩ := hs; exact q.elim
    | cont => obtain ⟨_, _, _, q⟩ := hs; exact q.elim
end
open PySem PySem.Spec L2
theorem all_nil {α : Type} {R : α → Prop} : ∀ p ∈ ([] : List α), R p := fun p h => nomatch h
theorem all_cons {α : Type} {R : α → Prop} {a : α} {l : List α} (h : R a) (t : ∀ p ∈ l, R p) : ∀ p ∈ a :: l, R p := fun p hp => by
  rcases List.mem_cons.mp hp with rfl | hp
  · exact h
  · exact t p hp
theorem cls_mem {mg : Str → Option Value} {cs : List Str} {R : Addr → Prop} (h : ∀ c ∈ cs, ∃ A, mg c = some (.ref A) ∧ R A) : ∀ c ∈ cs, ∀ C, mg c = some (.ref C) → R C := fun c hc C e => by
  obtain ⟨A, e1, r⟩ := h c hc
  rw [e] at e1; cases e1
  exact r
theorem look_cls {mg : Str → Option Value} {l : List (Str × Bool)} {R : Addr → Bool → Prop} (h : ∀ p ∈ l, ∃ A, mg p.1 = some (.ref A) ∧ R A p.2) : ∀ c b, List.lookup c l = some b → ∀ C, mg c = some (.ref C) → R C b := fun c b e C eC => by
  obtain ⟨A, e1, r⟩ := h (c, b) (PySem.mem_of_lookup e)
  rw [eC] at e1; cases e1
  exact r
theorem FnF.bd1 {K : PySem.W.Frag} {mg : Str → Option Value} {x p : Str} {st : Stmt} {f : Addr} {fd : FuncData} (F : FnF K mg x st f fd)
    (h : ∀ (kV doc pm : Value) (an : Option Addr) (cdv ct u : Value), bindArgs (PySem.W.fnOf x x (defArgs st) (defBody st) (defScope st) .none kV doc pm an cdv ct) ⟨[u], []⟩ = pure [(p, u)]) : L2.Binds K fd [p] [] := by
  obtain ⟨oc, od, kV, doc, pm, an, cdv, ct, osl, rfl, lk, hcd⟩ := F.ex
  intro s us _ hl
  match us, hl with
  | [u], _ => exact .of_eq (h kV doc pm an cdv ct u)
end Dx
namespace K48
open PySem L2 Dx Fx
def topS (i : Nat) : Stmt := PySem.Challenge.pw_letterfolk_k48_ticks_and_breaches.main.body.getD i (.Pass ⟨0, 0, 0, 0⟩)
abbrev s_is_count : Stmt := topS 9
abbrev s_is_tuple_of : Stmt := topS 10
abbrev s_need_shape : Stmt := topS 12
abbrev s_lets_breach : Stmt := topS 14
abbrev s_spaced : Stmt := topS 16
abbrev s_breach_of : Stmt := topS 17
abbrev s__law_feed : Stmt := topS 19
abbrev s__law_draw : Stmt := topS 20
abbrev s__law_said : Stmt := topS 21
abbrev s__law_whole : Stmt := topS 22
abbrev s__law_word : Stmt := topS 23
abbrev s_law : Stmt := topS 24
abbrev s_NoPaper : Stmt := clsRow (topS 5) 0
structure Ad where
  a_FolkError : Addr
  a_PaperError : Addr
  a_RunError : Addr
  a_TextError : Addr
  a_NoPaper : Addr
  a_NoFolk : Addr
  a_NoStep : Addr
  i_NoPaper : Addr
  f_is_count : Addr
  d_is_count : FuncData
  f_is_tuple_of : Addr
  d_is_tuple_of : FuncData
  f_need_shape : Addr
  d_need_shape : FuncData
  f_lets_breach : Addr
  d_lets_breach : FuncData
  f_spaced : Addr
  d_spaced : FuncData
  f_breach_of : Addr
  d_breach_of : FuncData
  f__law_feed : Addr
  d__law_feed : FuncData
  f__law_draw : Addr
  d__law_draw : FuncData
  f__law_said : Addr
  d__law_said : FuncData
  f__law_whole : Addr
  d__law_whole : FuncData
  f__law_word : Addr
  d__law_word : FuncData
  f_law : Addr
  d_law : FuncData
structure Tx (K : PySem.W.Frag) (mg : Str → Option Value) (a : Ad) : Prop where
  g_FolkError : mg "FolkError" = some (.ref a.a_FolkError)
  g_PaperError : mg "PaperError" = some (.ref a.a_PaperError)
  g_RunError : mg "RunError" = some (.ref a.a_RunError)
  g_TextError : mg "TextError" = some (.ref a.a_TextError)
  g_NoPaper : mg "NoPaper" = some (.ref a.a_NoPaper)
  g_NoFolk : mg "NoFolk" = some (.ref a.a_NoFolk)
  g_NoStep : mg "NoStep" = some (.ref a.a_NoStep)
  x_NoPaper : XcF K mg "NoPaper" "PaperError" "NoPaper.__init__" s_NoPaper ["word", "at"] a.a_NoPaper a.a_PaperError a.i_NoPaper
  ek_NoPaper : ExK K a.a_NoPaper
  em_NoPaper_FolkError : PySem.W.exmOne K (.ref a.a_NoPaper) (.ref a.a_FolkError) = some true
  is_NoPaper_NoFolk : PySem.W.kitOne K (.ref a.a_NoPaper) (.ref a.a_NoFolk) = some false
  is_NoPaper_NoPaper : PySem.W.kitOne K (.ref a.a_NoPaper) (.ref a.a_NoPaper) = some true
  is_NoPaper_NoStep : PySem.W.kitOne K (.ref a.a_NoPaper) (.ref a.a_NoStep) = some false
  is_NoPaper_PaperError : PySem.W.kitOne K (.ref a.a_NoPaper) (.ref a.a_PaperError) = some true
  is_NoPaper_RunError : PySem.W.kitOne K (.ref a.a_NoPaper) (.ref a.a_RunError) = some false
  is_NoPaper_TextError : PySem.W.kitOne K (.ref a.a_NoPaper) (.ref a.a_TextError) = some false
  f_is_count : FnF K mg "is_count" s_is_count a.f_is_count a.d_is_count
  f_is_tuple_of : FnF K mg "is_tuple_of" s_is_tuple_of a.f_is_tuple_of a.d_is_tuple_of
  f_need_shape : FnF K mg "need_shape" s_need_shape a.f_need_shape a.d_need_shape
  f_lets_breach : FnF K mg "lets_breach" s_lets_breach a.f_lets_breach a.d_lets_breach
  f_spaced : FnF K mg "spaced" s_spaced a.f_spaced a.d_spaced
  f_breach_of : FnF K mg "breach_of" s_breach_of a.f_breach_of a.d_breach_of
  f__law_feed : FnF K mg "_law_feed" s__law_feed a.f__law_feed a.d__law_feed
  f__law_draw : FnF K mg "_law_draw" s__law_draw a.f__law_draw a.d__law_draw
  f__law_said : FnF K mg "_law_said" s__law_said a.f__law_said a.d__law_said
  f__law_whole : FnF K mg "_law_whole" s__law_whole a.f__law_whole a.d__law_whole
  f__law_word : FnF K mg "_law_word" s__law_word a.f__law_word a.d__law_word
  f_law : FnF K mg "law" s_law a.f_law a.d_law
  b_all : mg "all" = none
  b_bool : mg "bool" = none
  b_enumerate : mg "enumerate" = none
  b_int : mg "int" = none
  b_isinstance : mg "isinstance" = none
  b_len : mg "len" = none
  b_list : mg "list" = none
  b_range : mg "range" = none
  b_repr : mg "repr" = none
  b_tuple : mg "tuple" = none
theorem sc_is_count : FnScope ["thing"] ["thing"] (defScope s_is_count) := ⟨rfl, rfl, rfl, by decide +kernel, rfl, by decide +kernel, by decide +kernel⟩
theorem sc_is_tuple_of : FnScope ["thing", "many"] ["thing", "many"] (defScope s_is_tuple_of) := ⟨rfl, rfl, rfl, by decide +kernel, rfl, by decide +kernel, by decide +kernel⟩
theorem sc_need_shape : FnScope ["truth", "word", "at"] ["truth", "word", "at"] (defScope s_need_shape) := ⟨rfl, rfl, rfl, by decide +kernel, rfl, by decide +kernel, by decide +kernel⟩
theorem sc_lets_breach : FnScope ["ticks", "thing", "most", "within", "first", "last", "one"] ["ticks", "thing", "most", "within"] (defScope s_lets_breach) := ⟨rfl, rfl, rfl, by decide +kernel, rfl, by decide +kernel, by decide +kernel⟩
theorem sc_spaced : FnScope ["ticks", "within", "found", "k", "tick", "one"] ["ticks", "within"] (defScope s_spaced) := ⟨rfl, rfl, rfl, by decide +kernel, rfl, by decide +kernel, by decide +kernel⟩
theorem sc_breach_of : FnScope ["ticks", "most", "within", "k", "many"] ["ticks", "most", "within"] (defScope s_breach_of) := ⟨rfl, rfl, rfl, by decide +kernel, rfl, by decide +kernel, by decide +kernel⟩
theorem sc__law_feed : FnScope ["_law_script"] ["_law_script"] (defScope s__law_feed) := ⟨rfl, rfl, rfl, by decide +kernel, rfl, by decide +kernel, by decide +kernel⟩
theorem sc__law_draw : FnScope ["_law_feed_here", "_law_many", "_law_figure", "_law_at", "_law_cell", "_law_mixed"] ["_law_feed_here", "_law_many"] (defScope s__law_draw) := ⟨rfl, rfl, rfl, by decide +kernel, rfl, by decide +kernel, by decide +kernel⟩
theorem sc__law_said : FnScope ["_law_ask", "_law_found", "_law_kinds", "e"] ["_law_ask"] (defScope s__law_said) := ⟨rfl, rfl, rfl, by decide +kernel, rfl, by decide +kernel, by decide +kernel⟩
theorem sc__law_whole : FnScope ["_law_stuff"] ["_law_stuff"] (defScope s__law_whole) := ⟨rfl, rfl, rfl, by decide +kernel, rfl, by decide +kernel, by decide +kernel⟩
theorem sc__law_word : FnScope ["_law_beats", "_law_stuff", "_law_cap", "_law_span", "_law_first", "_law_last", "_law_one"] ["_law_beats", "_law_stuff", "_law_cap", "_law_span"] (defScope s__law_word) := ⟨rfl, rfl, rfl, by decide +kernel, rfl, by decide +kernel, by decide +kernel⟩
theorem sc_law : FnScope ["_law_script", "_law_feed_here", "_law_turn", "_law_beats", "_law_tick", "_law_k", "_law_cap", "_law_span", "_law_due", "_law_pair", "_law_is_over", "_law_again", "_law_things", "_law_first", "_law_stuff", "_law_kept", "_law_told", "_law_more", "_law_one", "_law_last"] ["_law_script"] (defScope s_law) := ⟨rfl, rfl, rfl, by decide +kernel, rfl, by decide +kernel, by decide +kernel⟩
theorem B__law_draw_2 {K : PySem.W.Frag} {mg : Str → Option Value} {a : Ad} (T : Tx K mg a) : BindP K a.d__law_draw ["_law_feed_here", "_law_many"] 2 [] [] (List.range 2) := T.f__law_draw.bp 2 rfl (fun kV doc pm an cdv ct us hl => by match us, hl with | [x0, x1], _ => rfl)
theorem B_spaced_0_within_ticks {K : PySem.W.Frag} {mg : Str → Option Value} {a : Ad} (T : Tx K mg a) : BindP K a.d_spaced ["ticks", "within"] 0 ["within", "ticks"] [] [1, 0] := T.f_spaced.bk [1, 0] (fun kV doc pm an cdv ct us ws l1 l2 => by match us, ws, l1, l2 with | [], [y0, y1], _, _ => rfl)
theorem B_spaced_1_within {K : PySem.W.Frag} {mg : Str → Option Value} {a : Ad} (T : Tx K mg a) : BindP K a.d_spaced ["ticks", "within"] 1 ["within"] [] [0, 1] := T.f_spaced.bk [0, 1] (fun kV doc pm an cdv ct us ws l1 l2 => by match us, ws, l1, l2 with | [x0], [y0], _, _ => rfl)
theorem B_breach_of_1_most_within {K : PySem.W.Frag} {mg : Str → Option Value} {a : Ad} (T : Tx K mg a) : BindP K a.d_breach_of ["ticks", "most", "within"] 1 ["most", "within"] [] [0, 1, 2] := T.f_breach_of.bk [0, 1, 2] (fun kV doc pm an cdv ct us ws l1 l2 => by match us, ws, l1, l2 with | [x0], [y0, y1], _, _ => rfl)
theorem B_breach_of_0_within_most_ticks {K : PySem.W.Frag} {mg : Str → Option Value} {a : Ad} (T : Tx K mg a) : BindP K a.d_breach_of ["ticks", "most", "within"] 0 ["within", "most", "ticks"] [] [2, 1, 0] := T.f_breach_of.bk [2, 1, 0] (fun kV doc pm an cdv ct us ws l1 l2 => by match us, ws, l1, l2 with | [], [y0, y1, y2], _, _ => rfl)
theorem B__law_word_4 {K : PySem.W.Frag} {mg : Str → Option Value} {a : Ad} (T : Tx K mg a) : BindP K a.d__law_word ["_law_beats", "_law_stuff", "_law_cap", "_law_span"] 4 [] [] (List.range 4) := T.f__law_word.bp 4 rfl (fun kV doc pm an cdv ct us hl => by match us, hl with | [x0, x1, x2, x3], _ => rfl)
theorem B_lets_breach_2_most_within {K : PySem.W.Frag} {mg : Str → Option Value} {a : Ad} (T : Tx K mg a) : BindP K a.d_lets_breach ["ticks", "thing", "most", "within"] 2 ["most", "within"] [] [0, 1, 2, 3] := T.f_lets_breach.bk [0, 1, 2, 3] (fun kV doc pm an cdv ct us ws l1 l2 => by match us, ws, l1, l2 with | [x0, x1], [y0, y1], _, _ => rfl)
theorem B_lets_breach_0_within_thing_most_ticks {K : PySem.W.Frag} {mg : Str → Option Value} {a : Ad} (T : Tx K mg a) : BindP K a.d_lets_breach ["ticks", "thing", "most", "within"] 0 ["within", "thing", "most", "ticks"] [] [3, 1, 2, 0] := T.f_lets_breach.bk [3, 1, 2, 0] (fun kV doc pm an cdv ct us ws l1 l2 => by match us, ws, l1, l2 with | [], [y0, y1, y2, y3], _, _ => rfl)
theorem B__law_whole_1 {K : PySem.W.Frag} {mg : Str → Option Value} {a : Ad} (T : Tx K mg a) : BindP K a.d__law_whole ["_law_stuff"] 1 [] [] (List.range 1) := T.f__law_whole.bp 1 rfl (fun kV doc pm an cdv ct us hl => by match us, hl with | [x0], _ => rfl)
theorem B_is_count_1 {K : PySem.W.Frag} {mg : Str → Option Value} {a : Ad} (T : Tx K mg a) : BindP K a.d_is_count ["thing"] 1 [] [] (List.range 1) := T.f_is_count.bp 1 rfl (fun kV doc pm an cdv ct us hl => by match us, hl with | [x0], _ => rfl)
theorem B_is_tuple_of_2 {K : PySem.W.Frag} {mg : Str → Option Value} {a : Ad} (T : Tx K mg a) : BindP K a.d_is_tuple_of ["thing", "many"] 2 [] [] (List.range 2) := T.f_is_tuple_of.bp 2 rfl (fun kV doc pm an cdv ct us hl => by match us, hl with | [x0, x1], _ => rfl)
theorem B_need_shape_3 {K : PySem.W.Frag} {mg : Str → Option Value} {a : Ad} (T : Tx K mg a) : BindP K a.d_need_shape ["truth", "word", "at"] 3 [] [] (List.range 3) := T.f_need_shape.bp 3 rfl (fun kV doc pm an cdv ct us hl => by match us, hl with | [x0, x1, x2], _ => rfl)
theorem ini_NoPaper : Ini2 "PaperError" "word" "at" s_NoPaper := ⟨⟨_, _, _, _, _, _, _, _, _, _, _, _, _, _, _, _, rfl, fun _ => ⟨_, rfl⟩⟩, ⟨rfl, rfl, rfl, by decide +kernel, rfl, by decide +kernel, by decide +kernel⟩, rfl, rfl, rfl, rfl, (by decide), fun _ _ _ _ _ _ _ _ _ => rfl⟩
def cc_FolkError : Str → Option Bool := fun c => List.lookup c [("NoPaper", true)]
theorem ca_FolkError {K : PySem.W.Frag} {mg : Str → Option Value} {a : Ad} (T : Tx K mg a) : ∀ c b, cc_FolkError c = some b → ∀ C, mg c = some (.ref C) → PySem.W.exmOne K (.ref C) (.ref a.a_FolkError) = some b := look_cls (R := fun A b => PySem.W.exmOne K (.ref A) (.ref a.a_FolkError) = some b) (all_cons (⟨_, T.g_NoPaper, T.em_NoPaper_FolkError⟩) (all_nil))
def sb_NoFolk : Str → Option Bool := fun c => List.lookup c [("NoPaper", false)]
theorem sub_NoFolk {K : PySem.W.Frag} {mg : Str → Option Value} {a : Ad} (T : Tx K mg a) : SubOk K mg a.a_NoFolk sb_NoFolk := look_cls (R := fun A b => ExK K A ∧ PySem.W.kitOne K (.ref A) (.ref a.a_NoFolk) = some b) (all_cons (⟨_, T.g_NoPaper, T.ek_NoPaper, T.is_NoPaper_NoFolk⟩) (all_nil))
def sb_NoPaper : Str → Option Bool := fun c => List.lookup c [("NoPaper", true)]
theorem sub_NoPaper {K : PySem.W.Frag} {mg : Str → Option Value} {a : Ad} (T : Tx K mg a) : SubOk K mg a.a_NoPaper sb_NoPaper := look_cls (R := fun A b => ExK K A ∧ PySem.W.kitOne K (.ref A) (.ref a.a_NoPaper) = some b) (all_cons (⟨_, T.g_NoPaper, T.ek_NoPaper, T.is_NoPaper_NoPaper⟩) (all_nil))
def sb_NoStep : Str → Option Bool := fun c => List.lookup c [("NoPaper", false)]
theorem sub_NoStep {K : PySem.W.Frag} {mg : Str → Option Value} {a : Ad} (T : Tx K mg a) : SubOk K mg a.a_NoStep sb_NoStep := look_cls (R := fun A b => ExK K A ∧ PySem.W.kitOne K (.ref A) (.ref a.a_NoStep) = some b) (all_cons (⟨_, T.g_NoPaper, T.ek_NoPaper, T.is_NoPaper_NoStep⟩) (all_nil))
def sb_PaperError : Str → Option Bool := fun c => List.lookup c [("NoPaper", true)]
theorem sub_PaperError {K : PySem.W.Frag} {mg : Str → Option Value} {a : Ad} (T : Tx K mg a) : SubOk K mg a.a_PaperError sb_PaperError := look_cls (R := fun A b => ExK K A ∧ PySem.W.kitOne K (.ref A) (.ref a.a_PaperError) = some b) (all_cons (⟨_, T.g_NoPaper, T.ek_NoPaper, T.is_NoPaper_PaperError⟩) (all_nil))
def sb_RunError : Str → Option Bool := fun c => List.lookup c [("NoPaper", false)]
theorem sub_RunError {K : PySem.W.Frag} {mg : Str → Option Value} {a : Ad} (T : Tx K mg a) : SubOk K mg a.a_RunError sb_RunError := look_cls (R := fun A b => ExK K A ∧ PySem.W.kitOne K (.ref A) (.ref a.a_RunError) = some b) (all_cons (⟨_, T.g_NoPaper, T.ek_NoPaper, T.is_NoPaper_RunError⟩) (all_nil))
def sb_TextError : Str → Option Bool := fun c => List.lookup c [("NoPaper", false)]
theorem sub_TextError {K : PySem.W.Frag} {mg : Str → Option Value} {a : Ad} (T : Tx K mg a) : SubOk K mg a.a_TextError sb_TextError := look_cls (R := fun A b => ExK K A ∧ PySem.W.kitOne K (.ref A) (.ref a.a_TextError) = some b) (all_cons (⟨_, T.g_NoPaper, T.ek_NoPaper, T.is_NoPaper_TextError⟩) (all_nil))
theorem xf_address {K : PySem.W.Frag} {mg : Str → Option Value} {a : Ad} (T : Tx K mg a) : ∀ c ∈ ([] : List Str), ∀ C, mg c = some (.ref C) → XfC K C ∧ PySem.W.findIn K (.ref C) "address" = some none := cls_mem (R := fun A => XfC K A ∧ PySem.W.findIn K (.ref A) "address" = some none) (all_nil)
theorem xf_at {K : PySem.W.Frag} {mg : Str → Option Value} {a : Ad} (T : Tx K mg a) : ∀ c ∈ (["NoPaper"] : List Str), ∀ C, mg c = some (.ref C) → XfC K C ∧ PySem.W.findIn K (.ref C) "at" = some none := cls_mem (R := fun A => XfC K A ∧ PySem.W.findIn K (.ref A) "at" = some none) (all_cons (⟨_, T.g_NoPaper, T.x_NoPaper.xf, T.x_NoPaper.noF "at" (by simp)⟩) (all_nil))
theorem xf_word {K : PySem.W.Frag} {mg : Str → Option Value} {a : Ad} (T : Tx K mg a) : ∀ c ∈ (["NoPaper"] : List Str), ∀ C, mg c = some (.ref C) → XfC K C ∧ PySem.W.findIn K (.ref C) "word" = some none := cls_mem (R := fun A => XfC K A ∧ PySem.W.findIn K (.ref A) "word" = some none) (all_cons (⟨_, T.g_NoPaper, T.x_NoPaper.xf, T.x_NoPaper.noF "word" (by simp)⟩) (all_nil))
theorem bd__law_said {K : PySem.W.Frag} {mg : Str → Option Value} {a : Ad} (T : Tx K mg a) : L2.Binds K a.d__law_said ["_law_ask"] [] := T.f__law_said.bd1 fun _ _ _ _ _ _ _ => rfl
open PySem L2 Dx Fx
def f_spaced (ticks : Dt) (within : Dt) : Tr Dt :=
 (bnd nilT fun found =>
 (bnd (enumT (ret ticks)) fun xs => bnd (foldT xs found fun (s1 : List Dt) x4 => bnd (un2 x4) fun p3 =>
 (bnd (appT s1 (callT lenD (consT (lstT (fmapN (seqT (slTT (ret ticks) oNT (oST (opT addD (ret p3.1) (ret (.int 1)))))) fun x6 => bnd (ret x6) fun one => keepT (tbT (opT ltD (opT subD (ret p3.2) (ret one)) (ret within))) (ret one))) nilT))) fun found_1 =>
 (ret found_1))) fun s1 =>
 (bnd (callT toTupD (consT (ret (.list s1)) nilT)) fun d => ret (d))))
def f_breach_of (ticks : Dt) (most : Dt) (within : Dt) : Tr Dt :=
 (bnd (enumT (f_spaced ticks within)) fun xs => bnd (forR (β := Dt) xs () fun (s1 : Unit) x4 => bnd (un2 x4) fun p3 =>
 (ifT (tbT (opT gtD (ret p3.2) (ret most)))
 (bnd (tupT (consT (opT subD (ret p3.1) (ret most)) (consT (ret p3.1) nilT))) fun d => ret (Lp.rt d))
 (ret (Lp.nx ())))) fun r => sumE r (fun s1 =>
 (bnd (ret .none) fun d => ret (d))) fun b => ret b)
def f__law_whole (stuff : Dt) : Tr Dt :=
 (bnd (bnd (tbT (isiT isIntD (ret stuff))) fun b => cond b (bvT (notT (tbT (isiT isBlD (ret stuff))))) (ret (.bool false))) fun d => ret (d))
def f__law_word (beats : Dt) (stuff : Dt) (cap : Dt) (span : Dt) : Tr Dt :=
 (ifT (orT (notT (tbT (isiT isTupD (ret stuff)))) (orT (tbT (opT neD (callT lenD (consT (ret stuff) nilT)) (ret (.int 2)))) (tbT (opT inD (ret (.bool false)) (lstT (mapN (seqT (ret stuff)) fun x2 => bnd (ret x2) fun one => (bnd (tbT (f__law_whole one)) fun b => cond b (opT geD (ret one) (ret (.int 0))) (ret (.bool false)))))))))
 (bnd (tupT (consT (ret (.str "paper")) (consT (ret (.str "shape")) (consT (uopT negD (ret (.int 1))) nilT)))) fun d => ret (d))
 (bnd (ret stuff) fun x4 => bnd (un2 x4) fun p3 =>
 (ifT (orT (tbT (opT gtD (ret p3.1) (ret p3.2))) (tbT (opT geD (ret p3.2) (callT lenD (consT (ret beats) nilT)))))
 (bnd (tupT (consT (ret (.str "paper")) (consT (ret (.str "places")) (consT (uopT negD (ret (.int 1))) nilT)))) fun d => ret (d))
 (ifT (tbT (opT leD (opT addD (opT subD (ret p3.2) (ret p3.1)) (ret (.int 1))) (ret cap)))
 (bnd (tupT (consT (ret (.str "paper")) (consT (ret (.str "many")) (consT (uopT negD (ret (.int 1))) nilT)))) fun d => ret (d))
 (ifT (tbT (opT geD (opT subD (opT ixD (ret beats) (ret p3.2)) (opT ixD (ret beats) (ret p3.1))) (ret span)))
 (bnd (tupT (consT (ret (.str "paper")) (consT (ret (.str "within")) (consT (uopT negD (ret (.int 1))) nilT)))) fun d => ret (d))
 (bnd (tupT (consT (ret (.str "told")) (consT (opT addD (opT subD (ret p3.2) (ret p3.1)) (ret (.int 1))) nilT))) fun d => ret (d)))))))
def f_is_count (thing : Dt) : Tr Dt :=
 (bnd (bnd (tbT (isiT isIntD (ret thing))) fun b => cond b (bnd (tbT (bvT (notT (tbT (isiT isBlD (ret thing)))))) fun b => cond b (opT geD (ret thing) (ret (.int 0))) (ret (.bool false))) (ret (.bool false))) fun d => ret (d))
def f_is_tuple_of (thing : Dt) (many : Dt) : Tr Dt :=
 (bnd (bnd (tbT (isiT isTupD (ret thing))) fun b => cond b (opT eqD (callT lenD (consT (ret thing) nilT)) (ret many)) (ret (.bool false))) fun d => ret (d))
def f_need_shape (truth : Dt) (word : Dt) (at_ : Dt) : Tr Dt :=
 (ifT (calmT (notT (tbT (ret truth))))
 (bnd (calmT (consT (ret word) (consT (ret at_) nilT))) fun ds => raiseT ⟨"NoPaper", (List.zip (["word", "at"] : List Str) ds).reverse⟩)
 (ret PyData.none))
def f_lets_breach (ticks : Dt) (thing : Dt) (most : Dt) (within : Dt) : Tr Dt :=
 (bnd (bnd (calmT (pairT (bnd (tbT (f_is_tuple_of thing (.int 2))) fun b => cond b (callT allD (consT (lstT (mapN (seqT (ret thing)) fun x2 => bnd (ret x2) fun one => (f_is_count one))) nilT)) (ret (.bool false))) (pairT (uopT negD (ret (.int 1))) unitT))) fun a => f_need_shape a.1 (.str "shape") a.2.1) fun _ =>
 (bnd (calmT (ret thing)) fun x4 => bnd (un2 x4) fun p3 =>
 (bnd (bnd (calmT (pairT (chainT leD ltD (ret p3.1) (ret p3.2) (callT lenD (consT (ret ticks) nilT))) (pairT (uopT negD (ret (.int 1))) unitT))) fun a => f_need_shape a.1 (.str "places") a.2.1) fun _ =>
 (bnd (bnd (calmT (pairT (opT gtD (opT addD (opT subD (ret p3.2) (ret p3.1)) (ret (.int 1))) (ret most)) (pairT (uopT negD (ret (.int 1))) unitT))) fun a => f_need_shape a.1 (.str "many") a.2.1) fun _ =>
 (bnd (bnd (calmT (pairT (opT ltD (opT subD (opT ixD (ret ticks) (ret p3.2)) (opT ixD (ret ticks) (ret p3.1))) (ret within)) (pairT (uopT negD (ret (.int 1))) unitT))) fun a => f_need_shape a.1 (.str "within") a.2.1) fun _ =>
 (bnd (calmT (opT addD (opT subD (ret p3.2) (ret p3.1)) (ret (.int 1)))) fun d => ret (d)))))))
def f__law_said (m : Tr Dt) : Tr Dt :=
 (bnd (tupT (consT (ret (.str "other")) nilT)) fun found =>
 (bnd (tryJ (tupT (consT (calmT (ret (.str "told"))) (consT m nilT))) cc_FolkError (fun d9 => d9) (fun xx4 => (bnd (lstT (consT (xisT sb_PaperError xx4) (consT (xisT sb_RunError xx4) (consT (xisT sb_TextError xx4) nilT)))) fun kinds =>
 (bnd (ifT (andT (tbT (opT eqD (ret kinds) (lstT (consT (ret (.bool true)) (consT (ret (.bool false)) (consT (ret (.bool false)) nilT)))))) (tbT (xisT sb_NoPaper xx4)))
 (bnd (tupT (consT (ret (.str "paper")) (consT (xfT ["NoPaper"] "word" xx4) (consT (xfT ["NoPaper"] "at" xx4) nilT)))) fun found_1 =>
 (ret found_1))
 (ret found)) fun (v5 : Dt) =>
 (bnd (ifT (andT (tbT (opT eqD (ret kinds) (lstT (consT (ret (.bool false)) (consT (ret (.bool true)) (consT (ret (.bool false)) nilT)))))) (tbT (xisT sb_NoStep xx4)))
 (bnd (tupT (consT (ret (.str "step")) (consT (xfT ["NoPaper"] "word" xx4) nilT))) fun found_2 =>
 (ret found_2))
 (ret v5)) fun (v7 : Dt) =>
 (ifT (andT (tbT (opT eqD (ret kinds) (lstT (consT (ret (.bool false)) (consT (ret (.bool true)) (consT (ret (.bool false)) nilT)))))) (tbT (xisT sb_NoFolk xx4)))
 (bnd (tupT (consT (ret (.str "folk")) (consT (xfT [] "address" xx4) nilT))) fun found_3 =>
 (ret found_3))
 (ret v7))))))) fun (v10 : Dt) =>
 (bnd (ret v10) fun d => ret (d))))
def f_law : Tr Dt :=
 (bnd (rngT (ret (.int 3))) fun xs => bnd (forR (β := Dt) xs () fun (s1 : Unit) x4 => bnd (ret x4) fun turn =>
 (bnd (pairT nilT (pairT (opT ixD (lstT (consT (ret (.int 0)) (consT (ret (.int 5)) (consT (opT powD (ret (.int 10)) (ret (.int 40))) nilT)))) (drawT (.int 3))) unitT)) fun p5 =>
 (bnd (rngT (drawT (.int 21))) fun xs => bnd (foldT xs (p5.2.1, p5.1) fun (s6 : Dt × List Dt) x9 => bnd (ret x9) fun k =>
 (bnd (opT addD (ret s6.1) (drawT (.int 5))) fun tick =>
 (bnd (appT s6.2 (ret tick)) fun beats =>
 (ret (tick, beats))))) fun s6 =>
 (bnd (pairT (callT toTupD (consT (ret (.list s6.2)) nilT)) (pairT (drawT (.int 6)) (pairT (opT addD (ret (.int 1)) (drawT (.int 9))) unitT))) fun p10 =>
 (bnd nilT fun due =>
 (bnd (rngT (callT lenD (consT (ret p10.1) nilT))) fun xs => bnd (foldT xs due fun (s11 : List Dt) x14 => bnd (ret x14) fun k_1 =>
 (bnd (appT s11 (callT lenD (consT (lstT (fmapN (seqT (slTT (ret p10.1) oNT (oST (opT addD (ret k_1) (ret (.int 1)))))) fun x16 => bnd (ret x16) fun one => keepT (tbT (opT ltD (opT subD (opT ixD (ret p10.1) (ret k_1)) (ret one)) (ret p10.2.2.1))) (ret one))) nilT))) fun due_1 =>
 (ret due_1))) fun s11 =>
 (ifT (orT (tbT (opT neD (callT reprD (consT (f_spaced p10.1 p10.2.2.1) nilT)) (callT reprD (consT (callT toTupD (consT (ret (.list s11)) nilT)) nilT)))) (tbT (opT neD (f_spaced p10.1 p10.2.2.1) (callT toTupD (consT (ret (.list s11)) nilT)))))
 (bnd (ret (.bool false)) fun d => ret (Lp.rt d))
 (bnd (pairT (f_breach_of p10.1 p10.2.1 p10.2.2.1) (pairT (opT neD (lstT (fmapN (ret s11) fun x19 => bnd (ret x19) fun one_1 => keepT (tbT (opT gtD (ret one_1) (ret p10.2.1))) (ret one_1))) (lstT nilT)) unitT)) fun p17 =>
 (bnd (f_breach_of p10.1 p10.2.1 p10.2.2.1) fun again =>
 (ifT (orT (tbT (opT neD (opT notND (ret p17.1) (ret .none)) (ret p17.2.1))) (tbT (opT neD (opT notND (ret again) (ret .none)) (ret p17.2.1))))
 (bnd (ret (.bool false)) fun d => ret (Lp.rt d))
 (bnd (lstT (consT (ret p17.1) (consT (ret .none) (consT (tupT nilT) (consT (tupT (consT (ret (.int 0)) nilT)) (consT (tupT (consT (ret (.int 0)) (consT (ret (.int 0)) (consT (ret (.int 0)) nilT)))) (consT (lstT (consT (ret (.int 0)) (consT (ret (.int 0)) nilT))) (consT (tupT (consT (ret (.bool true)) (consT (ret (.int 0)) nilT))) (consT (tupT (consT (ret (.int 0)) (consT (ret (.bool false)) nilT))) (consT (tupT (consT (uopT negD (ret (.int 1))) (consT (ret (.int 0)) nilT))) (consT (tupT (consT (ret (.int 0)) (consT (uopT negD (ret (.int 1))) nilT))) (consT (ret (.str "00")) nilT)))))))))))) fun things =>
 (bnd (rngT (opT addD (callT lenD (consT (ret p10.1) nilT)) (ret (.int 1)))) fun xs => bnd (foldT xs things fun (s20 : Dt) x23 => bnd (ret x23) fun first =>
 (bnd (opT addD (ret s20) (lstT (mapN (rngT (opT addD (callT lenD (consT (ret p10.1) nilT)) (ret (.int 2)))) fun x25 => bnd (ret x25) fun last => (tupT (consT (ret first) (consT (ret last) nilT)))))) fun things_1 =>
 (ret things_1))) fun s20 =>
 (bnd (seqT (ret s20)) fun xs => bnd (forR (β := Dt) xs () fun (s26 : Unit) x29 => bnd (ret x29) fun stuff =>
 (bnd (pairT (callT reprD (consT (tupT (consT (ret p10.1) (consT (ret stuff) nilT))) nilT)) (pairT (callT reprD (consT (f__law_word p10.1 stuff p10.2.1 p10.2.2.1) nilT)) unitT)) fun p30 =>
 (bnd (f__law_said (f_lets_breach p10.1 stuff p10.2.1 p10.2.2.1)) fun told =>
 (bnd (f__law_said (f_lets_breach p10.1 stuff p10.2.1 p10.2.2.1)) fun more =>
 (ifT (orT (tbT (opT neD (callT reprD (consT (ret told) nilT)) (ret p30.2.1))) (orT (tbT (opT neD (callT reprD (consT (ret more) nilT)) (ret p30.2.1))) (tbT (opT neD (callT reprD (consT (tupT (consT (ret p10.1) (consT (ret stuff) nilT))) nilT)) (ret p30.1)))))
 (bnd (ret (.bool false)) fun d => ret (Lp.rt d))
 (ret (Lp.nx ()))))))) fun r => sumE r (fun s26 =>
 (ifT (andT (tbT (opT notND (ret p17.1) (ret .none))) (tbT (opT neD (opT ixD (f__law_word p10.1 p17.1 p10.2.1 p10.2.2.1) (ret (.int 0))) (ret (.str "told")))))
 (bnd (ret (.bool false)) fun d => ret (Lp.rt d))
 (ret (Lp.nx ())))) fun b => ret (Lp.rt b)))))))))))))) fun r => sumE r (fun s1 =>
 (bnd (ret (.bool true)) fun d => ret (d))) fun b => ret b)
abbrev sp_spaced : DSp := spT (α := Dt × Dt) (β := Dt) (fun z => [.dat z.1, .dat z.2]) (fun z => f_spaced z.1 z.2) (fun z b => (.dat b, [some (.dat z.1), some (.dat z.2)]))
abbrev sp_breach_of : DSp := spT (α := Dt × Dt × Dt) (β := Dt) (fun z => [.dat z.1, .dat z.2.1, .dat z.2.2]) (fun z => f_breach_of z.1 z.2.1 z.2.2) (fun z b => (.dat b, [some (.dat z.1), some (.dat z.2.1), some (.dat z.2.2)]))
abbrev sp__law_whole : DSp := spT (α := Dt) (β := Dt) (fun z => [.dat z]) (fun z => f__law_whole z) (fun z b => (.dat b, [some (.dat z)]))
abbrev sp__law_word : DSp := spT (α := Dt × Dt × Dt × Dt) (β := Dt) (fun z => [.dat z.1, .dat z.2.1, .dat z.2.2.1, .dat z.2.2.2]) (fun z => f__law_word z.1 z.2.1 z.2.2.1 z.2.2.2) (fun z b => (.dat b, [some (.dat z.1), some (.dat z.2.1), some (.dat z.2.2.1), some (.dat z.2.2.2)]))
abbrev sp_is_count : DSp := spT (α := Dt) (β := Dt) (fun z => [.dat z]) (fun z => f_is_count z) (fun z b => (.dat b, [some (.dat z)]))
abbrev sp_is_tuple_of : DSp := spT (α := Dt × Dt) (β := Dt) (fun z => [.dat z.1, .dat z.2]) (fun z => f_is_tuple_of z.1 z.2) (fun z b => (.dat b, [some (.dat z.1), some (.dat z.2)]))
abbrev sp_need_shape : DSpX := spTX (α := Dt × Dt × Dt) (β := Dt) (fun z => [.dat z.1, .dat z.2.1, .dat z.2.2]) (fun z => f_need_shape z.1 z.2.1 z.2.2) (fun z b => (.dat b, [some (.dat z.1), some (.dat z.2.1), some (.dat z.2.2)]))
abbrev sp_lets_breach : DSpX := spTX (α := Dt × Dt × Dt × Dt) (β := Dt) (fun z => [.dat z.1, .dat z.2.1, .dat z.2.2.1, .dat z.2.2.2]) (fun z => f_lets_breach z.1 z.2.1 z.2.2.1 z.2.2.2) (fun z b => (.dat b, [some (.dat z.1), some (.dat z.2.1), some (.dat z.2.2.1), some (.dat z.2.2.2)]))
open PySem L2 Dx Fx
open Dw
local macro_rules | `(tactic| walk_at "go") => `(tactic| first
  | with_reducible refine Stp.imp ?_
  | ((with_reducible refine i_rng ?_ ?_); · first | decide +kernel | (constructor <;> omega))
  | ((with_reducible refine i_draw ?_ ?_ ?_ ?_); (· exact rfl); (· first | decide +kernel | omega); (· first | decide +kernel | omega))
  | ((with_reducible apply i_ixT); · exact rfl)
  | ((with_reducible apply i_ixL); · exact rfl)
  | ((with_reducible refine i_powI ?_ ?_); · decide +kernel)
  | ((with_reducible refine i_mulI ?_ ?_); · first | decide +kernel | (constructor <;> omega))
  | ((with_reducible refine i_modI ?_ ?_); · first | assumption | decide +kernel | omega)
  | ((with_reducible refine i_fdvI ?_ ?_); · first | exact ⟨by assumption, by assumption⟩ | decide +kernel)
  | ((with_reducible apply i_wipe); · (simp only [List.map_cons, List.map_nil, wipeD, List.set_cons_succ, List.set_cons_zero]; exact rfl))
  | ((with_reducible refine i_eqS0 ?_ ?_); · decide +kernel)
  | ((with_reducible refine i_lenOk ?_ ?_); · (simp only [List.length_cons, List.length_nil, Nat.reduceAdd]; decide +kernel))
  | ((with_reducible refine i_gT ?_ ?_); · exact rfl)
  | ((with_reducible refine And.intro ?_ ?_); · (simp only [List.length_cons, List.length_nil, List.length_append, Nat.reduceAdd]; decide +kernel)))
local macro_rules | `(tactic| walk_at "gos") => `(tactic| repeat (first | walk_at "go" | with_reducible refine fun (k : Int) (k0 : 0 ≤ k) (k1 : k < _) => ?_))
local macro_rules | `(tactic| walk_at "st") => `(tactic| simp only [startD, List.map_cons, List.map_nil, List.length_cons, List.length_nil, List.cons_append, List.nil_append, Nat.reduceAdd, Nat.reduceSub, List.replicate_succ, List.replicate_zero])
local macro_rules | `(tactic| walk_at "ix") => `(tactic| refine i_ixM (by omega) (by simp only [List.length_cons, List.length_nil]; omega) ?_)
theorem ok_draw {P : Program} {w : World} {K : PySem.W.Frag} {mg : Str → Option Value} {base : Heap} {a : Ad} (T : Tx K mg a) : FnG P w K mg base (0 + 1) a.f__law_draw a.d__law_draw ["_law_feed_here", "_law_many"] spDraw0 := by
  refine T.f__law_draw.ok (n := 2) sc__law_draw (fun as Q Q' i => by rintro ⟨kvs, m, e, h0, h1, h2, h3⟩; exact ⟨kvs, m, e, h0, h1, h2, fun k kvs' x y z => i _ _ (h3 k kvs' x y z)⟩) ?_
  intro cdv A outer s H E hr hgd
  have sc := sc__law_draw
  have hu := hr.units
  have h1 := hu_of hr
  have hv : (A.deeper (PyProof.Rows.envOfC "_law_draw" (defScope s__law_draw) s.heap.objs.size a.f__law_draw cdv)).units + 150 < cLine := by have := hr.un; omega
  let N : List Str := ["_law_feed_here", "_law_many", "_law_figure", "_law_at", "_law_cell", "_law_mixed"]
  let st : Stmt := s__law_draw
  refine ⟨_, (dss_cons (ds_dput 0 h1 de_str (de_add (de_dix 0 h1 de_str) de_int))
  (dss_cons (ds_if (db_gt (de_dix 0 h1 de_str) de_int) (dss_cons (ds_set (i := 2) sc.nd rfl (Or.inl rfl) (de_mod (de_dix 0 h1 de_str) (de_var 1)))
  (dss_cons (ds_dput 0 h1 de_str (de_fdv (de_dix 0 h1 de_str) (de_var 1)))
  (dss_one (ds_ret (de_var 2))))) dss_nil)
  (dss_cons (ds_set (i := 3) sc.nd rfl (Or.inl rfl) (de_dix 0 h1 de_str))
  (dss_cons (ds_dput 0 h1 de_str (de_add (de_var 3) de_int))
  (dss_cons (ds_set (i := 4) sc.nd rfl (Or.inl rfl) (de_if (db_ne hu (de_dix 0 h1 de_str) (dl_F (dl_lst da_nil))) (de_ix (de_dix 0 h1 de_str) (de_mod (de_var 3) (de_callB call_len lk_len rfl T.b_len (by decide +kernel) (da_cons (de_dix 0 h1 de_str) da_nil)))) de_int))
  (dss_cons (ds_if (dw_b (dw_and (db_ge (de_var 4) (de_pow de_int de_int)) (dw_and1 (db_lt (de_var 3) (de_callB call_len lk_len rfl T.b_len (by decide +kernel) (da_cons (de_dix 0 h1 de_str) da_nil)))))) (dss_cons (ds_dput 0 h1 de_str (de_fdv (de_var 4) (de_var 1)))
  (dss_one (ds_ret (de_mod (de_var 4) (de_var 1))))) dss_nil)
  (dss_cons (ds_set (i := 5) sc.nd rfl (Or.inl rfl) (de_mod (de_add (de_add (de_mod (de_var 4) de_int) (de_mul de_int (de_dix 0 h1 de_str))) de_int) de_int))
  (dss_cons (ds_set (i := 5) sc.nd rfl (Or.inl rfl) (de_mod (de_add (de_add (de_mul (de_var 5) (de_var 5)) (de_mul de_int (de_dix 0 h1 de_str))) de_int) de_int))
  (dss_one (ds_ret (de_mod (de_fdv (de_mod (de_add (de_mul (de_var 5) (de_var 5)) (de_mul de_int (de_var 5))) de_int) de_int) (de_var 1)))))))))))), ?_⟩
  rintro as Q hl ⟨kvs, m, rfl, ⟨ns, at', l, c, rfl⟩, hm0, hm1, q⟩
  walk_at "st"
  walk_at "gos"
  refine i_iteD (fun hl0 => ?_) (fun hl0 => ?_)
  · walk_at "gos"
    exact q _ _ (Int.emod_nonneg _ (by omega)) (Int.emod_lt_of_pos _ hm0) ⟨_, _, _, _, rfl⟩
  walk_at "gos"
  refine i_ite (fun hn => ?_) (fun hn => ?_)
  · walk_at "gos"
    have hp : (0 : Int) < (ns.map PyData.int).length := by
      cases ns with
      | nil => simp at hn
      | cons a b => simp
    refine i_modI hp ?_
    walk_at "gos"
    obtain ⟨x, hx, hm⟩ := atI_ok (xs := ns.map PyData.int) (Int.emod_nonneg at' (by omega : ((ns.map PyData.int).length : Int) ≠ 0)) (Int.emod_lt_of_pos at' hp)
    refine i_wr (y := x) hx ?_
    obtain ⟨n, _, rfl⟩ := List.mem_map.mp hm
    walk_at "gos"
    refine i_iteD (fun _ => ?_) (fun _ => ?_)
    · walk_at "gos"
      refine i_iteD (fun _ => ?_) (fun _ => ?_)
      · walk_at "gos"
        exact q _ _ (Int.emod_nonneg _ (by omega)) (Int.emod_lt_of_pos _ hm0) ⟨_, _, _, _, rfl⟩
      · walk_at "gos"
        exact q _ _ (Int.emod_nonneg _ (by omega)) (Int.emod_lt_of_pos _ hm0) ⟨_, _, _, _, rfl⟩
    · walk_at "gos"
      exact q _ _ (Int.emod_nonneg _ (by omega)) (Int.emod_lt_of_pos _ hm0) ⟨_, _, _, _, rfl⟩
  · walk_at "gos"
    refine i_iteD (fun _ => ?_) (fun _ => ?_)
    · walk_at "gos"
      refine i_iteD (fun _ => ?_) (fun _ => ?_)
      · walk_at "gos"
        exact q _ _ (Int.emod_nonneg _ (by omega)) (Int.emod_lt_of_pos _ hm0) ⟨_, _, _, _, rfl⟩
      · walk_at "gos"
        exact q _ _ (Int.emod_nonneg _ (by omega)) (Int.emod_lt_of_pos _ hm0) ⟨_, _, _, _, rfl⟩
    · walk_at "gos"
      exact q _ _ (Int.emod_nonneg _ (by omega)) (Int.emod_lt_of_pos _ hm0) ⟨_, _, _, _, rfl⟩

theorem ok__law_draw {P : Program} {w : World} {K : PySem.W.Frag} {mg : Str → Option Value} {base : Heap} {a : Ad} (T : Tx K mg a) : FnG P w K mg base 1 a.f__law_draw a.d__law_draw ["_law_feed_here", "_law_many"] sp__law_draw := draw_T (draw_spX (draw_hid (ok_draw T)))
open PySem L2 Dx Fx
theorem ok_spaced {P : Program} {w : World} {K : PySem.W.Frag} {mg : Str → Option Value} {base : Heap} {a : Ad} (T : Tx K mg a) : FnG P w K mg base (0 + 1) a.f_spaced a.d_spaced ["ticks", "within"] sp_spaced := by
  refine T.f_spaced.ok (n := 2) sc_spaced (spT_mono _ _ _) ?_
  intro cdv A outer s H E hr hgd
  have sc := sc_spaced
  have hu := hr.units
  have h1 := hu_of hr
  have hv : (A.deeper (PyProof.Rows.envOfC "spaced" (defScope s_spaced) s.heap.objs.size a.f_spaced cdv)).units + 150 < cLine := by have := hr.un; omega
  let N : List Str := ["ticks", "within", "found", "k", "tick", "one"]
  let st : Stmt := s_spaced
  refine ⟨_, (dss_cons (ds_set (i := 2) sc.nd rfl (Or.inl rfl) (dl_N (dl_lst da_nil)))
  (dss_cons (ds_for (ws := [3, 4]) PassesOwn.never rfl (di_enT rfl T.b_enumerate (de_var 0) (da_cons (de_var 0) da_nil)) (dg_tupP (k := 2) rfl (dgs_cons (dg_name (i := 3) sc.nd rfl (Or.inl rfl)) (dgs_cons (dg_name (i := 4) sc.nd rfl (Or.inr rfl)) dgs_nil))) (dss_one (ds_expr (de_app 2 (de_callB call_len lk_len rfl T.b_len (by decide +kernel) (da_cons (dl_F (dl_lc 2 [("one", 5)] rfl sc.nd (di_seq (de_slT (de_var 0) do_none (do_some (de_add (de_var 3) de_int)))) (blkOk_by (own := [("one", 5)]) (N := N) (sc := defScope st) (by decide +kernel)) (fun _ _ _ _ _ => (dg_name (i := 5) sc.nd rfl (Or.inl rfl))) (fun _ _ _ _ _ => (dts_one (db_lt (de_sub (de_var 4) (de_var 5)) (de_var 1)))) (fun _ _ _ _ _ => (de_var 5)))) da_nil))))))
  (dss_one (ds_ret (de_callT call_toTup lk_toTup rfl T.b_tuple (by decide +kernel) (da_cons (de_var 2) da_nil)))))), ?_⟩
  refine fn_T (pre := fun z b => [some (.dat z.1), some (.dat z.2)]) (fun z => ?_) (fun _ _ => rfl)
  obtain ⟨ticks, within⟩ := z
  show SS noE (sSeq _ sRetN) [some (.dat ticks), some (.dat within), none, none, none, none] (f_spaced ticks within) (fun (b : Dt) => Kd.rt 2 (.dat b) [some (.dat ticks), some (.dat within)])
  exact (ss_assoc (ss_setE (env' := fun found => [some (.dat ticks), some (.dat within), some (.obj (.lst found)), none, none, none]) (se_LN (sl_lst sa_nil)) (fun _ _ => rfl) (fun found =>
 (ss_assoc (ss_for (φ := fun (s1 : List Dt) (j2 : Option Dv × Option Dv) => [some (.dat ticks), some (.dat within), some (.obj (.lst s1)), j2.1, j2.2, none]) found (none, none) (sl_enum (sd_var rfl)) rfl (fun s1 j2 x4 => (sg_2 (φ := fun p3 => [some (.dat ticks), some (.dat within), some (.obj (.lst s1)), some (.dat p3.1), some (.dat p3.2), none]) fun _ _ _ => rfl)) (fun s1 j2 p3 => (ss_end
 (ss_app (env' := fun found_1 => [some (.dat ticks), some (.dat within), some (.obj (.lst found_1)), some (.dat p3.1), some (.dat p3.2), none]) (sd_call (sar_cons (SD.sr (sd_LF (sl_fmap (sl_seq (sd_slT (SD.sr (sd_var rfl)) so_none (so_some (SD.sr (sd_op (SD.sr (sd_var rfl)) (SD.sr sd_c)))))) rfl (fun x6 => (sg_n (φ := fun one => [some (.dat ticks), some (.dat within), some (.obj (.lst s1)), some (.dat p3.1), some (.dat p3.2), some (.dat one)]) fun _ => rfl)) (fun one => (sb_B (sd_op (SD.sr (sd_op (SD.sr (sd_var rfl)) (SD.sr (sd_var rfl)))) (SD.sr (sd_var rfl))))) (fun one => (sd_var rfl)) (fun _ => rfl)))) sar_nil)) rfl (fun _ => rfl) (fun found_1 =>
 (ss_lp found_1 (some (.dat p3.1), some (.dat p3.2)) rfl rfl))))) (fun s1 j2 =>
 (ss_ret (fun d => d) (sd_call (sar_cons (sr_var rfl) sar_nil)) (fun _ => rfl) rfl)))))))
theorem ok_breach_of {P : Program} {w : World} {K : PySem.W.Frag} {mg : Str → Option Value} {base : Heap} {a : Ad} (T : Tx K mg a) : FnG P w K mg base (1 + 1) a.f_breach_of a.d_breach_of ["ticks", "most", "within"] sp_breach_of := by
  have G_spaced := (ok_spaced (P := P) (w := w) (base := base) T).up (k := 1) (by omega)
  have B_spaced_1_within := B_spaced_1_within (K := K) (mg := mg) T
  have V_spaced_1_within : RpAll K (fun _ => none) [] [] := .nil
  refine T.f_breach_of.ok (n := 3) sc_breach_of (spT_mono _ _ _) ?_
  intro cdv A outer s H E hr hgd
  have sc := sc_breach_of
  have hu := hr.units
  have h1 := hu_of hr
  have hv : (A.deeper (PyProof.Rows.envOfC "breach_of" (defScope s_breach_of) s.heap.objs.size a.f_breach_of cdv)).units + 150 < cLine := by have := hr.un; omega
  let N : List Str := ["ticks", "most", "within", "k", "many"]
  let st : Stmt := s_breach_of
  refine ⟨_, (dss_cons (ds_for (ws := [3, 4]) PassesOwn.never rfl (di_enT rfl T.b_enumerate (de_fnK (G_spaced) (hr.mono (by first | decide | omega)) hgd rfl T.f_spaced.mg T.f_spaced.kp B_spaced_1_within V_spaced_1_within (da_cons (de_var 0) da_nil) (dk_cons (de_var 2) dk_nil)) (da_cons (de_fnK (G_spaced) (hr.mono (by first | decide | omega)) hgd rfl T.f_spaced.mg T.f_spaced.kp B_spaced_1_within V_spaced_1_within (da_cons (de_var 0) da_nil) (dk_cons (de_var 2) dk_nil)) da_nil)) (dg_tupP (k := 2) rfl (dgs_cons (dg_name (i := 3) sc.nd rfl (Or.inl rfl)) (dgs_cons (dg_name (i := 4) sc.nd rfl (Or.inl rfl)) dgs_nil))) (dss_one (ds_if (db_gt (de_var 4) (de_var 1)) (dss_one (ds_ret (de_tup (da_cons (de_sub (de_var 3) (de_var 1)) (da_cons (de_var 3) da_nil))))) dss_nil)))
  (dss_one (ds_ret de_non))), ?_⟩
  refine fn_T (pre := fun z b => [some (.dat z.1), some (.dat z.2.1), some (.dat z.2.2)]) (fun z => ?_) (fun _ _ => rfl)
  obtain ⟨ticks, most, within⟩ := z
  show SS noE (sSeq _ sRetN) [some (.dat ticks), some (.dat most), some (.dat within), none, none] (f_breach_of ticks most within) (fun (b : Dt) => Kd.rt 3 (.dat b) [some (.dat ticks), some (.dat most), some (.dat within)])
  exact (ss_assoc (ss_forR (φ := fun (s1 : Unit) (j2 : Option Dv × Option Dv) => [some (.dat ticks), some (.dat most), some (.dat within), j2.1, j2.2]) () (none, none) (fun b => b) (κr := fun (b : Dt) => Kd.rt 3 (.dat b) [some (.dat ticks), some (.dat most), some (.dat within)]) (fun _ => ⟨_, _, _, rfl⟩) (fun _ => rfl) (sl_enum (sd_fn0 (α := Dt × Dt) (ticks, within) (sp_A rfl sp_nil) (sp_A rfl sp_nil) ⟨rfl, rfl, rfl, rfl⟩ (fun _ => ⟨rfl, rfl⟩))) rfl (fun s1 j2 x4 => (sg_2 (φ := fun p3 => [some (.dat ticks), some (.dat most), some (.dat within), some (.dat p3.1), some (.dat p3.2)]) fun _ _ _ => rfl)) (fun s1 j2 p3 => (ss_end
 (ss_if (sb_B (sd_op (SD.sr (sd_var rfl)) (SD.sr (sd_var rfl))))
 (ss_ret (fun d => Lp.rt d) (sd_tup (sa_cons (sd_op (SD.sr (sd_var rfl)) (SD.sr (sd_var rfl))) (sa_cons (sd_var rfl) sa_nil))) (fun _ => rfl) rfl)
 (ss_sk (ss_lp (Lp.nx ()) (some (.dat p3.1), some (.dat p3.2)) rfl rfl))))) (fun s1 j2 =>
 (ss_ret (fun d => d) sd_c (fun _ => rfl) rfl))))
theorem ok__law_whole {P : Program} {w : World} {K : PySem.W.Frag} {mg : Str → Option Value} {base : Heap} {a : Ad} (T : Tx K mg a) : FnG P w K mg base (0 + 1) a.f__law_whole a.d__law_whole ["_law_stuff"] sp__law_whole := by
  refine T.f__law_whole.ok (n := 1) sc__law_whole (spT_mono _ _ _) ?_
  intro cdv A outer s H E hr hgd
  have sc := sc__law_whole
  have hu := hr.units
  have h1 := hu_of hr
  have hv : (A.deeper (PyProof.Rows.envOfC "_law_whole" (defScope s__law_whole) s.heap.objs.size a.f__law_whole cdv)).units + 150 < cLine := by have := hr.un; omega
  let N : List Str := ["_law_stuff"]
  let st : Stmt := s__law_whole
  refine ⟨_, (dss_one (ds_ret (de_and (de_isi kit_int rfl T.b_isinstance rfl T.b_int (by decide +kernel) (de_var 0)) (de_one (de_not (de_isi kit_bool rfl T.b_isinstance rfl T.b_bool (by decide +kernel) (de_var 0))))))), ?_⟩
  refine fn_T (pre := fun z b => [some (.dat z)]) (fun stuff => ?_) (fun _ _ => rfl)
  show SS noE (sSeq _ sRetN) [some (.dat stuff)] (f__law_whole stuff) (fun (b : Dt) => Kd.rt 1 (.dat b) [some (.dat stuff)])
  exact (ss_ret (fun d => d) (sd_and (sd_isi (SD.sr (sd_var rfl))) (sd_not (sd_isi (SD.sr (sd_var rfl))))) (fun _ => rfl) rfl)
open PySem L2 Dx Fx
theorem ok__law_word {P : Program} {w : World} {K : PySem.W.Frag} {mg : Str → Option Value} {base : Heap} {a : Ad} (T : Tx K mg a) : FnG P w K mg base (1 + 1) a.f__law_word a.d__law_word ["_law_beats", "_law_stuff", "_law_cap", "_law_span"] sp__law_word := by
  have G__law_whole := (ok__law_whole (P := P) (w := w) (base := base) T).up (k := 1) (by omega)
  have B__law_whole_1 := B__law_whole_1 (K := K) (mg := mg) T
  have V__law_whole_1 : RpAll K (fun _ => none) [] [] := .nil
  refine T.f__law_word.ok (n := 4) sc__law_word (spT_mono _ _ _) ?_
  intro cdv A outer s H E hr hgd
  have sc := sc__law_word
  have hu := hr.units
  have h1 := hu_of hr
  have hv : (A.deeper (PyProof.Rows.envOfC "_law_word" (defScope s__law_word) s.heap.objs.size a.f__law_word cdv)).units + 150 < cLine := by have := hr.un; omega
  let N : List Str := ["_law_beats", "_law_stuff", "_law_cap", "_law_span", "_law_first", "_law_last", "_law_one"]
  let st : Stmt := s__law_word
  refine ⟨_, (dss_cons (ds_if (dw_b (dw_or (db_not (db_val (de_isi kit_tuple rfl T.b_isinstance rfl T.b_tuple (by decide +kernel) (de_var 1)))) (dw_or (db_ne hu (de_callB call_len lk_len rfl T.b_len (by decide +kernel) (da_cons (de_var 1) da_nil)) de_int) (dw_or1 (db_in de_bl (dl_F (dl_lc 4 [("_law_one", 6)] rfl sc.nd (di_seq (de_var 1)) (blkOk_by (own := [("_law_one", 6)]) (N := N) (sc := defScope st) (by decide +kernel)) (fun _ _ _ _ _ => (dg_name (i := 6) sc.nd rfl (Or.inl rfl))) (fun _ _ _ _ _ => dts_nil) (fun _ _ _ _ _ => (de_and (de_fn (G__law_whole) (hr.mono (by first | decide | omega)) hgd rfl T.f__law_whole.mg T.f__law_whole.kp B__law_whole_1 V__law_whole_1 (da_cons (de_var 6) da_nil)) (de_one (de_ge (de_var 6) de_int))))))))))) (dss_one (ds_ret (de_tup (da_cons de_str (da_cons de_str (da_cons (de_neg de_int) da_nil)))))) dss_nil)
  (dss_cons (ds_asg (ws := [4, 5]) (de_var 1) (dg_tup (k := 2) rfl (dgs_cons (dg_name (i := 4) sc.nd rfl (Or.inl rfl)) (dgs_cons (dg_name (i := 5) sc.nd rfl (Or.inl rfl)) dgs_nil))))
  (dss_cons (ds_if (dw_b (dw_or (db_gt (de_var 4) (de_var 5)) (dw_or1 (db_ge (de_var 5) (de_callB call_len lk_len rfl T.b_len (by decide +kernel) (da_cons (de_var 0) da_nil)))))) (dss_one (ds_ret (de_tup (da_cons de_str (da_cons de_str (da_cons (de_neg de_int) da_nil)))))) dss_nil)
  (dss_cons (ds_if (db_le (de_add (de_sub (de_var 5) (de_var 4)) de_int) (de_var 2)) (dss_one (ds_ret (de_tup (da_cons de_str (da_cons de_str (da_cons (de_neg de_int) da_nil)))))) dss_nil)
  (dss_cons (ds_if (db_ge (de_sub (de_ix (de_var 0) (de_var 5)) (de_ix (de_var 0) (de_var 4))) (de_var 3)) (dss_one (ds_ret (de_tup (da_cons de_str (da_cons de_str (da_cons (de_neg de_int) da_nil)))))) dss_nil)
  (dss_one (ds_ret (de_tup (da_cons de_str (da_cons (de_add (de_sub (de_var 5) (de_var 4)) de_int) da_nil)))))))))), ?_⟩
  refine fn_T (pre := fun z b => [some (.dat z.1), some (.dat z.2.1), some (.dat z.2.2.1), some (.dat z.2.2.2)]) (fun z => ?_) (fun _ _ => rfl)
  obtain ⟨beats, stuff, cap, span⟩ := z
  show SS noE (sSeq _ sRetN) [some (.dat beats), some (.dat stuff), some (.dat cap), some (.dat span), none, none, none] (f__law_word beats stuff cap span) (fun (b : Dt) => Kd.rt 4 (.dat b) [some (.dat beats), some (.dat stuff), some (.dat cap), some (.dat span)])
  exact (ss_assoc (ss_if (sb_or (sb_not (sb_B (sd_isi (SD.sr (sd_var rfl))))) (sb_or (sb_B (sd_op (SD.sr (sd_call (sar_cons (SD.sr (sd_var rfl)) sar_nil))) (SD.sr sd_c))) (sb_B (sd_op (SD.sr sd_c) (SD.sr (sd_LF (sl_map (sl_seq (sd_var rfl)) rfl (fun x2 => (sg_n (φ := fun one => [some (.dat beats), some (.dat stuff), some (.dat cap), some (.dat span), none, none, some (.dat one)]) fun _ => rfl)) (fun one => (sd_and (sd_fn0 (α := Dt) one (sp_A rfl sp_nil) sp_nil ⟨rfl, rfl, rfl, rfl⟩ (fun _ => ⟨rfl, rfl⟩)) (sd_op (SD.sr (sd_var rfl)) (SD.sr sd_c)))) (fun _ => rfl))))))))
 (ss_ret (fun d => d) (sd_tup (sa_cons sd_c (sa_cons sd_c (sa_cons (sd_un (SD.sr sd_c)) sa_nil)))) (fun _ => rfl) rfl)
 (ss_sk (ss_assoc (ss_asg (sd_var rfl) (fun x4 => (sg_2 (φ := fun p3 => [some (.dat beats), some (.dat stuff), some (.dat cap), some (.dat span), some (.dat p3.1), some (.dat p3.2), none]) fun _ _ _ => rfl)) (fun p3 =>
 (ss_assoc (ss_if (sb_or (sb_B (sd_op (SD.sr (sd_var rfl)) (SD.sr (sd_var rfl)))) (sb_B (sd_op (SD.sr (sd_var rfl)) (SD.sr (sd_call (sar_cons (SD.sr (sd_var rfl)) sar_nil))))))
 (ss_ret (fun d => d) (sd_tup (sa_cons sd_c (sa_cons sd_c (sa_cons (sd_un (SD.sr sd_c)) sa_nil)))) (fun _ => rfl) rfl)
 (ss_sk (ss_assoc (ss_if (sb_B (sd_op (SD.sr (sd_op (SD.sr (sd_op (SD.sr (sd_var rfl)) (SD.sr (sd_var rfl)))) (SD.sr sd_c))) (SD.sr (sd_var rfl))))
 (ss_ret (fun d => d) (sd_tup (sa_cons sd_c (sa_cons sd_c (sa_cons (sd_un (SD.sr sd_c)) sa_nil)))) (fun _ => rfl) rfl)
 (ss_sk (ss_assoc (ss_if (sb_B (sd_op (SD.sr (sd_op (SD.sr (sd_op (SD.sr (sd_var rfl)) (SD.sr (sd_var rfl)))) (SD.sr (sd_op (SD.sr (sd_var rfl)) (SD.sr (sd_var rfl)))))) (SD.sr (sd_var rfl))))
 (ss_ret (fun d => d) (sd_tup (sa_cons sd_c (sa_cons sd_c (sa_cons (sd_un (SD.sr sd_c)) sa_nil)))) (fun _ => rfl) rfl)
 (ss_sk (ss_ret (fun d => d) (sd_tup (sa_cons sd_c (sa_cons (sd_op (SD.sr (sd_op (SD.sr (sd_var rfl)) (SD.sr (sd_var rfl)))) (SD.sr sd_c)) sa_nil))) (fun _ => rfl) rfl))))))))))))))))
theorem ok_is_count {P : Program} {w : World} {K : PySem.W.Frag} {mg : Str → Option Value} {base : Heap} {a : Ad} (T : Tx K mg a) : FnG P w K mg base (0 + 1) a.f_is_count a.d_is_count ["thing"] sp_is_count := by
  refine T.f_is_count.ok (n := 1) sc_is_count (spT_mono _ _ _) ?_
  intro cdv A outer s H E hr hgd
  have sc := sc_is_count
  have hu := hr.units
  have h1 := hu_of hr
  have hv : (A.deeper (PyProof.Rows.envOfC "is_count" (defScope s_is_count) s.heap.objs.size a.f_is_count cdv)).units + 150 < cLine := by have := hr.un; omega
  let N : List Str := ["thing"]
  let st : Stmt := s_is_count
  refine ⟨_, (dss_one (ds_ret (de_and (de_isi kit_int rfl T.b_isinstance rfl T.b_int (by decide +kernel) (de_var 0)) (de_and (de_not (de_isi kit_bool rfl T.b_isinstance rfl T.b_bool (by decide +kernel) (de_var 0))) (de_one (de_ge (de_var 0) de_int)))))), ?_⟩
  refine fn_T (pre := fun z b => [some (.dat z)]) (fun thing => ?_) (fun _ _ => rfl)
  show SS noE (sSeq _ sRetN) [some (.dat thing)] (f_is_count thing) (fun (b : Dt) => Kd.rt 1 (.dat b) [some (.dat thing)])
  exact (ss_ret (fun d => d) (sd_and (sd_isi (SD.sr (sd_var rfl))) (sd_and (sd_not (sd_isi (SD.sr (sd_var rfl)))) (sd_op (SD.sr (sd_var rfl)) (SD.sr sd_c)))) (fun _ => rfl) rfl)
theorem ok_is_tuple_of {P : Program} {w : World} {K : PySem.W.Frag} {mg : Str → Option Value} {base : Heap} {a : Ad} (T : Tx K mg a) : FnG P w K mg base (0 + 1) a.f_is_tuple_of a.d_is_tuple_of ["thing", "many"] sp_is_tuple_of := by
  refine T.f_is_tuple_of.ok (n := 2) sc_is_tuple_of (spT_mono _ _ _) ?_
  intro cdv A outer s H E hr hgd
  have sc := sc_is_tuple_of
  have hu := hr.units
  have h1 := hu_of hr
  have hv : (A.deeper (PyProof.Rows.envOfC "is_tuple_of" (defScope s_is_tuple_of) s.heap.objs.size a.f_is_tuple_of cdv)).units + 150 < cLine := by have := hr.un; omega
  let N : List Str := ["thing", "many"]
  let st : Stmt := s_is_tuple_of
  refine ⟨_, (dss_one (ds_ret (de_and (de_isi kit_tuple rfl T.b_isinstance rfl T.b_tuple (by decide +kernel) (de_var 0)) (de_one (de_eq hu (de_callB call_len lk_len rfl T.b_len (by decide +kernel) (da_cons (de_var 0) da_nil)) (de_var 1)))))), ?_⟩
  refine fn_T (pre := fun z b => [some (.dat z.1), some (.dat z.2)]) (fun z => ?_) (fun _ _ => rfl)
  obtain ⟨thing, many⟩ := z
  show SS noE (sSeq _ sRetN) [some (.dat thing), some (.dat many)] (f_is_tuple_of thing many) (fun (b : Dt) => Kd.rt 2 (.dat b) [some (.dat thing), some (.dat many)])
  exact (ss_ret (fun d => d) (sd_and (sd_isi (SD.sr (sd_var rfl))) (sd_op (SD.sr (sd_call (sar_cons (SD.sr (sd_var rfl)) sar_nil))) (SD.sr (sd_var rfl)))) (fun _ => rfl) rfl)
open PySem L2 Dx Fx
theorem ok_need_shape {P : Program} {w : World} {K : PySem.W.Frag} {mg : Str → Option Value} {base : Heap} {a : Ad} (T : Tx K mg a) : FnX P w K mg base (2 + 1) a.f_need_shape a.d_need_shape ["truth", "word", "at"] sp_need_shape := by
  refine T.f_need_shape.okX (n := 3) sc_need_shape (spTX_mono _ _ _) ?_
  intro cdv A outer s H E0 hr hgd
  have sc := sc_need_shape
  have hu := hr.units
  have h1 := hu_of hr
  have hv : (A.deeper (PyProof.Rows.envOfC "need_shape" (defScope s_need_shape) s.heap.objs.size a.f_need_shape cdv)).units + 150 < cLine := by have := hr.un; omega
  let N : List Str := ["truth", "word", "at"]
  let st : Stmt := s_need_shape
  refine ⟨_, (dss_one (ds_if (db_not (db_val (de_var 0))) (dss_one (ds_raise2 rfl T.x_NoPaper ini_NoPaper (hr.mono (by first | decide | omega)) rfl (da_cons (de_var 1) (da_cons (de_var 2) da_nil)))) dss_nil)), ?_⟩
  refine fnx_T (pre := fun z b => [some (.dat z.1), some (.dat z.2.1), some (.dat z.2.2)]) (fun z E => ?_) (fun _ _ => rfl)
  obtain ⟨truth, word, at_⟩ := z
  show SS E (sSeq _ sRetN) [some (.dat truth), some (.dat word), some (.dat at_)] (f_need_shape truth word at_) (fun (b : Dt) => Kd.rt 3 (.dat b) [some (.dat truth), some (.dat word), some (.dat at_)])
  exact (ss_if (SB.calm (sb_not (sb_B (sd_var rfl))))
 (ss_raise (SA.calm (sa_cons (sd_var rfl) (sa_cons (sd_var rfl) sa_nil))) rfl)
 (ss_sk (ss_retN (γ := Dt) PyData.none rfl rfl)))
theorem ok_lets_breach {P : Program} {w : World} {K : PySem.W.Frag} {mg : Str → Option Value} {base : Heap} {a : Ad} (T : Tx K mg a) : FnX P w K mg base (3 + 1) a.f_lets_breach a.d_lets_breach ["ticks", "thing", "most", "within"] sp_lets_breach := by
  have G_is_count := (ok_is_count (P := P) (w := w) (base := base) T).up (k := 3) (by omega)
  have G_is_tuple_of := (ok_is_tuple_of (P := P) (w := w) (base := base) T).up (k := 3) (by omega)
  have G_need_shape := (ok_need_shape (P := P) (w := w) (base := base) T).up (k := 3) (by omega)
  have B_is_count_1 := B_is_count_1 (K := K) (mg := mg) T
  have V_is_count_1 : RpAll K (fun _ => none) [] [] := .nil
  have B_is_tuple_of_2 := B_is_tuple_of_2 (K := K) (mg := mg) T
  have V_is_tuple_of_2 : RpAll K (fun _ => none) [] [] := .nil
  have B_need_shape_3 := B_need_shape_3 (K := K) (mg := mg) T
  have V_need_shape_3 : RpAll K (fun _ => none) [] [] := .nil
  refine T.f_lets_breach.okX (n := 4) sc_lets_breach (spTX_mono _ _ _) ?_
  intro cdv A outer s H E0 hr hgd
  have sc := sc_lets_breach
  have hu := hr.units
  have h1 := hu_of hr
  have hv : (A.deeper (PyProof.Rows.envOfC "lets_breach" (defScope s_lets_breach) s.heap.objs.size a.f_lets_breach cdv)).units + 150 < cLine := by have := hr.un; omega
  let N : List Str := ["ticks", "thing", "most", "within", "first", "last", "one"]
  let st : Stmt := s_lets_breach
  refine ⟨_, (dss_cons (ds_exprX (dx_fn (G_need_shape) (hr.mono (by first | decide | omega)) hgd rfl T.f_need_shape.mg T.f_need_shape.kp B_need_shape_3 V_need_shape_3 (da_cons (de_and (de_fn (G_is_tuple_of) (hr.mono (by first | decide | omega)) hgd rfl T.f_is_tuple_of.mg T.f_is_tuple_of.kp B_is_tuple_of_2 V_is_tuple_of_2 (da_cons (de_var 1) (da_cons de_int da_nil))) (de_one (de_callB (cr_all rfl) lk_all rfl T.b_all (by decide +kernel) (da_cons (dl_F (dl_lc 4 [("one", 6)] rfl sc.nd (di_seq (de_var 1)) (blkOk_by (own := [("one", 6)]) (N := N) (sc := defScope st) (by decide +kernel)) (fun _ _ _ _ _ => (dg_name (i := 6) sc.nd rfl (Or.inl rfl))) (fun _ _ _ _ _ => dts_nil) (fun _ _ _ _ _ => (de_fn (G_is_count) (hr.mono (by first | decide | omega)) hgd rfl T.f_is_count.mg T.f_is_count.kp B_is_count_1 V_is_count_1 (da_cons (de_var 6) da_nil))))) da_nil)))) (da_cons de_str (da_cons (de_neg de_int) da_nil)))))
  (dss_cons (ds_asg (ws := [4, 5]) (de_var 1) (dg_tup (k := 2) rfl (dgs_cons (dg_name (i := 4) sc.nd rfl (Or.inl rfl)) (dgs_cons (dg_name (i := 5) sc.nd rfl (Or.inl rfl)) dgs_nil))))
  (dss_cons (ds_exprX (dx_fn (G_need_shape) (hr.mono (by first | decide | omega)) hgd rfl T.f_need_shape.mg T.f_need_shape.kp B_need_shape_3 V_need_shape_3 (da_cons (de_chain op_le op_lt lk_cmp lk_cmp (de_var 4) (de_var 5) (de_callB call_len lk_len rfl T.b_len (by decide +kernel) (da_cons (de_var 0) da_nil))) (da_cons de_str (da_cons (de_neg de_int) da_nil)))))
  (dss_cons (ds_exprX (dx_fn (G_need_shape) (hr.mono (by first | decide | omega)) hgd rfl T.f_need_shape.mg T.f_need_shape.kp B_need_shape_3 V_need_shape_3 (da_cons (de_gt (de_add (de_sub (de_var 5) (de_var 4)) de_int) (de_var 2)) (da_cons de_str (da_cons (de_neg de_int) da_nil)))))
  (dss_cons (ds_exprX (dx_fn (G_need_shape) (hr.mono (by first | decide | omega)) hgd rfl T.f_need_shape.mg T.f_need_shape.kp B_need_shape_3 V_need_shape_3 (da_cons (de_lt (de_sub (de_ix (de_var 0) (de_var 5)) (de_ix (de_var 0) (de_var 4))) (de_var 3)) (da_cons de_str (da_cons (de_neg de_int) da_nil)))))
  (dss_one (ds_ret (de_add (de_sub (de_var 5) (de_var 4)) de_int)))))))), ?_⟩
  refine fnx_T (pre := fun z b => [some (.dat z.1), some (.dat z.2.1), some (.dat z.2.2.1), some (.dat z.2.2.2)]) (fun z E => ?_) (fun _ _ => rfl)
  obtain ⟨ticks, thing, most, within⟩ := z
  show SS E (sSeq _ sRetN) [some (.dat ticks), some (.dat thing), some (.dat most), some (.dat within), none, none, none] (f_lets_breach ticks thing most within) (fun (b : Dt) => Kd.rt 4 (.dat b) [some (.dat ticks), some (.dat thing), some (.dat most), some (.dat within)])
  exact (ss_assoc (ss_exprX (sdx_fnA (α := Dt × Dt × Dt) (A := Dt × Dt × Unit) (fun a => (a.1, (.str "shape"), a.2.1)) (sp_D (sd_and (sd_fn0 (α := Dt × Dt) (thing, (.int 2)) (sp_A rfl (sp_C sp_nil)) sp_nil ⟨rfl, rfl, rfl, rfl⟩ (fun _ => ⟨rfl, rfl⟩)) (sd_call (sar_cons (SD.sr (sd_LF (sl_map (sl_seq (sd_var rfl)) rfl (fun x2 => (sg_n (φ := fun one => [some (.dat ticks), some (.dat thing), some (.dat most), some (.dat within), none, none, some (.dat one)]) fun _ => rfl)) (fun one => (sd_fn0 (α := Dt) one (sp_A rfl sp_nil) sp_nil ⟨rfl, rfl, rfl, rfl⟩ (fun _ => ⟨rfl, rfl⟩))) (fun _ => rfl)))) sar_nil))) (sp_C (sp_D (sd_un (SD.sr sd_c)) sp_nil))) sp_nil (fun _ => ⟨rfl, rfl, rfl, rfl⟩) (fun _ _ => ⟨rfl, rfl⟩))
 (ss_assoc (ss_asg (SD.calm (sd_var rfl)) (fun x4 => (sg_2 (φ := fun p3 => [some (.dat ticks), some (.dat thing), some (.dat most), some (.dat within), some (.dat p3.1), some (.dat p3.2), none]) fun _ _ _ => rfl)) (fun p3 =>
 (ss_assoc (ss_exprX (sdx_fnA (α := Dt × Dt × Dt) (A := Dt × Dt × Unit) (fun a => (a.1, (.str "places"), a.2.1)) (sp_D (sd_chain (SD.sr (sd_var rfl)) (SD.sr (sd_var rfl)) (SD.sr (sd_call (sar_cons (SD.sr (sd_var rfl)) sar_nil)))) (sp_C (sp_D (sd_un (SD.sr sd_c)) sp_nil))) sp_nil (fun _ => ⟨rfl, rfl, rfl, rfl⟩) (fun _ _ => ⟨rfl, rfl⟩))
 (ss_assoc (ss_exprX (sdx_fnA (α := Dt × Dt × Dt) (A := Dt × Dt × Unit) (fun a => (a.1, (.str "many"), a.2.1)) (sp_D (sd_op (SD.sr (sd_op (SD.sr (sd_op (SD.sr (sd_var rfl)) (SD.sr (sd_var rfl)))) (SD.sr sd_c))) (SD.sr (sd_var rfl))) (sp_C (sp_D (sd_un (SD.sr sd_c)) sp_nil))) sp_nil (fun _ => ⟨rfl, rfl, rfl, rfl⟩) (fun _ _ => ⟨rfl, rfl⟩))
 (ss_assoc (ss_exprX (sdx_fnA (α := Dt × Dt × Dt) (A := Dt × Dt × Unit) (fun a => (a.1, (.str "within"), a.2.1)) (sp_D (sd_op (SD.sr (sd_op (SD.sr (sd_op (SD.sr (sd_var rfl)) (SD.sr (sd_var rfl)))) (SD.sr (sd_op (SD.sr (sd_var rfl)) (SD.sr (sd_var rfl)))))) (SD.sr (sd_var rfl))) (sp_C (sp_D (sd_un (SD.sr sd_c)) sp_nil))) sp_nil (fun _ => ⟨rfl, rfl, rfl, rfl⟩) (fun _ _ => ⟨rfl, rfl⟩))
 (ss_ret (fun d => d) (SD.calm (sd_op (SD.sr (sd_op (SD.sr (sd_var rfl)) (SD.sr (sd_var rfl)))) (SD.sr sd_c))) (fun _ => rfl) rfl))))))))))))
theorem okS__law_said {P : Program} {w : World} {K : PySem.W.Frag} {mg : Str → Option Value} {base : Heap} {a : Ad} (T : Tx K mg a) (k : Nat) : SaidG P w K mg base k "_law_said" "_law_ask" s__law_said a.f__law_said ["_law_ask", "_law_found", "_law_kinds", "e"] f__law_said := by
  refine ⟨fun cdv A outer s H m φ hr hgd thk => ?_⟩
  have sc := sc__law_said
  have hu := hr.units
  have h1 := hu_of hr
  have hv : (A.deeper (PyProof.Rows.envOfC "_law_said" (defScope s__law_said) s.heap.objs.size a.f__law_said cdv)).units + 150 < cLine := by have := hr.un; omega
  let N : List Str := ["_law_ask", "_law_found", "_law_kinds", "e"]
  let st : Stmt := s__law_said
  refine ⟨_, (dss_cons (ds_set (i := 1) sc.nd rfl (Or.inl rfl) (de_tup (da_cons de_str da_nil)))
  (dss_cons (ds_trySet (i := 3) (j := 1) rfl rfl sc.nd rfl rfl rfl T.g_FolkError (ca_FolkError T) rfl (Or.inl rfl) (fun pn xe => (dx_tup (dax_cons (dx_of de_str) (dax_cons (thk _ _ _ _) (dax_of da_nil))))) (fun xa oe xc xd pn hz hf => (dss_cons (ds_set (i := 2) sc.nd rfl (Or.inl rfl) (dl_F (dl_lst (da_cons (de_xis 3 hz hf rfl T.b_isinstance rfl T.g_PaperError (sub_PaperError T)) (da_cons (de_xis 3 hz hf rfl T.b_isinstance rfl T.g_RunError (sub_RunError T)) (da_cons (de_xis 3 hz hf rfl T.b_isinstance rfl T.g_TextError (sub_TextError T)) da_nil))))))
  (dss_cons (ds_if (dw_b (dw_and (db_eq hu (de_var 2) (dl_F (dl_lst (da_cons de_bl (da_cons de_bl (da_cons de_bl da_nil)))))) (dw_and1 (db_val (de_xis 3 hz hf rfl T.b_isinstance rfl T.g_NoPaper (sub_NoPaper T)))))) (dss_one (ds_set (i := 1) sc.nd rfl (Or.inl rfl) (de_tup (da_cons de_str (da_cons (de_xf 3 (cs := ["NoPaper"]) hz hf (xf_word T)) (da_cons (de_xf 3 (cs := ["NoPaper"]) hz hf (xf_at T)) da_nil)))))) dss_nil)
  (dss_cons (ds_if (dw_b (dw_and (db_eq hu (de_var 2) (dl_F (dl_lst (da_cons de_bl (da_cons de_bl (da_cons de_bl da_nil)))))) (dw_and1 (db_val (de_xis 3 hz hf rfl T.b_isinstance rfl T.g_NoStep (sub_NoStep T)))))) (dss_one (ds_set (i := 1) sc.nd rfl (Or.inl rfl) (de_tup (da_cons de_str (da_cons (de_xf 3 (cs := ["NoPaper"]) hz hf (xf_word T)) da_nil))))) dss_nil)
  (dss_one (ds_if (dw_b (dw_and (db_eq hu (de_var 2) (dl_F (dl_lst (da_cons de_bl (da_cons de_bl (da_cons de_bl da_nil)))))) (dw_and1 (db_val (de_xis 3 hz hf rfl T.b_isinstance rfl T.g_NoFolk (sub_NoFolk T)))))) (dss_one (ds_set (i := 1) sc.nd rfl (Or.inl rfl) (de_tup (da_cons de_str (da_cons (de_xf 3 (cs := []) hz hf (xf_address T)) da_nil))))) dss_nil)))))))
  (dss_one (ds_ret (de_var 1))))), said_T (pre := [some (.inv φ)]) ?_⟩
  show SS noE (sSeq _ sRetN) [some (.inv φ), none, none, none] (f__law_said m) (fun (b : Dt) => Kd.rt 1 (.dat b) [some (.inv φ)])
  exact (ss_assoc (ss_set (env' := fun found => [some (.inv φ), some (.dat found), none, none]) (sd_tup (sa_cons sd_c sa_nil)) (fun _ => rfl) (fun found =>
 (ss_assoc (ss_trySet (φ := fun (v10 : Dt) (j11 : Option Dv × Option Dv) => [some (.inv φ), some (.dat v10), j11.1, none]) (φ' := fun (v10 : Dt) (j11 : Option Dv × Option Dv) => [some (.inv φ), some (.dat v10), j11.1, j11.2]) (fun d9 => (none, none)) (fun _ => (sdx_tup (sax_cons (SD.x (SD.calm sd_c)) (sax_cons (sdx_thk rfl) (SA.x sa_nil))))) (fun _ => rfl) (fun xa1 xc2 xd3 xx4 => (ss_end
 (ss_assoc (ss_set (env' := fun kinds => [some (.inv φ), some (.dat found), some (.dat kinds), some (.inv (XIn mg xa1 xc2 xd3 xx4))]) (sd_LF (sl_lst (sa_cons (sd_xis rfl) (sa_cons (sd_xis rfl) (sa_cons (sd_xis rfl) sa_nil))))) (fun _ => rfl) (fun kinds =>
 (ss_assoc (ss_join (φ := fun (v5 : Dt) (j6 : Unit) => [some (.inv φ), some (.dat v5), some (.dat kinds), some (.inv (XIn mg xa1 xc2 xd3 xx4))]) (sb_and (sb_B (sd_op (SD.sr (sd_var rfl)) (SD.sr (sd_LF (sl_lst (sa_cons sd_c (sa_cons sd_c (sa_cons sd_c sa_nil)))))))) (sb_B (sd_xis rfl)))
 (ss_end (ss_set (env' := fun found_1 => [some (.inv φ), some (.dat found_1), some (.dat kinds), some (.inv (XIn mg xa1 xc2 xd3 xx4))]) (sd_tup (sa_cons sd_c (sa_cons (sd_xf rfl) (sa_cons (sd_xf rfl) sa_nil)))) (fun _ => rfl) (fun found_1 =>
 (ss_nx found_1 () rfl rfl))))
 (ss_end (ss_sk (ss_nx found () rfl rfl))) (fun v5 j6 =>
 (ss_assoc (ss_join (φ := fun (v7 : Dt) (j8 : Unit) => [some (.inv φ), some (.dat v7), some (.dat kinds), some (.inv (XIn mg xa1 xc2 xd3 xx4))]) (sb_and (sb_B (sd_op (SD.sr (sd_var rfl)) (SD.sr (sd_LF (sl_lst (sa_cons sd_c (sa_cons sd_c (sa_cons sd_c sa_nil)))))))) (sb_B (sd_xis rfl)))
 (ss_end (ss_set (env' := fun found_2 => [some (.inv φ), some (.dat found_2), some (.dat kinds), some (.inv (XIn mg xa1 xc2 xd3 xx4))]) (sd_tup (sa_cons sd_c (sa_cons (sd_xf rfl) sa_nil))) (fun _ => rfl) (fun found_2 =>
 (ss_nx found_2 () rfl rfl))))
 (ss_end (ss_sk (ss_nx v5 () rfl rfl))) (fun v7 j8 =>
 (ss_if (sb_and (sb_B (sd_op (SD.sr (sd_var rfl)) (SD.sr (sd_LF (sl_lst (sa_cons sd_c (sa_cons sd_c (sa_cons sd_c sa_nil)))))))) (sb_B (sd_xis rfl)))
 (ss_set (env' := fun found_3 => [some (.inv φ), some (.dat found_3), some (.dat kinds), some (.inv (XIn mg xa1 xc2 xd3 xx4))]) (sd_tup (sa_cons sd_c (sa_cons (sd_xf rfl) sa_nil))) (fun _ => rfl) (fun found_3 =>
 (ss_nx found_3 (some (.dat kinds), some (.inv (XIn mg xa1 xc2 xd3 xx4))) rfl rfl)))
 (ss_sk (ss_nx v7 (some (.dat kinds), some (.inv (XIn mg xa1 xc2 xd3 xx4))) rfl rfl)))))))))))))) (fun _ _ => rfl) (fun v10 j11 =>
 (ss_ret (fun d => d) (sd_var rfl) (fun _ => rfl) rfl)))))))
open PySem L2 Dx Fx
theorem law_run {P : Program} {w : World} {K : PySem.W.Frag} {mg : Str → Option Value} {base : Heap} {a : Ad} (T : Tx K mg a) {c Pt : Addr} (hc : a.d_law.code = .ref c) (TB : LamX.TabB base mg c Pt) (bL : ∀ (s : Shared) (u : Value), BindsTo s a.d_law ⟨[u], []⟩ [("_law_script", u)]) (bF : Binds K a.d__law_feed ["_law_script"] []) (W : (f_law).wp (fun d => d = .bool true) noE) : LawRunT P w K mg base a.f_law 63 Pt := by
  have GL_lets_breach := (ok_lets_breach (P := P) (w := w) (base := base) T).up (k := 4) (by omega)
  have G__law_draw := (ok__law_draw (P := P) (w := w) (base := base) T).up (k := 6) (by omega)
  have G_spaced := (ok_spaced (P := P) (w := w) (base := base) T).up (k := 6) (by omega)
  have G_breach_of := (ok_breach_of (P := P) (w := w) (base := base) T).up (k := 6) (by omega)
  have G__law_word := (ok__law_word (P := P) (w := w) (base := base) T).up (k := 6) (by omega)
  have G_lets_breach := (ok_lets_breach (P := P) (w := w) (base := base) T).up (k := 6) (by omega)
  have B__law_draw_2 := B__law_draw_2 (K := K) (mg := mg) T
  have V__law_draw_2 : RpAll K (fun _ => none) [] [] := .nil
  have B_spaced_0_within_ticks := B_spaced_0_within_ticks (K := K) (mg := mg) T
  have V_spaced_0_within_ticks : RpAll K (fun _ => none) [] [] := .nil
  have B_spaced_1_within := B_spaced_1_within (K := K) (mg := mg) T
  have V_spaced_1_within : RpAll K (fun _ => none) [] [] := .nil
  have B_breach_of_1_most_within := B_breach_of_1_most_within (K := K) (mg := mg) T
  have V_breach_of_1_most_within : RpAll K (fun _ => none) [] [] := .nil
  have B_breach_of_0_within_most_ticks := B_breach_of_0_within_most_ticks (K := K) (mg := mg) T
  have V_breach_of_0_within_most_ticks : RpAll K (fun _ => none) [] [] := .nil
  have B__law_word_4 := B__law_word_4 (K := K) (mg := mg) T
  have V__law_word_4 : RpAll K (fun _ => none) [] [] := .nil
  have B_lets_breach_2_most_within := B_lets_breach_2_most_within (K := K) (mg := mg) T
  have V_lets_breach_2_most_within : RpAll K (fun _ => none) [] [] := .nil
  have B_lets_breach_0_within_thing_most_ticks := B_lets_breach_0_within_thing_most_ticks (K := K) (mg := mg) T
  have V_lets_breach_0_within_thing_most_ticks : RpAll K (fun _ => none) [] [] := .nil
  refine law_ofT (k := 6) T.f_law hc sc_law ⟨rfl, by decide, by decide⟩ rfl ⟨_, rfl⟩ rfl rfl bL (feed_ok T.f__law_feed sc__law_feed T.b_list rfl (fun _ _ _ _ _ _ => rfl) rfl) bF T.f__law_feed.mg T.f__law_feed.kp (fun _ _ _ _ _ _ => rfl) (fun _ _ _ _ _ _ => rfl) ?_
  intro A outer s H E hr hgd
  have sc := sc_law
  have hu := hr.units
  have h1 := hu_of hr
  have hv : (A.deeper (PyProof.Rows.envOfC "law" (defScope s_law) s.heap.objs.size a.f_law (.ref c))).units + 150 < cLine := by have := hr.un; omega
  let N : List Str := ["_law_script", "_law_feed_here", "_law_turn", "_law_beats", "_law_tick", "_law_k", "_law_cap", "_law_span", "_law_due", "_law_pair", "_law_is_over", "_law_again", "_law_things", "_law_first", "_law_stuff", "_law_kept", "_law_told", "_law_more", "_law_one", "_law_last"]
  let st : Stmt := s_law
  refine ⟨_, (dss_cons (ds_for (ws := [2]) PassesOwn.never rfl (di_range rfl T.b_range de_int) (dg_name (i := 2) sc.nd rfl (Or.inl rfl)) (dss_cons (ds_parT rfl (pgn_cons (i := 3) sc.nd rfl (Or.inr rfl) (pgn_cons (i := 4) sc.nd rfl (Or.inl rfl) pgn_nil)) (da_cons (dl_N (dl_lst da_nil)) (da_cons (de_ix (dl_F (dl_lst (da_cons de_int (da_cons de_int (da_cons (de_pow de_int de_int) da_nil))))) (de_fn (G__law_draw) (hr.mono (by first | decide | omega)) hgd rfl T.f__law_draw.mg T.f__law_draw.kp B__law_draw_2 V__law_draw_2 (da_cons (de_var 1) (da_cons de_int da_nil)))) da_nil)))
  (dss_cons (ds_for (ws := [5]) PassesOwn.never rfl (di_range rfl T.b_range (de_fn (G__law_draw) (hr.mono (by first | decide | omega)) hgd rfl T.f__law_draw.mg T.f__law_draw.kp B__law_draw_2 V__law_draw_2 (da_cons (de_var 1) (da_cons de_int da_nil)))) (dg_name (i := 5) sc.nd rfl (Or.inr rfl)) (dss_cons (ds_set (i := 4) sc.nd rfl (Or.inl rfl) (de_add (de_var 4) (de_fn (G__law_draw) (hr.mono (by first | decide | omega)) hgd rfl T.f__law_draw.mg T.f__law_draw.kp B__law_draw_2 V__law_draw_2 (da_cons (de_var 1) (da_cons de_int da_nil)))))
  (dss_one (ds_expr (de_app 3 (de_var 4))))))
  (dss_cons (ds_parT rfl (pgn_cons (i := 3) sc.nd rfl (Or.inr rfl) (pgn_cons (i := 6) sc.nd rfl (Or.inr rfl) (pgn_cons (i := 7) sc.nd rfl (Or.inr rfl) pgn_nil))) (da_cons (de_callT call_toTup lk_toTup rfl T.b_tuple (by decide +kernel) (da_cons (de_var 3) da_nil)) (da_cons (de_fn (G__law_draw) (hr.mono (by first | decide | omega)) hgd rfl T.f__law_draw.mg T.f__law_draw.kp B__law_draw_2 V__law_draw_2 (da_cons (de_var 1) (da_cons de_int da_nil))) (da_cons (de_add de_int (de_fn (G__law_draw) (hr.mono (by first | decide | omega)) hgd rfl T.f__law_draw.mg T.f__law_draw.kp B__law_draw_2 V__law_draw_2 (da_cons (de_var 1) (da_cons de_int da_nil)))) da_nil))))
  (dss_cons (ds_set (i := 8) sc.nd rfl (Or.inl rfl) (dl_N (dl_lst da_nil)))
  (dss_cons (ds_for (ws := [5]) PassesOwn.never rfl (di_range rfl T.b_range (de_callB call_len lk_len rfl T.b_len (by decide +kernel) (da_cons (de_var 3) da_nil))) (dg_name (i := 5) sc.nd rfl (Or.inr rfl)) (dss_one (ds_expr (de_app 8 (de_callB call_len lk_len rfl T.b_len (by decide +kernel) (da_cons (dl_F (dl_lc 0 [("_law_one", 18)] rfl sc.nd (di_seq (de_slT (de_var 3) do_none (do_some (de_add (de_var 5) de_int)))) (blkOk_by (own := [("_law_one", 18)]) (N := N) (sc := defScope st) (by decide +kernel)) (fun _ _ _ _ _ => (dg_name (i := 18) sc.nd rfl (Or.inl rfl))) (fun _ _ _ _ _ => (dts_one (db_lt (de_sub (de_ix (de_var 3) (de_var 5)) (de_var 18)) (de_var 7)))) (fun _ _ _ _ _ => (de_var 18)))) da_nil))))))
  (dss_cons (ds_if (dw_b (dw_or (db_ne hu (de_callB (call_reprD hgd hv) lk_repr rfl T.b_repr (by decide +kernel) (da_cons (de_fnK (G_spaced) (hr.mono (by first | decide | omega)) hgd rfl T.f_spaced.mg T.f_spaced.kp B_spaced_1_within V_spaced_1_within (da_cons (de_var 3) da_nil) (dk_cons (de_var 7) dk_nil)) da_nil)) (de_callB (call_reprD hgd hv) lk_repr rfl T.b_repr (by decide +kernel) (da_cons (de_callT call_toTup lk_toTup rfl T.b_tuple (by decide +kernel) (da_cons (de_var 8) da_nil)) da_nil))) (dw_or1 (db_ne hu (de_fnK0 (G_spaced) (hr.mono (by first | decide | omega)) hgd rfl T.f_spaced.mg T.f_spaced.kp B_spaced_0_within_ticks V_spaced_0_within_ticks (dk_cons (de_var 7) (dk_cons (de_var 3) dk_nil))) (de_callT call_toTup lk_toTup rfl T.b_tuple (by decide +kernel) (da_cons (de_var 8) da_nil)))))) (dss_one (ds_ret de_bl)) dss_nil)
  (dss_cons (ds_par (i := 9) (j := 10) rfl sc.nd rfl rfl (by decide) rfl rfl (da_cons (de_fnK (G_breach_of) (hr.mono (by first | decide | omega)) hgd rfl T.f_breach_of.mg T.f_breach_of.kp B_breach_of_1_most_within V_breach_of_1_most_within (da_cons (de_var 3) da_nil) (dk_cons (de_var 6) (dk_cons (de_var 7) dk_nil))) (da_cons (de_ne hu (dl_F (dl_lcV 0 8 [("_law_one", 18)] rfl sc.nd (de_var 8) (blkOk_by (own := [("_law_one", 18)]) (N := N) (sc := defScope st) (by decide +kernel)) (fun _ _ _ _ _ => (dg_name (i := 18) sc.nd rfl (Or.inl rfl))) (fun _ _ _ _ _ => (dts_one (db_gt (de_var 18) (de_var 6)))) (fun _ _ _ _ _ => (de_var 18)))) (dl_F (dl_lst da_nil))) da_nil)) rfl)
  (dss_cons (ds_set (i := 11) sc.nd rfl (Or.inl rfl) (de_fnK0 (G_breach_of) (hr.mono (by first | decide | omega)) hgd rfl T.f_breach_of.mg T.f_breach_of.kp B_breach_of_0_within_most_ticks V_breach_of_0_within_most_ticks (dk_cons (de_var 7) (dk_cons (de_var 6) (dk_cons (de_var 3) dk_nil)))))
  (dss_cons (ds_if (dw_b (dw_or (db_ne hu (de_notN (de_var 9) de_non) (de_var 10)) (dw_or1 (db_ne hu (de_notN (de_var 11) de_non) (de_var 10))))) (dss_one (ds_ret de_bl)) dss_nil)
  (dss_cons (ds_set (i := 12) sc.nd rfl (Or.inl rfl) (dl_F (dl_lst (da_cons (de_var 9) (da_cons de_non (da_cons (de_tup da_nil) (da_cons (de_tup (da_cons de_int da_nil)) (da_cons (de_tup (da_cons de_int (da_cons de_int (da_cons de_int da_nil)))) (da_cons (dl_F (dl_lst (da_cons de_int (da_cons de_int da_nil)))) (da_cons (de_tup (da_cons de_bl (da_cons de_int da_nil))) (da_cons (de_tup (da_cons de_int (da_cons de_bl da_nil))) (da_cons (de_tup (da_cons (de_neg de_int) (da_cons de_int da_nil))) (da_cons (de_tup (da_cons de_int (da_cons (de_neg de_int) da_nil))) (da_cons de_str da_nil))))))))))))))
  (dss_cons (ds_for (ws := [13]) PassesOwn.never rfl (di_range rfl T.b_range (de_add (de_callB call_len lk_len rfl T.b_len (by decide +kernel) (da_cons (de_var 3) da_nil)) de_int)) (dg_name (i := 13) sc.nd rfl (Or.inr rfl)) (dss_one (ds_set (i := 12) sc.nd rfl (Or.inl rfl) (de_add (de_var 12) (dl_F (dl_lc 0 [("_law_last", 19)] rfl sc.nd (di_range rfl T.b_range (de_add (de_callB call_len lk_len rfl T.b_len (by decide +kernel) (da_cons (de_var 3) da_nil)) de_int)) (blkOk_by (own := [("_law_last", 19)]) (N := N) (sc := defScope st) (by decide +kernel)) (fun _ _ _ _ _ => (dg_name (i := 19) sc.nd rfl (Or.inl rfl))) (fun _ _ _ _ _ => dts_nil) (fun _ _ _ _ _ => (de_tup (da_cons (de_var 13) (da_cons (de_var 19) da_nil))))))))))
  (dss_cons (ds_for (ws := [14]) PassesOwn.never rfl (di_seq (de_var 12)) (dg_name (i := 14) sc.nd rfl (Or.inr rfl)) (dss_cons (ds_par (i := 15) (j := 8) rfl sc.nd rfl rfl (by decide) rfl rfl (da_cons (de_callB (call_reprD hgd hv) lk_repr rfl T.b_repr (by decide +kernel) (da_cons (de_tup (da_cons (de_var 3) (da_cons (de_var 14) da_nil))) da_nil)) (da_cons (de_callB (call_reprD hgd hv) lk_repr rfl T.b_repr (by decide +kernel) (da_cons (de_fn (G__law_word) (hr.mono (by first | decide | omega)) hgd rfl T.f__law_word.mg T.f__law_word.kp B__law_word_4 V__law_word_4 (da_cons (de_var 3) (da_cons (de_var 14) (da_cons (de_var 6) (da_cons (de_var 7) da_nil))))) da_nil)) da_nil)) rfl)
  (dss_cons (ds_set (i := 16) sc.nd rfl (Or.inl rfl) (de_lam (k := 4) (j := 0) (okS__law_said (P := P) (w := w) (base := base) T _) T.f__law_said sc__law_said rfl (Or.inl rfl) (bd__law_said T) (hr.mono (by first | decide | omega)) hgd rfl TB rfl rfl (LamX.lamS_by (sc := defScope s_law) (by decide +kernel)) rfl (fun _ _ _ _ _ => rfl) (fun A outer s H E f c' hr hgd => (dx_fnK (GL_lets_breach) (hr.mono (by first | decide | omega)) hgd rfl T.f_lets_breach.mg T.f_lets_breach.kp B_lets_breach_2_most_within V_lets_breach_2_most_within (da_cons (de_var 3) (da_cons (de_var 14) da_nil)) (dk_cons (de_var 6) (dk_cons (de_var 7) dk_nil))))))
  (dss_cons (ds_set (i := 17) sc.nd rfl (Or.inl rfl) (de_lam (k := 4) (j := 0) (okS__law_said (P := P) (w := w) (base := base) T _) T.f__law_said sc__law_said rfl (Or.inl rfl) (bd__law_said T) (hr.mono (by first | decide | omega)) hgd rfl TB rfl rfl (LamX.lamS_by (sc := defScope s_law) (by decide +kernel)) rfl (fun _ _ _ _ _ => rfl) (fun A outer s H E f c' hr hgd => (dx_fnK0 (GL_lets_breach) (hr.mono (by first | decide | omega)) hgd rfl T.f_lets_breach.mg T.f_lets_breach.kp B_lets_breach_0_within_thing_most_ticks V_lets_breach_0_within_thing_most_ticks (dk_cons (de_var 7) (dk_cons (de_var 14) (dk_cons (de_var 6) (dk_cons (de_var 3) dk_nil))))))))
  (dss_one (ds_if (dw_b (dw_or (db_ne hu (de_callB (call_reprD hgd hv) lk_repr rfl T.b_repr (by decide +kernel) (da_cons (de_var 16) da_nil)) (de_var 8)) (dw_or (db_ne hu (de_callB (call_reprD hgd hv) lk_repr rfl T.b_repr (by decide +kernel) (da_cons (de_var 17) da_nil)) (de_var 8)) (dw_or1 (db_ne hu (de_callB (call_reprD hgd hv) lk_repr rfl T.b_repr (by decide +kernel) (da_cons (de_tup (da_cons (de_var 3) (da_cons (de_var 14) da_nil))) da_nil)) (de_var 15)))))) (dss_one (ds_ret de_bl)) dss_nil))))))
  (dss_one (ds_if (dw_b (dw_and (db_notN (de_var 9) de_non) (dw_and1 (db_ne hu (de_ix (de_fn (G__law_word) (hr.mono (by first | decide | omega)) hgd rfl T.f__law_word.mg T.f__law_word.kp B__law_word_4 V__law_word_4 (da_cons (de_var 3) (da_cons (de_var 9) (da_cons (de_var 6) (da_cons (de_var 7) da_nil))))) de_int) de_str)))) (dss_one (ds_ret de_bl)) dss_nil)))))))))))))))
  (dss_one (ds_ret de_bl))), ?_⟩
  refine law_T (env := [some (.tab Pt), some feed, none, none, none, none, none, none, none, none, none, none, none, none, none, none, none, none, none, none]) (m := f_law) ?_ W
  exact (ss_assoc (ss_forR (φ := fun (s1 : Unit) (j2 : Option Dv × Option Dv × Option Dv × Option Dv × Option Dv × Option Dv × Option Dv × Option Dv × Option Dv × Option Dv × Option Dv × Option Dv × Option Dv × Option Dv × Option Dv × Option Dv) => [some (.tab Pt), some feed, j2.1, j2.2.1, j2.2.2.1, j2.2.2.2.1, j2.2.2.2.2.1, j2.2.2.2.2.2.1, j2.2.2.2.2.2.2.1, j2.2.2.2.2.2.2.2.1, j2.2.2.2.2.2.2.2.2.1, j2.2.2.2.2.2.2.2.2.2.1, j2.2.2.2.2.2.2.2.2.2.2.1, j2.2.2.2.2.2.2.2.2.2.2.2.1, j2.2.2.2.2.2.2.2.2.2.2.2.2.1, j2.2.2.2.2.2.2.2.2.2.2.2.2.2.2.2, j2.2.2.2.2.2.2.2.2.2.2.2.2.2.1, j2.2.2.2.2.2.2.2.2.2.2.2.2.2.2.1, none, none]) () (none, none, none, none, none, none, none, none, none, none, none, none, none, none, none, none) (fun b => b) (κr := fun (b : Dt) => Kd.rt 0 (.dat b) []) (fun _ => ⟨_, _, _, rfl⟩) (fun _ => rfl) (sl_rng sd_c) rfl (fun s1 j2 x4 => (sg_n (φ := fun turn => [some (.tab Pt), some feed, some (.dat turn), j2.2.1, j2.2.2.1, j2.2.2.2.1, j2.2.2.2.2.1, j2.2.2.2.2.2.1, j2.2.2.2.2.2.2.1, j2.2.2.2.2.2.2.2.1, j2.2.2.2.2.2.2.2.2.1, j2.2.2.2.2.2.2.2.2.2.1, j2.2.2.2.2.2.2.2.2.2.2.1, j2.2.2.2.2.2.2.2.2.2.2.2.1, j2.2.2.2.2.2.2.2.2.2.2.2.2.1, j2.2.2.2.2.2.2.2.2.2.2.2.2.2.2.2, j2.2.2.2.2.2.2.2.2.2.2.2.2.2.1, j2.2.2.2.2.2.2.2.2.2.2.2.2.2.2.1, none, none]) fun _ => rfl)) (fun s1 j2 turn => (ss_end
 (ss_assoc (ss_par (env' := fun p5 => [some (.tab Pt), some feed, some (.dat turn), some (.obj (.lst p5.1)), some (.dat p5.2.1), j2.2.2.2.1, j2.2.2.2.2.1, j2.2.2.2.2.2.1, j2.2.2.2.2.2.2.1, j2.2.2.2.2.2.2.2.1, j2.2.2.2.2.2.2.2.2.1, j2.2.2.2.2.2.2.2.2.2.1, j2.2.2.2.2.2.2.2.2.2.2.1, j2.2.2.2.2.2.2.2.2.2.2.2.1, j2.2.2.2.2.2.2.2.2.2.2.2.2.1, j2.2.2.2.2.2.2.2.2.2.2.2.2.2.2.2, j2.2.2.2.2.2.2.2.2.2.2.2.2.2.1, j2.2.2.2.2.2.2.2.2.2.2.2.2.2.2.1, none, none]) (sp_E (se_LN (sl_lst sa_nil)) (sp_D (sd_op (SD.sr (sd_LF (sl_lst (sa_cons sd_c (sa_cons sd_c (sa_cons (sd_op (SD.sr sd_c) (SD.sr sd_c)) sa_nil)))))) (SD.sr (sd_fn0 (α := Dt) (.int 3) (sp_V rfl (sp_C sp_nil)) sp_nil ⟨rfl, rfl, rfl, rfl⟩ (fun _ => ⟨rfl, rfl⟩)))) sp_nil)) (fun _ _ => rfl) (fun p5 =>
 (ss_assoc (ss_for (φ := fun (s6 : Dt × List Dt) (j7 : Option Dv) => [some (.tab Pt), some feed, some (.dat turn), some (.obj (.lst s6.2)), some (.dat s6.1), j7, j2.2.2.2.2.1, j2.2.2.2.2.2.1, j2.2.2.2.2.2.2.1, j2.2.2.2.2.2.2.2.1, j2.2.2.2.2.2.2.2.2.1, j2.2.2.2.2.2.2.2.2.2.1, j2.2.2.2.2.2.2.2.2.2.2.1, j2.2.2.2.2.2.2.2.2.2.2.2.1, j2.2.2.2.2.2.2.2.2.2.2.2.2.1, j2.2.2.2.2.2.2.2.2.2.2.2.2.2.2.2, j2.2.2.2.2.2.2.2.2.2.2.2.2.2.1, j2.2.2.2.2.2.2.2.2.2.2.2.2.2.2.1, none, none]) (p5.2.1, p5.1) j2.2.2.2.1 (sl_rng (sd_fn0 (α := Dt) (.int 21) (sp_V rfl (sp_C sp_nil)) sp_nil ⟨rfl, rfl, rfl, rfl⟩ (fun _ => ⟨rfl, rfl⟩))) rfl (fun s6 j7 x9 => (sg_n (φ := fun k => [some (.tab Pt), some feed, some (.dat turn), some (.obj (.lst s6.2)), some (.dat s6.1), some (.dat k), j2.2.2.2.2.1, j2.2.2.2.2.2.1, j2.2.2.2.2.2.2.1, j2.2.2.2.2.2.2.2.1, j2.2.2.2.2.2.2.2.2.1, j2.2.2.2.2.2.2.2.2.2.1, j2.2.2.2.2.2.2.2.2.2.2.1, j2.2.2.2.2.2.2.2.2.2.2.2.1, j2.2.2.2.2.2.2.2.2.2.2.2.2.1, j2.2.2.2.2.2.2.2.2.2.2.2.2.2.2.2, j2.2.2.2.2.2.2.2.2.2.2.2.2.2.1, j2.2.2.2.2.2.2.2.2.2.2.2.2.2.2.1, none, none]) fun _ => rfl)) (fun s6 j7 k => (ss_end
 (ss_assoc (ss_set (env' := fun tick => [some (.tab Pt), some feed, some (.dat turn), some (.obj (.lst s6.2)), some (.dat tick), some (.dat k), j2.2.2.2.2.1, j2.2.2.2.2.2.1, j2.2.2.2.2.2.2.1, j2.2.2.2.2.2.2.2.1, j2.2.2.2.2.2.2.2.2.1, j2.2.2.2.2.2.2.2.2.2.1, j2.2.2.2.2.2.2.2.2.2.2.1, j2.2.2.2.2.2.2.2.2.2.2.2.1, j2.2.2.2.2.2.2.2.2.2.2.2.2.1, j2.2.2.2.2.2.2.2.2.2.2.2.2.2.2.2, j2.2.2.2.2.2.2.2.2.2.2.2.2.2.1, j2.2.2.2.2.2.2.2.2.2.2.2.2.2.2.1, none, none]) (sd_op (SD.sr (sd_var rfl)) (SD.sr (sd_fn0 (α := Dt) (.int 5) (sp_V rfl (sp_C sp_nil)) sp_nil ⟨rfl, rfl, rfl, rfl⟩ (fun _ => ⟨rfl, rfl⟩)))) (fun _ => rfl) (fun tick =>
 (ss_app (env' := fun beats => [some (.tab Pt), some feed, some (.dat turn), some (.obj (.lst beats)), some (.dat tick), some (.dat k), j2.2.2.2.2.1, j2.2.2.2.2.2.1, j2.2.2.2.2.2.2.1, j2.2.2.2.2.2.2.2.1, j2.2.2.2.2.2.2.2.2.1, j2.2.2.2.2.2.2.2.2.2.1, j2.2.2.2.2.2.2.2.2.2.2.1, j2.2.2.2.2.2.2.2.2.2.2.2.1, j2.2.2.2.2.2.2.2.2.2.2.2.2.1, j2.2.2.2.2.2.2.2.2.2.2.2.2.2.2.2, j2.2.2.2.2.2.2.2.2.2.2.2.2.2.1, j2.2.2.2.2.2.2.2.2.2.2.2.2.2.2.1, none, none]) (sd_var rfl) rfl (fun _ => rfl) (fun beats =>
 (ss_lp (tick, beats) (some (.dat k)) rfl rfl)))))))) (fun s6 j7 =>
 (ss_assoc (ss_par (env' := fun p10 => [some (.tab Pt), some feed, some (.dat turn), some (.dat p10.1), some (.dat s6.1), j7, some (.dat p10.2.1), some (.dat p10.2.2.1), j2.2.2.2.2.2.2.1, j2.2.2.2.2.2.2.2.1, j2.2.2.2.2.2.2.2.2.1, j2.2.2.2.2.2.2.2.2.2.1, j2.2.2.2.2.2.2.2.2.2.2.1, j2.2.2.2.2.2.2.2.2.2.2.2.1, j2.2.2.2.2.2.2.2.2.2.2.2.2.1, j2.2.2.2.2.2.2.2.2.2.2.2.2.2.2.2, j2.2.2.2.2.2.2.2.2.2.2.2.2.2.1, j2.2.2.2.2.2.2.2.2.2.2.2.2.2.2.1, none, none]) (sp_D (sd_call (sar_cons (sr_var rfl) sar_nil)) (sp_D (sd_fn0 (α := Dt) (.int 6) (sp_V rfl (sp_C sp_nil)) sp_nil ⟨rfl, rfl, rfl, rfl⟩ (fun _ => ⟨rfl, rfl⟩)) (sp_D (sd_op (SD.sr sd_c) (SD.sr (sd_fn0 (α := Dt) (.int 9) (sp_V rfl (sp_C sp_nil)) sp_nil ⟨rfl, rfl, rfl, rfl⟩ (fun _ => ⟨rfl, rfl⟩)))) sp_nil))) (fun _ _ => rfl) (fun p10 =>
 (ss_assoc (ss_setE (env' := fun due => [some (.tab Pt), some feed, some (.dat turn), some (.dat p10.1), some (.dat s6.1), j7, some (.dat p10.2.1), some (.dat p10.2.2.1), some (.obj (.lst due)), j2.2.2.2.2.2.2.2.1, j2.2.2.2.2.2.2.2.2.1, j2.2.2.2.2.2.2.2.2.2.1, j2.2.2.2.2.2.2.2.2.2.2.1, j2.2.2.2.2.2.2.2.2.2.2.2.1, j2.2.2.2.2.2.2.2.2.2.2.2.2.1, j2.2.2.2.2.2.2.2.2.2.2.2.2.2.2.2, j2.2.2.2.2.2.2.2.2.2.2.2.2.2.1, j2.2.2.2.2.2.2.2.2.2.2.2.2.2.2.1, none, none]) (se_LN (sl_lst sa_nil)) (fun _ _ => rfl) (fun due =>
 (ss_assoc (ss_for (φ := fun (s11 : List Dt) (j12 : Option Dv) => [some (.tab Pt), some feed, some (.dat turn), some (.dat p10.1), some (.dat s6.1), j12, some (.dat p10.2.1), some (.dat p10.2.2.1), some (.obj (.lst s11)), j2.2.2.2.2.2.2.2.1, j2.2.2.2.2.2.2.2.2.1, j2.2.2.2.2.2.2.2.2.2.1, j2.2.2.2.2.2.2.2.2.2.2.1, j2.2.2.2.2.2.2.2.2.2.2.2.1, j2.2.2.2.2.2.2.2.2.2.2.2.2.1, j2.2.2.2.2.2.2.2.2.2.2.2.2.2.2.2, j2.2.2.2.2.2.2.2.2.2.2.2.2.2.1, j2.2.2.2.2.2.2.2.2.2.2.2.2.2.2.1, none, none]) due j7 (sl_rng (sd_call (sar_cons (SD.sr (sd_var rfl)) sar_nil))) rfl (fun s11 j12 x14 => (sg_n (φ := fun k_1 => [some (.tab Pt), some feed, some (.dat turn), some (.dat p10.1), some (.dat s6.1), some (.dat k_1), some (.dat p10.2.1), some (.dat p10.2.2.1), some (.obj (.lst s11)), j2.2.2.2.2.2.2.2.1, j2.2.2.2.2.2.2.2.2.1, j2.2.2.2.2.2.2.2.2.2.1, j2.2.2.2.2.2.2.2.2.2.2.1, j2.2.2.2.2.2.2.2.2.2.2.2.1, j2.2.2.2.2.2.2.2.2.2.2.2.2.1, j2.2.2.2.2.2.2.2.2.2.2.2.2.2.2.2, j2.2.2.2.2.2.2.2.2.2.2.2.2.2.1, j2.2.2.2.2.2.2.2.2.2.2.2.2.2.2.1, none, none]) fun _ => rfl)) (fun s11 j12 k_1 => (ss_end
 (ss_app (env' := fun due_1 => [some (.tab Pt), some feed, some (.dat turn), some (.dat p10.1), some (.dat s6.1), some (.dat k_1), some (.dat p10.2.1), some (.dat p10.2.2.1), some (.obj (.lst due_1)), j2.2.2.2.2.2.2.2.1, j2.2.2.2.2.2.2.2.2.1, j2.2.2.2.2.2.2.2.2.2.1, j2.2.2.2.2.2.2.2.2.2.2.1, j2.2.2.2.2.2.2.2.2.2.2.2.1, j2.2.2.2.2.2.2.2.2.2.2.2.2.1, j2.2.2.2.2.2.2.2.2.2.2.2.2.2.2.2, j2.2.2.2.2.2.2.2.2.2.2.2.2.2.1, j2.2.2.2.2.2.2.2.2.2.2.2.2.2.2.1, none, none]) (sd_call (sar_cons (SD.sr (sd_LF (sl_fmap (sl_seq (sd_slT (SD.sr (sd_var rfl)) so_none (so_some (SD.sr (sd_op (SD.sr (sd_var rfl)) (SD.sr sd_c)))))) rfl (fun x16 => (sg_n (φ := fun one => [some (.tab Pt), some feed, some (.dat turn), some (.dat p10.1), some (.dat s6.1), some (.dat k_1), some (.dat p10.2.1), some (.dat p10.2.2.1), some (.obj (.lst s11)), j2.2.2.2.2.2.2.2.1, j2.2.2.2.2.2.2.2.2.1, j2.2.2.2.2.2.2.2.2.2.1, j2.2.2.2.2.2.2.2.2.2.2.1, j2.2.2.2.2.2.2.2.2.2.2.2.1, j2.2.2.2.2.2.2.2.2.2.2.2.2.1, j2.2.2.2.2.2.2.2.2.2.2.2.2.2.2.2, j2.2.2.2.2.2.2.2.2.2.2.2.2.2.1, j2.2.2.2.2.2.2.2.2.2.2.2.2.2.2.1, some (.dat one), none]) fun _ => rfl)) (fun one => (sb_B (sd_op (SD.sr (sd_op (SD.sr (sd_op (SD.sr (sd_var rfl)) (SD.sr (sd_var rfl)))) (SD.sr (sd_var rfl)))) (SD.sr (sd_var rfl))))) (fun one => (sd_var rfl)) (fun _ => rfl)))) sar_nil)) rfl (fun _ => rfl) (fun due_1 =>
 (ss_lp due_1 (some (.dat k_1)) rfl rfl))))) (fun s11 j12 =>
 (ss_assoc (ss_if (sb_or (sb_B (sd_op (SD.sr (sd_call (sar_cons (SD.sr (sd_fn0 (α := Dt × Dt) (p10.1, p10.2.2.1) (sp_A rfl sp_nil) (sp_A rfl sp_nil) ⟨rfl, rfl, rfl, rfl⟩ (fun _ => ⟨rfl, rfl⟩))) sar_nil))) (SD.sr (sd_call (sar_cons (SD.sr (sd_call (sar_cons (sr_var rfl) sar_nil))) sar_nil))))) (sb_B (sd_op (SD.sr (sd_fn0 (α := Dt × Dt) (p10.1, p10.2.2.1) sp_nil (sp_A rfl (sp_A rfl sp_nil)) ⟨rfl, rfl, rfl, rfl⟩ (fun _ => ⟨rfl, rfl⟩))) (SD.sr (sd_call (sar_cons (sr_var rfl) sar_nil))))))
 (ss_ret (fun d => Lp.rt d) sd_c (fun _ => rfl) rfl)
 (ss_sk (ss_assoc (ss_par (env' := fun p17 => [some (.tab Pt), some feed, some (.dat turn), some (.dat p10.1), some (.dat s6.1), j12, some (.dat p10.2.1), some (.dat p10.2.2.1), some (.obj (.lst s11)), some (.dat p17.1), some (.dat p17.2.1), j2.2.2.2.2.2.2.2.2.2.1, j2.2.2.2.2.2.2.2.2.2.2.1, j2.2.2.2.2.2.2.2.2.2.2.2.1, j2.2.2.2.2.2.2.2.2.2.2.2.2.1, j2.2.2.2.2.2.2.2.2.2.2.2.2.2.2.2, j2.2.2.2.2.2.2.2.2.2.2.2.2.2.1, j2.2.2.2.2.2.2.2.2.2.2.2.2.2.2.1, none, none]) (sp_D (sd_fn0 (α := Dt × Dt × Dt) (p10.1, p10.2.1, p10.2.2.1) (sp_A rfl sp_nil) (sp_A rfl (sp_A rfl sp_nil)) ⟨rfl, rfl, rfl, rfl⟩ (fun _ => ⟨rfl, rfl⟩)) (sp_D (sd_op (SD.sr (sd_LF (sl_fmapV rfl (by decide) rfl (fun x19 => (sg_n (φ := fun one_1 => [some (.tab Pt), some feed, some (.dat turn), some (.dat p10.1), some (.dat s6.1), j12, some (.dat p10.2.1), some (.dat p10.2.2.1), some (.obj (.lst s11)), j2.2.2.2.2.2.2.2.1, j2.2.2.2.2.2.2.2.2.1, j2.2.2.2.2.2.2.2.2.2.1, j2.2.2.2.2.2.2.2.2.2.2.1, j2.2.2.2.2.2.2.2.2.2.2.2.1, j2.2.2.2.2.2.2.2.2.2.2.2.2.1, j2.2.2.2.2.2.2.2.2.2.2.2.2.2.2.2, j2.2.2.2.2.2.2.2.2.2.2.2.2.2.1, j2.2.2.2.2.2.2.2.2.2.2.2.2.2.2.1, some (.dat one_1), none]) fun _ => rfl)) (fun one_1 => (sb_B (sd_op (SD.sr (sd_var rfl)) (SD.sr (sd_var rfl))))) (fun one_1 => (sd_var rfl)) (fun _ => rfl)))) (SD.sr (sd_LF (sl_lst sa_nil)))) sp_nil)) (fun _ _ => rfl) (fun p17 =>
 (ss_assoc (ss_set (env' := fun again => [some (.tab Pt), some feed, some (.dat turn), some (.dat p10.1), some (.dat s6.1), j12, some (.dat p10.2.1), some (.dat p10.2.2.1), some (.obj (.lst s11)), some (.dat p17.1), some (.dat p17.2.1), some (.dat again), j2.2.2.2.2.2.2.2.2.2.2.1, j2.2.2.2.2.2.2.2.2.2.2.2.1, j2.2.2.2.2.2.2.2.2.2.2.2.2.1, j2.2.2.2.2.2.2.2.2.2.2.2.2.2.2.2, j2.2.2.2.2.2.2.2.2.2.2.2.2.2.1, j2.2.2.2.2.2.2.2.2.2.2.2.2.2.2.1, none, none]) (sd_fn0 (α := Dt × Dt × Dt) (p10.1, p10.2.1, p10.2.2.1) sp_nil (sp_A rfl (sp_A rfl (sp_A rfl sp_nil))) ⟨rfl, rfl, rfl, rfl⟩ (fun _ => ⟨rfl, rfl⟩)) (fun _ => rfl) (fun again =>
 (ss_assoc (ss_if (sb_or (sb_B (sd_op (SD.sr (sd_op (SD.sr (sd_var rfl)) (SD.sr sd_c))) (SD.sr (sd_var rfl)))) (sb_B (sd_op (SD.sr (sd_op (SD.sr (sd_var rfl)) (SD.sr sd_c))) (SD.sr (sd_var rfl)))))
 (ss_ret (fun d => Lp.rt d) sd_c (fun _ => rfl) rfl)
 (ss_sk (ss_assoc (ss_set (env' := fun things => [some (.tab Pt), some feed, some (.dat turn), some (.dat p10.1), some (.dat s6.1), j12, some (.dat p10.2.1), some (.dat p10.2.2.1), some (.obj (.lst s11)), some (.dat p17.1), some (.dat p17.2.1), some (.dat again), some (.dat things), j2.2.2.2.2.2.2.2.2.2.2.2.1, j2.2.2.2.2.2.2.2.2.2.2.2.2.1, j2.2.2.2.2.2.2.2.2.2.2.2.2.2.2.2, j2.2.2.2.2.2.2.2.2.2.2.2.2.2.1, j2.2.2.2.2.2.2.2.2.2.2.2.2.2.2.1, none, none]) (sd_LF (sl_lst (sa_cons (sd_var rfl) (sa_cons sd_c (sa_cons (sd_tup sa_nil) (sa_cons (sd_tup (sa_cons sd_c sa_nil)) (sa_cons (sd_tup (sa_cons sd_c (sa_cons sd_c (sa_cons sd_c sa_nil)))) (sa_cons (sd_LF (sl_lst (sa_cons sd_c (sa_cons sd_c sa_nil)))) (sa_cons (sd_tup (sa_cons sd_c (sa_cons sd_c sa_nil))) (sa_cons (sd_tup (sa_cons sd_c (sa_cons sd_c sa_nil))) (sa_cons (sd_tup (sa_cons (sd_un (SD.sr sd_c)) (sa_cons sd_c sa_nil))) (sa_cons (sd_tup (sa_cons sd_c (sa_cons (sd_un (SD.sr sd_c)) sa_nil))) (sa_cons sd_c sa_nil))))))))))))) (fun _ => rfl) (fun things =>
 (ss_assoc (ss_for (φ := fun (s20 : Dt) (j21 : Option Dv) => [some (.tab Pt), some feed, some (.dat turn), some (.dat p10.1), some (.dat s6.1), j12, some (.dat p10.2.1), some (.dat p10.2.2.1), some (.obj (.lst s11)), some (.dat p17.1), some (.dat p17.2.1), some (.dat again), some (.dat s20), j21, j2.2.2.2.2.2.2.2.2.2.2.2.2.1, j2.2.2.2.2.2.2.2.2.2.2.2.2.2.2.2, j2.2.2.2.2.2.2.2.2.2.2.2.2.2.1, j2.2.2.2.2.2.2.2.2.2.2.2.2.2.2.1, none, none]) things j2.2.2.2.2.2.2.2.2.2.2.2.1 (sl_rng (sd_op (SD.sr (sd_call (sar_cons (SD.sr (sd_var rfl)) sar_nil))) (SD.sr sd_c))) rfl (fun s20 j21 x23 => (sg_n (φ := fun first => [some (.tab Pt), some feed, some (.dat turn), some (.dat p10.1), some (.dat s6.1), j12, some (.dat p10.2.1), some (.dat p10.2.2.1), some (.obj (.lst s11)), some (.dat p17.1), some (.dat p17.2.1), some (.dat again), some (.dat s20), some (.dat first), j2.2.2.2.2.2.2.2.2.2.2.2.2.1, j2.2.2.2.2.2.2.2.2.2.2.2.2.2.2.2, j2.2.2.2.2.2.2.2.2.2.2.2.2.2.1, j2.2.2.2.2.2.2.2.2.2.2.2.2.2.2.1, none, none]) fun _ => rfl)) (fun s20 j21 first => (ss_end
 (ss_set (env' := fun things_1 => [some (.tab Pt), some feed, some (.dat turn), some (.dat p10.1), some (.dat s6.1), j12, some (.dat p10.2.1), some (.dat p10.2.2.1), some (.obj (.lst s11)), some (.dat p17.1), some (.dat p17.2.1), some (.dat again), some (.dat things_1), some (.dat first), j2.2.2.2.2.2.2.2.2.2.2.2.2.1, j2.2.2.2.2.2.2.2.2.2.2.2.2.2.2.2, j2.2.2.2.2.2.2.2.2.2.2.2.2.2.1, j2.2.2.2.2.2.2.2.2.2.2.2.2.2.2.1, none, none]) (sd_op (SD.sr (sd_var rfl)) (SD.sr (sd_LF (sl_map (sl_rng (sd_op (SD.sr (sd_call (sar_cons (SD.sr (sd_var rfl)) sar_nil))) (SD.sr sd_c))) rfl (fun x25 => (sg_n (φ := fun last => [some (.tab Pt), some feed, some (.dat turn), some (.dat p10.1), some (.dat s6.1), j12, some (.dat p10.2.1), some (.dat p10.2.2.1), some (.obj (.lst s11)), some (.dat p17.1), some (.dat p17.2.1), some (.dat again), some (.dat s20), some (.dat first), j2.2.2.2.2.2.2.2.2.2.2.2.2.1, j2.2.2.2.2.2.2.2.2.2.2.2.2.2.2.2, j2.2.2.2.2.2.2.2.2.2.2.2.2.2.1, j2.2.2.2.2.2.2.2.2.2.2.2.2.2.2.1, none, some (.dat last)]) fun _ => rfl)) (fun last => (sd_tup (sa_cons (sd_var rfl) (sa_cons (sd_var rfl) sa_nil)))) (fun _ => rfl))))) (fun _ => rfl) (fun things_1 =>
 (ss_lp things_1 (some (.dat first)) rfl rfl))))) (fun s20 j21 =>
 (ss_assoc (ss_forR (φ := fun (s26 : Unit) (j27 : Option Dv × Option Dv × Option Dv × Option Dv × Option Dv) => [some (.tab Pt), some feed, some (.dat turn), some (.dat p10.1), some (.dat s6.1), j12, some (.dat p10.2.1), some (.dat p10.2.2.1), j27.2.2.1, some (.dat p17.1), some (.dat p17.2.1), some (.dat again), some (.dat s20), j21, j27.1, j27.2.1, j27.2.2.2.1, j27.2.2.2.2, none, none]) () (j2.2.2.2.2.2.2.2.2.2.2.2.2.1, j2.2.2.2.2.2.2.2.2.2.2.2.2.2.2.2, some (.obj (.lst s11)), j2.2.2.2.2.2.2.2.2.2.2.2.2.2.1, j2.2.2.2.2.2.2.2.2.2.2.2.2.2.2.1) (fun b => Lp.rt b) (κr := fun (b : Dt) => Kd.rt 0 (.dat b) []) (fun _ => ⟨_, _, _, rfl⟩) (fun _ => rfl) (sl_seq (sd_var rfl)) rfl (fun s26 j27 x29 => (sg_n (φ := fun stuff => [some (.tab Pt), some feed, some (.dat turn), some (.dat p10.1), some (.dat s6.1), j12, some (.dat p10.2.1), some (.dat p10.2.2.1), j27.2.2.1, some (.dat p17.1), some (.dat p17.2.1), some (.dat again), some (.dat s20), j21, some (.dat stuff), j27.2.1, j27.2.2.2.1, j27.2.2.2.2, none, none]) fun _ => rfl)) (fun s26 j27 stuff => (ss_end
 (ss_assoc (ss_par (env' := fun p30 => [some (.tab Pt), some feed, some (.dat turn), some (.dat p10.1), some (.dat s6.1), j12, some (.dat p10.2.1), some (.dat p10.2.2.1), some (.dat p30.2.1), some (.dat p17.1), some (.dat p17.2.1), some (.dat again), some (.dat s20), j21, some (.dat stuff), some (.dat p30.1), j27.2.2.2.1, j27.2.2.2.2, none, none]) (sp_D (sd_call (sar_cons (SD.sr (sd_tup (sa_cons (sd_var rfl) (sa_cons (sd_var rfl) sa_nil)))) sar_nil)) (sp_D (sd_call (sar_cons (SD.sr (sd_fn0 (α := Dt × Dt × Dt × Dt) (p10.1, stuff, p10.2.1, p10.2.2.1) (sp_A rfl (sp_A rfl (sp_A rfl (sp_A rfl sp_nil)))) sp_nil ⟨rfl, rfl, rfl, rfl⟩ (fun _ => ⟨rfl, rfl⟩))) sar_nil)) sp_nil)) (fun _ _ => rfl) (fun p30 =>
 (ss_assoc (ss_set (env' := fun told => [some (.tab Pt), some feed, some (.dat turn), some (.dat p10.1), some (.dat s6.1), j12, some (.dat p10.2.1), some (.dat p10.2.2.1), some (.dat p30.2.1), some (.dat p17.1), some (.dat p17.2.1), some (.dat again), some (.dat s20), j21, some (.dat stuff), some (.dat p30.1), some (.dat told), j27.2.2.2.2, none, none]) (sd_lam rfl (fun _ => (sdx_fn0 (α := Dt × Dt × Dt × Dt) (p10.1, stuff, p10.2.1, p10.2.2.1) (sp_A rfl (sp_A rfl sp_nil)) (sp_A rfl (sp_A rfl sp_nil)) ⟨rfl, rfl, rfl, rfl⟩ (fun _ => ⟨rfl, rfl⟩)))) (fun _ => rfl) (fun told =>
 (ss_assoc (ss_set (env' := fun more => [some (.tab Pt), some feed, some (.dat turn), some (.dat p10.1), some (.dat s6.1), j12, some (.dat p10.2.1), some (.dat p10.2.2.1), some (.dat p30.2.1), some (.dat p17.1), some (.dat p17.2.1), some (.dat again), some (.dat s20), j21, some (.dat stuff), some (.dat p30.1), some (.dat told), some (.dat more), none, none]) (sd_lam rfl (fun _ => (sdx_fn0 (α := Dt × Dt × Dt × Dt) (p10.1, stuff, p10.2.1, p10.2.2.1) sp_nil (sp_A rfl (sp_A rfl (sp_A rfl (sp_A rfl sp_nil)))) ⟨rfl, rfl, rfl, rfl⟩ (fun _ => ⟨rfl, rfl⟩)))) (fun _ => rfl) (fun more =>
 (ss_if (sb_or (sb_B (sd_op (SD.sr (sd_call (sar_cons (SD.sr (sd_var rfl)) sar_nil))) (SD.sr (sd_var rfl)))) (sb_or (sb_B (sd_op (SD.sr (sd_call (sar_cons (SD.sr (sd_var rfl)) sar_nil))) (SD.sr (sd_var rfl)))) (sb_B (sd_op (SD.sr (sd_call (sar_cons (SD.sr (sd_tup (sa_cons (sd_var rfl) (sa_cons (sd_var rfl) sa_nil)))) sar_nil))) (SD.sr (sd_var rfl))))))
 (ss_ret (fun d => Lp.rt d) sd_c (fun _ => rfl) rfl)
 (ss_sk (ss_lp (Lp.nx ()) (some (.dat stuff), some (.dat p30.1), some (.dat p30.2.1), some (.dat told), some (.dat more)) rfl rfl)))))))))))))) (fun s26 j27 =>
 (ss_if (sb_and (sb_B (sd_op (SD.sr (sd_var rfl)) (SD.sr sd_c))) (sb_B (sd_op (SD.sr (sd_op (SD.sr (sd_fn0 (α := Dt × Dt × Dt × Dt) (p10.1, p17.1, p10.2.1, p10.2.2.1) (sp_A rfl (sp_A rfl (sp_A rfl (sp_A rfl sp_nil)))) sp_nil ⟨rfl, rfl, rfl, rfl⟩ (fun _ => ⟨rfl, rfl⟩))) (SD.sr sd_c))) (SD.sr sd_c))))
 (ss_ret (fun d => Lp.rt d) sd_c (fun _ => rfl) rfl)
 (ss_sk (ss_lp (Lp.nx ()) (some (.dat turn), some (.dat p10.1), some (.dat s6.1), j12, some (.dat p10.2.1), some (.dat p10.2.2.1), j27.2.2.1, some (.dat p17.1), some (.dat p17.2.1), some (.dat again), some (.dat s20), j21, j27.1, j27.2.2.2.1, j27.2.2.2.2, j27.2.1) rfl rfl))))))))))))))))))))))))))))))))))))))))) (fun s1 j2 =>
 (ss_ret (fun d => d) sd_c (fun _ => rfl) rfl))))
end K48
namespace Gd
open PySem PySem.Spec L2 Dx Fx Dw
section
variable {α : Type} {Q : α → Prop} {E : XP}
theorem w_ifA {c : Tr Bool} {m n : Tr α} (hc : c.wp (fun _ => True) E) (hm : m.wp Q E) (hn : n.wp Q E) : (ifT c m n).wp Q E :=
  w_if (P := True) (P' := True) (Tr.post hc fun _ _ => ⟨fun _ => trivial, fun _ => trivial⟩) (fun _ => hm) (fun _ => hn)
end
inductive Gact where
  | send (to : Sm) (tag : Str) (ss : List Sm)
  | make (nm beh : Str) (ss : List Sm) (how : Str)
  | join (w : Str) (s : Sm)
  | trap (s : Sm)
  | name (w : Str) (s : Sm)
  | ask (nm w : Str)
  | tell (s : Sm)
def Gact.d : Gact → Dt
  | .send to tag ss => .tuple [.str "send", to.d, .str tag, smsD ss]
  | .make nm beh ss how => .tuple [.str "make", .str nm, .str beh, smsD ss, .str how]
  | .join w s => .tuple [.str w, s.d]
  | .trap s => .tuple [.str "trap", s.d]
  | .name w s => .tuple [.str "name", .str w, s.d]
  | .ask nm w => .tuple [.str "ask", .str nm, .str w]
  | .tell s => .tuple [.str "tell", s.d]
inductive Gnx where
  | go (beh : Str) (ss : List Sm)
  | fin (s : Sm)
def Gnx.d : Gnx → Dt
  | .go beh ss => .tuple [.str "go", .str beh, smsD ss]
  | .fin s => .tuple [.str "end", s.d]
structure Garm where
  tag : Str
  names : List Str
  guard : Sm
  acts : List Gact
  nx : Gnx
def Garm.d (x : Garm) : Dt := .tuple [.str x.tag, .tuple (nmD x.names), x.guard.d, .tuple (x.acts.map Gact.d), x.nx.d]
structure Glate where
  wait : Sm
  acts : List Gact
  nx : Gnx
def Glate.d (x : Glate) : Dt := .tuple [x.wait.d, .tuple (x.acts.map Gact.d), x.nx.d]
def lateD : Option Glate → Dt
  | none => .none
  | some l => l.d
structure Gbh where
  name : Str
  params : List Str
  arms : List Garm
  late : Option Glate
def Gbh.cst (b : Gbh) : Cst := (b.name, b.params)
def Gbh.d (b : Gbh) : Dt := .tuple [.str b.name, .tuple (nmD b.params), .tuple (b.arms.map Garm.d), lateD b.late]
def codeD (bs : List Gbh) : Dt := .tuple (bs.map Gbh.d)
def GPOOL : List Str := ["root", "pair", "pa", "clerk", "z", "plan", "keeper"]
def GPRM : List Str := ["n", "to", "k", "m"]
def BARE : List Str := ["n", "who", "x", "y"]
def SENDT : List Str := ["add", "ping", "stop"]
def WRD : List Str := ["red", "a", "done"]
def Gck (c : Cst) : Prop := c.1 ∈ GPOOL ∧ ∃ j, c.2 = GPRM.take j
def Gcs (cs : List Cst) : Prop := 1 ≤ cs.length ∧ cs.length ≤ 5 ∧ (cs.map (·.1)).Pairwise leS ∧ (cs.map (·.1)).Nodup ∧ ∀ c ∈ cs, Gck c
/-- a behaviour of the cast, with as many sums as it has params -/
def Called (cs : List Cst) (beh : Str) (ss : List Sm) : Prop := ∃ ps, (beh, ps) ∈ cs ∧ ss.length = ps.length
def Gact.ok (cs : List Cst) : Gact → Prop
  | .send to tag ss => SmOk 1 to ∧ tag ∈ SENDT ∧ ss.length ≤ 3 ∧ SmsOk 2 ss
  | .make nm beh ss how => nm ∈ (["kid", "kin", "to"] : List Str) ∧ Called cs beh ss ∧ SmsOk 2 ss ∧ how ∈ (["free", "linked", "watched"] : List Str)
  | .join w s => w ∈ (["link", "unlink", "watch"] : List Str) ∧ SmOk 1 s
  | .trap s => SmOk 1 s
  | .name w s => w ∈ WRD ∧ SmOk 1 s
  | .ask nm w => nm = "who" ∧ w ∈ WRD
  | .tell s => SmOk 2 s
def Gnx.ok (cs : List Cst) : Gnx → Prop
  | .go beh ss => Called cs beh ss ∧ SmsOk 2 ss
  | .fin s => SmOk 1 s
def ActsOk (cs : List Cst) (as : List Gact) : Prop := as.length ≤ 6 ∧ ∀ a ∈ as, a.ok cs
structure Garm.ok (cs : List Cst) (x : Garm) : Prop where
  tag : x.tag ∈ TAGS.map (·.1)
  names : x.names.Sublist BARE
  guard : SmOk 2 x.guard
  acts : ActsOk cs x.acts
  nx : x.nx.ok cs
structure Glate.ok (cs : List Cst) (x : Glate) : Prop where
  wait : SmOk 1 x.wait
  acts : ActsOk cs x.acts
  nx : x.nx.ok cs
structure Gbh.ok (cs : List Cst) (b : Gbh) : Prop where
  cst : Gck b.cst
  len : b.arms.length ≤ 4
  arms : ∀ x ∈ b.arms, x.ok cs
  late : ∀ l, b.late = some l → l.ok cs
structure CodeOk (bs : List Gbh) : Prop where
  cs : Gcs (bs.map Gbh.cst)
  all : ∀ b ∈ bs, b.ok (bs.map Gbh.cst)
theorem GPOOL_wd : ∀ s ∈ GPOOL, WdOk s := by decide +kernel
theorem GPRM_wd : ∀ s ∈ GPRM, WdOk s := by decide +kernel
theorem BARE_wd : ∀ s ∈ BARE, WdOk s := by decide +kernel
theorem SENDT_wd : ∀ s ∈ SENDT, WdOk s := by decide +kernel
theorem WRD_wd : ∀ s ∈ WRD, WdOk s := by decide +kernel
theorem TAG_wd : ∀ s ∈ TAGS.map (·.1), WdOk s := by decide +kernel
theorem Gck.wd {c : Cst} (h : Gck c) : WdOk c.1 := GPOOL_wd _ h.1
theorem Gck.nm {c : Cst} (h : Gck c) : NmOk 4 c.2 := by
  obtain ⟨j, e⟩ := h.2
  rw [e]
  exact ⟨fun s hs => GPRM_wd s (List.mem_of_mem_take hs), by simp [GPRM]; omega⟩
theorem Gck.nd {c : Cst} (h : Gck c) : c.2.Nodup := by
  obtain ⟨j, e⟩ := h.2
  rw [e]
  exact List.Nodup.sublist (List.take_sublist _ _) (by decide +kernel)
theorem Called.len {cs : List Cst} {beh : Str} {ss : List Sm} (hc : Gcs cs) (h : Called cs beh ss) : ss.length ≤ 4 := by
  obtain ⟨ps, h1, h2⟩ := h
  have := (hc.2.2.2.2 _ h1).nm.2
  simp only at this
  omega
theorem Called.wd {cs : List Cst} {beh : Str} {ss : List Sm} (hc : Gcs cs) (h : Called cs beh ss) : WdOk beh := by
  obtain ⟨ps, h1, h2⟩ := h
  exact (hc.2.2.2.2 _ h1).wd
theorem bare_nm {ns : List Str} (h : ns.Sublist BARE) : NmOk 4 ns := ⟨fun s hs => BARE_wd s (h.subset hs), h.length_le⟩
theorem bare_nd {ns : List Str} (h : ns.Sublist BARE) : ns.Nodup := List.Nodup.sublist h (by decide +kernel)
theorem Gact.nc {cs : List Cst} {a : Gact} (hc : Gcs cs) (h : a.ok cs) : Nc 8 8000 a.d := by
  have c1 : cz 1 = 780 := rfl
  have c2 : cz 2 = 1680 := rfl
  cases a with
  | send to tag ss => exact .tup (k := 6) (.cons (Nc.str (x := "send") (by decide +kernel)) (.cons (h.1.nc.mono (m := 780)) (.cons (Nc.str (SENDT_wd _ h.2.1)) (.cons ((h.2.2.2.nc h.2.2.1).mono (m := 5049)) .nil (Nat.le_refl _)) (Nat.le_refl _)) (Nat.le_refl _)) (Nat.le_refl _))
  | make nm beh ss how =>
    have w1 : ∀ s ∈ (["kid", "kin", "to"] : List Str), WdOk s := by decide +kernel
    have w2 : ∀ s ∈ (["free", "linked", "watched"] : List Str), WdOk s := by decide +kernel
    exact .tup (k := 6) (.cons (Nc.str (x := "make") (by decide +kernel)) (.cons (Nc.str (w1 _ h.1)) (.cons (Nc.str (h.2.1.wd hc)) (.cons ((h.2.2.1.nc (h.2.1.len hc)).mono (m := 6731)) (.cons (Nc.str (w2 _ h.2.2.2)) .nil (Nat.le_refl _)) (Nat.le_refl _)) (Nat.le_refl _)) (Nat.le_refl _)) (Nat.le_refl _))
  | join w s =>
    have w1 : ∀ s ∈ (["link", "unlink", "watch"] : List Str), WdOk s := by decide +kernel
    exact .tup (k := 6) (.cons (Nc.str (w1 _ h.1)) (.cons (h.2.nc.mono (m := 780)) .nil (Nat.le_refl _)) (Nat.le_refl _))
  | trap s => exact .tup (k := 6) (.cons (Nc.str (x := "trap") (by decide +kernel)) (.cons ((SmOk.nc (m := 1) h).mono (m := 780)) .nil (Nat.le_refl _)) (Nat.le_refl _))
  | name w s => exact .tup (k := 6) (.cons (Nc.str (x := "name") (by decide +kernel)) (.cons (Nc.str (WRD_wd _ h.1)) (.cons (h.2.nc.mono (m := 780)) .nil (Nat.le_refl _)) (Nat.le_refl _)) (Nat.le_refl _))
  | ask nm w =>
    obtain ⟨rfl, hw⟩ := h
    exact .tup (k := 6) (.cons (Nc.str (x := "ask") (by decide +kernel)) (.cons (Nc.str (x := "who") (by decide +kernel)) (.cons (Nc.str (WRD_wd _ hw)) .nil (Nat.le_refl _)) (Nat.le_refl _)) (Nat.le_refl _))
  | tell s => exact .tup (k := 6) (.cons (Nc.str (x := "tell") (by decide +kernel)) (.cons ((SmOk.nc (m := 2) h).mono (m := 1680)) .nil (Nat.le_refl _)) (Nat.le_refl _))
theorem Gnx.nc {cs : List Cst} {a : Gnx} (hc : Gcs cs) (h : a.ok cs) : Nc 8 8000 a.d := by
  have c1 : cz 1 = 780 := rfl
  have c2 : cz 2 = 1680 := rfl
  cases a with
  | go beh ss => exact .tup (k := 6) (.cons (Nc.str (x := "go") (by decide +kernel)) (.cons (Nc.str (h.1.wd hc)) (.cons ((h.2.nc (h.1.len hc)).mono (m := 6731)) .nil (Nat.le_refl _)) (Nat.le_refl _)) (Nat.le_refl _))
  | fin s => exact .tup (k := 6) (.cons (Nc.str (x := "end") (by decide +kernel)) (.cons ((SmOk.nc (m := 1) h).mono (m := 780)) .nil (Nat.le_refl _)) (Nat.le_refl _))
theorem acts_nc {cs : List Cst} {as : List Gact} (hc : Gcs cs) (h : ActsOk cs as) : Nc 9 48020 (.tuple (as.map Gact.d)) :=
  .tup (NcA.all (n := 8000) (b := 6) (m := 48012) (fun x hx => by obtain ⟨a, ha, rfl⟩ := List.mem_map.mp hx; exact Gact.nc hc (h.2 a ha)) (by simp; exact h.1) (by omega))
theorem nm_nc {m : Nat} {ns : List Str} (h : NmOk m ns) : Nc 1 (104 * m + 3) (.tuple (nmD ns)) := .tup (h.nc 0)
theorem Garm.nc {cs : List Cst} {x : Garm} (hc : Gcs cs) (h : x.ok cs) : Nc 11 60000 x.d := by
  have c2 : cz 2 = 1680 := rfl
  exact .tup (k := 9) (.cons (Nc.str (TAG_wd _ h.tag)) (.cons ((nm_nc (bare_nm h.names)).mono (m := 419)) (.cons (h.guard.nc.mono (m := 1680)) (.cons ((acts_nc hc h.acts).mono (m := 48020)) (.cons ((Gnx.nc hc h.nx).mono (m := 8000)) .nil (Nat.le_refl _)) (Nat.le_refl _)) (Nat.le_refl _)) (Nat.le_refl _)) (Nat.le_refl _))
theorem Glate.nc {cs : List Cst} {x : Glate} (hc : Gcs cs) (h : x.ok cs) : Nc 11 60000 x.d := by
  have c2 : cz 1 = 780 := rfl
  exact .tup (k := 9) (.cons (h.wait.nc.mono (m := 780)) (.cons ((acts_nc hc h.acts).mono (m := 48020)) (.cons ((Gnx.nc hc h.nx).mono (m := 8000)) .nil (Nat.le_refl _)) (Nat.le_refl _)) (Nat.le_refl _))
theorem Gbh.nc {cs : List Cst} {b : Gbh} (hc : Gcs cs) (h : b.ok cs) : Nc 13 310000 b.d := by
  have hl : Nc 11 60000 (lateD b.late) := by
    cases e : b.late with
    | none => exact (Nc.none (k := 11)).mono
    | some l => exact Glate.nc hc (h.late l e)
  have ha : Nc 12 240020 (.tuple (b.arms.map Garm.d)) := .tup (NcA.all (n := 60000) (b := 4) (m := 240008) (fun x hx => by obtain ⟨a, ha, rfl⟩ := List.mem_map.mp hx; exact Garm.nc hc (h.arms a ha)) (by simp; exact h.len) (by omega))
  exact .tup (k := 12) (.cons (Nc.str h.cst.wd) (.cons ((nm_nc h.cst.nm).mono (m := 419)) (.cons ha (.cons (hl.mono (m := 60000)) .nil (Nat.le_refl _)) (Nat.le_refl _)) (Nat.le_refl _)) (Nat.le_refl _))
theorem CodeOk.nc {bs : List Gbh} (h : CodeOk bs) : Nc 14 1550020 (codeD bs) :=
  .tup (NcA.all (n := 310000) (b := 5) (m := 1550010) (fun x hx => by obtain ⟨a, ha, rfl⟩ := List.mem_map.mp hx; exact Gbh.nc h.cs (h.all a ha)) (by simpa using h.cs.2.1) (by omega))
end Gd
namespace Dw
open PySem PySem.Spec L2 Dx
/-- the names in a sum are among these -/
def Sm.names (ns : List Str) : Sm → Prop
  | .of s => s ∈ ns
  | .dbl _ a b => a.names ns ∧ b.names ns
  | _ => True
end Dw
namespace Gd
open PySem PySem.Spec L2 Dx Fx Dw
theorem nm_cutS {ns : List Str} {lo hi : Option Int} {ct : List Dt} (h : cutD (nmD ns) lo hi = ct) : ∃ ms, ct = nmD ms ∧ ms.Sublist ns := by
  subst h
  refine ⟨cutD ns lo hi, by rw [nmD, cut_map]; rfl, ?_⟩
  unfold cutD
  exact (List.take_sublist _ _).trans (List.drop_sublist _ _)
theorem nm_fm (kp : Dt → Bool) (ns : List Str) : (nmD ns).filterMap (fun d => if kp d then some d else none) = nmD (ns.filter fun s => kp (.str s)) := by
  induction ns with
  | nil => rfl
  | cons s ns ih =>
    simp only [nmD, List.map_cons, List.filterMap_cons, List.filter_cons] at ih ⊢
    cases kp (.str s)
    · simpa using ih
    · simp only [if_true]; rw [ih]; rfl
theorem list_enc {γ : Type} {f : γ → Dt} {P : γ → Prop} : ∀ {ds : List Dt}, (∀ d ∈ ds, ∃ a, d = f a ∧ P a) → ∃ as : List γ, ds = as.map f ∧ ∀ a ∈ as, P a
  | [], _ => ⟨[], rfl, by simp⟩
  | d :: ds, h => by
    obtain ⟨a, e, p⟩ := h d (List.mem_cons_self ..)
    obtain ⟨as, es, ps⟩ := list_enc (ds := ds) fun x hx => h x (List.mem_cons_of_mem _ hx)
    exact ⟨a :: as, by rw [e, es]; rfl, fun x hx => by
      rcases List.mem_cons.mp hx with rfl | hx
      · exact p
      · exact ps x hx⟩
open PySem PySem.Spec L2 Dx Fx Dw
def keqOf (w : Str) : Dt → Bool
  | .str x => x == w
  | _ => false
open PySem PySem.Spec L2 Dx Fx Dw
def SrOk (el co : List Gbh) (r : Sr) : Prop := (∃ b ∈ el, b.name = r.name ∧ ∀ s ∈ r.sums, s.names b.params) ∧ (∃ b ∈ co, b.name = r.other ∧ b.params.length = r.sums.length) ∧ PsOk r.sums
def LrOk (r : Lr) : Prop := (r.tag, r.many) ∈ LKEYS ∧ r.other ∈ LOTH ∧ r.sums.length ≤ 4 ∧ PsOk r.sums ∧ ∀ s ∈ r.sums, s.names (ABCD.take r.many)
structure TabOk (el co : List Gbh) (st : List Sr) (lt : List Lr) : Prop where
  sub : (st.map Sr.name).Sublist (el.map Gbh.name)
  st : ∀ r ∈ st, SrOk el co r
  keys : (lt.map fun r => (r.tag, r.many)).Sublist LKEYS
  lt : ∀ r ∈ lt, LrOk r
structure Ged where
  code : List Gbh
  st : List Sr
  lt : List Lr
def Ged.d (e : Ged) : Dt := .tuple [codeD e.code, tbD e.st e.lt]
def libD (es : List Ged) : Dt := .tuple (es.map Ged.d)
def GLeads : List Ged → Prop
  | e :: f :: r => TabOk e.code f.code f.st f.lt ∧ GLeads (f :: r)
  | _ => True
theorem GLeads.snoc : ∀ {es : List Ged} {e f : Ged}, GLeads (es ++ [e]) → TabOk e.code f.code f.st f.lt → GLeads (es ++ [e] ++ [f])
  | [], e, f, _, h => ⟨h, trivial⟩
  | [x], e, f, l, h => ⟨l.1, h, trivial⟩
  | x :: y :: r, e, f, l, h => ⟨l.1, GLeads.snoc (es := y :: r) l.2 h⟩
structure LibOk (m : Nat) (es : List Ged) : Prop where
  pos : 1 ≤ es.length
  len : es.length ≤ m
  code : ∀ e ∈ es, CodeOk e.code
  first : ∃ e r, es = e :: r ∧ e.st = [] ∧ e.lt = []
  leads : GLeads es
theorem CodeOk.pos {bs : List Gbh} (h : CodeOk bs) : 1 ≤ bs.length := by have := h.cs.1; simpa using this
theorem CodeOk.five {bs : List Gbh} (h : CodeOk bs) : bs.length ≤ 5 := by have := h.cs.2.1; simpa using this
open PySem PySem.Spec L2 Dx Fx Dw
theorem cut_drop {α : Type} (xs : List α) (j : Nat) : cutD xs (some (j : Int)) none = xs.drop j := by
  unfold cutD
  rw [HT.sIx_nat, HT.sIx_none]
  by_cases h : j ≤ xs.length
  · rw [Nat.min_eq_left h, List.take_of_length_le (by simp)]
  · rw [Nat.min_eq_right (by omega), List.drop_of_length_le (by omega), List.drop_of_length_le (by omega)]; simp
theorem ixN_nat {n j : Nat} (h : j < n) : ixN n (j : Int) = some j := by
  unfold ixN
  rw [if_pos (by omega), if_pos (by omega)]
  simp
theorem atI_nat {α : Type} (xs : List α) (j : Nat) (h : j < xs.length) : atI xs (j : Int) = some xs[j] := by
  unfold atI
  rw [ixN_nat h]
  simp [List.getElem?_eq_getElem h]
end Gd
namespace K48
open PySem PySem.Spec L2 Dx Fx Dw
local macro_rules | `(tactic| walk_at "ws") => `(tactic| simp only [w_bnd, w_ret, w_lift, w_some, w_opT, w_uopT, w_consT, w_nilT, w_callT, w_tupT, w_lstT, w_isiT, w_tbT, w_bl, w_notT, w_bvT, w_pairT, w_unitT, w_need, w_un2, w_un3, w_un4, w_un5, w_un6, w_un7, w_oNT, w_oST, w_asI, w_asL, w_asT, w_slTT, w_slLT, w_catT, w_revT, w_seqT, w_sqT, w_sqL, w_rngT, w_zipT, w_zpT, w_appT, w_extT, w_extTT, w_lputT, w_sortLT, w_sortKT, w_dictT, w_getT2, w_getT, w_putT, w_strK, w_lenN, w_mapN, w_fmapN, w_addI, w_subI, w_negI, w_ltI, w_leI, w_gtI, w_geI, w_eqI, w_neI, w_eqS, w_neS, w_lenL, w_lenT, w_ttL, w_ttT, w_tiB, w_max, w_min, w_isNN, w_notNN, w_isB, w_isntB, w_condT, w_condF, w_and, w_or, w_pow6, w_sumL, w_sumR, w_enumT, w_enumLT, w_sortIT, w_sortRT, w_lrngT, w_getNT, w_getN1T, w_pConsT, w_pNilT, w_dispT, w_tixT, w_rng2T, w_keepT])
local macro_rules | `(tactic| walk_at "w") => `(tactic| repeat (first
  | walk_at "ws"
  | with_reducible refine w_draw (by omega) (by omega) fun (k : Int) (k0 : 0 ≤ k) (k1 : k < _) => ?_
  | ((with_reducible refine i_fdvI ?_ ?_); · exact ⟨by omega, by omega⟩)
  | ((with_reducible refine i_modI ?_ ?_); · omega)
  | ((with_reducible refine i_mulI ?_ ?_); · (constructor <;> omega))
  | ((with_reducible apply w_ixT); · exact rfl)
  | ((with_reducible apply w_ixL); · exact rfl)))
local macro_rules | `(tactic| walk_at "wx") => `(tactic| refine w_ixM (by omega) (by simp only [List.length_cons, List.length_nil]; omega) ?_)
local macro_rules | `(tactic| walk_at "v") => `(tactic| repeat (first
  | with_reducible refine Sw.imp ?_
  | with_reducible refine w_draw (by omega) (by omega) fun (k : Int) (k0 : 0 ≤ k) (k1 : k < _) => ?_
  | ((with_reducible refine i_fdvI ?_ ?_); · exact ⟨by omega, by omega⟩)
  | ((with_reducible refine i_modI ?_ ?_); · omega)
  | ((with_reducible refine i_mulI ?_ ?_); · (constructor <;> omega))
  | ((with_reducible apply w_ixT); · exact rfl)
  | ((with_reducible apply w_ixL); · exact rfl)))
theorem repr_w {Q : Dt → Prop} {k n : Nat} {d : Dt} (h : Nc k n d) (hk : k ≤ 100 := by omega) (hn : n ≤ 16000000 := by omega) : wr (reprD [d]) Q = Q (.str d.shown) := by rw [h.repr hk hn]; rfl
def iL (L : List Int) : List Dt := L.map .int
theorem iL_len (L : List Int) : (iL L).length = L.length := List.length_map ..
theorem iL_at {L : List Int} {k : Nat} (h : k < L.length) : atI (iL L) (k : Int) = some (.int L[k]) := by
  rw [Gd.atI_nat _ _ (by rw [iL_len]; exact h)]
  simp [iL]
def due (L : List Int) (w : Int) (k : Nat) : Nat := ((L.take (k + 1)).filter fun y => decide (L.getD k 0 - y < w)).length
theorem due_le (L : List Int) (w : Int) (k : Nat) : due L w k ≤ L.length := by
  unfold due
  exact Nat.le_trans (List.length_filter_le _ _) (by rw [List.length_take]; omega)
def dsL (L : List Int) (w : Int) (k : Nat) : List Int := (List.range k).map fun j => (due L w j : Nat)
theorem dsL_succ (L : List Int) (w : Int) (k : Nat) : dsL L w (k + 1) = dsL L w k ++ [((due L w k : Nat) : Int)] := by simp [dsL, List.range_succ]
theorem dsL_len (L : List Int) (w : Int) (k : Nat) : (dsL L w k).length = k := by simp [dsL]
theorem enum_drop {xs : List Dt} {k : Nat} (h : k < xs.length) : (enumD xs).drop k = .tuple [.int (k : Nat), xs[k]] :: (enumD xs).drop (k + 1) := by
  rw [List.drop_eq_getElem_cons (by rw [enumD_len]; exact h)]
  congr 1
  simp [enumD]
theorem small_len {n : Nat} (h : n ≤ 100) : n ≤ sizeLine := by rw [show sizeLine = 16777216 from sizeLine_eq]; omega
theorem small_lt {n : Nat} (h : n ≤ 100) : n < sizeLine := by rw [show sizeLine = 16777216 from sizeLine_eq]; omega
theorem cnt_wp {E : XP} {M : List Int} {w x : Int} {f : Dt → Tr (Option Dt)} {Q : List Dt → Prop} (hf : ∀ y : Int, ∀ Q' : Option Dt → Prop, Q' (if x - y < w then some (.int y) else none) → (f (.int y)).wp Q' E) (h : Q (iL (M.filter fun y => decide (x - y < w)))) : (fmapT (iL M) f).wp Q E := by
  refine w_fmapE (fun d => match d with | .int y => if x - y < w then some (.int y) else none | _ => none) ?_ ?_
  · intro d hd Q' q
    obtain ⟨y, _, rfl⟩ := List.mem_map.mp hd
    exact hf y Q' q
  · have e : ∀ N : List Int, List.filterMap (fun d => match d with | PyData.int y => if x - y < w then some (PyData.int y) else none | _ => none) (iL N) = iL (N.filter fun y => decide (x - y < w)) := by
      intro N
      induction N with
      | nil => rfl
      | cons y N ih =>
        show List.filterMap _ (PyData.int y :: iL N) = _
        rw [List.filterMap_cons, List.filter_cons]
        by_cases c : x - y < w
        · simp only [if_pos c, decide_eq_true c, if_true]
          rw [ih]
          rfl
        · simp only [if_neg c, decide_eq_false c]
          rw [ih]
          rfl
    rw [e]
    exact h
theorem cut_k (L : List Int) (k : Nat) : cutD (iL L) none (some ((k : Int) + 1)) = iL (L.take (k + 1)) := by
  rw [show ((k : Int) + 1) = ((k + 1 : Nat) : Int) by push_cast; rfl, cut_take]
  simp [iL, List.map_take]
theorem getD_k {L : List Int} {k : Nat} (h : k < L.length) : L.getD k 0 = L[k] := by simp [List.getD, h]
theorem spaced_wp {E : XP} {L : List Int} {w : Int} {Q : Dt → Prop} (hl : L.length ≤ 20) (h : Q (.tuple (iL (dsL L w L.length)))) : (f_spaced (.tuple (iL L)) (.int w)).wp Q E := by
  unfold f_spaced
  walk_at "v"
  refine w_fold (I := fun ys s => ∃ k, k ≤ L.length ∧ ys = (enumD (iL L)).drop k ∧ s = iL (dsL L w k)) ⟨0, by omega, rfl, rfl⟩ ?_ ?_
  · rintro x ys s ⟨k, hk, ey, rfl⟩
    have hk' : k < L.length := by
      refine Nat.lt_of_not_le fun hge => ?_
      rw [List.drop_eq_nil_of_le (by rw [enumD_len, iL_len]; exact hge)] at ey
      cases ey
    rw [enum_drop (by rw [iL_len]; exact hk')] at ey
    simp only [List.cons.injEq] at ey
    obtain ⟨rfl, rfl⟩ := ey
    walk_at "v"
    have : (iL L)[k]'(by rw [iL_len]; exact hk') = .int L[k] := by simp [iL]
    simp only [this]
    walk_at "v"
    rw [cut_k]
    refine ⟨small_len (by rw [iL_len, List.length_take]; omega), ?_⟩
    refine cnt_wp (w := w) (x := L[k]) (fun y Q' q => ?_) ?_
    · walk_at "v"
      refine w_cond (fun c => ?_) (fun c => ?_)
      · walk_at "v"
        rwa [if_pos (of_decide_eq_true c)] at q
      · walk_at "v"
        rwa [if_neg (of_decide_eq_false c)] at q
    walk_at "v"
    refine ⟨small_lt (by rw [iL_len, dsL_len]; omega), ?_⟩
    walk_at "v"
    refine ⟨k + 1, hk', rfl, ?_⟩
    rw [dsL_succ, iL_len]
    unfold due
    rw [getD_k hk']
    simp [iL]
  · rintro s ⟨k, hk, ey, rfl⟩
    have : k = L.length := by
      refine Nat.le_antisymm hk (Nat.le_of_not_lt fun hlt => ?_)
      rw [enum_drop (by rw [iL_len]; exact hlt)] at ey
      cases ey
    subst this
    walk_at "v"
    exact h
open PySem PySem.Spec L2 Dx Fx Dw
def BrR (L : List Int) (w m : Int) (d : Dt) : Prop := (d = .none ∧ ∀ k, k < L.length → ((due L w k : Nat) : Int) ≤ m) ∨ ∃ k : Nat, k < L.length ∧ m < ((due L w k : Nat) : Int) ∧ d = .tuple [.int ((k : Int) - m), .int (k : Nat)]
theorem breach_wp {E : XP} {L : List Int} {w m : Int} (hl : L.length ≤ 20) : (f_breach_of (.tuple (iL L)) (.int m) (.int w)).wp (BrR L w m) E := by
  unfold f_breach_of
  walk_at "v"
  refine spaced_wp hl ?_
  walk_at "v"
  refine w_forR (I := fun ys s => ∃ k, k ≤ L.length ∧ ys = (enumD (iL (dsL L w L.length))).drop k ∧ ∀ j, j < k → ((due L w j : Nat) : Int) ≤ m) ⟨0, by omega, rfl, fun j h => by omega⟩ ?_ ?_
  · rintro x ys s ⟨k, hk, ey, hj⟩
    have hk' : k < L.length := by
      refine Nat.lt_of_not_le fun hge => ?_
      rw [List.drop_eq_nil_of_le (by rw [enumD_len, iL_len, dsL_len]; exact hge)] at ey
      cases ey
    rw [enum_drop (by rw [iL_len, dsL_len]; exact hk')] at ey
    simp only [List.cons.injEq] at ey
    obtain ⟨rfl, rfl⟩ := ey
    have e : (iL (dsL L w L.length))[k]'(by rw [iL_len, dsL_len]; exact hk') = .int (due L w k : Nat) := by simp [iL, dsL]
    simp only [e]
    walk_at "v"
    by_cases c : m < ((due L w k : Nat) : Int)
    · refine w_ifT (by walk_at "v"; exact decide_eq_true c) ?_
      walk_at "v"
      exact .inr ⟨k, hk', c, rfl⟩
    · refine w_ifF (by walk_at "v"; exact decide_eq_false c) ?_
      walk_at "v"
      refine ⟨k + 1, hk', rfl, fun j h => ?_⟩
      rcases Nat.lt_succ_iff_lt_or_eq.mp h with h | rfl
      · exact hj j h
      · omega
  · rintro s ⟨k, hk, ey, hj⟩
    have : k = L.length := by
      refine Nat.le_antisymm hk (Nat.le_of_not_lt fun hlt => ?_)
      rw [enum_drop (by rw [iL_len, dsL_len]; exact hlt)] at ey
      cases ey
    subst this
    dsimp only [sumE]
    walk_at "v"
    exact .inl ⟨rfl, hj⟩
abbrev NP (w : Str) : Ex := ⟨"NoPaper", [("at", .int (-1)), ("word", .str w)]⟩
def paperD (w : Str) : Dt := .tuple [.str "paper", .str w, .int (-1)]
theorem eqB3 (a b c x y z : Bool) {Q : Dt → Prop} (h : Q (.bool ((a == x) && (b == y) && (c == z)))) : wr (eqD (.list [.bool a, .bool b, .bool c]) (.list [.bool x, .bool y, .bool z])) Q := by
  rw [eqD_of (by rfl) (by rfl) (Nat.le_of_ble_eq_true rfl)]
  have : PyData.eqv (.list [.bool a, .bool b, .bool c]) (.list [.bool x, .bool y, .bool z]) = ((a == x) && (b == y) && (c == z)) := by
    simp only [PyData.eqv, PyData.eqvAll, Bool.and_true, Bool.and_assoc]
  rw [this]
  exact h
theorem xis_wp {E : XP} {sub : Str → Option Bool} {x : Ex} {b : Bool} {Q : Dt → Prop} (e : sub x.cls = some b) (h : Q (.bool b)) : (xisT sub x).wp Q E := by
  show wr (sub x.cls) _
  rw [e]
  exact h
theorem xf_wp {E : XP} {cs : List Str} {f : Str} {x : Ex} {d : Dt} {Q : Dt → Prop} (m : x.cls ∈ cs) (e : x.fs.lookup f = some d) (h : Q d) : (xfT cs f x).wp Q E := by
  refine ⟨m, ?_⟩
  show wr (x.fs.lookup f) _
  rw [e]
  exact h
theorem said_told {E : XP} {m : Tr Dt} {d : Dt} {Q : Dt → Prop} (hm : ∀ (Q : Dt → Prop) (E : XP), Q d → m.wp Q E) (h : Q (.tuple [.str "told", d])) : (f__law_said m).wp Q E := by
  unfold f__law_said
  walk_at "v"
  show (tupT (consT (calmT (Fx.ret (.str "told"))) (consT m nilT))).wp _ _
  walk_at "v"
  refine w_calm ?_
  walk_at "v"
  refine hm _ _ ?_
  walk_at "v"
  exact h
theorem said_np {E : XP} {m : Tr Dt} {w : Str} {Q : Dt → Prop} (hm : ∀ (Q : Dt → Prop) (E : XP), E (NP w) → m.wp Q E) (h : Q (paperD w)) : (f__law_said m).wp Q E := by
  unfold f__law_said
  walk_at "v"
  show (tupT (consT (calmT (Fx.ret (.str "told"))) (consT m nilT))).wp _ _
  walk_at "v"
  refine w_calm ?_
  walk_at "v"
  refine hm _ _ ?_
  show wr (some true) _
  walk_at "v"
  refine ⟨fun _ => ?_, fun e => by cases e⟩
  walk_at "v"
  refine xis_wp (b := true) rfl ?_
  walk_at "v"
  refine xis_wp (b := false) rfl ?_
  walk_at "v"
  refine xis_wp (b := false) rfl ?_
  walk_at "v"
  refine w_ifT ?_ ?_
  · walk_at "v"
    refine eqB3 _ _ _ _ _ _ ?_
    refine w_condT.mpr ?_
    walk_at "v"
    exact xis_wp (b := true) rfl rfl
  walk_at "v"
  refine xf_wp (d := .str w) (List.mem_singleton.mpr rfl) rfl ?_
  walk_at "v"
  refine xf_wp (d := .int (-1)) (List.mem_singleton.mpr rfl) rfl ?_
  walk_at "v"
  refine w_ifF ?_ ?_
  · walk_at "v"
    refine eqB3 _ _ _ _ _ _ ?_
    rfl
  walk_at "v"
  refine w_ifF ?_ ?_
  · walk_at "v"
    refine eqB3 _ _ _ _ _ _ ?_
    rfl
  walk_at "v"
  exact h
open PySem PySem.Spec L2 Dx Fx Dw
theorem needT {E : XP} {w : Str} {d : Dt} {Q : Dt → Prop} (h : Q .none) : (f_need_shape (.bool true) (.str w) d).wp Q E := by
  unfold f_need_shape
  refine w_ifF (w_calm (by walk_at "v"; rfl)) ?_
  walk_at "v"
  exact h
theorem needF {E : XP} {w : Str} {Q : Dt → Prop} (h : E (NP w)) : (f_need_shape (.bool false) (.str w) (.int (-1))).wp Q E := by
  unfold f_need_shape
  refine w_ifT (w_calm (by walk_at "v"; rfl)) ?_
  walk_at "v"
  refine w_calm ?_
  walk_at "v"
  exact h
/-- whole or a truth -/
inductive Nm : Dt → Prop
  | int (i : Int) : Nm (.int i)
  | bool (b : Bool) : Nm (.bool b)
def cnt : Dt → Bool
  | .int i => decide (0 ≤ i)
  | _ => false
theorem cnt_get {d : Dt} (h : cnt d = true) : ∃ i : Int, d = .int i ∧ 0 ≤ i := by
  cases d with
  | int i => exact ⟨i, rfl, of_decide_eq_true h⟩
  | _ => cases h
theorem count_wp {E : XP} {d : Dt} {Q : Dt → Prop} (hd : Nm d) (h : Q (.bool (cnt d))) : (f_is_count d).wp Q E := by
  unfold f_is_count
  cases hd with
  | int i =>
    walk_at "v"
    refine w_condT.mpr ?_
    walk_at "v"
    refine w_condT.mpr ?_
    walk_at "v"
    exact h
  | bool b =>
    walk_at "v"
    refine w_condT.mpr ?_
    walk_at "v"
    refine w_condF.mpr ?_
    walk_at "v"
    exact h
theorem whole_wp {E : XP} {d : Dt} {Q : Dt → Prop} (hd : Nm d) (h : Q (.bool (cnt d))) : (bnd (tbT (f__law_whole d)) fun b => cond b (opT geD (ret d) (ret (.int 0))) (ret (.bool false))).wp Q E := by
  unfold f__law_whole
  cases hd with
  | int i =>
    walk_at "v"
    refine w_condT.mpr ?_
    walk_at "v"
    refine w_condT.mpr ?_
    walk_at "v"
    exact h
  | bool b =>
    walk_at "v"
    refine w_condT.mpr ?_
    walk_at "v"
    refine w_condF.mpr ?_
    walk_at "v"
    exact h
theorem in_bools {bs : List Bool} {Q : Dt → Prop} (h : Q (.bool (!bs.all id))) : wr (inD (.bool false) (.list (bs.map PyData.bool))) Q := by
  have e : inD (.bool false) (.list (bs.map PyData.bool)) = some (.bool (!bs.all id)) := by
    unfold inD
    simp only [seqD, Option.bind_some]
    rw [if_pos (by simp [flatD])]
    congr 2
    unfold memD
    rw [List.any_map]
    clear h
    induction bs with
    | nil => rfl
    | cons b bs ih =>
      simp only [List.any_cons, List.all_cons, Function.comp_apply, Bool.not_and, id]
      rw [ih]
      congr 1
      cases b <;> rfl
  rw [e]
  exact h
theorem map2 {E : XP} {x y : Dt} {f : Dt → Tr Dt} {u v : Dt} {Q : List Dt → Prop} (hx : ∀ Q' : Dt → Prop, Q' u → (f x).wp Q' E) (hy : ∀ Q' : Dt → Prop, Q' v → (f y).wp Q' E) (h : Q [u, v]) : (mapT [x, y] f).wp Q E :=
  hx _ (hy _ h)
theorem all_bools {bs : List Bool} {Q : Dt → Prop} (h : Q (.bool (bs.all id))) : wr (allD [.list (bs.map PyData.bool)]) Q := i_allB (by
  clear h
  induction bs with
  | nil => rfl
  | cons b bs ih => simp only [List.map_cons, blsD, ih, Option.map_some]) h
section
variable {E : XP} {L : List Int} {cap span : Int} {Q : Dt → Prop}
theorem word_nt {d : Dt} (hd : isTupD d = false) (h : Q (paperD "shape")) : (f__law_word (.tuple (iL L)) d (.int cap) (.int span)).wp Q E := by
  unfold f__law_word
  refine w_ifT ?_ ?_
  · walk_at "v"
    rw [hd]
    simp only [Bool.not_false]
    walk_at "v"
    rfl
  walk_at "v"
  exact h
theorem word_nl {l : List Dt} (hl : l.length ≠ 2) (h : Q (paperD "shape")) : (f__law_word (.tuple (iL L)) (.tuple l) (.int cap) (.int span)).wp Q E := by
  unfold f__law_word
  refine w_ifT ?_ ?_
  · walk_at "v"
    refine w_condF.mpr ?_
    walk_at "v"
    rw [show decide ((l.length : Int) = 2) = false from decide_eq_false (by omega)]
    simp only [Bool.not_false]
    walk_at "v"
    rfl
  walk_at "v"
  exact h
theorem word_guard {x y : Dt} {p : Bool → Prop} (hx : Nm x) (hy : Nm y) (h : p (!(cnt x && cnt y))) : (orT (notT (tbT (isiT isTupD (ret (.tuple [x, y]))))) (orT (tbT (opT neD (callT lenD (consT (ret (.tuple [x, y])) nilT)) (ret (.int 2)))) (tbT (opT inD (ret (.bool false)) (lstT (mapN (seqT (ret (.tuple [x, y]))) fun x2 => bnd (ret x2) fun one => (bnd (tbT (f__law_whole one)) fun b => cond b (opT geD (ret one) (ret (.int 0))) (ret (.bool false)))))))))|>.wp p E := by
  walk_at "v"
  refine w_condF.mpr ?_
  walk_at "v"
  refine w_condF.mpr ?_
  walk_at "v"
  refine ⟨small_len (show 2 ≤ 100 by decide), map2 (u := .bool (cnt x)) (v := .bool (cnt y)) (fun Q' q => by walk_at "v"; exact whole_wp hx q) (fun Q' q => by walk_at "v"; exact whole_wp hy q) ?_⟩
  refine in_bools (bs := [cnt x, cnt y]) ?_
  walk_at "v"
  simpa [Bool.and_true] using h
theorem word_ns {x y : Dt} (hx : Nm x) (hy : Nm y) (hc : (cnt x && cnt y) = false) (h : Q (paperD "shape")) : (f__law_word (.tuple (iL L)) (.tuple [x, y]) (.int cap) (.int span)).wp Q E := by
  unfold f__law_word
  refine w_ifT (word_guard hx hy (by rw [hc]; rfl)) ?_
  walk_at "v"
  exact h
theorem len_iL {P : Dt → Prop} (h : P (.int L.length)) : wr (lenD [.tuple (iL L)]) P := by
  show P (.int (iL L).length)
  rw [iL_len]; exact h
theorem ix_iL {P : Dt → Prop} {a : Int} (h0 : 0 ≤ a) (h1 : a < L.length) (h : P (.int (L.getD a.toNat 0))) : wr (ixD (.tuple (iL L)) (.int a)) P := by
  obtain ⟨n, rfl⟩ : ∃ n : Nat, a = n := ⟨a.toNat, by omega⟩
  have hn : n < L.length := by omega
  refine w_ixT (iL_at hn) ?_
  have e : L.getD (n : Int).toNat 0 = L[n] := by rw [Int.toNat_natCast, getD_k hn]
  rw [← e]
  exact h
def inL (L : List Int) (a b : Int) : Prop := 0 ≤ a ∧ a ≤ b ∧ b < L.length
theorem word_pr {a b : Int} (a0 : 0 ≤ a) (b0 : 0 ≤ b)
    (h1 : ¬ inL L a b → Q (paperD "places"))
    (h2 : inL L a b → b - a + 1 ≤ cap → Q (paperD "many"))
    (h3 : inL L a b → cap < b - a + 1 → span ≤ L.getD b.toNat 0 - L.getD a.toNat 0 → Q (paperD "within"))
    (h4 : inL L a b → cap < b - a + 1 → L.getD b.toNat 0 - L.getD a.toNat 0 < span → Q (.tuple [.str "told", .int (b - a + 1)])) : (f__law_word (.tuple (iL L)) (.tuple [.int a, .int b]) (.int cap) (.int span)).wp Q E := by
  unfold f__law_word
  refine w_ifF (word_guard (.int a) (.int b) (by simp only [cnt, decide_eq_true a0, decide_eq_true b0]; rfl)) ?_
  walk_at "v"
  by_cases hi : inL L a b
  · obtain ⟨c0, c1, c2⟩ := hi
    refine w_ifF ?_ ?_
    · walk_at "v"
      rw [decide_eq_false (show ¬ b < a by omega)]
      walk_at "v"
      have := iL_len L
      exact decide_eq_false (by omega)
    by_cases hm : b - a + 1 ≤ cap
    · refine w_ifT (by walk_at "v"; exact decide_eq_true hm) ?_
      walk_at "v"
      exact h2 ⟨c0, c1, c2⟩ hm
    refine w_ifF (by walk_at "v"; exact decide_eq_false hm) ?_
    by_cases hs : span ≤ L.getD b.toNat 0 - L.getD a.toNat 0
    · refine w_ifT ?_ ?_
      · walk_at "v"
        refine ix_iL (by omega) (by omega) ?_
        walk_at "v"
        refine ix_iL (by omega) (by omega) ?_
        walk_at "v"
        exact decide_eq_true hs
      walk_at "v"
      exact h3 ⟨c0, c1, c2⟩ (by omega) hs
    refine w_ifF ?_ ?_
    · walk_at "v"
      refine ix_iL (by omega) (by omega) ?_
      walk_at "v"
      refine ix_iL (by omega) (by omega) ?_
      walk_at "v"
      exact decide_eq_false hs
    walk_at "v"
    exact h4 ⟨c0, c1, c2⟩ (by omega) (by omega)
  · refine w_ifT ?_ ?_
    · walk_at "v"
      refine w_cond (fun c => ?_) (fun c => ?_)
      · walk_at "v"
        rfl
      · walk_at "v"
        refine decide_eq_true ?_
        have := of_decide_eq_false c
        rw [iL_len]
        refine Int.not_lt.mp fun h => hi ⟨a0, by omega, h⟩
    walk_at "v"
    exact h1 hi
theorem is2_wp {d : Dt} {R : Dt → Prop} {b : Bool} (hd : (∃ l : List Dt, d = .tuple l ∧ decide (l.length = 2) = b) ∨ (isTupD d = false ∧ b = false)) (h : R (.bool b)) : (f_is_tuple_of d (.int 2)).wp R E := by
  unfold f_is_tuple_of
  rcases hd with ⟨l, rfl, e⟩ | ⟨e, rfl⟩
  · walk_at "v"
    refine w_condT.mpr ?_
    walk_at "v"
    rw [show decide ((l.length : Int) = 2) = b by rw [← e]; congr 1; simp only [eq_iff_iff]; omega]
    exact h
  · walk_at "v"
    rw [e]
    walk_at "v"
    exact h
theorem lets_no {d : Dt} (hd : (∃ l : List Dt, d = .tuple l ∧ decide (l.length = 2) = false) ∨ (isTupD d = false ∧ false = false)) (h : E (NP "shape")) : (f_lets_breach (.tuple (iL L)) d (.int cap) (.int span)).wp Q E := by
  unfold f_lets_breach
  walk_at "v"
  refine w_calm ?_
  walk_at "v"
  refine is2_wp (b := false) hd ?_
  walk_at "v"
  exact needF h
theorem lets_ns {x y : Dt} (hx : Nm x) (hy : Nm y) (hc : (cnt x && cnt y) = false) (h : E (NP "shape")) : (f_lets_breach (.tuple (iL L)) (.tuple [x, y]) (.int cap) (.int span)).wp Q E := by
  unfold f_lets_breach
  walk_at "v"
  refine w_calm ?_
  walk_at "v"
  refine is2_wp (b := true) (.inl ⟨_, rfl, rfl⟩) ?_
  walk_at "v"
  refine ⟨small_len (show 2 ≤ 100 by decide), map2 (u := .bool (cnt x)) (v := .bool (cnt y)) (fun Q' q => by walk_at "v"; exact count_wp hx q) (fun Q' q => by walk_at "v"; exact count_wp hy q) ?_⟩
  walk_at "v"
  refine all_bools (bs := [cnt x, cnt y]) ?_
  walk_at "v"
  rw [show ([cnt x, cnt y].all id) = false by simpa using hc]
  exact needF h
theorem lets_pr {a b : Int} (a0 : 0 ≤ a) (b0 : 0 ≤ b)
    (h1 : ¬ inL L a b → E (NP "places"))
    (h2 : inL L a b → b - a + 1 ≤ cap → E (NP "many"))
    (h3 : inL L a b → cap < b - a + 1 → span ≤ L.getD b.toNat 0 - L.getD a.toNat 0 → E (NP "within"))
    (h4 : inL L a b → cap < b - a + 1 → L.getD b.toNat 0 - L.getD a.toNat 0 < span → Q (.int (b - a + 1))) : (f_lets_breach (.tuple (iL L)) (.tuple [.int a, .int b]) (.int cap) (.int span)).wp Q E := by
  unfold f_lets_breach
  walk_at "v"
  refine w_calm ?_
  walk_at "v"
  refine is2_wp (b := true) (.inl ⟨_, rfl, rfl⟩) ?_
  walk_at "v"
  refine ⟨small_len (show 2 ≤ 100 by decide), map2 (u := .bool (cnt (.int a))) (v := .bool (cnt (.int b))) (fun Q' q => by walk_at "v"; exact count_wp (.int a) q) (fun Q' q => by walk_at "v"; exact count_wp (.int b) q) ?_⟩
  walk_at "v"
  refine all_bools (bs := [cnt (.int a), cnt (.int b)]) ?_
  walk_at "v"
  rw [show ([cnt (.int a), cnt (.int b)].all id) = true by simp [cnt, a0, b0]]
  refine needT ?_
  walk_at "v"
  refine w_calm ?_
  walk_at "v"
  refine w_calm ?_
  walk_at "v"
  by_cases hi : inL L a b
  · obtain ⟨c0, c1, c2⟩ := hi
    rw [decide_eq_true c1]
    walk_at "v"
    rw [show decide (b < ((iL L).length : Int)) = true from decide_eq_true (by rw [iL_len]; exact c2)]
    refine needT ?_
    walk_at "v"
    refine w_calm ?_
    walk_at "v"
    by_cases hm : b - a + 1 ≤ cap
    · rw [show decide (cap < b - a + 1) = false from decide_eq_false (by omega)]
      exact needF (h2 ⟨c0, c1, c2⟩ hm)
    rw [show decide (cap < b - a + 1) = true from decide_eq_true (by omega)]
    refine needT ?_
    walk_at "v"
    refine w_calm ?_
    walk_at "v"
    refine ix_iL (by omega) (by omega) ?_
    walk_at "v"
    refine ix_iL (by omega) (by omega) ?_
    walk_at "v"
    by_cases hs : span ≤ L.getD b.toNat 0 - L.getD a.toNat 0
    · rw [decide_eq_false (show ¬ L.getD b.toNat 0 - L.getD a.toNat 0 < span by omega)]
      exact needF (h3 ⟨c0, c1, c2⟩ (by omega) hs)
    rw [decide_eq_true (show L.getD b.toNat 0 - L.getD a.toNat 0 < span by omega)]
    refine needT ?_
    walk_at "v"
    refine w_calm ?_
    walk_at "v"
    exact h4 ⟨c0, c1, c2⟩ (by omega) (by omega)
  · by_cases c : a ≤ b
    · rw [decide_eq_true c]
      walk_at "v"
      rw [show decide (b < ((iL L).length : Int)) = false from decide_eq_false (by rw [iL_len]; exact fun h => hi ⟨a0, c, h⟩)]
      exact needF (h1 hi)
    · rw [decide_eq_false c]
      walk_at "v"
      exact needF (h1 hi)
end
inductive Stf : Dt → Prop
  | non : Stf .none
  | str : Stf (.str "00")
  | lst : Stf (.list [.int 0, .int 0])
  | t0 : Stf (.tuple [])
  | t1 : Stf (.tuple [.int 0])
  | t3 : Stf (.tuple [.int 0, .int 0, .int 0])
  | tb0 : Stf (.tuple [.bool true, .int 0])
  | tb1 : Stf (.tuple [.int 0, .bool false])
  | pr (a b : Int) : a.natAbs < 100 → b.natAbs < 100 → Stf (.tuple [.int a, .int b])
theorem Stf.nc {d : Dt} (h : Stf d) : Nc 1 200 d := by
  cases h with
  | non => exact (Nc.none (k := 0)).mono
  | str => exact (Nc.str (k := 0) (by decide +kernel)).mono
  | lst => exact .lst (k := 0) (n := 100) (.cons (Nc.int (by decide)) (.cons (Nc.int (by decide)) .nil (Nat.le_refl _)))
  | t0 => exact .tup (k := 0) (n := 0) .nil
  | t1 => exact .tup (k := 0) (n := 100) (.cons (Nc.int (by decide)) .nil)
  | t3 => exact .tup (k := 0) (n := 190) (.cons (Nc.int (by decide)) (.cons (Nc.int (by decide)) (.cons (Nc.int (by decide)) .nil (Nat.le_refl _)) (Nat.le_refl _)))
  | tb0 => exact .tup (k := 0) (n := 100) (.cons Nc.bool (.cons (Nc.int (by decide)) .nil (Nat.le_refl _)))
  | tb1 => exact .tup (k := 0) (n := 100) (.cons (Nc.int (by decide)) (.cons Nc.bool .nil (Nat.le_refl _)))
  | pr a b h h' => exact .tup (k := 0) (n := 100) (.cons (Nc.int (by omega)) (.cons (Nc.int (by omega)) .nil (Nat.le_refl _)))
def Ans (L : List Int) (cap span : Int) (d r : Dt) : Prop := (∀ (Q : Dt → Prop) (E : XP), Q r → (f__law_word (.tuple (iL L)) d (.int cap) (.int span)).wp Q E) ∧ ∀ (Q : Dt → Prop) (E : XP), Q r → (f__law_said (f_lets_breach (.tuple (iL L)) d (.int cap) (.int span))).wp Q E
theorem paper_nc {w : Str} (h : WdOk w) : Nc 2 1000 (paperD w) := .tup (k := 1) (n := 900) (.cons (Nc.str (by decide +kernel)) (.cons (Nc.str h) (.cons (Nc.int (by decide)) .nil (Nat.le_refl _)) (Nat.le_refl _)))
theorem ans {L : List Int} {cap span : Int} {d : Dt} (h : Stf d) : ∃ r, Nc 2 1000 r ∧ Ans L cap span d r := by
  have nt : isTupD d = false → ∃ r, Nc 2 1000 r ∧ Ans L cap span d r := fun e =>
    ⟨_, paper_nc (w := "shape") (by decide +kernel), fun Q E q => word_nt e q, fun Q E q => said_np (fun Q' E' q' => lets_no (.inr ⟨e, rfl⟩) q') q⟩
  have nl : ∀ l : List Dt, d = .tuple l → decide (l.length = 2) = false → ∃ r, Nc 2 1000 r ∧ Ans L cap span d r := fun l e e2 => by
    subst e
    exact ⟨_, paper_nc (w := "shape") (by decide +kernel), fun Q E q => word_nl (of_decide_eq_false e2) q, fun Q E q => said_np (fun Q' E' q' => lets_no (.inl ⟨_, rfl, e2⟩) q') q⟩
  have ns : ∀ x y : Dt, d = .tuple [x, y] → Nm x → Nm y → (cnt x && cnt y) = false → ∃ r, Nc 2 1000 r ∧ Ans L cap span d r := fun x y e hx hy e2 => by
    subst e
    exact ⟨_, paper_nc (w := "shape") (by decide +kernel), fun Q E q => word_ns hx hy e2 q, fun Q E q => said_np (fun Q' E' q' => lets_ns hx hy e2 q') q⟩
  cases h with
  | non => exact nt rfl
  | str => exact nt rfl
  | lst => exact nt rfl
  | t0 => exact nl _ rfl rfl
  | t1 => exact nl _ rfl rfl
  | t3 => exact nl _ rfl rfl
  | tb0 => exact ns _ _ rfl (.bool _) (.int _) rfl
  | tb1 => exact ns _ _ rfl (.int _) (.bool _) (by decide)
  | pr a b ha hb =>
    clear nt nl
    rcases Int.lt_or_le a 0 with a0 | a0
    · exact ns _ _ rfl (.int _) (.int _) (by simp only [cnt, decide_eq_false (show ¬ 0 ≤ a by omega)]; rfl)
    rcases Int.lt_or_le b 0 with b0 | b0
    · exact ns _ _ rfl (.int _) (.int _) (by simp only [cnt, decide_eq_false (show ¬ 0 ≤ b by omega)]; exact Bool.and_false _)
    clear ns
    rcases (Classical.em (inL L a b)).symm with hi | hi
    · exact ⟨_, paper_nc (w := "places") (by decide +kernel), fun Q E q => word_pr a0 b0 (fun _ => q) (fun h => absurd h hi) (fun h => absurd h hi) (fun h => absurd h hi), fun Q E q => said_np (fun Q' E' q' => lets_pr a0 b0 (fun _ => q') (fun h => absurd h hi) (fun h => absurd h hi) (fun h => absurd h hi)) q⟩
    by_cases hm : b - a + 1 ≤ cap
    · exact ⟨_, paper_nc (w := "many") (by decide +kernel), fun Q E q => word_pr a0 b0 (fun h => absurd hi h) (fun _ _ => q) (fun _ h => by omega) (fun _ h => by omega), fun Q E q => said_np (fun Q' E' q' => lets_pr a0 b0 (fun h => absurd hi h) (fun _ _ => q') (fun _ h => by omega) (fun _ h => by omega)) q⟩
    by_cases hs : span ≤ L.getD b.toNat 0 - L.getD a.toNat 0
    · exact ⟨_, paper_nc (w := "within") (by decide +kernel), fun Q E q => word_pr a0 b0 (fun h => absurd hi h) (fun _ h => by omega) (fun _ _ _ => q) (fun _ _ h => by omega), fun Q E q => said_np (fun Q' E' q' => lets_pr a0 b0 (fun h => absurd hi h) (fun _ h => by omega) (fun _ _ _ => q') (fun _ _ h => by omega)) q⟩
    · exact ⟨.tuple [.str "told", .int (b - a + 1)], .tup (k := 1) (n := 200) (.cons (Nc.str (by decide +kernel)) (.cons (Nc.int (by omega)) .nil (Nat.le_refl _))), fun Q E q => word_pr a0 b0 (fun h => absurd hi h) (fun _ h => by omega) (fun _ _ h => by omega) (fun _ _ _ => q), fun Q E q => said_told (d := .int (b - a + 1)) (fun Q' E' q' => lets_pr a0 b0 (fun h => absurd hi h) (fun _ h => by omega) (fun _ _ h => by omega) (fun _ _ _ => q')) q⟩
open PySem PySem.Spec L2 Dx Fx Dw
def P40 : Int := 10000000000000000000000000000000000000000
theorem w_pow40 {Q : Dt → Prop} (h : Q (.int P40)) : wr (powD (.int 10) (.int 40)) Q := by
  rw [w_pow (by decide +kernel)]
  rw [show ((10 : Int) ^ (Int.toNat 40)) = P40 by decide +kernel]
  exact h
structure Tk (L : List Int) : Prop where
  len : L.length ≤ 20
  mono : L.Pairwise (· ≤ ·)
  low : ∀ x ∈ L, 0 ≤ x
  high : ∀ x ∈ L, x ≤ P40 + 100
theorem Tk.nc {L : List Int} (h : Tk L) : Nc 1 39000 (.tuple (iL L)) := by
  refine .tup (k := 0) (n := 20 * 1903) (.all (n := 1901) (b := 20) ?_ (by rw [iL_len]; exact h.len) (Nat.le_refl _))
  intro d hd
  obtain ⟨x, hx, rfl⟩ := List.mem_map.mp hd
  have a := h.low x hx
  have b := h.high x hx
  refine Nc.big (Nat.lt_of_le_of_lt (m := (P40 + 100).natAbs) (by omega) (by decide +kernel))
theorem ds_nc {L : List Int} {w : Int} {k : Nat} (h : L.length ≤ 20) (hk : k ≤ 20) : Nc 1 39000 (.tuple (iL (dsL L w k))) := by
  refine .tup (k := 0) (n := 20 * 1903) (.all (n := 1901) (b := 20) ?_ (by rw [iL_len, dsL_len]; exact hk) (Nat.le_refl _))
  intro d hd
  obtain ⟨x, hx, rfl⟩ := List.mem_map.mp hd
  unfold dsL at hx
  obtain ⟨j, _, rfl⟩ := List.mem_map.mp hx
  have := due_le L w j
  exact (Nc.int (k := 0) (by omega)).mono
theorem eqv_ints : ∀ D : List Int, PyData.eqvAll (iL D) (iL D) = true
  | [] => by simp [iL, PyData.eqvAll]
  | x :: D => by
    show PyData.eqvAll (.int x :: iL D) (.int x :: iL D) = true
    rw [PyData.eqvAll, eqv_ints D, eqI]
    simp
theorem ne_tup {D : List Int} {k n : Nat} {Q : Dt → Prop} (h : Nc k n (.tuple (iL D))) (hk : k ≤ 64) (q : Q (.bool false)) : wr (neD (.tuple (iL D)) (.tuple (iL D))) Q := by
  rw [neD_of h.gd h.gd (by have := h.dp; omega)]
  rw [PyData.eqv, eqv_ints]
  exact q
theorem told_in {L : List Int} {w m : Int} {k : Nat} (h : Tk L) (hm : 0 ≤ m) (hk : k < L.length) (hd : m < ((due L w k : Nat) : Int)) : inL L ((k : Int) - m) k ∧ m < (k : Int) - ((k : Int) - m) + 1 ∧ L.getD (k : Int).toNat 0 - L.getD ((k : Int) - m).toNat 0 < w := by
  have h1 : due L w k ≤ k + 1 := by
    unfold due
    exact Nat.le_trans (List.length_filter_le _ _) (by rw [List.length_take]; omega)
  refine ⟨⟨by omega, by omega, by omega⟩, by omega, ?_⟩
  obtain ⟨j, ej⟩ : ∃ j : Nat, (k : Int) - m = j := ⟨((k : Int) - m).toNat, by omega⟩
  rw [ej, Int.toNat_natCast, Int.toNat_natCast]
  refine Int.not_le.mp fun hw => ?_
  have hj : j < L.length := by omega
  have e : L.take (k + 1) = (L.take (k + 1)).take (j + 1) ++ (L.take (k + 1)).drop (j + 1) := (List.take_append_drop _ _).symm
  have h2 : due L w k ≤ k - j := by
    unfold due
    rw [e, List.filter_append]
    have : ((L.take (k + 1)).take (j + 1)).filter (fun y => decide (L.getD k 0 - y < w)) = [] := by
      rw [List.filter_eq_nil_iff]
      intro x hx
      rw [List.take_take, List.mem_take_iff_getElem] at hx
      obtain ⟨i, hi, rfl⟩ := hx
      have : L[i] ≤ L[j] := by
        rcases Nat.lt_or_eq_of_le (show i ≤ j by omega) with c | rfl
        · exact List.pairwise_iff_getElem.mp h.mono i j (by omega) hj c
        · exact Int.le_refl _
      rw [getD_k hj] at hw
      simp only [decide_eq_true_eq]
      omega
    rw [this, List.nil_append]
    refine Nat.le_trans (List.length_filter_le _ _) ?_
    rw [List.length_drop, List.length_take]
    omega
  omega
theorem rng_cons {lo hi : Int} (h : lo < hi) : rngL lo hi = .int lo :: rngL (lo + 1) hi := by
  unfold rngL
  rw [show (hi - lo).toNat = (hi - (lo + 1)).toNat + 1 by omega, List.range_succ_eq_map]
  simp only [List.map_cons, List.map_map]
  congr 1
  · simp
  · apply List.map_congr_left
    intro k _
    simp
    omega
theorem rng_nil {lo hi : Int} (h : hi ≤ lo) : rngL lo hi = [] := by
  unfold rngL
  rw [show (hi - lo).toNat = 0 by omega]
  rfl
theorem ne_bool {a b : Bool} {Q : Dt → Prop} (q : Q (.bool (!(a == b)))) : wr (neD (.bool a) (.bool b)) Q := by
  rw [neD_of rfl rfl (Nat.le_of_ble_eq_true rfl), PyData.eqv]
  exact q
theorem over_eq {cap : Int} (D : List Int) : List.filterMap (fun d => match d with | PyData.int y => if cap < y then some (PyData.int y) else none | _ => none) (iL D) = iL (D.filter fun y => decide (cap < y)) := by
  induction D with
  | nil => rfl
  | cons y N ih =>
    show List.filterMap _ (PyData.int y :: iL N) = _
    rw [List.filterMap_cons, List.filter_cons]
    by_cases c : cap < y
    · simp only [if_pos c, decide_eq_true c, if_true]
      rw [ih]
      rfl
    · simp only [if_neg c, decide_eq_false c]
      rw [ih]
      rfl
theorem law_holds : (f_law).wp (fun d => d = .bool true) noE := by
  unfold f_law
  walk_at "v"
  refine ⟨by omega, ?_⟩
  walk_at "v"
  refine w_forN ?_ (by dsimp only [sumE]; walk_at "v"; rfl)
  intro turn hturn
  walk_at "v"
  refine w_pow40 ?_
  walk_at "v"
  rename_i pick p0 p1
  refine w_ixM p0 (by simp only [List.length_cons, List.length_nil]; omega) fun t0 ht0 => ?_
  obtain ⟨b0, rfl, b1, b2⟩ : ∃ b : Int, t0 = .int b ∧ 0 ≤ b ∧ b ≤ P40 := by
    simp only [List.mem_cons, List.not_mem_nil, or_false] at ht0
    rcases ht0 with rfl | rfl | rfl
    · exact ⟨_, rfl, by decide, by decide⟩
    · exact ⟨_, rfl, by decide, by decide⟩
    · exact ⟨_, rfl, by decide, by decide⟩
  walk_at "v"
  rename_i many m0 m1
  refine ⟨by omega, ?_⟩
  refine w_fold (I := fun ys s => ∃ (L : List Int) (b : Int), s = (.int b, iL L) ∧ L.length + ys.length ≤ 20 ∧ L.Pairwise (· ≤ ·) ∧ (∀ x ∈ L, 0 ≤ x ∧ x ≤ b) ∧ 0 ≤ b ∧ b ≤ P40 + 5 * (L.length : Int)) ⟨[], b0, rfl, by rw [rng_len, List.length_nil]; omega, .nil, fun x h => (nomatch h), b1, by simpa using b2⟩ ?_ ?_
  · rintro x ys s ⟨L, b, rfl, hl, hp, hx, c1, c2⟩
    simp only [List.length_cons] at hl
    walk_at "v"
    rename_i st s0 s1
    refine ⟨small_lt (by rw [iL_len]; omega), ?_⟩
    walk_at "v"
    refine ⟨L ++ [b + st], b + st, by simp [iL], by simp only [List.length_append, List.length_singleton]; omega, ?_, ?_, by omega, by simp only [List.length_append, List.length_singleton]; push_cast; omega⟩
    · rw [List.pairwise_append]
      refine ⟨hp, List.pairwise_singleton .., fun x hx' y hy => ?_⟩
      rw [List.mem_singleton.mp hy]
      have := (hx x hx').2
      omega
    · intro x hx'
      rcases List.mem_append.mp hx' with h | h
      · have := hx x h
        omega
      · rw [List.mem_singleton.mp h]
        omega
  rintro s ⟨L, b, rfl, hl, hp, hx, c1, c2⟩
  simp only [List.length_nil, Nat.add_zero] at hl
  have T : Tk L := ⟨hl, hp, fun x h => (hx x h).1, fun x h => by have := (hx x h).2; omega⟩
  clear hp hx c1 c2 b1 b2
  walk_at "v"
  rename_i cap q0 q1 span' r0 r1
  obtain ⟨span, es⟩ : ∃ z : Int, 1 + span' = z := ⟨_, rfl⟩
  rw [es]
  refine ⟨by rw [iL_len]; omega, ?_⟩
  rw [iL_len]
  walk_at "v"
  refine w_fold (I := fun ys s => ∃ k : Nat, k ≤ L.length ∧ ys = rngL (k : Int) (L.length : Nat) ∧ s = iL (dsL L span k)) ⟨0, by omega, rfl, rfl⟩ ?_ ?_
  · rintro x ys s ⟨k, hk, ey, rfl⟩
    have hk' : k < L.length := by
      refine Nat.lt_of_not_le fun hge => ?_
      rw [rng_nil (by omega)] at ey
      cases ey
    rw [rng_cons (by omega)] at ey
    cases ey
    walk_at "v"
    rw [cut_k]
    refine ⟨small_len (by rw [iL_len, List.length_take]; omega), ?_⟩
    refine cnt_wp (w := span) (x := L[k]) (fun y Q' q => ?_) ?_
    · walk_at "v"
      refine w_ixT (iL_at hk') ?_
      walk_at "v"
      refine w_cond (fun c => ?_) (fun c => ?_)
      · walk_at "v"
        rwa [if_pos (of_decide_eq_true c)] at q
      · walk_at "v"
        rwa [if_neg (of_decide_eq_false c)] at q
    walk_at "v"
    refine ⟨small_lt (by rw [iL_len, dsL_len]; omega), ?_⟩
    walk_at "v"
    refine ⟨k + 1, hk', by push_cast; rfl, ?_⟩
    rw [dsL_succ, iL_len]
    unfold due
    rw [getD_k hk']
    simp [iL]
  rintro s ⟨k, hk, ey, rfl⟩
  have : k = L.length := by
    refine Nat.le_antisymm hk (Nat.le_of_not_lt fun hlt => ?_)
    rw [rng_cons (by omega)] at ey
    cases ey
  subst this
  clear ey
  have dn := ds_nc (w := span) T.len T.len
  refine w_ifF ?_ ?_
  · walk_at "v"
    refine spaced_wp T.len ?_
    walk_at "v"
    rw [repr_w dn]
    walk_at "v"
    rw [repr_w dn]
    refine i_neS1 ?_
    walk_at "v"
    refine spaced_wp T.len ?_
    walk_at "v"
    exact ne_tup dn (by omega) rfl
  walk_at "v"
  refine Tr.post (breach_wp T.len) fun pair hpair => ?_
  walk_at "v"
  refine ⟨small_len (by rw [iL_len, dsL_len]; omega), ?_⟩
  refine w_fmapE (fun d => match d with | .int y => if cap < y then some (.int y) else none | _ => none) ?_ ?_
  · intro d hd Q' q
    obtain ⟨y, _, rfl⟩ := List.mem_map.mp hd
    walk_at "v"
    refine w_cond (fun c => ?_) (fun c => ?_)
    · walk_at "v"
      simpa only [if_pos (of_decide_eq_true c)] using q
    · walk_at "v"
      simpa only [if_neg (of_decide_eq_false c)] using q
  rw [over_eq]
  walk_at "v"
  refine i_wr (ne_nil_ints _) ?_
  refine w_unitT.mpr ?_
  have over : ∀ d, BrR L span cap d → (!isN d) = !((dsL L span L.length).filter fun y => decide (cap < y)).isEmpty := by
    intro d hd
    rcases hd with ⟨rfl, h⟩ | ⟨k, hk, hc, rfl⟩
    · have : (dsL L span L.length).filter (fun y => decide (cap < y)) = [] := by
        rw [List.filter_eq_nil_iff]
        intro y hy
        unfold dsL at hy
        obtain ⟨j, hj, rfl⟩ := List.mem_map.mp hy
        have := h j (List.mem_range.mp hj)
        simp only [decide_eq_true_eq]
        omega
      rw [this]
      rfl
    · have : (((due L span k : Nat) : Int)) ∈ (dsL L span L.length).filter (fun y => decide (cap < y)) := by
        refine List.mem_filter.mpr ⟨?_, decide_eq_true hc⟩
        unfold dsL
        exact List.mem_map.mpr ⟨k, List.mem_range.mpr hk, rfl⟩
      cases e : (dsL L span L.length).filter fun y => decide (cap < y) with
      | nil => rw [e] at this; cases this
      | cons => rfl
  walk_at "v"
  refine Tr.post (breach_wp T.len) fun again hagain => ?_
  walk_at "v"
  refine w_ifF ?_ ?_
  · walk_at "v"
    refine ne_bool ?_
    rw [over _ hpair]
    simp only [beq_self_eq_true, Bool.not_true]
    walk_at "v"
    refine ne_bool ?_
    rw [over _ hagain]
    simp only [beq_self_eq_true, Bool.not_true]
    walk_at "v"
    rfl
  clear over
  walk_at "v"
  refine ⟨by rw [iL_len]; omega, ?_⟩
  rw [iL_len]
  have sp : Stf pair := by
    rcases hpair with ⟨rfl, _⟩ | ⟨k, hk, hc, rfl⟩
    · exact .non
    · have := due_le L span k
      exact .pr _ _ (by omega) (by omega)
  refine w_fold (I := fun ys s => ∃ ds : List Dt, s = .list ds ∧ (∀ d ∈ ds, Stf d) ∧ ds.length + 22 * ys.length ≤ 500 ∧ ∀ y ∈ ys, ∃ i : Int, y = .int i ∧ 0 ≤ i ∧ i < 22) ⟨_, rfl, ?_, by rw [rng_len]; simp only [List.length_cons, List.length_nil]; omega, fun y hy => by
    obtain ⟨i, e, h0, h1⟩ := rng_memI hy
    exact ⟨i, e, h0, by omega⟩⟩ ?_ ?_
  · intro d hd
    simp only [List.mem_cons, List.not_mem_nil, or_false] at hd
    rcases hd with rfl | rfl | rfl | rfl | rfl | rfl | rfl | rfl | rfl | rfl | rfl
    · exact sp
    · exact .non
    · exact .t0
    · exact .t1
    · exact .t3
    · exact .lst
    · exact .tb0
    · exact .tb1
    · exact .pr _ _ (by decide) (by decide)
    · exact .pr _ _ (by decide) (by decide)
    · exact .str
  · rintro x ys s ⟨ds, rfl, hs, hn, hy⟩
    obtain ⟨f, rfl, f0, f1⟩ := hy x (List.mem_cons_self ..)
    simp only [List.length_cons] at hn
    walk_at "v"
    refine ⟨by rw [iL_len]; omega, ?_⟩
    rw [iL_len]
    refine ⟨by rw [rng_len]; exact small_len (by omega), ?_⟩
    refine w_mapE (fun d => .tuple [.int f, d]) (fun d _ Q' q => by walk_at "v"; exact q) ?_
    walk_at "v"
    rw [addLL (by rw [show sizeLine = 16777216 from sizeLine_eq, List.length_map, rng_len]; omega)]
    walk_at "v"
    refine ⟨_, rfl, ?_, by rw [List.length_append, List.length_map, rng_len]; omega, fun y h => hy y (List.mem_cons_of_mem _ h)⟩
    intro d hd
    rcases List.mem_append.mp hd with h | h
    · exact hs d h
    · obtain ⟨l, hl, rfl⟩ := List.mem_map.mp h
      obtain ⟨i, rfl, i0, i1⟩ := rng_memI hl
      exact .pr _ _ (by omega) (by omega)
  rintro s ⟨things, rfl, hs, hn, _⟩
  walk_at "v"
  refine w_forN ?_ ?_
  · intro stuff hstuff
    have st := hs stuff hstuff
    obtain ⟨r, rn, aw, al⟩ := ans (L := L) (cap := cap) (span := span) st
    have bn : Nc 2 40000 (.tuple [.tuple (iL L), stuff]) := .tup (k := 1) (n := 39300) (.cons T.nc (.cons st.nc .nil (Nat.le_refl _)) (by omega))
    walk_at "v"
    rw [repr_w bn]
    walk_at "v"
    refine aw _ _ ?_
    walk_at "v"
    rw [repr_w rn]
    refine w_unitT.mpr ?_
    walk_at "v"
    refine al _ _ ?_
    walk_at "v"
    refine al _ _ ?_
    refine w_ifF ?_ ?_
    · walk_at "v"
      rw [repr_w rn]
      walk_at "v"
      rw [repr_w rn]
      walk_at "v"
      rw [repr_w bn]
      walk_at "v"
      rfl
    walk_at "v"
    rfl
  dsimp only [sumE]
  refine w_ifF ?_ ?_
  · walk_at "v"
    rcases hpair with ⟨rfl, _⟩ | ⟨k, hk, hc, rfl⟩
    · rfl
    · obtain ⟨h1, h2, h3⟩ := told_in T q0 hk hc
      refine w_condT.mpr ?_
      walk_at "v"
      refine word_pr h1.1 (by omega) (fun h => absurd h1 h) (fun _ h => by omega) (fun _ _ h => by omega) (fun _ _ _ => ?_)
      walk_at "v"
      rfl
  walk_at "v"
  rfl
open PySem L2 Dx Fx
theorem all_mk {P : Program} {w : World} {K : PySem.W.Frag} {h : Heap} {mg : Str → Option Value} {fa : Addr} (X : K.In h) (G : h.Ns mainGlobals mg) (hfa : mg "law" = some (.ref fa))
    {f0 : Addr} {od0 an0 : Option Addr} {sl0 : Array (Option Value)} {oc0 kV0 dc0 pm0 cd0 ct0 : Value} (a0 : PySem.W.nsIn K mainGlobals "is_count" = some (some (.ref f0))) (l0 : K.lookup f0 = some ⟨oc0, od0, .func (PySem.W.fnOf "is_count" "is_count" (defArgs s_is_count) (defBody s_is_count) (defScope s_is_count) .none kV0 dc0 pm0 an0 cd0 ct0), sl0⟩) (c0 : PySem.W.codeIn K cd0 "is_count" = true) (k0 : PySem.W.keepIn K (.ref f0) = true)
    {f1 : Addr} {od1 an1 : Option Addr} {sl1 : Array (Option Value)} {oc1 kV1 dc1 pm1 cd1 ct1 : Value} (a1 : PySem.W.nsIn K mainGlobals "is_tuple_of" = some (some (.ref f1))) (l1 : K.lookup f1 = some ⟨oc1, od1, .func (PySem.W.fnOf "is_tuple_of" "is_tuple_of" (defArgs s_is_tuple_of) (defBody s_is_tuple_of) (defScope s_is_tuple_of) .none kV1 dc1 pm1 an1 cd1 ct1), sl1⟩) (c1 : PySem.W.codeIn K cd1 "is_tuple_of" = true) (k1 : PySem.W.keepIn K (.ref f1) = true)
    {f2 : Addr} {od2 an2 : Option Addr} {sl2 : Array (Option Value)} {oc2 kV2 dc2 pm2 cd2 ct2 : Value} (a2 : PySem.W.nsIn K mainGlobals "need_shape" = some (some (.ref f2))) (l2 : K.lookup f2 = some ⟨oc2, od2, .func (PySem.W.fnOf "need_shape" "need_shape" (defArgs s_need_shape) (defBody s_need_shape) (defScope s_need_shape) .none kV2 dc2 pm2 an2 cd2 ct2), sl2⟩) (c2 : PySem.W.codeIn K cd2 "need_shape" = true) (k2 : PySem.W.keepIn K (.ref f2) = true)
    {f3 : Addr} {od3 an3 : Option Addr} {sl3 : Array (Option Value)} {oc3 kV3 dc3 pm3 cd3 ct3 : Value} (a3 : PySem.W.nsIn K mainGlobals "lets_breach" = some (some (.ref f3))) (l3 : K.lookup f3 = some ⟨oc3, od3, .func (PySem.W.fnOf "lets_breach" "lets_breach" (defArgs s_lets_breach) (defBody s_lets_breach) (defScope s_lets_breach) .none kV3 dc3 pm3 an3 cd3 ct3), sl3⟩) (c3 : PySem.W.codeIn K cd3 "lets_breach" = true) (k3 : PySem.W.keepIn K (.ref f3) = true)
    {f4 : Addr} {od4 an4 : Option Addr} {sl4 : Array (Option Value)} {oc4 kV4 dc4 pm4 cd4 ct4 : Value} (a4 : PySem.W.nsIn K mainGlobals "spaced" = some (some (.ref f4))) (l4 : K.lookup f4 = some ⟨oc4, od4, .func (PySem.W.fnOf "spaced" "spaced" (defArgs s_spaced) (defBody s_spaced) (defScope s_spaced) .none kV4 dc4 pm4 an4 cd4 ct4), sl4⟩) (c4 : PySem.W.codeIn K cd4 "spaced" = true) (k4 : PySem.W.keepIn K (.ref f4) = true)
    {f5 : Addr} {od5 an5 : Option Addr} {sl5 : Array (Option Value)} {oc5 kV5 dc5 pm5 cd5 ct5 : Value} (a5 : PySem.W.nsIn K mainGlobals "breach_of" = some (some (.ref f5))) (l5 : K.lookup f5 = some ⟨oc5, od5, .func (PySem.W.fnOf "breach_of" "breach_of" (defArgs s_breach_of) (defBody s_breach_of) (defScope s_breach_of) .none kV5 dc5 pm5 an5 cd5 ct5), sl5⟩) (c5 : PySem.W.codeIn K cd5 "breach_of" = true) (k5 : PySem.W.keepIn K (.ref f5) = true)
    {f6 : Addr} {od6 an6 : Option Addr} {sl6 : Array (Option Value)} {oc6 kV6 dc6 pm6 cd6 ct6 : Value} (a6 : PySem.W.nsIn K mainGlobals "_law_feed" = some (some (.ref f6))) (l6 : K.lookup f6 = some ⟨oc6, od6, .func (PySem.W.fnOf "_law_feed" "_law_feed" (defArgs s__law_feed) (defBody s__law_feed) (defScope s__law_feed) .none kV6 dc6 pm6 an6 cd6 ct6), sl6⟩) (c6 : PySem.W.codeIn K cd6 "_law_feed" = true) (k6 : PySem.W.keepIn K (.ref f6) = true)
    {f7 : Addr} {od7 an7 : Option Addr} {sl7 : Array (Option Value)} {oc7 kV7 dc7 pm7 cd7 ct7 : Value} (a7 : PySem.W.nsIn K mainGlobals "_law_draw" = some (some (.ref f7))) (l7 : K.lookup f7 = some ⟨oc7, od7, .func (PySem.W.fnOf "_law_draw" "_law_draw" (defArgs s__law_draw) (defBody s__law_draw) (defScope s__law_draw) .none kV7 dc7 pm7 an7 cd7 ct7), sl7⟩) (c7 : PySem.W.codeIn K cd7 "_law_draw" = true) (k7 : PySem.W.keepIn K (.ref f7) = true)
    {f8 : Addr} {od8 an8 : Option Addr} {sl8 : Array (Option Value)} {oc8 kV8 dc8 pm8 cd8 ct8 : Value} (a8 : PySem.W.nsIn K mainGlobals "_law_said" = some (some (.ref f8))) (l8 : K.lookup f8 = some ⟨oc8, od8, .func (PySem.W.fnOf "_law_said" "_law_said" (defArgs s__law_said) (defBody s__law_said) (defScope s__law_said) .none kV8 dc8 pm8 an8 cd8 ct8), sl8⟩) (c8 : PySem.W.codeIn K cd8 "_law_said" = true) (k8 : PySem.W.keepIn K (.ref f8) = true)
    {f9 : Addr} {od9 an9 : Option Addr} {sl9 : Array (Option Value)} {oc9 kV9 dc9 pm9 cd9 ct9 : Value} (a9 : PySem.W.nsIn K mainGlobals "_law_whole" = some (some (.ref f9))) (l9 : K.lookup f9 = some ⟨oc9, od9, .func (PySem.W.fnOf "_law_whole" "_law_whole" (defArgs s__law_whole) (defBody s__law_whole) (defScope s__law_whole) .none kV9 dc9 pm9 an9 cd9 ct9), sl9⟩) (c9 : PySem.W.codeIn K cd9 "_law_whole" = true) (k9 : PySem.W.keepIn K (.ref f9) = true)
    {f10 : Addr} {od10 an10 : Option Addr} {sl10 : Array (Option Value)} {oc10 kV10 dc10 pm10 cd10 ct10 : Value} (a10 : PySem.W.nsIn K mainGlobals "_law_word" = some (some (.ref f10))) (l10 : K.lookup f10 = some ⟨oc10, od10, .func (PySem.W.fnOf "_law_word" "_law_word" (defArgs s__law_word) (defBody s__law_word) (defScope s__law_word) .none kV10 dc10 pm10 an10 cd10 ct10), sl10⟩) (c10 : PySem.W.codeIn K cd10 "_law_word" = true) (k10 : PySem.W.keepIn K (.ref f10) = true)
    {f11 : Addr} {od11 an11 : Option Addr} {sl11 : Array (Option Value)} {oc11 kV11 dc11 pm11 cd11 ct11 : Value} (a11 : PySem.W.nsIn K mainGlobals "law" = some (some (.ref f11))) (l11 : K.lookup f11 = some ⟨oc11, od11, .func (PySem.W.fnOf "law" "law" (defArgs s_law) (defBody s_law) (defScope s_law) .none kV11 dc11 pm11 an11 cd11 ct11), sl11⟩) (c11 : PySem.W.codeIn K cd11 "law" = true) (k11 : PySem.W.keepIn K (.ref f11) = true)
    (z_all : PySem.W.nsIn K mainGlobals "all" = some none)
    (z_bool : PySem.W.nsIn K mainGlobals "bool" = some none)
    (z_enumerate : PySem.W.nsIn K mainGlobals "enumerate" = some none)
    (z_int : PySem.W.nsIn K mainGlobals "int" = some none)
    (z_isinstance : PySem.W.nsIn K mainGlobals "isinstance" = some none)
    (z_len : PySem.W.nsIn K mainGlobals "len" = some none)
    (z_list : PySem.W.nsIn K mainGlobals "list" = some none)
    (z_range : PySem.W.nsIn K mainGlobals "range" = some none)
    (z_repr : PySem.W.nsIn K mainGlobals "repr" = some none)
    (z_tuple : PySem.W.nsIn K mainGlobals "tuple" = some none)
    {C_FolkError : Addr} (gc_FolkError : PySem.W.nsIn K mainGlobals "FolkError" = some (some (.ref C_FolkError)))
    {C_PaperError : Addr} (gc_PaperError : PySem.W.nsIn K mainGlobals "PaperError" = some (some (.ref C_PaperError)))
    {C_RunError : Addr} (gc_RunError : PySem.W.nsIn K mainGlobals "RunError" = some (some (.ref C_RunError)))
    {C_TextError : Addr} (gc_TextError : PySem.W.nsIn K mainGlobals "TextError" = some (some (.ref C_TextError)))
    {C_NoPaper : Addr} (gc_NoPaper : PySem.W.nsIn K mainGlobals "NoPaper" = some (some (.ref C_NoPaper)))
    {C_NoFolk : Addr} (gc_NoFolk : PySem.W.nsIn K mainGlobals "NoFolk" = some (some (.ref C_NoFolk)))
    {C_NoStep : Addr} (gc_NoStep : PySem.W.nsIn K mainGlobals "NoStep" = some (some (.ref C_NoStep)))
    {I_NoPaper : Addr} (ic_NoPaper : PySem.W.findIn K (.ref C_NoPaper) "__init__" = some (some (.ref I_NoPaper)))
    (oc_NoPaper : ∃ nm q N bs bm sn sub ab col dd k0 k1 k2 k3 k5, K.lookup C_NoPaper = some (PySem.excClassObj nm q C_NoPaper N bs bm true sn sub ab col dd k0 k1 k2 k3 k5 "ValueError.__new__") ∧ PySem.HandSPX.refsVE bm = true)
    (sa_NoPaper : PySem.W.findIn K (.ref C_NoPaper) "__setattr__" = some (some (.builtin "object.__setattr__")))
    (ec_NoPaper : PySem.W.subIn K (.ref C_NoPaper) (.type "BaseException") = some true)
    (ty_NoPaper : PySem.W.typeIn K (.ref C_NoPaper) = some (.type "type"))
    (kc_NoPaper : PySem.W.keepIn K (.ref C_NoPaper) = true)
    (ga_NoPaper : PySem.W.findIn K (.ref C_NoPaper) "__getattribute__" = some (some (.builtin "BaseException.__getattribute__")))
    (gg_NoPaper : PySem.W.findIn K (.ref C_NoPaper) "__getattr__" = some none)
    (hd_NoPaper : PySem.W.hasDictIn K C_NoPaper = true)
    (nf_NoPaper_word : PySem.W.findIn K (.ref C_NoPaper) "word" = some none)
    (nf_NoPaper_at : PySem.W.findIn K (.ref C_NoPaper) "at" = some none)
    (ti_NoPaper : PySem.W.typeIn K (.ref I_NoPaper) = some (.type "function"))
    (bg_NoPaper : PySem.W.specialIn K (.ref C_PaperError) "__getattribute__" = some (some (.builtin "type.__getattribute__")))
    (br_NoPaper : PySem.W.readsIn K C_PaperError (.type "type") = true)
    (bi_NoPaper : PySem.W.findCls K (.ref C_PaperError) (.type "type") "__init__" = some (.val (.builtin "ValueError.__init__")))
    {oI_NoPaper eI_NoPaper pI_NoPaper vI_NoPaper tI_NoPaper : Value} {dI_NoPaper nI_NoPaper : Option Addr} {sI_NoPaper : Array (Option Value)} (li_NoPaper : K.lookup I_NoPaper = some ⟨oI_NoPaper, dI_NoPaper, .func (PySem.W.fnOf "__init__" "NoPaper.__init__" (defArgs s_NoPaper) (defBody s_NoPaper) (defScope s_NoPaper) .none .none eI_NoPaper pI_NoPaper nI_NoPaper vI_NoPaper tI_NoPaper), sI_NoPaper⟩)
    (ci_NoPaper : PySem.W.codeIn K vI_NoPaper "NoPaper.__init__" = true)
    (cl_NoPaper : (PySem.W.clsIn K C_NoPaper).isSome = true)
    (ca_NoPaper : PySem.W.findIn K (.ref C_NoPaper) "__class__" = some (some (.builtin "object.__class__")))
    (cn_NoPaper : PySem.W.specialIn K (.builtin "object.__class__") "__get__" = some (some (.builtin "getset_descriptor.__get__")))
    (ct_NoPaper : PySem.W.takesIn K (.builtin "object.__class__") = some true)
    (cm_NoPaper : PySem.W.mroIn K C_NoPaper (.type "object") = some true)
    (em_NoPaper_FolkError : PySem.W.exmOne K (.ref C_NoPaper) (.ref C_FolkError) = some true)
    (is_NoPaper_NoFolk : PySem.W.kitOne K (.ref C_NoPaper) (.ref C_NoFolk) = some false)
    (is_NoPaper_NoPaper : PySem.W.kitOne K (.ref C_NoPaper) (.ref C_NoPaper) = some true)
    (is_NoPaper_NoStep : PySem.W.kitOne K (.ref C_NoPaper) (.ref C_NoStep) = some false)
    (is_NoPaper_PaperError : PySem.W.kitOne K (.ref C_NoPaper) (.ref C_PaperError) = some true)
    (is_NoPaper_RunError : PySem.W.kitOne K (.ref C_NoPaper) (.ref C_RunError) = some false)
    (is_NoPaper_TextError : PySem.W.kitOne K (.ref C_NoPaper) (.ref C_TextError) = some false)
    {cL tL : Addr} (tl : PySem.W.tabIn K "law" = some (cL, tL))
    (nt : K.lookup tL = none) : ∃ c T : Addr, PySem.W.tabIn K "law" = some (c, T) ∧ K.lookup T = none ∧ ∀ base : Heap, K.In base → base.Ns mainGlobals mg → LamX.TabB base mg c T → LawRunT P w K mg base fa 63 T := by
  have e : f11 = fa := (Value.ref.inj (Option.some.inj (hfa.symm.trans (PySem.W.mg_of X G a11)))).symm
  subst e
  refine ⟨_, _, tl, nt, ?_⟩
  intro base _ _ TB
  have F0 : FnF K mg "is_count" s_is_count f0 _ := ⟨PySem.W.mg_of X G a0, k0, oc0, od0, kV0, dc0, pm0, an0, cd0, ct0, sl0, rfl, l0, c0⟩
  have F1 : FnF K mg "is_tuple_of" s_is_tuple_of f1 _ := ⟨PySem.W.mg_of X G a1, k1, oc1, od1, kV1, dc1, pm1, an1, cd1, ct1, sl1, rfl, l1, c1⟩
  have F2 : FnF K mg "need_shape" s_need_shape f2 _ := ⟨PySem.W.mg_of X G a2, k2, oc2, od2, kV2, dc2, pm2, an2, cd2, ct2, sl2, rfl, l2, c2⟩
  have F3 : FnF K mg "lets_breach" s_lets_breach f3 _ := ⟨PySem.W.mg_of X G a3, k3, oc3, od3, kV3, dc3, pm3, an3, cd3, ct3, sl3, rfl, l3, c3⟩
  have F4 : FnF K mg "spaced" s_spaced f4 _ := ⟨PySem.W.mg_of X G a4, k4, oc4, od4, kV4, dc4, pm4, an4, cd4, ct4, sl4, rfl, l4, c4⟩
  have F5 : FnF K mg "breach_of" s_breach_of f5 _ := ⟨PySem.W.mg_of X G a5, k5, oc5, od5, kV5, dc5, pm5, an5, cd5, ct5, sl5, rfl, l5, c5⟩
  have F6 : FnF K mg "_law_feed" s__law_feed f6 _ := ⟨PySem.W.mg_of X G a6, k6, oc6, od6, kV6, dc6, pm6, an6, cd6, ct6, sl6, rfl, l6, c6⟩
  have F7 : FnF K mg "_law_draw" s__law_draw f7 _ := ⟨PySem.W.mg_of X G a7, k7, oc7, od7, kV7, dc7, pm7, an7, cd7, ct7, sl7, rfl, l7, c7⟩
  have F8 : FnF K mg "_law_said" s__law_said f8 _ := ⟨PySem.W.mg_of X G a8, k8, oc8, od8, kV8, dc8, pm8, an8, cd8, ct8, sl8, rfl, l8, c8⟩
  have F9 : FnF K mg "_law_whole" s__law_whole f9 _ := ⟨PySem.W.mg_of X G a9, k9, oc9, od9, kV9, dc9, pm9, an9, cd9, ct9, sl9, rfl, l9, c9⟩
  have F10 : FnF K mg "_law_word" s__law_word f10 _ := ⟨PySem.W.mg_of X G a10, k10, oc10, od10, kV10, dc10, pm10, an10, cd10, ct10, sl10, rfl, l10, c10⟩
  have F11 : FnF K mg "law" s_law f11 _ := ⟨PySem.W.mg_of X G a11, k11, oc11, od11, kV11, dc11, pm11, an11, cd11, ct11, sl11, rfl, l11, c11⟩
  let ad : Ad := ⟨C_FolkError, C_PaperError, C_RunError, C_TextError, C_NoPaper, C_NoFolk, C_NoStep, I_NoPaper, f0, PySem.W.fnOf "is_count" "is_count" (defArgs s_is_count) (defBody s_is_count) (defScope s_is_count) .none kV0 dc0 pm0 an0 cd0 ct0, f1, PySem.W.fnOf "is_tuple_of" "is_tuple_of" (defArgs s_is_tuple_of) (defBody s_is_tuple_of) (defScope s_is_tuple_of) .none kV1 dc1 pm1 an1 cd1 ct1, f2, PySem.W.fnOf "need_shape" "need_shape" (defArgs s_need_shape) (defBody s_need_shape) (defScope s_need_shape) .none kV2 dc2 pm2 an2 cd2 ct2, f3, PySem.W.fnOf "lets_breach" "lets_breach" (defArgs s_lets_breach) (defBody s_lets_breach) (defScope s_lets_breach) .none kV3 dc3 pm3 an3 cd3 ct3, f4, PySem.W.fnOf "spaced" "spaced" (defArgs s_spaced) (defBody s_spaced) (defScope s_spaced) .none kV4 dc4 pm4 an4 cd4 ct4, f5, PySem.W.fnOf "breach_of" "breach_of" (defArgs s_breach_of) (defBody s_breach_of) (defScope s_breach_of) .none kV5 dc5 pm5 an5 cd5 ct5, f6, PySem.W.fnOf "_law_feed" "_law_feed" (defArgs s__law_feed) (defBody s__law_feed) (defScope s__law_feed) .none kV6 dc6 pm6 an6 cd6 ct6, f7, PySem.W.fnOf "_law_draw" "_law_draw" (defArgs s__law_draw) (defBody s__law_draw) (defScope s__law_draw) .none kV7 dc7 pm7 an7 cd7 ct7, f8, PySem.W.fnOf "_law_said" "_law_said" (defArgs s__law_said) (defBody s__law_said) (defScope s__law_said) .none kV8 dc8 pm8 an8 cd8 ct8, f9, PySem.W.fnOf "_law_whole" "_law_whole" (defArgs s__law_whole) (defBody s__law_whole) (defScope s__law_whole) .none kV9 dc9 pm9 an9 cd9 ct9, f10, PySem.W.fnOf "_law_word" "_law_word" (defArgs s__law_word) (defBody s__law_word) (defScope s__law_word) .none kV10 dc10 pm10 an10 cd10 ct10, f11, PySem.W.fnOf "law" "law" (defArgs s_law) (defBody s_law) (defScope s_law) .none kV11 dc11 pm11 an11 cd11 ct11⟩
  have T : Tx K mg ad := { g_FolkError := PySem.W.mg_of X G gc_FolkError, g_PaperError := PySem.W.mg_of X G gc_PaperError, g_RunError := PySem.W.mg_of X G gc_RunError, g_TextError := PySem.W.mg_of X G gc_TextError, g_NoPaper := PySem.W.mg_of X G gc_NoPaper, g_NoFolk := PySem.W.mg_of X G gc_NoFolk, g_NoStep := PySem.W.mg_of X G gc_NoStep, x_NoPaper := ⟨PySem.W.mg_of X G gc_NoPaper, PySem.W.mg_of X G gc_PaperError, ⟨oc_NoPaper, sa_NoPaper, ec_NoPaper, ty_NoPaper, kc_NoPaper⟩, ⟨ga_NoPaper, gg_NoPaper, ec_NoPaper, hd_NoPaper⟩, (all_cons nf_NoPaper_word (all_cons nf_NoPaper_at all_nil)), ic_NoPaper, ti_NoPaper, bg_NoPaper, br_NoPaper, bi_NoPaper, ⟨_, _, _, _, _, _, _, _, li_NoPaper, ci_NoPaper⟩⟩, ek_NoPaper := ⟨cl_NoPaper, ⟨ga_NoPaper, gg_NoPaper, ec_NoPaper, hd_NoPaper⟩, ca_NoPaper, cn_NoPaper, ct_NoPaper, cm_NoPaper⟩, em_NoPaper_FolkError := em_NoPaper_FolkError, is_NoPaper_NoFolk := is_NoPaper_NoFolk, is_NoPaper_NoPaper := is_NoPaper_NoPaper, is_NoPaper_NoStep := is_NoPaper_NoStep, is_NoPaper_PaperError := is_NoPaper_PaperError, is_NoPaper_RunError := is_NoPaper_RunError, is_NoPaper_TextError := is_NoPaper_TextError, f_is_count := F0, f_is_tuple_of := F1, f_need_shape := F2, f_lets_breach := F3, f_spaced := F4, f_breach_of := F5, f__law_feed := F6, f__law_draw := F7, f__law_said := F8, f__law_whole := F9, f__law_word := F10, f_law := F11, b_all := PySem.W.mg_none_of X G z_all, b_bool := PySem.W.mg_none_of X G z_bool, b_enumerate := PySem.W.mg_none_of X G z_enumerate, b_int := PySem.W.mg_none_of X G z_int, b_isinstance := PySem.W.mg_none_of X G z_isinstance, b_len := PySem.W.mg_none_of X G z_len, b_list := PySem.W.mg_none_of X G z_list, b_range := PySem.W.mg_none_of X G z_range, b_repr := PySem.W.mg_none_of X G z_repr, b_tuple := PySem.W.mg_none_of X G z_tuple }
  have bF := (fun_mk (st := s__law_feed) l6 c6 k6).binds (ps := ["_law_script"]) fun _ _ _ _ _ _ us hl => match us, hl with | [_], _ => rfl
  exact law_run T (tabIn_code tl a11 l11) TB (fun s u => .of_eq rfl) bF law_holds
theorem tuK {K : PySem.W.Frag} {a : Addr} {oc : Value} {its : Array Value} {n : Nat} {od : Option Addr} {sl : Array (Option Value)} {xs : List V} (h : K.lookup a = some ⟨oc, od, .seq its n, sl⟩) (hc : oc = .type "tuple") (hd : od = none) (hs : sl = #[]) (hz : its.size ≤ sizeLine) (hv : Vals xs its.toList) : TuA K (fun _ => none) a xs :=
  .inr ⟨_, its, n, h, ⟨hc, hd, hs⟩, rfl, hz, hv⟩
end K48
open PySem PySem.W PyProof.Rows
set_option maxRecDepth 100000 in
set_option maxHeartbeats 0 in
theorem PySem.Challenge.cw_letterfolk_k48_ticks_and_breaches_holds : PySem.Challenge.rw_letterfolk_k48_ticks_and_breaches.Holds := by
  w_on; o_law; k_head; (case hw => w_witness2)
  k_fill
  refine Dx.walk_lawT (l := PySem.Challenge.rw_letterfolk_k48_ticks_and_breaches) (n := 63) rfl (by decide) rfl (fun w h Y => PySem.W.km_in_of Y) (by rfl) ?F
  case F =>
    intro w mg fa h KX G hmg
    refine' K48.all_mk KX G hmg ?a0 ?l0 ?c0 ?k0 ?a1 ?l1 ?c1 ?k1 ?a2 ?l2 ?c2 ?k2 ?a3 ?l3 ?c3 ?k3 ?a4 ?l4 ?c4 ?k4 ?a5 ?l5 ?c5 ?k5 ?a6 ?l6 ?c6 ?k6 ?a7 ?l7 ?c7 ?k7 ?a8 ?l8 ?c8 ?k8 ?a9 ?l9 ?c9 ?k9 ?a10 ?l10 ?c10 ?k10 ?a11 ?l11 ?c11 ?k11 ?z_all ?z_bool ?z_enumerate ?z_int ?z_isinstance ?z_len ?z_list ?z_range ?z_repr ?z_tuple ?gc_FolkError ?gc_PaperError ?gc_RunError ?gc_TextError ?gc_NoPaper ?gc_NoFolk ?gc_NoStep ?ic_NoPaper ?oc_NoPaper ?sa_NoPaper ?ec_NoPaper ?ty_NoPaper ?kc_NoPaper ?ga_NoPaper ?gg_NoPaper ?hd_NoPaper ?nf_NoPaper_word ?nf_NoPaper_at ?ti_NoPaper ?bg_NoPaper ?br_NoPaper ?bi_NoPaper ?li_NoPaper ?ci_NoPaper ?cl_NoPaper ?ca_NoPaper ?cn_NoPaper ?ct_NoPaper ?cm_NoPaper ?em_NoPaper_FolkError ?is_NoPaper_NoFolk ?is_NoPaper_NoPaper ?is_NoPaper_NoStep ?is_NoPaper_PaperError ?is_NoPaper_RunError ?is_NoPaper_TextError ?tl ?nt
    (case gc_FolkError => k_is)
    (case gc_PaperError => k_is)
    (case gc_RunError => k_is)
    (case gc_TextError => k_is)
    (case gc_NoPaper => k_is)
    (case gc_NoFolk => k_is)
    (case gc_NoStep => k_is)
    (case ic_NoPaper => k_is)
    (case oc_NoPaper => (refine' ⟨_, _, _, _, _, _, _, _, _, _, _, _, _, _, _, ?zz1, ?zz2⟩; (case zz1 => exact rfl); (case zz2 => exact rfl)))
    (case sa_NoPaper => k_is)
    (case ec_NoPaper => k_is)
    (case ty_NoPaper => k_is)
    (case kc_NoPaper => k_is)
    (case ga_NoPaper => k_is)
    (case gg_NoPaper => k_is)
    (case hd_NoPaper => k_is)
    (case nf_NoPaper_word => k_is)
    (case nf_NoPaper_at => k_is)
    (case ti_NoPaper => k_is)
    (case bg_NoPaper => k_is)
    (case br_NoPaper => k_is)
    (case bi_NoPaper => k_is)
    (case li_NoPaper => k_is)
    (case ci_NoPaper => k_is)
    (case cl_NoPaper => kernel_rfl)
    (case ca_NoPaper => k_is)
    (case cn_NoPaper => (first | k_is | kernel_rfl))
    (case ct_NoPaper => (first | k_is | kernel_rfl))
    (case cm_NoPaper => k_is)
    (case em_NoPaper_FolkError => kernel_rfl)
    (case is_NoPaper_NoFolk => kernel_rfl)
    (case is_NoPaper_NoPaper => kernel_rfl)
    (case is_NoPaper_NoStep => kernel_rfl)
    (case is_NoPaper_PaperError => kernel_rfl)
    (case is_NoPaper_RunError => kernel_rfl)
    (case is_NoPaper_TextError => kernel_rfl)
    (case tl => exact rfl)
    (case nt => kernel_rfl)
    (case a0 => k_is)
    (case l0 => k_is)
    (case c0 => k_is)
    (case k0 => k_is)
    (case a1 => k_is)
    (case l1 => k_is)
    (case c1 => k_is)
    (case k1 => k_is)
    (case a2 => k_is)
    (case l2 => k_is)
    (case c2 => k_is)
    (case k2 => k_is)
    (case a3 => k_is)
    (case l3 => k_is)
    (case c3 => k_is)
    (case k3 => k_is)
    (case a4 => k_is)
    (case l4 => k_is)
    (case c4 => k_is)
    (case k4 => k_is)
    (case a5 => k_is)
    (case l5 => k_is)
    (case c5 => k_is)
    (case k5 => k_is)
    (case a6 => k_is)
    (case l6 => k_is)
    (case c6 => k_is)
    (case k6 => k_is)
    (case a7 => k_is)
    (case l7 => k_is)
    (case c7 => k_is)
    (case k7 => k_is)
    (case a8 => k_is)
    (case l8 => k_is)
    (case c8 => k_is)
    (case k8 => k_is)
    (case a9 => k_is)
    (case l9 => k_is)
    (case c9 => k_is)
    (case k9 => k_is)
    (case a10 => k_is)
    (case l10 => k_is)
    (case c10 => k_is)
    (case k10 => k_is)
    (case a11 => k_is)
    (case l11 => k_is)
    (case c11 => k_is)
    (case k11 => k_is)
    (case z_all => k_is)
    (case z_bool => k_is)
    (case z_enumerate => k_is)
    (case z_int => k_is)
    (case z_isinstance => k_is)
    (case z_len => k_is)
    (case z_list => k_is)
    (case z_range => k_is)
    (case z_repr => k_is)
    (case z_tuple => k_is)
