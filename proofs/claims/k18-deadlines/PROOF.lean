import PyProof.Rows.All
import Wide.All
import OpenK.AllK
import Wide.FinOn
import HandS.ForMost
import HandS.ForExc
import HandS.Wide
import HandS.IsInst
import HandS.TupAny
import HandS.TupMul
import HandS.Flow
import HandS.Deep
import HandS.ExcOwn
import HandS.Lambda
import HandS.ExcField
import HandS.SuiteRaise
import HandS.TryMany
import HandS.Iter
import HandS.Comp
import KE.KExcSuper
import HandS.ExcInit
import HandS.Words
import HandS.WordsExc
import KE.GoesMore
import KE.GoesEnum
import KE.GoesNew
import HandS.HeadHook1
import HandS.Head0
import HandS.Head1
import HandS.Head2
import HandS.EndTab
import PySem.Challenge.RW_noclicks_k18_whole_deadlines
set_option Elab.async false
set_option linter.all false
set_option maxRecDepth 100000
/-! PI1: an interpreter for a part of the language, by values and a store; what stands for what. -/
namespace PI
open PySem PySem.Spec PyProof.Rows L2

/-! ### values, objects, the store -/
inductive IV where
  | non | bl (b : Bool) | int (i : Int) | str (s : List Nat) | tup (xs : List IV) | ref (n : Nat)
  deriving Inhabited
inductive IO where
  | lst (xs : List IV)
  | frl (xs : List IV)
  deriving Inhabited
structure Sto where
  os : List IO
  low : Nat
/-- an exception: its class by number, its attributes -/
structure IX where
  cls : Nat
  fs : List (Str × IV)
inductive RE (α : Type) where
  | ok (a : α) (st : Sto)
  | exc (x : IX) (st : Sto)
  | bad
abbrev IEnv := List (Option IV)
/-- what the calls of the text's own defs give: the def by number, the arguments -/
abbrev CL := Nat → List IV → Sto → RE IV
def RE.bind {α β : Type} (m : RE α) (k : α → Sto → RE β) : RE β :=
  match m with
  | .ok a st => k a st
  | .exc x st => .exc x st
  | .bad => .bad
def Sto.alloc (st : Sto) (o : IO) : RE IV := .ok (.ref st.os.length) { st with os := st.os ++ [o] }

/-! ### what stands for what -/
mutual
inductive RepV (K : PySem.W.Frag) (H : Hp) (ρ : List Addr) : IV → V → Prop
  | non : RepV K H ρ .non .non
  | bl (b : Bool) : RepV K H ρ (.bl b) (.bl b)
  | int (i : Int) : RepV K H ρ (.int i) (.int i)
  | str {s : List Nat} (h : s.all (fun c => decide (c < 0x110000)) = true) : RepV K H ρ (.str s) (.str ⟨s.toArray⟩)
  | tup {xs : List IV} {vs : List V} {a : Addr} (h : SqT K H a vs) (r : RepVs K H ρ xs vs) : RepV K H ρ (.tup xs) (.ref a)
  | ref {n : Nat} {a : Addr} (h : ρ[n]? = some a) : RepV K H ρ (.ref n) (.ref a)
inductive RepVs (K : PySem.W.Frag) (H : Hp) (ρ : List Addr) : List IV → List V → Prop
  | nil : RepVs K H ρ [] []
  | cons {x : IV} {xs : List IV} {v : V} {vs : List V} (h : RepV K H ρ x v) (t : RepVs K H ρ xs vs) : RepVs K H ρ (x :: xs) (v :: vs)
end
def RepO (K : PySem.W.Frag) (H : Hp) (ρ : List Addr) (a : Addr) : IO → Prop
  | .lst xs => ∃ vs, H a = some (.lst vs) ∧ RepVs K H ρ xs vs
  | .frl xs => ∃ vs, Rd H a (.lst vs) ∧ RepVs K H ρ xs vs
structure Rel (K : PySem.W.Frag) (H : Hp) (ρ : List Addr) (st : Sto) : Prop where
  len : ρ.length = st.os.length
  nd : ρ.Nodup
  obj : ∀ (n : Nat) (o : IO) (a : Addr), st.os[n]? = some o → ρ[n]? = some a → RepO K H ρ a o
structure RelEnv (K : PySem.W.Frag) (H : Hp) (ρ : List Addr) (env : IEnv) (σ : L2.St) : Prop where
  len : env.length = σ.length
  get : ∀ (i : Nat) (v : IV), env[i]? = some (some v) → ∃ x, σ[i]? = some (some x) ∧ RepV K H ρ v x
/-- the heap goes on: what is not the store's stays, what comes into the store is new -/
structure Ext (ρ : List Addr) (H : Hp) (ρ' : List Addr) (H' : Hp) : Prop where
  pre : ρ <+: ρ'
  keep : ∀ (a : Addr) (o : HO), H a = some o → a ∉ ρ → H' a = some o
  new : ∀ a ∈ ρ', a ∈ ρ ∨ H a = none
theorem Ext.refl (ρ : List Addr) (H : Hp) : Ext ρ H ρ H := ⟨List.prefix_refl ρ, fun _ _ h _ => h, fun _ h => .inl h⟩
theorem Ext.trans {ρ ρ1 ρ2 : List Addr} {H H1 H2 : Hp} (a : Ext ρ H ρ1 H1) (b : Ext ρ1 H1 ρ2 H2) : Ext ρ H ρ2 H2 where
  pre := a.pre.trans b.pre
  keep := fun c o h n => b.keep c o (a.keep c o h n) fun z => by
    rcases a.new c z with z | z
    · exact n z
    · rw [h] at z; cases z
  new := fun c h => by
    rcases b.new c h with h | h
    · exact a.new c h
    · by_cases hc : c ∈ ρ
      · exact .inl hc
      · right
        cases q : H c with
        | none => rfl
        | some o => rw [a.keep c o q hc] at h; cases h

section
variable {K : PySem.W.Frag} {H H' : Hp} {ρ ρ' : List Addr} {st : Sto}
theorem Rel.at' (r : Rel K H ρ st) {a : Addr} (h : a ∈ ρ) : ∃ (n : Nat) (o : IO), ρ[n]? = some a ∧ st.os[n]? = some o ∧ RepO K H ρ a o := by
  obtain ⟨n, hn, e⟩ := List.getElem_of_mem h
  have e1 : ρ[n]? = some a := by rw [List.getElem?_eq_getElem hn, e]
  have hn' : n < st.os.length := by rw [← r.len]; exact hn
  exact ⟨n, st.os[n], e1, List.getElem?_eq_getElem hn', r.obj n _ a (List.getElem?_eq_getElem hn') e1⟩
theorem RepO.ne_tup {a : Addr} {o : IO} (h : RepO K H ρ a o) (vs : List V) : ¬ Rd H a (.tup vs) := by
  intro q
  cases o with
  | lst xs =>
    obtain ⟨ws, e, _⟩ := h
    rcases q with q | ⟨ob, q⟩ <;> (rw [e] at q; cases q)
  | frl xs =>
    obtain ⟨ws, e, _⟩ := h
    rcases e with e | ⟨ob', e⟩ <;> rcases q with q | ⟨ob, q⟩ <;> (rw [e] at q; cases q)
theorem RepO.trk {a : Addr} {o : IO} (h : RepO K H ρ a o) : ∃ u, H a = some u := by
  cases o with
  | lst xs => obtain ⟨ws, e, _⟩ := h; exact ⟨_, e⟩
  | frl xs =>
    obtain ⟨ws, e, _⟩ := h
    rcases e with e | ⟨ob', e⟩
    · exact ⟨_, e⟩
    · exact ⟨_, e⟩
theorem Rel.trk (r : Rel K H ρ st) {a : Addr} (h : a ∈ ρ) : ∃ u, H a = some u := by
  obtain ⟨_, _, _, _, q⟩ := r.at' h
  exact q.trk
theorem Rel.sqT (r : Rel K H ρ st) (e : Ext ρ H ρ' H') {a : Addr} {vs : List V} (h : SqT K H a vs) : SqT K H' a vs := by
  rcases h with h | h
  · have hn : a ∉ ρ := fun z => by
      obtain ⟨_, _, _, _, q⟩ := r.at' z
      exact q.ne_tup vs h
    left
    rcases h with h | ⟨ob, h⟩
    · exact .inl (e.keep a _ h hn)
    · exact .inr ⟨ob, e.keep a _ h hn⟩
  · exact .inr h
theorem pre_get {α : Type} {l l' : List α} (h : l <+: l') {n : Nat} {a : α} (e : l[n]? = some a) : l'[n]? = some a := by
  obtain ⟨t, rfl⟩ := h
  have hn := (List.getElem?_eq_some_iff.mp e).1
  rw [List.getElem?_append_left hn]
  exact e
mutual
theorem RepV.mono (r : Rel K H ρ st) (e : Ext ρ H ρ' H') : ∀ {v : IV} {x : V}, RepV K H ρ v x → RepV K H' ρ' v x
  | _, _, .non => .non
  | _, _, .bl b => .bl b
  | _, _, .int i => .int i
  | _, _, .str h => .str h
  | _, _, .tup h t => .tup (r.sqT e h) (RepVs.mono r e t)
  | _, _, .ref h => .ref (pre_get e.pre h)
theorem RepVs.mono (r : Rel K H ρ st) (e : Ext ρ H ρ' H') : ∀ {v : List IV} {x : List V}, RepVs K H ρ v x → RepVs K H' ρ' v x
  | _, _, .nil => .nil
  | _, _, .cons h t => .cons (RepV.mono r e h) (RepVs.mono r e t)
end
theorem RelEnv.mono (r : Rel K H ρ st) (e : Ext ρ H ρ' H') {env : IEnv} {σ : L2.St} (h : RelEnv K H ρ env σ) : RelEnv K H' ρ' env σ :=
  ⟨h.len, fun i v q => let ⟨x, a, b⟩ := h.get i v q; ⟨x, a, b.mono r e⟩⟩
theorem RepVs.length : ∀ {xs : List IV} {vs : List V}, RepVs K H ρ xs vs → xs.length = vs.length
  | _, _, .nil => rfl
  | _, _, .cons _ t => by rw [List.length_cons, List.length_cons, RepVs.length t]
theorem RepVs.get : ∀ {xs : List IV} {vs : List V} {i : Nat} {x : IV}, RepVs K H ρ xs vs → xs[i]? = some x → ∃ v, vs[i]? = some v ∧ RepV K H ρ x v
  | _, _, _, _, .nil, e => by simp at e
  | _, _, 0, _, .cons h _, e => by simp at e; subst e; exact ⟨_, rfl, h⟩
  | _, _, i + 1, x, .cons _ t, e => by
    obtain ⟨v, h1, h2⟩ := RepVs.get (i := i) (x := x) t (by simpa using e)
    exact ⟨v, by simpa using h1, h2⟩
theorem RepVs.append : ∀ {xs ys : List IV} {vs ws : List V}, RepVs K H ρ xs vs → RepVs K H ρ ys ws → RepVs K H ρ (xs ++ ys) (vs ++ ws)
  | _, _, _, _, .nil, s => s
  | _, _, _, _, .cons h t, s => .cons h (RepVs.append t s)
theorem RepVs.take : ∀ {xs : List IV} {vs : List V} (n : Nat), RepVs K H ρ xs vs → RepVs K H ρ (xs.take n) (vs.take n)
  | _, _, 0, _ => by simpa using RepVs.nil
  | _, _, _ + 1, .nil => .nil
  | _, _, n + 1, .cons h t => .cons h (RepVs.take n t)
theorem RepVs.drop : ∀ {xs : List IV} {vs : List V} (n : Nat), RepVs K H ρ xs vs → RepVs K H ρ (xs.drop n) (vs.drop n)
  | _, _, 0, r => by simpa using r
  | _, _, _ + 1, .nil => .nil
  | _, _, n + 1, .cons _ t => by simpa using RepVs.drop n t
theorem RepVs.set {x : IV} {v : V} (r : RepV K H ρ x v) : ∀ {xs : List IV} {vs : List V} (i : Nat), RepVs K H ρ xs vs → RepVs K H ρ (xs.set i x) (vs.set i v)
  | _, _, _, .nil => .nil
  | _, _, 0, .cons _ t => .cons r t
  | _, _, i + 1, .cons q t => .cons q (RepVs.set r i t)
theorem RepVs.one {x : IV} {vs : List V} (h : RepVs K H ρ [x] vs) : ∃ v, vs = [v] ∧ RepV K H ρ x v := by
  cases h with
  | cons h t => cases t; exact ⟨_, rfl, h⟩
theorem RepVs.two {x y : IV} {vs : List V} (h : RepVs K H ρ [x, y] vs) : ∃ v w, vs = [v, w] ∧ RepV K H ρ x v ∧ RepV K H ρ y w := by
  cases h with
  | cons h t => obtain ⟨w, rfl, h2⟩ := t.one; exact ⟨_, _, rfl, h, h2⟩

/-! ### a new object; an object changed -/
theorem fresh_not (r : Rel K H ρ st) {p : Addr} (h : H p = none) : p ∉ ρ := fun z => by
  obtain ⟨u, e⟩ := r.trk z
  rw [h] at e; cases e
theorem Ext.fresh (r : Rel K H ρ st) {p : Addr} (h : H p = none) (u : HO) : Ext ρ H ρ (upd H p u) :=
  ⟨List.prefix_refl ρ, fun a o e _ => by rw [upd_ne (ne_of_none e h)]; exact e, fun _ q => .inl q⟩
theorem Ext.alloc (r : Rel K H ρ st) {p : Addr} (h : H p = none) (u : HO) : Ext ρ H (ρ ++ [p]) (upd H p u) :=
  ⟨List.prefix_append ρ [p], fun a o e _ => by rw [upd_ne (ne_of_none e h)]; exact e, fun a q => by
    rcases List.mem_append.mp q with q | q
    · exact .inl q
    · right
      have : a = p := by simpa using q
      rw [this]; exact h⟩
theorem RepO.mono (r : Rel K H ρ st) (e : Ext ρ H ρ' H') {a : Addr} {o : IO} (h : RepO K H ρ a o) (hk : H' a = H a) : RepO K H' ρ' a o := by
  cases o with
  | lst xs => obtain ⟨vs, q, t⟩ := h; exact ⟨vs, by rw [hk]; exact q, t.mono r e⟩
  | frl xs =>
    obtain ⟨vs, q, t⟩ := h
    exact ⟨vs, by unfold Rd; rw [hk]; exact q, t.mono r e⟩
/-- a tuple (or what the store does not hold) is laid -/
theorem Rel.fresh (r : Rel K H ρ st) {p : Addr} (h : H p = none) (u : HO) : Rel K (upd H p u) ρ st :=
  ⟨r.len, r.nd, fun n o a e1 e2 => (r.obj n o a e1 e2).mono r (Ext.fresh r h u) (upd_ne fun z => fresh_not r h (z ▸ List.mem_of_getElem? e2))⟩
theorem Rel.alloc (r : Rel K H ρ st) {p : Addr} (h : H p = none) (u : HO) (o : IO) (hn : RepO K (upd H p u) (ρ ++ [p]) p o) : Rel K (upd H p u) (ρ ++ [p]) { st with os := st.os ++ [o] } := by
  have hf := fresh_not r h
  refine ⟨by simp [r.len], ?_, fun n o' a e1 e2 => ?_⟩
  · rw [List.nodup_append]
    refine ⟨r.nd, by simp, fun a ha b hb => ?_⟩
    have : b = p := by simpa using hb
    subst this
    exact fun z => hf (z ▸ ha)
  · have hl := r.len
    by_cases hlt : n < st.os.length
    · have e1' : st.os[n]? = some o' := by
        have e1'' : (st.os ++ [o])[n]? = some o' := e1
        rwa [List.getElem?_append_left hlt] at e1''
      have e2' : ρ[n]? = some a := by rwa [List.getElem?_append_left (by omega)] at e2
      exact (r.obj n o' a e1' e2').mono r (Ext.alloc r h u) (upd_ne fun z => hf (z ▸ List.mem_of_getElem? e2'))
    · have hn1 : n < (st.os ++ [o]).length := (List.getElem?_eq_some_iff.mp (show (st.os ++ [o])[n]? = some o' from e1)).1
      have en : n = st.os.length := by
        rw [List.length_append, List.length_cons, List.length_nil] at hn1
        omega
      subst en
      have e1'' : (st.os ++ [o])[st.os.length]? = some o' := e1
      have e2'' : (ρ ++ [p])[st.os.length]? = some a := e2
      rw [List.getElem?_append_right (Nat.le_refl _)] at e1''
      rw [← hl, List.getElem?_append_right (Nat.le_refl _)] at e2''
      simp at e1'' e2''
      subst e1'' e2''
      exact hn
theorem nodup_get {α : Type} {l : List α} (h : l.Nodup) {i j : Nat} {x : α} (a : l[i]? = some x) (b : l[j]? = some x) : i = j := by
  obtain ⟨h1, e1⟩ := List.getElem?_eq_some_iff.mp a
  obtain ⟨h2, e2⟩ := List.getElem?_eq_some_iff.mp b
  exact (List.getElem_inj h).mp (e1.trans e2.symm)
/-- the n-th object of the store is changed -/
theorem Ext.write (r : Rel K H ρ st) {n : Nat} {a : Addr} (hn : ρ[n]? = some a) (u : HO) : Ext ρ H ρ (upd H a u) :=
  ⟨List.prefix_refl ρ, fun b o e hb => by rw [upd_ne (fun z => hb (by rw [z]; exact List.mem_of_getElem? hn))]; exact e, fun _ q => .inl q⟩
theorem Rel.write (r : Rel K H ρ st) {n : Nat} {a : Addr} (hn : ρ[n]? = some a) (u : HO) (o : IO) (ho : RepO K (upd H a u) ρ a o) (lw : Nat) : Rel K (upd H a u) ρ { os := st.os.set n o, low := lw } := by
  refine ⟨by simp [r.len], r.nd, fun m o' b e1 e2 => ?_⟩
  by_cases hm : n = m
  · subst hm
    have hb : b = a := by rw [hn] at e2; exact (Option.some.inj e2).symm
    subst hb
    have e1' : (st.os.set n o)[n]? = some o' := e1
    have hl : n < st.os.length := by
      have := (List.getElem?_eq_some_iff.mp e1').1
      simpa using this
    rw [List.getElem?_set_self hl] at e1'
    cases e1'
    exact ho
  · have e1' : (st.os.set n o)[m]? = some o' := e1
    rw [List.getElem?_set_ne hm] at e1'
    refine (r.obj m o' b e1' e2).mono r (Ext.write r hn u) (upd_ne fun z => hm ?_)
    subst z
    exact nodup_get r.nd hn e2
end

/-- a reading may be strengthened -/
theorem _root_.L2.PE.of {X : Cx} {e : Expr} {t t' : TE} (h : PE X e t) (f : ∀ σ H Q, t' σ H Q → t σ H Q) : PE X e t' := ⟨fun pins s σ H Q I q => h.run pins s σ H Q I (f σ H Q q)⟩
theorem _root_.L2.PT.of {X : Cx} {e : Expr} {t t' : TT} (h : PT X e t) (f : ∀ σ H Q, t' σ H Q → t σ H Q) : PT X e t' := ⟨fun pins s σ H Q I q => h.run pins s σ H Q I (f σ H Q q)⟩
theorem _root_.L2.PA.of {X : Cx} {e : List Expr} {t t' : TA} (h : PA X e t) (f : ∀ σ H Q, t' σ H Q → t σ H Q) : PA X e t' := ⟨fun pos pins s σ H Q I q => h.run pos pins s σ H Q I (f σ H Q q)⟩
theorem _root_.L2.PS.of {X : Cx} {e : Stmt} {t t' : TS} (h : PS X e t) (f : ∀ D σ H, t' D σ H → t D σ H) : PS X e t' := ⟨fun pins s σ H D I q => h.run pins s σ H D I (f D σ H q)⟩
theorem _root_.L2.PSs.of {X : Cx} {e : List Stmt} {t t' : TS} (h : PSs X e t) (f : ∀ D σ H, t' D σ H → t D σ H) : PSs X e t' := ⟨fun pins s σ H D I q => h.run pins s σ H D I (f D σ H q)⟩
end PI

set_option Elab.async false
set_option linter.all false
set_option maxRecDepth 100000
/-! PI2: operators, builtins by values. -/
namespace PI
open PySem PySem.Spec PyProof.Rows L2

/-! ### answers of operators -/
abbrev RO := Option (IV × Sto)
def Sto.allocO (st : Sto) (o : IO) : RO := some (.ref st.os.length, { st with os := st.os ++ [o] })
def PostO (K : PySem.W.Frag) (ρ : List Addr) (H : Hp) (Q : VK) : RO → Prop
  | some (v, st) => ∀ (ρ' : List Addr) (H' : Hp) (x : V), Ext ρ H ρ' H' → Rel K H' ρ' st → RepV K H' ρ' v x → Q x H'
  | none => False
def RE.ofO : RO → RE IV
  | some (v, st) => .ok v st
  | none => .bad
def rB (K : PySem.W.Frag) (f : IV → IV → Sto → RO) : R2 := fun x y H Q => ∃ ρ st va vb, Rel K H ρ st ∧ RepV K H ρ va x ∧ RepV K H ρ vb y ∧ PostO K ρ H Q (f va vb st)
def rU1 (K : PySem.W.Frag) (f : IV → Sto → RO) : V → Hp → VK → Prop := fun x H Q => ∃ ρ st va, Rel K H ρ st ∧ RepV K H ρ va x ∧ PostO K ρ H Q (f va st)
def rCl (K : PySem.W.Frag) (f : List IV → Sto → RO) : List V → Hp → VK → Prop := fun vs H Q => ∃ ρ st xs, Rel K H ρ st ∧ RepVs K H ρ xs vs ∧ PostO K ρ H Q (f xs st)
section
variable {K : PySem.W.Frag} {H : Hp} {ρ : List Addr} {st : Sto} {Q : VK}
theorem PostO.here {v : IV} {x : V} (h : PostO K ρ H Q (some (v, st))) (r : Rel K H ρ st) (p : RepV K H ρ v x) : Q x H := h ρ H x (Ext.refl _ _) r p
theorem PostO.newTup {xs : List IV} {vs : List V} (h : PostO K ρ H Q (some (.tup xs, st))) (r : Rel K H ρ st) (p : RepVs K H ρ xs vs) : ∀ a, H a = none → Q (.ref a) (upd H a (.tup vs)) := fun a ha =>
  h ρ _ _ (Ext.fresh r ha _) (r.fresh ha _) (.tup (SqT.of upd_same) (p.mono r (Ext.fresh r ha _)))
theorem rep_last (r : Rel K H ρ st) (a : Addr) : (ρ ++ [a])[st.os.length]? = some a := by
  rw [← r.len, List.getElem?_append_right (Nat.le_refl _)]
  simp
theorem PostO.newLst {xs : List IV} {vs : List V} (h : PostO K ρ H Q (st.allocO (.lst xs))) (r : Rel K H ρ st) (p : RepVs K H ρ xs vs) : ∀ a, H a = none → Q (.ref a) (upd H a (.lst vs)) := fun a ha =>
  h (ρ ++ [a]) _ _ (Ext.alloc r ha _) (r.alloc ha _ _ ⟨vs, upd_same, p.mono r (Ext.alloc r ha _)⟩) (.ref (rep_last r a))
/-- a list that may be read, by its number -/
def lstAt (st : Sto) (n : Nat) : Option (List IV) :=
  match st.os[n]? with
  | some (.lst xs) => some xs
  | some (.frl xs) => some xs
  | _ => none
theorem lstAt_sq {n : Nat} {xs : List IV} {a : Addr} (r : Rel K H ρ st) (e : lstAt st n = some xs) (ea : ρ[n]? = some a) : ∃ vs, SqL K H a vs ∧ RepVs K H ρ xs vs := by
  unfold lstAt at e
  split at e
  · rename_i h
    cases e
    obtain ⟨vs, q, t⟩ := r.obj n _ a h ea
    exact ⟨vs, .inl (.inl q), t⟩
  · rename_i h
    cases e
    obtain ⟨vs, q, t⟩ := r.obj n _ a h ea
    exact ⟨vs, .inl q, t⟩
  · cases e
/-- the items of a list or tuple -/
def seqOf (st : Sto) : IV → Option (List IV)
  | .tup xs => some xs
  | .ref n => lstAt st n
  | _ => none
theorem seqOf_sq {v : IV} {x : V} {xs : List IV} (r : Rel K H ρ st) (p : RepV K H ρ v x) (e : seqOf st v = some xs) : ∃ a vs, x = .ref a ∧ (SqL K H a vs ∨ SqT K H a vs) ∧ RepVs K H ρ xs vs := by
  cases p with
  | tup h t => cases e; exact ⟨_, _, rfl, .inr h, t⟩
  | ref h =>
    obtain ⟨vs, q, t⟩ := lstAt_sq r e h
    exact ⟨_, _, rfl, .inl q, t⟩
  | _ => cases e
end

/-! ### arithmetic -/
def lineI : Nat := 100000
theorem line_ok {n : Nat} (h : n ≤ lineI) : n ≤ sizeLine := Nat.le_trans h (by decide)
theorem line_lt {n : Nat} (h : n < lineI) : n < sizeLine := Nat.lt_of_lt_of_le h (by decide)
def addI : IV → IV → Sto → RO
  | .int i, .int j, st => some (.int (i + j), st)
  | .tup xs, .tup ys, st => bif Nat.ble (xs.length + ys.length) lineI then some (.tup (xs ++ ys), st) else none
  | .str s, .str t, st => bif Nat.ble (s.length + t.length) lineI then some (.str (s ++ t), st) else none
  | .ref a, .ref b, st => match st.os[a]?, st.os[b]? with
    | some (.lst xs), some (.lst ys) => bif Nat.ble (xs.length + ys.length) lineI then st.allocO (.lst (xs ++ ys)) else none
    | _, _ => none
  | _, _, _ => none
def subI : IV → IV → Sto → RO
  | .int i, .int j, st => some (.int (i - j), st)
  | _, _, _ => none
def mulOk (i j : Int) : Bool := Nat.ble (i.natAbs.log2 + j.natAbs.log2) 900000
def mulI : IV → IV → Sto → RO
  | .int i, .int j, st => bif mulOk i j then some (.int (i * j), st) else none
  | .ref a, .int k, st => match st.os[a]? with
    | some (.lst xs) => bif decide (0 ≤ k) && Nat.ble (xs.length * k.toNat) lineI && decide (k < 1000000) then st.allocO (.lst (List.replicate k.toNat xs).flatten) else none
    | _ => none
  | .tup xs, .int k, st => bif (match xs with | [] => false | _ => true) && decide (2 ≤ k) && decide (k ≤ 1000) && Nat.ble xs.length 1000 then some (.tup (List.replicate k.toNat xs).flatten, st) else none
  | _, _, _ => none
def divI : IV → IV → Sto → RO
  | .int i, .int j, st => bif decide (0 < j) && Nat.blt j.natAbs.log2 9000 then some (.int (i / j), st) else none
  | _, _, _ => none
def modI : IV → IV → Sto → RO
  | .int i, .int j, st => bif decide (0 < j) then some (.int (i % j), st) else none
  | _, _, _ => none
def powI : IV → IV → Sto → RO
  | .int i, .int j, st => bif decide (0 ≤ j) && decide (j ≤ 10000) && Nat.blt i.natAbs (2 ^ 64) then some (.int (i ^ j.toNat), st) else none
  | _, _, _ => none
theorem bif_some {b : Bool} {α : Type} {x : Option α} {P : Option α → Prop} (h : P (bif b then x else none)) (hn : ¬ P none) : b = true ∧ P x := by
  cases b with
  | true => exact ⟨rfl, h⟩
  | false => exact absurd h hn
section
variable {X : Cx}
theorem post_none {K : PySem.W.Frag} {ρ : List Addr} {H : Hp} {Q : VK} : ¬ PostO K ρ H Q none := fun h => h
theorem cps_len (s : List Nat) : (⟨s.toArray⟩ : Str).length = s.length := by simp [Str.length]
theorem str_app (s t : List Nat) : (⟨s.toArray⟩ : Str) ++ (⟨t.toArray⟩ : Str) = ⟨(s ++ t).toArray⟩ := by
  show Str.mk _ = _
  simp
theorem op_addI : OpR X (binaryOp .Add) (rB X.K addI) := by
  rintro pins s σ H x y v u Q I rx ry ⟨ρ, st, va, vb, r, pa, pb, h⟩
  cases pa with
  | int i =>
    cases pb with
    | int j => exact op_add pins s σ H _ _ v u Q I rx ry ⟨i, j, rfl, rfl, h.here r (.int _)⟩
    | _ => exact (post_none h).elim
  | tup ha ta =>
    cases pb with
    | tup hb tb =>
      obtain ⟨e, h⟩ := bif_some (P := PostO X.K ρ H Q) h post_none
      have e' := Nat.le_of_ble_eq_true e
      refine op_catA pins s σ H _ _ v u Q I rx ry ⟨_, _, _, _, rfl, rfl, ha, hb, line_ok (by rw [← ta.length, ← tb.length]; exact e'), fun z => ?_, fun _ z => ?_, fun _ _ => h.newTup r (ta.append tb)⟩
      · subst z
        cases ta
        exact h.here r (.tup hb tb)
      · subst z
        cases tb
        rw [List.append_nil] at h
        exact h.here r (.tup ha ta)
    | _ => exact (post_none h).elim
  | @str s1 h1 =>
    cases pb with
    | @str s2 h2 =>
      obtain ⟨e, h⟩ := bif_some (P := PostO X.K ρ H Q) h post_none
      have e' := Nat.le_of_ble_eq_true e
      refine op_add_str pins s σ H _ _ v u Q I rx ry ⟨_, _, rfl, rfl, line_ok (by rw [cps_len, cps_len]; exact e'), ?_⟩
      rw [str_app]
      exact h.here r (.str (by rw [List.all_append, h1, h2]; rfl))
    | _ => exact (post_none h).elim
  | @ref a a1 ha =>
    cases pb with
    | @ref b b1 hb =>
      have h' : PostO X.K ρ H Q (match st.os[a]?, st.os[b]? with
        | some (.lst xs), some (.lst ys) => bif Nat.ble (xs.length + ys.length) lineI then st.allocO (.lst (xs ++ ys)) else none
        | _, _ => none) := h
      split at h'
      · rename_i xs ys e1 e2
        obtain ⟨e, h⟩ := bif_some (P := PostO X.K ρ H Q) h' post_none
        have e' := Nat.le_of_ble_eq_true e
        obtain ⟨vs, q1, t1⟩ := r.obj _ _ _ e1 ha
        obtain ⟨ws, q2, t2⟩ := r.obj _ _ _ e2 hb
        exact op_cat pins s σ H _ _ v u Q I rx ry ⟨_, _, _, _, rfl, rfl, q1, q2, line_ok (by rw [← t1.length, ← t2.length]; exact e'), h.newLst r (t1.append t2)⟩
      · exact h'.elim
    | _ => exact (post_none h).elim
  | _ => exact (post_none h).elim
theorem op_subI : OpR X (binaryOp .Sub) (rB X.K subI) := by
  rintro pins s σ H x y v u Q I rx ry ⟨ρ, st, va, vb, r, pa, pb, h⟩
  cases pa with
  | int i =>
    cases pb with
    | int j => exact op_sub pins s σ H _ _ v u Q I rx ry ⟨i, j, rfl, rfl, h.here r (.int _)⟩
    | _ => exact (post_none h).elim
  | _ => exact (post_none h).elim
theorem RepVs.flatten {K : PySem.W.Frag} {H : Hp} {ρ : List Addr} {xs : List IV} {vs : List V} (t : RepVs K H ρ xs vs) : ∀ n : Nat, RepVs K H ρ (List.replicate n xs).flatten (List.replicate n vs).flatten
  | 0 => .nil
  | n + 1 => by
    rw [List.replicate_succ, List.replicate_succ, List.flatten_cons, List.flatten_cons]
    exact t.append (RepVs.flatten t n)
theorem op_mulI : OpR X (binaryOp .Mult) (rB X.K mulI) := by
  rintro pins s σ H x y v u Q I rx ry ⟨ρ, st, va, vb, r, pa, pb, h⟩
  cases pa with
  | int i =>
    cases pb with
    | int j =>
      obtain ⟨e, h⟩ := bif_some (P := PostO X.K ρ H Q) h post_none
      exact op_mulW pins s σ H _ _ v u Q I rx ry ⟨i, j, rfl, rfl, Nat.lt_of_le_of_lt (Nat.le_of_ble_eq_true e) (by decide), h.here r (.int _)⟩
    | _ => exact (post_none h).elim
  | tup ha ta =>
    cases pb with
    | int k =>
      obtain ⟨e, h⟩ := bif_some (P := PostO X.K ρ H Q) h post_none
      simp only [Bool.and_eq_true, decide_eq_true_eq] at e
      obtain ⟨⟨⟨e1, e2⟩, e3⟩, e4⟩ := e
      refine op_repT pins s σ H _ _ v u Q I rx ry ⟨_, k, _, rfl, rfl, ha, fun z => ?_, e2, e3, by rw [← ta.length]; exact Nat.le_of_ble_eq_true e4, h.newTup r (ta.flatten _)⟩
      subst z
      cases ta
      cases e1
    | _ => exact (post_none h).elim
  | @ref a a1 ha =>
    cases pb with
    | int k =>
      have h' : PostO X.K ρ H Q (match st.os[a]? with
        | some (.lst xs) => bif decide (0 ≤ k) && Nat.ble (xs.length * k.toNat) lineI && decide (k < 1000000) then st.allocO (.lst (List.replicate k.toNat xs).flatten) else none
        | _ => none) := h
      split at h'
      · rename_i xs e1
        obtain ⟨e, h⟩ := bif_some (P := PostO X.K ρ H Q) h' post_none
        simp only [Bool.and_eq_true, decide_eq_true_eq] at e
        obtain ⟨⟨e2, e3⟩, e4⟩ := e
        obtain ⟨vs, q1, t1⟩ := r.obj _ _ _ e1 ha
        exact op_rep pins s σ H _ _ v u Q I rx ry ⟨_, k, _, rfl, rfl, q1, by omega, by omega, line_ok (by rw [← t1.length]; exact Nat.le_of_ble_eq_true e3), h.newLst r (t1.flatten _)⟩
      · exact h'.elim
    | _ => exact (post_none h).elim
  | _ => exact (post_none h).elim
theorem op_divI : OpR X (binaryOp .FloorDiv) (rB X.K divI) := by
  rintro pins s σ H x y v u Q I rx ry ⟨ρ, st, va, vb, r, pa, pb, h⟩
  cases pa with
  | int i =>
    cases pb with
    | int j =>
      obtain ⟨e, h⟩ := bif_some (P := PostO X.K ρ H Q) h post_none
      simp only [Bool.and_eq_true, decide_eq_true_eq] at e
      exact op_fdivW pins s σ H _ _ v u Q I rx ry ⟨i, j, rfl, rfl, ⟨e.1, by have := e.2; simp [Nat.blt] at this; omega⟩, h.here r (.int _)⟩
    | _ => exact (post_none h).elim
  | _ => exact (post_none h).elim
theorem op_modI : OpR X (binaryOp .Mod) (rB X.K modI) := by
  rintro pins s σ H x y v u Q I rx ry ⟨ρ, st, va, vb, r, pa, pb, h⟩
  cases pa with
  | int i =>
    cases pb with
    | int j =>
      obtain ⟨e, h⟩ := bif_some (P := PostO X.K ρ H Q) h post_none
      exact op_mod pins s σ H _ _ v u Q I rx ry ⟨i, j, rfl, rfl, of_decide_eq_true e, h.here r (.int _)⟩
    | _ => exact (post_none h).elim
  | _ => exact (post_none h).elim
theorem op_powI : OpR X (binaryOp .Pow) (rB X.K powI) := by
  rintro pins s σ H x y v u Q I rx ry ⟨ρ, st, va, vb, r, pa, pb, h⟩
  cases pa with
  | int i =>
    cases pb with
    | int j =>
      obtain ⟨e, h⟩ := bif_some (P := PostO X.K ρ H Q) h post_none
      simp only [Bool.and_eq_true, decide_eq_true_eq] at e
      obtain ⟨⟨e1, e2⟩, e3⟩ := e
      exact op_pow pins s σ H _ _ v u Q I rx ry ⟨i, j, rfl, rfl, ⟨e1, by omega, by simp [Nat.blt] at e3; omega⟩, h.here r (.int _)⟩
    | _ => exact (post_none h).elim
  | _ => exact (post_none h).elim
def negI : IV → Sto → RO
  | .int i, st => some (.int (-i), st)
  | _, _ => none
theorem un_negI : UnR X (unaryOp .USub) (rU1 X.K negI) := by
  rintro pins s σ H x v Q I rx ⟨ρ, st, va, r, pa, h⟩
  cases pa with
  | int i => exact un_neg pins s σ H _ v Q I rx ⟨i, rfl, h.here r (.int _)⟩
  | _ => exact (post_none h).elim
end
end PI

set_option Elab.async false
set_option linter.all false
set_option maxRecDepth 100000
/-! PI3: comparisons. -/
namespace PI
open PySem PySem.Spec PyProof.Rows L2

/-! ### data -/
def allSome {α β : Type} (f : α → Option β) : List α → Option (List β)
  | [] => some []
  | x :: xs => match f x with
    | some d => match allSome f xs with
      | some ds => some (d :: ds)
      | none => none
    | none => none
/-- the data that a value stands for, of no more than so much depth -/
def pd (os : List IO) : Nat → IV → Option PyData
  | 0, v => match v with
    | .non => some .none
    | .bl b => some (.bool b)
    | .int i => some (.int i)
    | .str s => some (.str ⟨s.toArray⟩)
    | .tup _ => none
    | .ref _ => none
  | n + 1, v => match v with
    | .non => some .none
    | .bl b => some (.bool b)
    | .int i => some (.int i)
    | .str s => some (.str ⟨s.toArray⟩)
    | .tup xs => match allSome (pd os n) xs with
      | some ds => some (.tuple ds)
      | none => none
    | .ref k => match lstAt ⟨os, 0⟩ k with
      | some xs => match allSome (pd os n) xs with
        | some ds => some (.list ds)
        | none => none
      | none => none
section
variable {K : PySem.W.Frag} {H : Hp} {ρ : List Addr} {st : Sto} {Q : VK}
theorem strOk_of {s : List Nat} (h : s.all (fun c => decide (c < 0x110000)) = true) : PyData.strOk ⟨s.toArray⟩ = true := by
  unfold PyData.strOk
  simpa using h
theorem depthAll_le {n : Nat} : ∀ {ds : List PyData}, (∀ d ∈ ds, PyData.depth d ≤ n) → PyData.depthAll ds ≤ n
  | [], _ => by simp [PyData.depthAll]
  | d :: ds, h => by
    have h1 := h d List.mem_cons_self
    have h2 := depthAll_le fun e he => h e (List.mem_cons_of_mem _ he)
    simp only [PyData.depthAll]
    omega
theorem canAll {ds : List PyData} (h : ∀ d ∈ ds, PyData.canLay0 d = true) : PyData.canLayAll0 ds = true := by
  induction ds with
  | nil => rfl
  | cons d ds ih =>
    simp only [PyData.canLayAll0, Bool.and_eq_true]
    exact ⟨h d List.mem_cons_self, ih fun e he => h e (List.mem_cons_of_mem _ he)⟩
/-- what is known of such data -/
structure PdOk (K : PySem.W.Frag) (H : Hp) (n : Nat) (x : V) (d : PyData) : Prop where
  dp : Dp K H x d
  can : PyData.canLay0 d = true
  dep : PyData.depth d ≤ n
theorem allSome_ok {f : IV → Option PyData} {n : Nat} (hf : ∀ (v : IV) (x : V) (d : PyData), RepV K H ρ v x → f v = some d → PdOk K H n x d) :
    ∀ {xs : List IV} {vs : List V} {ds : List PyData}, RepVs K H ρ xs vs → allSome f xs = some ds → DpAll K H vs ds ∧ ∀ d ∈ ds, PyData.canLay0 d = true ∧ PyData.depth d ≤ n
  | _, _, ds, .nil, e => by
    cases e
    exact ⟨.nil, fun _ z => nomatch z⟩
  | _, _, ds, .cons (x := x) (xs := xs) h t, e => by
    unfold allSome at e
    split at e
    · rename_i d e1
      split at e
      · rename_i es e2
        cases e
        have o := hf _ _ _ h e1
        obtain ⟨q1, q2⟩ := allSome_ok hf t e2
        refine ⟨.cons o.dp q1, fun c hc => ?_⟩
        rcases List.mem_cons.mp hc with rfl | hc
        · exact ⟨o.can, o.dep⟩
        · exact q2 c hc
      · cases e
    · cases e
theorem pd_ok (r : Rel K H ρ st) : ∀ (n : Nat) (v : IV) (x : V) (d : PyData), RepV K H ρ v x → pd st.os n v = some d → PdOk K H n x d
  | 0, _, _, d, p, e => by
    cases p with
    | non => cases e; exact ⟨.non, rfl, Nat.zero_le _⟩
    | bl b => cases e; exact ⟨.bl b, rfl, Nat.zero_le _⟩
    | int i => cases e; exact ⟨.int i, rfl, Nat.zero_le _⟩
    | str h => cases e; exact ⟨.str _, strOk_of h, Nat.zero_le _⟩
    | tup h t => cases e
    | ref h => cases e
  | n + 1, _, _, d, p, e => by
    cases p with
    | non => cases e; exact ⟨.non, rfl, Nat.zero_le _⟩
    | bl b => cases e; exact ⟨.bl b, rfl, Nat.zero_le _⟩
    | int i => cases e; exact ⟨.int i, rfl, Nat.zero_le _⟩
    | str h => cases e; exact ⟨.str _, strOk_of h, Nat.zero_le _⟩
    | @tup xs vs a h t =>
      have e' : (match allSome (pd st.os n) xs with
        | some ds => some (PyData.tuple ds)
        | none => none) = some d := e
      split at e'
      · rename_i ds e1
        cases e'
        obtain ⟨q1, q2⟩ := allSome_ok (fun v x d p q => pd_ok r n v x d p q) t e1
        exact ⟨.tup h q1, canAll fun d hd => (q2 d hd).1, Nat.succ_le_succ (depthAll_le fun d hd => (q2 d hd).2)⟩
      · cases e'
    | @ref k a h =>
      have e' : (match lstAt ⟨st.os, 0⟩ k with
        | some xs => match allSome (pd st.os n) xs with
          | some ds => some (PyData.list ds)
          | none => none
        | none => none) = some d := e
      split at e'
      · rename_i xs e0
        split at e'
        · rename_i ds e1
          cases e'
          obtain ⟨vs, q0, t⟩ := lstAt_sq r (show lstAt st k = some xs from e0) h
          obtain ⟨q1, q2⟩ := allSome_ok (fun v x d p q => pd_ok r n v x d p q) t e1
          exact ⟨.lst q0 q1, canAll fun d hd => (q2 d hd).1, Nat.succ_le_succ (depthAll_le fun d hd => (q2 d hd).2)⟩
        · cases e'
      · cases e'
theorem PdOk.shaped {x : V} {d : PyData} {n : Nat} (h : PdOk K H n x d) (hn : n ≤ 64) : SeqAt.shaped d = true := by
  unfold SeqAt.shaped
  rw [h.can, Bool.true_and]
  have := h.dep
  exact decide_eq_true (by omega)
end
/-- == -/
def eqI (st : Sto) (a b : IV) : Option Bool :=
  match a, b with
  | .int i, .int j => some (decide (i = j))
  | .str s, .str t => some (s == t)
  | a, b => match pd st.os 63 a with
    | some d => match pd st.os 63 b with
      | some e => some (PyData.eqv d e)
      | none => none
    | none => none
theorem str_beq (s t : List Nat) : ((⟨s.toArray⟩ : Str) == ⟨t.toArray⟩) = (s == t) := by
  rw [Bool.eq_iff_iff]
  simp
theorem eqI_pd {st : Sto} {a b : IV} {r : Bool} (h : eqI st a b = some r) : ∃ d e, pd st.os 63 a = some d ∧ pd st.os 63 b = some e ∧ PyData.eqv d e = r := by
  unfold eqI at h
  split at h
  · rename_i i j
    cases h
    exact ⟨_, _, rfl, rfl, by rw [PyData.eqv]; rfl⟩
  · rename_i s t
    cases h
    refine ⟨_, _, rfl, rfl, ?_⟩
    show ((⟨s.toArray⟩ : Str) == ⟨t.toArray⟩) = (s == t)
    exact str_beq s t
  · split at h
    · rename_i d e1
      split at h
      · rename_i e e2
        cases h
        exact ⟨d, e, e1, e2, rfl⟩
      · cases h
    · cases h
def blO (o : Option Bool) (st : Sto) : RO := match o with
  | some b => some (.bl b, st)
  | none => none
def blN (o : Option Bool) (st : Sto) : RO := match o with
  | some b => some (.bl (!b), st)
  | none => none
/-- x in a list or tuple: each item must be comparable -/
def anyEq (st : Sto) (x : IV) : List IV → Option Bool
  | [] => some false
  | y :: ys => match eqI st y x with
    | some b => match anyEq st x ys with
      | some c => some (b || c)
      | none => none
    | none => none
def inI (st : Sto) (x : IV) : IV → Option Bool
  | .str s => match x with
    | .str [c] => some (s.contains c)
    | _ => none
  | .tup xs => match pd st.os 63 x with
    | some _ => anyEq st x xs
    | none => none
  | .ref n => match lstAt st n with
    | some xs => match pd st.os 63 x with
      | some _ => anyEq st x xs
      | none => none
    | none => none
  | _ => none
def isNI : IV → IV → Option Bool
  | .non, .non => some true
  | _, .non => some false
  | _, _ => none
def ltI : IV → IV → Option Bool
  | .int i, .int j => some (decide (i < j))
  | _, _ => none
def leI : IV → IV → Option Bool
  | .int i, .int j => some (decide (i ≤ j))
  | _, _ => none
section
variable {X : Cx} {K : PySem.W.Frag} {H : Hp} {ρ : List Addr} {st : Sto} {Q : VK}
theorem blO_some {o : Option Bool} (h : PostO K ρ H Q (blO o st)) : ∃ b, o = some b ∧ PostO K ρ H Q (some (.bl b, st)) := by
  cases o with
  | some b => exact ⟨b, rfl, h⟩
  | none => exact h.elim
theorem blN_some {o : Option Bool} (h : PostO K ρ H Q (blN o st)) : ∃ b, o = some b ∧ PostO K ρ H Q (some (.bl (!b), st)) := by
  cases o with
  | some b => exact ⟨b, rfl, h⟩
  | none => exact h.elim
theorem op_eqI (hu : X.A.units + 64 < cLine) : OpR X (compareOp .Eq) (rB X.K fun a b st => blO (eqI st a b) st) := by
  rintro pins s σ H x y v u Q I rx ry ⟨ρ, st, va, vb, r, pa, pb, h⟩
  obtain ⟨b, e, h⟩ := blO_some h
  obtain ⟨d1, d2, e1, e2, e3⟩ := eqI_pd e
  have o1 := pd_ok r 63 _ _ _ pa e1
  have o2 := pd_ok r 63 _ _ _ pb e2
  exact op_eqD hu pins s σ H _ _ v u Q I rx ry ⟨d1, d2, o1.dp, o2.dp, o1.shaped (by decide), o2.shaped (by decide), by rw [e3]; exact h.here r (.bl _)⟩
theorem op_neI (hu : X.A.units + 64 < cLine) : OpR X (compareOp .NotEq) (rB X.K fun a b st => blN (eqI st a b) st) := by
  rintro pins s σ H x y v u Q I rx ry ⟨ρ, st, va, vb, r, pa, pb, h⟩
  obtain ⟨b, e, h⟩ := blN_some h
  obtain ⟨d1, d2, e1, e2, e3⟩ := eqI_pd e
  have o1 := pd_ok r 63 _ _ _ pa e1
  have o2 := pd_ok r 63 _ _ _ pb e2
  exact op_neD hu pins s σ H _ _ v u Q I rx ry ⟨d1, d2, o1.dp, o2.dp, o1.shaped (by decide), o2.shaped (by decide), by rw [e3]; exact h.here r (.bl _)⟩
theorem anyEq_pd {x : IV} {d : PyData} (hx : pd st.os 63 x = some d) : ∀ {xs : List IV} {b : Bool}, anyEq st x xs = some b → ∃ ds, allSome (pd st.os 63) xs = some ds ∧ (ds.any fun z => PyData.eqv z d) = b
  | [], b, h => by
    cases h
    exact ⟨[], rfl, rfl⟩
  | y :: ys, b, h => by
    unfold anyEq at h
    split at h
    · rename_i c1 e1
      split at h
      · rename_i c2 e2
        cases h
        obtain ⟨d1, d2, q1, q2, q3⟩ := eqI_pd e1
        rw [hx] at q2
        cases q2
        obtain ⟨ds, q4, q5⟩ := anyEq_pd hx e2
        refine ⟨d1 :: ds, ?_, ?_⟩
        · unfold allSome
          rw [q1]
          simp only []
          rw [q4]
        · rw [List.any_cons, q3, q5]
      · cases h
    · cases h
theorem in_seqI {x : V} {va : IV} {xs : List IV} {vs : List V} {a : Addr} {b : Bool} {d : PyData} {pins : List (Addr × Obj)} {s : Shared} {σ : L2.St} {v u : Value} (hu : X.A.units + 64 < cLine) (I : Inv X pins σ H s) (rx : RelV x v) (ry : RelV (.ref a) u) (r : Rel X.K H ρ st) (pa : RepV X.K H ρ va x)
    (hq : SqL X.K H a vs ∨ SqT X.K H a vs) (t : RepVs X.K H ρ xs vs) (hd : pd st.os 63 va = some d) (e : anyEq st va xs = some b) : ∃ (ds : List PyData), (SqL X.K H a vs → Dp X.K H (.ref a) (.list ds)) ∧ (SqT X.K H a vs → Dp X.K H (.ref a) (.tuple ds)) ∧
      SeqAt.shaped (.list ds) = true ∧ SeqAt.shaped (.tuple ds) = true ∧ Dp X.K H x d ∧ SeqAt.shaped d = true ∧ (ds.any fun z => PyData.eqv z d) = b := by
  obtain ⟨ds, q1, q2⟩ := anyEq_pd hd e
  have o := pd_ok r 63 _ _ _ pa hd
  obtain ⟨q3, q4⟩ := allSome_ok (fun v x d p q => pd_ok r 63 v x d p q) t q1
  have hc : PyData.canLayAll0 ds = true := canAll fun d hd => (q4 d hd).1
  have hdp : PyData.depthAll ds ≤ 63 := depthAll_le fun d hd => (q4 d hd).2
  refine ⟨ds, fun z => .lst z q3, fun z => .tup z q3, ?_, ?_, o.dp, o.shaped (by decide), q2⟩
  · unfold SeqAt.shaped
    rw [show PyData.canLay0 (.list ds) = true from hc, Bool.true_and]
    exact decide_eq_true (Nat.succ_le_succ hdp)
  · unfold SeqAt.shaped
    rw [show PyData.canLay0 (.tuple ds) = true from hc, Bool.true_and]
    exact decide_eq_true (Nat.succ_le_succ hdp)

theorem op_inI (hu : X.A.units + 65 < cLine) : OpR X (compareOp .In) (rB X.K fun a b st => blO (inI st a b) st) := by
  rintro pins s σ H x y v u Q I rx ry ⟨ρ, st, va, vb, r, pa, pb, h⟩
  obtain ⟨b, e, hp⟩ := blO_some h
  cases pb with
  | @str s2 h2 =>
    cases pa with
    | @str s1 h1 =>
      have e' : (match (IV.str s1) with
        | .str [c] => some (s2.contains c)
        | _ => none) = some b := e
      split at e'
      · rename_i c ec
        cases e'
        cases ec
        refine op_in_sign pins s σ H _ _ v u Q I rx ry ⟨c, _, rfl, rfl, ?_⟩
        have : decide (c ∈ (⟨s2.toArray⟩ : Str).cps.toList) = s2.contains c := by
          rw [Bool.eq_iff_iff]
          simp
        rw [this]
        exact hp.here r (.bl _)
      · cases e'
    | _ => cases e
  | @tup xs vs a ha t =>
    have e' : (match pd st.os 63 va with
      | some _ => anyEq st va xs
      | none => none) = some b := e
    split at e'
    · rename_i d hd
      obtain ⟨ds, q1, q2, q3, q4, q5, q6, q7⟩ := in_seqI (by omega) I rx ry r pa (.inr ha) t hd e'
      obtain ⟨as, r1⟩ := Dp.reads I _ _ _ q5 rx
      obtain ⟨bs, r2⟩ := Dp.reads I _ _ _ (q2 ha) ry
      exact SeqAt.in_tuple_reads r2 r1 (SeqAt.canLay_of_shaped q4) (SeqAt.canLay_of_shaped q6) (room_in_shaped q6 hu) ⟨.bl _, H, I, rfl, by rw [q7]; exact hp.here r (.bl _)⟩
    · cases e'
  | @ref n a ha =>
    have e' : (match lstAt st n with
      | some xs => match pd st.os 63 va with
        | some _ => anyEq st va xs
        | none => none
      | none => none) = some b := e
    split at e'
    · rename_i xs e0
      split at e'
      · rename_i d hd
        obtain ⟨vs, q0, t⟩ := lstAt_sq r e0 ha
        obtain ⟨ds, q1, q2, q3, q4, q5, q6, q7⟩ := in_seqI (by omega) I rx ry r pa (.inl q0) t hd e'
        obtain ⟨as, r1⟩ := Dp.reads I _ _ _ q5 rx
        obtain ⟨bs, r2⟩ := Dp.reads I _ _ _ (q1 q0) ry
        exact SeqAt.in_list_reads r2 r1 (SeqAt.canLay_of_shaped q3) (SeqAt.canLay_of_shaped q6) (room_in_shaped q6 hu) ⟨.bl _, H, I, rfl, by rw [q7]; exact hp.here r (.bl _)⟩
      · cases e'
    · cases e'
  | _ => cases e
theorem op_notInI (hu : X.A.units + 65 < cLine) : OpR X (compareOp .NotIn) (rB X.K fun a b st => blN (inI st a b) st) := by
  rintro pins s σ H x y v u Q I rx ry ⟨ρ, st, va, vb, r, pa, pb, h⟩
  obtain ⟨b, e, hp⟩ := blN_some h
  cases pb with
  | @str s2 h2 =>
    cases pa with
    | @str s1 h1 =>
      have e' : (match (IV.str s1) with
        | .str [c] => some (s2.contains c)
        | _ => none) = some b := e
      split at e'
      · rename_i c ec
        cases e'
        cases ec
        refine op_notIn_sign pins s σ H _ _ v u Q I rx ry ⟨c, _, rfl, rfl, ?_⟩
        have : decide (c ∈ (⟨s2.toArray⟩ : Str).cps.toList) = s2.contains c := by
          rw [Bool.eq_iff_iff]
          simp
        rw [this]
        exact hp.here r (.bl _)
      · cases e'
    | _ => cases e
  | @tup xs vs a ha t =>
    have e' : (match pd st.os 63 va with
      | some _ => anyEq st va xs
      | none => none) = some b := e
    split at e'
    · rename_i d hd
      obtain ⟨ds, q1, q2, q3, q4, q5, q6, q7⟩ := in_seqI (by omega) I rx ry r pa (.inr ha) t hd e'
      obtain ⟨as, r1⟩ := Dp.reads I _ _ _ q5 rx
      obtain ⟨bs, r2⟩ := Dp.reads I _ _ _ (q2 ha) ry
      exact SeqAt.notIn_tuple_reads r2 r1 (SeqAt.canLay_of_shaped q4) (SeqAt.canLay_of_shaped q6) (room_in_shaped q6 hu) ⟨.bl _, H, I, rfl, by rw [q7]; exact hp.here r (.bl _)⟩
    · cases e'
  | @ref n a ha =>
    have e' : (match lstAt st n with
      | some xs => match pd st.os 63 va with
        | some _ => anyEq st va xs
        | none => none
      | none => none) = some b := e
    split at e'
    · rename_i xs e0
      split at e'
      · rename_i d hd
        obtain ⟨vs, q0, t⟩ := lstAt_sq r e0 ha
        obtain ⟨ds, q1, q2, q3, q4, q5, q6, q7⟩ := in_seqI (by omega) I rx ry r pa (.inl q0) t hd e'
        obtain ⟨as, r1⟩ := Dp.reads I _ _ _ q5 rx
        obtain ⟨bs, r2⟩ := Dp.reads I _ _ _ (q1 q0) ry
        exact SeqAt.notIn_list_reads r2 r1 (SeqAt.canLay_of_shaped q3) (SeqAt.canLay_of_shaped q6) (room_in_shaped q6 hu) ⟨.bl _, H, I, rfl, by rw [q7]; exact hp.here r (.bl _)⟩
      · cases e'
    · cases e'
  | _ => cases e
theorem isN_some {a b : IV} {k : Bool} {x y : V} (pa : RepV K H ρ a x) (pb : RepV K H ρ b y) (e : isNI a b = some k) : y = .non ∧ decide (x = .non) = k := by
  cases pb with
  | non =>
    cases pa with
    | non => cases e; exact ⟨rfl, rfl⟩
    | _ => cases e; exact ⟨rfl, rfl⟩
  | _ => cases pa <;> cases e
theorem op_isI : OpR X (compareOp .Is) (rB X.K fun a b st => blO (isNI a b) st) := by
  rintro pins s σ H x y v u Q I rx ry ⟨ρ, st, va, vb, r, pa, pb, h⟩
  obtain ⟨b, e, h⟩ := blO_some h
  obtain ⟨e1, e2⟩ := isN_some pa pb e
  exact op_isN pins s σ H _ _ v u Q I rx ry ⟨e1, by rw [e2]; exact h.here r (.bl _)⟩
theorem op_isnotI : OpR X (compareOp .IsNot) (rB X.K fun a b st => blN (isNI a b) st) := by
  rintro pins s σ H x y v u Q I rx ry ⟨ρ, st, va, vb, r, pa, pb, h⟩
  obtain ⟨b, e, h⟩ := blN_some h
  obtain ⟨e1, e2⟩ := isN_some pa pb e
  exact op_notN pins s σ H _ _ v u Q I rx ry ⟨e1, by rw [e2]; exact h.here r (.bl _)⟩
theorem op_ltI : OpR X (compareOp .Lt) (rB X.K fun a b st => blO (ltI a b) st) := by
  rintro pins s σ H x y v u Q I rx ry ⟨ρ, st, va, vb, r, pa, pb, h⟩
  obtain ⟨b, e, h⟩ := blO_some h
  cases pa with
  | int i =>
    cases pb with
    | int j => cases e; exact op_lt pins s σ H _ _ v u Q I rx ry ⟨i, j, rfl, rfl, h.here r (.bl _)⟩
    | _ => cases e
  | _ => cases e
theorem op_leI : OpR X (compareOp .LtE) (rB X.K fun a b st => blO (leI a b) st) := by
  rintro pins s σ H x y v u Q I rx ry ⟨ρ, st, va, vb, r, pa, pb, h⟩
  obtain ⟨b, e, h⟩ := blO_some h
  cases pa with
  | int i =>
    cases pb with
    | int j => cases e; exact op_le pins s σ H _ _ v u Q I rx ry ⟨i, j, rfl, rfl, h.here r (.bl _)⟩
    | _ => cases e
  | _ => cases e
theorem op_gtI : OpR X (compareOp .Gt) (rB X.K fun a b st => blO (ltI b a) st) := by
  rintro pins s σ H x y v u Q I rx ry ⟨ρ, st, va, vb, r, pa, pb, h⟩
  obtain ⟨b, e, h⟩ := blO_some h
  cases pa with
  | int i =>
    cases pb with
    | int j => cases e; exact op_gt pins s σ H _ _ v u Q I rx ry ⟨i, j, rfl, rfl, h.here r (.bl _)⟩
    | _ => cases e
  | _ => cases pb <;> cases e
theorem op_geI : OpR X (compareOp .GtE) (rB X.K fun a b st => blO (leI b a) st) := by
  rintro pins s σ H x y v u Q I rx ry ⟨ρ, st, va, vb, r, pa, pb, h⟩
  obtain ⟨b, e, h⟩ := blO_some h
  cases pa with
  | int i =>
    cases pb with
    | int j => cases e; exact op_ge pins s σ H _ _ v u Q I rx ry ⟨i, j, rfl, rfl, h.here r (.bl _)⟩
    | _ => cases e
  | _ => cases pb <;> cases e
end
end PI

set_option Elab.async false
set_option linter.all false
set_option maxRecDepth 100000
/-! PI4: places, slices, builtins by values, methods. -/
namespace PI
open PySem PySem.Spec PyProof.Rows L2

section
variable {K : PySem.W.Frag} {H : Hp} {ρ : List Addr} {st : Sto} {Q : VK}
theorem RepVs.atI : ∀ {xs : List IV} {vs : List V} {i : Int} {x : IV}, RepVs K H ρ xs vs → L2.atI xs i = some x → ∃ v, L2.atI vs i = some v ∧ RepV K H ρ x v := by
  intro xs vs i x t e
  unfold L2.atI at e ⊢
  rw [← t.length]
  cases q : ixN xs.length i with
  | none => rw [q] at e; cases e
  | some j =>
    rw [q] at e
    exact t.get e
end
def idxI : IV → IV → Sto → RO
  | .tup xs, .int i, st => match L2.atI xs i with
    | some v => some (v, st)
    | none => none
  | .ref n, .int i, st => match lstAt st n with
    | some xs => match L2.atI xs i with
      | some v => some (v, st)
      | none => none
    | none => none
  | .str s, .int i, st => bif Nat.ble s.length lineI then (match L2.atI s i with
    | some c => some (.str [c], st)
    | none => none) else none
  | _, _, _ => none
theorem ix_I {X : Cx} : IxR X (rB X.K idxI) := by
  rintro value slice pins s σ H x y v u Q I rx ry ⟨ρ, st, va, vb, r, pa, pb, h⟩ hs
  cases pb with
  | int i =>
    cases pa with
    | @tup xs vs a ha t =>
      have h' : PostO X.K ρ H Q (match L2.atI xs i with
        | some v => some (v, st)
        | none => none) := h
      split at h'
      · rename_i w e
        obtain ⟨z, e1, p⟩ := t.atI e
        exact ix_tup value slice pins s σ H _ _ v u Q I rx ry ⟨a, vs, i, z, rfl, rfl, ha, e1, h'.here r p⟩ hs
      · exact h'.elim
    | @ref n a ha =>
      have h' : PostO X.K ρ H Q (match lstAt st n with
        | some xs => match L2.atI xs i with
          | some v => some (v, st)
          | none => none
        | none => none) := h
      split at h'
      · rename_i xs e0
        split at h'
        · rename_i w e
          obtain ⟨vs, q, t⟩ := lstAt_sq r e0 ha
          obtain ⟨z, e1, p⟩ := t.atI e
          exact ix_list value slice pins s σ H _ _ v u Q I rx ry ⟨a, vs, i, z, rfl, rfl, q, e1, h'.here r p⟩ hs
        · exact h'.elim
      · exact h'.elim
    | @str s1 h1 =>
      obtain ⟨e0, h'⟩ := bif_some (P := PostO X.K ρ H Q) h post_none
      split at h'
      · rename_i c e
        refine ix_str value slice pins s σ H _ _ v u Q I rx ry ⟨_, i, c, rfl, rfl, line_ok (by rw [cps_len]; exact Nat.le_of_ble_eq_true e0), ?_, h'.here r ?_⟩ hs
        · simpa using e
        · obtain ⟨j, _, hj, _⟩ := atI_get e
          have hm : c ∈ s1 := List.mem_of_getElem? hj
          have hc := List.all_eq_true.mp h1 c hm
          exact RepV.str (s := [c]) (by rw [List.all_cons, hc]; rfl)
      · exact h'.elim
    | _ => exact (post_none h).elim
  | _ => exfalso; cases pa <;> exact post_none h

/-! ### slices -/
def cutI {α : Type} (xs : List α) (lo hi : Option Int) : List α := (xs.drop (HT.sIx xs.length 0 lo)).take (HT.sIx xs.length xs.length hi - HT.sIx xs.length 0 lo)
def slcI (v : IV) (lo hi : Option Int) (st : Sto) : RO :=
  match v with
  | .tup xs => some (.tup (cutI xs lo hi), st)
  | .ref n => match lstAt st n with
    | some xs => st.allocO (.lst (cutI xs lo hi))
    | none => none
  | _ => none
def rS (K : PySem.W.Frag) : V → Option Int → Option Int → Hp → VK → Prop := fun x lo hi H Q => ∃ ρ st va, Rel K H ρ st ∧ RepV K H ρ va x ∧ PostO K ρ H Q (slcI va lo hi st)
theorem RepVs.cut {K : PySem.W.Frag} {H : Hp} {ρ : List Addr} {xs : List IV} {vs : List V} (t : RepVs K H ρ xs vs) (lo hi : Option Int) : RepVs K H ρ (cutI xs lo hi) (cutV vs lo hi) := by
  unfold cutI cutV
  rw [t.length]
  exact (t.drop _).take _
theorem cut_whole {α : Type} {xs : List α} {lo hi : Option Int} (h : HT.sIx xs.length 0 lo = 0 ∧ HT.sIx xs.length xs.length hi = xs.length) : cutI xs lo hi = xs := by
  unfold cutI
  rw [h.1, h.2]
  simp
theorem sl_I {X : Cx} : SlR X (rS X.K) := by
  rintro pins s σ H x v vl vu lo hi sl Q I rx hs pl pu ⟨ρ, st, va, r, pa, h⟩
  cases pa with
  | @tup xs vs a ha t =>
    have h' : PostO X.K ρ H Q (some (.tup (cutI xs lo hi), st)) := h
    refine sl_tupA pins s σ H _ v vl vu lo hi sl Q I rx hs pl pu ⟨a, vs, rfl, ha, fun z => ?_, fun z => h'.newTup r (t.cut lo hi)⟩
    rw [← t.length] at z
    rw [cut_whole z] at h'
    exact h'.here r (.tup ha t)
  | @ref n a ha =>
    have h' : PostO X.K ρ H Q (match lstAt st n with
      | some xs => st.allocO (.lst (cutI xs lo hi))
      | none => none) := h
    split at h'
    · rename_i xs e0
      obtain ⟨vs, q, t⟩ := lstAt_sq r e0 ha
      exact sl_list pins s σ H _ v vl vu lo hi sl Q I rx hs pl pu ⟨a, vs, rfl, q, h'.newLst r (t.cut lo hi)⟩
    · exact h'.elim
  | _ => exact (post_none h).elim

/-! ### truth -/
def truI (st : Sto) : IV → Option Bool
  | .non => some false
  | .bl b => some b
  | .int i => some (i != 0)
  | .str s => bif Nat.ble s.length lineI then some (!s.isEmpty) else none
  | .tup xs => some (!xs.isEmpty)
  | .ref n => match lstAt st n with
    | some xs => some (!xs.isEmpty)
    | none => none
theorem isEmpty_len {α β : Type} {xs : List α} {ys : List β} (h : xs.length = ys.length) : xs.isEmpty = ys.isEmpty := by
  cases xs <;> cases ys <;> simp_all
theorem truI_ok {K : PySem.W.Frag} {H : Hp} {ρ : List Addr} {st : Sto} {v : IV} {x : V} {k : Bool} (r : Rel K H ρ st) (p : RepV K H ρ v x) (e : truI st v = some k) : TruV K x H k := by
  cases p with
  | non => cases e; exact rfl
  | bl b => cases e; exact rfl
  | int i => cases e; exact rfl
  | @str s h =>
    have e' : (bif Nat.ble s.length lineI then some (!s.isEmpty) else none) = some k := e
    cases hb : Nat.ble s.length lineI with
    | false => rw [hb] at e'; cases e'
    | true =>
      rw [hb] at e'
      cases e'
      refine ⟨line_ok (by rw [cps_len]; exact Nat.le_of_ble_eq_true hb), ?_⟩
      rw [cps_len]
      cases s with
      | nil => rfl
      | cons c r =>
        rw [List.length_cons]
        have : (((r.length + 1 : Nat) : Int) != 0) = true := by simp; omega
        rw [this]; rfl
  | @tup xs vs a ha t => cases e; exact .inr (.inl ⟨vs, ha, by rw [isEmpty_len t.length]⟩)
  | @ref n a ha =>
    have e' : (match lstAt st n with
      | some xs => some (!xs.isEmpty)
      | none => none) = some k := e
    split at e'
    · rename_i xs e0
      obtain ⟨vs, q, t⟩ := lstAt_sq r e0 ha
      cases e'
      exact .inl ⟨vs, q, by rw [isEmpty_len t.length]⟩
    · cases e'

/-! ### builtins -/
def lenI : List IV → Sto → RO
  | [.str s], st => bif Nat.ble s.length lineI then some (.int s.length, st) else none
  | [v], st => match seqOf st v with
    | some xs => some (.int xs.length, st)
    | none => none
  | _, _ => none
def absI : List IV → Sto → RO
  | [.int i], st => some (.int (if i < 0 then -i else i), st)
  | _, _ => none
def intI : List IV → Sto → RO
  | [.int i], st => some (.int i, st)
  | [.bl b], st => some (.int (if b then 1 else 0), st)
  | _, _ => none
def tupleI : List IV → Sto → RO
  | [.tup xs], st => some (.tup xs, st)
  | [.ref n], st => match lstAt st n with
    | some xs => some (.tup xs, st)
    | none => none
  | _, _ => none
def listI : List IV → Sto → RO
  | [v], st => match seqOf st v with
    | some xs => st.allocO (.lst xs)
    | none => none
  | _, _ => none
def bools : List IV → Option (List Bool)
  | [] => some []
  | .bl b :: r => match bools r with
    | some bs => some (b :: bs)
    | none => none
  | _ :: _ => none
def intsOf : List IV → Option (List Int)
  | [] => some []
  | .int b :: r => match intsOf r with
    | some bs => some (b :: bs)
    | none => none
  | _ :: _ => none
def allI : List IV → Sto → RO
  | [.ref n], st => match lstAt st n with
    | some xs => match bools xs with
      | some bs => some (.bl (bs.all id), st)
      | none => none
    | none => none
  | _, _ => none
def anyI : List IV → Sto → RO
  | [.ref n], st => match lstAt st n with
    | some xs => match bools xs with
      | some bs => some (.bl (bs.any id), st)
      | none => none
    | none => none
  | _, _ => none
def sumI : List IV → Sto → RO
  | [.ref n], st => match lstAt st n with
    | some xs => match intsOf xs with
      | some ns => some (.int ns.sum, st)
      | none => none
    | none => none
  | _, _ => none
def maxL : Int → List Int → Int
  | m, [] => m
  | m, x :: r => maxL (if m < x then x else m) r
def minL : Int → List Int → Int
  | m, [] => m
  | m, x :: r => minL (if x < m then x else m) r
def maxI : List IV → Sto → RO
  | [.ref n], st => match lstAt st n with
    | some xs => match intsOf xs with
      | some (m :: ns) => some (.int (maxL m ns), st)
      | _ => none
    | none => none
  | _, _ => none
def minI : List IV → Sto → RO
  | [.ref n], st => match lstAt st n with
    | some xs => match intsOf xs with
      | some (m :: ns) => some (.int (minL m ns), st)
      | _ => none
    | none => none
  | _, _ => none
section
variable {K : PySem.W.Frag} {H : Hp} {ρ : List Addr} {st : Sto} {Q : VK}
theorem bools_ok : ∀ {xs : List IV} {vs : List V} {bs : List Bool}, RepVs K H ρ xs vs → bools xs = some bs → vs = bs.map V.bl
  | _, _, _, .nil, e => by cases e; rfl
  | _, _, _, .cons (x := x) (xs := xs) h t, e => by
    cases h with
    | bl b =>
      have e' : (match bools xs with
        | some bs => some (b :: bs)
        | none => none) = some _ := e
      split at e'
      · rename_i cs e1
        cases e'
        rw [bools_ok t e1]
        rfl
      · cases e'
    | _ => cases e
theorem ints_ok : ∀ {xs : List IV} {vs : List V} {bs : List Int}, RepVs K H ρ xs vs → intsOf xs = some bs → vs = bs.map V.int
  | _, _, _, .nil, e => by cases e; rfl
  | _, _, _, .cons (x := x) (xs := xs) h t, e => by
    cases h with
    | int b =>
      have e' : (match intsOf xs with
        | some bs => some (b :: bs)
        | none => none) = some _ := e
      split at e'
      · rename_i cs e1
        cases e'
        rw [ints_ok t e1]
        rfl
      · cases e'
    | _ => cases e
theorem maxL_mem : ∀ (m : Int) (ns : List Int), maxL m ns ∈ m :: ns ∧ ∀ y ∈ m :: ns, y ≤ maxL m ns
  | m, [] => ⟨by simp [maxL], fun y hy => by have : y = m := by simpa using hy
                                             rw [this]; exact Int.le_refl _⟩
  | m, x :: r => by
    obtain ⟨h1, h2⟩ := maxL_mem (if m < x then x else m) r
    have e : maxL m (x :: r) = maxL (if m < x then x else m) r := rfl
    rw [e]
    refine ⟨?_, fun y hy => ?_⟩
    · rcases List.mem_cons.mp h1 with q | q
      · rw [q]
        split
        · exact List.mem_cons_of_mem _ List.mem_cons_self
        · exact List.mem_cons_self
      · exact List.mem_cons_of_mem _ (List.mem_cons_of_mem _ q)
    · have hm := h2 _ List.mem_cons_self
      rcases List.mem_cons.mp hy with q | q
      · rw [q]; by_cases h : m < x
        · simp only [if_pos h] at hm ⊢; omega
        · simp only [if_neg h] at hm ⊢; omega
      · rcases List.mem_cons.mp q with q | q
        · rw [q]; by_cases h : m < x
          · simp only [if_pos h] at hm ⊢; omega
          · simp only [if_neg h] at hm ⊢; omega
        · exact h2 y (List.mem_cons_of_mem _ q)
theorem minL_mem : ∀ (m : Int) (ns : List Int), minL m ns ∈ m :: ns ∧ ∀ y ∈ m :: ns, minL m ns ≤ y
  | m, [] => ⟨by simp [minL], fun y hy => by have : y = m := by simpa using hy
                                             rw [this]; exact Int.le_refl _⟩
  | m, x :: r => by
    obtain ⟨h1, h2⟩ := minL_mem (if x < m then x else m) r
    have e : minL m (x :: r) = minL (if x < m then x else m) r := rfl
    rw [e]
    refine ⟨?_, fun y hy => ?_⟩
    · rcases List.mem_cons.mp h1 with q | q
      · rw [q]
        split
        · exact List.mem_cons_of_mem _ List.mem_cons_self
        · exact List.mem_cons_self
      · exact List.mem_cons_of_mem _ (List.mem_cons_of_mem _ q)
    · have hm := h2 _ List.mem_cons_self
      rcases List.mem_cons.mp hy with q | q
      · rw [q]; by_cases h : x < m
        · simp only [if_pos h] at hm ⊢; omega
        · simp only [if_neg h] at hm ⊢; omega
      · rcases List.mem_cons.mp q with q | q
        · rw [q]; by_cases h : x < m
          · simp only [if_pos h] at hm ⊢; omega
          · simp only [if_neg h] at hm ⊢; omega
        · exact h2 y (List.mem_cons_of_mem _ q)
/-- the argument is one list of the store that may be read -/
theorem one_lst {xs : List IV} {vs : List V} {n : Nat} {ys : List IV} (r : Rel K H ρ st) (t : RepVs K H ρ [.ref n] vs) (e : lstAt st n = some ys) : ∃ a ws, vs = [.ref a] ∧ SqL K H a ws ∧ RepVs K H ρ ys ws := by
  obtain ⟨v, rfl, p⟩ := t.one
  cases p with
  | ref h =>
    obtain ⟨ws, q, t⟩ := lstAt_sq r e h
    exact ⟨_, ws, rfl, q, t⟩
end
section
variable {X : Cx}
theorem call_lenI : CallR X (.builtin "len") (rCl X.K lenI) := by
  rintro pins s σ H vs us Q I rv ⟨ρ, st, xs, r, t, h⟩
  unfold lenI at h
  split at h
  · rename_i st s1
    obtain ⟨v, rfl, p⟩ := t.one
    cases p with
    | str hs =>
      obtain ⟨e, h⟩ := bif_some (P := PostO X.K ρ H Q) h post_none
      refine call_len_str pins s σ H _ us Q I rv ⟨_, rfl, line_ok (by rw [cps_len]; exact Nat.le_of_ble_eq_true e), ?_⟩
      rw [cps_len]
      exact h.here r (.int _)
  · rename_i st v hv
    split at h
    · rename_i ys e
      obtain ⟨x, rfl, p⟩ := t.one
      obtain ⟨a, ws, rfl, q, t'⟩ := seqOf_sq r p e
      exact call_len_seq pins s σ H _ us Q I rv ⟨a, ws, rfl, q, by rw [← t'.length]; exact h.here r (.int _)⟩
    · exact h.elim
  · exact h.elim
theorem call_absI : CallR X (.builtin "abs") (rCl X.K absI) := by
  rintro pins s σ H vs us Q I rv ⟨ρ, st, xs, r, t, h⟩
  unfold absI at h
  split at h
  · obtain ⟨v, rfl, p⟩ := t.one
    cases p
    exact call_abs pins s σ H _ us Q I rv ⟨_, rfl, h.here r (.int _)⟩
  · exact h.elim
theorem call_intI : CallR X (.type "int") (rCl X.K intI) := by
  rintro pins s σ H vs us Q I rv ⟨ρ, st, xs, r, t, h⟩
  unfold intI at h
  split at h
  · obtain ⟨v, rfl, p⟩ := t.one
    cases p
    exact call_int1 pins s σ H _ us Q I rv (.inl ⟨_, rfl, h.here r (.int _)⟩)
  · obtain ⟨v, rfl, p⟩ := t.one
    cases p
    exact call_int1 pins s σ H _ us Q I rv (.inr ⟨_, rfl, h.here r (.int _)⟩)
  · exact h.elim
theorem call_tupleI : CallR X (.type "tuple") (rCl X.K tupleI) := by
  rintro pins s σ H vs us Q I rv ⟨ρ, st, xs, r, t, h⟩
  unfold tupleI at h
  split at h
  · obtain ⟨v, rfl, p⟩ := t.one
    cases p with
    | tup ha t' => exact call_tuple_of pins s σ H _ us Q I rv ⟨_, _, rfl, .inr ⟨ha, h.here r (.tup ha t')⟩⟩
  · split at h
    · rename_i ys e
      obtain ⟨a, ws, rfl, q, t'⟩ := one_lst (xs := []) r t e
      exact call_tuple_of pins s σ H _ us Q I rv ⟨a, ws, rfl, .inl ⟨q, h.newTup r t'⟩⟩
    · exact h.elim
  · exact h.elim
theorem call_listI : CallR X (.type "list") (rCl X.K listI) := by
  rintro pins s σ H vs us Q I rv ⟨ρ, st, xs, r, t, h⟩
  unfold listI at h
  split at h
  · split at h
    · rename_i ys e
      obtain ⟨x, rfl, p⟩ := t.one
      obtain ⟨a, ws, rfl, q, t'⟩ := seqOf_sq r p e
      exact call_list_of pins s σ H _ us Q I rv ⟨a, ws, rfl, q, h.newLst r t'⟩
    · exact h.elim
  · exact h.elim
theorem call_allI (hc : X.calm = true) : CallR X (.builtin "all") (rCl X.K allI) := by
  rintro pins s σ H vs us Q I rv ⟨ρ, st, xs, r, t, h⟩
  unfold allI at h
  split at h
  · split at h
    · rename_i ys e
      obtain ⟨a, ws, rfl, q, t'⟩ := one_lst (xs := []) r t e
      split at h
      · rename_i bs e2
        rw [bools_ok t' e2] at q
        exact cr_all hc pins s σ H _ us Q I rv ⟨a, bs, rfl, q, h.here r (.bl _)⟩
      · exact h.elim
    · exact h.elim
  · exact h.elim
theorem call_anyI (hc : X.calm = true) : CallR X (.builtin "any") (rCl X.K anyI) := by
  rintro pins s σ H vs us Q I rv ⟨ρ, st, xs, r, t, h⟩
  unfold anyI at h
  split at h
  · split at h
    · rename_i ys e
      obtain ⟨a, ws, rfl, q, t'⟩ := one_lst (xs := []) r t e
      split at h
      · rename_i bs e2
        rw [bools_ok t' e2] at q
        exact cr_any hc pins s σ H _ us Q I rv ⟨a, bs, rfl, q, h.here r (.bl _)⟩
      · exact h.elim
    · exact h.elim
  · exact h.elim
theorem call_sumI (hc : X.calm = true) : CallR X (.builtin "sum") (rCl X.K sumI) := by
  rintro pins s σ H vs us Q I rv ⟨ρ, st, xs, r, t, h⟩
  unfold sumI at h
  split at h
  · split at h
    · rename_i ys e
      obtain ⟨a, ws, rfl, q, t'⟩ := one_lst (xs := []) r t e
      split at h
      · rename_i bs e2
        rw [ints_ok t' e2] at q
        exact cr_sum hc pins s σ H _ us Q I rv ⟨a, bs, rfl, q, h.here r (.int _)⟩
      · exact h.elim
    · exact h.elim
  · exact h.elim
theorem call_maxI (hc : X.calm = true) : CallR X (.builtin "max") (rCl X.K maxI) := by
  rintro pins s σ H vs us Q I rv ⟨ρ, st, xs, r, t, h⟩
  unfold maxI at h
  split at h
  · split at h
    · rename_i ys e
      obtain ⟨a, ws, rfl, q, t'⟩ := one_lst (xs := []) r t e
      split at h
      · rename_i m ns e2
        rw [ints_ok t' e2] at q
        obtain ⟨h1, h2⟩ := maxL_mem m ns
        refine cr_max hc pins s σ H _ us Q I rv ⟨a, m :: ns, rfl, q, by simp, fun z hz hle => ?_⟩
        have : z = maxL m ns := by
          have a1 := hle _ h1
          have a2 := h2 _ hz
          omega
        rw [this]
        exact h.here r (.int _)
      · exact h.elim
    · exact h.elim
  · exact h.elim
theorem call_minI (hc : X.calm = true) : CallR X (.builtin "min") (rCl X.K minI) := by
  rintro pins s σ H vs us Q I rv ⟨ρ, st, xs, r, t, h⟩
  unfold minI at h
  split at h
  · split at h
    · rename_i ys e
      obtain ⟨a, ws, rfl, q, t'⟩ := one_lst (xs := []) r t e
      split at h
      · rename_i m ns e2
        rw [ints_ok t' e2] at q
        obtain ⟨h1, h2⟩ := minL_mem m ns
        refine cr_min hc pins s σ H _ us Q I rv ⟨a, m :: ns, rfl, q, by simp, fun z hz hle => ?_⟩
        have : z = minL m ns := by
          have a1 := hle _ h1
          have a2 := h2 _ hz
          omega
        rw [this]
        exact h.here r (.int _)
      · exact h.elim
    · exact h.elim
  · exact h.elim
end
end PI

set_option Elab.async false
set_option linter.all false
set_option maxRecDepth 100000
/-! PI5: readings by the interpreter's answers; expressions. -/
namespace PI
open PySem PySem.Spec PyProof.Rows L2
open LamX (Tabs TabS CodeO ExtN)

/-! ### the heap goes on, tables may grow -/
structure ExtX (ρ : List Addr) (H : Hp) (ρ' : List Addr) (H' : Hp) : Prop where
  pre : ρ <+: ρ'
  keep : ∀ (a : Addr) (o : HO), H a = some o → a ∉ ρ → (∀ ps, o ≠ .tbl ps) → H' a = some o
  new : ∀ a ∈ ρ', a ∈ ρ ∨ H a = none ∨ ∃ ps, H a = some (.tbl ps)
theorem Ext.x {ρ ρ' : List Addr} {H H' : Hp} (e : Ext ρ H ρ' H') : ExtX ρ H ρ' H' := ⟨e.pre, fun a o h n _ => e.keep a o h n, fun a h => (e.new a h).imp id .inl⟩
theorem ExtX.refl (ρ : List Addr) (H : Hp) : ExtX ρ H ρ H := (Ext.refl ρ H).x
theorem ExtX.trans {ρ ρ1 ρ2 : List Addr} {H H1 H2 : Hp} (a : ExtX ρ H ρ1 H1) (b : ExtX ρ1 H1 ρ2 H2) : ExtX ρ H ρ2 H2 where
  pre := a.pre.trans b.pre
  keep := fun c o h n ht => b.keep c o (a.keep c o h n ht) (fun z => by
    rcases a.new c z with z | z | ⟨ps, z⟩
    · exact n z
    · rw [h] at z; cases z
    · rw [h] at z; cases z; exact ht ps rfl) ht
  new := fun c h => by
    by_cases hc : c ∈ ρ
    · exact .inl hc
    right
    cases q : H c with
    | none => exact .inl rfl
    | some o =>
      by_cases ht : ∃ ps, o = .tbl ps
      · obtain ⟨ps, rfl⟩ := ht
        exact .inr ⟨ps, rfl⟩
      · have ht' : ∀ ps, o ≠ .tbl ps := fun ps z => ht ⟨ps, z⟩
        have k := a.keep c o q hc ht'
        rcases b.new c h with h | h | ⟨ps, h⟩
        · rcases a.new c h with z | z | ⟨ps, z⟩
          · exact absurd z hc
          · rw [q] at z; cases z
          · rw [q] at z; cases z; exact absurd rfl (ht' ps)
        · rw [k] at h; cases h
        · rw [k] at h; cases h; exact absurd rfl (ht' ps)
section
variable {K : PySem.W.Frag} {H H' : Hp} {ρ ρ' : List Addr} {st : Sto}
theorem sqT_X (r : Rel K H ρ st) (e : ExtX ρ H ρ' H') {a : Addr} {vs : List V} (h : SqT K H a vs) : SqT K H' a vs := by
  rcases h with h | h
  · have hn : a ∉ ρ := fun z => by
      obtain ⟨_, _, _, _, q⟩ := r.at' z
      exact q.ne_tup vs h
    left
    rcases h with h | ⟨ob, h⟩
    · exact .inl (e.keep a _ h hn fun ps z => nomatch z)
    · exact .inr ⟨ob, e.keep a _ h hn fun ps z => nomatch z⟩
  · exact .inr h
mutual
theorem RepV.monoX (r : Rel K H ρ st) (e : ExtX ρ H ρ' H') : ∀ {v : IV} {x : V}, RepV K H ρ v x → RepV K H' ρ' v x
  | _, _, .non => .non
  | _, _, .bl b => .bl b
  | _, _, .int i => .int i
  | _, _, .str h => .str h
  | _, _, .tup h t => .tup (sqT_X r e h) (RepVs.monoX r e t)
  | _, _, .ref h => .ref (pre_get e.pre h)
theorem RepVs.monoX (r : Rel K H ρ st) (e : ExtX ρ H ρ' H') : ∀ {v : List IV} {x : List V}, RepVs K H ρ v x → RepVs K H' ρ' v x
  | _, _, .nil => .nil
  | _, _, .cons h t => .cons (RepV.monoX r e h) (RepVs.monoX r e t)
end
theorem RelEnv.monoX (r : Rel K H ρ st) (e : ExtX ρ H ρ' H') {env : IEnv} {σ : L2.St} (h : RelEnv K H ρ env σ) : RelEnv K H' ρ' env σ :=
  ⟨h.len, fun i v q => let ⟨x, a, b⟩ := h.get i v q; ⟨x, a, b.monoX r e⟩⟩
end

/-! ### the parameters of a reading: the tables of lambdas' code, what else is known of the heap -/
structure Par (K : PySem.W.Frag) where
  T : List (Addr × Str)
  cm : Nat → Addr
  sd : List Addr → Hp → Prop
  mono : ∀ {ρ : List Addr} {H : Hp} {ρ' : List Addr} {H' : Hp} {st : Sto}, Rel K H ρ st → ExtX ρ H ρ' H' → sd ρ H → sd ρ' H'
structure RelX {K : PySem.W.Frag} (P : Par K) (H : Hp) (ρ : List Addr) (st : Sto) : Prop where
  r : Rel K H ρ st
  tabs : Tabs P.T H
  sd : P.sd ρ H
theorem Tabs.ext' {K : PySem.W.Frag} {T : List (Addr × Str)} {H H' : Hp} {ρ ρ' : List Addr} {st : Sto} (t : Tabs T H) (r : Rel K H ρ st) (e : Ext ρ H ρ' H') : Tabs T H' := by
  have nf : ∀ (a : Addr) (o : HO), H a = some o → (∀ xs, o ≠ .lst xs) → (∀ ob xs, o ≠ .frz ob (.lst xs)) → a ∉ ρ := fun a o h h1 h2 z => by
    obtain ⟨_, ob, _, _, q⟩ := r.at' z
    cases ob with
    | lst xs => obtain ⟨vs, e, _⟩ := q; rw [h] at e; cases e; exact h1 _ rfl
    | frl xs =>
      obtain ⟨vs, e | ⟨ob, e⟩, _⟩ := q
      · rw [h] at e; cases e; exact h1 _ rfl
      · rw [h] at e; cases e; exact h2 _ _ rfl
  intro p hp
  obtain ⟨ps, h1, h2, h3⟩ := t p hp
  refine ⟨ps, e.keep _ _ h1 (nf _ _ h1 (fun _ z => nomatch z) fun _ _ z => nomatch z), h2, fun pos cv hc => ?_⟩
  obtain ⟨c, e1, e2⟩ := h3 pos cv hc
  refine ⟨c, e1, e.keep _ _ e2 (nf _ _ e2 (fun _ z => ?_) fun _ _ z => ?_)⟩
  · unfold CodeO at z; cases z
  · unfold CodeO at z; cases z
theorem RelX.ext {K : PySem.W.Frag} {P : Par K} {H H' : Hp} {ρ ρ' : List Addr} {st st' : Sto} (h : RelX P H ρ st) (e : Ext ρ H ρ' H') (r : Rel K H' ρ' st') : RelX P H' ρ' st' := ⟨r, Tabs.ext' h.tabs h.r e, P.mono h.r e.x h.sd⟩

/-! ### readings -/
section
variable {α β γ δ : Type}
/-- what an exception is: its class, its own dict -/
abbrev RepX := IX → Value → Option Addr → List Addr → Hp → Prop
/-- attributes by name -/
inductive RepF (K : PySem.W.Frag) (H : Hp) (ρ : List Addr) : List (Str × IV) → List (Str × V) → Prop
  | nil : RepF K H ρ [] []
  | cons {n : Str} {x : IV} {v : V} {fs : List (Str × IV)} {vs : List (Str × V)} (h : RepV K H ρ x v) (t : RepF K H ρ fs vs) : RepF K H ρ ((n, x) :: fs) ((n, v) :: vs)
def RXc {K : PySem.W.Frag} (P : Par K) : RepX := fun x c d ρ H => c = .ref (P.cm x.cls) ∧ ∃ (dd : Addr) (vs : List (Str × V)), d = some dd ∧ H dd = some (.xd vs) ∧ RepF K H ρ x.fs vs
variable {K : PySem.W.Frag}
def Post (P : Par K) (W : WX) (Rp : Hp → List Addr → α → β → Prop) (ρ : List Addr) (H : Hp) (σ : L2.St) (Q : β → Hp → Prop) : RE α → Prop
  | .ok v st => ∀ (ρ' : List Addr) (H' : Hp) (x : β), ExtX ρ H ρ' H' → RelX P H' ρ' st → Rp H' ρ' v x → Q x H'
  | .exc e st => ∀ (ρ' : List Addr) (H' : Hp) (c : Value) (d : Option Addr), ExtX ρ H ρ' H' → RelX P H' ρ' st → RXc P e c d ρ' H' → W c d σ H'
  | .bad => False
variable {P : Par K} {W : WX} {Rp : Hp → List Addr → α → β → Prop} {Rq : Hp → List Addr → γ → δ → Prop} {ρ ρ1 : List Addr} {H H1 : Hp} {σ : L2.St}
theorem Post.ext {Q : β → Hp → Prop} {m : RE α} (e : ExtX ρ H ρ1 H1) (h : Post P W Rp ρ H σ Q m) : Post P W Rp ρ1 H1 σ Q m := by
  cases m with
  | ok v st => exact fun ρ' H' x e' => h ρ' H' x (e.trans e')
  | exc x st => exact fun ρ' H' c d e' => h ρ' H' c d (e.trans e')
  | bad => exact h
theorem Post.bind {Q : δ → Hp → Prop} {m : RE α} {k : α → Sto → RE γ} (h : Post P W Rq ρ H σ Q (m.bind k)) :
    Post P W Rp ρ H σ (fun x H1 => ∃ (ρ1 : List Addr) (st1 : Sto) (v : α), ExtX ρ H ρ1 H1 ∧ RelX P H1 ρ1 st1 ∧ Rp H1 ρ1 v x ∧ Post P W Rq ρ1 H1 σ Q (k v st1)) m := by
  cases m with
  | ok v st => exact fun ρ' H' x e r p => ⟨ρ', st, v, e, r, p, Post.ext e h⟩
  | exc x st => exact h
  | bad => exact h
theorem Post.mono {Q Q' : β → Hp → Prop} {m : RE α} (h : Post P W Rp ρ H σ Q m) (f : ∀ x H', Q x H' → Q' x H') : Post P W Rp ρ H σ Q' m := by
  cases m with
  | ok v st => exact fun ρ' H' x e r p => f _ _ (h ρ' H' x e r p)
  | exc x st => exact h
  | bad => exact h
theorem Post.here {Q : β → Hp → Prop} {v : α} {st : Sto} {x : β} (h : Post P W Rp ρ H σ Q (.ok v st)) (r : RelX P H ρ st) (p : Rp H ρ v x) : Q x H := h ρ H x (ExtX.refl _ _) r p
theorem Post.noBad {Q : β → Hp → Prop} (h : Post P W Rp ρ H σ Q .bad) : False := h
abbrev RpV (K : PySem.W.Frag) : Hp → List Addr → IV → V → Prop := fun H ρ v x => RepV K H ρ v x
abbrev RpVs (K : PySem.W.Frag) : Hp → List Addr → List IV → List V → Prop := fun H ρ v x => RepVs K H ρ v x
abbrev RpB : Hp → List Addr → Bool → Bool → Prop := fun _ _ v x => v = x
theorem Post.ofO {Q : VK} {st : Sto} {o : RO} (h : Post P W (RpV K) ρ H σ Q (RE.ofO o)) (r : RelX P H ρ st) : PostO K ρ H Q o := by
  cases o with
  | none => exact h
  | some p =>
    obtain ⟨v, s⟩ := p
    exact fun ρ' H' x e r' q => h ρ' H' x e.x (r.ext e r') q
end
abbrev SemE := IEnv → Sto → RE IV
abbrev SemT := IEnv → Sto → RE Bool
abbrev SemA := IEnv → Sto → RE (List IV)
def tE {K : PySem.W.Frag} (P : Par K) (W : WX) (r : SemE) : TE := fun σ H Q => ∃ ρ env st, RelX P H ρ st ∧ RelEnv K H ρ env σ ∧ Post P W (RpV K) ρ H σ Q (r env st)
def tT {K : PySem.W.Frag} (P : Par K) (W : WX) (r : SemT) : TT := fun σ H Q => ∃ ρ env st, RelX P H ρ st ∧ RelEnv K H ρ env σ ∧ Post P W RpB ρ H σ Q (r env st)
def tA {K : PySem.W.Frag} (P : Par K) (W : WX) (r : SemA) : TA := fun σ H Q => ∃ ρ env st, RelX P H ρ st ∧ RelEnv K H ρ env σ ∧ Post P W (RpVs K) ρ H σ Q (r env st)

/-! ### what expressions give -/
def rVar (i : Nat) : SemE := fun env st => match env[i]? with
  | some (some v) => .ok v st
  | _ => .bad
def rC (v : IV) : SemE := fun _ st => .ok v st
def rBin (f : IV → IV → Sto → RO) (a b : SemE) : SemE := fun env st => (a env st).bind fun x st1 => (b env st1).bind fun y st2 => RE.ofO (f x y st2)
def rUn (f : IV → Sto → RO) (a : SemE) : SemE := fun env st => (a env st).bind fun x st1 => RE.ofO (f x st1)
def rCall (f : List IV → Sto → RO) (a : SemA) : SemE := fun env st => (a env st).bind fun x st1 => RE.ofO (f x st1)
def rDef (f : List IV → Sto → RE IV) (a : SemA) : SemE := fun env st => (a env st).bind fun x st1 => f x st1
def rNil : SemA := fun _ st => .ok [] st
def rCons (a : SemE) (b : SemA) : SemA := fun env st => (a env st).bind fun x st1 => (b env st1).bind fun xs st2 => .ok (x :: xs) st2
def rTup (a : SemA) : SemE := fun env st => (a env st).bind fun xs st1 => bif Nat.ble xs.length lineI then .ok (.tup xs) st1 else .bad
def rLst (a : SemA) : SemE := fun env st => (a env st).bind fun xs st1 => bif Nat.ble xs.length lineI then RE.ofO (st1.allocO (.lst xs)) else .bad
def rTru (a : SemE) : SemT := fun env st => (a env st).bind fun x st1 => match truI st1 x with
  | some b => .ok b st1
  | none => .bad
def rAnd (a b : SemE) : SemE := fun env st => (a env st).bind fun x st1 => match truI st1 x with
  | some true => b env st1
  | some false => .ok x st1
  | none => .bad
def rOr (a b : SemE) : SemE := fun env st => (a env st).bind fun x st1 => match truI st1 x with
  | some true => .ok x st1
  | some false => b env st1
  | none => .bad
def rNot (a : SemE) : SemE := fun env st => (a env st).bind fun x st1 => match truI st1 x with
  | some b => .ok (.bl (!b)) st1
  | none => .bad
def rIfE (c : SemT) (a b : SemE) : SemE := fun env st => (c env st).bind fun k st1 => bif k then a env st1 else b env st1
def rTAnd (a b : SemT) : SemT := fun env st => (a env st).bind fun k st1 => bif k then b env st1 else .ok false st1
def rTOr (a b : SemT) : SemT := fun env st => (a env st).bind fun k st1 => bif k then .ok true st1 else b env st1
def rTNot (a : SemT) : SemT := fun env st => (a env st).bind fun k st1 => .ok (!k) st1
def rTBl (a : SemE) : SemT := fun env st => (a env st).bind fun x st1 => match x with
  | .bl b => .ok b st1
  | _ => .bad
/-- a op b op' c -/
def rChain (f g : IV → IV → Sto → RO) (a b c : SemE) : SemE := fun env st => (a env st).bind fun x st1 => (b env st1).bind fun y st2 => (RE.ofO (f x y st2)).bind fun z st3 => match z with
  | .bl true => (c env st3).bind fun u st4 => RE.ofO (g y u st4)
  | .bl false => .ok (.bl false) st3
  | _ => .bad
def rPart (a : SemE) : IEnv → Sto → RE (Option Int) := fun env st => (a env st).bind fun x st1 => match x with
  | .int i => .ok (some i) st1
  | _ => .bad
def rNoPart : IEnv → Sto → RE (Option Int) := fun _ st => .ok none st
def rSl (a : SemE) (lo hi : IEnv → Sto → RE (Option Int)) : SemE := fun env st => (a env st).bind fun x st1 => (lo env st1).bind fun l st2 => (hi env st2).bind fun h st3 => RE.ofO (slcI x l h st3)

/-! ### they are sound -/
section
variable {X : Cx} {P : Par X.K} {W : WX} {a b c : Expr} {ra rb rc : SemE} {es : List Expr} {rs : SemA} {pos : Pos} {σ : L2.St} {H : Hp}
abbrev SE (X : Cx) (P : Par X.K) (W : WX) (e : Expr) (r : SemE) : Prop := PE X e (tE P W r)
abbrev SC (X : Cx) (P : Par X.K) (W : WX) (e : Expr) (r : SemT) : Prop := PT X e (tT P W r)
abbrev SW (X : Cx) (P : Par X.K) (W : WX) (e : Expr) (r : SemT) : Prop := PW X e (tT P W r)
abbrev SA (X : Cx) (P : Par X.K) (W : WX) (e : List Expr) (r : SemA) : Prop := PA X e (tA P W r)
theorem _root_.L2.PW.of {X : Cx} {e : Expr} {t t' : TT} (h : PW X e t) (f : ∀ σ H Q, t' σ H Q → t σ H Q) : PW X e t' := ⟨fun w pins s σ H Q I q => h.run w pins s σ H Q I (f σ H Q q)⟩
theorem se_var {i : Nat} {x : Str} (hN : X.N[i]? = some x) (hv : Vis X.env.scope x) (hd : (x == ("__debug__" : Str)) = false := by decide) (hcd : (x == ("__classdict__" : Str)) = false := by decide) : SE X P W (.Name x pos) (rVar i) :=
  (pe_var hN hv hd hcd).of fun σ H Q ⟨ρ, env, st, r, re, h⟩ => by
    unfold rVar at h
    split at h
    · rename_i v e
      obtain ⟨x, e1, p⟩ := re.get _ _ e
      exact ⟨x, e1, h.here r p⟩
    · exact h.elim
theorem tC_of {v : IV} {x : V} (hg : ∀ H ρ, RepV X.K H ρ v x) {Q : VK} (h : tE P W (rC v) σ H Q) : tC x σ H Q := by
  obtain ⟨ρ, env, st, r, re, h⟩ := h
  exact h.here r (hg _ _)
theorem se_int {i : Int} {j} : SE X P W (.Constant (.int i) j pos) (rC (.int i)) := pe_int.of fun _ _ _ => tC_of fun _ _ => .int i
theorem se_bl {i : Bool} {j} : SE X P W (.Constant (.bool i) j pos) (rC (.bl i)) := pe_bl.of fun _ _ _ => tC_of fun _ _ => .bl i
theorem se_non {j} : SE X P W (.Constant .none j pos) (rC .non) := pe_non.of fun _ _ _ => tC_of fun _ _ => .non
theorem se_str {s : List Nat} {x : Str} {j} (hx : x = ⟨s.toArray⟩) (h : s.all (fun c => decide (c < 0x110000)) = true) : SE X P W (.Constant (.str x) j pos) (rC (.str s)) := by
  subst hx
  exact pe_str.of fun _ _ _ => tC_of fun _ _ => .str h
theorem se_glob {x : Str} {v : V} {c : IV} {u : Value} (hg : Gl X x) (hm : X.mg x = some u) (r : RelV v u) (hc : ∀ H ρ, RepV X.K H ρ c v) (hd : (x == ("__debug__" : Str)) = false := by decide) : SE X P W (.Name x pos) (rC c) :=
  (pe_glob hg hm r hd).of fun _ _ _ => tC_of hc
theorem tOp_of {f : IV → IV → Sto → RO} {Q : VK} (h : tE P W (rBin f ra rb) σ H Q) : tOp (rB X.K f) (tE P W ra) (tE P W rb) σ H Q := by
  obtain ⟨ρ, env, st, r, re, h⟩ := h
  refine ⟨ρ, env, st, r, re, h.bind.mono fun x H1 ⟨ρ1, st1, v, e1, r1, p1, h1⟩ => ?_⟩
  refine ⟨ρ1, env, st1, r1, re.monoX r.r e1, h1.bind.mono fun y H2 ⟨ρ2, st2, w, e2, r2, p2, h2⟩ => ?_⟩
  exact ⟨ρ2, st2, v, w, r2.r, p1.monoX r1.r e2, p2, h2.ofO r2⟩
theorem se_bin {op : Operator} {f : IV → IV → Sto → RO} (ho : OpR X (binaryOp op) (rB X.K f)) (ha : SE X P W a ra) (hb : SE X P W b rb) : SE X P W (.BinOp a op b pos) (rBin f ra rb) := (pe_op ho ha hb).of fun _ _ _ => tOp_of
theorem se_cmp {op : CmpOp} {f : IV → IV → Sto → RO} (ho : OpR X (compareOp op) (rB X.K f)) (ha : SE X P W a ra) (hb : SE X P W b rb) (hm : behindInMarks op b = false) : SE X P W (.Compare a [op] [b] pos) (rBin f ra rb) := (pe_cmpR ho ha hb hm).of fun _ _ _ => tOp_of
theorem tUn_of {f : IV → Sto → RO} {Q : VK} (h : tE P W (rUn f ra) σ H Q) : tUn (rU1 X.K f) (tE P W ra) σ H Q := by
  obtain ⟨ρ, env, st, r, re, h⟩ := h
  refine ⟨ρ, env, st, r, re, h.bind.mono fun x H1 ⟨ρ1, st1, v, e1, r1, p1, h1⟩ => ?_⟩
  exact ⟨ρ1, st1, v, r1.r, p1, h1.ofO r1⟩
theorem se_un {op : UnaryOp} {f : IV → Sto → RO} (ho : UnR X (unaryOp op) (rU1 X.K f)) (ha : SE X P W a ra) : SE X P W (.UnaryOp op a pos) (rUn f ra) := (pe_un ho ha).of fun _ _ _ => tUn_of
theorem se_ix (ha : SE X P W a ra) (hb : SE X P W b rb) (hs : PlainIx b) : SE X P W (.Subscript a b pos) (rBin idxI ra rb) := (pe_ix ix_I ha hb hs).of fun _ _ _ => tOp_of
theorem sa_nil : SA X P W [] rNil := pa_nil.of fun σ H Q ⟨ρ, env, st, r, re, h⟩ => h.here r .nil
theorem sa_cons (ha : SE X P W a ra) (hr : SA X P W es rs) (hs : starEach (a :: es) X.env = (false, eval a X.env) :: starEach es X.env := by rfl) : SA X P W (a :: es) (rCons ra rs) :=
  (pa_cons ha hr hs).of fun σ H Q ⟨ρ, env, st, r, re, h⟩ => by
    refine ⟨ρ, env, st, r, re, h.bind.mono fun x H1 ⟨ρ1, st1, v, e1, r1, p1, h1⟩ => ?_⟩
    refine ⟨ρ1, env, st1, r1, re.monoX r.r e1, h1.bind.mono fun y H2 ⟨ρ2, st2, w, e2, r2, p2, h2⟩ => ?_⟩
    exact h2.here r2 (.cons (p1.monoX r1.r e2) p2)
theorem bif_bad {α β : Type} {K : PySem.W.Frag} {P : Par K} {W : WX} {Rp : Hp → List Addr → α → β → Prop} {ρ : List Addr} {H : Hp} {σ : L2.St} {Q : β → Hp → Prop} {k : Bool} {m : RE α} (h : Post P W Rp ρ H σ Q (bif k then m else .bad)) : k = true ∧ Post P W Rp ρ H σ Q m := by
  cases k with
  | true => exact ⟨rfl, h⟩
  | false => exact h.elim
theorem se_tup {x1} (h : SA X P W es rs) : SE X P W (.Tuple es x1 pos) (rTup rs) :=
  (pe_tup h).of fun σ H Q ⟨ρ, env, st, r, re, h⟩ => by
    refine ⟨ρ, env, st, r, re, h.bind.mono fun x H1 ⟨ρ1, st1, v, e1, r1, p1, h1⟩ => ?_⟩
    obtain ⟨e, h1⟩ := bif_bad h1
    have q : PostO X.K ρ1 H1 Q (some (.tup v, st1)) := Post.ofO (o := some (.tup v, st1)) h1 r1
    exact ⟨line_ok (by rw [← p1.length]; exact Nat.le_of_ble_eq_true e), q.newTup r1.r p1⟩
theorem se_lst (h : SA X P W es rs) : SE X P W (.List es pos) (rLst rs) :=
  (pe_lst h).of fun σ H Q ⟨ρ, env, st, r, re, h⟩ => by
    refine ⟨ρ, env, st, r, re, h.bind.mono fun x H1 ⟨ρ1, st1, v, e1, r1, p1, h1⟩ => ?_⟩
    obtain ⟨e, h1⟩ := bif_bad h1
    exact ⟨line_ok (by rw [← p1.length]; exact Nat.le_of_ble_eq_true e), (h1.ofO r1).newLst r1.r p1⟩
theorem tCB_of {f : List IV → Sto → RO} {Q : VK} (h : tE P W (rCall f rs) σ H Q) : tCB (rCl X.K f) (tA P W rs) σ H Q := by
  obtain ⟨ρ, env, st, r, re, h⟩ := h
  refine ⟨ρ, env, st, r, re, h.bind.mono fun x H1 ⟨ρ1, st1, v, e1, r1, p1, h1⟩ => ?_⟩
  exact ⟨ρ1, st1, v, r1.r, p1, h1.ofO r1⟩
end
end PI

set_option Elab.async false
set_option linter.all false
set_option maxRecDepth 100000
/-! PI6: calls, tests, and, or, slices. -/
namespace PI
open PySem PySem.Spec PyProof.Rows L2
open LamX (Tabs TabS CodeO ExtN)
section
variable {X : Cx} {P : Par X.K} {W : WX} {a b c : Expr} {ra rb rc : SemE} {ta tb : SemT} {es rest : List Expr} {rs : SemA} {pos p : Pos} {σ : L2.St} {H : Hp} {x : Str}
theorem se_callB {id : String} {f : List IV → Sto → RO} (hc : CallR X (.builtin id) (rCl X.K f)) (hg : Gl X x) (hm : X.mg x = none) (hv : bootBuiltins x = some (.builtin id)) (ha : SA X P W (a :: es) rs) (hn : x ≠ "__name__" := by decide) (hdb : (x == ("__debug__" : Str)) = false := by decide)
    (he : starEach (a :: es) X.env = (false, eval a X.env) :: starEach es X.env := by rfl) (hpl : (backTo pos (starEach es X.env)).any (·.1) = false := by rfl) : SE X P W (.Call (.Name x p) (a :: es) [] pos) (rCall f rs) :=
  (pe_callB hc hg hm hv ha hn hdb he hpl).of fun _ _ _ => tCB_of
theorem se_callTy {id : String} {f : List IV → Sto → RO} (hc : CallR X (.type id) (rCl X.K f)) (hg : Gl X x) (hm : X.mg x = none) (hv : bootBuiltins x = some (.type id)) (ha : SA X P W (a :: es) rs) (hn : x ≠ "__name__" := by decide) (hdb : (x == ("__debug__" : Str)) = false := by decide)
    (he : starEach (a :: es) X.env = (false, eval a X.env) :: starEach es X.env := by rfl) (hpl : (backTo pos (starEach es X.env)).any (·.1) = false := by rfl) : SE X P W (.Call (.Name x p) (a :: es) [] pos) (rCall f rs) :=
  (pe_callTy hc hg hm hv ha hn hdb he hpl).of fun _ _ _ => tCB_of

/-! ### the text's own defs -/
/-- a def's promise by what it gives -/
def spI (K : PySem.W.Frag) (T : List (Addr × Str) × (Nat → Addr)) (n : Nat) (f : List IV → Sto → RE IV) : Sp := fun vs H Q E =>
  vs.length = n ∧ ∃ (P : Par K) (ρ : List Addr) (st : Sto) (xs : List IV), (P.T, P.cm) = T ∧ RelX P H ρ st ∧ RepVs K H ρ xs vs ∧ Post P (fun c d _ H' => E c d H') (RpV K) ρ H [] Q (f xs st)
theorem Post.wx {α β : Type} {K : PySem.W.Frag} {P : Par K} {W W' : WX} {Rp : Hp → List Addr → α → β → Prop} {ρ : List Addr} {H : Hp} {σ σ' : L2.St} {Q : β → Hp → Prop} {m : RE α} (h : Post P W Rp ρ H σ Q m) (f : ∀ c d H', W c d σ H' → W' c d σ' H') : Post P W' Rp ρ H σ' Q m := by
  cases m with
  | ok v st => exact h
  | exc x st => exact fun ρ' H' c d e r q => f _ _ _ (h ρ' H' c d e r q)
  | bad => exact h
theorem se_def {f : Addr} {fd : FuncData} {ps : List Str} {g : List IV → Sto → RE IV} {k : Nat} (F : FnOk X.prog X.w X.K X.mg X.base (L2.CX X.prog X.w) k f fd ps (spI X.K (P.T, P.cm) ps.length g)) (tk : Takes X W) (hr : Room k X.A) (hg : Gl X x) (hm : X.mg x = some (.ref f)) (hk : PySem.W.keepIn X.K (.ref f) = true) (hb : Binds X.K fd ps [])
    {n : Nat} (hl : ps.length = n) (ha : SA X P W (a :: es) rs) (hlen : ∀ σ H Q, tA P W rs σ H Q → tA P W rs σ H fun vs H1 => vs.length = ps.length ∧ Q vs H1) (hdb : (x == ("__debug__" : Str)) = false := by decide) (he : starEach (a :: es) X.env = (false, eval a X.env) :: starEach es X.env := by rfl) (hpl : (backTo pos (starEach es X.env)).any (·.1) = false := by rfl) :
    SE X P W (.Call (.Name x p) (a :: es) [] pos) (rDef g rs) :=
  (pe_callS F hr hg hm hk hb (fun σ => passAt tk σ) ha hdb he hpl).of fun σ H Q h => by
    have h' : tA P W rs σ H fun vs H1 => ∃ (ρ1 : List Addr) (st1 : Sto) (v : List IV), RelX P H1 ρ1 st1 ∧ RepVs X.K H1 ρ1 v vs ∧ Post P W (RpV X.K) ρ1 H1 σ Q (g v st1) := by
      obtain ⟨ρ, env, st, r, re, h⟩ := h
      exact ⟨ρ, env, st, r, re, h.bind.mono fun x H1 ⟨ρ1, st1, v, e1, r1, p1, h1⟩ => ⟨ρ1, st1, v, r1, p1, h1⟩⟩
    obtain ⟨ρ, env, st, r, re, h2⟩ := hlen σ H _ h'
    refine ⟨ρ, env, st, r, re, h2.mono fun vs H1 ⟨hl, ρ1, st1, v, r1, p1, h1⟩ => ?_⟩
    exact ⟨hl, P, ρ1, st1, v, rfl, r1, p1, h1.wx fun c d H' w => w⟩
/-- how many arguments -/
def Many (P : Par X.K) (W : WX) (n : Nat) (rs : SemA) : Prop := ∀ σ H Q, tA P W rs σ H Q → tA P W rs σ H fun vs H1 => vs.length = n ∧ Q vs H1
theorem many_nil : Many (X := X) P W 0 rNil := fun σ H Q ⟨ρ, env, st, r, re, h⟩ => ⟨ρ, env, st, r, re, fun ρ' H' x e r' p => by
  cases p
  exact ⟨rfl, h ρ' H' [] e r' .nil⟩⟩
theorem RE.bind_ok {α β : Type} {m : RE α} {k : α → Sto → RE β} {v : β} {st : Sto} (h : m.bind k = .ok v st) : ∃ x st1, m = .ok x st1 ∧ k x st1 = .ok v st := by
  cases m with
  | ok x s => exact ⟨x, s, rfl, h⟩
  | exc x s => cases h
  | bad => cases h
/-- each answer of rs has n items -/
def LenN (n : Nat) (rs : SemA) : Prop := ∀ env st v st', rs env st = .ok v st' → v.length = n
theorem len_nil : LenN 0 rNil := fun env st v st' h => by cases h; rfl
theorem len_cons {n : Nat} (h : LenN n rs) : LenN (n + 1) (rCons ra rs) := fun env st v st' e => by
  obtain ⟨x, s1, _, e⟩ := RE.bind_ok e
  obtain ⟨xs, s2, e2, e⟩ := RE.bind_ok e
  cases e
  rw [List.length_cons, h _ _ _ _ e2]
theorem LenN.many {n : Nat} (h : LenN n rs) : Many (X := X) P W n rs := fun σ H Q ⟨ρ, env, st, r, re, q⟩ => by
  refine ⟨ρ, env, st, r, re, ?_⟩
  cases e : rs env st with
  | ok v s =>
    rw [e] at q
    exact fun ρ' H' x e' r' p => ⟨by rw [← RepVs.length p]; exact h _ _ _ _ e, q ρ' H' x e' r' p⟩
  | exc x s => rw [e] at q; exact q
  | bad => rw [e] at q; exact q

/-! ### tests -/
theorem sc_truth (ha : SE X P W a ra) (he : ∀ whole, isTrue a X.env whole = (do let v ← whole; standAt a.pos; holding [v] (truthy v))) : SC X P W a (rTru ra) :=
  (pt_truth ha he).of fun σ H Q ⟨ρ, env, st, r, re, h⟩ => by
    refine ⟨ρ, env, st, r, re, h.bind.mono fun x H1 ⟨ρ1, st1, v, e1, r1, p1, h1⟩ => ?_⟩
    split at h1
    · rename_i b e
      exact ⟨b, truI_ok r1.r p1 e, h1.here r1 rfl⟩
    · exact h1.elim
theorem sc_cmp {op : CmpOp} {f : IV → IV → Sto → RO} (ho : OpR X (compareOp op) (rB X.K f)) (ha : SE X P W a ra) (hb : SE X P W b rb) (hm : behindInMarks op b = false) : SC X P W (.Compare a [op] [b] pos) (rTBl (rBin f ra rb)) :=
  (pt_cmpR ho ha hb hm).of fun σ H Q ⟨ρ, env, st, r, re, h⟩ => by
    refine tOp_of ⟨ρ, env, st, r, re, h.bind.mono fun x H1 ⟨ρ1, st1, v, e1, r1, p1, h1⟩ => ?_⟩
    cases p1 with
    | bl k => exact ⟨k, rfl, h1.here r1 rfl⟩
    | _ => exact h1.elim
theorem sw_and1 (ha : SC X P W a ta) : SW X P W (.BoolOp .And [a] pos) ta := pw_and1 ha
theorem sw_or1 (ha : SC X P W a ta) : SW X P W (.BoolOp .Or [a] pos) ta := pw_or1 ha
theorem sw_and (ha : SC X P W a ta) (hb : SW X P W (.BoolOp .And (b :: rest) pos) tb) : SW X P W (.BoolOp .And (a :: b :: rest) pos) (rTAnd ta tb) :=
  (pw_and ha hb).of fun σ H Q ⟨ρ, env, st, r, re, h⟩ => by
    refine ⟨ρ, env, st, r, re, h.bind.mono fun x H1 ⟨ρ1, st1, v, e1, r1, p1, h1⟩ => ?_⟩
    obtain rfl : v = x := p1
    cases v with
    | true => exact ⟨ρ1, env, st1, r1, re.monoX r.r e1, h1⟩
    | false => exact h1.here r1 rfl
theorem sw_or (ha : SC X P W a ta) (hb : SW X P W (.BoolOp .Or (b :: rest) pos) tb) : SW X P W (.BoolOp .Or (a :: b :: rest) pos) (rTOr ta tb) :=
  (pw_or ha hb).of fun σ H Q ⟨ρ, env, st, r, re, h⟩ => by
    refine ⟨ρ, env, st, r, re, h.bind.mono fun x H1 ⟨ρ1, st1, v, e1, r1, p1, h1⟩ => ?_⟩
    obtain rfl : v = x := p1
    cases v with
    | true => exact h1.here r1 rfl
    | false => exact ⟨ρ1, env, st1, r1, re.monoX r.r e1, h1⟩
theorem sc_not (ha : SC X P W a ta) : SC X P W (.UnaryOp .Not a pos) (rTNot ta) :=
  (pt_not ha).of fun σ H Q ⟨ρ, env, st, r, re, h⟩ => by
    refine ⟨ρ, env, st, r, re, h.bind.mono fun x H1 ⟨ρ1, st1, v, e1, r1, p1, h1⟩ => ?_⟩
    obtain rfl : v = x := p1
    exact h1.here r1 rfl
theorem se_ifE (hc : SC X P W c tb) (ha : SE X P W a ra) (hb : SE X P W b rb) : SE X P W (.IfExp c a b pos) (rIfE tb ra rb) :=
  (pe_ifExp hc ha hb).of fun σ H Q ⟨ρ, env, st, r, re, h⟩ => by
    refine ⟨ρ, env, st, r, re, h.bind.mono fun x H1 ⟨ρ1, st1, v, e1, r1, p1, h1⟩ => ?_⟩
    obtain rfl : v = x := p1
    cases v with
    | true => exact ⟨ρ1, env, st1, r1, re.monoX r.r e1, h1⟩
    | false => exact ⟨ρ1, env, st1, r1, re.monoX r.r e1, h1⟩
theorem se_one {op} (h : SE X P W a ra) : SE X P W (.BoolOp op [a] pos) ra := pe_one h
theorem se_and (ha : SE X P W a ra) (hb : SE X P W (.BoolOp .And (b :: rest) pos) rb) : SE X P W (.BoolOp .And (a :: b :: rest) pos) (rAnd ra rb) :=
  (pe_andT ha hb).of fun σ H Q ⟨ρ, env, st, r, re, h⟩ => by
    refine ⟨ρ, env, st, r, re, h.bind.mono fun x H1 ⟨ρ1, st1, v, e1, r1, p1, h1⟩ => ?_⟩
    split at h1
    · rename_i e
      exact ⟨true, truI_ok r1.r p1 e, ⟨ρ1, env, st1, r1, re.monoX r.r e1, h1⟩⟩
    · rename_i e
      exact ⟨false, truI_ok r1.r p1 e, h1.here r1 p1⟩
    · exact h1.elim
theorem se_or (ha : SE X P W a ra) (hb : SE X P W (.BoolOp .Or (b :: rest) pos) rb) : SE X P W (.BoolOp .Or (a :: b :: rest) pos) (rOr ra rb) :=
  (pe_orT ha hb).of fun σ H Q ⟨ρ, env, st, r, re, h⟩ => by
    refine ⟨ρ, env, st, r, re, h.bind.mono fun x H1 ⟨ρ1, st1, v, e1, r1, p1, h1⟩ => ?_⟩
    split at h1
    · rename_i e
      exact ⟨true, truI_ok r1.r p1 e, h1.here r1 p1⟩
    · rename_i e
      exact ⟨false, truI_ok r1.r p1 e, ⟨ρ1, env, st1, r1, re.monoX r.r e1, h1⟩⟩
    · exact h1.elim
theorem se_not (ha : SE X P W a ra) : SE X P W (.UnaryOp .Not a pos) (rNot ra) :=
  (pe_notT ha).of fun σ H Q ⟨ρ, env, st, r, re, h⟩ => by
    refine ⟨ρ, env, st, r, re, h.bind.mono fun x H1 ⟨ρ1, st1, v, e1, r1, p1, h1⟩ => ?_⟩
    split at h1
    · rename_i k e
      exact ⟨k, truI_ok r1.r p1 e, h1.here r1 (.bl _)⟩
    · exact h1.elim
/-! ### chains, slices -/
theorem PostO.mono {K : PySem.W.Frag} {ρ : List Addr} {H : Hp} {Q Q' : VK} {o : RO} (h : PostO K ρ H Q o) (f : ∀ x H', Q x H' → Q' x H') : PostO K ρ H Q' o := by
  cases o with
  | none => exact h
  | some p => exact fun ρ' H' x e r q => f _ _ (h ρ' H' x e r q)
theorem tChain_of {f g : IV → IV → Sto → RO} {Q : VK} (h : tE P W (rChain f g ra rb rc) σ H Q) : tChain (rB X.K f) (rB X.K g) (tE P W ra) (tE P W rb) (tE P W rc) σ H Q := by
  obtain ⟨ρ, env, st, r, re, h⟩ := h
  refine ⟨ρ, env, st, r, re, h.bind.mono fun x H1 ⟨ρ1, st1, v, e1, r1, p1, h1⟩ => ?_⟩
  refine ⟨ρ1, env, st1, r1, re.monoX r.r e1, h1.bind.mono fun y H2 ⟨ρ2, st2, w, e2, r2, p2, h2⟩ => ?_⟩
  refine ⟨ρ2, st2, v, w, r2.r, p1.monoX r1.r e2, p2, ((Post.bind (Rp := RpV X.K) h2).ofO r2).mono fun z H3 ⟨ρ3, st3, u, e3, r3, p3, h3⟩ => ?_⟩
  split at h3
  · cases p3
    refine ⟨true, rfl, ?_⟩
    rw [if_pos rfl]
    refine ⟨ρ3, env, st3, r3, re.monoX r.r (e1.trans (e2.trans e3)), h3.bind.mono fun z' H4 ⟨ρ4, st4, t, e4, r4, p4, h4⟩ => ?_⟩
    exact ⟨ρ4, st4, w, t, r4.r, p2.monoX r2.r (e3.trans e4), p4, h4.ofO r4⟩
  · cases p3
    refine ⟨false, rfl, ?_⟩
    rw [if_neg Bool.false_ne_true]
    exact h3.here r3 (.bl false)
  · exact h3.elim
theorem se_chain {op op' : CmpOp} {f g : IV → IV → Sto → RO} (ho : OpR X (compareOp op) (rB X.K f)) (ho' : OpR X (compareOp op') (rB X.K g)) (ha : SE X P W a ra) (hb : SE X P W b rb) (hc : SE X P W c rc)
    (hm : lastMarks [op, op'] [b, c] = false := by with_unfolding_all rfl) : SE X P W (.Compare a [op, op'] [b, c] pos) (rChain f g ra rb rc) := (pe_chain ho ho' ha hb hc hm).of fun _ _ _ => tChain_of
theorem sc_chain {op op' : CmpOp} {f g : IV → IV → Sto → RO} (ho : OpR X (compareOp op) (rB X.K f)) (ho' : OpR X (compareOp op') (rB X.K g)) (ha : SE X P W a ra) (hb : SE X P W b rb) (hc : SE X P W c rc)
    (hm : lastMarks [op, op'] [b, c] = false := by with_unfolding_all rfl) : SC X P W (.Compare a [op, op'] [b, c] pos) (rTBl (rChain f g ra rb rc)) :=
  (pt_chain ho ho' ha hb hc hm).of fun σ H Q ⟨ρ, env, st, r, re, h⟩ => by
    refine tChain_of ⟨ρ, env, st, r, re, h.bind.mono fun x H1 ⟨ρ1, st1, v, e1, r1, p1, h1⟩ => ?_⟩
    cases p1 with
    | bl k => exact ⟨k, rfl, h1.here r1 rfl⟩
    | _ => exact h1.elim
abbrev SPt (X : Cx) (P : Par X.K) (W : WX) (e : Option Expr) (r : IEnv → Sto → RE (Option Int)) : Prop :=
  PO X e fun σ H Q => ∃ ρ env st, RelX P H ρ st ∧ RelEnv X.K H ρ env σ ∧ Post P W (fun _ _ v x => v = x) ρ H σ Q (r env st)
theorem _root_.L2.PO.of {X : Cx} {e : Option Expr} {t t' : TO} (h : PO X e t) (f : ∀ σ H Q, t' σ H Q → t σ H Q) : PO X e t' := ⟨fun pins s σ H Q I q => h.run pins s σ H Q I (f σ H Q q)⟩
theorem sp_none : SPt X P W none rNoPart := po_none.of fun σ H Q ⟨ρ, env, st, r, re, h⟩ => h.here r rfl
theorem sp_some (ha : SE X P W a ra) : SPt X P W (some a) (rPart ra) := (po_some ha).of fun σ H Q ⟨ρ, env, st, r, re, h⟩ => by
  refine ⟨ρ, env, st, r, re, h.bind.mono fun x H1 ⟨ρ1, st1, v, e1, r1, p1, h1⟩ => ?_⟩
  cases p1 with
  | int i => exact ⟨i, rfl, h1.here r1 rfl⟩
  | _ => exact h1.elim
theorem se_slice {lo hi : Option Expr} {rl rh : IEnv → Sto → RE (Option Int)} {p2 : Pos} (ha : SE X P W a ra) (hl : SPt X P W lo rl) (hu : SPt X P W hi rh) : SE X P W (.Subscript a (.Slice lo hi none p2) pos) (rSl ra rl rh) :=
  (pe_slice sl_I ha hl hu).of fun σ H Q ⟨ρ, env, st, r, re, h⟩ => by
    refine ⟨ρ, env, st, r, re, h.bind.mono fun x H1 ⟨ρ1, st1, v, e1, r1, p1, h1⟩ => ?_⟩
    refine ⟨ρ1, env, st1, r1, re.monoX r.r e1, h1.bind.mono fun l H2 ⟨ρ2, st2, l', e2, r2, p2, h2⟩ => ?_⟩
    obtain rfl : l' = l := p2
    refine ⟨ρ2, env, st2, r2, re.monoX r.r (e1.trans e2), h2.bind.mono fun u H3 ⟨ρ3, st3, u', e3, r3, p3, h3⟩ => ?_⟩
    obtain rfl : u' = u := p3
    exact ⟨ρ3, st3, v, r3.r, p1.monoX r1.r (e2.trans e3), h3.ofO r3⟩
end
end PI

set_option Elab.async false
set_option linter.all false
set_option maxRecDepth 100000
/-! PI7: statements. -/
namespace PI
open PySem PySem.Spec PyProof.Rows L2
open LamX (Tabs TabS CodeO ExtN)

inductive RS where
  | nx (env : IEnv) (st : Sto)
  | rt (v : IV) (st : Sto)
  | bk (env : IEnv) (st : Sto)
  | ct (env : IEnv) (st : Sto)
  | exc (x : IX) (env : IEnv) (st : Sto)
  | bad
abbrev SemS := IEnv → Sto → RS
def RS.ofE {α : Type} (m : RE α) (env : IEnv) (k : α → Sto → RS) : RS :=
  match m with
  | .ok v st => k v st
  | .exc x st => .exc x env st
  | .bad => .bad
def RS.seq (m : RS) (k : SemS) : RS :=
  match m with
  | .nx env st => k env st
  | .rt v st => .rt v st
  | .bk env st => .bk env st
  | .ct env st => .ct env st
  | .exc x env st => .exc x env st
  | .bad => .bad
/-- behind a loop's body -/
def RS.loop (m : RS) (k : SemS) : RS :=
  match m with
  | .nx env st => k env st
  | .rt v st => .rt v st
  | .bk env st => .nx env st
  | .ct env st => k env st
  | .exc x env st => .exc x env st
  | .bad => .bad
def PostS {K : PySem.W.Frag} (P : Par K) (W : WX) (ρ : List Addr) (H : Hp) (D : Ends) : RS → Prop
  | .nx env st => ∀ (ρ' : List Addr) (H' : Hp) (σ' : L2.St), ExtX ρ H ρ' H' → RelX P H' ρ' st → RelEnv K H' ρ' env σ' → D.nx σ' H'
  | .rt v st => ∀ (ρ' : List Addr) (H' : Hp) (x : V), ExtX ρ H ρ' H' → RelX P H' ρ' st → RepV K H' ρ' v x → D.rt x H'
  | .bk env st => ∀ (ρ' : List Addr) (H' : Hp) (σ' : L2.St), ExtX ρ H ρ' H' → RelX P H' ρ' st → RelEnv K H' ρ' env σ' → D.bk σ' H'
  | .ct env st => ∀ (ρ' : List Addr) (H' : Hp) (σ' : L2.St), ExtX ρ H ρ' H' → RelX P H' ρ' st → RelEnv K H' ρ' env σ' → D.ct σ' H'
  | .exc e env st => ∀ (ρ' : List Addr) (H' : Hp) (c : Value) (d : Option Addr) (σ' : L2.St), ExtX ρ H ρ' H' → RelX P H' ρ' st → RelEnv K H' ρ' env σ' → RXc P e c d ρ' H' → W c d σ' H'
  | .bad => False
def tS {K : PySem.W.Frag} (P : Par K) (W : WX) (r : SemS) : TS := fun D σ H => ∃ ρ env st, RelX P H ρ st ∧ RelEnv K H ρ env σ ∧ PostS P W ρ H D (r env st)
section
variable {α β : Type} {K : PySem.W.Frag} {P : Par K} {W : WX} {ρ ρ1 : List Addr} {H H1 : Hp} {D : Ends} {σ : L2.St}
theorem PostS.ext {m : RS} (e : ExtX ρ H ρ1 H1) (h : PostS P W ρ H D m) : PostS P W ρ1 H1 D m := by
  cases m with
  | nx v st => exact fun ρ' H' x e' => h ρ' H' x (e.trans e')
  | rt v st => exact fun ρ' H' x e' => h ρ' H' x (e.trans e')
  | bk v st => exact fun ρ' H' x e' => h ρ' H' x (e.trans e')
  | ct v st => exact fun ρ' H' x e' => h ρ' H' x (e.trans e')
  | exc x env st => exact fun ρ' H' c d σ' e' => h ρ' H' c d σ' (e.trans e')
  | bad => exact h
theorem PostS.ofE {Rp : Hp → List Addr → α → β → Prop} {m : RE α} {env : IEnv} {st : Sto} {k : α → Sto → RS} (r : Rel K H ρ st) (re : RelEnv K H ρ env σ) (h : PostS P W ρ H D (RS.ofE m env k)) :
    Post P W Rp ρ H σ (fun x H1 => ∃ (ρ1 : List Addr) (st1 : Sto) (v : α), ExtX ρ H ρ1 H1 ∧ RelX P H1 ρ1 st1 ∧ RelEnv K H1 ρ1 env σ ∧ Rp H1 ρ1 v x ∧ PostS P W ρ1 H1 D (k v st1)) m := by
  cases m with
  | ok v s => exact fun ρ' H' x e r' p => ⟨ρ', s, v, e, r', re.monoX r e, p, PostS.ext e h⟩
  | exc x s => exact fun ρ' H' c d e r' q => h ρ' H' c d σ e r' (re.monoX r e) q
  | bad => exact h
theorem PostS.hereN {env : IEnv} {st : Sto} (h : PostS P W ρ H D (.nx env st)) (r : RelX P H ρ st) (re : RelEnv K H ρ env σ) : D.nx σ H := h ρ H σ (ExtX.refl _ _) r re
theorem PostS.seq {m : RS} {k : SemS} (h : PostS P W ρ H D (m.seq k)) : PostS P W ρ H { D with nx := tS P W k D } m := by
  cases m with
  | nx env st => exact fun ρ' H' σ' e r re => ⟨ρ', env, st, r, re, PostS.ext e h⟩
  | rt v st => exact h
  | bk v st => exact h
  | ct v st => exact h
  | exc x env st => exact h
  | bad => exact h
theorem PostS.loop {m : RS} {k : SemS} {N : L2.St → Hp → Prop} (h : PostS P W ρ H D (m.loop k))
    (hN : ∀ (ρ' : List Addr) (H' : Hp) (σ' : L2.St) (env : IEnv) (st : Sto), ExtX ρ H ρ' H' → RelX P H' ρ' st → RelEnv K H' ρ' env σ' → PostS P W ρ' H' D (k env st) → N σ' H') : PostS P W ρ H { D with nx := N, ct := N, bk := D.nx } m := by
  cases m with
  | nx env st => exact fun ρ' H' σ' e r re => hN ρ' H' σ' env st e r re (PostS.ext e h)
  | rt v st => exact h
  | bk v st => exact h
  | ct env st => exact fun ρ' H' σ' e r re => hN ρ' H' σ' env st e r re (PostS.ext e h)
  | exc x env st => exact h
  | bad => exact h
theorem RelEnv.set {env : IEnv} {v : IV} {x : V} (re : RelEnv K H ρ env σ) (p : RepV K H ρ v x) (i : Nat) : RelEnv K H ρ (env.set i (some v)) (σ.set i (some x)) := by
  refine ⟨by simp [re.len], fun j w e => ?_⟩
  by_cases h : i = j
  · subst h
    have hl : i < env.length := by
      have := (List.getElem?_eq_some_iff.mp e).1
      simpa using this
    rw [List.getElem?_set_self hl] at e
    cases e
    exact ⟨x, by rw [List.getElem?_set_self (by rw [← re.len]; exact hl)], p⟩
  · rw [List.getElem?_set_ne h] at e ⊢
    exact re.get j w e
end

/-! ### what statements give -/
def sPass : SemS := fun env st => .nx env st
def sBreak : SemS := fun env st => .bk env st
def sCont : SemS := fun env st => .ct env st
def sSeq (a b : SemS) : SemS := fun env st => (a env st).seq b
def sExpr (e : SemE) : SemS := fun env st => RS.ofE (e env st) env fun _ st1 => .nx env st1
def sRet (e : SemE) : SemS := fun env st => RS.ofE (e env st) env fun v st1 => .rt v st1
def sRetN : SemS := fun _ st => .rt .non st
def sIf (c : SemT) (a b : SemS) : SemS := fun env st => RS.ofE (c env st) env fun k st1 => bif k then a env st1 else b env st1
/-- a target: the value, the names, the store -/
abbrev SemG := IV → IEnv → Sto → Option (IEnv × Sto)
abbrev SemGs := List IV → IEnv → Sto → Option (IEnv × Sto)
def gN (i : Nat) : SemG := fun v env st => some (env.set i (some v), st)
def gsNil : SemGs := fun vs env st => match vs with
  | [] => some (env, st)
  | _ :: _ => none
def gsCons (g : SemG) (gs : SemGs) : SemGs := fun vs env st => match vs with
  | [] => none
  | v :: r => match g v env st with
    | some (env1, st1) => gs r env1 st1
    | none => none
def gT (n : Nat) (gs : SemGs) : SemG := fun v env st => match v with
  | .tup xs => bif Nat.beq xs.length n then gs xs env st else none
  | _ => none
/-- o[i] = v -/
def setI : IV → IV → IV → Sto → Option Sto
  | .ref n, .int i, v, st => match st.os[n]? with
    | some (.lst xs) => match ixN xs.length i with
      | some j => some { os := st.os.set n (.lst (xs.set j v)), low := st.low }
      | none => none
    | _ => none
  | _, _, _, _ => none
def gSubI (o i : SemE) : SemG := fun v env st => match o env st with
  | .ok ov st1 => match i env st1 with
    | .ok iv st2 => match setI ov iv v st2 with
      | some st3 => some (env, st3)
      | none => none
    | _ => none
  | _ => none
def RS.ofG (m : Option (IEnv × Sto)) (k : SemS) : RS := match m with
  | some (env, st) => k env st
  | none => .bad
def sAsg (e : SemE) (g : SemG) : SemS := fun env st => RS.ofE (e env st) env fun v st1 => RS.ofG (g v env st1) fun env2 st2 => .nx env2 st2
def sPar (i j : Nat) (es : SemA) : SemS := fun env st => RS.ofE (es env st) env fun vs st1 => match vs with
  | [v, w] => .nx ((env.set i (some v)).set j (some w)) st1
  | _ => .bad
/-- name op= e -/
def sAug (i : Nat) (f : IV → IV → Sto → RO) (e : SemE) : SemS := fun env st => match env[i]? with
  | some (some x) => RS.ofE (e env st) env fun y st1 => RS.ofE (RE.ofO (f x y st1)) env fun z st2 => .nx (env.set i (some z)) st2
  | _ => .bad
def sWhile (c : SemT) (b : SemS) : Nat → SemS
  | 0 => fun _ _ => .bad
  | n + 1 => fun env st => RS.ofE (c env st) env fun k st1 => bif k then (b env st1).loop (sWhile c b n) else .nx env st1
/-- while, with so many turns -/
def sWhileF (fuel : IEnv → Sto → Nat) (c : SemT) (b : SemS) : SemS := fun env st => sWhile c b (fuel env st) env st
/-- for over items that don't change -/
def loopT (g : SemG) (b : SemS) : List IV → SemS
  | [] => fun env st => .nx env st
  | x :: xs => fun env st => RS.ofG (g x env st) fun env1 st1 => (b env1 st1).loop (loopT g b xs)
/-- for over a list of the store, from the place i on, with so many turns -/
def loopL (g : SemG) (b : SemS) (n : Nat) : Nat → Nat → SemS
  | 0, _ => fun _ _ => .bad
  | m + 1, i => fun env st => match lstAt st n with
    | some xs => match xs[i]? with
      | some x => RS.ofG (g x env st) fun env1 st1 => (b env1 st1).loop (loopL g b n m (i + 1))
      | none => .nx env st
    | none => .bad
def intsI (lo : Int) : Nat → List IV
  | 0 => []
  | n + 1 => .int lo :: intsI (lo + 1) n
def chrs (s : List Nat) : List IV := s.map fun c => .str [c]
/-- what a for walks -/
inductive FI where
  | items (xs : List IV)
  | list (n : Nat)
  | walk (n : Nat) (len : Sto → Option Nat) (row : Sto → Nat → Option IV)
/-- for over rows that are read off the store at each turn, their number as it was -/
def loopW (g : SemG) (b : SemS) (n : Nat) (len : Sto → Option Nat) (row : Sto → Nat → Option IV) : Nat → Nat → SemS
  | 0, _ => fun _ _ => .bad
  | m + 1, i => fun env st => match len st with
    | some k => bif Nat.beq k n then (bif Nat.blt i n then (match row st i with
      | some x => RS.ofG (g x env st) fun env1 st1 => (b env1 st1).loop (loopW g b n len row m (i + 1))
      | none => .bad) else .nx env st) else .bad
    | none => .bad
def seqFI (v : IV) : Option FI := match v with
  | .tup xs => some (.items xs)
  | .ref n => some (.list n)
  | _ => none
def sFor (it : IEnv → Sto → RE FI) (g : SemG) (b : SemS) : SemS := fun env st => RS.ofE (it env st) env fun f st1 => match f with
  | .items xs => loopT g b xs env st1
  | .list n => match lstAt st1 n with
    | some xs => loopL g b n (xs.length + 1) 0 env st1
    | none => .bad
  | .walk n len row => loopW g b n len row (n + 1) 0 env st1
def fSeq (e : SemE) : IEnv → Sto → RE FI := fun env st => (e env st).bind fun v st1 => match seqFI v with
  | some f => .ok f st1
  | none => .bad
def fStr (e : SemE) : IEnv → Sto → RE FI := fun env st => (e env st).bind fun v st1 => match v with
  | .str s => .ok (.items (chrs s)) st1
  | _ => .bad
def rngOk (i : Int) : Bool := decide (-(2 ^ 62) ≤ i) && decide (i < 2 ^ 62)
def fRng1 (a : SemA) : IEnv → Sto → RE FI := fun env st => (a env st).bind fun v st1 => match v with
  | [.int j] => bif rngOk j then .ok (.items (intsI 0 j.toNat)) st1 else .bad
  | _ => .bad
def fRng2 (a : SemA) : IEnv → Sto → RE FI := fun env st => (a env st).bind fun v st1 => match v with
  | [.int i, .int j] => bif rngOk i && rngOk j then .ok (.items (intsI i (j - i).toNat)) st1 else .bad
  | _ => .bad

/-! ### they are sound -/
abbrev SS (X : Cx) (P : Par X.K) (W : WX) (s : Stmt) (r : SemS) : Prop := PS X s (tS P W r)
abbrev SSs (X : Cx) (P : Par X.K) (W : WX) (s : List Stmt) (r : SemS) : Prop := PSs X s (tS P W r)
def tG {K : PySem.W.Frag} (P : Par K) (g : SemG) : TG := fun x σ H Q => ∃ ρ env st v env' st', RelX P H ρ st ∧ RelEnv K H ρ env σ ∧ RepV K H ρ v x ∧ g v env st = some (env', st') ∧
  ∀ (ρ' : List Addr) (H' : Hp) (σ' : L2.St), ExtX ρ H ρ' H' → RelX P H' ρ' st' → RelEnv K H' ρ' env' σ' → Q σ' H'
def tGs {K : PySem.W.Frag} (P : Par K) (g : SemGs) : TGs := fun x σ H Q => ∃ ρ env st v env' st', RelX P H ρ st ∧ RelEnv K H ρ env σ ∧ RepVs K H ρ v x ∧ g v env st = some (env', st') ∧
  ∀ (ρ' : List Addr) (H' : Hp) (σ' : L2.St), ExtX ρ H ρ' H' → RelX P H' ρ' st' → RelEnv K H' ρ' env' σ' → Q σ' H'
abbrev SG (X : Cx) (P : Par X.K) (e : Expr) (g : SemG) : Prop := PG X e (tG P g)
abbrev SGs (X : Cx) (P : Par X.K) (e : List Expr) (g : SemGs) : Prop := PGs X e (tGs P g)
theorem _root_.L2.PG.of {X : Cx} {e : Expr} {t t' : TG} (h : PG X e t) (f : ∀ v σ H Q, t' v σ H Q → t v σ H Q) : PG X e t' := ⟨fun pins s σ H v u Q I r q => h.run pins s σ H v u Q I r (f v σ H Q q)⟩
theorem _root_.L2.PGs.of {X : Cx} {e : List Expr} {t t' : TGs} (h : PGs X e t) (f : ∀ v σ H Q, t' v σ H Q → t v σ H Q) : PGs X e t' := ⟨fun pins s σ H v u Q I r q => h.run pins s σ H v u Q I r (f v σ H Q q)⟩
section
variable {X : Cx} {P : Par X.K} {W : WX} {a b c e tg : Expr} {ra rb rc re_ : SemE} {tc : SemT} {es : List Expr} {rs : SemA} {pos p : Pos} {σ : L2.St} {H : Hp} {x : Str} {s : Stmt} {ss s1 s2 : List Stmt} {r r1 r2 : SemS} {g : SemG} {gs : SemGs}
theorem ss_pass : SS X P W (.Pass pos) sPass := ps_pass.of fun D σ H ⟨ρ, env, st, r, re, h⟩ => h.hereN r re
theorem ss_break : SS X P W (.Break pos) sBreak := ps_break.of fun D σ H ⟨ρ, env, st, r, re, h⟩ => h ρ H σ (ExtX.refl _ _) r re
theorem ss_cont : SS X P W (.Continue pos) sCont := ps_continue.of fun D σ H ⟨ρ, env, st, r, re, h⟩ => h ρ H σ (ExtX.refl _ _) r re
theorem sss_nil : SSs X P W [] sPass := pss_nil.of fun D σ H ⟨ρ, env, st, r, re, h⟩ => h.hereN r re
theorem sss_one (h : SS X P W s r) : SSs X P W [s] r := pss_one h
theorem sss_cons (h : SS X P W s r) (h2 : SSs X P W ss r2) : SSs X P W (s :: ss) (sSeq r r2) := (pss_cons h h2).of fun D σ H ⟨ρ, env, st, r, re, h⟩ => ⟨ρ, env, st, r, re, h.seq⟩
theorem ss_expr (he : SE X P W e ra) (hs : swapsWith e none pos.line X.env = pure false := by rfl) : SS X P W (.Expr e pos) (sExpr ra) :=
  (ps_expr he hs).of fun D σ H ⟨ρ, env, st, r, re, h⟩ => ⟨ρ, env, st, r, re, (PostS.ofE r.r re h).mono fun x H1 ⟨ρ1, st1, v, e1, r1, re1, p1, h1⟩ => h1.hereN r1 re1⟩
theorem ss_ret (he : SE X P W e ra) : SS X P W (.Return (some e) pos) (sRet ra) :=
  (ps_ret he).of fun D σ H ⟨ρ, env, st, r, re, h⟩ => ⟨ρ, env, st, r, re, (PostS.ofE r.r re h).mono fun x H1 ⟨ρ1, st1, v, e1, r1, re1, p1, h1⟩ => h1 ρ1 H1 x (ExtX.refl _ _) r1 p1⟩
theorem ss_retN : SS X P W (.Return none pos) sRetN := ps_retN.of fun D σ H ⟨ρ, env, st, r, re, h⟩ => h ρ H .non (ExtX.refl _ _) r .non
theorem ss_if (hc : SC X P W c tc) (ha : SSs X P W s1 r1) (hb : SSs X P W s2 r2) : SS X P W (.If c s1 s2 pos) (sIf tc r1 r2) :=
  (ps_if hc ha hb).of fun D σ H ⟨ρ, env, st, r, re, h⟩ => by
    refine ⟨ρ, env, st, r, re, (PostS.ofE r.r re h).mono fun x H1 ⟨ρ1, st1, v, e1, r1, re1, p1, h1⟩ => ?_⟩
    obtain rfl : v = x := p1
    cases v with
    | true => exact ⟨ρ1, env, st1, r1, re1, h1⟩
    | false => exact ⟨ρ1, env, st1, r1, re1, h1⟩
theorem sg_name {i : Nat} (hN : X.N.Nodup) (hi : X.N[i]? = some x) (hx : Loc X.env.scope x) (hf : X.fn x = true ∨ X.env.scope.names.lookup x = some .local := by first | exact .inl rfl | exact .inr rfl | assumption) : SG X P (.Name x pos) (gN i) :=
  (pg_name hN hi hx hf).of fun v σ H Q ⟨ρ, env, st, w, env', st', r, re, p, e, h⟩ => by
    cases e
    exact h ρ H _ (ExtX.refl _ _) r (re.set p i)
theorem sgs_nil : SGs X P [] gsNil := pgs_nil.of fun v σ H Q ⟨ρ, env, st, w, env', st', r, re, p, e, h⟩ => by
  cases p with
  | nil => cases e; exact ⟨rfl, h ρ H σ (ExtX.refl _ _) r re⟩
  | cons => cases e
theorem sgs_cons (h1 : SG X P e g) (h2 : SGs X P es gs) (hs : (assignEach (e :: es) X.env).map (·.2) = assign e X.env :: (assignEach es X.env).map (·.2) := by rfl) : SGs X P (e :: es) (gsCons g gs) :=
  (pgs_cons h1 h2 hs).of fun v σ H Q ⟨ρ, env, st, w, env', st', r, re, p, e, h⟩ => by
    cases p with
    | nil => cases e
    | cons p t =>
      unfold gsCons at e
      dsimp only at e
      split at e
      · rename_i env1 st1 e1
        refine ⟨_, _, rfl, ρ, env, st, _, env1, st1, r, re, p, e1, fun ρ1 H1 σ1 x1 r1 re1 => ?_⟩
        exact ⟨ρ1, env1, st1, _, env', st', r1, re1, t.monoX r.r x1, e, fun ρ2 H2 σ2 x2 r2 re2 => h ρ2 H2 σ2 (x1.trans x2) r2 re2⟩
      · cases e
theorem sg_tup {k n : Nat} (hc : X.calm = true) (h : SGs X P es gs) (hn : (assignEach es X.env).length = n := by rfl) (hst : (assignEach es X.env).findIdx? (·.1) = none := by rfl) : SG X P (.Tuple es k pos) (gT n gs) :=
  (pg_tup hc h hn hst).of fun v σ H Q ⟨ρ, env, st, w, env', st', r, re, p, e, h⟩ => by
    cases p with
    | tup hq t =>
      unfold gT at e
      dsimp only at e
      cases hb : Nat.beq _ n with
      | false => rw [hb] at e; cases e
      | true =>
        rw [hb] at e
        exact ⟨_, _, rfl, hq, by rw [← t.length]; exact Nat.eq_of_beq_eq_true hb, ρ, env, st, _, env', st', r, re, t, e, h⟩
    | _ => cases e
theorem ss_asg (he : SE X P W e ra) (hg : SG X P tg g) (hs : swapsWithSole [tg] e pos.line X.env = pure false := by rfl) (hw : swappedStores [tg] e X.env = pure none := by rfl) (h1 : (assignEach [tg] X.env).map (·.2) = [assign tg X.env] := by rfl) : SS X P W (.Assign [tg] e pos) (sAsg ra g) :=
  (ps_asg he hg hs hw h1).of fun D σ H ⟨ρ, env, st, r, re, h⟩ => by
    refine ⟨ρ, env, st, r, re, (PostS.ofE r.r re h).mono fun x H1 ⟨ρ1, st1, v, e1, r1, re1, p1, h1⟩ => ?_⟩
    cases eg : g v env st1 with
    | none => rw [eg] at h1; exact h1.elim
    | some q =>
      obtain ⟨env2, st2⟩ := q
      rw [eg] at h1
      exact ⟨ρ1, env, st1, v, env2, st2, r1, re1, p1, eg, h1⟩
theorem ss_set {i : Nat} {p' : Pos} (hN : X.N.Nodup) (hi : X.N[i]? = some x) (hx : Loc X.env.scope x) (he : SE X P W e ra) (hs : swapsWith e (some (.Name x p')) pos.line X.env = pure false := by rfl) (hf : X.fn x = true ∨ X.env.scope.names.lookup x = some .local := by first | exact .inl rfl | exact .inr rfl | assumption) :
    SS X P W (.Assign [.Name x p'] e pos) (sAsg ra (gN i)) :=
  (ps_set hN hi hx he hs hf).of fun D σ H ⟨ρ, env, st, r, re, h⟩ => ⟨ρ, env, st, r, re, (PostS.ofE r.r re h).mono fun x H1 ⟨ρ1, st1, v, e1, r1, re1, p1, h1⟩ => h1.hereN r1 (re1.set p1 i)⟩
theorem ss_par {i j : Nat} {x y : Str} {a b : Expr} {px py pt : Pos} {kt k2 pt2} (hc : X.calm = true) (hN : X.N.Nodup) (hi : X.N[i]? = some x) (hj : X.N[j]? = some y) (hij : i ≠ j)
    (hx : X.env.scope.names.lookup x = some .local) (hy : X.env.scope.names.lookup y = some .local) (ha : SA X P W [a, b] rs)
    (hw : swappedStores [.Tuple [.Name x px, .Name y py] kt pt] (.Tuple [a, b] k2 pt2) X.env = pure (some [x, y]))
    (hs : swapsWithSole [.Tuple [.Name x px, .Name y py] kt pt] (.Tuple [a, b] k2 pt2) pos.line X.env = pure false := by rfl) :
    SS X P W (.Assign [.Tuple [.Name x px, .Name y py] kt pt] (.Tuple [a, b] k2 pt2) pos) (sPar i j rs) :=
  (ps_par hc hN hi hj hij hx hy ha hw hs).of fun D σ H ⟨ρ, env, st, r, re, h⟩ => by
    refine ⟨ρ, env, st, r, re, (PostS.ofE r.r re h).mono fun x H1 ⟨ρ1, st1, v, e1, r1, re1, p1, h1⟩ => ?_⟩
    split at h1
    · obtain ⟨v', w', e', pv, pw⟩ := RepVs.two p1
      exact ⟨v', w', e', h1.hereN r1 ((re1.set pv i).set pw j)⟩
    · exact h1.elim
theorem ss_while {fuel : IEnv → Sto → Nat} (hp : PassesOwn (model X.prog X.w) X.A X.env X.xe) (hc : SC X P W c tc) (hb : SSs X P W ss r) : SS X P W (.While c ss [] pos) (sWhileF fuel tc r) :=
  (ps_while hp hc hb).of fun D σ H ⟨ρ, env, st, rl, re, h⟩ => by
    refine ⟨fun m σ H => ∃ ρ env st, RelX P H ρ st ∧ RelEnv X.K H ρ env σ ∧ PostS P W ρ H D (sWhile tc r m env st), ⟨fuel env st, ρ, env, st, rl, re, h⟩, ?_⟩
    rintro m σ H ⟨ρ, env, st, rl, re, h⟩
    cases m with
    | zero => exact h.elim
    | succ m =>
      refine ⟨ρ, env, st, rl, re, (PostS.ofE rl.r re h).mono fun x H1 ⟨ρ1, st1, v, e1, r1, re1, p1, h1⟩ => ?_⟩
      obtain rfl : v = x := p1
      cases v with
      | false => exact h1.hereN r1 re1
      | true =>
        rw [if_pos rfl]
        refine ⟨fun σ' H' => ∃ ρ env st, RelX P H' ρ st ∧ RelEnv X.K H' ρ env σ' ∧ PostS P W ρ H' D (sWhile tc r m env st), fun σ' H' q => ⟨m, Nat.lt_succ_self m, q⟩, ?_⟩
        exact ⟨ρ1, env, st1, r1, re1, PostS.loop h1 fun ρ2 H2 σ2 env2 st2 e2 r2 re2 h2 => ⟨ρ2, env2, st2, r2, re2, h2⟩⟩
end
end PI

set_option Elab.async false
set_option linter.all false
set_option maxRecDepth 100000
/-! PI8: for, comprehensions. -/
namespace PI
open PySem PySem.Spec PyProof.Rows L2
open LamX (Tabs TabS CodeO ExtN)

/-! ### what is walked -/
/-- the iterator gives the items, whatever happens to the store -/
structure Gives (K : PySem.W.Frag) (xs : List IV) (J : It) (Iv : List Addr → Hp → Prop) : Prop where
  mono : ∀ {ρ : List Addr} {H : Hp} {ρ' : List Addr} {H' : Hp} {st : Sto}, Rel K H ρ st → ExtX ρ H ρ' H' → Iv ρ H → Iv ρ' H'
  stop : ∀ {ρ : List Addr} {H : Hp}, Iv ρ H → J.stop xs.length H
  go : ∀ {ρ : List Addr} {H : Hp} {i : Nat} {x : IV}, Iv ρ H → xs[i]? = some x → J.go i H ∧ ∀ y H', J.yld i H y H' → ∀ st, Rel K H ρ st → Ext ρ H ρ H' ∧ Rel K H' ρ st ∧ RepV K H' ρ x y
/-- the iterator gives the rows, read off the store at each turn -/
structure GivesW (K : PySem.W.Frag) (n : Nat) (len : Sto → Option Nat) (row : Sto → Nat → Option IV) (J : It) (Iv : List Addr → Hp → Prop) : Prop where
  mono : ∀ {ρ : List Addr} {H : Hp} {ρ' : List Addr} {H' : Hp} {st : Sto}, Rel K H ρ st → ExtX ρ H ρ' H' → Iv ρ H → Iv ρ' H'
  stop : ∀ {ρ : List Addr} {H : Hp} {st : Sto}, Iv ρ H → Rel K H ρ st → len st = some n → J.stop n H
  go : ∀ {ρ : List Addr} {H : Hp} {st : Sto} {i : Nat} {x : IV}, Iv ρ H → Rel K H ρ st → len st = some n → i < n → row st i = some x → J.go i H ∧ ∀ y H', J.yld i H y H' → Ext ρ H ρ H' ∧ Rel K H' ρ st ∧ RepV K H' ρ x y
def RpI (K : PySem.W.Frag) : Hp → List Addr → FI → It → Prop := fun H ρ f J => match f with
  | .items xs => ∃ Iv, Gives K xs J Iv ∧ Iv ρ H
  | .list n => ∃ a, ρ[n]? = some a ∧ J = Itl K a
  | .walk n len row => ∃ Iv, GivesW K n len row J Iv ∧ Iv ρ H
def tI {K : PySem.W.Frag} (P : Par K) (W : WX) (it : IEnv → Sto → RE FI) : TI := fun σ H R => ∃ ρ env st, RelX P H ρ st ∧ RelEnv K H ρ env σ ∧ Post P W (RpI K) ρ H σ R (it env st)
abbrev SI (X : Cx) (P : Par X.K) (W : WX) (tg e : Expr) (it : IEnv → Sto → RE FI) : Prop := PI X tg e (tI P W it)
theorem _root_.L2.PI.of {X : Cx} {tg e : Expr} {t t' : TI} (h : PI X tg e t) (f : ∀ σ H Q, t' σ H Q → t σ H Q) : PI X tg e t' := ⟨fun pins s σ H R I q => h.run pins s σ H R I (f σ H R q)⟩
section
variable {K : PySem.W.Frag}
theorem gives_int (lo : Int) (n : Nat) : Gives K (intsI lo n) (Itr lo n) fun _ _ => True := by
  have hl : ∀ (n : Nat) (lo : Int), (intsI lo n).length = n := fun n => by
    induction n with
    | zero => exact fun _ => rfl
    | succ n ih => exact fun lo => by show (intsI (lo + 1) n).length + 1 = n + 1; rw [ih]
  have hg : ∀ (n : Nat) (lo : Int) (i : Nat) (x : IV), (intsI lo n)[i]? = some x → i < n ∧ x = .int (lo + i) := fun n => by
    induction n with
    | zero => intro lo i x h; simp [intsI] at h
    | succ n ih =>
      intro lo i x h
      cases i with
      | zero =>
        have h' : some (IV.int lo) = some x := h
        cases h'
        exact ⟨by omega, by congr 1; omega⟩
      | succ i =>
        obtain ⟨h1, h2⟩ := ih (lo + 1) i x h
        exact ⟨by omega, by rw [h2]; congr 1; omega⟩
  refine ⟨fun _ _ _ => trivial, fun {ρ H} _ => ?_, fun {ρ H i x} _ e => ?_⟩
  · show n ≤ _
    rw [hl]
    exact Nat.le_refl _
  · obtain ⟨h1, h2⟩ := hg n lo i x e
    refine ⟨h1, fun y H' h st r => ?_⟩
    obtain ⟨e1, e2⟩ := h
    subst e1 e2
    rw [h2]
    exact ⟨Ext.refl _ _, r, .int _⟩
theorem gives_str {s : List Nat} (h : s.all (fun c => decide (c < 0x110000)) = true) : Gives K (chrs s) (Its ⟨s.toArray⟩) fun _ _ => True := by
  refine ⟨fun _ _ _ => trivial, fun {ρ H} _ => ?_, fun {ρ H i x} _ e => ?_⟩
  · show (⟨s.toArray⟩ : Str).cps.size ≤ _
    simp [chrs]
  · have e' : (s.map fun c => IV.str [c])[i]? = some x := e
    rw [List.getElem?_map] at e'
    cases q : s[i]? with
    | none => rw [q] at e'; cases e'
    | some c =>
      rw [q] at e'
      cases e'
      have hm := List.mem_of_getElem? q
      have hc := List.all_eq_true.mp h c hm
      refine ⟨?_, fun y H' hy st r => ?_⟩
      · show i < (⟨s.toArray⟩ : Str).cps.size
        have := (List.getElem?_eq_some_iff.mp q).1
        simpa using this
      · obtain ⟨e1, d, hd, e2⟩ := hy
        have : d = c := by
          have hd' : s.toArray[i]? = some d := hd
          rw [List.getElem?_toArray, q] at hd'
          exact (Option.some.inj hd').symm
        subst this
        subst e2
        subst e1
        exact ⟨Ext.refl _ _, r, RepV.str (s := [d]) (by rw [List.all_cons, hc]; rfl)⟩
end
section
variable {X : Cx} {P : Par X.K} {W : WX} {a b c e tg iter : Expr} {ra rb rc : SemE} {tc : SemT} {es : List Expr} {rs : SemA} {pos p : Pos} {σ : L2.St} {H : Hp} {x : Str} {ss : List Stmt} {r : SemS} {g : SemG} {it : IEnv → Sto → RE FI}
theorem pi_seqI (hl : SE X P W e ra) : SI X P W tg e (fSeq ra) := by
  refine ⟨fun pins s σ H R I h => ?_⟩
  obtain ⟨ρ, env, st, r, re, h⟩ := h
  have hp : Post P W (RpV X.K) ρ H σ (fun x H1 => ∃ (ρ1 : List Addr) (st1 : Sto) (v : IV), ExtX ρ H ρ1 H1 ∧ RelX P H1 ρ1 st1 ∧ RepV X.K H1 ρ1 v x ∧ Post P W (RpI X.K) ρ1 H1 σ R (match seqFI v with | some f => .ok f st1 | none => .bad)) (ra env st) := h.bind
  refine thn (hl.run pins s σ H _ I ⟨ρ, env, st, r, re, hp⟩) fun v s1 ⟨x, H1, I1, r1, ρ1, st1, v', e1, rx1, p1, h1⟩ => ?_
  cases p1 with
  | @tup xs vs a hq t =>
    obtain rfl : v = .ref a := r1
    obtain ⟨its, rv, p, hz⟩ := I1.tuple hq
    refine wpAny_pyIter_tuple (show s1.heap.IsTuple a its.toArray from p) ?_
    refine ⟨s1.heap.objs.size, [s1.heap.objs.size], _, _, H1, rfl, I1.kept (t' := s1.toks) fun b o e => Heap.get?_push_of_some _ e, turn_tuple a _, ⟨_, Heap.get?_push_size _ rfl, rfl, rfl⟩, fun b hb => ?_, ?_⟩
    · have e : b = s1.heap.objs.size := by simpa using hb
      subst e
      exact I1.fpOk (Nat.le_refl _) (I1.hok.fresh (Nat.le_refl _))
    · refine h1.here (x := Itt X.K a) rx1 ⟨fun ρ H => SqT X.K H a vs ∧ RepVs X.K H ρ xs vs, ?_, hq, t⟩
      refine ⟨fun {ρ H ρ' H' st} r e ⟨q1, q2⟩ => ⟨sqT_X r e q1, q2.monoX r e⟩, fun {ρ H} ⟨q1, q2⟩ => ⟨vs, q1, by rw [q2.length]; exact Nat.le_refl _⟩, fun {ρ H i x} ⟨q1, q2⟩ ex => ?_⟩
      obtain ⟨y, hy, ry⟩ := q2.get ex
      refine ⟨⟨vs, y, q1, hy⟩, fun z H' ⟨h1, h2⟩ st r => ?_⟩
      subst h1
      refine ⟨Ext.refl _ _, r, ?_⟩
      have := h2 vs q1
      rw [hy] at this
      cases this
      exact ry
  | @ref n a hn =>
    obtain rfl : v = .ref a := r1
    have h1' := h1.here (x := Itl X.K a) rx1 ⟨a, hn, rfl⟩
    have hl : ∃ xs, SqL X.K H1 a xs := by
      obtain ⟨m, o, e1, e2, q⟩ := rx1.r.at' (List.mem_of_getElem? hn)
      cases o with
      | lst xs => obtain ⟨vs, q, _⟩ := q; exact ⟨vs, .inl (.inl q)⟩
      | frl xs => obtain ⟨vs, q, _⟩ := q; exact ⟨vs, .inl q⟩
    obtain ⟨xs, hq⟩ := hl
    obtain ⟨its, rv, p, hz⟩ := I1.list hq
    refine wpAny_pyIter_list p.isList ?_
    refine ⟨s1.heap.objs.size, [s1.heap.objs.size], _, _, H1, rfl, I1.kept (t' := s1.toks) fun b o e => Heap.get?_push_of_some _ e, turn_list a _, ⟨_, Heap.get?_push_size _ rfl, rfl, rfl⟩, fun b hb => ?_, h1'⟩
    have e : b = s1.heap.objs.size := by simpa using hb
    subst e
    exact I1.fpOk (Nat.le_refl _) (I1.hok.fresh (Nat.le_refl _))
  | _ => exact h1.elim
theorem pi_strI (hl : SE X P W e ra) : SI X P W tg e (fStr ra) :=
  (pi_str hl).of fun σ H R ⟨ρ, env, st, r, re, h⟩ => by
    refine ⟨ρ, env, st, r, re, h.bind.mono fun x H1 ⟨ρ1, st1, v, e1, r1, p1, h1⟩ => ?_⟩
    cases p1 with
    | str hs => exact ⟨_, rfl, h1.here r1 ⟨_, gives_str hs, trivial⟩⟩
    | _ => exact h1.elim
theorem rngOk_ok {i : Int} (h : rngOk i = true) : -(2 ^ 62) ≤ i ∧ i < 2 ^ 62 := by
  unfold rngOk at h
  simp only [Bool.and_eq_true, decide_eq_true_eq] at h
  exact h
theorem pi_rng1 (hg : Gl X "range") (hm : X.mg "range" = none) (ha : SA X P W [a] rs) (hs : starEach [a] X.env = [(false, eval a X.env)] := by rfl) : SI X P W tg (.Call (.Name "range" p) [a] [] pos) (fRng1 rs) :=
  (pi_range1 hg hm ha hs).of fun σ H R ⟨ρ, env, st, r, re, h⟩ => by
    refine ⟨ρ, env, st, r, re, h.bind.mono fun x H1 ⟨ρ1, st1, v, e1, r1, p1, h1⟩ => ?_⟩
    split at h1
    · rename_i j
      obtain ⟨v', rfl, q⟩ := RepVs.one p1
      cases q
      obtain ⟨e, h1⟩ := bif_bad h1
      obtain ⟨b1, b2⟩ := rngOk_ok e
      exact ⟨j, rfl, b1, b2, h1.here r1 ⟨_, gives_int 0 j.toNat, trivial⟩⟩
    · exact h1.elim
theorem pi_rng2 (hg : Gl X "range") (hm : X.mg "range" = none) (ha : SA X P W [a, b] rs) (hs : starEach [a, b] X.env = [(false, eval a X.env), (false, eval b X.env)] := by rfl) (hs2 : starEach [b] X.env = [(false, eval b X.env)] := by rfl) : SI X P W tg (.Call (.Name "range" p) [a, b] [] pos) (fRng2 rs) :=
  (pi_range2 hg hm ha hs hs2).of fun σ H R ⟨ρ, env, st, r, re, h⟩ => by
    refine ⟨ρ, env, st, r, re, h.bind.mono fun x H1 ⟨ρ1, st1, v, e1, r1, p1, h1⟩ => ?_⟩
    split at h1
    · rename_i i j
      obtain ⟨v', w', rfl, q, q'⟩ := RepVs.two p1
      cases q
      cases q'
      obtain ⟨e, h1⟩ := bif_bad h1
      obtain ⟨e1, e2⟩ := Bool.and_eq_true_iff.mp e
      obtain ⟨b1, b2⟩ := rngOk_ok e1
      obtain ⟨b3, b4⟩ := rngOk_ok e2
      exact ⟨i, j, rfl, ⟨b1, b2, b3, b4⟩, h1.here r1 ⟨_, gives_int i (j - i).toNat, trivial⟩⟩
    · exact h1.elim
theorem ofG_some {K : PySem.W.Frag} {P : Par K} {W : WX} {ρ : List Addr} {H : Hp} {D : Ends} {m : Option (IEnv × Sto)} {k : SemS} (h : PostS P W ρ H D (RS.ofG m k)) : ∃ env st, m = some (env, st) ∧ PostS P W ρ H D (k env st) := by
  cases m with
  | none => exact h.elim
  | some q => obtain ⟨env, st⟩ := q; exact ⟨env, st, rfl, h⟩
theorem ss_for (hp : PassesOwn (model X.prog X.w) X.A X.env X.xe) (hc : X.calm = true) (hi : SI X P W tg iter it) (hg : SG X P tg g) (hb : SSs X P W ss r)
    (hs : ∀ x, foldedSetIterable iter X.env x = pure x := by intro _; rfl) : SS X P W (.For tg iter ss [] pos) (sFor it g r) :=
  (ps_for hp hc hi hg hb hs).of fun D σ H ⟨ρ, env, st, rl, re, h⟩ => by
    refine ⟨ρ, env, st, rl, re, (PostS.ofE rl.r re h).mono fun J H1 ⟨ρ1, st1, f, e1, r1, re1, p1, h1⟩ => ?_⟩
    cases f with
    | items xs =>
      obtain ⟨Iv, gv, iv⟩ := p1
      have h1' : PostS P W ρ1 H1 D (loopT g r xs env st1) := h1
      refine ⟨fun i m σ H => i ≤ xs.length ∧ m = xs.length - i ∧ ∃ ρ env st, RelX P H ρ st ∧ RelEnv X.K H ρ env σ ∧ Iv ρ H ∧ PostS P W ρ H D (loopT g r (xs.drop i) env st), ⟨xs.length, Nat.zero_le _, by simp, ρ1, env, st1, r1, re1, iv, h1'⟩, ?_⟩
      rintro i m σ H ⟨hi, rfl, ρ, env, st, rl, re, iv, h⟩
      by_cases hlt : i < xs.length
      · right
        have ex : xs[i]? = some xs[i] := List.getElem?_eq_getElem hlt
        obtain ⟨go, yd⟩ := gv.go iv ex
        rw [List.drop_eq_getElem_cons hlt] at h
        obtain ⟨env1, st2, eg, h⟩ := ofG_some h
        refine ⟨go, fun σ' H' => i + 1 ≤ xs.length ∧ ∃ ρ env st, RelX P H' ρ st ∧ RelEnv X.K H' ρ env σ' ∧ Iv ρ H' ∧ PostS P W ρ H' D (loopT g r (xs.drop (i + 1)) env st), fun σ' H' ⟨l, q⟩ => ⟨xs.length - (i + 1), by omega, l, rfl, q⟩, fun y H' hy => ?_⟩
        obtain ⟨xe, r', ry⟩ := yd y H' hy st rl.r
        refine ⟨ρ, env, st, xs[i], env1, st2, rl.ext xe r', re.mono rl.r xe, ry, eg, fun ρ2 H2 σ2 x2 r2 re2 => ?_⟩
        exact ⟨ρ2, env1, st2, r2, re2, PostS.loop (PostS.ext (xe.x.trans x2) h) fun ρ3 H3 σ3 env3 st3 x3 r3 re3 h3 => ⟨hlt, ρ3, env3, st3, r3, re3, gv.mono rl.r (xe.x.trans (x2.trans x3)) iv, h3⟩⟩
      · left
        have : i = xs.length := by omega
        subst this
        rw [List.drop_length] at h
        exact ⟨gv.stop iv, h.hereN rl re⟩
    | walk n len row =>
      obtain ⟨Iv, gv, iv⟩ := p1
      have h1' : PostS P W ρ1 H1 D (loopW g r n len row (n + 1) 0 env st1) := h1
      refine ⟨fun i m σ H => i ≤ n ∧ i + m = n + 1 ∧ ∃ ρ env st, RelX P H ρ st ∧ RelEnv X.K H ρ env σ ∧ Iv ρ H ∧ PostS P W ρ H D (loopW g r n len row m i env st), ⟨n + 1, Nat.zero_le _, by omega, ρ1, env, st1, r1, re1, iv, h1'⟩, ?_⟩
      rintro i m σ H ⟨hi, him, ρ, env, st, rl, re, iv, h⟩
      cases m with
      | zero => exact h.elim
      | succ m =>
        unfold loopW at h
        split at h
        · rename_i k ek
          cases hb : Nat.beq k n with
          | false => rw [hb] at h; exact h.elim
          | true =>
            rw [hb] at h
            obtain rfl := Nat.eq_of_beq_eq_true hb
            by_cases hlt : i < k
            · have hl : Nat.blt i k = true := Nat.ble_eq_true_of_le hlt
              rw [hl] at h
              simp only [cond_true] at h
              split at h
              · rename_i x ex
                obtain ⟨go, yd⟩ := gv.go iv rl.r ek hlt ex
                obtain ⟨env1, st2, eg, h⟩ := ofG_some h
                refine .inr ⟨go, fun σ' H' => i + 1 ≤ k ∧ (i + 1) + m = k + 1 ∧ ∃ ρ env st, RelX P H' ρ st ∧ RelEnv X.K H' ρ env σ' ∧ Iv ρ H' ∧ PostS P W ρ H' D (loopW g r k len row m (i + 1) env st), fun σ' H' ⟨l, l2, q⟩ => ⟨m, Nat.lt_succ_self m, l, l2, q⟩, fun y H' hy => ?_⟩
                obtain ⟨xe, r', ry⟩ := yd y H' hy
                refine ⟨ρ, env, st, x, env1, st2, rl.ext xe r', re.mono rl.r xe, ry, eg, fun ρ2 H2 σ2 x2 r2 re2 => ?_⟩
                exact ⟨ρ2, env1, st2, r2, re2, PostS.loop (PostS.ext (xe.x.trans x2) h) fun ρ3 H3 σ3 env3 st3 x3 r3 re3 h3 => ⟨hlt, by omega, ρ3, env3, st3, r3, re3, gv.mono rl.r (xe.x.trans (x2.trans x3)) iv, h3⟩⟩
              · exact h.elim
            · have hl : Nat.blt i k = false := by
                cases hq : Nat.blt i k with
                | false => rfl
                | true => exact absurd (Nat.le_of_ble_eq_true hq) hlt
              rw [hl] at h
              have : i = k := by omega
              subst this
              exact .inl ⟨gv.stop iv rl.r ek, h.hereN rl re⟩
        · exact h.elim
    | list n =>
      obtain ⟨a, ha, rfl⟩ := p1
      dsimp only at h1
      split at h1
      · rename_i xs0 e0
        refine ⟨fun i m σ H => ∃ ρ env st, RelX P H ρ st ∧ RelEnv X.K H ρ env σ ∧ ρ[n]? = some a ∧ PostS P W ρ H D (loopL g r n m i env st), ⟨xs0.length + 1, ρ1, env, st1, r1, re1, ha, h1⟩, ?_⟩
        rintro i m σ H ⟨ρ, env, st, rl, re, ha, h⟩
        cases m with
        | zero => exact h.elim
        | succ m =>
          unfold loopL at h
          split at h
          · rename_i xs e2
            obtain ⟨vs, hq, t⟩ := lstAt_sq rl.r e2 ha
            split at h
            · rename_i x ex
              obtain ⟨y, hy, ry⟩ := t.get ex
              obtain ⟨env1, st2, eg, h⟩ := ofG_some h
              refine .inr ⟨⟨vs, y, hq, hy⟩, fun σ' H' => ∃ ρ env st, RelX P H' ρ st ∧ RelEnv X.K H' ρ env σ' ∧ ρ[n]? = some a ∧ PostS P W ρ H' D (loopL g r n m (i + 1) env st), fun σ' H' q => ⟨m, Nat.lt_succ_self m, q⟩, fun z H' ⟨e, hz⟩ => ?_⟩
              subst e
              have hz' := hz vs hq
              rw [hy] at hz'
              cases hz'
              refine ⟨ρ, env, st, x, env1, st2, rl, re, ry, eg, fun ρ2 H2 σ2 x2 r2 re2 => ?_⟩
              exact ⟨ρ2, env1, st2, r2, re2, PostS.loop (PostS.ext x2 h) fun ρ3 H3 σ3 env3 st3 x3 r3 re3 h3 => ⟨ρ3, env3, st3, r3, re3, pre_get (x2.trans x3).pre ha, h3⟩⟩
            · rename_i ex
              refine .inl ⟨⟨vs, hq, ?_⟩, h.hereN rl re⟩
              rw [← t.length]
              exact List.getElem?_eq_none_iff.mp ex
          · exact h.elim
      · exact h1.elim
end
end PI

set_option Elab.async false
set_option linter.all false
set_option maxRecDepth 100000
/-! PI9: comprehensions. -/
namespace PI
open PySem PySem.Spec PyProof.Rows L2
open LamX (Tabs TabS CodeO ExtN)

/-- a comprehension's target: a name, names -/
inductive CT where
  | one (i : Nat)
  | tup (is : List Nat)
def setsI {α : Type} : List Nat → List α → List (Option α) → List (Option α)
  | i :: is, v :: vs, env => setsI is vs (env.set i (some v))
  | _, _, env => env
def CT.put (t : CT) (v : IV) (env : IEnv) : Option IEnv := match t with
  | .one i => some (env.set i (some v))
  | .tup is => match v with
    | .tup xs => bif Nat.beq xs.length is.length then some (setsI is xs env) else none
    | _ => none
def CT.slots : CT → List Nat
  | .one i => [i]
  | .tup is => is
def CT.tg (K : PySem.W.Frag) : CT → TG
  | .one i => gName i
  | .tup is => gTup K is.length fun vs σ H Q => vs.length = is.length ∧ Q (setsI is vs σ) H
def wipeI (env : IEnv) : List Nat → IEnv
  | [] => env
  | v :: vs => (wipeI env vs).set v none
def loopC (tg : CT) (env0 : IEnv) (tt : SemT) (te : SemE) : List IV → List IV → Sto → RE (List IV)
  | [], acc, st => .ok acc.reverse st
  | x :: xs, acc, st => match tg.put x env0 with
    | none => .bad
    | some env1 => match tt env1 st with
      | .ok true st1 => match te env1 st1 with
        | .ok y st2 => loopC tg env0 tt te xs (y :: acc) st2
        | _ => .bad
      | .ok false st1 => loopC tg env0 tt te xs acc st1
      | _ => .bad
def loopCL (tg : CT) (env0 : IEnv) (tt : SemT) (te : SemE) (n : Nat) : Nat → Nat → List IV → Sto → RE (List IV)
  | 0, _, _, _ => .bad
  | m + 1, i, acc, st => match lstAt st n with
    | some xs => match xs[i]? with
      | some x => match tg.put x env0 with
        | none => .bad
        | some env1 => match tt env1 st with
          | .ok true st1 => match te env1 st1 with
            | .ok y st2 => loopCL tg env0 tt te n m (i + 1) (y :: acc) st2
            | _ => .bad
          | .ok false st1 => loopCL tg env0 tt te n m (i + 1) acc st1
          | _ => .bad
      | none => .ok acc.reverse st
    | none => .bad
def loopCW (tg : CT) (env0 : IEnv) (tt : SemT) (te : SemE) (n : Nat) (len : Sto → Option Nat) (row : Sto → Nat → Option IV) : Nat → Nat → List IV → Sto → RE (List IV)
  | 0, _, _, _ => .bad
  | m + 1, i, acc, st => match len st with
    | some k => bif Nat.beq k n then (bif Nat.blt i n then (match row st i with
      | some x => match tg.put x env0 with
        | none => .bad
        | some env1 => match tt env1 st with
          | .ok true st1 => match te env1 st1 with
            | .ok y st2 => loopCW tg env0 tt te n len row m (i + 1) (y :: acc) st2
            | _ => .bad
          | .ok false st1 => loopCW tg env0 tt te n len row m (i + 1) acc st1
          | _ => .bad
      | none => .bad) else .ok acc.reverse st) else .bad
    | none => .bad
def rLc (it : IEnv → Sto → RE FI) (tg : CT) (vs : List Nat) (tt : SemT) (te : SemE) : SemE := fun env st => (it env st).bind fun f st1 =>
  RE.bind (match f with
  | .items xs => bif Nat.ble xs.length lineI then loopC tg (wipeI env vs) tt te xs [] st1 else .bad
  | .list n => match lstAt st1 n with
    | some xs => bif Nat.ble xs.length lineI then loopCL tg (wipeI env vs) tt te n (xs.length + 1) 0 [] st1 else .bad
    | none => .bad
  | .walk n len row => bif Nat.ble n lineI then loopCW tg (wipeI env vs) tt te n len row (n + 1) 0 [] st1 else .bad) fun ys st2 => RE.ofO (st2.allocO (.lst ys))
def rYes : SemT := fun _ st => .ok true st

section
variable {K : PySem.W.Frag} {H H' : Hp} {ρ : List Addr} {st : Sto}
mutual
theorem RepV.byTup (h : ∀ (a : Addr) (vs : List V), SqT K H a vs → SqT K H' a vs) : ∀ {v : IV} {x : V}, RepV K H ρ v x → RepV K H' ρ v x
  | _, _, .non => .non
  | _, _, .bl b => .bl b
  | _, _, .int i => .int i
  | _, _, .str q => .str q
  | _, _, .tup q t => .tup (h _ _ q) (RepVs.byTup h t)
  | _, _, .ref q => .ref q
theorem RepVs.byTup (h : ∀ (a : Addr) (vs : List V), SqT K H a vs → SqT K H' a vs) : ∀ {v : List IV} {x : List V}, RepVs K H ρ v x → RepVs K H' ρ v x
  | _, _, .nil => .nil
  | _, _, .cons q t => .cons (RepV.byTup h q) (RepVs.byTup h t)
end
theorem sqT_upd {D : Addr} {xs ys : List V} (hD : H D = some (.lst xs)) (a : Addr) (vs : List V) (h : SqT K H a vs) : SqT K (upd H D (.lst ys)) a vs := by
  rcases h with (h | ⟨o, h⟩) | h
  · exact .inl (.inl (by rw [upd_ne (ne_of h hD (fun z => nomatch z))]; exact h))
  · exact .inl (.inr ⟨o, by rw [upd_ne (ne_of h hD (fun z => nomatch z))]; exact h⟩)
  · exact .inr h
/-- a list that is not in the store is changed -/
theorem Rel.side (r : Rel K H ρ st) {D : Addr} {xs ys : List V} (hD : H D = some (.lst xs)) (hn : D ∉ ρ) : Rel K (upd H D (.lst ys)) ρ st := by
  refine ⟨r.len, r.nd, fun n o a e1 e2 => ?_⟩
  have hne : a ≠ D := fun z => hn (z ▸ List.mem_of_getElem? e2)
  have q := r.obj n o a e1 e2
  cases o with
  | lst zs => obtain ⟨vs, q, t⟩ := q; exact ⟨vs, by rw [upd_ne hne]; exact q, RepVs.byTup (sqT_upd hD) t⟩
  | frl zs => obtain ⟨vs, q, t⟩ := q; exact ⟨vs, by unfold Rd; rw [upd_ne hne]; exact q, RepVs.byTup (sqT_upd hD) t⟩
theorem Tabs.side {T : List (Addr × Str)} (t : Tabs T H) {D : Addr} {xs ys : List V} (hD : H D = some (.lst xs)) : Tabs T (upd H D (.lst ys)) := by
  intro p hp
  obtain ⟨ps, h1, h2, h3⟩ := t p hp
  refine ⟨ps, by rw [upd_ne (ne_of h1 hD (fun z => nomatch z))]; exact h1, h2, fun pos cv hc => ?_⟩
  obtain ⟨c, e1, e2⟩ := h3 pos cv hc
  exact ⟨c, e1, by rw [upd_ne (ne_of e2 hD (fun z => by unfold CodeO at z; cases z))]; exact e2⟩
/-- a list comes into the store -/
theorem Rel.adopt (r : Rel K H ρ st) {D : Addr} {xs : List V} {ys : List IV} (hD : H D = some (.lst xs)) (hn : D ∉ ρ) (t : RepVs K H ρ ys xs) : Rel K H (ρ ++ [D]) { st with os := st.os ++ [.lst ys] } := by
  have pre : ExtX ρ H (ρ ++ [D]) H → True := fun _ => trivial
  have mv : ∀ {v : List IV} {x : List V}, RepVs K H ρ v x → RepVs K H (ρ ++ [D]) v x := by
    intro v x q
    induction q using RepVs.rec (motive_1 := fun v x _ => RepV K H (ρ ++ [D]) v x) with
    | non => exact .non
    | bl b => exact .bl b
    | int i => exact .int i
    | str h => exact .str h
    | tup h _ t => exact .tup h t
    | ref h => exact .ref (pre_get (List.prefix_append ρ [D]) h)
    | nil => exact .nil
    | cons _ _ h t => exact .cons h t
  have hl := r.len
  refine ⟨by simp [r.len], ?_, fun n o a e1 e2 => ?_⟩
  · rw [List.nodup_append]
    refine ⟨r.nd, by simp, fun a ha b hb => ?_⟩
    have : b = D := by simpa using hb
    subst this
    exact fun z => hn (z ▸ ha)
  · by_cases hlt : n < st.os.length
    · have e1' : st.os[n]? = some o := by
        have e1'' : (st.os ++ [IO.lst ys])[n]? = some o := e1
        rwa [List.getElem?_append_left hlt] at e1''
      have e2' : ρ[n]? = some a := by rwa [List.getElem?_append_left (by omega)] at e2
      have q := r.obj n o a e1' e2'
      cases o with
      | lst zs => obtain ⟨vs, q, t⟩ := q; exact ⟨vs, q, mv t⟩
      | frl zs => obtain ⟨vs, q, t⟩ := q; exact ⟨vs, q, mv t⟩
    · have hn1 : n < (st.os ++ [IO.lst ys]).length := (List.getElem?_eq_some_iff.mp (show (st.os ++ [IO.lst ys])[n]? = some o from e1)).1
      have en : n = st.os.length := by
        rw [List.length_append, List.length_cons, List.length_nil] at hn1
        omega
      subst en
      have e1'' : (st.os ++ [IO.lst ys])[st.os.length]? = some o := e1
      have e2'' : (ρ ++ [D])[st.os.length]? = some a := e2
      rw [List.getElem?_append_right (Nat.le_refl _)] at e1''
      rw [← hl, List.getElem?_append_right (Nat.le_refl _)] at e2''
      simp at e1'' e2''
      subst e1'' e2''
      exact ⟨xs, hD, mv t⟩
theorem RelEnv.wipe {env : IEnv} {σ : L2.St} (h : RelEnv K H ρ env σ) : ∀ vs : List Nat, RelEnv K H ρ (wipeI env vs) (L2.wipe σ vs)
  | [] => h
  | v :: vs => by
    have ih := RelEnv.wipe h vs
    show RelEnv K H ρ ((wipeI env vs).set v none) ((L2.wipe σ vs).set v none)
    refine ⟨by simp [ih.len], fun j w e => ?_⟩
    by_cases hj : v = j
    · subst hj
      have hl : v < (wipeI env vs).length := by
        have := (List.getElem?_eq_some_iff.mp e).1
        simpa using this
      rw [List.getElem?_set_self hl] at e
      cases e
    · rw [List.getElem?_set_ne hj] at e ⊢
      exact ih.get j w e
theorem setsI_len {α : Type} : ∀ (is : List Nat) (vs : List α) (env : List (Option α)), (setsI is vs env).length = env.length
  | [], _, _ => rfl
  | _ :: _, [], _ => rfl
  | i :: is, v :: vs, env => by show (setsI is vs (env.set i (some v))).length = _; rw [setsI_len is vs, List.length_set]
theorem RelEnv.sets : ∀ {is : List Nat} {xs : List IV} {vs : List V} {env : IEnv} {σ : L2.St}, RelEnv K H ρ env σ → RepVs K H ρ xs vs → RelEnv K H ρ (setsI is xs env) (setsI is vs σ)
  | [], _, _, _, _, h, _ => h
  | _ :: _, _, _, _, _, h, .nil => h
  | i :: is, _, _, _, _, h, .cons q t => RelEnv.sets (is := is) (h.set q i) t
theorem wipe_set {σ : L2.St} {x : V} {i : Nat} : ∀ {vs : List Nat}, i ∈ vs → L2.wipe (σ.set i (some x)) vs = L2.wipe σ vs
  | v :: vs, h => by
    show (L2.wipe (σ.set i (some x)) vs).set v none = (L2.wipe σ vs).set v none
    by_cases hi : i ∈ vs
    · rw [wipe_set hi]
    · have hv : i = v := by
        rcases List.mem_cons.mp h with h | h
        · exact h
        · exact absurd h hi
      subst hv
      have key : ∀ (vs : List Nat) (σ : L2.St), i ∉ vs → L2.wipe (σ.set i (some x)) vs = (L2.wipe σ vs).set i (some x) := fun vs => by
        induction vs with
        | nil => exact fun _ _ => rfl
        | cons u us ih =>
          intro σ hu
          simp only [List.mem_cons, not_or] at hu
          show (L2.wipe (σ.set i (some x)) us).set u none = ((L2.wipe σ us).set u none).set i (some x)
          rw [ih σ hu.2, List.set_comm _ _ hu.1]
      rw [key vs σ hi, List.set_set]
theorem wipe_sets {vs : List Nat} : ∀ {is : List Nat} {xs : List V} {σ : L2.St}, (∀ i ∈ is, i ∈ vs) → L2.wipe (setsI is xs σ) vs = L2.wipe σ vs
  | [], _, _, _ => rfl
  | _ :: _, [], _, _ => rfl
  | i :: is, x :: xs, σ, h => by
    show L2.wipe (setsI is xs (σ.set i (some x))) vs = _
    rw [wipe_sets fun j hj => h j (List.mem_cons_of_mem _ hj), wipe_set (h i List.mem_cons_self)]
theorem wipe_wipe {σ : L2.St} {vs : List Nat} : L2.wipe (L2.wipe σ vs) vs = L2.wipe σ vs := by
  have key : ∀ (us : List Nat) (σ : L2.St), (∀ u ∈ us, σ[u]? = some none ∨ σ.length ≤ u) → L2.wipe σ us = σ := fun us => by
    induction us with
    | nil => exact fun _ _ => rfl
    | cons u us ih =>
      intro σ h
      show (L2.wipe σ us).set u none = σ
      rw [ih σ fun w hw => h w (List.mem_cons_of_mem _ hw)]
      rcases h u List.mem_cons_self with e | e
      · obtain ⟨hl, e2⟩ := List.getElem?_eq_some_iff.mp e
        apply List.ext_getElem?
        intro j
        by_cases hj : u = j
        · subst hj; rw [List.getElem?_set_self hl, e]
        · rw [List.getElem?_set_ne hj]
      · exact List.set_eq_of_length_le e
  refine key vs _ fun u hu => ?_
  by_cases hl : u < σ.length
  · left
    have : ∀ (us : List Nat), u ∈ us → (L2.wipe σ us)[u]? = some none := fun us => by
      induction us with
      | nil => exact fun z => nomatch z
      | cons w us ih =>
        intro hm
        show ((L2.wipe σ us).set w none)[u]? = some none
        by_cases hw : w = u
        · subst hw
          rw [List.getElem?_set_self (by rw [wipe_length]; exact hl)]
        · rw [List.getElem?_set_ne hw]
          rcases List.mem_cons.mp hm with z | z
          · exact absurd z.symm hw
          · exact ih z
    exact this vs hu
  · right
    rw [wipe_length]
    omega
end

section
variable {K : PySem.W.Frag} {H : Hp} {ρ : List Addr}
theorem put_ok {ct : CT} {x : IV} {y : V} {env0 env1 : IEnv} {σ0 : L2.St} {vs : List Nat} (e : ct.put x env0 = some env1) (p : RepV K H ρ x y) (re : RelEnv K H ρ env0 σ0) (hsl : ∀ i ∈ ct.slots, i ∈ vs) {Q : L2.St → Hp → Prop}
    (h : ∀ σ2, RelEnv K H ρ env1 σ2 → L2.wipe σ2 vs = L2.wipe σ0 vs → Q σ2 H) : ct.tg K y σ0 H Q := by
  cases ct with
  | one i =>
    cases e
    exact h _ (re.set p i) (wipe_set (hsl i (by simp [CT.slots])))
  | tup is =>
    cases p with
    | @tup xs ws a hq t =>
      have e' : (bif Nat.beq xs.length is.length then some (setsI is xs env0) else none) = some env1 := e
      cases hb : Nat.beq xs.length is.length with
      | false => rw [hb] at e'; cases e'
      | true =>
        rw [hb] at e'
        cases e'
        have hl : ws.length = is.length := by rw [← t.length]; exact Nat.eq_of_beq_eq_true hb
        exact ⟨a, ws, rfl, hq, hl, hl, h _ (re.sets t) (wipe_sets hsl)⟩
    | _ => cases e
end
abbrev WF : WX := fun _ _ _ _ => False
section
variable {X : Cx} {P : Par X.K} {W : WX} {elt tg iter : Expr} {ifs : List Expr} {scope : Scope} {own : List (Str × Nat)} {pos : Pos} {it : IEnv → Sto → RE FI} {ct : CT} {tt : SemT} {te : SemE}
/-- one turn -/
theorem turn_ok {K : PySem.W.Frag} {P : Par K} {σ : L2.St} {H : Hp} {ρ : List Addr} {st : Sto} {env0 env1 : IEnv} {x : IV} {y : V} {vs : List Nat} {D : Addr} {Nx : Hp → Prop} (rx : RelX P H ρ st) (re : RelEnv K H ρ env0 (L2.wipe σ vs)) (hsl : ∀ i ∈ ct.slots, i ∈ vs) (p : RepV K H ρ x y) (e : ct.put x env0 = some env1)
    {accV : List V} (hD : H D = some (.lst accV)) (hDn : D ∉ ρ) (hz : accV.length < sizeLine) (nx : ∃ b st1, tt env1 st = .ok b st1 ∧ (b = true → ∃ z st2, te env1 st1 = .ok z st2 ∧ ∀ ρ' H' v, ExtX ρ H ρ' H' → RelX P H' ρ' st2 → RepV K H' ρ' z v → Nx (upd H' D (.lst (accV ++ [v])))) ∧
      (b = false → ∀ ρ' H', ExtX ρ H ρ' H' → RelX P H' ρ' st1 → Nx H')) :
    ct.tg K y (L2.wipe σ vs) H fun σ2 H2 => L2.wipe σ2 vs = L2.wipe σ vs ∧ tT P WF tt σ2 H2 fun b H3 => if b = true then tE P WF te σ2 H3 fun y H4 => ∃ acc, H4 D = some (.lst acc) ∧ acc.length < sizeLine ∧ Nx (upd H4 D (.lst (acc ++ [y]))) else Nx H3 := by
  refine put_ok e p re hsl fun σ2 re2 hw => ⟨hw.trans wipe_wipe, ρ, env1, st, rx, re2, ?_⟩
  obtain ⟨b, st1, e1, h1, h2⟩ := nx
  rw [e1]
  intro ρ' H' k x1 r1 hk
  obtain rfl : b = k := hk
  cases b with
  | false =>
    rw [if_neg Bool.false_ne_true]
    exact h2 rfl ρ' H' x1 r1
  | true =>
    rw [if_pos rfl]
    obtain ⟨z, st2, e2, h3⟩ := h1 rfl
    refine ⟨ρ', env1, st1, r1, re2.monoX rx.r x1, ?_⟩
    rw [e2]
    intro ρ2 H2 v x2 r2 pv
    exact ⟨accV, (x1.trans x2).keep D _ hD hDn (fun ps z => nomatch z), hz, h3 ρ2 H2 v (x1.trans x2) r2 pv⟩
theorem ExtX.updNew {ρ ρ' : List Addr} {H H' : Hp} (e : ExtX ρ H ρ' H') {D : Addr} (hD : H D = none) (u : HO) : ExtX ρ H ρ' (upd H' D u) :=
  ⟨e.pre, fun a o h n ht => by rw [upd_ne (ne_of_none h hD)]; exact e.keep a o h n ht, e.new⟩
theorem ExtX.push {ρ ρ' : List Addr} {H H' : Hp} (e : ExtX ρ H ρ' H') {D : Addr} (hD : H D = none) : ExtX ρ H (ρ' ++ [D]) H' :=
  ⟨e.pre.trans (List.prefix_append _ _), e.keep, fun a h => by
    rcases List.mem_append.mp h with h | h
    · exact e.new a h
    · have : a = D := by simpa using h
      subst this
      exact .inr (.inl hD)⟩
/-- the list so far -/
structure Acc {K : PySem.W.Frag} (P : Par K) (ρ1 : List Addr) (H1 : Hp) (D : Addr) (i : Nat) (ρ : List Addr) (H : Hp) (st : Sto) (acc : List IV) (accV : List V) : Prop where
  ext : ExtX ρ1 H1 ρ H
  rel : RelX P H ρ st
  out : D ∉ ρ
  at' : H D = some (.lst accV)
  rep : RepVs K H ρ acc.reverse accV
  len : accV.length ≤ i
theorem Acc.push {K : PySem.W.Frag} {P : Par K} {ρ1 ρ ρ' : List Addr} {H1 H H' : Hp} {D : Addr} {i : Nat} {st st0 st2 : Sto} {acc : List IV} {accV : List V} {z : IV} {v : V} (h : Acc P ρ1 H1 D i ρ H st acc accV) (r1 : RelX P H1 ρ1 st0) (hD : H1 D = none)
    (x : ExtX ρ H ρ' H') (r : RelX P H' ρ' st2) (p : RepV K H' ρ' z v) : Acc P ρ1 H1 D (i + 1) ρ' (upd H' D (.lst (accV ++ [v]))) st2 (z :: acc) (accV ++ [v]) := by
  have hD' : H' D = some (.lst accV) := x.keep D _ h.at' h.out (fun ps z => nomatch z)
  have out : D ∉ ρ' := fun q => by
    rcases x.new D q with q | q | ⟨ps, q⟩
    · exact h.out q
    · rw [h.at'] at q; cases q
    · rw [h.at'] at q; cases q
  have ext : ExtX ρ1 H1 ρ' (upd H' D (.lst (accV ++ [v]))) := (h.ext.trans x).updNew hD _
  refine ⟨ext, ⟨Rel.side r.r hD' out, Tabs.side r.tabs hD', P.mono r1.r ext r1.sd⟩, out, upd_same, ?_, by rw [List.length_append]; have := h.len; simp; omega⟩
  rw [List.reverse_cons]
  exact RepVs.byTup (sqT_upd hD') ((h.rep.monoX h.rel.r x).append (.cons p .nil))
theorem Acc.stay {K : PySem.W.Frag} {P : Par K} {ρ1 ρ ρ' : List Addr} {H1 H H' : Hp} {D : Addr} {i : Nat} {st st2 : Sto} {acc : List IV} {accV : List V} (h : Acc P ρ1 H1 D i ρ H st acc accV)
    (x : ExtX ρ H ρ' H') (r : RelX P H' ρ' st2) : Acc P ρ1 H1 D (i + 1) ρ' H' st2 acc accV := by
  refine ⟨h.ext.trans x, r, fun q => ?_, x.keep D _ h.at' h.out (fun ps z => nomatch z), h.rep.monoX h.rel.r x, Nat.le_succ_of_le h.len⟩
  rcases x.new D q with q | q | ⟨ps, q⟩
  · exact h.out q
  · rw [h.at'] at q; cases q
  · rw [h.at'] at q; cases q
theorem Acc.move {K : PySem.W.Frag} {P : Par K} {ρ1 ρ ρ' : List Addr} {H1 H H' : Hp} {D : Addr} {i : Nat} {st st2 : Sto} {acc : List IV} {accV : List V} (h : Acc P ρ1 H1 D i ρ H st acc accV)
    (x : ExtX ρ H ρ' H') (r : RelX P H' ρ' st2) : Acc P ρ1 H1 D i ρ' H' st2 acc accV :=
  let s := h.stay x r
  ⟨s.ext, s.rel, s.out, s.at', s.rep, h.len⟩
theorem Acc.fin {K : PySem.W.Frag} {P : Par K} {W : WX} {ρ1 ρ : List Addr} {H1 H : Hp} {σ : L2.St} {D : Addr} {i : Nat} {st st0 : Sto} {acc : List IV} {accV : List V} {Q : VK} (h : Acc P ρ1 H1 D i ρ H st acc accV) (r1 : RelX P H1 ρ1 st0) (hD : H1 D = none)
    (q : Post P W (RpV K) ρ1 H1 σ Q ((RE.ok acc.reverse st).bind fun ys st2 => RE.ofO (st2.allocO (.lst ys)))) : Q (.ref D) H := by
  have q' : Post P W (RpV K) ρ1 H1 σ Q (.ok (.ref st.os.length) { st with os := st.os ++ [.lst acc.reverse] }) := q
  have e := h.ext.push hD
  exact q' (ρ ++ [D]) H (.ref D) e ⟨Rel.adopt h.rel.r h.at' h.out h.rep, h.rel.tabs, P.mono r1.r e r1.sd⟩ (.ref (rep_last h.rel.r D))
/-- what a comprehension asks once its iterator has come -/
def LcGoal (K : PySem.W.Frag) (ct : CT) (tt : TT) (te : TE) (vs : List Nat) (σ : L2.St) (Q : VK) (J : It) (H1 : Hp) : Prop := ∀ D, H1 D = none → ∃ W : Nat → Nat → Hp → Prop, (∃ m, W 0 m (upd H1 D (.lst []))) ∧ ∀ i m H, W i m H →
  (J.stop i H ∧ Q (.ref D) H) ∨ (J.go i H ∧ ∃ Nx : Hp → Prop, (∀ H', Nx H' → ∃ m', m' < m ∧ W (i + 1) m' H') ∧ ∀ x H', J.yld i H x H' → ct.tg K x (L2.wipe σ vs) H' fun σ2 H2 => L2.wipe σ2 vs = L2.wipe σ vs ∧ tt σ2 H2 fun b H3 =>
    if b = true then te σ2 H3 fun y H4 => ∃ acc, H4 D = some (.lst acc) ∧ acc.length < sizeLine ∧ Nx (upd H4 D (.lst (acc ++ [y]))) else Nx H3)
theorem lc_ok (hsl : ∀ i ∈ ct.slots, i ∈ own.map (·.2)) {σ : L2.St} {H1 : Hp} {Q : VK} {ρ1 : List Addr} {env : IEnv} {st1 : Sto} {f : FI} {J : It} (r1 : RelX P H1 ρ1 st1) (re1 : RelEnv X.K H1 ρ1 env σ) (p1 : RpI X.K H1 ρ1 f J)
    (h1 : Post P W (RpV X.K) ρ1 H1 σ Q (RE.bind (match f with
      | .items xs => bif Nat.ble xs.length lineI then loopC ct (wipeI env (own.map (·.2))) tt te xs [] st1 else .bad
      | .list n => match lstAt st1 n with
        | some xs => bif Nat.ble xs.length lineI then loopCL ct (wipeI env (own.map (·.2))) tt te n (xs.length + 1) 0 [] st1 else .bad
        | none => .bad
      | .walk n len row => bif Nat.ble n lineI then loopCW ct (wipeI env (own.map (·.2))) tt te n len row (n + 1) 0 [] st1 else .bad) fun ys st2 => RE.ofO (st2.allocO (.lst ys)))) :
    LcGoal X.K ct (tT P WF tt) (tE P WF te) (own.map (·.2)) σ Q J H1 := by
  intro D hD
  have A0 : Acc P ρ1 H1 D 0 ρ1 (upd H1 D (.lst [])) st1 [] [] :=
    ⟨(Ext.fresh r1.r hD _).x, r1.ext (Ext.fresh r1.r hD _) (r1.r.fresh hD _), fresh_not r1.r hD, upd_same, .nil, Nat.le_refl _⟩
  cases f with
  | items xs =>
    obtain ⟨Iv, gv, iv⟩ := p1
    obtain ⟨hz, h1⟩ : Nat.ble xs.length lineI = true ∧ Post P W (RpV X.K) ρ1 H1 σ Q ((loopC ct (wipeI env (own.map (·.2))) tt te xs [] st1).bind fun ys st2 => RE.ofO (st2.allocO (.lst ys))) := by
      cases hb : Nat.ble xs.length lineI with
      | false => simp only [hb] at h1; exact h1.elim
      | true => simp only [hb] at h1; exact ⟨rfl, h1⟩
    have hz' := Nat.le_of_ble_eq_true hz
    refine ⟨fun i m H => i ≤ xs.length ∧ m = xs.length - i ∧ ∃ ρ acc accV st, Acc P ρ1 H1 D i ρ H st acc accV ∧ Post P W (RpV X.K) ρ1 H1 σ Q ((loopC ct (wipeI env (own.map (·.2))) tt te (xs.drop i) acc st).bind fun ys st2 => RE.ofO (st2.allocO (.lst ys))), ⟨xs.length, Nat.zero_le _, by simp, ρ1, [], [], st1, A0, h1⟩, ?_⟩
    rintro i m H ⟨hi, rfl, ρ, acc, accV, st, A, h⟩
    have ivn := gv.mono r1.r A.ext iv
    by_cases hlt : i < xs.length
    · right
      have ex : xs[i]? = some xs[i] := List.getElem?_eq_getElem hlt
      obtain ⟨go, yd⟩ := gv.go ivn ex
      rw [List.drop_eq_getElem_cons hlt] at h
      unfold loopC at h
      refine ⟨go, fun H => i + 1 ≤ xs.length ∧ ∃ ρ acc accV st, Acc P ρ1 H1 D (i + 1) ρ H st acc accV ∧ Post P W (RpV X.K) ρ1 H1 σ Q ((loopC ct (wipeI env (own.map (·.2))) tt te (xs.drop (i + 1)) acc st).bind fun ys st2 => RE.ofO (st2.allocO (.lst ys))), fun H' ⟨l, q⟩ => ⟨xs.length - (i + 1), by omega, l, rfl, q⟩, fun y H' hy => ?_⟩
      obtain ⟨xe, r', ry⟩ := yd y H' hy st A.rel.r
      replace A := A.move xe.x (A.rel.ext xe r')
      cases ep : ct.put xs[i] (wipeI env (own.map (·.2))) with
      | none => rw [ep] at h; exact h.elim
      | some env1 =>
        rw [ep] at h
        dsimp only at h
        refine turn_ok A.rel ((re1.monoX r1.r A.ext).wipe _) hsl ry ep A.at' A.out (line_lt (Nat.lt_of_lt_of_le (Nat.lt_of_le_of_lt A.len hlt) hz')) ?_
        cases et : tt env1 st with
        | ok b st2 =>
          rw [et] at h
          refine ⟨b, st2, rfl, fun hb => ?_, fun hb ρ' H' x' r' => ?_⟩
          · subst hb
            dsimp only at h
            cases ee : te env1 st2 with
            | ok z st3 =>
              rw [ee] at h
              exact ⟨z, st3, rfl, fun ρ' H' v x' r' pv => ⟨hlt, ρ', _, _, st3, A.push r1 hD x' r' pv, h⟩⟩
            | exc => rw [ee] at h; exact h.elim
            | bad => rw [ee] at h; exact h.elim
          · subst hb
            exact ⟨hlt, ρ', _, _, st2, A.stay x' r', h⟩
        | exc => rw [et] at h; exact h.elim
        | bad => rw [et] at h; exact h.elim
    · left
      have : i = xs.length := by omega
      subst this
      rw [List.drop_length] at h
      exact ⟨gv.stop ivn, A.fin r1 hD h⟩
  | walk n len row =>
    obtain ⟨Iv, gv, iv⟩ := p1
    obtain ⟨hz, h1⟩ : Nat.ble n lineI = true ∧ Post P W (RpV X.K) ρ1 H1 σ Q ((loopCW ct (wipeI env (own.map (·.2))) tt te n len row (n + 1) 0 [] st1).bind fun ys st2 => RE.ofO (st2.allocO (.lst ys))) := by
      cases hb : Nat.ble n lineI with
      | false => simp only [hb] at h1; exact h1.elim
      | true => simp only [hb] at h1; exact ⟨rfl, h1⟩
    have hz' := Nat.le_of_ble_eq_true hz
    refine ⟨fun i m H => i ≤ n ∧ i + m = n + 1 ∧ ∃ ρ acc accV st, Acc P ρ1 H1 D i ρ H st acc accV ∧ Post P W (RpV X.K) ρ1 H1 σ Q ((loopCW ct (wipeI env (own.map (·.2))) tt te n len row m i acc st).bind fun ys st2 => RE.ofO (st2.allocO (.lst ys))), ⟨n + 1, Nat.zero_le _, by omega, ρ1, [], [], st1, A0, h1⟩, ?_⟩
    rintro i m H ⟨hi, him, ρ, acc, accV, st, A, h⟩
    have ivn := gv.mono r1.r A.ext iv
    cases m with
    | zero => exact h.elim
    | succ m =>
      unfold loopCW at h
      split at h
      · rename_i k ek
        cases hb : Nat.beq k n with
        | false => rw [hb] at h; exact h.elim
        | true =>
          rw [hb] at h
          obtain rfl := Nat.eq_of_beq_eq_true hb
          by_cases hlt : i < k
          · have hl : Nat.blt i k = true := Nat.ble_eq_true_of_le hlt
            rw [hl] at h
            simp only [cond_true] at h
            split at h
            · rename_i x ex
              obtain ⟨go, yd⟩ := gv.go ivn A.rel.r ek hlt ex
              refine .inr ⟨go, fun H => i + 1 ≤ k ∧ (i + 1) + m = k + 1 ∧ ∃ ρ acc accV st, Acc P ρ1 H1 D (i + 1) ρ H st acc accV ∧ Post P W (RpV X.K) ρ1 H1 σ Q ((loopCW ct (wipeI env (own.map (·.2))) tt te k len row m (i + 1) acc st).bind fun ys st2 => RE.ofO (st2.allocO (.lst ys))), fun H' ⟨l, l2, q⟩ => ⟨m, Nat.lt_succ_self m, l, l2, q⟩, fun y H' hy => ?_⟩
              obtain ⟨xe, r', ry⟩ := yd y H' hy
              replace A := A.move xe.x (A.rel.ext xe r')
              cases ep : ct.put x (wipeI env (own.map (·.2))) with
              | none => rw [ep] at h; exact h.elim
              | some env1 =>
                rw [ep] at h
                dsimp only at h
                refine turn_ok A.rel ((re1.monoX r1.r A.ext).wipe _) hsl ry ep A.at' A.out (line_lt (Nat.lt_of_lt_of_le (Nat.lt_of_le_of_lt A.len hlt) hz')) ?_
                cases et : tt env1 st with
                | ok b st2 =>
                  rw [et] at h
                  refine ⟨b, st2, rfl, fun hb => ?_, fun hb ρ' H' x' r' => ?_⟩
                  · subst hb
                    dsimp only at h
                    cases ee : te env1 st2 with
                    | ok z st3 =>
                      rw [ee] at h
                      exact ⟨z, st3, rfl, fun ρ' H' v x' r' pv => ⟨hlt, by omega, ρ', _, _, st3, A.push r1 hD x' r' pv, h⟩⟩
                    | exc => rw [ee] at h; exact h.elim
                    | bad => rw [ee] at h; exact h.elim
                  · subst hb
                    exact ⟨hlt, by omega, ρ', _, _, st2, A.stay x' r', h⟩
                | exc => rw [et] at h; exact h.elim
                | bad => rw [et] at h; exact h.elim
            · exact h.elim
          · have hl : Nat.blt i k = false := by
              cases hq : Nat.blt i k with
              | false => rfl
              | true => exact absurd (Nat.le_of_ble_eq_true hq) hlt
            rw [hl] at h
            have : i = k := by omega
            subst this
            exact .inl ⟨gv.stop ivn A.rel.r ek, A.fin r1 hD h⟩
      · exact h.elim
  | list n =>
    obtain ⟨a, ha, rfl⟩ := p1
    dsimp only at h1
    split at h1
    · rename_i xs0 e0
      obtain ⟨hz, h1⟩ : Nat.ble xs0.length lineI = true ∧ Post P W (RpV X.K) ρ1 H1 σ Q ((loopCL ct (wipeI env (own.map (·.2))) tt te n (xs0.length + 1) 0 [] st1).bind fun ys st2 => RE.ofO (st2.allocO (.lst ys))) := by
        cases hb : Nat.ble xs0.length lineI with
        | false => simp only [hb] at h1; exact h1.elim
        | true => simp only [hb] at h1; exact ⟨rfl, h1⟩
      have hz' := Nat.le_of_ble_eq_true hz
      refine ⟨fun i m H => i + m = xs0.length + 1 ∧ ∃ ρ acc accV st, Acc P ρ1 H1 D i ρ H st acc accV ∧ Post P W (RpV X.K) ρ1 H1 σ Q ((loopCL ct (wipeI env (own.map (·.2))) tt te n m i acc st).bind fun ys st2 => RE.ofO (st2.allocO (.lst ys))), ⟨xs0.length + 1, by omega, ρ1, [], [], st1, A0, h1⟩, ?_⟩
      rintro i m H ⟨him, ρ, acc, accV, st, A, h⟩
      cases m with
      | zero => exact h.elim
      | succ m =>
        unfold loopCL at h
        split at h
        · rename_i xs e2
          obtain ⟨vs, hq, t⟩ := lstAt_sq A.rel.r e2 (pre_get A.ext.pre ha)
          split at h
          · rename_i x ex
            obtain ⟨y, hy, ry⟩ := t.get ex
            refine .inr ⟨⟨vs, y, hq, hy⟩, fun H => (i + 1) + m = xs0.length + 1 ∧ ∃ ρ acc accV st, Acc P ρ1 H1 D (i + 1) ρ H st acc accV ∧ Post P W (RpV X.K) ρ1 H1 σ Q ((loopCL ct (wipeI env (own.map (·.2))) tt te n m (i + 1) acc st).bind fun ys st2 => RE.ofO (st2.allocO (.lst ys))), fun H' q => ⟨m, Nat.lt_succ_self m, q⟩, fun z H' ⟨e, hz2⟩ => ?_⟩
            subst e
            have hz3 := hz2 vs hq
            rw [hy] at hz3
            cases hz3
            cases ep : ct.put x (wipeI env (own.map (·.2))) with
            | none => rw [ep] at h; exact h.elim
            | some env1 =>
              rw [ep] at h
              dsimp only at h
              refine turn_ok A.rel ((re1.monoX r1.r A.ext).wipe _) hsl ry ep A.at' A.out (Nat.lt_of_le_of_lt A.len (Nat.lt_of_lt_of_le (Nat.lt_succ_self i) ?_)) ?_
              · have : sizeLine ≥ lineI + 1 := by decide
                omega
              cases et : tt env1 st with
              | ok b st2 =>
                rw [et] at h
                refine ⟨b, st2, rfl, fun hb => ?_, fun hb ρ' H' x' r' => ?_⟩
                · subst hb
                  dsimp only at h
                  cases ee : te env1 st2 with
                  | ok z st3 =>
                    rw [ee] at h
                    exact ⟨z, st3, rfl, fun ρ' H' v x' r' pv => ⟨by omega, ρ', _, _, st3, A.push r1 hD x' r' pv, h⟩⟩
                  | exc => rw [ee] at h; exact h.elim
                  | bad => rw [ee] at h; exact h.elim
                · subst hb
                  exact ⟨by omega, ρ', _, _, st2, A.stay x' r', h⟩
              | exc => rw [et] at h; exact h.elim
              | bad => rw [et] at h; exact h.elim
          · rename_i ex
            refine .inl ⟨⟨vs, hq, ?_⟩, A.fin r1 hD h⟩
            rw [← t.length]
            exact List.getElem?_eq_none_iff.mp ex
        · exact h.elim
    · exact h1.elim
theorem se_lc (hc : X.calm = true) (hN : X.N.Nodup) (hi : SI X P W tg iter it) (ok : BlkOk X.N X.env.scope scope own) (hsl : ∀ i ∈ ct.slots, i ∈ own.map (·.2))
    (hg : ∀ (s : Shared) (H : Hp) (C : Addr) (cl : List (Str × Addr)) (fp : List Addr), PG (X.blk s H scope (compEnvC scope cl C X.env) fp) tg (ct.tg X.K)) (ht : ∀ (s : Shared) (H : Hp) (C : Addr) (cl : List (Str × Addr)) (fp : List Addr), PTs (X.blk s H scope (compEnvC scope cl C X.env) fp) ifs (tT P WF tt))
    (he : ∀ (s : Shared) (H : Hp) (C : Addr) (cl : List (Str × Addr)) (fp : List Addr), PE (X.blk s H scope (compEnvC scope cl C X.env) fp) elt (tE P WF te)) (hs : ∀ x, foldedSetIterable iter X.env x = pure x := by intro _; rfl) :
    SE X P W (.ListComp elt [⟨tg, iter, ifs, 0⟩] scope pos) (rLc it ct (own.map (·.2)) tt te) :=
  (pe_lc hc hN hi ok hg ht he hs).of fun σ H Q ⟨ρ, env, st, r, re, h⟩ => by
    refine ⟨ρ, env, st, r, re, h.bind.mono fun J H1 ⟨ρ1, st1, f, e1, r1, p1, h1⟩ => ?_⟩
    exact lc_ok hsl r1 (re.monoX r.r e1) p1 h1
end
end PI

set_option Elab.async false
set_option linter.all false
set_option maxRecDepth 100000
set_option maxHeartbeats 2000000
/-! PI10: an own exception whose __init__ says super().__init__('..') and keeps what it was given. -/
namespace PI
open PySem PySem.Spec PyProof.Rows L2
open LamX (Tabs TabS CodeO ExtN)
section
variable {P : Program} {w : World} {K : PySem.W.Frag} {mg : Str → Option Value} {base : Heap} {CX : CXT}
/-- what stands behind the making: the frame's objects are new, the exception has its dict -/
theorem init_end {outer : List Env} {s : Shared} {H : Hp} {Q : VK} {a C dx : Addr} {fs : List (Str × V)} {h' : Heap} {t' : Nat} {t1 : Addr} (hok : HOk P w H s.heap) (hb : AllBare s.gens) (e : H a = some (exo a C none)) (hnd : H dx = none) (dne : dx ≠ a) (dn : s.heap.objs.size ≤ dx)
    (k : ∀ b o, b ≠ a → s.heap.get? b = some o → h'.get? b = some o) (hx : h'.get? a = some ({ cls := .ref C, dict := some dx, data := .fields #[.ref t1, .none, .none, .none, .bool false, .none] } : Obj)) {mA : Str → Option Value} (hn : h'.Ns1 dx mA) (hr : ∀ g, RelO (fs.lookup g) (mA g))
    (q : Q .non (upd (upd H dx (exd dx fs)) a (exo a C (some dx)))) : CE outer P w H s Q .none { s with heap := h', toks := t' } := by
  have nd : ∀ {b : Addr} {o : Obj}, s.heap.get? b = some o → b ≠ dx := fun {b o} q => Nat.ne_of_lt (Nat.lt_of_lt_of_le (Heap.lt_size q) dn)
  have na : ∀ {b : Addr}, H b = none → b ≠ a := fun {b} n z => by
    rw [z, e] at n
    cases n
  refine ⟨.non, _, rfl, hb, ?_, fun b o q => ?_, rfl, q⟩
  · exact {
      keep := fun b o q n _ _ => k b o (na n) q
      slot := fun b o q n _ _ => ⟨o.slots, k b o (na n) q⟩
      free := fun b o q n _ => by rw [upd_ne (na n), upd_ne (nd q)]; exact n
      there := fun b o q _ => by
        by_cases hb : b = a
        · exact ⟨_, by rw [hb]; exact hx⟩
        · exact ⟨o, k b o hb q⟩
      tups := fun b xs q => by rw [upd_ne (at_ne e q exo_tup), upd_ne (ne_of_none q hnd)]; exact q
      frzs := fun b o v q => by rw [upd_ne (at_ne e q exo_frz), upd_ne (ne_of_none q hnd)]; exact q
      tbls := fun b ps q => ⟨#[], by rw [upd_ne (at_ne e q exo_tbl), upd_ne (ne_of_none q hnd), q]; simp⟩ }
  · by_cases hb : b = a
    · subst hb
      rw [upd_same] at q
      cases q
      exact exo_ok hx
    · rw [upd_ne hb] at q
      by_cases hd : b = dx
      · subst hd
        rw [upd_same] at q
        cases q
        exact exd_ok hn hr
      · rw [upd_ne hd] at q
        exact (hok b o q).stay (fun c v hc z => k c v (by
            rcases hc with hc | hc
            · rw [hc]
              exact hb
            · exact at_ne e hc exo_own) z)
          (fun c hc => by rw [upd_ne (at_ne e hc exo_own), upd_ne (ne_of_none hc hnd)]; exact hc) (fun c xs hc => by rw [upd_ne (at_ne e hc exo_tup), upd_ne (ne_of_none hc hnd)]; exact hc)
/-- what the row says of such a def -/
structure SupI (P : Program) (K : PySem.W.Frag) (mg : Str → Option Value) (f cc cda C D : Addr) (scope : Scope) (par fld : Str) : Prop where
  oex : OexC K C
  ini : PySem.W.excInitIn K C PySem.HandSPX.veTail "ValueError.__new__" = true
  sup : PySem.W.ks_superIn K C D "__init__" = some (some (.builtin "ValueError.__init__"))
  subB : PySem.W.subIn K (.ref C) (.type "ValueError") = some true
  opq : PySem.W.nsIn K cStatics "thirdparty.any" = some none
  noF : PySem.W.findIn K (.ref C) fld = some none
  code : ∃ ccl cdd vs ccs file tf, K.lookup cda = some ⟨ccl, cdd, .fields vs, ccs⟩ ∧ vs[2]? = some (.str file tf) ∧ ((P.main.file : Str) == file) = true
  cell : ∃ cl cld csl, K.lookup cc = some ⟨cl, cld, .cell (some (.ref D)), csl⟩
  cD : ∃ cd, PySem.W.clsIn K D = some cd
  sub : PySem.W.mroIn K C (.ref D) = some true
  top : (P.main.scope.names.lookup ("super" : Str)).isSome = false
  mgS : mg "super" = none
  kS : scope.names.lookup ("super" : Str) = some .globalImplicit
  kC : scope.names.lookup ("__class__" : Str) = some .free
  kSelf : scope.names.lookup ("self" : Str) = some .local
  kPar : scope.names.lookup par = some .local
  kind : scope.kind = .function
  co : scope.isCoroutine = false
  gen : scope.isGenerator = false
  noCell : ∀ x ∈ scope.names, x.2 ≠ .cell
  ne : par ≠ "self"
  nd : (par == ("__debug__" : Str)) = false
def spSup (C : Addr) (fld : Str) : Sp := fun vs H Q _ => ∃ (a : Addr) (y : V), vs = [.ref a, y] ∧ H a = some (exo a C none) ∧ ∀ dx, H dx = none → dx ≠ a → Q .non (upd (upd H dx (exd dx [(fld, y)])) a (exo a C (some dx)))
theorem sup_init {f cc cda C D : Addr} {k : Nat} {name qual par fld msg : Str} {params : Arguments} {scope : Scope} {dV kV doc pm ct oc : Value} {an od : Option Addr} {osl : Array (Option Value)} {j : Nat} {q0 q1 q2 q3 q4 q5 q6 q7 q8 q9 : Pos} {body : List Stmt}
    (hbo : body = [.Expr (.Call (.Attribute (.Call (.Name "super" q0) [] [] q1) "__init__" q2) [.Constant (.str msg) j q3] [] q4) q5, .Assign [.Attribute (.Name "self" q6) fld q7] (.Name par q8) q9])
    (lk : K.lookup f = some ⟨oc, od, .func (PySem.W.ksFn name qual params body scope dV kV doc pm an (.ref cda) ct cc), osl⟩) (hcd : PySem.W.codeIn K (.ref cda) qual = true) (S : SupI P K mg f cc cda C D scope par fld)
    (hp : ∃ ar, (params.posonlyargs ++ params.args).head? = some ar ∧ ar.arg = "self") {pl : Sem Bool}
    (he : ∀ env, eval (.Call (.Attribute (.Call (.Name "super" q0) [] [] q1) "__init__" q2) [.Constant (.str msg) j q3] [] q4) env = (do
      let ov ← attributeBase (.Call (.Name "super" q0) [] [] q1) "__init__" env (eval (.Call (.Name "super" q0) [] [] q1) env)
      standAt q2.atName
      let (f, first) ← holding [ov] (getMethod ov "__init__" pl)
      callWith q4 f first (backTo q4 (starEach [.Constant (.str msg) j q3] env)) []))
    (hs : ∀ env, swapsWith (.Name par q8) (some (.Attribute (.Name "self" q6) fld q7)) q9.line env = pure false) (hs0 : ∀ env, swapsWith (.Call (.Attribute (.Call (.Name "super" q0) [] [] q1) "__init__" q2) [.Constant (.str msg) j q3] [] q4) none q5.line env = pure false) :
    FnOk P w K mg base CX (k + 1) f (PySem.W.ksFn name qual params body scope dV kV doc pm an (.ref cda) ct cc) ["self", par] (spSup C fld) := by
  subst hbo
  refine ⟨fun vs H Q E ⟨a, y, e, _⟩ => by rw [e]; rfl, fun A outer s H args us vs Q E hr e0 hb rv hsp => ?_⟩
  obtain ⟨a, y, rfl, e, hq⟩ := hsp
  obtain ⟨u1, u, rfl, ra, ry⟩ := vals2 rv
  obtain rfl : u1 = Value.ref a := ra
  have KX : K.In s.heap := e0.mod.kin.keeps fun b o e => (e0.bs b o e).1
  have lim : s.heap.NoLimit := e0.mod.nolimit.keeps fun b o e => (e0.bs b o e).1
  obtain ⟨t1, ho⟩ := exo_at e0.hok e
  refine PySem.ks_codeAny_call_defAt (binds := [("self", .ref a), (par, u)]) hr.depth (KX _ _ lk) rfl lim (PySem.W.codeRec_of KX hcd) rfl hb S.noCell (fun z hz => ?_) (fun h₁ hns hk => ?_) S.co S.gen S.kind
  · rcases List.mem_cons.mp hz with rfl | hz
    · exact S.kSelf
    · obtain rfl := List.mem_singleton.mp hz
      exact S.kPar
  have hKa : ∀ b o, K.lookup b = some o → b ∉ [a] := fun b o q z => by
    obtain rfl := List.mem_singleton.mp z
    have := (e0.bs b o (e0.mod.kin b o q)).2
    rw [e] at this
    cases this
  have X₀ : K.In (PySem.W.hideAll s.heap [a]) := fun b o q => PySem.W.hideAll_get _ (KX b o q) (hKa b o q)
  have F : Fr (PySem.W.hideAll s.heap [a]) s.heap.objs.size h₁ (fun x => ([("self", Value.ref a), (par, u)] : List (Str × Value)).reverse.lookup x) := ⟨hns, fun b o q => hk b o (PySem.W.of_hideAll _ q), Nat.le_of_eq (PySem.W.hideAll_size _ _)⟩
  have N : News (PySem.W.hideAll s.heap [a]) s.heap.objs.size h₁ [(a, PySem.W.excObj C t1 none .none)] := fun p hp => by
    obtain rfl := List.mem_singleton.mp hp
    exact ⟨hk _ _ ho, Nat.ne_of_lt (Heap.lt_size ho), PySem.W.hideAll_none _ List.mem_cons_self⟩
  have msl : (fun x => ([("self", Value.ref a), (par, u)] : List (Str × Value)).reverse.lookup x) "self" = some (.ref a) := by
    have : (("self" : Str) == par) = false := by simpa using fun z => S.ne z.symm
    simp [List.lookup, this]
  have mpa : (fun x => ([("self", Value.ref a), (par, u)] : List (Str × Value)).reverse.lookup x) par = some u := by simp [List.lookup]
  obtain ⟨ccl, cdd, fvs, ccs, file, tf, hcode, hvs, hfile⟩ := S.code
  obtain ⟨ccT, ccd, csl, hcell⟩ := S.cell
  obtain ⟨cdD, hD⟩ := S.cD
  obtain ⟨ar, hp1, hp2⟩ := hp
  have K1 : K.In h₁ := X₀.keeps F.keep
  have bk : ∀ b o, base.get? b = some o → h₁.get? b = some o := fun b o q => hk b o (e0.bs b o q).1
  obtain ⟨mb, hmb1, hmb2⟩ := e0.mod.blt
  obtain ⟨oD, hD1, hD2⟩ : ∃ oD, h₁.get? D = some oD ∧ oD.data = .cls cdD := by
    have hD' := hD
    unfold PySem.W.clsIn at hD'
    split at hD'
    · rename_i c d cd' sl ho
      cases hD'
      exact ⟨_, K1 _ _ ho, rfl⟩
    · cases hD'
  have I1 : PySem.W.InstAt h₁ a (PySem.W.excObj C t1 none .none) C none := ⟨hk _ _ ho, rfl, rfl, trivial⟩
  refine PySem.ks_wpAt_execs_cons (PySem.ks_wpAt_Expr_any (PySem.ks_wpAt_MethodCall (pl := pl) ?_ (he _)) (by show (_ && _) = false; simp [callEnv, newEnv, S.kind]) (hs0 _))
  refine PySem.ks_wpAt_super_base S.kS S.kC rfl rfl (K1 _ _ lk) rfl hp1 rfl (K1 _ _ hcode) rfl hvs hfile S.top ?_
  rw [hp2]
  refine PySem.W.ks_loadName_global S.kind S.kS (Calls.loadGlobal_builtin (e0.mod.glob.keeps bk) S.mgS (hmb1.keeps bk) ((hmb2 _ (by decide)).trans (by rfl)) ⟨rfl, ?_⟩)
  refine wpAny_loadName_free S.kind S.kC rfl ⟨_, K1 _ _ hcell, rfl⟩ ?_
  refine wpAny_loadName_local S.kind S.kSelf F.ns msl ?_
  refine PySem.ks_wpAny_isType_cls hD1 hD2 ⟨rfl, ?_⟩
  refine PySem.ks_wpAny_call_super hD1 hD2 I1.at_ I1.cls (fun c q => nomatch q) (PySem.W.looks_mroIn K1 S.sub) (fun h2 hso k2 => ?_)
  obtain ⟨F2, N2, _⟩ := PySem.W.ks_newsPush (s := { s with heap := h₁ }) F N rfl hso k2
  have I2 : PySem.W.InstAt h2 a (PySem.W.excObj C t1 none .none) C none := ⟨k2 _ _ I1.at_, rfl, rfl, trivial⟩
  refine PySem.W.kxs_method (B := "ValueError") (i := "ValueError.__init__") PySem.W.kxs_ValueError F2 X₀ N2 List.mem_cons_self I2 S.opq S.sup S.subB (by decide) (fun u3 h3 F3 N3 l3 => ?_)
  refine PySem.W.kxs_callWith1 N3 List.mem_cons_self ?_
  show wpAny _ _ (spliced ((false, eval (.Constant (.str msg) j q3) _) :: backTo q4 (starEach [] _))) _ _ _
  refine Calls.spliced_cons (Calls.Constant_str (Calls.spliced_nil ⟨(N3 _ List.mem_cons_self).1, ?_⟩))
  have us : u3 ≠ a := fun z => by
    have := l3 (a, _) (List.mem_cons_of_mem _ List.mem_cons_self)
    rw [z] at this
    exact Nat.lt_irrefl _ this
  have ss : h₁.objs.size ≠ a := Nat.ne_of_gt (Heap.lt_size I1.at_)
  refine PySem.W.kxs_call F3 X₀ N3 PySem.F.excBase_ValueError S.ini List.mem_cons_self (.tail us (.tail ss (.head fun p hp => nomatch hp))) (by show 1 ≤ sizeLine; rw [sizeLine_eq]; omega) (fun t4 h4 F4 N4 l4 => ?_)
  have ha4 : h4.get? a = some (PySem.W.excObj C t4 none .none) := (N4 _ (List.mem_cons_of_mem _ (List.mem_cons_of_mem _ (List.mem_cons_of_mem _ List.mem_cons_self)))).1
  have K4 : K.In h4 := X₀.keeps F4.keep
  refine PySem.ks_wpAt_execs_cons (wpAt_of_wpAny (plainObj_wpAny_Assign_Attribute ?_ (hs _)))
  refine wpAny_Name (wpAny_loadName_local S.kind S.kPar F4.ns mpa ?_) S.nd
  refine wpAny_Name (wpAny_loadName_local S.kind S.kSelf F4.ns msl ?_) (by decide)
  obtain ⟨nm, qq, NN, bs, bm, sn, sub, ab, col, dd, k0, k1, k2', k3, k5, hC, hbm⟩ := S.oex.cls
  have hcl : PySem.W.clsIn K C = some { name := nm, bases := bs, mro := .ref C :: bm, ns := NN, qualname := qq, hasDict := true, slotNames := sn, subclasses := sub, abstract := ab, collection := col, hasDel := false } := by unfold PySem.W.clsIn; rw [hC] <;> rfl
  refine PySem.W.set_plain K4 (ox := PySem.W.excObj C t4 none .none) (od := none) ⟨ha4, rfl, rfl, trivial⟩ S.oex.sa ?_
  refine PySem.HandSPX.exc_osa K4 ha4 hcl (show PySem.HandSPX.refsVE (.ref C :: bm) = true from hbm) rfl S.noF (fun h5 tk' dx k5' dn dne hx hn => ?_)
  refine wpAt_of_wpAny (wpAny_execs_nil ?_)
  have hsz : s.heap.objs.size ≤ h4.objs.size := by
    obtain ⟨oL, _, _, hL, _⟩ := F4.ns
    exact Nat.le_of_lt (Heap.lt_size hL)
  have hnd : H dx = none := e0.hok.fresh (Nat.le_trans hsz dn)
  exact init_end (mA := fun y => if y = fld then some u else none) e0.hok e0.bare e hnd dne (Nat.le_trans hsz dn) (fun b o hb q => k5' b o hb (F4.keep b o (PySem.W.hideAll_get _ q fun z => hb (List.mem_singleton.mp z)))) hx hn (relO_put (fs := []) ry fun g => True.intro) (hq dx hnd dne)
end
end PI

set_option Elab.async false
set_option linter.all false
set_option maxRecDepth 100000
set_option maxHeartbeats 2000000
/-! PI11: raise, defs, methods of lists, a list's place stored, isinstance. -/
namespace PI
open PySem PySem.Spec PyProof.Rows L2
open LamX (Tabs TabS CodeO ExtN)

/-! ### raise C(e), C an own exception with one field -/
def sRaise (C : Nat) (fld : Str) (e : SemE) : SemS := fun env st => RS.ofE (e env st) env fun v st1 => .exc ⟨C, [(fld, v)]⟩ env st1
section
variable {X : Cx} {P : Par X.K} {W : WX} {a b c e tg : Expr} {ra rb rc : SemE} {es : List Expr} {rs : SemA} {pos p p1 p2 : Pos} {σ : L2.St} {H : Hp} {x fld : Str}
theorem ss_raise {C fI : Addr} {lb : Nat} {k : Nat} {fd : FuncData} {ps : List Str} (hcm : P.cm lb = C) (hc : X.calm = true) (tk : Takes X W) (T : OexC X.K C) (iC : PySem.W.findIn X.K (.ref C) "__init__" = some (some (.ref fI))) (tI : PySem.W.typeIn X.K (.ref fI) = some (.type "function"))
    (F1 : FnOk X.prog X.w X.K X.mg X.base (L2.CX X.prog X.w) k fI fd ps (spSup C fld)) (hr : Room (k + 1) X.A) (hb : Binds X.K fd ps []) (hg : Gl X x) (hm : X.mg x = some (.ref C)) (he : SE X P W e ra)
    (hdb : (x == ("__debug__" : Str)) = false := by decide) (hst : starEach [e] X.env = (false, eval e X.env) :: starEach [] X.env := by rfl) (hpl : (backTo p2 (starEach [] X.env)).any (·.1) = false := by rfl) : SS X P W (.Raise (some (.Call (.Name x p) [e] [] p2)) none pos) (sRaise lb fld ra) :=
  (ps_raise hc tk (pmk_oex (dvs := []) (ds := []) T iC tI F1 hr hb .nil (passes_call (W := fun _ _ _ _ => False) LamX.takes0 (fun _ _ _ _ h => h)) hg hm (pa_cons he pa_nil hst) hdb hst hpl)).of fun D σ H ⟨ρ, env, st, r, re, h⟩ => by
    refine ⟨ρ, env, st, r, re, (PostS.ofE r.r re h).mono fun v H1 ⟨ρ1, st1, iv, e1, r1, re1, p1, h1⟩ => ?_⟩
    refine ⟨by simp, fun a0 ha0 => ⟨a0, v, rfl, upd_same, fun dx hdx hne => ?_⟩⟩
    have hd1 : H1 dx = none := by rw [upd_ne hne] at hdx; exact hdx
    refine ⟨rfl, dx, [(fld, v)], upd_same, by rw [upd_ne hne, upd_same], hd1, ?_⟩
    have eqH : upd (del (upd (upd (upd H1 a0 (exo a0 C none)) dx (exd dx [(fld, v)])) a0 (exo a0 C (some dx))) a0) dx (.xd [(fld, v)]) = upd H1 dx (.xd [(fld, v)]) := by
      funext z
      by_cases hz : z = dx
      · subst hz; rw [upd_same, upd_same]
      · rw [upd_ne hz, upd_ne hz]
        by_cases ha : z = a0
        · subst ha; rw [del_same, ha0]
        · rw [del_ne ha, upd_ne ha, upd_ne hz, upd_ne ha]
    rw [eqH]
    have ex := Ext.fresh r1.r hd1 (.xd [(fld, v)])
    exact h1 ρ1 _ _ _ σ ex.x (r1.ext ex (r1.r.fresh hd1 _)) (re1.mono r1.r ex) ⟨by rw [hcm], dx, [(fld, v)], rfl, upd_same, .cons (p1.mono r1.r ex) .nil⟩
end

/-! ### a def by its body -/
def startI (n : Nat) (xs : List IV) : IEnv := xs.map some ++ List.replicate (n - xs.length) none
def callI (n : Nat) (r : SemS) : List IV → Sto → RE IV := fun xs st => match r (startI n xs) st with
  | .nx _ st1 => .ok .non st1
  | .rt v st1 => .ok v st1
  | .exc x _ st1 => .exc x st1
  | _ => .bad
theorem relEnv_start {K : PySem.W.Frag} {H : Hp} {ρ : List Addr} {N : List Str} {xs : List IV} {vs : List V} (t : RepVs K H ρ xs vs) : RelEnv K H ρ (startI N.length xs) (L2.start N vs) := by
  refine ⟨by simp [startI, L2.start, t.length], fun i v e => ?_⟩
  unfold startI at e
  unfold L2.start
  by_cases hi : i < xs.length
  · rw [List.getElem?_append_left (by simpa using hi), List.getElem?_map] at e
    rw [List.getElem?_append_left (by rw [List.length_map, ← t.length]; exact hi), List.getElem?_map]
    cases q : xs[i]? with
    | none => rw [q] at e; cases e
    | some y =>
      rw [q] at e
      cases e
      obtain ⟨w, hw, rw'⟩ := t.get q
      exact ⟨w, by rw [hw]; rfl, rw'⟩
  · rw [List.getElem?_append_right (by simpa using hi), List.getElem?_replicate] at e
    split at e <;> cases e
theorem fn_I {P : Program} {w : World} {K : PySem.W.Frag} {mg : Str → Option Value} {base : Heap} {T : List (Addr × Str) × (Nat → Addr)} {k : Nat} {f : Addr} {name qual : Str} {params : Arguments} {body : List Stmt} {scope : Scope} {dV kV doc pm cdv ct oc : Value} {an od : Option Addr}
    {osl : Array (Option Value)} {N ps : List Str} {r : SemS} (lk : K.lookup f = some ⟨oc, od, .func (PySem.W.fnOf name qual params body scope dV kV doc pm an cdv ct), osl⟩) (hcd : PySem.W.codeIn K cdv qual = true) (S : FnScope N ps scope)
    (hbody : ∀ (A : Around) (outer : List Env) (s : Shared) (H : Hp) (E : XK) (Pr : Par K), Room k (A.deeper (envOfC qual scope s.heap.objs.size f cdv)) → (Pr.T, Pr.cm) = T →
      PSs (cxOf (L2.CX P w) P w K mg base N qual scope f cdv A outer s H E) body (tS Pr (fun c d _ H' => E c d H') r)) :
    FnOk P w K mg base (L2.CX P w) (k + 1) f (PySem.W.fnOf name qual params body scope dV kV doc pm an cdv ct) ps (spI K T ps.length (callI N.length r)) := by
  refine fn_of lk hcd S (fun vs H Q E h => h.1) fun A outer s H vs Q E hr h => ?_
  obtain ⟨hl, Pr, ρ, st, xs, hT, rx, t, hp⟩ := h
  refine ⟨_, hbody A outer s H E Pr hr hT, ρ, startI N.length xs, st, rx, relEnv_start t, ?_⟩
  unfold callI at hp
  split at hp
  · rename_i e1 st1 e
    rw [e]
    exact fun ρ' H' σ' x r' re => hp ρ' H' .non x r' .non
  · rename_i v st1 e
    rw [e]
    exact fun ρ' H' y x r' p => hp ρ' H' y x r' p
  · rename_i x e1 st1 e
    rw [e]
    exact fun ρ' H' c d σ' x r' re q => hp ρ' H' c d x r' q
  · exact hp.elim
/-- the body's wish about exceptions -/
theorem takes_fn {P : Program} {w : World} {K : PySem.W.Frag} {mg : Str → Option Value} {base : Heap} {N : List Str} {qual : Str} {scope : Scope} {f : Addr} {cd : Value} {A : Around} {outer : List Env} {s : Shared} {H : Hp} {E : XK} :
    Takes (cxOf (L2.CX P w) P w K mg base N qual scope f cd A outer s H E) (fun c d _ H' => E c d H') := takes_of rfl rfl rfl rfl
theorem passes_fn {P : Program} {w : World} {K : PySem.W.Frag} {mg : Str → Option Value} {base : Heap} {N : List Str} {qual : Str} {scope : Scope} {f : Addr} {cd : Value} {A : Around} {outer : List Env} {s : Shared} {H : Hp} {E : XK} :
    PassesOwn (model P w) (cxOf (L2.CX P w) P w K mg base N qual scope f cd A outer s H E).A (cxOf (L2.CX P w) P w K mg base N qual scope f cd A outer s H E).env (cxOf (L2.CX P w) P w K mg base N qual scope f cd A outer s H E).xe := passes_of rfl
end PI

set_option Elab.async false
set_option linter.all false
set_option maxRecDepth 100000
set_option maxHeartbeats 2000000
/-! PI12: isinstance, methods of lists, a list's place stored. -/
namespace PI
open PySem PySem.Spec PyProof.Rows L2
open LamX (Tabs TabS CodeO ExtN)

/-! ### isinstance -/
inductive TY where
  | non | bl | int | str | tup | lst | dct
  deriving DecidableEq
def TY.name : TY → String
  | .non => "NoneType"
  | .bl => "bool"
  | .int => "int"
  | .str => "str"
  | .tup => "tuple"
  | .lst => "list"
  | .dct => "dict"
def tyI (st : Sto) : IV → Option TY
  | .non => some .non
  | .bl _ => some .bl
  | .int _ => some .int
  | .str _ => some .str
  | .tup _ => some .tup
  | .ref n => match st.os[n]? with
    | some (.lst _) => some .lst
    | some (.frl _) => some .lst
    | _ => none
def TY.sub : TY → TY → Bool
  | .bl, .int => true
  | .non, .non => true
  | .bl, .bl => true
  | .int, .int => true
  | .str, .str => true
  | .tup, .tup => true
  | .lst, .lst => true
  | .dct, .dct => true
  | _, _ => false
theorem kit_TY : ∀ a b : TY, b ≠ .non → kitB a.name b.name = some (a.sub b) := by
  intro a b hb
  cases b <;> first
    | exact absurd rfl hb
    | (cases a <;> decide +kernel)
def rIsT (T : TY) (e : SemE) : SemE := fun env st => (e env st).bind fun v st1 => match tyI st1 v with
  | some t => .ok (.bl (t.sub T)) st1
  | none => .bad
section
variable {K : PySem.W.Frag} {H : Hp} {ρ : List Addr} {st : Sto}
theorem tyI_ok {v : IV} {x : V} {t : TY} (r : Rel K H ρ st) (p : RepV K H ρ v x) (e : tyI st v = some t) : TyX K H x (.type t.name) := by
  cases p with
  | non => cases e; exact .base .non
  | bl b => cases e; exact .base (.bl b)
  | int b => cases e; exact .base (.int b)
  | str b => cases e; exact .base (.str _)
  | tup h t =>
    cases e
    rcases h with (h | ⟨o, h⟩) | ⟨o, its, n, hk, hc, _⟩
    · exact .base (.tup h)
    · exact .fTuple h
    · exact .kTuple hk hc
  | @ref n a h =>
    have e' : (match st.os[n]? with
      | some (.lst _) => some TY.lst
      | some (.frl _) => some TY.lst
      | _ => none) = some t := e
    split at e'
    · rename_i h1
      cases e'
      obtain ⟨vs, q, _⟩ := r.obj n _ a h1 h
      exact .base (.lst q)
    · rename_i h1
      cases e'
      obtain ⟨vs, q, _⟩ := r.obj n _ a h1 h
      rcases q with q | ⟨o, q⟩
      · exact .base (.lst q)
      · exact .base (.frz q)
    · cases e'
end
section
variable {X : Cx} {P : Par X.K} {W : WX} {a b c e tg : Expr} {ra rb rc : SemE} {es : List Expr} {rs : SemA} {pos p p1 p2 q : Pos} {σ : L2.St} {H : Hp} {x : Str}
theorem se_isT {T : TY} {n : Str} (hT : T ≠ .non) (hg : Gl X "isinstance") (hm : X.mg "isinstance" = none) (hgT : Gl X n) (hmT : X.mg n = none) (hvT : bootBuiltins n = some (.type T.name)) (he : SE X P W e ra) (hnn : n ≠ "__name__" := by decide) (hdd : (n == ("__debug__" : Str)) = false := by decide)
    (h1 : starEach [e, .Name n q] X.env = (false, eval e X.env) :: starEach [.Name n q] X.env := by rfl) (h2 : starEach [.Name n q] X.env = (false, eval (.Name n q) X.env) :: starEach [] X.env := by rfl) (hpl : (backTo pos (starEach [.Name n q] X.env)).any (·.1) = false := by rfl) :
    SE X P W (.Call (.Name "isinstance" p) [e, .Name n q] [] pos) (rIsT T ra) :=
  (pe_callB call_isi hg hm (by rfl) (pa_cons he (pa_cons (pe_bltn hgT hmT hvT (v := .ty T.name) rfl hnn hdd) pa_nil h2) h1) (by decide) (by decide) h1 hpl).of fun σ H Q ⟨ρ, env, st, r, re, h⟩ => by
    refine ⟨ρ, env, st, r, re, h.bind.mono fun x H1 ⟨ρ1, st1, v, e1, r1, p1, h1⟩ => ?_⟩
    show rIsi X.K [x, .ty T.name] H1 Q
    split at h1
    · rename_i t et
      exact ⟨x, .ty T.name, .type t.name, .type T.name, t.sub T, rfl, .ty _, tyI_ok r1.r p1 et, kit_ty (kit_TY t T hT), h1.here r1 (.bl _)⟩
    · exact h1.elim

/-! ### methods of lists -/
def appI : Nat → List IV → Sto → RO
  | n, [v], st => match st.os[n]? with
    | some (.lst xs) => bif Nat.blt xs.length lineI then some (.non, { os := st.os.set n (.lst (xs ++ [v])), low := st.low }) else none
    | _ => none
  | _, _, _ => none
def extI : Nat → List IV → Sto → RO
  | n, [.ref m], st => match st.os[n]?, st.os[m]? with
    | some (.lst xs), some (.lst ys) => bif Nat.ble (xs.length + ys.length) lineI then some (.non, { os := st.os.set n (.lst (xs ++ ys)), low := st.low }) else none
    | _, _ => none
  | _, _, _ => none
def rMethL (f : Nat → List IV → Sto → RO) (o : SemE) (as : SemA) : SemE := fun env st => (o env st).bind fun v st1 => match v with
  | .ref n => match lstAt st1 n with
    | some _ => (as env st1).bind fun xs st2 => RE.ofO (f n xs st2)
    | none => .bad
  | _ => .bad
def rM (K : PySem.W.Frag) (f : Nat → List IV → Sto → RO) : V → List V → Hp → VK → Prop := fun x vs H Q => ∃ ρ st n xs, Rel K H ρ st ∧ RepV K H ρ (.ref n) x ∧ RepVs K H ρ xs vs ∧ PostO K ρ H Q (f n xs st)
theorem mt_appI : MtR X "list.append" (rM X.K appI) := by
  rintro pins s σ H x vs v us Q I rx rv ⟨ρ, st, n, xs, r, p, t, h⟩
  cases p with
  | @ref _ a ha =>
    unfold appI at h
    split at h
    · rename_i v' st' zz
      split at h
      · rename_i ys e
        obtain ⟨k, h⟩ := bif_some (P := PostO X.K ρ H Q) h post_none
        obtain ⟨y, rfl, py⟩ := t.one
        obtain ⟨ws, q, tw⟩ := r.obj _ (.lst _) a e ha
        have hl : ys.length < lineI := by simp [Nat.blt] at k; omega
        refine mt_append pins s σ H _ _ v us Q I rx rv ⟨a, ws, y, rfl, rfl, q, line_lt (by rw [← tw.length]; exact hl), ?_⟩
        have ex := Ext.write r ha (.lst (ws ++ [y]))
        have tv := (tw.append (.cons py .nil)).mono r ex
        exact h ρ _ .non ex (r.write ha _ (.lst _) ⟨_, upd_same, tv⟩ _) .non
      · exact h.elim
    · exact h.elim
theorem mt_extI : MtR X "list.extend" (rM X.K extI) := by
  rintro pins s σ H x vs v us Q I rx rv ⟨ρ, st, n, xs, r, p, t, h⟩
  cases p with
  | @ref _ a ha =>
    unfold extI at h
    split at h
    · rename_i n' m' st'
      split at h
      · rename_i xs0 ys e em
        obtain ⟨k, h⟩ := bif_some (P := PostO X.K ρ H Q) h post_none
        obtain ⟨y, rfl, py⟩ := t.one
        cases py with
        | @ref _ b hb =>
          obtain ⟨ws, q, tw⟩ := r.obj _ (.lst _) a e ha
          obtain ⟨zs, q2, tz⟩ := r.obj _ (.lst _) b em hb
          have hl := Nat.le_of_ble_eq_true k
          refine mt_extend pins s σ H _ _ v us Q I rx rv ⟨a, b, ws, zs, rfl, rfl, q, q2, line_ok (by rw [← tw.length, ← tz.length]; exact hl), ?_⟩
          have ex := Ext.write r ha (.lst (ws ++ zs))
          exact h ρ _ .non ex (r.write ha _ (.lst _) ⟨_, upd_same, (tw.append tz).mono r ex⟩ _) .non
      · exact h.elim
    · exact h.elim
theorem tBM_of {f : Nat → List IV → Sto → RO} {Q : VK} (h : tE P W (rMethL f ra rs) σ H Q) : tBM X.K "list" (rM X.K f) (tE P W ra) (tA P W rs) σ H Q := by
  obtain ⟨ρ, env, st, r, re, h⟩ := h
  refine ⟨ρ, env, st, r, re, h.bind.mono fun x H1 ⟨ρ1, st1, v, e1, r1, p1, h1⟩ => ?_⟩
  cases p1 with
  | @ref n a ha =>
    dsimp only at h1
    split at h1
    · rename_i ys el
      obtain ⟨vs, q, _⟩ := lstAt_sq r1.r el ha
      refine ⟨.inl ⟨rfl, vs, q⟩, ρ1, env, st1, r1, re.monoX r.r e1, h1.bind.mono fun xs H2 ⟨ρ2, st2, w, e2, r2, p2, h2⟩ => ?_⟩
      exact ⟨ρ2, st2, n, w, r2.r, .ref (pre_get e2.pre ha), p2, h2.ofO r2⟩
    · exact h1.elim
  | _ => exact h1.elim
theorem se_methL {id : String} {name : Str} {f : Nat → List IV → Sto → RO} (pa : PlainAttrs "list") (slot : Slot "list" name id) (hty : typeOf (.builtin id) = pure (.type "method_descriptor")) (hm : MtR X id (rM X.K f)) (ho : SE X P W a ra) (ha : SA X P W (e :: es) rs)
    (hbase : attributeBase a name X.env (eval a X.env) = eval a X.env := by rfl)
    (hfew : ((backTo pos (starEach (e :: es) X.env)).all (fun x => !x.1) && (backToKw pos (keywordEach [] X.env)).all (fun x => x.1.isSome)
      && decide ((e :: es).length + ([] : List Keyword).length + (if ([] : List Keyword).isEmpty then 0 else 1) < 30)) = true := by rfl)
    (hline : (p.endLine == pos.line) = true := by rfl) (hs : starEach (e :: es) X.env = (false, eval e X.env) :: starEach es X.env := by rfl) (hplain : (backTo pos (starEach es X.env)).any (·.1) = false := by rfl) :
    SE X P W (.Call (.Attribute a name p) (e :: es) [] pos) (rMethL f ra rs) := (pe_bm pa slot hty hm ho ha hbase hfew hline hs hplain).of fun _ _ _ => tBM_of

/-! ### o[i] = v -/
theorem set_I {st st' : Sto} {ρ : List Addr} {vo vi vv : IV} {o i v : V} {Q : Hp → Prop} (r : Rel X.K H ρ st) (po : RepV X.K H ρ vo o) (pi : RepV X.K H ρ vi i) (pv : RepV X.K H ρ vv v) (e : setI vo vi vv st = some st')
    (h : ∀ (ρ' : List Addr) (H' : Hp), Ext ρ H ρ' H' → Rel X.K H' ρ' st' → Q H') : rSetL o i v H Q := by
  unfold setI at e
  split at e
  · split at e
    · rename_i xs e1
      split at e
      · rename_i j ej
        cases e
        cases po with
        | ref ha =>
          cases pi
          obtain ⟨ws, q, tw⟩ := r.obj _ _ _ e1 ha
          have ex := Ext.write r ha (.lst (ws.set j v))
          exact ⟨_, ws, _, j, rfl, rfl, q, by rw [← tw.length]; exact ej, h ρ _ ex (r.write ha _ (.lst _) ⟨_, upd_same, (tw.set pv j).mono r ex⟩ st.low)⟩
      · cases e
    · cases e
  · cases e
theorem sg_sub (ho : SE X P W a ra) (hi : SE X P W b rb)
    (hasg : ∀ v, assign (.Subscript a b pos) X.env v = (do
      let ov ← holding [v] (eval a X.env)
      let iv ← holding [v, ov] (eval b X.env)
      standAt pos
      holding [v, ov, iv] (setItem ov iv v)
      release [v, ov, iv] []) := by intro _; rfl) : SG X P (.Subscript a b pos) (gSubI ra rb) :=
  (pg_sub ho hi set_list hasg).of fun v σ H Q ⟨ρ, env, st, w, env', st', r, re, p, e, h⟩ => by
    unfold gSubI at e
    split at e
    · rename_i ov st1 e1
      split at e
      · rename_i iv st2 e2
        split at e
        · rename_i st3 e3
          cases e
          refine ⟨ρ, env, st, r, re, ?_⟩
          rw [e1]
          intro ρ1 H1 x x1 r1 px
          refine ⟨ρ1, env, st1, r1, re.monoX r.r x1, ?_⟩
          rw [e2]
          intro ρ2 H2 y x2 r2 py
          refine set_I r2.r (px.monoX r1.r x2) py (p.monoX r.r (x1.trans x2)) e3 fun ρ3 H3 ex r3 => ?_
          exact h ρ3 H3 σ (x1.trans (x2.trans ex.x)) (r2.ext ex r3) (re.monoX r.r (x1.trans (x2.trans ex.x)))
        · cases e
      · cases e
    · cases e
end
end PI

set_option Elab.async false
set_option linter.all false
set_option maxRecDepth 100000
set_option maxHeartbeats 2000000
/-! PI13: repr of data. -/
namespace PI
open PySem PySem.Spec PyProof.Rows L2
open LamX (Tabs TabS CodeO ExtN)
def txtOf (d : PyData) : List Nat := d.shown.cps.toList
def reprI : List IV → Sto → RO
  | [v], st => match pd st.os 63 v with
    | some d => bif d.showable && (Nat.ble d.shown.length lineI && (txtOf d).all fun c => decide (c < 0x110000)) then some (.str (txtOf d), st) else none
    | none => none
  | _, _ => none
theorem str_eta (x : Str) : (⟨x.cps.toList.toArray⟩ : Str) = x := by
  cases x
  simp
section
variable {X : Cx}
theorem call_reprI (hg : X.A.guards = some []) (hu : X.A.units + 65 < cLine) : CallR X (.builtin "repr") (rCl X.K reprI) := by
  rintro pins s σ H vs us Q I rv ⟨ρ, st, xs, r, t, h⟩
  unfold reprI at h
  split at h
  · split at h
    · rename_i d ed
      obtain ⟨k, h⟩ := bif_some (P := PostO X.K ρ H Q) h post_none
      simp only [Bool.and_eq_true] at k
      obtain ⟨k1, k2, k3⟩ := k
      obtain ⟨v, rfl, p⟩ := t.one
      have ok := pd_ok r 63 _ v d p ed
      obtain ⟨u, rfl, ru⟩ := vals1 rv
      obtain ⟨as, rd⟩ := Dp.reads I d v u ok.dp ru
      have hz : d.shown.length ≤ sizeLine := line_ok (Nat.le_of_ble_eq_true k2)
      have hq : Q (.str d.shown) H := by
        have q := h.here (x := .str ⟨(txtOf d).toArray⟩) r (.str k3)
        rwa [txtOf, str_eta] at q
      have fin : ∀ tk, EP X pins σ Q (.str d.shown tk) { s with toks := s.toks + 1 } := fun tk => ⟨.str d.shown, H, I.tok _, ⟨_, rfl⟩, hq⟩
      cases u with
      | ref a =>
        have hd := ok.dep
        refine PySem.repr_of_reads' rd k1 (fun z => by rw [PyData.hasDict_of_canLay d ok.can] at z; cases z) hg (by omega) (fun _ _ e => e) (fun h' u tk hk => ?_) hz
        exact ⟨.str d.shown, H, I.kept hk, ⟨_, rfl⟩, hq⟩
      | _ =>
        cases rd <;> first
          | exact P.repr_of_none (by have := fin s.toks; rwa [PyData.shown_none] at this)
          | exact P.repr_of_bool (by have := fin s.toks; rwa [PyData.shown_bool] at this)
          | exact P.repr_of_int (of_decide_eq_true k1) (by have := fin s.toks; rwa [PyData.shown_int] at this)
          | exact P.repr_of_str (by have := fin s.toks; rwa [PyData.shown_str] at this) (by rwa [PyData.shown_str] at hz)
    · exact h.elim
  · exact h.elim
end
end PI

set_option Elab.async false
set_option linter.all false
set_option maxRecDepth 100000
set_option maxHeartbeats 2000000
/-! PI14: told(lambda: .., due): what the lambda raises is compared by its repr. -/
namespace PI
open PySem PySem.Spec PyProof.Rows L2
open LamX (Tabs TabS CodeO ExtN TabB LamS lamEnv lamCx)
theorem RelX.extN {K : PySem.W.Frag} {P : Par K} {H H1 : Hp} {ρ : List Addr} {st : Sto} (r : RelX P H ρ st) (e : ExtN H H1) (t : Tabs P.T H1) : ExtX ρ H ρ H1 ∧ RelX P H1 ρ st := by
  have ex : ExtX ρ H ρ H1 := ⟨List.prefix_refl _, fun a o h _ ht => e a o h ht, fun a h => .inl h⟩
  refine ⟨ex, ⟨r.r.len, r.r.nd, fun n o a e1 e2 => ?_⟩, t, P.mono r.r ex r.sd⟩
  have q := r.r.obj n o a e1 e2
  cases o with
  | lst xs => obtain ⟨vs, q, t⟩ := q; exact ⟨vs, e a _ q (fun _ z => nomatch z), t.monoX r.r ex⟩
  | frl xs =>
    obtain ⟨vs, q, t⟩ := q
    refine ⟨vs, ?_, t.monoX r.r ex⟩
    rcases q with q | ⟨ob, q⟩
    · exact .inl (e a _ q (fun _ z => nomatch z))
    · exact .inr ⟨ob, e a _ q (fun _ z => nomatch z)⟩
section
variable {X : Cx} {pins : List (Addr × Obj)} {σ : L2.St} {H HZ : Hp} {s s1 : Shared}
/-- x(), in the def that got the lambda; what it lets out may lean on the def's slots -/
theorem pe_act2 {CXg : CXT} {Eg : XK} {Ng : List Str} {qg : Str} {sg : Scope} {g f c' : Addr} {cdg pm ctv : Value} {params : Arguments} {body : Expr} {scope : Scope} {k i : Nat} {a : Str} {pn : List (Addr × Obj)} {xe : Value → Shared → Prop} {W : WX} {tb : XK → TE} {p1 p2 : Pos}
    (I : Inv X pins σ H s) (L : LamS X.env.scope scope) (hf : s.heap.get? f = some (PySem.W.kla_obj "<lambda>" (X.env.qual ++ "<lambda>") params body scope (cloFrom X.env.cells scope.names []) pm c' ctv)) (hfn : H f = none) (hfr : f ∉ frs X.stack)
    (hbind : bindArgs (PySem.W.kla_fn "<lambda>" (X.env.qual ++ "<lambda>") params body scope (cloFrom X.env.cells scope.names []) pm (.ref c') ctv) ⟨[], []⟩ = pure [])
    (tk : Takes ((cxOf CXg X.prog X.w X.K X.mg X.base Ng qg sg g cdg X.A X.stack s H Eg).tr pn xe) W) (hr : Room (k + 1) (X.A.deeper (envOfC qg sg s.heap.objs.size g cdg)))
    (hbody : ∀ (A : Around) (outer : List Env) (s : Shared) (H : Hp) (E : XK), Room k (A.deeper (lamEnv X scope s.heap.objs.size f c')) → PE (lamCx X A outer s H E scope f c') body (tb E))
    (hN : Ng[i]? = some a) (hv : Vis sg a) (hd : (a == ("__debug__" : Str)) = false := by decide) (hcd : (a == ("__classdict__" : Str)) = false := by decide) :
    PE ((cxOf CXg X.prog X.w X.K X.mg X.base Ng qg sg g cdg X.A X.stack s H Eg).tr pn xe) (.Call (.Name a p1) [] [] p2)
      (fun σZ HZ Q => σZ[i]? = some (some (.ref f)) ∧ HZ c' = some (CodeO c' (X.env.qual ++ "<lambda>")) ∧ tb (WE W σZ) σ HZ Q) := by
  refine ⟨fun pinsZ sZ σZ HZ Q IZ h => ?_⟩
  obtain ⟨hs, hc, ht⟩ := h
  refine wpAny_Call_Name_kw (thn ((pe_var (pos := p1) (i := i) hN hv hd hcd).run pinsZ sZ σZ HZ (fun v H1 => v = .ref f ∧ H1 = HZ) IZ ⟨.ref f, hs, rfl, rfl⟩) fun u s1 ⟨v, H1, I1, r1, q1⟩ => ?_)
  obtain ⟨ev, eH⟩ := q1
  subst ev
  rw [eH] at I1
  obtain rfl : u = Value.ref f := r1
  have of1 : s1.heap.get? f = some (PySem.W.kla_obj "<lambda>" (X.env.qual ++ "<lambda>") params body scope (cloFrom X.env.cells scope.names []) pm c' ctv) := I1.base.keep f _ hf hfn hfr (fun z => nomatch (show f ∈ ([] : List Addr) from z))
  refine PySem.W.callWith_F0 ⟨_, _, _, _, of1⟩ ?_
  have un : Un (frs X.stack) [] H HZ s.heap s1.heap := I1.base
  obtain ⟨⟨oc, vs, t, hoc, hdc, hvc⟩, _, _⟩ := I1.hok c' _ hc
  have rc : codeAny (model X.prog X.w) (X.A.deeper (envOfC qg sg s.heap.objs.size g cdg)) (.call (.ref f) ⟨[], []⟩) (CR (L2.CX X.prog X.w) (envOfC qg sg s.heap.objs.size g cdg :: X.stack) X.prog X.w HZ s1 Q (WE W σZ)) s1 := by
    refine PySem.W.kla_callFunE hr.depth of1 rfl L.co L.gen rfl ⟨c', oc, vs, t, rfl, hoc, hdc, hvc⟩ ?_
    rw [hbind]
    refine wpAny_pure (wpAny_newFunctionEnv (fun y hy => (L.own y hy).2) (fun y hy => absurd hy (by simp)) (fun h₁ hns hsb => ⟨I1.nolimit.fresh _ hsb, ?_⟩) L.kind)
    show codeAny _ _ (.expr body (lamEnv X scope s1.heap.objs.size f c')) _ _
    have kp : ∀ b o, s1.heap.get? b = some o → h₁.get? b = some o := fun b o e => hsb.extBut b o (Nat.ne_of_lt (Heap.lt_size e)) (Heap.get?_push_of_some _ e)
    have J : Inv (lamCx X (X.A.deeper (envOfC qg sg s.heap.objs.size g cdg)) (envOfC qg sg s.heap.objs.size g cdg :: X.stack) s1 HZ (WE W σZ) scope f c') [] σ HZ { s1 with heap := h₁, toks := s1.toks + ([] : List (Str × Value)).length } :=
      LamX.lam_start2 I L I1.env0 hr.hd un hns kp
    refine PySem.W.kla_codeExpr (wpAny_mono ((hbody _ _ s1 HZ (WE W σZ) (hr.deeper _)).run [] _ _ HZ Q J ht) (fun v s' hq => ?_) fun e s' hq => hq)
    obtain ⟨w', H', J', rv, q⟩ := hq
    exact ⟨w', H', J'.os, J'.bare, J'.base, J'.hok, rv, q⟩
  have hx : PassesAt (L2.CX X.prog X.w) ((cxOf CXg X.prog X.w X.K X.mg X.base Ng qg sg g cdg X.A X.stack s H Eg).tr pn xe) σZ (WE W σZ) := passAt tk σZ
  refine wpAny_call (codeAny_mono rc fun r s' hq => ?_)
  cases r with
  | error e => exact hx pinsZ HZ s1 e s' I1 hq
  | ok fl =>
    cases fl with
    | ret u => exact I1.after hq
    | next => exact False.elim hq
    | brk => exact False.elim hq
    | cont => exact False.elim hq
end
/-- what told(lambda: body, due) gives; C the class that is caught, fld its field -/
def rRefuses (C : Nat) (fld : Str) (body due : SemE) : SemE := fun env st => (due env st).bind fun vd st1 => match body env st1 with
  | .ok _ st2 => .ok (.bl false) st2
  | .exc x st2 => bif Nat.beq x.cls C then (match x.fs with
    | [(n, v)] => bif decide (n = fld) then RE.ofO ((reprI [v] st2).bind fun (a, st3) => (reprI [vd] st3).bind fun (b, st4) => blO (eqI st4 a b) st4) else .bad
    | _ => .bad) else .bad
  | .bad => .bad

structure ToldS (X : Cx) (Ng : List Str) (sg : Scope) (C : Addr) (a due e cn fld : Str) : Prop where
  N0 : Ng[0]? = some a
  N1 : Ng[1]? = some due
  N2 : Ng[2]? = some e
  nd : Ng.Nodup
  l0 : sg.names.lookup a = some .local
  l1 : sg.names.lookup due = some .local
  l2 : sg.names.lookup e = some .local
  gC : sg.names.lookup cn = some .globalImplicit
  gR : sg.names.lookup ("repr" : Str) = some .globalImplicit
  mC : X.mg cn = some (.ref C)
  mR : X.mg ("repr" : Str) = none
  xf : XfC X.K C
  no : PySem.W.findIn X.K (.ref C) fld = some none
  ex : PySem.W.exmOne X.K (.ref C) (.ref C) = some true
  dC : (cn == ("__debug__" : Str)) = false
  d0 : (a == ("__debug__" : Str)) = false
  c0 : (a == ("__classdict__" : Str)) = false
  d1 : (due == ("__debug__" : Str)) = false
  c1 : (due == ("__classdict__" : Str)) = false
  d2 : (e == ("__debug__" : Str)) = false
  c2 : (e == ("__classdict__" : Str)) = false
section
variable {X : Cx} {P : Par X.K} {W : WX}
/-- the try of told -/
theorem told_ok {Ng : List Str} {x a due e cn fld : Str} {sg : Scope} {g C f c' : Addr} {cdg : Value} {j : Nat} {p1 p2 p3 p4 p5 p6 p7 p8 p9 q1 q2 q3 q4 q5 q6 r1 r2 : Pos} {s : Shared} {H : Hp} {tl : XK → Hp → VK → Prop} (S : ToldS X Ng sg C a due e cn fld) (hgd : X.A.guards = some []) (hu : X.A.units + 100 < cLine)
    (act : ∀ (W : WX) (pn : List (Addr × Obj)) (xe : Value → Shared → Prop), Takes ((cxOf C8.CX0 X.prog X.w X.K X.mg X.base Ng x sg g cdg X.A X.stack s H C8.E0).tr pn xe) W →
      PE ((cxOf C8.CX0 X.prog X.w X.K X.mg X.base Ng x sg g cdg X.A X.stack s H C8.E0).tr pn xe) (.Call (.Name a p1) [] [] p2) (fun σZ HZ Q => σZ[0]? = some (some (.ref f)) ∧ HZ c' = some (CodeO c' (X.env.qual ++ "<lambda>")) ∧ tl (WE W σZ) HZ Q))
    (hsw : ∀ env, swapsWith (.Call (.Name a p1) [] [] p2) none p3.line env = pure false) (hat : ∀ env, attributeBase (.Name e q2) fld env (eval (.Name e q2) env) = eval (.Name e q2) env) (mono : ∀ (E E' : XK) (H : Hp) (Q : VK), (∀ c d H, E c d H → E' c d H) → tl E H Q → tl E' H Q) :
    PSs (cxOf C8.CX0 X.prog X.w X.K X.mg X.base Ng x sg g cdg X.A X.stack s H C8.E0).nox
      [.Try [.Expr (.Call (.Name a p1) [] [] p2) p3, .Return (some (.Constant (.bool false) j p4)) p5]
        [.ExceptHandler (some (.Name cn p6)) (some e) [.Return (some (.Compare (.Call (.Name "repr" q1) [.Attribute (.Name e q2) fld q3] [] q4) [.Eq] [.Call (.Name "repr" q5) [.Name due q6] [] p7] p8)) p9] r1] [] [] r2]
      (fun D σ H1 => σ[0]? = some (some (.ref f)) ∧ H1 c' = some (CodeO c' (X.env.qual ++ "<lambda>")) ∧ tl (fun c d H2 => c = .ref C ∧ ∀ a0, H2 a0 = none →
          (tOp (rB X.K fun a b st => blO (eqI st a b) st) (tCB (rCl X.K reprI) (tCons (tXf a0 c d C fld (tVar 2)) tNil)) (tCB (rCl X.K reprI) (tCons (tVar 1) tNil))) (σ.set 2 (some (.ref a0))) H2 D.rt) H1 fun _ H2 => D.rt (.bl false) H2) := by
  have hv : ∀ {y : Str}, sg.names.lookup y = some .local → Vis sg y := fun h => .inl h
  refine pss_one ((ps_try_as (X := (cxOf C8.CX0 X.prog X.w X.K X.mg X.base Ng x sg g cdg X.A X.stack s H C8.E0).nox) (c := .ref C) (i := 2) (n := e) (Wout := fun _ _ _ _ => False)
    (tb := fun W D σ H1 => σ[0]? = some (some (.ref f)) ∧ H1 c' = some (CodeO c' (X.env.qual ++ "<lambda>")) ∧ tl (WE W σ) H1 fun _ H2 => D.rt (.bl false) H2)
    (ts := fun a0 cls d => tRet (tOp (rB X.K fun a b st => blO (eqI st a b) st) (tCB (rCl X.K reprI) (tCons (tXf a0 cls d C fld (tVar 2)) tNil)) (tCB (rCl X.K reprI) (tCons (tVar 1) tNil))))
    rfl rfl S.nd S.N2 S.l2 ⟨S.gC, S.dC, .inl S.mC⟩ LamX.takes0 (fun W pn xe tk _ => ?_) (fun a0 oe cls d pn hz hvs => ?_)).of ?_)
  · have hp := act W pn xe tk
    exact (pss_cons (ps_expr hp (hsw _)) (pss_one (ps_ret pe_bl))).of fun D σ H1 ⟨h1, h2, h3⟩ => ⟨h1, h2, h3⟩
  · refine pss_one (ps_ret (pe_cmpR (op_eqI (by show X.A.units + 3 + 64 < cLine; omega)) (pe_callB (call_reprI hgd (by show X.A.units + 3 + 65 < cLine; omega)) S.gR S.mR (by rfl) (pa_cons (pe_xf S.xf S.no hz hvs (pe_var S.N2 (hv S.l2) S.d2 S.c2) (hat _)) pa_nil) (by decide) (by decide))
      (pe_callB (call_reprI hgd (by show X.A.units + 3 + 65 < cLine; omega)) S.gR S.mR (by rfl) (pa_cons (pe_var S.N1 (hv S.l1) S.d1 S.c1) pa_nil) (by decide) (by decide)) (nomark _)))
  · intro D σ H1 ⟨h1, h2, h3⟩
    refine ⟨h1, h2, mono _ _ _ _ (fun c d H2 ⟨hc, hq⟩ => ?_) h3⟩
    subst hc
    exact ⟨true, S.ex, fun _ a0 ha0 => hq a0 ha0, fun z => nomatch z⟩
end
end PI

set_option Elab.async false
set_option linter.all false
set_option maxRecDepth 100000
set_option maxHeartbeats 2000000
/-! PI15: told(lambda: .., due), called. -/
namespace PI
open PySem PySem.Spec PyProof.Rows L2
open LamX (Tabs TabS CodeO ExtN TabB LamS lamEnv lamCx)
section
variable {X : Cx} {P : Par X.K} {W : WX}
theorem se_refuses {x a due e cn fld : Str} {g c PP C : Addr} {lb : Nat} {k : Nat} {pg : Arguments} {sg : Scope} {dV kV doc pm cdv ct oc : Value} {an od : Option Addr} {osl : Array (Option Value)} {Ng : List Str}
    {params : Arguments} {body de : Expr} {scope : Scope} {rb rd : SemE} {p lpos pos : Pos} {j : Nat} {p1 p2 p3 p4 p5 p6 p7 p8 p9 q1 q2 q3 q4 q5 q6 r1 r2 : Pos} {bg : List Stmt}
    (hbg : bg = [.Try [.Expr (.Call (.Name a p1) [] [] p2) p3, .Return (some (.Constant (.bool false) j p4)) p5]
        [.ExceptHandler (some (.Name cn p6)) (some e) [.Return (some (.Compare (.Call (.Name "repr" q1) [.Attribute (.Name e q2) fld q3] [] q4) [.Eq] [.Call (.Name "repr" q5) [.Name due q6] [] p7] p8)) p9] r1] [] [] r2])
    (hcm : P.cm lb = C) (hs0 : X.stack = X.env :: X.outer) (hgd : X.A.guards = some []) (hun : X.A.units + 100 < cLine) (hg : Gl X x) (hm : X.mg x = some (.ref g)) (hk : PySem.W.keepIn X.K (.ref g) = true)
    (lk : X.K.lookup g = some ⟨oc, od, .func (PySem.W.fnOf x x pg bg sg dV kV doc pm an cdv ct), osl⟩) (hcg : PySem.W.codeIn X.K cdv x = true) (hb : L2.Binds X.K (PySem.W.fnOf x x pg bg sg dV kV doc pm an cdv ct) [a, due] []) (Sg : FnScope Ng [a, due] sg) (S : ToldS X Ng sg C a due e cn fld) (hNg : Ng.length = 3)
    (TB : TabB X.base X.mg c PP) (hcode : X.env.code = .ref c) (hmT : (PP, X.env.qual ++ "<lambda>") ∈ P.T) (hu : ∀ p ∈ P.T, p.1 = PP → p.2 = X.env.qual ++ "<lambda>") (hr : Room (k + 2) X.A) (L : LamS X.env.scope scope) (hdef : defaultsOf params X.env = ([], []))
    (hbind : ∀ (q : Str) (cl : List (Str × Addr)) (pm cv ctv : Value), bindArgs (PySem.W.kla_fn "<lambda>" q params body scope cl pm cv ctv) ⟨[], []⟩ = pure [])
    (hbody : ∀ (A : Around) (outer : List Env) (s : Shared) (H : Hp) (E : XK) (f c' : Addr), Room k (A.deeper (lamEnv X scope s.heap.objs.size f c')) → PE (lamCx X A outer s H E scope f c') body (tE P (fun c d _ H' => E c d H') rb))
    (hd : SA X P W [de] (rCons rd rNil))
    (hsw : ∀ env, swapsWith (.Call (.Name a p1) [] [] p2) none p3.line env = pure false) (hat : ∀ env, attributeBase (.Name e q2) fld env (eval (.Name e q2) env) = eval (.Name e q2) env)
    (hdb : (x == ("__debug__" : Str)) = false := by decide) (hst : starEach [.Lambda params body scope lpos, de] X.env = (false, eval (.Lambda params body scope lpos) X.env) :: starEach [de] X.env := by rfl) (hpl : (backTo pos (starEach [de] X.env)).any (·.1) = false := by rfl) :
    SE X P W (.Call (.Name x p) [.Lambda params body scope lpos, de] [] pos) (rRefuses lb fld rb rd) := by
  subst hbg
  refine ⟨fun pins s σ H Q I h => ?_⟩
  obtain ⟨ρ, env, st, rx, re, h⟩ := h
  refine wpAny_Call_Name_kw (ld_glob I hg hm ?_ hdb)
  refine PySem.W.callWith_K (h₀ := X.base) I.ok.mod.kin hk ?_ hst hpl
  rw [hst]
  show wpAny _ _ (spliced ((false, eval (.Lambda params body scope lpos) X.env) :: backTo pos (starEach [de] X.env))) _ _ s
  refine Calls.spliced_cons (LamX.lam_make2 I TB hcode hmT hu rx.tabs hdef (L.has I.ok) fun f c' pm' ctv H1 s' I1 eN T1 hf hfn hfr hco => ?_)
  obtain ⟨ex1, rx1⟩ := rx.extN eN T1
  have h1 : Post P W (RpV X.K) ρ H1 σ Q (rRefuses lb fld rb rd env st) := Post.ext ex1 h
  have re1 := re.monoX rx.r ex1
  have fL : f ≠ X.env.locals := fun z => by
    obtain ⟨m, ⟨o, es, ep, ho, hd, _⟩, _⟩ := I1.loc
    rw [← z, hf] at ho
    cases ho
    cases hd
  have fX : f ∉ X.fs := fun z => hfr (by rw [hs0]; unfold frs; exact List.mem_filterMap.mpr (by obtain ⟨y, h1, h2⟩ := List.mem_filterMap.mp z; exact ⟨y, List.mem_cons_of_mem _ h1, h2⟩))
  obtain ⟨fo, hfo⟩ : ∃ fo, fo = PySem.W.kla_obj "<lambda>" (X.env.qual ++ "<lambda>") params body scope (cloFrom X.env.cells scope.names []) pm' c' ctv := ⟨_, rfl⟩
  have I1p : Inv X (pins ++ [(f, fo)]) σ H1 s' := I1.pins_of fun q hq => by
    rcases List.mem_append.mp hq with hq | hq
    · exact I1.pin q (List.mem_append_right _ hq)
    · obtain rfl := List.mem_singleton.mp hq
      exact ⟨by rw [hfo]; exact hf, hfn, fL, fX, fun v z => by rw [hfo] at z; cases z⟩
  have hdue : tA P W (rCons rd rNil) σ H1 fun vs H2 => ∃ (ρ2 : List Addr) (st2 : Sto) (v : IV) (vv : V), vs = [vv] ∧ ExtX ρ H1 ρ2 H2 ∧ RelX P H2 ρ2 st2 ∧ RepV X.K H2 ρ2 v vv ∧ Post P W (RpV X.K) ρ2 H2 σ Q (match rb env st2 with
      | .ok _ st2 => .ok (.bl false) st2
      | .exc x st2 => bif Nat.beq x.cls lb then (match x.fs with
        | [(n, v')] => bif decide (n = fld) then RE.ofO ((reprI [v'] st2).bind fun (a, st3) => (reprI [v] st3).bind fun (b, st4) => blO (eqI st4 a b) st4) else .bad
        | _ => .bad) else .bad
      | .bad => .bad) := by
    refine ⟨ρ, env, st, rx1, re1, ?_⟩
    unfold rRefuses at h1
    unfold rCons rNil
    have h1' := h1
    cases hrd : rd env st with
    | ok v st2 =>
      rw [hrd] at h1'
      show Post P W (RpVs X.K) ρ H1 σ _ (.ok [v] st2)
      intro ρ2 H2 vs e2 r2 pv1
      obtain ⟨vv, rfl, pv2⟩ := RepVs.one pv1
      exact ⟨ρ2, st2, v, vv, rfl, e2, r2, pv2, Post.ext e2 h1'⟩
    | exc x st2 => rw [hrd] at h1'; exact h1'
    | bad => rw [hrd] at h1'; exact h1'
  refine thn (hd.run pos (pins ++ [(f, fo)]) s' σ H1 _ I1p hdue) fun us s2 ⟨vs, H2, I2, rv, ρ2, st2, v, vv, evs, ex2, rx2, pv, hp⟩ => ?_
  subst evs
  obtain ⟨u, rfl, ru⟩ := vals1 rv
  have hp2 := I2.pin (f, fo) (List.mem_append_right _ (List.mem_append_right _ List.mem_cons_self))
  have hf2 : s2.heap.get? f = some (PySem.W.kla_obj "<lambda>" (X.env.qual ++ "<lambda>") params body scope (cloFrom X.env.cells scope.names []) pm' c' ctv) := by rw [← hfo]; exact hp2.1
  have cn : c' ∉ ρ := fun z => by
    obtain ⟨_, ob, _, _, q⟩ := rx1.r.at' z
    cases ob with
    | lst xs => obtain ⟨vs, e, _⟩ := q; rw [hco] at e; unfold CodeO at e; cases e
    | frl xs => obtain ⟨vs, e | ⟨ob, e⟩, _⟩ := q <;> (rw [hco] at e; unfold CodeO at e; cases e)
  have hco2 : H2 c' = some (CodeO c' (X.env.qual ++ "<lambda>")) := ex2.keep c' _ hco cn (fun ps z => by unfold CodeO at z; cases z)
  have re2 := re1.monoX rx1.r ex2
  have rc : codeAny (model X.prog X.w) X.A (.call (.ref g) ⟨[.ref f, u], []⟩) (CR C8.CX0 X.stack X.prog X.w H2 s2 Q C8.E0) s2 := by
    refine LamX.run_ofS (N := Ng) (ps := [a, due]) (us := [.ref f, u]) (vs := [.ref f, vv]) lk hcg Sg hr I2.env0 (hb s2 [.ref f, u] I2.kIn rfl) (.cons rfl (.cons ru .nil)) rfl fun hr' => ?_
    refine ⟨_, (told_ok (tl := fun E H Q => tE P (fun c d _ H' => E c d H') rb σ H Q) S hgd hun (fun W pn xe tk => pe_act2 (i := 0) I2 L hf2 hp2.2.1 hfr (hbind _ _ _ _ _) tk hr' (fun A outer s H E hr2 => hbody A outer s H E f c' hr2) S.N0 (.inl S.l0) S.d0 S.c0) hsw hat (fun E E' H Q hE ⟨ρ, env, st, r, re, h⟩ => ⟨ρ, env, st, r, re, h.wx fun c d H' w => hE c d H' w⟩)).nox, ?_⟩
    have hst0 : L2.start Ng [V.ref f, vv] = [some (.ref f), some vv, none] := by simp [L2.start, hNg]
    refine ⟨by rw [hst0]; rfl, hco2, ρ2, env, st2, rx2, re2, ?_⟩
    cases hrb : rb env st2 with
    | ok v' st3 =>
      rw [hrb] at hp
      exact fun ρ' H' x' e r _ => hp ρ' H' (.bl false) e r (.bl false)
    | bad => rw [hrb] at hp; exact hp
    | exc xx st3 =>
      rw [hrb] at hp
      dsimp only at hp
      intro ρ3 H3 cc dd e3 r3 rxc
      obtain ⟨k1, hp⟩ := bif_bad hp
      have hcl := Nat.eq_of_beq_eq_true k1
      obtain ⟨rfl, dd', ws, rfl, hxd, rf⟩ := rxc
      rw [hcl, hcm]
      refine ⟨rfl, fun a0 ha0 => ?_⟩
      split at hp
      · rename_i n v' efs
        obtain ⟨k2, hp⟩ := bif_bad hp
        have hn := of_decide_eq_true k2
        rw [efs] at rf
        cases rf with
        | @cons _ _ w _ ws' pw tw =>
          cases tw
          cases e4 : reprI [v'] st3 with
          | none => rw [e4] at hp; exact hp.elim
          | some q4 =>
            obtain ⟨av, st4⟩ := q4
            rw [e4] at hp
            cases e5 : reprI [v] st4 with
            | none => simp only [Option.bind_some] at hp; rw [e5] at hp; exact hp.elim
            | some q5 =>
              obtain ⟨bv, st5⟩ := q5
              simp only [Option.bind_some] at hp
              rw [e5] at hp
              simp only [Option.bind_some] at hp
              refine ⟨.ref a0, by rw [hst0]; rfl, rfl, rfl, dd', _, w, rfl, hxd, by rw [hn]; simp [List.lookup], ?_⟩
              refine ⟨ρ3, st3, [v'], r3.r, .cons pw .nil, ?_⟩
              rw [e4]
              intro ρ4 H4 y x4 r4 py
              refine ⟨vv, by rw [hst0]; rfl, ρ4, st4, [v], r4, .cons ((pv.monoX rx2.r e3).mono r3.r x4) .nil, ?_⟩
              rw [e5]
              intro ρ5 H5 z x5 r5 pz
              have rx4 := r3.ext x4 r4
              have rx5 := rx4.ext x5 r5
              exact ⟨ρ5, st5, av, bv, r5, py.mono r4 x5, pz, Post.ofO (Post.ext (e3.trans (x4.x.trans x5.x)) hp) rx5⟩
      · exact hp.elim
  refine ⟨I2.kIn, wpAny_call (codeAny_mono rc fun r s3 hq => ?_)⟩
  cases r with
  | error e => exact (show False from hq).elim
  | ok fl =>
    cases fl with
    | ret u =>
      obtain ⟨v3, H3, J, rv3, q3⟩ := I2.after hq
      exact ⟨v3, H3, J.pins_of fun p hp => J.pin p (List.mem_append_right _ (List.mem_append_left _ hp)), rv3, q3⟩
    | next => exact False.elim hq
    | brk => exact False.elim hq
    | cont => exact False.elim hq
end
end PI

set_option Elab.async false
set_option linter.all false
set_option maxRecDepth 100000
set_option maxHeartbeats 2000000
/-! PI16: what the printed texts use. -/
namespace PI
open PySem PySem.Spec PyProof.Rows L2
open LamX (Tabs TabS CodeO ExtN TabB LamS lamEnv lamCx)
abbrev cEq : IV → IV → Sto → RO := fun a b st => blO (eqI st a b) st
abbrev cNe : IV → IV → Sto → RO := fun a b st => blN (eqI st a b) st
abbrev cIn : IV → IV → Sto → RO := fun a b st => blO (inI st a b) st
abbrev cNotIn : IV → IV → Sto → RO := fun a b st => blN (inI st a b) st
abbrev cIs : IV → IV → Sto → RO := fun a b st => blO (isNI a b) st
abbrev cIsNot : IV → IV → Sto → RO := fun a b st => blN (isNI a b) st
abbrev cLt : IV → IV → Sto → RO := fun a b st => blO (ltI a b) st
abbrev cLe : IV → IV → Sto → RO := fun a b st => blO (leI a b) st
abbrev cGt : IV → IV → Sto → RO := fun a b st => blO (ltI b a) st
abbrev cGe : IV → IV → Sto → RO := fun a b st => blO (leI b a) st
theorem ru4 {k : Nat} {A : Around} (r : Room k A) : A.units + 64 < cLine := by have := r.un; omega
theorem ru5 {k : Nat} {A : Around} (r : Room k A) : A.units + 65 < cLine := by have := r.un; omega
/-- a constant of the module -/
structure Gc (K : PySem.W.Frag) (mg : Str → Option Value) (x : Str) (c : IV) : Prop where
  ex : ∃ (v : V) (u : Value), mg x = some u ∧ RelV v u ∧ ∀ H ρ, RepV K H ρ c v
/-- a def that gives what g says -/
structure Dn (P : Program) (w : World) (K : PySem.W.Frag) (mg : Str → Option Value) (base : Heap) (T : List (Addr × Str) × (Nat → Addr)) (k : Nat) (x : Str) (n : Nat) (g : List IV → Sto → RE IV) : Prop where
  ex : ∃ (f : Addr) (fd : FuncData) (ps : List Str), ps.length = n ∧ mg x = some (.ref f) ∧ PySem.W.keepIn K (.ref f) = true ∧ L2.Binds K fd ps [] ∧ FnOk P w K mg base (L2.CX P w) k f fd ps (spI K T n g)
/-- an exception class of one field -/
structure Xn (P : Program) (w : World) (K : PySem.W.Frag) (mg : Str → Option Value) (base : Heap) (cm : Nat → Addr) (lb : Nat) (x fld : Str) : Prop where
  ex : ∃ (C fI : Addr) (fd : FuncData) (ps : List Str), cm lb = C ∧ mg x = some (.ref C) ∧ OexC K C ∧ PySem.W.findIn K (.ref C) "__init__" = some (some (.ref fI)) ∧ PySem.W.typeIn K (.ref fI) = some (.type "function") ∧ L2.Binds K fd ps [] ∧ FnOk P w K mg base (L2.CX P w) 1 fI fd ps (spSup C fld)
section
variable {X : Cx} {P : Par X.K} {W : WX} {a e : Expr} {es : List Expr} {ra : SemE} {rs : SemA} {pos p p2 : Pos} {x fld : Str}
theorem se_gc {c : IV} (G : Gc X.K X.mg x c) (hg : Gl X x) (hd : (x == ("__debug__" : Str)) = false := by decide) : SE X P W (.Name x pos) (rC c) := by
  obtain ⟨v, u, h1, h2, h3⟩ := G.ex
  exact se_glob hg h1 h2 h3 hd
theorem se_dn {g : List IV → Sto → RE IV} {k n : Nat} (D : Dn X.prog X.w X.K X.mg X.base (P.T, P.cm) k x n g) (tk : Takes X W) (hr : Room k X.A) (hg : Gl X x) (ha : SA X P W (a :: es) rs) (hl : LenN n rs)
    (hdb : (x == ("__debug__" : Str)) = false := by decide) (he : starEach (a :: es) X.env = (false, eval a X.env) :: starEach es X.env := by rfl) (hpl : (backTo pos (starEach es X.env)).any (·.1) = false := by rfl) : SE X P W (.Call (.Name x p) (a :: es) [] pos) (rDef g rs) := by
  obtain ⟨f, fd, ps, rfl, h1, h2, h3, F⟩ := D.ex
  exact se_def F tk hr hg h1 h2 h3 rfl ha (fun σ H Q h => hl.many σ H Q h) hdb he hpl
theorem ss_rs {lb : Nat} (D : Xn X.prog X.w X.K X.mg X.base P.cm lb x fld) (hc : X.calm = true) (tk : Takes X W) (hr : Room 2 X.A) (hg : Gl X x) (he : SE X P W e ra)
    (hdb : (x == ("__debug__" : Str)) = false := by decide) (hst : starEach [e] X.env = (false, eval e X.env) :: starEach [] X.env := by rfl) (hpl : (backTo p2 (starEach [] X.env)).any (·.1) = false := by rfl) : SS X P W (.Raise (some (.Call (.Name x p) [e] [] p2)) none pos) (sRaise lb fld ra) := by
  obtain ⟨C, fI, fd, ps, hcm, h1, T, iC, tI, hb, F⟩ := D.ex
  exact ss_raise hcm hc tk T iC tI F hr hb hg h1 he hdb hst hpl
theorem pts_yes : PTs X [] (tT P W rYes) := ⟨fun pins s σ H Q I ⟨ρ, env, st, r, re, h⟩ => pts_nil.run pins s σ H Q I (h.here r rfl)⟩
end
/-- a def by its printed body -/
theorem dn_mk {P : Program} {w : World} {K : PySem.W.Frag} {mg : Str → Option Value} {base : Heap} {T : List (Addr × Str) × (Nat → Addr)} {k : Nat} {x : Str} {st : Stmt} {N ps : List Str} {r : SemS} {n m : Nat}
    (hF : ∃ f fd, mg x = some (.ref f) ∧ Fun K x x st f fd) (S : FnScope N ps (defScope st)) (hn : ps.length = n) (hm : N.length = m)
    (hb : ∀ (kV doc pm : Value) (an : Option Addr) (cdv ct : Value) (us : List Value), us.length = ps.length → bindArgs (PySem.W.fnOf x x (defArgs st) (defBody st) (defScope st) .none kV doc pm an cdv ct) ⟨us, []⟩ = pure (ps.zip us))
    (hbody : ∀ (f : Addr) (cdv : Value) (A : Around) (outer : List Env) (s : Shared) (H : Hp) (E : XK) (Pr : Par K), Room k (A.deeper (envOfC x (defScope st) s.heap.objs.size f cdv)) → (Pr.T, Pr.cm) = T →
      PSs (cxOf (L2.CX P w) P w K mg base N x (defScope st) f cdv A outer s H E) (defBody st) (tS Pr (fun c d _ H' => E c d H') r)) : Dn P w K mg base T (k + 1) x n (callI m r) := by
  obtain ⟨f, fd, h1, F⟩ := hF
  have hbi := F.binds hb
  have kp := F.kp
  obtain ⟨oc, od, kV, doc, pm, an, cdv, ct, osl, rfl, lk, hcd⟩ := F.ex
  subst hn hm
  exact ⟨f, _, ps, rfl, h1, kp, hbi, fn_I lk hcd S fun A outer s H E Pr hr hT => hbody f cdv A outer s H E Pr hr hT⟩
end PI

set_option Elab.async false
set_option linter.all false
set_option maxRecDepth 100000
set_option maxHeartbeats 2000000
/-! PI17: try: .. except C as e: if e.f != k: return False. -/
namespace PI
open PySem PySem.Spec PyProof.Rows L2
def sTryNe (lb : Nat) (fld : Str) (k : Int) (ie : Nat) (rb : SemS) : SemS := fun env st => match rb env st with
  | .exc x env1 st1 => bif Nat.beq x.cls lb && Nat.blt ie env1.length then (match x.fs with
    | [(n, .int i)] => bif decide (n = fld) then (bif decide (i = k) then .nx (env1.set ie none) st1 else .rt (.bl false) st1) else .bad
    | _ => .bad) else .bad
  | .nx e s => .nx e s
  | .rt v s => .rt v s
  | .bk e s => .bk e s
  | .ct e s => .ct e s
  | .bad => .bad
section
variable {X : Cx} {P : Par X.K} {W : WX} {body : List Stmt} {rb : SemS} {cn e fld : Str} {C : Addr} {lb ie j1 j2 : Nat} {k : Int} {p0 p1 p2 p3 p4 p5 p6 p7 p8 p9 : Pos}
theorem RelEnv.unset {K : PySem.W.Frag} {H : Hp} {ρ : List Addr} {env : IEnv} {σ : L2.St} (h : RelEnv K H ρ env σ) (i : Nat) : RelEnv K H ρ (env.set i none) (σ.set i none) := by
  refine ⟨by simp [h.len], fun m w q => ?_⟩
  by_cases hj : i = m
  · subst hj
    have hl : i < env.length := by
      have := (List.getElem?_eq_some_iff.mp q).1
      simpa using this
    rw [List.getElem?_set_self hl] at q
    cases q
  · rw [List.getElem?_set_ne hj] at q ⊢
    exact h.get m w q
theorem ss_tryNe (hcm : P.cm lb = C) (hs : X.stack = X.env :: X.outer) (hf : X.env.frame = some X.env.locals) (hN : X.N.Nodup) (hi : X.N[ie]? = some e) (hln : X.env.kindOf e = some .local) (hc : Names X cn (.ref C)) (T : XfC X.K C) (hno : PySem.W.findIn X.K (.ref C) fld = some none)
    (hex : PySem.W.exmOne X.K (.ref C) (.ref C) = some true) (hd : (e == ("__debug__" : Str)) = false) (hcd : (e == ("__classdict__" : Str)) = false)
    (hb : ∀ (W : WX) (pn : List (Addr × Obj)) (xe : Value → Shared → Prop), Takes (X.tr pn xe) W → PassesOwn (model X.prog X.w) X.A X.env xe → PSs (X.tr pn xe) body (tS P W rb))
    (hat : ∀ env, attributeBase (.Name e p3) fld env (eval (.Name e p3) env) = eval (.Name e p3) env) :
    SS X P W (.Try body [.ExceptHandler (some (.Name cn p0)) (some e) [.If (.Compare (.Attribute (.Name e p3) fld p4) [.NotEq] [.Constant (.int k) j1 p5] p6) [.Return (some (.Constant (.bool false) j2 p7)) p8] [] p9] p1] [] [] p2) (sTryNe lb fld k ie rb) :=
  (ps_try_as (c := .ref C) (i := ie) (n := e) (Wout := fun _ _ _ _ => False) (tb := fun W => tS P W rb)
    (ts := fun a cls d => tIfS (tTest (tOp rNe (tXf a cls d C fld (tVar ie)) (tC (.int k)))) (tRet (tC (.bl false))) tNext)
    hs hf hN hi hln hc LamX.takes0 hb (fun a oe cls d pn hz hvs => pss_one (ps_if (pt_cmpR op_ne (pe_xf T hno hz hvs (pe_var hi (.inl hln) hd hcd) (hat _)) pe_int (nomark _)) (pss_one (ps_ret pe_bl)) pss_nil))).of fun D σ H ⟨ρ, env, st, rx, re, h⟩ => by
    refine ⟨ρ, env, st, rx, re, ?_⟩
    unfold sTryNe at h
    cases hr : rb env st with
    | exc x env1 st1 =>
      rw [hr] at h
      dsimp only at h
      cases hk : (Nat.beq x.cls lb && Nat.blt ie env1.length) with
      | false => rw [hk] at h; exact h.elim
      | true =>
        rw [hk] at h
        obtain ⟨k1, k2⟩ := Bool.and_eq_true_iff.mp hk
        have hcl := Nat.eq_of_beq_eq_true k1
        have hlt : ie < env1.length := by simp [Nat.blt] at k2; omega
        intro ρ' H' c d σ' ex r' re' rxc
        obtain ⟨rfl, dd, vs, rfl, hxd, rf⟩ := rxc
        rw [hcl, hcm]
        refine ⟨true, hex, fun _ a ha => ?_, fun z => nomatch z⟩
        simp only [cond_true] at h
        split at h
        · rename_i n i efs
          cases hn : decide (n = fld) with
          | false => rw [hn] at h; exact h.elim
          | true =>
            rw [hn] at h
            simp only [cond_true] at h
            have hn' := of_decide_eq_true hn
            rw [efs] at rf
            cases rf with
            | @cons _ _ w _ ws' pw tw =>
              cases tw
              cases pw
              have hlt' : ie < σ'.length := by rw [← re'.len]; exact hlt
              refine ⟨.ref a, by rw [List.getElem?_set_self hlt'], rfl, rfl, dd, _, .int i, rfl, hxd, by rw [hn']; simp [List.lookup], rfl, _, rfl, ?_⟩
              by_cases hik : i = k
              · subst hik
                rw [decide_eq_true rfl] at h
                rw [decide_eq_true rfl]
                show (if (!true) = true then _ else _)
                rw [if_neg (by decide)]
                show D.nx ((σ'.set ie (some (V.ref a))).set ie none) H'
                rw [List.set_set]
                exact h ρ' H' _ ex r' (re'.unset ie)
              · rw [decide_eq_false hik] at h
                have : decide (V.int i = V.int k) = false := decide_eq_false fun z => hik (V.int.inj z)
                rw [this]
                show (if (!false) = true then _ else _)
                rw [if_pos (by decide)]
                exact h ρ' H' (.bl false) ex r' (.bl false)
        · exact h.elim
    | nx => rw [hr] at h; exact h
    | rt => rw [hr] at h; exact h
    | bk => rw [hr] at h; exact h
    | ct => rw [hr] at h; exact h
    | bad => rw [hr] at h; exact h
end
end PI

set_option Elab.async false
set_option linter.all false
set_option maxRecDepth 100000
set_option maxHeartbeats 2000000
/-! PI18: defs that want to know that no guard runs; told as a record. -/
namespace PI
open PySem PySem.Spec PyProof.Rows L2
open LamX (Tabs TabS CodeO ExtN TabB LamS lamEnv lamCx)
structure FnOkG (P : Program) (w : World) (K : PySem.W.Frag) (mg : Str → Option Value) (base : Heap) (CX : CXT) (k : Nat) (f : Addr) (fd : FuncData) (ps : List Str) (sp : Sp) : Prop where
  len : ∀ vs H Q E, sp vs H Q E → vs.length = ps.length
  run : ∀ (A : Around) (outer : List Env) (s : Shared) (H : Hp) (args : Args) (us : List Value) (vs : List V) (Q : VK) (E : XK), A.guards = some [] → Room k A → Env0 P w K mg base A outer s H → BindsTo s fd args (ps.zip us) → Vals vs us → sp vs H Q E →
    codeAny (model P w) A (.call (.ref f) args) (CR CX outer P w H s Q E) s
structure DnG (P : Program) (w : World) (K : PySem.W.Frag) (mg : Str → Option Value) (base : Heap) (T : List (Addr × Str) × (Nat → Addr)) (k : Nat) (x : Str) (n : Nat) (g : List IV → Sto → RE IV) : Prop where
  ex : ∃ (f : Addr) (fd : FuncData) (ps : List Str), ps.length = n ∧ mg x = some (.ref f) ∧ PySem.W.keepIn K (.ref f) = true ∧ L2.Binds K fd ps [] ∧ FnOkG P w K mg base (L2.CX P w) k f fd ps (spI K T n g)
theorem fn_IG {P : Program} {w : World} {K : PySem.W.Frag} {mg : Str → Option Value} {base : Heap} {T : List (Addr × Str) × (Nat → Addr)} {k : Nat} {f : Addr} {name qual : Str} {params : Arguments} {body : List Stmt} {scope : Scope} {dV kV doc pm cdv ct oc : Value} {an od : Option Addr}
    {osl : Array (Option Value)} {N ps : List Str} {r : SemS} (lk : K.lookup f = some ⟨oc, od, .func (PySem.W.fnOf name qual params body scope dV kV doc pm an cdv ct), osl⟩) (hcd : PySem.W.codeIn K cdv qual = true) (S : FnScope N ps scope)
    (hbody : ∀ (A : Around) (outer : List Env) (s : Shared) (H : Hp) (E : XK) (Pr : Par K), A.guards = some [] → Room k (A.deeper (envOfC qual scope s.heap.objs.size f cdv)) → (Pr.T, Pr.cm) = T →
      PSs (cxOf (L2.CX P w) P w K mg base N qual scope f cdv A outer s H E) body (tS Pr (fun c d _ H' => E c d H') r)) :
    FnOkG P w K mg base (L2.CX P w) (k + 1) f (PySem.W.fnOf name qual params body scope dV kV doc pm an cdv ct) ps (spI K T ps.length (callI N.length r)) := by
  refine ⟨fun vs H Q E h => h.1, fun A outer s H args us vs Q E hg hr e0 hb rv h => ?_⟩
  have hl := h.1
  refine LamX.run_ofS lk hcd S hr e0 hb rv hl fun hr' => ?_
  obtain ⟨hl, Pr, ρ, st, xs, hT, rx, t, hp⟩ := h
  refine ⟨_, hbody A outer s H E Pr hg hr' hT, ρ, startI N.length xs, st, rx, relEnv_start t, ?_⟩
  unfold callI at hp
  split at hp
  · rename_i e1 st1 e
    rw [e]
    exact fun ρ' H' σ' x r' re => hp ρ' H' .non x r' .non
  · rename_i v st1 e
    rw [e]
    exact fun ρ' H' y x r' p => hp ρ' H' y x r' p
  · rename_i x e1 st1 e
    rw [e]
    exact fun ρ' H' c d σ' x r' re q => hp ρ' H' c d x r' q
  · exact hp.elim
/-- a def by its printed body, guards known; cd the def's code -/
theorem dn_mkG {P : Program} {w : World} {K : PySem.W.Frag} {mg : Str → Option Value} {base : Heap} {T : List (Addr × Str) × (Nat → Addr)} {k : Nat} {x : Str} {st : Stmt} {N ps : List Str} {r : SemS} {n m : Nat} {c : Addr}
    (hF : ∃ f fd, mg x = some (.ref f) ∧ Fun K x x st f fd ∧ fd.code = .ref c) (S : FnScope N ps (defScope st)) (hn : ps.length = n) (hm : N.length = m)
    (hb : ∀ (kV doc pm : Value) (an : Option Addr) (cdv ct : Value) (us : List Value), us.length = ps.length → bindArgs (PySem.W.fnOf x x (defArgs st) (defBody st) (defScope st) .none kV doc pm an cdv ct) ⟨us, []⟩ = pure (ps.zip us))
    (hbody : ∀ (f : Addr) (A : Around) (outer : List Env) (s : Shared) (H : Hp) (E : XK) (Pr : Par K), A.guards = some [] → Room k (A.deeper (envOfC x (defScope st) s.heap.objs.size f (.ref c))) → (Pr.T, Pr.cm) = T →
      PSs (cxOf (L2.CX P w) P w K mg base N x (defScope st) f (.ref c) A outer s H E) (defBody st) (tS Pr (fun c d _ H' => E c d H') r)) : DnG P w K mg base T (k + 1) x n (callI m r) := by
  obtain ⟨f, fd, h1, F, hc⟩ := hF
  have hbi := F.binds hb
  have kp := F.kp
  obtain ⟨oc, od, kV, doc, pm, an, cdv, ct, osl, rfl, lk, hcd⟩ := F.ex
  obtain rfl : cdv = .ref c := hc
  subst hn hm
  exact ⟨f, _, ps, rfl, h1, kp, hbi, fn_IG lk hcd S fun A outer s H E Pr hg hr hT => hbody f A outer s H E Pr hg hr hT⟩
section
variable {X : Cx} {P : Par X.K} {W : WX} {a e : Expr} {es : List Expr} {ra : SemE} {rs : SemA} {pos p p2 : Pos} {x fld : Str}
/-- x(), x such a def -/
theorem se_dnG0 {g : List IV → Sto → RE IV} {k : Nat} (D : DnG X.prog X.w X.K X.mg X.base (P.T, P.cm) k x 0 g) (tk : Takes X W) (hgd : X.A.guards = some []) (hr : Room k X.A) (hg : Gl X x)
    (hdb : (x == ("__debug__" : Str)) = false := by decide) : SE X P W (.Call (.Name x p) [] [] pos) (fun _ st => g [] st) := by
  obtain ⟨f, fd, ps, hps, h1, h2, hb, F⟩ := D.ex
  refine ⟨fun pins s σ H Q I ⟨ρ, env, st, r, re, h⟩ => ?_⟩
  refine wpAny_Call_Name_kw (ld_glob I hg h1 ?_ hdb)
  refine PySem.W.callWith_K0 I.kIn h2 ?_
  have b := hb s [] I.kIn (by simp [hps])
  refine wpAny_call (codeAny_mono (F.run X.A X.stack s H ⟨[], []⟩ [] [] Q (WE W σ) hgd hr I.env0 b .nil ⟨rfl, P, ρ, st, [], rfl, r, .nil, h.wx fun c d H' w => w⟩) fun r s' hq => ?_)
  cases r with
  | error e => exact passAt tk σ pins H s e s' I hq
  | ok fl =>
    cases fl with
    | ret u => exact I.after hq
    | next => exact False.elim hq
    | brk => exact False.elim hq
    | cont => exact False.elim hq
end
/-- told(lambda, due), what the row says of it -/
structure Tn (P : Program) (K : PySem.W.Frag) (mg : Str → Option Value) (cm : Nat → Addr) (lb : Nat) (x cn fld : Str) (st : Stmt) (a due e : Str) : Prop where
  F : ∃ g fd, mg x = some (.ref g) ∧ Fun K x x st g fd
  C : ∃ C, cm lb = C ∧ mg cn = some (.ref C) ∧ XfC K C ∧ PySem.W.findIn K (.ref C) fld = some none ∧ PySem.W.exmOne K (.ref C) (.ref C) = some true
  mR : mg ("repr" : Str) = none
/-- the tables of the lambdas of the def whose code is at c -/
structure Tb (base : Heap) (mg : Str → Option Value) (T : List (Addr × Str)) (c : Addr) (q : Str) : Prop where
  ex : ∃ PP, TabB base mg c PP ∧ (PP, q) ∈ T ∧ ∀ p ∈ T, p.1 = PP → p.2 = q
end PI

set_option Elab.async false
set_option linter.all false
set_option maxRecDepth 100000
set_option maxHeartbeats 2000000
/-! PI19: told(lambda: .., due) by records. -/
namespace PI
open PySem PySem.Spec PyProof.Rows L2
open LamX (Tabs TabS CodeO ExtN TabB LamS lamEnv lamCx)
structure ToldT (st : Stmt) (a due e cn fld : Str) : Prop where
  ex : ∃ (p1 p2 p3 p4 p5 p6 p7 p8 p9 q1 q2 q3 q4 q5 q6 r1 r2 : Pos) (j : Nat), defBody st = [.Try [.Expr (.Call (.Name a p1) [] [] p2) p3, .Return (some (.Constant (.bool false) j p4)) p5]
        [.ExceptHandler (some (.Name cn p6)) (some e) [.Return (some (.Compare (.Call (.Name "repr" q1) [.Attribute (.Name e q2) fld q3] [] q4) [.Eq] [.Call (.Name "repr" q5) [.Name due q6] [] p7] p8)) p9] r1] [] [] r2] ∧
      (∀ env, swapsWith (.Call (.Name a p1) [] [] p2) none p3.line env = pure false) ∧ (∀ env, attributeBase (.Name e q2) fld env (eval (.Name e q2) env) = eval (.Name e q2) env)
  Sg : FnScope [a, due, e] [a, due] (defScope st)
  l0 : (defScope st).names.lookup a = some .local
  l1 : (defScope st).names.lookup due = some .local
  l2 : (defScope st).names.lookup e = some .local
  gC : (defScope st).names.lookup cn = some .globalImplicit
  gR : (defScope st).names.lookup ("repr" : Str) = some .globalImplicit
  nm : (cn == ("__debug__" : Str)) = false ∧ (a == ("__debug__" : Str)) = false ∧ (a == ("__classdict__" : Str)) = false ∧ (due == ("__debug__" : Str)) = false ∧ (due == ("__classdict__" : Str)) = false ∧ (e == ("__debug__" : Str)) = false ∧ (e == ("__classdict__" : Str)) = false
section
variable {X : Cx} {P : Par X.K} {W : WX}
theorem se_told {x a due e cn fld : Str} {c : Addr} {lb k : Nat} {st : Stmt} {params : Arguments} {body de : Expr} {scope : Scope} {rb rd : SemE} {p lpos pos : Pos} (D : Tn X.prog X.K X.mg P.cm lb x cn fld st a due e) (TT : ToldT st a due e cn fld) (TB : Tb X.base X.mg P.T c (X.env.qual ++ "<lambda>"))
    (hbi : ∀ (kV doc pm : Value) (an : Option Addr) (cdv ct : Value) (us : List Value), us.length = [a, due].length → bindArgs (PySem.W.fnOf x x (defArgs st) (defBody st) (defScope st) .none kV doc pm an cdv ct) ⟨us, []⟩ = pure ([a, due].zip us))
    (hcode : X.env.code = .ref c) (hs0 : X.stack = X.env :: X.outer) (hgd : X.A.guards = some []) (hr : Room (k + 2) X.A) (hg : Gl X x) (L : LamS X.env.scope scope) (hdef : defaultsOf params X.env = ([], []))
    (hbind : ∀ (q : Str) (cl : List (Str × Addr)) (pm cv ctv : Value), bindArgs (PySem.W.kla_fn "<lambda>" q params body scope cl pm cv ctv) ⟨[], []⟩ = pure [])
    (hbody : ∀ (A : Around) (outer : List Env) (s : Shared) (H : Hp) (E : XK) (f c' : Addr), Room k (A.deeper (lamEnv X scope s.heap.objs.size f c')) → PE (lamCx X A outer s H E scope f c') body (tE P (fun c d _ H' => E c d H') rb))
    (hd : SE X P W de rd)
    (hdb : (x == ("__debug__" : Str)) = false := by decide) (hst2 : starEach [de] X.env = (false, eval de X.env) :: starEach [] X.env := by rfl) (hst : starEach [.Lambda params body scope lpos, de] X.env = (false, eval (.Lambda params body scope lpos) X.env) :: starEach [de] X.env := by rfl) (hpl : (backTo pos (starEach [de] X.env)).any (·.1) = false := by rfl) :
    SE X P W (.Call (.Name x p) [.Lambda params body scope lpos, de] [] pos) (rRefuses lb fld rb rd) := by
  obtain ⟨g, fd, hm, F⟩ := D.F
  obtain ⟨C, hcm, hmC, xf, hno, hex⟩ := D.C
  have hb := F.binds hbi
  have kp := F.kp
  obtain ⟨oc, od, kV, doc, pm, an, cdv, ct, osl, rfl, lk, hcg⟩ := F.ex
  obtain ⟨p1, p2, p3, p4, p5, p6, p7, p8, p9, q1, q2, q3, q4, q5, q6, r1, r2, j, hbo, hsw, hat⟩ := TT.ex
  obtain ⟨PP, tb, hT, hu⟩ := TB.ex
  obtain ⟨n1, n2, n3, n4, n5, n6, n7⟩ := TT.nm
  exact se_refuses hbo hcm hs0 hgd (by have := hr.un; omega) hg hm kp lk hcg hb TT.Sg ⟨rfl, rfl, rfl, TT.Sg.nd, TT.l0, TT.l1, TT.l2, TT.gC, TT.gR, hmC, D.mR, xf, hno, hex, n1, n2, n3, n4, n5, n6, n7⟩ rfl tb hcode hT hu hr L hdef hbind hbody (sa_cons hd sa_nil hst2) hsw hat hdb hst hpl
end
end PI

set_option Elab.async false
set_option linter.all false
set_option maxRecDepth 100000
set_option maxHeartbeats 2000000
/-! PI20: caught classes as records. -/
namespace PI
open PySem PySem.Spec PyProof.Rows L2
structure Xc (K : PySem.W.Frag) (mg : Str → Option Value) (cm : Nat → Addr) (lb : Nat) (x fld : Str) : Prop where
  ex : ∃ C, cm lb = C ∧ mg x = some (.ref C) ∧ XfC K C ∧ PySem.W.findIn K (.ref C) fld = some none ∧ PySem.W.exmOne K (.ref C) (.ref C) = some true
section
variable {X : Cx} {P : Par X.K} {W : WX} {body : List Stmt} {rb : SemS} {cn e fld : Str} {lb ie j1 j2 : Nat} {k : Int} {p0 p1 p2 p3 p4 p5 p6 p7 p8 p9 : Pos}
theorem ss_tryX (D : Xc X.K X.mg P.cm lb cn fld) (hs : X.stack = X.env :: X.outer) (hf : X.env.frame = some X.env.locals) (hN : X.N.Nodup) (hi : X.N[ie]? = some e) (hln : X.env.kindOf e = some .local) (hg : Gl X cn)
    (hb : ∀ (W : WX) (pn : List (Addr × Obj)) (xe : Value → Shared → Prop), Takes (X.tr pn xe) W → PassesOwn (model X.prog X.w) X.A X.env xe → PSs (X.tr pn xe) body (tS P W rb))
    (hat : ∀ env, attributeBase (.Name e p3) fld env (eval (.Name e p3) env) = eval (.Name e p3) env) (hdc : (cn == ("__debug__" : Str)) = false := by decide) (hd : (e == ("__debug__" : Str)) = false := by decide) (hcd : (e == ("__classdict__" : Str)) = false := by decide) :
    SS X P W (.Try body [.ExceptHandler (some (.Name cn p0)) (some e) [.If (.Compare (.Attribute (.Name e p3) fld p4) [.NotEq] [.Constant (.int k) j1 p5] p6) [.Return (some (.Constant (.bool false) j2 p7)) p8] [] p9] p1] [] [] p2) (sTryNe lb fld k ie rb) := by
  obtain ⟨C, h1, h2, h3, h4, h5⟩ := D.ex
  exact ss_tryNe h1 hs hf hN hi hln ⟨hg, hdc, .inl h2⟩ h3 h4 h5 hd hcd hb hat
end
end PI

set_option Elab.async false
set_option linter.all false
set_option maxRecDepth 100000
set_option maxHeartbeats 4000000
/-! PI21: tuple * int for every int; name op= int; range with a step. -/
namespace PI
open PySem PySem.Spec PyProof.Rows L2
/-! ### tuple * int: one time, no time -/
theorem tmul_same (l : Addr) (items : Array Value) (n : Nat) (dd : Option Addr) (sl : Array (Option Value)) (x : Int) (u : Tok) (h0 : (decide (x < -(2 ^ 63)) || decide (x ≥ 2 ^ 63)) = false) (h1 : (items.isEmpty || x == 1) = true) :
    Meets (Builtin.«tuple.__mul__» ⟨[.ref l, .int x u], []⟩) (fun _ R s => s.heap.get? l = some { cls := .type "tuple", dict := dd, data := .seq items n, slots := sl } ∧ R (.ok (.ret (Value.ref l))) s) :=
  .of_wp fun prog w A R s h => by
    obtain ⟨hp, g, d, tk, os⟩ := s
    obtain ⟨hl, h⟩ := h
    have f1 := AutoSeq1.idx_int
    wp_walk using wpAny_loadPart' hl
    repeat (first
      | (refine wpAny_ite_false (decide_eq_false (by rw [h0]; exact Bool.false_ne_true)) ?_; wp_walk using wpAny_loadPart' hl)
      | (refine wpAny_ite_true (decide_eq_true (by rw [h1])) ?_; wp_walk using wpAny_loadPart' hl))
    exact ⟨_, rfl, h⟩
theorem tmul_none (l : Addr) (items : Array Value) (n : Nat) (dd : Option Addr) (sl : Array (Option Value)) (x : Int) (u : Tok) (h0 : (decide (x < -(2 ^ 63)) || decide (x ≥ 2 ^ 63)) = false) (h1 : (items.isEmpty || x == 1) = false) (h2 : (decide (x ≤ 0) || items.isEmpty) = true) :
    Meets (Builtin.«tuple.__mul__» ⟨[.ref l, .int x u], []⟩) (fun _ R s => s.heap.get? l = some { cls := .type "tuple", dict := dd, data := .seq items n, slots := sl } ∧ R (.ok (.ret (Value.ref s.heap.objs.size))) { s with heap := s.heap.push { cls := Value.type "tuple", data := Data.seq #[] }, toks := s.toks }) :=
  .of_wp fun prog w A R s h => by
    obtain ⟨hp, g, d, tk, os⟩ := s
    obtain ⟨hl, h⟩ := h
    have f1 := AutoSeq1.idx_int
    wp_walk using wpAny_loadPart' hl
    repeat (first
      | (refine wpAny_ite_false (decide_eq_false (by rw [h0]; exact Bool.false_ne_true)) ?_; wp_walk using wpAny_loadPart' hl)
      | (refine wpAny_ite_false (decide_eq_false (by rw [h1]; exact Bool.false_ne_true)) ?_; wp_walk using wpAny_loadPart' hl)
      | (refine wpAny_ite_true (decide_eq_true (by rw [h2])) ?_; wp_walk using wpAny_loadPart' hl))
    exact ⟨_, rfl, h⟩
section
variable {X : Cx}
theorem flat_rep_nil (k : Nat) : (List.replicate k ([] : List IV)).flatten = [] := by
  induction k with
  | zero => rfl
  | succ k ih => rw [List.replicate_succ, List.flatten_cons, ih]; rfl
def mulT : IV → IV → Sto → RO
  | .tup xs, .int k, st => bif decide (-1000000 < k) && decide (k ≤ 1000) && Nat.ble xs.length 1000 then some (.tup (List.replicate k.toNat xs).flatten, st) else none
  | a, b, st => mulI a b st
theorem op_mulT : OpR X (binaryOp .Mult) (rB X.K mulT) := by
  rintro pins s σ H x y v u Q I rx ry ⟨ρ, st, va, vb, r, pa, pb, h⟩
  by_cases hv : ∃ xs, va = .tup xs
  case neg =>
    have e : mulT va vb st = mulI va vb st := by
      cases va with
      | tup xs => exact absurd ⟨xs, rfl⟩ hv
      | _ => rfl
    rw [e] at h
    exact op_mulI pins s σ H x y v u Q I rx ry ⟨ρ, st, va, vb, r, pa, pb, h⟩
  obtain ⟨xs, rfl⟩ := hv
  cases pa with
  | tup ha ta =>
    rename_i vs l
    cases pb with
    | int k =>
      obtain ⟨e, h⟩ := bif_some (P := PostO X.K ρ H Q) h post_none
      simp only [Bool.and_eq_true, decide_eq_true_eq] at e
      obtain ⟨⟨e1, e2⟩, e3⟩ := e
      have e3' := Nat.le_of_ble_eq_true e3
      have hl := ta.length
      by_cases big : vs ≠ [] ∧ 2 ≤ k
      · exact op_repT pins s σ H _ _ v u Q I rx ry ⟨_, k, _, rfl, rfl, ha, big.1, big.2, e2, by rw [← hl]; exact e3', h.newTup r (ta.flatten _)⟩
      cases rx
      obtain ⟨t, rfl⟩ := ry
      obtain ⟨its, rv, ⟨⟨cls, dd, data, sl⟩, ho, hc, n, hd⟩, hs⟩ := I.tuple ha
      simp only at hc hd
      subst hc hd
      have hle : its.length = vs.length := rv.length.symm
      have c0 : (decide (k < -(2 ^ 63)) || decide (k ≥ 2 ^ 63)) = false := by
        rw [decide_eq_false (by omega), decide_eq_false (by omega)] <;> rfl
      by_cases same : vs = [] ∨ k = 1
      · have c1 : (its.toArray.isEmpty || k == 1) = true := by
          rcases same with z | z
          · subst z
            have : its = [] := List.eq_nil_of_length_eq_zero (by rw [hle]; rfl)
            subst this
            rfl
          · subst z
            simp
        refine wpAny_binaryOp_repeat_ref (T := "tuple") (U := "int") (by decide) ⟨_, ho, rfl⟩ (fun s' => typeIs_int s' k t) noFill_tuple_mul F.fills_int_mul F.slot_int_rmul repeat_tuple F.slot_int_index.lookup
          (call_meets F.slot_int_rmul (typeIs_int s k t) F.entry_int_rmul (F.args_int_rmul_2 _ _) (int_rmul_tuple k t l its.toArray n dd sl)
            ⟨ho, rfl, ⟨_, ho, rfl⟩, call_meets F.slot_tuple_mul ⟨_, ho, rfl⟩ F.entry_tuple_mul (F.args_tuple_mul_2 _ _) (tmul_same l its.toArray n dd sl k t c0 c1) ⟨ho, ?_⟩⟩)
        refine ⟨.ref l, H, I, rfl, ?_⟩
        have eq : (List.replicate k.toNat xs).flatten = xs := by
          rcases same with z | z
          · subst z
            cases ta
            exact flat_rep_nil _
          · subst z
            show (List.replicate 1 xs).flatten = xs
            simp
        rw [eq] at h
        exact h.here r (.tup ha ta)
      · have hne : vs ≠ [] := fun z => same (.inl z)
        have hk1 : k ≠ 1 := fun z => same (.inr z)
        have hk0 : k ≤ 0 := by
          have : ¬ 2 ≤ k := fun z => big ⟨hne, z⟩
          omega
        have hi : its.toArray.isEmpty = false := by
          cases its with
          | nil => exact absurd (List.eq_nil_of_length_eq_zero (by rw [← hle]; rfl)) hne
          | cons a b => rfl
        have c1 : (its.toArray.isEmpty || k == 1) = false := by
          rw [hi, Bool.false_or]
          exact beq_eq_false_iff_ne.mpr hk1
        have c2 : (decide (k ≤ 0) || its.toArray.isEmpty) = true := by
          rw [decide_eq_true hk0] <;> rfl
        refine wpAny_binaryOp_repeat_ref (T := "tuple") (U := "int") (by decide) ⟨_, ho, rfl⟩ (fun s' => typeIs_int s' k t) noFill_tuple_mul F.fills_int_mul F.slot_int_rmul repeat_tuple F.slot_int_index.lookup
          (call_meets F.slot_int_rmul (typeIs_int s k t) F.entry_int_rmul (F.args_int_rmul_2 _ _) (int_rmul_tuple k t l its.toArray n dd sl)
            ⟨ho, rfl, ⟨_, ho, rfl⟩, call_meets F.slot_tuple_mul ⟨_, ho, rfl⟩ F.entry_tuple_mul (F.args_tuple_mul_2 _ _) (tmul_none l its.toArray n dd sl k t c0 c1 c2) ⟨ho, ?_⟩⟩)
        have hz : k.toNat = 0 := by omega
        rw [hz] at h
        have hfr := I.hok.fresh (Nat.le_refl s.heap.objs.size)
        refine ⟨.ref s.heap.objs.size, _, I.laid (t' := s.toks) (o := .tup []) (fun b ob q => Heap.get?_push_of_some _ q) (Nat.le_refl _) ?_, rfl, h.newTup r .nil _ hfr⟩
        exact ⟨Nat.zero_le _, [], .nil, IsTup.new _ _⟩
    | _ => exact (post_none h).elim
/-! ### name op= int -/
def augI (g : Int → Int → Int) : IV → IV → Sto → RO
  | .int i, .int j, st => some (.int (g i j), st)
  | _, _, _ => none
variable {P : Par X.K} {W : WX} {a b c e : Expr} {ra : SemE} {rs : SemA} {pos p : Pos} {x : Str} {tg : Expr}
theorem ss_aug {i : Nat} {op : Operator} {g : Int → Int → Int} {pos' : Pos} (hN : X.N.Nodup) (hi : X.N[i]? = some x) (hx : Loc X.env.scope x) (he : SE X P W e ra) (ho : PIp X op (ipI g)) (hf : X.fn x = true ∨ X.env.scope.names.lookup x = some .local := by first | exact .inl rfl | exact .inr rfl | assumption) :
    SS X P W (.AugAssign (.Name x pos') op e pos) (sAug i (augI g) ra) :=
  (ps_aug hN hi hx he ho hf).of fun D σ H ⟨ρ, env, st, r, re, h⟩ => by
    unfold sAug at h
    split at h
    · rename_i v ev
      obtain ⟨y, e1, p1⟩ := re.get _ _ ev
      refine ⟨y, e1, ρ, env, st, r, re, (PostS.ofE r.r re h).mono fun z H1 ⟨ρ1, st1, w, e2, r1, re1, p2, h1⟩ => ?_⟩
      have p1' := p1.monoX r.r e2
      cases p1' with
      | int m =>
        cases p2 with
        | int n =>
          have h1' : PostS P W ρ1 H1 D (.nx (env.set i (some (.int (g m n)))) st1) := h1
          exact ⟨m, n, rfl, rfl, h1'.hereN r1 (re1.set (.int _) i)⟩
        | _ => exact h1.elim
      | _ => cases p2 <;> exact h1.elim
    · exact h.elim
/-! ### range with a step -/
def intsS (lo c : Int) : Nat → List IV
  | 0 => []
  | n + 1 => .int lo :: intsS (lo + c) c n
def rg3Ok (i j c : Int) : Bool := decide (c ≠ 0) && (Nat.blt c.natAbs 1073741824 && (Builtin.Range.small i j c && decide (0 ≤ Builtin.Range.rangeSize i j c)))
def fRng3 (a : SemA) : IEnv → Sto → RE FI := fun env st => (a env st).bind fun v st1 => match v with
  | [.int i, .int j, .int c] => bif rg3Ok i j c then .ok (.items (intsS i c (Builtin.Range.rangeSize i j c).toNat)) st1 else .bad
  | _ => .bad
theorem gives_intS {K : PySem.W.Frag} (c : Int) (n : Nat) (lo : Int) : Gives K (intsS lo c n) (Itc lo c n) fun _ _ => True := by
  have hl : ∀ (n : Nat) (lo : Int), (intsS lo c n).length = n := fun n => by
    induction n with
    | zero => exact fun _ => rfl
    | succ n ih => exact fun lo => by show (intsS (lo + c) c n).length + 1 = n + 1; rw [ih]
  have hg : ∀ (n : Nat) (lo : Int) (i : Nat) (x : IV), (intsS lo c n)[i]? = some x → i < n ∧ x = .int (lo + i * c) := fun n => by
    induction n with
    | zero => intro lo i x h; simp [intsS] at h
    | succ n ih =>
      intro lo i x h
      cases i with
      | zero =>
        have h' : some (IV.int lo) = some x := h
        cases h'
        exact ⟨by omega, by congr 1; simp⟩
      | succ i =>
        obtain ⟨h1, h2⟩ := ih (lo + c) i x h
        refine ⟨by omega, ?_⟩
        rw [h2]
        congr 1
        have : ((i + 1 : Nat) : Int) * c = c + (i : Int) * c := by
          rw [show ((i + 1 : Nat) : Int) = (i : Int) + 1 by omega, Int.add_mul, Int.one_mul, Int.add_comm]
        rw [this, Int.add_assoc]
  refine ⟨fun _ _ _ => trivial, fun {ρ H} _ => ?_, fun {ρ H i x} _ e => ?_⟩
  · show n ≤ _
    rw [hl]
    exact Nat.le_refl _
  · obtain ⟨h1, h2⟩ := hg n lo i x e
    refine ⟨h1, fun y H' h st r => ?_⟩
    obtain ⟨e1, e2⟩ := h
    subst e1 e2
    rw [h2]
    exact ⟨Ext.refl _ _, r, .int _⟩
theorem RepVs.three {K : PySem.W.Frag} {H : Hp} {ρ : List Addr} {x y z : IV} {vs : List V} (h : RepVs K H ρ [x, y, z] vs) : ∃ v w u, vs = [v, w, u] ∧ RepV K H ρ x v ∧ RepV K H ρ y w ∧ RepV K H ρ z u := by
  cases h with
  | cons h t => obtain ⟨w, u, rfl, h2, h3⟩ := t.two; exact ⟨_, _, _, rfl, h, h2, h3⟩
theorem pi_rng3 (hg : Gl X "range") (hm : X.mg "range" = none) (ha : SA X P W [a, b, c] rs) (hs : starEach [a, b, c] X.env = (false, eval a X.env) :: starEach [b, c] X.env := by rfl) (hpl : (backTo pos (starEach [b, c] X.env)).any (·.1) = false := by rfl) :
    SI X P W tg (.Call (.Name "range" p) [a, b, c] [] pos) (fRng3 rs) :=
  (pi_range3 hg hm ha hs hpl).of fun σ H R ⟨ρ, env, st, r, re, h⟩ => by
    refine ⟨ρ, env, st, r, re, h.bind.mono fun x H1 ⟨ρ1, st1, v, e1, r1, p1, h1⟩ => ?_⟩
    split at h1
    · rename_i i j k
      obtain ⟨v', w', u', rfl, q, q', q''⟩ := RepVs.three p1
      cases q
      cases q'
      cases q''
      obtain ⟨e, h1⟩ := bif_bad h1
      unfold rg3Ok at e
      simp only [Bool.and_eq_true, decide_eq_true_eq] at e
      obtain ⟨e2, e3, e4, e5⟩ := e
      exact ⟨i, j, k, _, rfl, ⟨e2, by simp [Nat.blt] at e3; omega, e4, (Int.toNat_of_nonneg e5).symm⟩, h1.here r1 ⟨_, gives_intS k _ i, trivial⟩⟩
    · exact h1.elim
end
end PI

set_option Elab.async false
set_option linter.all false
set_option maxRecDepth 100000
set_option maxHeartbeats 4000000
/-! PI22: enumerate and zip over lists and tuples. -/
namespace PI
open PySem PySem.Spec PyProof.Rows L2
/-! ### a walk that hands out new tuples, by the library's own walks -/
def JN {C : Type} (n : Nat) (Has : Hp → C → Prop) (row : C → Nat → Option (List V)) : It :=
  ⟨fun i H => i < n ∧ ∃ c, Has H c, fun i H x H' => ∃ T zs, x = .ref T ∧ H T = none ∧ H' = upd H T (.tup zs) ∧ ∀ c, Has H c → row c i = some zs, fun i H => n ≤ i ∧ ∃ c, Has H c⟩
theorem turn_N {P : Program} {w : World} {K : PySem.W.Frag} {elts : List Expr} {kk : Nat} {tpos : Pos} {C U : Type} {I : Addr} {wr fp : List Addr} {n : Nat} {Has : Hp → C → Prop} {row : C → Nat → Option (List V)}
    {fpA : U → List Addr} {Y : U → Nat → Heap → Value → Heap → Prop} {Sn : U → Nat → Heap → Prop} {core : Nat → Heap → Prop} {good : C → U → Prop} {Ro : U → Heap → Prop}
    (W : ∀ c π, good c π → ∀ A : Around, A.handled = none → GoesN P w A (.Tuple elts kk tpos) I (fpA π) wr n (Y π) (Sn π))
    (hI : I ∈ fp) (hwr : ∀ b ∈ wr, b ∈ fp) (hobj : ∀ i h, core i h → ∀ b ∈ fp, ∃ o, h.get? b = some o ∧ ∀ v, o.data ≠ .cell v) (hkeep : ∀ i h h', core i h → (∀ b ∈ fp, ∀ o, h.get? b = some o → h'.get? b = some o) → core i h')
    (hin : ∀ π i h, core i h → Ro π h → Sn π i h) (hout : ∀ π i h, Sn π i h → core i h)
    (hself : ∀ (A : Around) (i : Nat) (s : Shared) (Q : Value → Shared → Prop) (E : Value → Shared → Prop), core i s.heap → Q (.ref I) s → wpAny (model P w) A (pyIter (.ref I)) Q E s)
    (hro : ∀ (X : Cx) (pins : List (Addr × Obj)) (σ : L2.St) (H : Hp) (s : Shared) (c : C), X.prog = P → X.w = w → X.K = K → Inv X pins σ H s → Has H c → ∃ π, good c π ∧ Ro π s.heap)
    (hinj : ∀ (X : Cx) (pins : List (Addr × Obj)) (σ : L2.St) (H : Hp) (s : Shared) (c c' : C), X.prog = P → X.w = w → X.K = K → Inv X pins σ H s → Has H c → Has H c' → c' = c)
    (hY : ∀ c π i h0 v h', good c π → i < n → Y π i h0 v h' → ∃ T us zs, v = .ref T ∧ h0.objs.size ≤ T ∧ h'.IsTuple T us.toArray ∧ Vals zs us ∧ zs.length ≤ 1000 ∧ row c i = some zs) :
    Turn P w K (.Tuple elts kk tpos) (JN n Has row) fp I (fun i h => i ≤ n ∧ core i h) where
  mem := hI
  obj := fun i h st => hobj i h st.2
  keep := fun i h h' st k => ⟨st.1, hkeep i h h' st.2 k⟩
  item := by
    intro X hP hw hK hc i pins s σ H E I0 hf st hg
    obtain ⟨hle, cr⟩ := st
    obtain ⟨hlt, c, hs⟩ := hg
    obtain ⟨π, g, ro⟩ := hro X pins σ H s c hP hw hK I0 hs
    subst hP hw hK
    refine (W c π g X.A (I0.ok.hd hc)).goes i s _ _ hlt (hin π i _ cr ro) fun v h' tk y st' hk htk => ?_
    obtain ⟨T, us, zs, rfl, hT, isT, rv, hz, er⟩ := hY c π i s.heap v h' g hlt y
    have new : ObjOk X.prog X.w (upd H T (.tup zs)) h' T (.tup zs) := ⟨Nat.le_of_lt (small1000 hz), us, rv, isT⟩
    have I1 : Inv X pins σ (upd H T (.tup zs)) { s with heap := h', toks := tk } := I0.turnedNew (ch := fp) (fun b o hb q => hk b o (fun z => hb (hwr b z)) q) hf hT new
    refine ⟨.ref T, _, I1, rfl, ⟨T, zs, rfl, I0.hok.fresh hT, rfl, fun c' hc' => ?_⟩, ⟨hlt, hout π _ _ st'⟩, fun b hb => ?_⟩
    · rw [hinj X pins σ H s c c' rfl rfl rfl I0 hs hc']
      exact er
    · obtain ⟨o, ho, _⟩ := hobj i _ cr b hb
      rw [upd_ne (Nat.ne_of_lt (Nat.lt_of_lt_of_le (Heap.lt_size ho) hT))]
      exact (hf b hb).1
  done := by
    intro X hP hw hK hc i pins s σ H E I0 hf st hg
    obtain ⟨hle, cr⟩ := st
    obtain ⟨hge, c, hs⟩ := hg
    obtain ⟨π, g, ro⟩ := hro X pins σ H s c hP hw hK I0 hs
    subst hP hw hK
    have : i = n := by omega
    subst this
    refine (W c π g X.A (I0.ok.hd hc)).stops s _ _ (hin π i _ cr ro) fun h' tk hk htk => ?_
    have hk' : ∀ b o, b ∉ fp → s.heap.get? b = some o → h'.get? b = some o := fun b o hb q => hk b o (fun z => hb (hwr b z)) q
    have nit : ∀ b u, H b = some u → b ∉ fp := fun b u e z => by
      rw [(hf b z).1] at e
      cases e
    refine I0.step (g' := s.gens) (d' := s.drawn) (ch := fp) (fun b hb => ⟨(hf b hb).2.2.2.1, (hf b hb).2.1, (hf b hb).2.2.2.2.1, (hf b hb).2.2.2.2.2⟩) (fun b o _ _ n q _ => hk' b o n q) (fun b o _ _ n q _ => ⟨o.slots, hk' b o n q⟩) (fun _ _ _ _ q => q) (fun b o n q => ⟨o, hk' b o n q⟩)
      (fun _ _ q => q) (fun _ _ _ q => q) (fun b ps q => ⟨#[], by rw [q]; simp⟩) (fun m hm => ?_) (fun b u q => ?_) I0.bare
    · obtain ⟨o, es, ep, ho, rest⟩ := hm
      exact ⟨o, es, ep, hk' _ o (fun z => (hf _ z).2.1 rfl) ho, rest⟩
    · refine (I0.hok b u q).stay (fun c v hc z => hk' c v ?_ z) (fun _ z => z) fun _ _ z => z
      rcases hc with z | z
      · rw [z]
        exact nit b u q
      · exact nit c _ z
  self := fun A i s Q E st h => hself A i s Q E st.2 h
/-! ### lists and tuples as sources -/
def IsSeq (k : Bool) (h : Heap) (a : Addr) (items : Array Value) : Prop := match k with
  | true => h.IsList a items
  | false => h.IsTuple a items
def IsIt (k : Bool) (h : Heap) (it a : Addr) (i : Nat) : Prop := match k with
  | true => h.IsListIter it a i
  | false => h.IsTupleIter it a i
def itObj (k : Bool) (a : Addr) : Obj := match k with
  | true => { cls := .type "list_iterator", data := .fields #[.ref a, .int 0 0] }
  | false => { cls := .type "tuple_iterator", data := .fields #[.ref a, .int 0 0] }
def HasK (K : PySem.W.Frag) (k : Bool) (a : Addr) (H : Hp) (vs : List V) : Prop := match k with
  | true => SqL K H a vs
  | false => SqT K H a vs
section
variable {P : Program} {w : World} {k : Bool} {a it : Addr}
theorem drawsK {A : Around} (hh : A.handled = none) (hne : a ≠ it) (items : Array Value) : Draws P w A it [it, a] items.size (fun i v => items[i]? = some v) (fun i h => IsIt k h it a i ∧ IsSeq k h a items) := by
  cases k with
  | true => exact Draws.list hh it a hne items
  | false => exact Draws.tuple hh it a hne items
theorem beginsK (items : Array Value) : Begins (.ref a) (itObj k a) fun h => IsSeq k h a items := by
  cases k with
  | true => exact begins_list a items
  | false => exact begins_tuple a items
theorem isIt_new {h : Heap} (e : h.get? it = some (itObj k a)) : IsIt k h it a 0 := by
  cases k with
  | true => exact ⟨_, e, rfl, rfl⟩
  | false => exact ⟨_, e, rfl, rfl⟩
theorem isIt_obj {h : Heap} {i : Nat} (e : IsIt k h it a i) : ∃ o, h.get? it = some o ∧ ∀ v, o.data ≠ .cell v := by
  cases k with
  | true =>
    obtain ⟨o, ho, _, hd⟩ := e
    exact ⟨o, ho, fun v z => by rw [hd] at z; cases z⟩
  | false =>
    obtain ⟨o, ho, _, hd⟩ := e
    exact ⟨o, ho, fun v z => by rw [hd] at z; cases z⟩
theorem isIt_keep {h h' : Heap} {i : Nat} (e : IsIt k h it a i) (hk : ∀ o, h.get? it = some o → h'.get? it = some o) : IsIt k h' it a i := by
  cases k with
  | true => exact e.at hk
  | false => exact e.at hk
theorem hasK_now {X : Cx} {pins : List (Addr × Obj)} {σ : L2.St} {H : Hp} {s : Shared} {vs : List V} (I : Inv X pins σ H s) (h : HasK X.K k a H vs) : ∃ its : List Value, Vals vs its ∧ IsSeq k s.heap a its.toArray := by
  cases k with
  | true =>
    obtain ⟨its, rv, p, _⟩ := I.list h
    exact ⟨its, rv, p.isList⟩
  | false =>
    obtain ⟨its, rv, p, _⟩ := I.tuple h
    exact ⟨its, rv, p⟩
theorem hasK_inj {X : Cx} {pins : List (Addr × Obj)} {σ : L2.St} {H : Hp} {s : Shared} {vs vs' : List V} (I : Inv X pins σ H s) (h : HasK X.K k a H vs) (h' : HasK X.K k a H vs') : vs' = vs := by
  cases k with
  | true => exact I.list_inj h' h
  | false => exact I.tuple_inj h' h
end
/-- the source x stands at a: a tuple for good, a list by its number -/
def SrcAt (K : PySem.W.Frag) (k : Bool) (a : Addr) (x : IV) (ρ : List Addr) (H : Hp) : Prop := match x with
  | .tup xs => k = false ∧ ∃ vs, SqT K H a vs ∧ RepVs K H ρ xs vs
  | .ref n => k = true ∧ ρ[n]? = some a
  | _ => False
theorem SrcAt.mono {K : PySem.W.Frag} {k : Bool} {a : Addr} {x : IV} {ρ ρ' : List Addr} {H H' : Hp} {st : Sto} (r : Rel K H ρ st) (e : ExtX ρ H ρ' H') (h : SrcAt K k a x ρ H) : SrcAt K k a x ρ' H' := by
  cases x with
  | tup xs =>
    obtain ⟨h1, vs, h2, h3⟩ := h
    exact ⟨h1, vs, sqT_X r e h2, h3.monoX r e⟩
  | ref n => exact ⟨h.1, pre_get e.pre h.2⟩
  | _ => exact h
theorem SrcAt.now {K : PySem.W.Frag} {k : Bool} {a : Addr} {x : IV} {ρ : List Addr} {H : Hp} {st : Sto} {xs : List IV} (r : Rel K H ρ st) (h : SrcAt K k a x ρ H) (e : seqOf st x = some xs) : ∃ vs, HasK K k a H vs ∧ RepVs K H ρ xs vs := by
  cases x with
  | tup ys =>
    obtain ⟨rfl, vs, h2, h3⟩ := h
    cases e
    exact ⟨vs, h2, h3⟩
  | ref n =>
    obtain ⟨rfl, h2⟩ := h
    obtain ⟨vs, q, t⟩ := lstAt_sq r e h2
    exact ⟨vs, q, t⟩
  | _ => exact h.elim
theorem SrcAt.of {K : PySem.W.Frag} {x : IV} {ρ : List Addr} {H : Hp} {st : Sto} {xs : List IV} {v : V} (p : RepV K H ρ x v) (e : seqOf st x = some xs) : ∃ k a, v = .ref a ∧ SrcAt K k a x ρ H := by
  cases p with
  | tup h t => exact ⟨false, _, rfl, rfl, _, h, t⟩
  | ref h => exact ⟨true, _, rfl, rfl, h⟩
  | _ => cases e
def lenOf (x : IV) (st : Sto) : Option Nat := (seqOf st x).map (·.length)

/-! ### enumerate -/
theorem meets_enum1 {v : Value} {o : Obj} {H : Heap → Prop} (B : Begins v o H) :
    Meets (Builtin.«enumerate.__new__» ⟨[.type "enumerate", v], []⟩) (fun _ R s => H s.heap ∧
      R (.ok (.ret (.ref (s.heap.push o).objs.size))) { s with heap := (s.heap.push o).push { cls := .type "enumerate", data := .fields #[.none, .bool false, .ref s.heap.objs.size, rawInt 0, .none, .none] } }) :=
  .of_wp fun prog w A R s h => by
    obtain ⟨hp, g, d, tk, os⟩ := s
    obtain ⟨h1, h⟩ := h
    have hsub := sub_enumerate
    have q1 : ∀ {A' : Around} {E : Value → Shared → Prop} {Q : Value → Shared → Prop}, Q (.ref hp.objs.size) ⟨hp.push o, g, d, tk, os⟩ → wpAny (model prog w) A' (pyIter v) Q E ⟨hp, g, d, tk, os⟩ :=
      fun q => B.iter prog w _ _ ⟨hp, g, d, tk, os⟩ _ h1 q
    wp_walk using q1
    refine wpAny_stack_any fun st => wpAny_pure ?_
    split
    · rename_i c _ _ _ _ _
      cases (c == Value.type "enumerate")
      · wp_walk using q1
        exact ⟨_, rfl, h⟩
      · wp_walk using q1
        exact ⟨_, rfl, h⟩
    · wp_walk using q1
      exact ⟨_, rfl, h⟩
theorem enum_begin1 {prog : Program} {w : World} {A : Around} {E : Value → Shared → Prop} {s : Shared} {v : Value} {o : Obj} {H : Heap → Prop} {Q : Value → Shared → Prop} (B : Begins v o H) (h1 : H s.heap)
    (h : ∀ h', IsEnum h' (s.heap.objs.size + 1) s.heap.objs.size 0 .none → h'.get? s.heap.objs.size = some o → (∀ b u, s.heap.get? b = some u → h'.get? b = some u) → Q (.ref (s.heap.objs.size + 1)) { s with heap := h' }) :
    wpAny (model prog w) A (call (.type "enumerate") [v]) Q E s := by
  refine callType_new F.called_enumerate (by decide) (F.typeCall_enumerate_1 _) (F.newCall_enumerate_1 _) (fun obj => F.args_object_init_2 obj _) F.entry_enumerate_new (meets_enum1 B) ⟨h1, ?_⟩
  have hz : (s.heap.push o).objs.size = s.heap.objs.size + 1 := Heap.size_push ..
  show _ ∧ _
  rw [hz]
  have he : IsEnum ((s.heap.push o).push { cls := .type "enumerate", data := .fields #[.none, .bool false, .ref s.heap.objs.size, rawInt 0, .none, .none] }) (s.heap.objs.size + 1) s.heap.objs.size 0 .none := by
    have q := Heap.get?_push_size (s.heap.push o) (o := { cls := .type "enumerate", data := .fields #[.none, .bool false, .ref s.heap.objs.size, rawInt 0, .none, .none] }) rfl
    rw [hz] at q
    exact q
  exact ⟨⟨_, he, rfl⟩, h _ he (Heap.get?_push_of_some _ (Heap.get?_push_size _ B.free)) fun b u x => Heap.get?_push_of_some _ (Heap.get?_push_of_some _ x)⟩
def rowV (c : List V) (i : Nat) : Option (List V) := (c[i]?).map fun x => [.int (i : Nat), x]
def HasE (K : PySem.W.Frag) (k : Bool) (a : Addr) (n : Nat) (H : Hp) (c : List V) : Prop := HasK K k a H c ∧ c.length = n
theorem turn_enumK {P : Program} {w : World} {K : PySem.W.Frag} {elts : List Expr} {kk : Nat} {tpos : Pos} {k : Bool} {a e it : Addr} {n : Nat} (hei : e ≠ it) (hea : a ≠ e) (hia : a ≠ it) :
    Turn P w K (.Tuple elts kk tpos) (JN n (HasE K k a n) rowV) [e, it] e (fun i h => i ≤ n ∧ ((∃ old, IsEnum h e it ((i : Nat) : Int) old) ∧ IsIt k h it a i)) := by
  refine turn_N (C := List V) (U := List Value) (wr := [e, it]) (fpA := fun _ => e :: [it, a]) (good := fun c π => Vals c π ∧ c.length = n) (Ro := fun π h => IsSeq k h a π.toArray)
    (Y := fun π i h₀ v h => ∃ T t x, v = .ref T ∧ h₀.objs.size ≤ T ∧ π.toArray[i]? = some x ∧ h.IsTuple T #[.int ((0 : Int) + (i : Int)) t, x]) (Sn := fun π i h => (∃ old, IsEnum h e it ((0 : Int) + (i : Int)) old) ∧ (IsIt k h it a i ∧ IsSeq k h a π.toArray))
    (fun c π g A hA => ?_) (by simp) (fun b hb => hb) (fun i h cr b hb => ?_) (fun i h h' cr hk => ?_) (fun π i h cr ro => ?_) (fun π i h sn => ?_) (fun A i s Q E cr h => ?_) (fun X pins σ H s c hP hw hK I hs => ?_) (fun X pins σ H s c c' hP hw hK I hs hs' => ?_) (fun c π i h0 v h' g hlt y => ?_)
  · have hz : π.toArray.size = n := by rw [List.size_toArray, ← g.1.length, g.2]
    have := GoesN.enumFrom (prog := P) (w := w) (A := A) (elts := elts) (x1 := kk) (pos := tpos) 0 (drawsK (P := P) (w := w) (A := A.in1) (k := k) (a := a) (it := it) hA hia π.toArray) e hei (by simp [hei, Ne.symm hea]) (by simp)
    rw [hz] at this
    exact this
  · obtain ⟨⟨old, he⟩, hi⟩ := cr
    have e' : b = e ∨ b = it := by simpa using hb
    rcases e' with rfl | rfl
    · exact ⟨_, he, fun v q => nomatch q⟩
    · exact isIt_obj hi
  · obtain ⟨⟨old, he⟩, hi⟩ := cr
    exact ⟨⟨old, hk e (by simp) _ he⟩, isIt_keep hi fun o q => hk it (by simp) o q⟩
  · obtain ⟨⟨old, he⟩, hi⟩ := cr
    exact ⟨⟨old, by rw [Int.zero_add]; exact he⟩, hi, ro⟩
  · obtain ⟨⟨old, he⟩, hi, _⟩ := sn
    exact ⟨⟨old, by rw [Int.zero_add] at he; exact he⟩, hi⟩
  · obtain ⟨⟨old, he⟩, hi⟩ := cr
    exact wpAny_pyIter_enum he h
  · subst hK
    obtain ⟨its, rv, p⟩ := hasK_now I hs.1
    exact ⟨its, ⟨rv, hs.2⟩, p⟩
  · subst hK
    exact hasK_inj I hs.1 hs'.1
  · obtain ⟨T, t, x, rfl, hT, hx, isT⟩ := y
    have hi : i < c.length := by rw [g.2]; exact hlt
    have ex : c[i]? = some c[i] := List.getElem?_eq_getElem hi
    obtain ⟨u, hu, ru⟩ := g.1.get ex
    have : x = u := by
      rw [List.getElem?_toArray, hu] at hx
      exact (Option.some.inj hx).symm
    subst this
    exact ⟨T, [.int ((0 : Int) + (i : Int)) t, x], [.int (i : Nat), c[i]], rfl, hT, isT, .cons ⟨t, by rw [Int.zero_add]⟩ (.cons ru .nil), by simp, by unfold rowV; rw [ex]; rfl⟩
def rowE (x : IV) (st : Sto) (i : Nat) : Option IV := match seqOf st x with
  | some xs => (xs[i]?).map fun y => .tup [.int (i : Nat), y]
  | none => none
theorem givesE {K : PySem.W.Frag} {k : Bool} {a : Addr} {x : IV} {n : Nat} : GivesW K n (lenOf x) (rowE x) (JN n (HasE K k a n) rowV) (SrcAt K k a x) where
  mono := fun r e h => h.mono r e
  stop := fun {ρ H st} h r hl => by
    unfold lenOf at hl
    cases e : seqOf st x with
    | none => rw [e] at hl; cases hl
    | some xs =>
      rw [e] at hl
      obtain ⟨vs, hv, rv⟩ := h.now r e
      exact ⟨Nat.le_refl _, vs, hv, by rw [← rv.length]; exact Option.some.inj hl⟩
  go := fun {ρ H st i y} h r hl hlt hr => by
    unfold lenOf at hl
    unfold rowE at hr
    cases e : seqOf st x with
    | none => rw [e] at hl; cases hl
    | some xs =>
      rw [e] at hl hr
      obtain ⟨vs, hv, rv⟩ := h.now r e
      have hl' : xs.length = n := Option.some.inj hl
      have has : HasE K k a n H vs := ⟨hv, by rw [← rv.length]; exact hl'⟩
      refine ⟨⟨hlt, vs, has⟩, fun z H' hz => ?_⟩
      obtain ⟨T, zs, rfl, hT, rfl, hrow⟩ := hz
      have er := hrow vs has
      cases ex : xs[i]? with
      | none => simp only [ex] at hr; cases hr
      | some u =>
        simp only [ex] at hr
        cases hr
        obtain ⟨v, ev, pv⟩ := rv.get ex
        unfold rowV at er
        rw [ev] at er
        cases er
        have rp : RepVs K H ρ [.int (i : Nat), u] [.int (i : Nat), v] := .cons (.int _) (.cons pv .nil)
        exact ⟨Ext.fresh r hT _, r.fresh hT _, .tup (SqT.of upd_same) (rp.mono r (Ext.fresh r hT _))⟩
def fEnum (rs : SemA) : IEnv → Sto → RE FI := fun env st => (rs env st).bind fun v st1 => match v with
  | [x] => match seqOf st1 x with
    | some xs => .ok (.walk xs.length (lenOf x) (rowE x)) st1
    | none => .bad
  | _ => .bad
section
variable {X : Cx} {P : Par X.K} {W : WX} {a b c e : Expr} {ra : SemE} {rs : SemA} {pos p tpos : Pos} {elts : List Expr} {kk : Nat}
theorem pi_enumS (hg : Gl X "enumerate") (hm : X.mg "enumerate" = none) (ha : SA X P W [a] rs) (hs : starEach [a] X.env = [(false, eval a X.env)] := by rfl) :
    SI X P W (.Tuple elts kk tpos) (.Call (.Name "enumerate" p) [a] [] pos) (fEnum rs) := by
  refine ⟨fun pins s σ H R I h => ?_⟩
  obtain ⟨ρ, env, st, r, re, h⟩ := h
  have hp : Post P W (RpVs X.K) ρ H σ (fun vs H1 => ∃ (ρ1 : List Addr) (st1 : Sto) (v : List IV), ExtX ρ H ρ1 H1 ∧ RelX P H1 ρ1 st1 ∧ RepVs X.K H1 ρ1 v vs ∧ Post P W (RpI X.K) ρ1 H1 σ R (match v with
    | [x] => match seqOf st1 x with
      | some xs => .ok (.walk xs.length (lenOf x) (rowE x)) st1
      | none => .bad
    | _ => .bad)) (rs env st) := h.bind
  refine Call_ (ld_blt I hg hm boot_enumerate (PyProof.Rows.callWith_type1 (thn (ha.run pos pins s σ H _ I ⟨ρ, env, st, r, re, hp⟩) fun us s1 ⟨vs, H1, I1, r1, ρ1, st1, v, e1, rx1, p1, h1⟩ => ?_) hs rfl))
  split at h1
  · rename_i x
    split at h1
    · rename_i xs ex
      obtain ⟨v', rfl, pv⟩ := RepVs.one p1
      obtain ⟨k, ad, rfl, sa⟩ := SrcAt.of pv ex
      obtain ⟨u, rfl, ru⟩ := vals1 r1
      obtain rfl : u = Value.ref ad := ru
      obtain ⟨ws, hv, rv⟩ := sa.now rx1.r ex
      obtain ⟨its, rvi, isq⟩ := hasK_now I1 hv
      have hlt : ad < s1.heap.objs.size := by
        cases k with
        | true => obtain ⟨o, ho, _⟩ := isq; exact Heap.lt_size ho
        | false => obtain ⟨o, ho, _⟩ := isq; exact Heap.lt_size ho
      refine enum_begin1 (beginsK (k := k) its.toArray) isq fun h' he hit hk => wpAny_pyIter_enum he ?_
      have I2 : Inv X pins σ H1 { s1 with heap := h' } := I1.kept (t' := s1.toks) hk
      refine ⟨s1.heap.objs.size + 1, [s1.heap.objs.size + 1, s1.heap.objs.size], _, _, H1, rfl, I2, turn_enumK (k := k) (a := ad) (n := xs.length) (Nat.succ_ne_self _) (Nat.ne_of_lt (Nat.lt_succ_of_lt hlt)) (Nat.ne_of_lt hlt), ⟨Nat.zero_le _, ⟨.none, he⟩, isIt_new hit⟩, fun b hb => ?_, h1.here rx1 ⟨SrcAt X.K k ad x, givesE, sa⟩⟩
      have hle : s1.heap.objs.size ≤ b := by
        have e' : b = s1.heap.objs.size + 1 ∨ b = s1.heap.objs.size := by simpa using hb
        rcases e' with z | z
        · rw [z]; exact Nat.le_succ _
        · rw [z]; exact Nat.le_refl _
      exact I1.fpOk hle (I1.hok.fresh hle)
    · exact h1.elim
  · exact h1.elim
end
end PI

set_option Elab.async false
set_option linter.all false
set_option maxRecDepth 100000
set_option maxHeartbeats 4000000
/-! PI23: zip of two, of three lists and tuples. -/
namespace PI
open PySem PySem.Spec PyProof.Rows L2
/-! ### zip of two -/
def row2V (c : List V × List V) (i : Nat) : Option (List V) := match c.1[i]?, c.2[i]? with
  | some x, some y => some [x, y]
  | _, _ => none
def Has2 (K : PySem.W.Frag) (k1 k2 : Bool) (a b : Addr) (n1 n2 : Nat) (H : Hp) (c : List V × List V) : Prop := (HasK K k1 a H c.1 ∧ c.1.length = n1) ∧ HasK K k2 b H c.2 ∧ c.2.length = n2
def core2 (k1 k2 : Bool) (a b z TI TO i1 i2 : Addr) (i : Nat) (h : Heap) : Prop := IsZip h z TI TO .none ∧ IsTupOf2 h TI (.ref i1) (.ref i2) ∧ (∃ a1 a2, IsTupOf2 h TO a1 a2) ∧ IsIt k1 h i1 a i ∧ IsIt k2 h i2 b i
theorem turn_zip2K {P : Program} {w : World} {K : PySem.W.Frag} {elts : List Expr} {kk : Nat} {tpos : Pos} {k1 k2 : Bool} {a b : Addr} {N n1 n2 : Nat} (ha : a < N) (hb : b < N) :
    Turn P w K (.Tuple elts kk tpos) (JN (min n1 n2) (Has2 K k1 k2 a b n1 n2) row2V) [N + 4, N + 2, N + 3, N, N + 1] (N + 4) (fun i h => i ≤ min n1 n2 ∧ core2 k1 k2 a b (N + 4) (N + 2) (N + 3) N (N + 1) i h) := by
  refine turn_N (C := List V × List V) (U := List Value × List Value) (wr := [N + 4, N + 3, N, N + 1]) (fpA := fun _ => (N + 4) :: (N + 2) :: (N + 3) :: ([N, a] ++ [N + 1, b])) (good := fun c π => (Vals c.1 π.1 ∧ c.1.length = n1) ∧ Vals c.2 π.2 ∧ c.2.length = n2)
    (Ro := fun π h => IsSeq k1 h a π.1.toArray ∧ IsSeq k2 h b π.2.toArray)
    (Y := fun π i h₀ v h => ∃ T x y, v = .ref T ∧ h₀.objs.size ≤ T ∧ π.1.toArray[i]? = some x ∧ π.2.toArray[i]? = some y ∧ h.IsTuple T #[x, y])
    (Sn := fun π i h => IsZip h (N + 4) (N + 2) (N + 3) .none ∧ IsTupOf2 h (N + 2) (.ref N) (.ref (N + 1)) ∧ (∃ a1 a2, IsTupOf2 h (N + 3) a1 a2) ∧ (IsIt k1 h N a i ∧ IsSeq k1 h a π.1.toArray) ∧ (IsIt k2 h (N + 1) b i ∧ IsSeq k2 h b π.2.toArray))
    (fun c π g A hA => ?_) (by simp) (fun b hb => ?_) (fun i h cr b hb => ?_) (fun i h h' cr hk => ?_) (fun π i h cr ro => ?_) (fun π i h sn => ?_) (fun A i s Q E cr h => ?_) (fun X pins σ H s c hP hw hK I hs => ?_) (fun X pins σ H s c c' hP hw hK I hs hs' => ?_) (fun c π i h0 v h' g hlt y => ?_)
  · have hz1 : π.1.toArray.size = n1 := by rw [List.size_toArray, ← g.1.1.length, g.1.2]
    have hz2 : π.2.toArray.size = n2 := by rw [List.size_toArray, ← g.2.1.length, g.2.2]
    have D1 := drawsK (P := P) (w := w) (A := A.in1) (k := k1) (a := a) (it := N) hA (Nat.ne_of_lt ha) π.1.toArray
    have D2 := drawsK (P := P) (w := w) (A := A.in1) (k := k2) (a := b) (it := N + 1) hA (Nat.ne_of_lt (Nat.lt_succ_of_lt hb)) π.2.toArray
    rw [hz1] at D1
    rw [hz2] at D2
    exact GoesN.zip2 (zip_sep2 (N := N) (fp1 := [a]) (fp2 := [b]) (by simpa using ha) (by simpa using hb)) D1 D2
  · simp only [List.mem_cons, List.not_mem_nil, or_false] at hb ⊢
    rcases hb with q | q | q | q
    · exact .inl q
    · exact .inr (.inr (.inl q))
    · exact .inr (.inr (.inr (.inl q)))
    · exact .inr (.inr (.inr (.inr q)))
  · obtain ⟨hz, hTI, ⟨x, y, hTO⟩, h1, h2⟩ := cr
    simp only [List.mem_cons, List.not_mem_nil, or_false] at hb
    rcases hb with q | q | q | q | q
    · rw [q]; exact ⟨_, hz, fun v q => nomatch q⟩
    · rw [q]; exact ⟨_, hTI, fun v q => nomatch q⟩
    · rw [q]; exact ⟨_, hTO, fun v q => nomatch q⟩
    · rw [q]; exact isIt_obj h1
    · rw [q]; exact isIt_obj h2
  · obtain ⟨hz, hTI, ⟨x, y, hTO⟩, h1, h2⟩ := cr
    exact ⟨hk _ (by simp) _ hz, hk _ (by simp) _ hTI, ⟨x, y, hk _ (by simp) _ hTO⟩, isIt_keep h1 fun o q => hk _ (by simp) o q, isIt_keep h2 fun o q => hk _ (by simp) o q⟩
  · obtain ⟨hz, hTI, hTO, h1, h2⟩ := cr
    exact ⟨hz, hTI, hTO, ⟨h1, ro.1⟩, h2, ro.2⟩
  · obtain ⟨hz, hTI, hTO, h1, h2⟩ := sn
    exact ⟨hz, hTI, hTO, h1.1, h2.1⟩
  · exact wpAny_pyIter_zip cr.1 h
  · subst hK
    obtain ⟨its, rv, p⟩ := hasK_now I hs.1.1
    obtain ⟨its2, rv2, p2⟩ := hasK_now I hs.2.1
    exact ⟨(its, its2), ⟨⟨rv, hs.1.2⟩, rv2, hs.2.2⟩, p, p2⟩
  · subst hK
    exact Prod.ext (hasK_inj I hs.1.1 hs'.1.1) (hasK_inj I hs.2.1 hs'.2.1)
  · obtain ⟨T, x, y, rfl, hT, hx, hy, isT⟩ := y
    have hi1 : i < c.1.length := by rw [g.1.2]; omega
    have hi2 : i < c.2.length := by rw [g.2.2]; omega
    have ex : c.1[i]? = some c.1[i] := List.getElem?_eq_getElem hi1
    have ey : c.2[i]? = some c.2[i] := List.getElem?_eq_getElem hi2
    obtain ⟨u, hu, ru⟩ := g.1.1.get ex
    obtain ⟨u2, hu2, ru2⟩ := g.2.1.get ey
    rw [List.getElem?_toArray, hu] at hx
    rw [List.getElem?_toArray, hu2] at hy
    cases hx
    cases hy
    exact ⟨T, [_, _], [c.1[i], c.2[i]], rfl, hT, isT, .cons ru (.cons ru2 .nil), by simp, by unfold row2V; rw [ex, ey]⟩
def lenZ2 (x y : IV) (n1 n2 : Nat) (st : Sto) : Option Nat := match seqOf st x, seqOf st y with
  | some xs, some ys => bif Nat.beq xs.length n1 && Nat.beq ys.length n2 then some (min n1 n2) else none
  | _, _ => none
def rowZ2 (x y : IV) (st : Sto) (i : Nat) : Option IV := match seqOf st x, seqOf st y with
  | some xs, some ys => (match xs[i]?, ys[i]? with
    | some u, some v => some (.tup [u, v])
    | _, _ => none)
  | _, _ => none
theorem givesZ2 {K : PySem.W.Frag} {k1 k2 : Bool} {a b : Addr} {x y : IV} {n1 n2 : Nat} : GivesW K (min n1 n2) (lenZ2 x y n1 n2) (rowZ2 x y) (JN (min n1 n2) (Has2 K k1 k2 a b n1 n2) row2V) (fun ρ H => SrcAt K k1 a x ρ H ∧ SrcAt K k2 b y ρ H) := by
  have has : ∀ {ρ : List Addr} {H : Hp} {st : Sto} {m : Nat}, SrcAt K k1 a x ρ H ∧ SrcAt K k2 b y ρ H → Rel K H ρ st → lenZ2 x y n1 n2 st = some m → ∃ xs ys vs ws, seqOf st x = some xs ∧ seqOf st y = some ys ∧ Has2 K k1 k2 a b n1 n2 H (vs, ws) ∧ RepVs K H ρ xs vs ∧ RepVs K H ρ ys ws := fun {ρ H st m} h r hl => by
    unfold lenZ2 at hl
    split at hl
    · rename_i xs ys e1 e2
      obtain ⟨vs, hv, rv⟩ := h.1.now r e1
      obtain ⟨ws, hw, rw'⟩ := h.2.now r e2
      cases hb : (Nat.beq xs.length n1 && Nat.beq ys.length n2) with
      | false => rw [hb] at hl; cases hl
      | true =>
        obtain ⟨b1, b2⟩ := Bool.and_eq_true_iff.mp hb
        exact ⟨xs, ys, vs, ws, e1, e2, ⟨⟨hv, by rw [← rv.length]; exact Nat.eq_of_beq_eq_true b1⟩, hw, by rw [← rw'.length]; exact Nat.eq_of_beq_eq_true b2⟩, rv, rw'⟩
    · cases hl
  refine ⟨fun r e h => ⟨h.1.mono r e, h.2.mono r e⟩, fun {ρ H st} h r hl => ?_, fun {ρ H st i z} h r hl hlt hr => ?_⟩
  · obtain ⟨xs, ys, vs, ws, e1, e2, hs, rv, rw'⟩ := has h r hl
    exact ⟨Nat.le_refl _, (vs, ws), hs⟩
  · obtain ⟨xs, ys, vs, ws, e1, e2, hs, rv, rw'⟩ := has h r hl
    refine ⟨⟨hlt, (vs, ws), hs⟩, fun u H' hz => ?_⟩
    obtain ⟨T, zs, rfl, hT, rfl, hrow⟩ := hz
    have er := hrow (vs, ws) hs
    unfold rowZ2 at hr
    simp only [e1, e2] at hr
    split at hr
    · rename_i p q ep eq'
      cases hr
      obtain ⟨v, ev, pv⟩ := rv.get ep
      obtain ⟨v2, ev2, pv2⟩ := rw'.get eq'
      unfold row2V at er
      simp only [ev, ev2] at er
      cases er
      have rp : RepVs K H ρ [p, q] [v, v2] := .cons pv (.cons pv2 .nil)
      exact ⟨Ext.fresh r hT _, r.fresh hT _, .tup (SqT.of upd_same) (rp.mono r (Ext.fresh r hT _))⟩
    · cases hr
def fZip2 (rs : SemA) : IEnv → Sto → RE FI := fun env st => (rs env st).bind fun v st1 => match v with
  | [x, y] => match seqOf st1 x, seqOf st1 y with
    | some xs, some ys => .ok (.walk (min xs.length ys.length) (lenZ2 x y xs.length ys.length) (rowZ2 x y)) st1
    | _, _ => .bad
  | _ => .bad
theorem isSeq_lt {k : Bool} {h : Heap} {a : Addr} {items : Array Value} (e : IsSeq k h a items) : a < h.objs.size := by
  cases k with
  | true => obtain ⟨o, ho, _⟩ := e; exact Heap.lt_size ho
  | false => obtain ⟨o, ho, _⟩ := e; exact Heap.lt_size ho
section
variable {X : Cx} {P : Par X.K} {W : WX} {a b c e : Expr} {ra : SemE} {rs : SemA} {pos p tpos : Pos} {elts : List Expr} {kk : Nat}
theorem pi_zip2S (hg : Gl X "zip") (hm : X.mg "zip" = none) (ha : SA X P W [a, b] rs) (hs : starEach [a, b] X.env = (false, eval a X.env) :: starEach [b] X.env := by rfl) (hpl : (backTo pos (starEach [b] X.env)).any (·.1) = false := by rfl) :
    SI X P W (.Tuple elts kk tpos) (.Call (.Name "zip" p) [a, b] [] pos) (fZip2 rs) := by
  refine ⟨fun pins s σ H R I h => ?_⟩
  obtain ⟨ρ, env, st, r, re, h⟩ := h
  have hp : Post P W (RpVs X.K) ρ H σ (fun vs H1 => ∃ (ρ1 : List Addr) (st1 : Sto) (v : List IV), ExtX ρ H ρ1 H1 ∧ RelX P H1 ρ1 st1 ∧ RepVs X.K H1 ρ1 v vs ∧ Post P W (RpI X.K) ρ1 H1 σ R (match v with
    | [x, y] => match seqOf st1 x, seqOf st1 y with
      | some xs, some ys => .ok (.walk (min xs.length ys.length) (lenZ2 x y xs.length ys.length) (rowZ2 x y)) st1
      | _, _ => .bad
    | _ => .bad)) (rs env st) := h.bind
  refine Call_ (ld_blt I hg hm PyProof.Rows.boot_zip (PyProof.Rows.callWith_type1 (thn (ha.run pos pins s σ H _ I ⟨ρ, env, st, r, re, hp⟩) fun us s1 ⟨vs, H1, I1, r1, ρ1, st1, v, e1, rx1, p1, h1⟩ => ?_) hs hpl))
  split at h1
  · rename_i x y
    split at h1
    · rename_i xs ys ex ey
      obtain ⟨v', w', rfl, pv, pw⟩ := RepVs.two p1
      obtain ⟨k1, a1, rfl, sa⟩ := SrcAt.of pv ex
      obtain ⟨k2, a2, rfl, sb⟩ := SrcAt.of pw ey
      obtain ⟨u, u2, rfl, ru, ru2⟩ := vals2 r1
      obtain rfl : u = Value.ref a1 := ru
      obtain rfl : u2 = Value.ref a2 := ru2
      obtain ⟨ws, hv, rv⟩ := sa.now rx1.r ex
      obtain ⟨ws2, hv2, rv2⟩ := sb.now rx1.r ey
      obtain ⟨its, rvi, isq⟩ := hasK_now I1 hv
      obtain ⟨its2, rvi2, isq2⟩ := hasK_now I1 hv2
      refine zip_begins2 (beginsK (k := k1) its.toArray) (beginsK (k := k2) its2.toArray) isq isq2 fun h' hz hTI hTO g1 g2 _ hk => wpAny_pyIter_zip hz ?_
      have I2 : Inv X pins σ H1 { s1 with heap := h' } := I1.kept (t' := s1.toks) hk
      refine ⟨s1.heap.objs.size + 4, [s1.heap.objs.size + 4, s1.heap.objs.size + 2, s1.heap.objs.size + 3, s1.heap.objs.size, s1.heap.objs.size + 1], _, _, H1, rfl, I2, turn_zip2K (k1 := k1) (k2 := k2) (n1 := xs.length) (n2 := ys.length) (isSeq_lt isq) (isSeq_lt isq2), ⟨Nat.zero_le _, hz, hTI, ⟨_, _, hTO⟩, isIt_new g1, isIt_new g2⟩, fun b hb => ?_, h1.here rx1 ⟨_, givesZ2, sa, sb⟩⟩
      have hle : s1.heap.objs.size ≤ b := by
        simp only [List.mem_cons, List.not_mem_nil, or_false] at hb
        rcases hb with z | z | z | z | z <;> rw [z]
        · exact Nat.le_add_right _ _
        · exact Nat.le_add_right _ _
        · exact Nat.le_add_right _ _
        · exact Nat.le_refl _
        · exact Nat.le_add_right _ _
      exact I1.fpOk hle (I1.hok.fresh hle)
    · exact h1.elim
  · exact h1.elim
end
end PI

set_option Elab.async false
set_option linter.all false
set_option maxRecDepth 100000
set_option maxHeartbeats 4000000
/-! PI24: rows = zip(a, b, c) of three tuples, kept in a name; return max([.. for .. in rows]). -/
namespace PI
open PySem PySem.Spec PyProof.Rows L2
/-! ### new objects known exactly for a while -/
def addX (H : Hp) (zs : List (Addr × Obj)) : Hp := fun b => match zs.lookup b with
  | some o => some (.ext fun h => h.get? b = some o)
  | none => H b
theorem lookup_mem {zs : List (Addr × Obj)} {b : Addr} {o : Obj} (e : zs.lookup b = some o) : (b, o) ∈ zs := by
  induction zs with
  | nil => cases e
  | cons p r ih =>
    obtain ⟨c, oc⟩ := p
    by_cases hb : b = c
    · subst hb
      have e' : some oc = some o := by simpa [List.lookup] using e
      cases e'
      exact List.mem_cons_self
    · have hb' : (b == c) = false := by simpa using hb
      have e' : r.lookup b = some o := by simpa [List.lookup, hb'] using e
      exact List.mem_cons_of_mem _ (ih e')
theorem addX_in {H : Hp} {zs : List (Addr × Obj)} {b : Addr} {o : Obj} (e : zs.lookup b = some o) : addX H zs b = some (.ext fun h => h.get? b = some o) := by unfold addX; rw [e]
theorem addX_out {H : Hp} {zs : List (Addr × Obj)} {b : Addr} (e : zs.lookup b = none) : addX H zs b = H b := by unfold addX; rw [e]
theorem addX_non {H : Hp} {zs : List (Addr × Obj)} {b : Addr} (h : addX H zs b = none) : zs.lookup b = none ∧ H b = none := by
  cases e : zs.lookup b with
  | none => rw [addX_out e] at h; exact ⟨rfl, h⟩
  | some o => rw [addX_in e] at h; cases h
theorem addX_old {H : Hp} {zs : List (Addr × Obj)} {b : Addr} {u : HO} (h : addX H zs b = some u) (hu : ∀ φ, u ≠ .ext φ) : H b = some u := by
  cases e : zs.lookup b with
  | none => rw [addX_out e] at h; exact h
  | some o => rw [addX_in e] at h; exact absurd (Option.some.inj h).symm (hu _)
theorem ext_ok {P : Program} {w : World} {H : Hp} {h : Heap} {a : Addr} {o : Obj} (e : h.get? a = some o) : ObjOk P w H h a (.ext fun h => h.get? a = some o) :=
  ⟨e, ⟨o, e⟩, fun h1 h2 e1 k => k _ e1⟩
section
variable {X : Cx} {pins : List (Addr × Obj)} {σ : L2.St} {H : Hp} {s : Shared} {zs : List (Addr × Obj)}
theorem inv_adopt {h' : Heap} (I : Inv X pins σ H s) (k : ∀ b o, s.heap.get? b = some o → h'.get? b = some o) (hn : ∀ b o, zs.lookup b = some o → s.heap.objs.size ≤ b ∧ h'.get? b = some o) : Inv X pins σ (addX H zs) { s with heap := h' } := by
  have out : ∀ b u, s.heap.get? b = some u → zs.lookup b = none := fun b u e => by
    cases q : zs.lookup b with
    | none => rfl
    | some o => exact absurd (Nat.lt_of_lt_of_le (Heap.lt_size e) (hn b o q).1) (Nat.lt_irrefl _)
  have outH : ∀ b u, H b = some u → zs.lookup b = none := fun b u e => by
    cases q : zs.lookup b with
    | none => rfl
    | some o =>
      have := I.hok.fresh (hn b o q).1
      rw [this] at e
      cases e
  have toH : ∀ b u, H b = some u → addX H zs b = some u := fun b u e => by rw [addX_out (outH b u e)]; exact e
  refine I.step (g' := s.gens) (d' := s.drawn) (t' := s.toks) (ch := []) (fun _ z => nomatch z) (fun b o _ _ _ q _ => k b o q) (fun b o _ _ _ q _ => ⟨o.slots, k b o q⟩) (fun b o _ q n => by rw [addX_out (out b o q)]; exact n) (fun b o _ q => ⟨o, k b o q⟩)
    (fun b xs q => toH _ _ q) (fun b o u q => toH _ _ q) (fun b ps q => ⟨#[], by rw [toH _ _ q]; simp⟩) (fun m hm => ?_) (fun b u q => ?_) I.bare
  · obtain ⟨o, es, ep, ho, rest⟩ := hm
    exact ⟨o, es, ep, k _ o ho, rest⟩
  · cases e : zs.lookup b with
    | some o =>
      rw [addX_in e] at q
      cases q
      exact ext_ok (hn b o e).2
    | none =>
      rw [addX_out e] at q
      exact (I.hok b u q).stay (fun c v _ z => k c v z) (fun c z => toH _ _ z) fun c xs z => toH _ _ z
theorem inv_drop (I : Inv X pins σ (addX H zs) s) (hH : ∀ b o, zs.lookup b = some o → H b = none) : Inv X pins σ H s := by
  have noE : ∀ b u, H b = some u → addX H zs b = some u := fun b u e => by
    cases q : zs.lookup b with
    | none => rw [addX_out q]; exact e
    | some o => rw [hH b o q] at e; cases e
  have := I.step (H' := H) (h' := s.heap) (g' := s.gens) (d' := s.drawn) (t' := s.toks) (ch := []) (fun _ z => nomatch z) (fun b o _ _ _ q _ => q) (fun b o _ _ _ q _ => ⟨o.slots, q⟩) (fun b o _ q n => (addX_non n).2) (fun b o _ q => ⟨o, q⟩)
    (fun b xs q => addX_old q fun φ z => nomatch z) (fun b o u q => addX_old q fun φ z => nomatch z) (fun b ps q => ⟨#[], by rw [addX_old q fun φ z => nomatch z]; simp⟩) (fun m hm => hm) (fun b u q => ?_) I.bare
  · exact this
  · exact (I.hok b u (noE b u q)).stay (fun c v _ z => z) (fun c z => addX_old z fun φ z => nomatch z) fun c xs z => addX_old z fun φ z => nomatch z
theorem inv_known (I : Inv X pins σ (addX H zs) s) {b : Addr} {o : Obj} (e : zs.lookup b = some o) : s.heap.get? b = some o := by
  have h := I.hok b _ (addX_in (H := H) e)
  exact h.1
theorem inv_fp (I : Inv X pins σ (addX H zs) s) {b : Addr} {o : Obj} (e : zs.lookup b = some o) (hb : H b = none) (hs : X.s_0.heap.objs.size ≤ b) : FpOk X pins H b := by
  have hz : addX H zs b ≠ none := by rw [addX_in e]; simp
  refine ⟨hb, fun z => hz (by rw [z]; exact I.free), fun z => hz ?_, .inr hs, fun x c q z => hz (by rw [← z]; exact I.freeC x c q), fun p hp z => hz (by rw [← z]; exact (I.pin p hp).2.1)⟩
  obtain ⟨_, o', ho, _⟩ := I.ok.funs.mem z
  exact I.base.free b o' ho (I.ok.frf b z) fun q => I.ok.exfs b q z
end
/-! ### zip of three tuples -/
def row3V (c : List V × List V × List V) (i : Nat) : Option (List V) := match c.1[i]?, c.2.1[i]?, c.2.2[i]? with
  | some x, some y, some u => some [x, y, u]
  | _, _, _ => none
def Has3 (K : PySem.W.Frag) (a b c : Addr) (n1 n2 n3 : Nat) (H : Hp) (z : List V × List V × List V) : Prop := (SqT K H a z.1 ∧ z.1.length = n1) ∧ (SqT K H b z.2.1 ∧ z.2.1.length = n2) ∧ SqT K H c z.2.2 ∧ z.2.2.length = n3
def core3 (a b c z TI TO i1 i2 i3 : Addr) (i : Nat) (h : Heap) : Prop := IsZip h z TI TO .none ∧ IsTupOf3 h TI (.ref i1) (.ref i2) (.ref i3) ∧ (∃ a1 a2 a3, IsTupOf3 h TO a1 a2 a3) ∧ IsIt false h i1 a i ∧ IsIt false h i2 b i ∧ IsIt false h i3 c i
theorem turn_zip3T {P : Program} {w : World} {K : PySem.W.Frag} {elts : List Expr} {kk : Nat} {tpos : Pos} {a b c : Addr} {N n1 n2 n3 : Nat} (ha : a < N) (hb : b < N) (hc : c < N) :
    Turn P w K (.Tuple elts kk tpos) (JN (min (min n1 n2) n3) (Has3 K a b c n1 n2 n3) row3V) [N + 5, N + 3, N + 4, N, N + 1, N + 2] (N + 5) (fun i h => i ≤ min (min n1 n2) n3 ∧ core3 a b c (N + 5) (N + 3) (N + 4) N (N + 1) (N + 2) i h) := by
  refine turn_N (C := List V × List V × List V) (U := List Value × List Value × List Value) (wr := [N + 5, N + 4, N, N + 1, N + 2]) (fpA := fun _ => (N + 5) :: (N + 3) :: (N + 4) :: ([N, a] ++ [N + 1, b] ++ [N + 2, c])) (good := fun z π => (Vals z.1 π.1 ∧ z.1.length = n1) ∧ (Vals z.2.1 π.2.1 ∧ z.2.1.length = n2) ∧ Vals z.2.2 π.2.2 ∧ z.2.2.length = n3)
    (Ro := fun π h => IsSeq false h a π.1.toArray ∧ IsSeq false h b π.2.1.toArray ∧ IsSeq false h c π.2.2.toArray)
    (Y := fun π i h₀ v h => ∃ T x y u, v = .ref T ∧ h₀.objs.size ≤ T ∧ π.1.toArray[i]? = some x ∧ π.2.1.toArray[i]? = some y ∧ π.2.2.toArray[i]? = some u ∧ h.IsTuple T #[x, y, u])
    (Sn := fun π i h => IsZip h (N + 5) (N + 3) (N + 4) .none ∧ IsTupOf3 h (N + 3) (.ref N) (.ref (N + 1)) (.ref (N + 2)) ∧ (∃ a1 a2 a3, IsTupOf3 h (N + 4) a1 a2 a3) ∧ (IsIt false h N a i ∧ IsSeq false h a π.1.toArray) ∧ (IsIt false h (N + 1) b i ∧ IsSeq false h b π.2.1.toArray) ∧ (IsIt false h (N + 2) c i ∧ IsSeq false h c π.2.2.toArray))
    (fun z π g A hA => ?_) (by simp) (fun b hb => ?_) (fun i h cr b hb => ?_) (fun i h h' cr hk => ?_) (fun π i h cr ro => ?_) (fun π i h sn => ?_) (fun A i s Q E cr h => ?_) (fun X pins σ H s z hP hw hK I hs => ?_) (fun X pins σ H s z z' hP hw hK I hs hs' => ?_) (fun z π i h0 v h' g hlt y => ?_)
  · have hz1 : π.1.toArray.size = n1 := by rw [List.size_toArray, ← g.1.1.length, g.1.2]
    have hz2 : π.2.1.toArray.size = n2 := by rw [List.size_toArray, ← g.2.1.1.length, g.2.1.2]
    have hz3 : π.2.2.toArray.size = n3 := by rw [List.size_toArray, ← g.2.2.1.length, g.2.2.2]
    have D1 := drawsK (P := P) (w := w) (A := A.in1) (k := false) (a := a) (it := N) hA (Nat.ne_of_lt ha) π.1.toArray
    have D2 := drawsK (P := P) (w := w) (A := A.in1) (k := false) (a := b) (it := N + 1) hA (Nat.ne_of_lt (Nat.lt_succ_of_lt hb)) π.2.1.toArray
    have D3 := drawsK (P := P) (w := w) (A := A.in1) (k := false) (a := c) (it := N + 2) hA (Nat.ne_of_lt (Nat.lt_succ_of_lt (Nat.lt_succ_of_lt hc))) π.2.2.toArray
    rw [hz1] at D1
    rw [hz2] at D2
    rw [hz3] at D3
    exact GoesN.zip3 (zip_sep3 (N := N) (fp1 := [a]) (fp2 := [b]) (fp3 := [c]) (by simpa using ha) (by simpa using hb) (by simpa using hc)) D1 D2 D3
  · simp only [List.mem_cons, List.not_mem_nil, or_false] at hb ⊢
    rcases hb with q | q | q | q | q
    · exact .inl q
    · exact .inr (.inr (.inl q))
    · exact .inr (.inr (.inr (.inl q)))
    · exact .inr (.inr (.inr (.inr (.inl q))))
    · exact .inr (.inr (.inr (.inr (.inr q))))
  · obtain ⟨hz, hTI, ⟨x, y, u, hTO⟩, h1, h2, h3⟩ := cr
    simp only [List.mem_cons, List.not_mem_nil, or_false] at hb
    rcases hb with q | q | q | q | q | q
    · rw [q]; exact ⟨_, hz, fun v q => nomatch q⟩
    · rw [q]; exact ⟨_, hTI, fun v q => nomatch q⟩
    · rw [q]; exact ⟨_, hTO, fun v q => nomatch q⟩
    · rw [q]; exact isIt_obj h1
    · rw [q]; exact isIt_obj h2
    · rw [q]; exact isIt_obj h3
  · obtain ⟨hz, hTI, ⟨x, y, u, hTO⟩, h1, h2, h3⟩ := cr
    exact ⟨hk _ (by simp) _ hz, hk _ (by simp) _ hTI, ⟨x, y, u, hk _ (by simp) _ hTO⟩, isIt_keep h1 fun o q => hk _ (by simp) o q, isIt_keep h2 fun o q => hk _ (by simp) o q, isIt_keep h3 fun o q => hk _ (by simp) o q⟩
  · obtain ⟨hz, hTI, hTO, h1, h2, h3⟩ := cr
    exact ⟨hz, hTI, hTO, ⟨h1, ro.1⟩, ⟨h2, ro.2.1⟩, h3, ro.2.2⟩
  · obtain ⟨hz, hTI, hTO, h1, h2, h3⟩ := sn
    exact ⟨hz, hTI, hTO, h1.1, h2.1, h3.1⟩
  · exact wpAny_pyIter_zip cr.1 h
  · subst hK
    obtain ⟨its, rv, p⟩ := hasK_now (k := false) I hs.1.1
    obtain ⟨its2, rv2, p2⟩ := hasK_now (k := false) I hs.2.1.1
    obtain ⟨its3, rv3, p3⟩ := hasK_now (k := false) I hs.2.2.1
    exact ⟨(its, its2, its3), ⟨⟨rv, hs.1.2⟩, ⟨rv2, hs.2.1.2⟩, rv3, hs.2.2.2⟩, p, p2, p3⟩
  · subst hK
    exact Prod.ext (I.tuple_inj hs'.1.1 hs.1.1) (Prod.ext (I.tuple_inj hs'.2.1.1 hs.2.1.1) (I.tuple_inj hs'.2.2.1 hs.2.2.1))
  · obtain ⟨T, x, y, u, rfl, hT, hx, hy, hu, isT⟩ := y
    have hi1 : i < z.1.length := by rw [g.1.2]; omega
    have hi2 : i < z.2.1.length := by rw [g.2.1.2]; omega
    have hi3 : i < z.2.2.length := by rw [g.2.2.2]; omega
    have ex : z.1[i]? = some z.1[i] := List.getElem?_eq_getElem hi1
    have ey : z.2.1[i]? = some z.2.1[i] := List.getElem?_eq_getElem hi2
    have eu : z.2.2[i]? = some z.2.2[i] := List.getElem?_eq_getElem hi3
    obtain ⟨u1, hu1, ru1⟩ := g.1.1.get ex
    obtain ⟨u2, hu2, ru2⟩ := g.2.1.1.get ey
    obtain ⟨u3, hu3, ru3⟩ := g.2.2.1.get eu
    rw [List.getElem?_toArray, hu1] at hx
    rw [List.getElem?_toArray, hu2] at hy
    rw [List.getElem?_toArray, hu3] at hu
    cases hx
    cases hy
    cases hu
    exact ⟨T, [_, _, _], [z.1[i], z.2.1[i], z.2.2[i]], rfl, hT, isT, .cons ru1 (.cons ru2 (.cons ru3 .nil)), by simp, by unfold row3V; rw [ex, ey, eu]⟩
def zip3I : List IV → List IV → List IV → List IV
  | x :: xs, y :: ys, z :: zs => .tup [x, y, z] :: zip3I xs ys zs
  | _, _, _ => []
theorem zip3I_len : ∀ (xs ys zs : List IV), (zip3I xs ys zs).length = min (min xs.length ys.length) zs.length
  | x :: xs, y :: ys, z :: zs => by show (zip3I xs ys zs).length + 1 = _; rw [zip3I_len xs ys zs]; simp only [List.length_cons]; omega
  | [], _, _ => by simp [zip3I]
  | _ :: _, [], _ => by simp [zip3I]
  | _ :: _, _ :: _, [] => by simp [zip3I]
theorem zip3I_get : ∀ (xs ys zs : List IV) (i : Nat) (v : IV), (zip3I xs ys zs)[i]? = some v → ∃ x y z, xs[i]? = some x ∧ ys[i]? = some y ∧ zs[i]? = some z ∧ v = .tup [x, y, z]
  | x :: xs, y :: ys, z :: zs, 0, v, e => by
    have e' : some (IV.tup [x, y, z]) = some v := e
    cases e'
    exact ⟨x, y, z, rfl, rfl, rfl, rfl⟩
  | x :: xs, y :: ys, z :: zs, i + 1, v, e => by
    obtain ⟨a, b, c, h1, h2, h3, h4⟩ := zip3I_get xs ys zs i v e
    exact ⟨a, b, c, h1, h2, h3, h4⟩
  | [], _, _, _, _, e => by simp [zip3I] at e
  | _ :: _, [], _, _, _, e => by simp [zip3I] at e
  | _ :: _, _ :: _, [], _, _, e => by simp [zip3I] at e
theorem gives3 {K : PySem.W.Frag} {a b c : Addr} {xs ys zs : List IV} : Gives K (zip3I xs ys zs) (JN (min (min xs.length ys.length) zs.length) (Has3 K a b c xs.length ys.length zs.length) row3V)
    (fun ρ H => (∃ vs, SqT K H a vs ∧ RepVs K H ρ xs vs) ∧ (∃ vs, SqT K H b vs ∧ RepVs K H ρ ys vs) ∧ ∃ vs, SqT K H c vs ∧ RepVs K H ρ zs vs) where
  mono := fun r e h => by
    obtain ⟨⟨v1, a1, b1⟩, ⟨v2, a2, b2⟩, v3, a3, b3⟩ := h
    exact ⟨⟨v1, sqT_X r e a1, b1.monoX r e⟩, ⟨v2, sqT_X r e a2, b2.monoX r e⟩, v3, sqT_X r e a3, b3.monoX r e⟩
  stop := fun {ρ H} h => by
    obtain ⟨⟨v1, a1, b1⟩, ⟨v2, a2, b2⟩, v3, a3, b3⟩ := h
    exact ⟨by rw [zip3I_len]; exact Nat.le_refl _, (v1, v2, v3), ⟨a1, b1.length.symm⟩, ⟨a2, b2.length.symm⟩, a3, b3.length.symm⟩
  go := fun {ρ H i x} h e => by
    obtain ⟨⟨v1, a1, b1⟩, ⟨v2, a2, b2⟩, v3, a3, b3⟩ := h
    have hs : Has3 K a b c xs.length ys.length zs.length H (v1, v2, v3) := ⟨⟨a1, b1.length.symm⟩, ⟨a2, b2.length.symm⟩, a3, b3.length.symm⟩
    have hlt : i < min (min xs.length ys.length) zs.length := by
      rw [← zip3I_len]
      exact (List.getElem?_eq_some_iff.mp e).1
    refine ⟨⟨hlt, _, hs⟩, fun u H' hz st r => ?_⟩
    obtain ⟨T, ws, rfl, hT, rfl, hrow⟩ := hz
    have er := hrow _ hs
    obtain ⟨p, q, s, e1, e2, e3, rfl⟩ := zip3I_get _ _ _ _ _ e
    obtain ⟨u1, f1, p1⟩ := b1.get e1
    obtain ⟨u2, f2, p2⟩ := b2.get e2
    obtain ⟨u3, f3, p3⟩ := b3.get e3
    unfold row3V at er
    simp only [f1, f2, f3] at er
    cases er
    have rp : RepVs K H ρ [p, q, s] [u1, u2, u3] := .cons p1 (.cons p2 (.cons p3 .nil))
    exact ⟨Ext.fresh r hT _, r.fresh hT _, .tup (SqT.of upd_same) (rp.mono r (Ext.fresh r hT _))⟩
/-! ### the zip object in a name -/
def zObjs (N a b c : Addr) : List (Addr × Obj) :=
  [(N + 5, { cls := .type "zip", dict := none, data := .fields #[.none, .bool false, .bool false, .ref (N + 3), .ref (N + 4)], slots := #[] }), (N + 3, { cls := .type "tuple", data := .seq #[.ref N, .ref (N + 1), .ref (N + 2)] }),
    (N + 4, { cls := .type "tuple", data := .seq #[.none, .none, .none] }), (N, itObj false a), (N + 1, itObj false b), (N + 2, itObj false c)]
theorem mem_lookup {zs : List (Addr × Obj)} {b : Addr} {o : Obj} (nd : (zs.map (·.1)).Nodup) (m : (b, o) ∈ zs) : zs.lookup b = some o := by
  induction zs with
  | nil => cases m
  | cons p r ih =>
    obtain ⟨c, oc⟩ := p
    have nd' : (c :: r.map (·.1)).Nodup := nd
    obtain ⟨h1, h2⟩ := List.nodup_cons.mp nd'
    rcases List.mem_cons.mp m with q | q
    · cases q
      simp [List.lookup]
    · have hb : b ≠ c := fun z => h1 (by rw [← z]; exact List.mem_map.mpr ⟨(b, o), q, rfl⟩)
      have hb' : (b == c) = false := by simpa using hb
      simp only [List.lookup, hb']
      exact ih h2 q
theorem zObjs_nd (N a b c : Addr) : ((zObjs N a b c).map (·.1)).Nodup := by
  have : ∀ N : Nat, [N + 5, N + 3, N + 4, N, N + 1, N + 2].Nodup := fun N => by
    simp
  exact this N
section
variable {X : Cx} {P : Par X.K} {W : WX} {a b c e : Expr} {ra : SemE} {rs : SemA} {pos p tpos : Pos} {elts : List Expr} {kk : Nat} {x : Str}
/-- its six objects are new -/
def ZNew (X : Cx) (H : Hp) (N a b c : Addr) : Prop := (∀ d o, (zObjs N a b c).lookup d = some o → H d = none ∧ X.s_0.heap.objs.size ≤ d) ∧ a < N ∧ b < N ∧ c < N
def tZip3 (X : Cx) (ta : TA) : TE := fun σ H Q => ta σ H fun vs H1 => ∃ (a b c : Addr) (xs ys zs : List V), vs = [.ref a, .ref b, .ref c] ∧ SqT X.K H1 a xs ∧ SqT X.K H1 b ys ∧ SqT X.K H1 c zs ∧ ∀ N : Addr, ZNew X H1 N a b c → Q (.ref (N + 5)) (addX H1 (zObjs N a b c))
theorem pe_zip3 {ta : TA} (hg : Gl X "zip") (hm : X.mg "zip" = none) (ha : PA X [a, b, c] ta) (hs : starEach [a, b, c] X.env = (false, eval a X.env) :: starEach [b, c] X.env := by rfl) (hpl : (backTo pos (starEach [b, c] X.env)).any (·.1) = false := by rfl) :
    PE X (.Call (.Name "zip" p) [a, b, c] [] pos) (tZip3 X ta) := by
  refine ⟨fun pins s σ H Q I h => ?_⟩
  refine Call_ (ld_blt I hg hm PyProof.Rows.boot_zip (PyProof.Rows.callWith_type1 (thn (ha.run pos pins s σ H _ I h) fun us s1 ⟨vs, H1, I1, r1, q1⟩ => ?_) hs hpl))
  obtain ⟨a1, a2, a3, xs, ys, zs, rfl, h1, h2, h3, hq⟩ := q1
  cases r1 with
  | cons r r1 =>
    cases r1 with
    | cons r' r1 =>
      cases r1 with
      | cons r'' r1 =>
        cases r1
        cases r
        cases r'
        cases r''
        obtain ⟨its, rvi, isq⟩ := hasK_now (k := false) I1 h1
        obtain ⟨its2, rvi2, isq2⟩ := hasK_now (k := false) I1 h2
        obtain ⟨its3, rvi3, isq3⟩ := hasK_now (k := false) I1 h3
        refine zip_begins3 (beginsK (k := false) its.toArray) (beginsK (k := false) its2.toArray) (beginsK (k := false) its3.toArray) isq isq2 isq3 fun h' hz hTI hTO g1 g2 g3 _ hk => ?_
        have hn : ∀ d o, (zObjs s1.heap.objs.size a1 a2 a3).lookup d = some o → s1.heap.objs.size ≤ d ∧ h'.get? d = some o := fun d o e => by
          have m := lookup_mem e
          simp only [zObjs, List.mem_cons, List.not_mem_nil, or_false, Prod.mk.injEq] at m
          rcases m with ⟨rfl, rfl⟩ | ⟨rfl, rfl⟩ | ⟨rfl, rfl⟩ | ⟨rfl, rfl⟩ | ⟨rfl, rfl⟩ | ⟨rfl, rfl⟩
          · exact ⟨Nat.le_add_right _ _, hz⟩
          · exact ⟨Nat.le_add_right _ _, hTI⟩
          · exact ⟨Nat.le_add_right _ _, hTO⟩
          · exact ⟨Nat.le_refl _, g1⟩
          · exact ⟨Nat.le_add_right _ _, g2⟩
          · exact ⟨Nat.le_add_right _ _, g3⟩
        refine ⟨.ref (s1.heap.objs.size + 5), _, inv_adopt I1 hk hn, rfl, hq s1.heap.objs.size ⟨fun d o e => ?_, isSeq_lt isq, isSeq_lt isq2, isSeq_lt isq3⟩⟩
        exact ⟨I1.hok.fresh (hn d o e).1, Nat.le_trans I1.sz (hn d o e).1⟩
def wiZ (X : Cx) (i : Nat) : TI := fun σ H R => ∃ (H1 : Hp) (N a b c : Addr) (n1 n2 n3 : Nat), σ[i]? = some (some (.ref (N + 5))) ∧ H = addX H1 (zObjs N a b c) ∧ ZNew X H1 N a b c ∧ R (JN (min (min n1 n2) n3) (Has3 X.K a b c n1 n2 n3) row3V) H1
theorem pi_nameZ {i : Nat} (hN : X.N[i]? = some x) (hv : Vis X.env.scope x) (hd : (x == ("__debug__" : Str)) = false := by decide) (hcd : (x == ("__classdict__" : Str)) = false := by decide) : PI X (.Tuple elts kk tpos) (.Name x pos) (wiZ X i) := by
  refine ⟨fun pins s σ H R I h => ?_⟩
  obtain ⟨H1, N, a1, a2, a3, n1, n2, n3, hσ, rfl, hz, hR⟩ := h
  refine thn ((pe_var hN hv hd hcd).run pins s σ _ (fun y H' => y = .ref (N + 5) ∧ H' = addX H1 (zObjs N a1 a2 a3)) I ⟨_, hσ, rfl, rfl⟩) fun v s1 ⟨y, H', I1, rv, ey, eH⟩ => ?_
  subst ey eH
  obtain rfl : v = Value.ref (N + 5) := rv
  have lk : ∀ d o, (d, o) ∈ zObjs N a1 a2 a3 → (zObjs N a1 a2 a3).lookup d = some o := fun d o m => mem_lookup (zObjs_nd N a1 a2 a3) m
  have kn : ∀ d o, (d, o) ∈ zObjs N a1 a2 a3 → s1.heap.get? d = some o := fun d o m => inv_known I1 (lk d o m)
  have k1 := kn _ _ (List.Mem.head _)
  have k2 := kn _ _ (.tail _ (.head _))
  have k3 := kn _ _ (.tail _ (.tail _ (.head _)))
  have k4 := kn N (itObj false a1) (.tail _ (.tail _ (.tail _ (.head _))))
  have k5 := kn (N + 1) (itObj false a2) (.tail _ (.tail _ (.tail _ (.tail _ (.head _)))))
  have k6 := kn (N + 2) (itObj false a3) (.tail _ (.tail _ (.tail _ (.tail _ (.tail _ (.head _))))))
  refine wpAny_pyIter_zip (TI := N + 3) (TO := N + 4) (f0 := .none) k1 ?_
  refine ⟨N + 5, [N + 5, N + 3, N + 4, N, N + 1, N + 2], _, _, H1, rfl, inv_drop I1 fun d o e => (hz.1 d o e).1, turn_zip3T (a := a1) (b := a2) (c := a3) (n1 := n1) (n2 := n2) (n3 := n3) hz.2.1 hz.2.2.1 hz.2.2.2, ⟨Nat.zero_le _, k1, k2, ⟨_, _, _, k3⟩, isIt_new k4, isIt_new k5, isIt_new k6⟩, fun d hd => ?_, hR⟩
  have hl : ∃ o, (zObjs N a1 a2 a3).lookup d = some o := by
    obtain ⟨⟨d', o⟩, hm, rfl⟩ := List.mem_map.mp (show d ∈ (zObjs N a1 a2 a3).map (·.1) from hd)
    exact ⟨o, lk _ _ hm⟩
  obtain ⟨o, ho⟩ := hl
  exact inv_fp I1 ho (hz.1 d o ho).1 (hz.1 d o ho).2
/-- rows = zip(a, b, c); return f([elt for .. in rows]) -/
def sZip3 (f : List IV → Sto → RO) (i : Nat) (rs : SemA) (ct : CT) (vs : List Nat) (te : SemE) : SemS := fun env st => RS.ofE (rs env st) env fun v st1 => match v with
  | [.tup xs, .tup ys, .tup zs] => bif Nat.blt i env.length then RS.ofE ((RE.bind (bif Nat.ble (zip3I xs ys zs).length lineI then loopC ct (wipeI (env.set i none) vs) rYes te (zip3I xs ys zs) [] st1 else .bad) fun l st2 => RE.ofO (st2.allocO (.lst l))).bind fun r st3 => RE.ofO (f [r] st3)) (env.set i none) fun r st4 => .rt r st4 else .bad
  | _ => .bad
theorem RelEnv.lose {K : PySem.W.Frag} {H : Hp} {ρ : List Addr} {env : IEnv} {σ : L2.St} (h : RelEnv K H ρ env σ) (i : Nat) (y : Option V) : RelEnv K H ρ (env.set i none) (σ.set i y) := by
  refine ⟨by simp [h.len], fun m w q => ?_⟩
  by_cases hj : i = m
  · subst hj
    have hl : i < env.length := by
      have := (List.getElem?_eq_some_iff.mp q).1
      simpa using this
    rw [List.getElem?_set_self hl] at q
    cases q
  · rw [List.getElem?_set_ne hj] at q ⊢
    exact h.get m w q
theorem sss_zip3 {f : List IV → Sto → RO} {id : String} {fn : Str} {i : Nat} {p' pz pc p1 pn pm pl pq p2 : Pos} {elt : Expr} {scope : Scope} {own : List (Str × Nat)} {ct : CT} {te : SemE} (hc : X.calm = true) (hN : X.N.Nodup) (hi : X.N[i]? = some x) (hx : Loc X.env.scope x)
    (hgz : Gl X "zip") (hmz : X.mg "zip" = none) (ha : SA X P W [a, b, c] rs) (hcall : CallR X (.builtin id) (rCl X.K f)) (hgf : Gl X fn) (hmf : X.mg fn = none) (hvf : bootBuiltins fn = some (.builtin id))
    (hsl : ∀ j ∈ ct.slots, j ∈ own.map (·.2)) (ok : BlkOk X.N X.env.scope scope own) (hv : Vis X.env.scope x)
    (hg : ∀ (s : Shared) (H : Hp) (C : Addr) (cl : List (Str × Addr)) (fp : List Addr), PG (X.blk s H scope (compEnvC scope cl C X.env) fp) (.Tuple elts kk tpos) (ct.tg X.K))
    (he : ∀ (s : Shared) (H : Hp) (C : Addr) (cl : List (Str × Addr)) (fp : List Addr), PE (X.blk s H scope (compEnvC scope cl C X.env) fp) elt (tE P WF te))
    (hs : starEach [a, b, c] X.env = (false, eval a X.env) :: starEach [b, c] X.env := by rfl) (hpl : (backTo pc (starEach [b, c] X.env)).any (·.1) = false := by rfl) (hsw : swapsWith (.Call (.Name "zip" pz) [a, b, c] [] pc) (some (.Name x p')) p1.line X.env = pure false := by rfl)
    (hf : X.fn x = true ∨ X.env.scope.names.lookup x = some .local := by first | exact .inl rfl | exact .inr rfl | assumption)
    (hn : fn ≠ "__name__" := by decide) (hdb : (fn == ("__debug__" : Str)) = false := by decide) (hst : starEach [.ListComp elt [⟨.Tuple elts kk tpos, .Name x pn, [], 0⟩] scope pl] X.env = (false, eval (.ListComp elt [⟨.Tuple elts kk tpos, .Name x pn, [], 0⟩] scope pl) X.env) :: starEach [] X.env := by rfl)
    (hpl2 : (backTo pq (starEach [] X.env)).any (·.1) = false := by rfl) (hd : (x == ("__debug__" : Str)) = false := by decide) (hcd : (x == ("__classdict__" : Str)) = false := by decide) (hfs : ∀ y, foldedSetIterable (.Name x pn) X.env y = pure y := by intro _; rfl) :
    SSs X P W [.Assign [.Name x p'] (.Call (.Name "zip" pz) [a, b, c] [] pc) p1, .Return (some (.Call (.Name fn pm) [.ListComp elt [⟨.Tuple elts kk tpos, .Name x pn, [], 0⟩] scope pl] [] pq)) p2] (sZip3 f i rs ct (own.map (·.2)) te) :=
  (pss_cons (ps_set hN hi hx (pe_zip3 hgz hmz ha hs hpl) hsw hf) (pss_one (ps_ret (pe_callB hcall hgf hmf hvf (pa_cons (pe_lc (tt := tT P WF rYes) (te := tE P WF te) hc hN (pi_nameZ hi hv hd hcd) ok hg (fun _ _ _ _ _ => pts_yes) he hfs) pa_nil hst) hn hdb hst hpl2)))).of fun D σ H ⟨ρ, env, st, r, re, h⟩ => by
    refine ⟨ρ, env, st, r, re, (PostS.ofE r.r re h).mono fun vs H1 ⟨ρ1, st1, v, e1, r1, re1, p1, h1⟩ => ?_⟩
    split at h1
    · rename_i xs ys zs
      obtain ⟨v1, v2, v3, rfl, q1, q2, q3⟩ := RepVs.three p1
      cases q1 with
      | tup ha1 ta1 =>
      cases q2 with
      | tup ha2 ta2 =>
      cases q3 with
      | tup ha3 ta3 =>
      cases hb : Nat.blt i env.length with
      | false => rw [hb] at h1; exact h1.elim
      | true =>
      rw [hb] at h1
      simp only [cond_true] at h1
      have hlt : i < σ.length := by rw [← re1.len]; exact Nat.le_of_ble_eq_true hb
      refine ⟨_, _, _, _, _, _, rfl, ha1, ha2, ha3, fun N hz => ?_⟩
      refine ⟨H1, N, _, _, _, xs.length, ys.length, zs.length, by rw [List.getElem?_set_self hlt], rfl, hz, ?_⟩
      show LcGoal X.K ct (tT P WF rYes) (tE P WF te) (own.map (·.2)) (σ.set i (some (.ref (N + 5)))) (fun z H3 => rCl X.K f [z] H3 D.rt) (JN _ (Has3 X.K _ _ _ xs.length ys.length zs.length) row3V) H1
      refine lc_ok (W := W) (f := .items (zip3I xs ys zs)) (own := own) hsl r1 (re1.lose i _) ⟨_, gives3, ⟨_, ha1, ta1⟩, ⟨_, ha2, ta2⟩, _, ha3, ta3⟩ ?_
      have hp := Post.bind (Rp := RpV X.K) (PostS.ofE (Rp := RpV X.K) (σ := σ.set i (some (.ref (N + 5)))) r1.r (re1.lose i _) h1)
      refine hp.mono fun z H2 ⟨ρ2, st2, w, e2, r2, pw, h2⟩ => ?_
      refine ⟨ρ2, st2, [w], r2.r, .cons pw .nil, (h2.ofO r2).mono fun y H3 ⟨ρ3, st3, w3, e3, r3, _, p3, h3⟩ => ?_⟩
      exact h3 ρ3 H3 y (ExtX.refl _ _) r3 p3
    · exact h1.elim
end
end PI

set_option Elab.async false
set_option linter.all false
set_option maxRecDepth 100000
set_option maxHeartbeats 4000000
/-! PI25: a def that wants the guards known, called with arguments. -/
namespace PI
open PySem PySem.Spec PyProof.Rows L2
section
variable {X : Cx} {P : Par X.K} {W : WX} {a b c e : Expr} {es : List Expr} {ra : SemE} {rs : SemA} {pos p : Pos} {x : Str}
theorem se_dnG {g : List IV → Sto → RE IV} {k n : Nat} (D : DnG X.prog X.w X.K X.mg X.base (P.T, P.cm) k x n g) (tk : Takes X W) (hgd : X.A.guards = some []) (hr : Room k X.A) (hg : Gl X x) (ha : SA X P W (a :: es) rs) (hl : LenN n rs)
    (hdb : (x == ("__debug__" : Str)) = false := by decide) (he : starEach (a :: es) X.env = (false, eval a X.env) :: starEach es X.env := by rfl) (hpl : (backTo pos (starEach es X.env)).any (·.1) = false := by rfl) : SE X P W (.Call (.Name x p) (a :: es) [] pos) (rDef g rs) := by
  obtain ⟨f, fd, ps, hps, h1, h2, hb, F⟩ := D.ex
  refine ⟨fun pins s σ H Q I h => ?_⟩
  have h' : tA P W rs σ H fun vs H1 => ∃ (ρ1 : List Addr) (st1 : Sto) (v : List IV), RelX P H1 ρ1 st1 ∧ RepVs X.K H1 ρ1 v vs ∧ Post P W (RpV X.K) ρ1 H1 σ Q (g v st1) := by
    obtain ⟨ρ, env, st, r, re, h⟩ := h
    exact ⟨ρ, env, st, r, re, h.bind.mono fun x H1 ⟨ρ1, st1, v, e1, r1, p1, h1⟩ => ⟨ρ1, st1, v, r1, p1, h1⟩⟩
  have h2' := hl.many σ H _ h'
  refine wpAny_Call_Name_kw (ld_glob I hg h1 ?_ hdb)
  refine PySem.W.callWith_K (h₀ := X.base) I.ok.mod.kin h2 ?_ he hpl
  refine thn (ha.run pos pins s σ H _ I h2') fun us s1 ⟨vs, H1, I1, r1, hlen, ρ1, st1, v, rx1, p1, hp⟩ => ?_
  have lu : us.length = ps.length := by rw [hps, ← hlen]; exact r1.length.symm
  have bt := hb s1 us I1.kIn (by rw [List.append_nil]; exact lu)
  rw [List.append_nil] at bt
  refine ⟨I1.kIn, wpAny_call (codeAny_mono (F.run X.A X.stack s1 H1 ⟨us, []⟩ us vs Q (WE W σ) hgd hr I1.env0 bt r1 ⟨hlen, P, ρ1, st1, v, rfl, rx1, p1, hp.wx fun c d H' w => w⟩) fun r s' hq => ?_)⟩
  cases r with
  | error e => exact passAt tk σ pins H1 s1 e s' I1 hq
  | ok fl =>
    cases fl with
    | ret u => exact I1.after hq
    | next => exact False.elim hq
    | brk => exact False.elim hq
    | cont => exact False.elim hq
end
end PI
namespace PI
open PySem PySem.Spec PyProof.Rows L2
def ctGs (is : List Nat) : TGs := fun vs σ H Q => vs.length = is.length ∧ Q (setsI is vs σ) H
section
variable {X : Cx} {P : Par X.K} {W : WX} {e : Expr} {es : List Expr} {pos : Pos} {kk i : Nat} {is : List Nat}
theorem pgs_ctn : PGs X [] (ctGs []) := pgs_nil.of fun vs σ H Q ⟨hl, q⟩ => by
  cases vs with
  | nil => exact ⟨rfl, q⟩
  | cons v r => cases hl
theorem pgs_ctc (h1 : PG X e (gName i)) (h2 : PGs X es (ctGs is)) (hs : (assignEach (e :: es) X.env).map (·.2) = assign e X.env :: (assignEach es X.env).map (·.2) := by rfl) : PGs X (e :: es) (ctGs (i :: is)) := (pgs_cons h1 h2 hs).of fun vs σ H Q ⟨hl, q⟩ => by
  cases vs with
  | nil => cases hl
  | cons v r => exact ⟨v, r, rfl, Nat.succ.inj hl, q⟩
theorem pg_ct (hc : X.calm = true) (h : PGs X es (ctGs is)) (hn : (assignEach es X.env).length = is.length := by rfl) (hst : (assignEach es X.env).findIdx? (·.1) = none := by rfl) : PG X (.Tuple es kk pos) ((CT.tup is).tg X.K) := pg_tup hc h hn hst
variable {elt tg iter : Expr} {ifs : List Expr} {scope : Scope} {own : List (Str × Nat)} {it : IEnv → Sto → RE FI} {ct : CT} {tt : SemT} {te : SemE}
theorem lc_conv (hsl : ∀ i ∈ ct.slots, i ∈ own.map (·.2)) {σ : L2.St} {H : Hp} {Q : VK} (h : tE P W (rLc it ct (own.map (·.2)) tt te) σ H Q) : tLc (tI P W it) (ct.tg X.K) (tT P WF tt) (tE P WF te) (own.map (·.2)) σ H Q := by
  obtain ⟨ρ, env, st, r, re, h⟩ := h
  exact ⟨ρ, env, st, r, re, h.bind.mono fun J H1 ⟨ρ1, st1, f, e1, r1, p1, h1⟩ => lc_ok hsl r1 (re.monoX r.r e1) p1 h1⟩
theorem ss_setLc {y : Str} {py spos : Pos} (hc : X.calm = true) (hN : X.N.Nodup) (hy : X.N[i]? = some y) (hyl : X.env.scope.names.lookup y = some .local) (hsw : swapsWith (.ListComp elt [⟨tg, iter, ifs, 0⟩] scope pos) (some (.Name y py)) spos.line X.env = pure true)
    (hi : SI X P W tg iter it) (ok : BlkOk X.N X.env.scope scope own) (hsl : ∀ i ∈ ct.slots, i ∈ own.map (·.2))
    (hg : ∀ (s : Shared) (H : Hp) (C : Addr) (cl : List (Str × Addr)) (fp : List Addr), PG (X.blk s H scope (compEnvC scope cl C X.env) fp) tg (ct.tg X.K)) (ht : ∀ (s : Shared) (H : Hp) (C : Addr) (cl : List (Str × Addr)) (fp : List Addr), PTs (X.blk s H scope (compEnvC scope cl C X.env) fp) ifs (tT P WF tt))
    (he : ∀ (s : Shared) (H : Hp) (C : Addr) (cl : List (Str × Addr)) (fp : List Addr), PE (X.blk s H scope (compEnvC scope cl C X.env) fp) elt (tE P WF te)) (hs : ∀ x, foldedSetIterable iter X.env x = pure x := by intro _; rfl) :
    SS X P W (.Assign [.Name y py] (.ListComp elt [⟨tg, iter, ifs, 0⟩] scope pos) spos) (sAsg (rLc it ct (own.map (·.2)) tt te) (gN i)) :=
  (ps_setLc hc hN hy hyl hsw hi ok hg ht he hs).of fun D σ H ⟨ρ, env, st, r, re, h⟩ =>
    lc_conv (W := W) hsl ⟨ρ, env, st, r, re, (PostS.ofE r.r re h).mono fun x H1 ⟨ρ1, st1, v, e1, r1, re1, p1, h1⟩ => h1.hereN r1 (re1.set p1 i)⟩
end
end PI

set_option Elab.async false
set_option linter.all false
set_option maxRecDepth 100000
set_option maxHeartbeats 4000000
/-! PI26: sum of a tuple of ints. -/
namespace PI
open PySem PySem.Spec PyProof.Rows L2
section
variable {prog : Program} {w : World} {A : Around} {E : Value → Shared → Prop} {s : Shared} {l : Addr}
theorem sum_tupG {xs : Array (Int × Tok)} {Q : Value → Shared → Prop} (hh : A.handled = none) (hl : s.heap.IsTuple l (intItems xs))
    (h : ∀ h' tk t', (∀ b o, s.heap.get? b = some o → h'.get? b = some o) → Q (.int (preSum (numAt xs) xs.size) t') { s with heap := h', toks := tk }) : wpAny (model prog w) A (call (.builtin "sum") [.ref l]) Q E s := by
  have hlt : l < s.heap.objs.size := by obtain ⟨o, ho, _⟩ := hl; exact Heap.lt_size ho
  have keepT : ∀ h' : Heap, (∀ b o, s.heap.get? b = some o → h'.get? b = some o) → h'.IsTuple l (intItems xs) := fun h' k => hl.at fun o e => k l o e
  refine call_sum_walkG (wpAny_pyIter_tuple hl ?_)
  refine ⟨_, _, _, _, _, _, numAt xs, rfl, Walks.tuple (A := A.in1) hh s.heap.objs.size l (Nat.ne_of_lt hlt) (intItems xs), ⟨⟨_, Heap.get?_push_size _ rfl, rfl, rfl⟩, keepT _ fun b o e => Heap.get?_push_of_some _ e⟩, fun b hb => ?_, fun _ _ => intItems_at, fun h' tk t' hk => ?_⟩
  · rw [Heap.size_push]
    have e : b = s.heap.objs.size ∨ b = l := by simpa using hb
    rcases e with z | z
    · rw [z]; exact Nat.lt_succ_self _
    · rw [z]; exact Nat.lt_succ_of_lt hlt
  · have q := h h' tk t' fun b o e => hk b o (fun z => by
      have z' : b = s.heap.objs.size := by simpa using z
      exact Nat.ne_of_lt (Heap.lt_size e) z') (Heap.get?_push_of_some _ e)
    simpa [intItems] using q
theorem sum_tup {its : List Value} {ns : List Int} {Q : Value → Shared → Prop} (hh : A.handled = none) (hl : s.heap.IsTuple l its.toArray) (hi : IntsAre its ns)
    (h : ∀ h' tk t', (∀ b o, s.heap.get? b = some o → h'.get? b = some o) → Q (.int ns.sum t') { s with heap := h', toks := tk }) : wpAny (model prog w) A (call (.builtin "sum") [.ref l]) Q E s := by
  obtain ⟨xs, e⟩ := hi.allInts.items
  have hn : numsOf (intItems xs).toList = ns := by rw [← e]; exact hi.numsOf
  rw [nums_intItems] at hn
  rw [e] at hl
  refine sum_tupG hh hl fun h' tk t' hk => ?_
  have q := h h' tk t' hk
  rw [preSum_eq, List.take_of_length_le (by simp), hn]
  exact q
end
def sumT : List IV → Sto → RO
  | [.tup xs], st => match intsOf xs with
    | some ns => some (.int ns.sum, st)
    | none => none
  | xs, st => sumI xs st
theorem call_sumT {X : Cx} (hc : X.calm = true) : CallR X (.builtin "sum") (rCl X.K sumT) := by
  rintro pins s σ H vs us Q I rv ⟨ρ, st, xs, r, t, h⟩
  by_cases ht : ∃ ys, xs = [.tup ys]
  · obtain ⟨ys, rfl⟩ := ht
    obtain ⟨v, rfl, pv⟩ := RepVs.one t
    cases pv with
    | tup hq tq =>
      unfold sumT at h
      cases e : intsOf ys with
      | none => simp only [e] at h; exact h.elim
      | some ns =>
        simp only [e] at h
        rw [ints_ok tq e] at hq
        obtain ⟨its, rvi, p, _⟩ := I.tuple hq
        obtain ⟨u, rfl, ru⟩ := vals1 rv
        cases ru
        exact sum_tup (I.ok.hd hc) p rvi.ints fun h' tk t' hk => ⟨.int _, H, I.kept hk, ⟨_, rfl⟩, h.here r (.int _)⟩
  · have e : sumT xs st = sumI xs st := by
      unfold sumT
      split
      · rename_i ys
        exact absurd ⟨ys, rfl⟩ ht
      · rfl
    rw [e] at h
    exact call_sumI hc pins s σ H vs us Q I rv ⟨ρ, st, xs, r, t, h⟩
end PI

set_option Elab.async false
set_option linter.all false
set_option maxRecDepth 100000
set_option maxHeartbeats 2000000
namespace law_k18
open PySem PySem.Spec PyProof.Rows L2 PI
def topS (i : Nat) : Stmt := PySem.Challenge.pw_noclicks_k18_whole_deadlines.main.body.getD i (.Pass ⟨0, 0, 0, 0⟩)
def g_MOST_LATE : IV := .int (10 ^ 7)
abbrev s_is_whole : Stmt := topS 4
abbrev s_is_from : Stmt := topS 5
abbrev s_is_many : Stmt := topS 6
abbrev s_is_plan : Stmt := topS 9
abbrev s_check_plan : Stmt := topS 10
abbrev s_check_hearing : Stmt := topS 11
abbrev s_heard_times : Stmt := topS 12
abbrev s_played_times : Stmt := topS 13
abbrev s_late_blocks : Stmt := topS 14
abbrev s_is_never : Stmt := topS 16
abbrev s_least_late : Stmt := topS 15
abbrev s_shows_least_late : Stmt := topS 17
abbrev s_even_plan : Stmt := topS 18
abbrev s_least_size : Stmt := topS 19
abbrev s_delay_of : Stmt := topS 20
abbrev s__law_cell_at : Stmt := topS 22
abbrev s__law_draw : Stmt := topS 23
abbrev s__law_number : Stmt := topS 24
abbrev s__law_next : Stmt := topS 25
abbrev s__law_heard : Stmt := topS 27
abbrev s__law_times : Stmt := topS 28
abbrev s__law_late : Stmt := topS 29
abbrev s__law_refused_right : Stmt := topS 30
abbrev s_law : Stmt := topS 31
abbrev s__law_refuses : Stmt := topS 26
def r_is_whole : SemS :=
  (sRet (rAnd (rIsT .int (rVar 0)) (rNot (rIsT .bl (rVar 0)))))
def d_is_whole : List IV → Sto → RE IV := callI 1 r_is_whole

def r_is_from : SemS :=
  (sRet (rAnd (rDef d_is_whole (rCons (rVar 0) rNil)) (rChain cLe cLe (rVar 1) (rVar 0) (rVar 2))))
def d_is_from : List IV → Sto → RE IV := callI 3 r_is_from

def r_is_many : SemS :=
  (sRet (rAnd (rIsT .tup (rVar 0)) (rBin cEq (rCall lenI (rCons (rVar 0) rNil)) (rVar 1))))
def d_is_many : List IV → Sto → RE IV := callI 2 r_is_many

def r_is_plan : SemS :=
  (sSeq (sIf (rTOr (rTNot (rTru (rDef d_is_many (rCons (rVar 0) (rCons (rC (.int (2))) rNil))))) (rTOr (rTNot (rTru (rCall allI (rCons (rLc (fSeq (rVar 0)) (.one 3) [3] rYes (rIsT .tup (rVar 3))) rNil)))) (rTNot (rTBl (rChain cLe cLe (rC (.int (1))) (rCall lenI (rCons (rBin idxI (rVar 0) (rC (.int (0)))) rNil)) (rC (.int (60)))))))) (sRet (rC (.bl false))) sPass)
    (sSeq (sAsg (rVar 0) (gT 2 (gsCons (gN 1) (gsCons (gN 2) gsNil))))
    (sRet (rAnd (rBin cEq (rCall lenI (rCons (rVar 2) rNil)) (rCall lenI (rCons (rVar 1) rNil))) (rAnd (rCall allI (rCons (rLc (fSeq (rVar 1)) (.one 4) [4] rYes (rDef d_is_from (rCons (rVar 4) (rCons (rC (.int (1))) (rCons (rC (.int (1000))) rNil))))) rNil)) (rCall allI (rCons (rLc (fSeq (rVar 2)) (.one 4) [4] rYes (rDef d_is_from (rCons (rVar 4) (rCons (rC (.int (0))) (rCons (rC (.int (10000))) rNil))))) rNil)))))))
def d_is_plan : List IV → Sto → RE IV := callI 5 r_is_plan

def r_check_plan : SemS :=
  (sSeq (sIf (rTNot (rTru (rDef d_is_plan (rCons (rVar 0) rNil)))) (sRaise 1 "thing" (rVar 0)) sPass)
    (sIf (rTNot (rTru (rDef d_is_from (rCons (rVar 1) (rCons (rC (.int (1))) (rCons (rC (.int (100))) rNil)))))) (sRaise 1 "thing" (rVar 1)) sPass))
def d_check_plan : List IV → Sto → RE IV := callI 2 r_check_plan

def r_check_hearing : SemS :=
  (sSeq (sExpr (rDef d_check_plan (rCons (rVar 0) (rCons (rVar 1) rNil))))
    (sSeq (sIf (rTNot (rTru (rDef d_is_from (rCons (rVar 2) (rCons (rC (.int (1))) (rCons (rC (.int (60))) rNil)))))) (sRaise 1 "thing" (rVar 2)) sPass)
    (sIf (rTNot (rTru (rDef d_is_from (rCons (rVar 3) (rCons (rC (.int (0))) (rCons (rC g_MOST_LATE) rNil)))))) (sRaise 1 "thing" (rVar 3)) sPass)))
def d_check_hearing : List IV → Sto → RE IV := callI 4 r_check_hearing

def r_heard_times : SemS :=
  (sSeq (sExpr (rDef d_check_hearing (rCons (rVar 0) (rCons (rVar 1) (rCons (rC (.int (1))) (rCons (rVar 2) rNil))))))
    (sSeq (sAsg (rLst (rCons (rVar 2) rNil)) (gN 3))
    (sSeq (sFor (fSeq (rBin idxI (rVar 0) (rC (.int (0))))) (gN 4) (sExpr (rMethL appI (rVar 3) (rCons (rBin addI (rBin idxI (rVar 3) (rUn negI (rC (.int (1))))) (rBin mulT (rVar 1) (rVar 4))) rNil))))
    (sRet (rCall tupleI (rCons (rVar 3) rNil))))))
def d_heard_times : List IV → Sto → RE IV := callI 5 r_heard_times

def r_played_times : SemS :=
  (sSeq (sExpr (rDef d_check_hearing (rCons (rVar 0) (rCons (rVar 1) (rCons (rVar 2) (rCons (rVar 3) rNil))))))
    (sSeq (sPar 4 5 (rCons (rDef d_heard_times (rCons (rVar 0) (rCons (rVar 1) (rCons (rVar 3) rNil)))) (rCons (rLst rNil) rNil)))
    (sSeq (sFor (fEnum (rCons (rBin idxI (rVar 0) (rC (.int (1)))) rNil)) (gT 2 (gsCons (gN 6) (gsCons (gN 7) gsNil))) (sSeq (sAsg (rIfE (rTBl (rBin cNe (rVar 5) (rLst rNil))) (rBin idxI (rVar 5) (rUn negI (rC (.int (1))))) (rC (.int (0)))) (gN 8))
    (sSeq (sAsg (rIfE (rTBl (rBin cGe (rVar 6) (rVar 2))) (rBin idxI (rVar 4) (rBin addI (rBin subI (rVar 6) (rVar 2)) (rC (.int (1))))) (rC (.int (0)))) (gN 9))
    (sExpr (rMethL appI (rVar 5) (rCons (rBin addI (rCall maxI (rCons (rLst (rCons (rVar 8) (rCons (rVar 9) rNil))) rNil)) (rVar 7)) rNil))))))
    (sRet (rCall tupleI (rCons (rVar 5) rNil))))))
def d_played_times : List IV → Sto → RE IV := callI 10 r_played_times

def r_late_blocks : SemS :=
  (sSeq (sAsg (rDef d_heard_times (rCons (rVar 0) (rCons (rVar 1) (rCons (rVar 3) rNil)))) (gN 4))
    (sRet (rCall tupleI (rCons (rLc (fEnum (rCons (rDef d_played_times (rCons (rVar 0) (rCons (rVar 1) (rCons (rVar 2) (rCons (rVar 3) rNil))))) rNil)) (.tup [5, 6]) [5, 6] (rTBl (rBin cGt (rVar 6) (rBin idxI (rVar 4) (rVar 5)))) (rVar 5)) rNil))))
def d_late_blocks : List IV → Sto → RE IV := callI 7 r_late_blocks

def r_is_never : SemS :=
  (sSeq (sAsg (rC (.int (0))) (gN 4))
    (sSeq (sFor (fRng3 (rCons (rVar 3) (rCons (rBin subI (rVar 2) (rC (.int (1)))) (rCons (rUn negI (rC (.int (1)))) rNil)))) (gN 5) (sSeq (sAug 4 (augI fun i j => i + j) (rBin idxI (rBin idxI (rVar 0) (rC (.int (1)))) (rVar 5)))
    (sIf (rTBl (rBin cGt (rVar 4) (rBin mulT (rVar 1) (rCall sumT (rCons (rSl (rBin idxI (rVar 0) (rC (.int (0)))) (rPart (rBin addI (rBin subI (rVar 5) (rVar 2)) (rC (.int (1))))) (rPart (rVar 3))) rNil))))) (sRet (rC (.bl true))) sPass)))
    (sRet (rC (.bl false)))))
def d_is_never : List IV → Sto → RE IV := callI 6 r_is_never

def r_least_late : SemS :=
  (sSeq (sExpr (rDef d_check_hearing (rCons (rVar 0) (rCons (rVar 1) (rCons (rVar 2) (rCons (rC (.int (0))) rNil))))))
    (sSeq (sAsg (rLc (fRng1 (rCons (rCall lenI (rCons (rBin idxI (rVar 0) (rC (.int (0)))) rNil)) rNil)) (.one 7) [7] (rTAnd (rTBl (rBin cGe (rVar 7) (rVar 2))) (rTru (rDef d_is_never (rCons (rVar 0) (rCons (rVar 1) (rCons (rVar 2) (rCons (rVar 7) rNil))))))) (rVar 7)) (gN 3))
    (sSeq (sIf (rTBl (rBin cNe (rVar 3) (rLst rNil))) (sRet (rTup (rCons (rC (.str [110, 101, 118, 101, 114])) (rCons (rBin idxI (rVar 3) (rC (.int (0)))) rNil)))) sPass)
    (sSeq (sPar 4 5 (rCons (rC (.int (0))) (rCons (rCall sumT (rCons (rBin idxI (rVar 0) (rC (.int (1)))) rNil)) rNil)))
    (sSeq (sWhileF (fun _ _ => 1000000) (rTBl (rBin cLt (rVar 4) (rVar 5))) (sSeq (sAsg (rBin divI (rBin addI (rVar 4) (rVar 5)) (rC (.int (2)))) (gN 6))
    (sIf (rTBl (rBin cEq (rDef d_late_blocks (rCons (rVar 0) (rCons (rVar 1) (rCons (rVar 2) (rCons (rVar 6) rNil))))) (rTup rNil))) (sAsg (rVar 6) (gN 5)) (sAsg (rBin addI (rVar 6) (rC (.int (1)))) (gN 4)))))
    (sRet (rTup (rCons (rC (.str [108, 97, 116, 101])) (rCons (rVar 4) (rCons (rIfE (rTBl (rBin cGt (rVar 4) (rC (.int (0))))) (rBin idxI (rDef d_late_blocks (rCons (rVar 0) (rCons (rVar 1) (rCons (rVar 2) (rCons (rBin subI (rVar 4) (rC (.int (1)))) rNil))))) (rC (.int (0)))) (rC .non)) rNil))))))))))
def d_least_late : List IV → Sto → RE IV := callI 8 r_least_late

def r_shows_least_late : SemS :=
  (sSeq (sAsg (rDef d_least_late (rCons (rVar 0) (rCons (rVar 1) (rCons (rVar 2) rNil)))) (gN 4))
    (sSeq (sIf (rTBl (rBin cEq (rBin idxI (rVar 4) (rC (.int (0)))) (rC (.str [110, 101, 118, 101, 114])))) (sSeq (sIf (rTOr (rTNot (rTru (rDef d_is_many (rCons (rVar 3) (rCons (rC (.int (2))) rNil))))) (rTOr (rTBl (rBin cNe (rBin idxI (rVar 3) (rC (.int (0)))) (rC (.str [110, 101, 118, 101, 114])))) (rTNot (rTru (rDef d_is_from (rCons (rBin idxI (rVar 3) (rC (.int (1)))) (rCons (rC (.int (0))) (rCons (rBin subI (rCall lenI (rCons (rBin idxI (rVar 0) (rC (.int (0)))) rNil)) (rC (.int (1)))) rNil)))))))) (sRet (rC (.bl false))) sPass)
    (sRet (rAnd (rBin cGe (rBin idxI (rVar 3) (rC (.int (1)))) (rVar 2)) (rDef d_is_never (rCons (rVar 0) (rCons (rVar 1) (rCons (rVar 2) (rCons (rBin idxI (rVar 3) (rC (.int (1)))) rNil)))))))) sPass)
    (sSeq (sIf (rTOr (rTNot (rTru (rDef d_is_many (rCons (rVar 3) (rCons (rC (.int (3))) rNil))))) (rTOr (rTBl (rBin cNe (rSl (rVar 3) rNoPart (rPart (rC (.int (2))))) (rSl (rVar 4) rNoPart (rPart (rC (.int (2))))))) (rTNot (rTru (rDef d_is_from (rCons (rBin idxI (rVar 3) (rC (.int (1)))) (rCons (rC (.int (0))) (rCons (rC g_MOST_LATE) rNil)))))))) (sRet (rC (.bl false))) sPass)
    (sSeq (sIf (rTBl (rBin cEq (rBin idxI (rVar 3) (rC (.int (1)))) (rC (.int (0))))) (sRet (rBin cIs (rBin idxI (rVar 3) (rC (.int (2)))) (rC .non))) sPass)
    (sRet (rAnd (rDef d_is_from (rCons (rBin idxI (rVar 3) (rC (.int (2)))) (rCons (rC (.int (0))) (rCons (rBin subI (rCall lenI (rCons (rBin idxI (rVar 0) (rC (.int (0)))) rNil)) (rC (.int (1)))) rNil)))) (rBin cIn (rBin idxI (rVar 3) (rC (.int (2)))) (rDef d_late_blocks (rCons (rVar 0) (rCons (rVar 1) (rCons (rVar 2) (rCons (rBin subI (rBin idxI (rVar 3) (rC (.int (1)))) (rC (.int (1)))) rNil))))))))))))
def d_shows_least_late : List IV → Sto → RE IV := callI 5 r_shows_least_late

def r_even_plan : SemS :=
  (sSeq (sIf (rTNot (rTru (rDef d_is_from (rCons (rVar 1) (rCons (rC (.int (1))) (rCons (rC (.int (1000))) rNil)))))) (sRaise 1 "thing" (rVar 1)) sPass)
    (sSeq (sIf (rTOr (rTNot (rTru (rDef d_is_from (rCons (rVar 0) (rCons (rC (.int (1))) (rCons (rC (.int (60000))) rNil)))))) (rTBl (rBin cGt (rVar 0) (rBin mulT (rC (.int (60))) (rVar 1))))) (sRaise 1 "thing" (rVar 0)) sPass)
    (sSeq (sFor (fSeq (rTup (rCons (rVar 2) (rCons (rVar 3) rNil)))) (gN 4) (sIf (rTNot (rTru (rDef d_is_from (rCons (rVar 4) (rCons (rC (.int (0))) (rCons (rC (.int (10000))) rNil)))))) (sRaise 1 "thing" (rVar 4)) sPass))
    (sSeq (sIf (rTBl (rBin cGt (rBin addI (rVar 2) (rBin mulT (rVar 3) (rCall minI (rCons (rLst (rCons (rVar 1) (rCons (rVar 0) rNil))) rNil)))) (rC (.int (10000))))) (sRaise 1 "thing" (rVar 3)) sPass)
    (sSeq (sAsg (rBin subI (rVar 0) (rBin mulT (rVar 1) (rBin divI (rVar 0) (rVar 1)))) (gN 5))
    (sSeq (sAsg (rBin addI (rBin mulT (rTup (rCons (rVar 1) rNil)) (rBin divI (rVar 0) (rVar 1))) (rIfE (rTBl (rBin cGt (rVar 5) (rC (.int (0))))) (rTup (rCons (rVar 5) rNil)) (rTup rNil))) (gN 6))
    (sRet (rTup (rCons (rVar 6) (rCons (rCall tupleI (rCons (rLc (fSeq (rVar 6)) (.one 7) [7] rYes (rBin addI (rVar 2) (rBin mulT (rVar 3) (rVar 7)))) rNil)) rNil))))))))))
def d_even_plan : List IV → Sto → RE IV := callI 8 r_even_plan

def r_least_size : SemS :=
  (sSeq (sFor (fSeq (rTup (rCons (rVar 0) (rCons (rVar 1) rNil)))) (gN 4) (sIf (rTNot (rTru (rDef d_is_from (rCons (rVar 4) (rCons (rC (.int (0))) (rCons (rC (.int (10000))) rNil)))))) (sRaise 1 "thing" (rVar 4)) sPass))
    (sSeq (sIf (rTNot (rTru (rDef d_is_from (rCons (rVar 2) (rCons (rC (.int (1))) (rCons (rC (.int (100))) rNil)))))) (sRaise 1 "thing" (rVar 2)) sPass)
    (sSeq (sIf (rTNot (rTru (rDef d_is_from (rCons (rVar 3) (rCons (rC (.int (1))) (rCons (rC (.int (1000))) rNil)))))) (sRaise 1 "thing" (rVar 3)) sPass)
    (sSeq (sAsg (rLc (fRng2 (rCons (rC (.int (1))) (rCons (rBin addI (rVar 3) (rC (.int (1)))) rNil))) (.one 6) [6] (rTBl (rBin cLe (rBin addI (rVar 0) (rBin mulT (rVar 1) (rVar 6))) (rBin mulT (rVar 2) (rVar 6)))) (rVar 6)) (gN 5))
    (sRet (rIfE (rTBl (rBin cNe (rVar 5) (rLst rNil))) (rBin idxI (rVar 5) (rC (.int (0)))) (rC .non)))))))
def d_least_size : List IV → Sto → RE IV := callI 7 r_least_size

def r_delay_of : SemS :=
  (sSeq (sAsg (rDef d_least_late (rCons (rVar 0) (rCons (rVar 1) (rCons (rVar 2) rNil)))) (gN 3))
    (sSeq (sIf (rTBl (rBin cEq (rBin idxI (rVar 3) (rC (.int (0)))) (rC (.str [110, 101, 118, 101, 114])))) (sRet (rC .non)) sPass)
    (sSeq (sAsg (rDef d_heard_times (rCons (rVar 0) (rCons (rVar 1) (rCons (rBin idxI (rVar 3) (rC (.int (1)))) rNil)))) (gN 4))
    (sZip3 maxI 5 (rCons (rVar 4) (rCons (rDef d_played_times (rCons (rVar 0) (rCons (rVar 1) (rCons (rVar 2) (rCons (rBin idxI (rVar 3) (rC (.int (1)))) rNil))))) (rCons (rBin idxI (rVar 0) (rC (.int (1)))) rNil))) (.tup [6, 7, 8]) [6, 7, 8] (rBin subI (rVar 6) (rBin subI (rVar 7) (rVar 8)))))))
def d_delay_of : List IV → Sto → RE IV := callI 9 r_delay_of

def r__law_cell_at : SemS :=
  (sSeq (sIf (rTBl (rBin cLt (rVar 1) (rCall lenI (rCons (rVar 0) rNil)))) (sRet (rBin idxI (rVar 0) (rVar 1))) sPass)
    (sRet (rC (.int (0)))))
def d__law_cell_at : List IV → Sto → RE IV := callI 2 r__law_cell_at

def r__law_draw : SemS :=
  (sSeq (sAsg (rTup (rCons (rC (.int (1000003))) (rCons (rC (.int (1000033))) (rCons (rC (.int (1000037))) (rCons (rC (.int (1000039))) (rCons (rC (.int (1000081))) (rCons (rC (.int (1000099))) (rCons (rC (.int (1000117))) (rCons (rC (.int (1000121))) (rCons (rC (.int (1000133))) (rCons (rC (.int (1000151))) (rCons (rC (.int (1000159))) (rCons (rC (.int (1000171))) (rCons (rC (.int (1000183))) (rCons (rC (.int (1000187))) (rCons (rC (.int (1000193))) (rCons (rC (.int (1000199))) rNil))))))))))))))))) (gN 3))
    (sRet (rBin modI (rBin modI (rCall intI (rCons (rBin addI (rBin mulT (rVar 0) (rC (.int (48271)))) (rBin mulT (rVar 1) (rC (.int (69621))))) rNil)) (rBin idxI (rVar 3) (rBin modI (rCall intI (rCons (rVar 1) rNil)) (rC (.int (16)))))) (rVar 2))))
def d__law_draw : List IV → Sto → RE IV := callI 4 r__law_draw

def r__law_number : SemS :=
  (sSeq (sAsg (rC (.int (1))) (gN 3))
    (sSeq (sFor (fRng1 (rCons (rBin modI (rCall intI (rCons (rVar 1) rNil)) (rC (.int (24)))) rNil)) (gN 4) (sAsg (rBin mulT (rVar 3) (rC (.int (1009)))) (gN 3)))
    (sSeq (sAsg (rBin divI (rBin subI (rVar 0) (rBin powI (rC (.int (10))) (rC (.int (18))))) (rVar 3)) (gN 5))
    (sSeq (sIf (rTBl (rBin cGt (rVar 5) (rC (.int (0))))) (sRet (rBin modI (rBin modI (rCall intI (rCons (rVar 5) rNil)) (rC (.int (1009)))) (rVar 2))) sPass)
    (sSeq (sAsg (rBin modI (rCall intI (rCons (rVar 0) rNil)) (rC (.int (1000003)))) (gN 6))
    (sRet (rBin modI (rDef d__law_draw (rCons (rBin mulT (rBin addI (rVar 6) (rBin mulT (rC (.int (977))) (rVar 1))) (rBin addI (rBin addI (rVar 6) (rBin mulT (rC (.int (31))) (rVar 1))) (rC (.int (5))))) (rCons (rBin addI (rBin modI (rCall intI (rCons (rVar 1) rNil)) (rC (.int (9)))) (rC (.int (1)))) (rCons (rC (.int (999983))) rNil)))) (rVar 2))))))))
def d__law_number : List IV → Sto → RE IV := callI 7 r__law_number

def r__law_next : SemS :=
  (sSeq (sAsg (rBin addI (rBin idxI (rVar 0) (rC (.int (2)))) (rC (.int (1)))) (gSubI (rVar 0) (rC (.int (2)))))
    (sSeq (sAsg (rBin divI (rBin idxI (rVar 0) (rC (.int (2)))) (rC (.int (12)))) (gN 2))
    (sSeq (sAsg (rBin addI (rDef d__law_cell_at (rCons (rBin idxI (rVar 0) (rC (.int (0)))) (rCons (rBin addI (rBin idxI (rVar 0) (rC (.int (1)))) (rVar 2)) rNil))) (rBin mulT (rC (.int (31))) (rVar 2))) (gN 3))
    (sRet (rDef d__law_number (rCons (rVar 3) (rCons (rBin addI (rBin modI (rCall intI (rCons (rBin idxI (rVar 0) (rC (.int (2)))) rNil)) (rC (.int (12)))) (rC (.int (1)))) (rCons (rVar 1) rNil))))))))
def d__law_next : List IV → Sto → RE IV := callI 4 r__law_next

def r__law_heard : SemS :=
  (sRet (rLc (fRng1 (rCons (rBin addI (rCall lenI (rCons (rBin idxI (rVar 0) (rC (.int (0)))) rNil)) (rC (.int (1)))) rNil)) (.one 3) [3] rYes (rBin addI (rVar 2) (rBin mulT (rVar 1) (rCall sumT (rCons (rSl (rBin idxI (rVar 0) (rC (.int (0)))) rNoPart (rPart (rVar 3))) rNil))))))
def d__law_heard : List IV → Sto → RE IV := callI 4 r__law_heard

def r__law_times : SemS :=
  (sSeq (sPar 4 5 (rCons (rDef d__law_heard (rCons (rVar 0) (rCons (rVar 1) (rCons (rVar 3) rNil)))) (rCons (rLst rNil) rNil)))
    (sSeq (sFor (fRng1 (rCons (rCall lenI (rCons (rBin idxI (rVar 0) (rC (.int (0)))) rNil)) rNil)) (gN 6) (sSeq (sAsg (rCall maxI (rCons (rLst (rCons (rIfE (rTBl (rBin cNe (rVar 5) (rLst rNil))) (rBin idxI (rVar 5) (rUn negI (rC (.int (1))))) (rC (.int (0)))) (rCons (rIfE (rTBl (rBin cGe (rVar 6) (rVar 2))) (rBin idxI (rVar 4) (rBin addI (rBin subI (rVar 6) (rVar 2)) (rC (.int (1))))) (rC (.int (0)))) rNil))) rNil)) (gN 7))
    (sExpr (rMethL appI (rVar 5) (rCons (rBin addI (rVar 7) (rBin idxI (rBin idxI (rVar 0) (rC (.int (1)))) (rVar 6))) rNil)))))
    (sRet (rVar 5))))
def d__law_times : List IV → Sto → RE IV := callI 8 r__law_times

def r__law_late : SemS :=
  (sSeq (sAsg (rTup (rCons (rDef d__law_heard (rCons (rVar 0) (rCons (rVar 1) (rCons (rVar 3) rNil)))) (rCons (rDef d__law_times (rCons (rVar 0) (rCons (rVar 1) (rCons (rVar 2) (rCons (rVar 3) rNil))))) rNil))) (gT 2 (gsCons (gN 4) (gsCons (gN 5) gsNil))))
    (sRet (rCall tupleI (rCons (rLc (fRng1 (rCons (rCall lenI (rCons (rBin idxI (rVar 0) (rC (.int (0)))) rNil)) rNil)) (.one 6) [6] (rTBl (rBin cGt (rBin idxI (rVar 5) (rVar 6)) (rBin idxI (rVar 4) (rVar 6)))) (rVar 6)) rNil))))
def d__law_late : List IV → Sto → RE IV := callI 7 r__law_late

def r__law_refused_right : SemS :=
  (sSeq (sFor (fSeq (rTup (rCons (rC .non) (rCons (rTup (rCons (rTup rNil) (rCons (rTup rNil) rNil))) (rCons (rTup (rCons (rTup (rCons (rC (.int (1))) rNil)) (rCons (rTup rNil) rNil))) (rCons (rTup (rCons (rLst (rCons (rC (.int (1))) rNil)) (rCons (rTup (rCons (rC (.int (1))) rNil)) rNil))) (rCons (rTup (rCons (rTup (rCons (rC (.int (0))) rNil)) (rCons (rTup (rCons (rC (.int (1))) rNil)) rNil))) (rCons (rTup (rCons (rTup (rCons (rC (.int (1001))) rNil)) (rCons (rTup (rCons (rC (.int (1))) rNil)) rNil))) (rCons (rTup (rCons (rTup (rCons (rC (.int (1))) rNil)) (rCons (rTup (rCons (rC (.int (10001))) rNil)) rNil))) (rCons (rTup (rCons (rTup (rCons (rC (.int (1))) rNil)) (rCons (rTup (rCons (rUn negI (rC (.int (1)))) rNil)) rNil))) (rCons (rTup (rCons (rTup (rCons (rC (.bl true)) rNil)) (rCons (rTup (rCons (rC (.int (1))) rNil)) rNil))) (rCons (rTup (rCons (rBin mulT (rTup (rCons (rC (.int (1))) rNil)) (rC (.int (61)))) (rCons (rBin mulT (rTup (rCons (rC (.int (1))) rNil)) (rC (.int (61)))) rNil))) rNil)))))))))))) (gN 1) (sSeq (sIf (rTru (rDef d_is_plan (rCons (rVar 1) rNil))) (sRet (rC (.bl false))) sPass)
    (sSeq (sIf (rTNot (rTru (rRefuses 1 "thing" (rDef d_heard_times (rCons (rVar 1) (rCons (rC .non) (rCons (rC .non) rNil)))) (rVar 1)))) (sRet (rC (.bl false))) sPass)
    (sSeq (sIf (rTNot (rTru (rRefuses 1 "thing" (rDef d_least_late (rCons (rVar 1) (rCons (rC .non) (rCons (rC .non) rNil)))) (rVar 1)))) (sRet (rC (.bl false))) sPass)
    (sIf (rTNot (rTru (rRefuses 1 "thing" (rDef d_played_times (rCons (rVar 1) (rCons (rC .non) (rCons (rC .non) (rCons (rC .non) rNil))))) (rVar 1)))) (sRet (rC (.bl false))) sPass)))))
    (sSeq (sFor (fSeq (rTup (rCons (rC (.int (0))) (rCons (rC (.int (101))) (rCons (rC .non) (rCons (rC (.bl true)) rNil)))))) (gN 1) (sSeq (sIf (rTNot (rTru (rRefuses 1 "thing" (rDef d_heard_times (rCons (rVar 0) (rCons (rVar 1) (rCons (rC .non) rNil)))) (rVar 1)))) (sRet (rC (.bl false))) sPass)
    (sSeq (sIf (rTNot (rTru (rRefuses 1 "thing" (rDef d_shows_least_late (rCons (rVar 0) (rCons (rVar 1) (rCons (rC .non) (rCons (rC .non) rNil))))) (rVar 1)))) (sRet (rC (.bl false))) sPass)
    (sIf (rTNot (rTru (rRefuses 1 "thing" (rDef d_least_size (rCons (rC (.int (1))) (rCons (rC (.int (1))) (rCons (rVar 1) (rCons (rC .non) rNil))))) (rVar 1)))) (sRet (rC (.bl false))) sPass))))
    (sSeq (sFor (fSeq (rTup (rCons (rC (.int (0))) (rCons (rC (.int (61))) (rCons (rC .non) rNil))))) (gN 1) (sSeq (sIf (rTNot (rTru (rRefuses 1 "thing" (rDef d_late_blocks (rCons (rVar 0) (rCons (rC (.int (1))) (rCons (rVar 1) (rCons (rC (.int (0))) rNil))))) (rVar 1)))) (sRet (rC (.bl false))) sPass)
    (sIf (rTNot (rTru (rRefuses 1 "thing" (rDef d_delay_of (rCons (rVar 0) (rCons (rC (.int (1))) (rCons (rVar 1) rNil)))) (rVar 1)))) (sRet (rC (.bl false))) sPass)))
    (sSeq (sFor (fSeq (rTup (rCons (rUn negI (rC (.int (1)))) (rCons (rBin addI (rBin powI (rC (.int (10))) (rC (.int (7)))) (rC (.int (1)))) (rCons (rC .non) rNil))))) (gN 1) (sIf (rTNot (rTru (rRefuses 1 "thing" (rDef d_played_times (rCons (rVar 0) (rCons (rC (.int (1))) (rCons (rC (.int (1))) (rCons (rVar 1) rNil))))) (rVar 1)))) (sRet (rC (.bl false))) sPass))
    (sSeq (sFor (fSeq (rTup (rCons (rC (.int (0))) (rCons (rC (.int (1001))) (rCons (rC .non) rNil))))) (gN 1) (sSeq (sIf (rTNot (rTru (rRefuses 1 "thing" (rDef d_even_plan (rCons (rC (.int (9))) (rCons (rVar 1) (rCons (rC .non) (rCons (rC .non) rNil))))) (rVar 1)))) (sRet (rC (.bl false))) sPass)
    (sIf (rTNot (rTru (rRefuses 1 "thing" (rDef d_least_size (rCons (rC (.int (1))) (rCons (rC (.int (1))) (rCons (rC (.int (1))) (rCons (rVar 1) rNil))))) (rVar 1)))) (sRet (rC (.bl false))) sPass)))
    (sSeq (sFor (fSeq (rTup (rCons (rC (.int (0))) (rCons (rC (.int (61))) (rCons (rC (.int (60001))) (rCons (rC .non) rNil)))))) (gN 1) (sIf (rTNot (rTru (rRefuses 1 "thing" (rDef d_even_plan (rCons (rVar 1) (rCons (rC (.int (1))) (rCons (rC .non) (rCons (rC .non) rNil))))) (rVar 1)))) (sRet (rC (.bl false))) sPass))
    (sSeq (sFor (fSeq (rTup (rCons (rUn negI (rC (.int (1)))) (rCons (rC (.int (10001))) (rCons (rC .non) rNil))))) (gN 1) (sSeq (sIf (rTNot (rTru (rRefuses 1 "thing" (rDef d_even_plan (rCons (rC (.int (9))) (rCons (rC (.int (9))) (rCons (rVar 1) (rCons (rC (.int (1))) rNil))))) (rVar 1)))) (sRet (rC (.bl false))) sPass)
    (sSeq (sIf (rTNot (rTru (rRefuses 1 "thing" (rDef d_even_plan (rCons (rC (.int (9))) (rCons (rC (.int (9))) (rCons (rC (.int (1))) (rCons (rVar 1) rNil))))) (rVar 1)))) (sRet (rC (.bl false))) sPass)
    (sIf (rTNot (rTru (rRefuses 1 "thing" (rDef d_least_size (rCons (rVar 1) (rCons (rC .non) (rCons (rC .non) (rCons (rC .non) rNil))))) (rVar 1)))) (sRet (rC (.bl false))) sPass))))
    (sRet (rAnd (rRefuses 1 "thing" (rDef d_even_plan (rCons (rC (.int (9))) (rCons (rC (.int (9))) (rCons (rC (.int (1000))) (rCons (rC (.int (1001))) rNil))))) (rC (.int (1001)))) (rDef d_is_plan (rCons (rTup (rCons (rBin mulT (rTup (rCons (rC (.int (1))) rNil)) (rC (.int (60)))) (rCons (rBin mulT (rTup (rCons (rC (.int (10000))) rNil)) (rC (.int (60)))) rNil))) rNil)))))))))))
def d__law_refused_right : List IV → Sto → RE IV := callI 2 r__law_refused_right

def r_law : SemS :=
  (sSeq (sAsg (rLst (rCons (rSl (rVar 0) rNoPart (rPart (rC (.int (63))))) (rCons (rC (.int (0))) (rCons (rC (.int (0))) rNil)))) (gN 1))
    (sSeq (sAsg (rBin addI (rC (.int (1))) (rDef d__law_next (rCons (rVar 1) (rCons (rC (.int (8))) rNil)))) (gN 2))
    (sSeq (sAsg (rTup (rCons (rCall tupleI (rCons (rLc (fRng1 (rCons (rVar 2) rNil)) (.one 22) [22] rYes (rBin addI (rC (.int (1))) (rDef d__law_next (rCons (rVar 1) (rCons (rC (.int (6))) rNil))))) rNil)) (rCons (rCall tupleI (rCons (rLc (fRng1 (rCons (rVar 2) rNil)) (.one 22) [22] rYes (rDef d__law_next (rCons (rVar 1) (rCons (rC (.int (12))) rNil)))) rNil)) rNil))) (gN 3))
    (sSeq (sAsg (rTup (rCons (rBin addI (rC (.int (1))) (rDef d__law_next (rCons (rVar 1) (rCons (rC (.int (3))) rNil)))) (rCons (rBin addI (rC (.int (1))) (rDef d__law_next (rCons (rVar 1) (rCons (rC (.int (4))) rNil)))) (rCons (rDef d__law_next (rCons (rVar 1) (rCons (rC (.int (20))) rNil))) rNil)))) (gT 3 (gsCons (gN 4) (gsCons (gN 5) (gsCons (gN 6) gsNil)))))
    (sSeq (sIf (rTOr (rTBl (rBin cNe (rDef d_heard_times (rCons (rVar 3) (rCons (rVar 4) (rCons (rVar 6) rNil)))) (rCall tupleI (rCons (rDef d__law_heard (rCons (rVar 3) (rCons (rVar 4) (rCons (rVar 6) rNil)))) rNil)))) (rTOr (rTBl (rBin cNe (rDef d_played_times (rCons (rVar 3) (rCons (rVar 4) (rCons (rVar 5) (rCons (rVar 6) rNil))))) (rCall tupleI (rCons (rDef d__law_times (rCons (rVar 3) (rCons (rVar 4) (rCons (rVar 5) (rCons (rVar 6) rNil))))) rNil)))) (rTBl (rBin cNe (rDef d_late_blocks (rCons (rVar 3) (rCons (rVar 4) (rCons (rVar 5) (rCons (rVar 6) rNil))))) (rDef d__law_late (rCons (rVar 3) (rCons (rVar 4) (rCons (rVar 5) (rCons (rVar 6) rNil))))))))) (sRet (rC (.bl false))) sPass)
    (sSeq (sAsg (rCall sumT (rCons (rBin idxI (rVar 3) (rC (.int (1)))) rNil)) (gN 7))
    (sSeq (sAsg (rDef d__law_late (rCons (rVar 3) (rCons (rVar 4) (rCons (rVar 5) (rCons (rVar 7) rNil))))) (gN 8))
    (sSeq (sAsg (rDef d_least_late (rCons (rVar 3) (rCons (rVar 4) (rCons (rVar 5) rNil)))) (gN 9))
    (sSeq (sIf (rTBl (rBin cNe (rVar 8) (rTup rNil))) (sIf (rTOr (rTBl (rBin cNe (rVar 9) (rTup (rCons (rC (.str [110, 101, 118, 101, 114])) (rCons (rBin idxI (rVar 8) (rC (.int (0)))) rNil))))) (rTOr (rTNot (rTru (rDef d_shows_least_late (rCons (rVar 3) (rCons (rVar 4) (rCons (rVar 5) (rCons (rVar 9) rNil))))))) (rTOr (rTru (rCall anyI (rCons (rLc (fRng1 (rCons (rBin addI (rVar 2) (rC (.int (1)))) rNil)) (.one 10) [10] rYes (rBin cNe (rDef d_shows_least_late (rCons (rVar 3) (rCons (rVar 4) (rCons (rVar 5) (rCons (rTup (rCons (rC (.str [110, 101, 118, 101, 114])) (rCons (rVar 10) rNil))) rNil))))) (rBin cIn (rVar 10) (rVar 8)))) rNil))) (rTOr (rTru (rDef d_shows_least_late (rCons (rVar 3) (rCons (rVar 4) (rCons (rVar 5) (rCons (rTup (rCons (rC (.str [108, 97, 116, 101])) (rCons (rVar 7) (rCons (rC .non) rNil)))) rNil)))))) (rTBl (rBin cIsNot (rDef d_delay_of (rCons (rVar 3) (rCons (rVar 4) (rCons (rVar 5) rNil)))) (rC .non))))))) (sRet (rC (.bl false))) sPass) (sSeq (sAsg (rBin idxI (rLc (fRng1 (rCons (rBin addI (rVar 7) (rC (.int (1)))) rNil)) (.one 11) [11] (rTBl (rBin cEq (rDef d__law_late (rCons (rVar 3) (rCons (rVar 4) (rCons (rVar 5) (rCons (rVar 11) rNil))))) (rTup rNil))) (rVar 11)) (rC (.int (0)))) (gN 12))
    (sSeq (sAsg (rIfE (rTBl (rBin cGt (rVar 12) (rC (.int (0))))) (rBin idxI (rDef d__law_late (rCons (rVar 3) (rCons (rVar 4) (rCons (rVar 5) (rCons (rBin subI (rVar 12) (rC (.int (1)))) rNil))))) (rC (.int (0)))) (rC .non)) (gN 13))
    (sSeq (sIf (rTOr (rTBl (rBin cNe (rVar 9) (rTup (rCons (rC (.str [108, 97, 116, 101])) (rCons (rVar 12) (rCons (rVar 13) rNil)))))) (rTOr (rTNot (rTru (rDef d_shows_least_late (rCons (rVar 3) (rCons (rVar 4) (rCons (rVar 5) (rCons (rVar 9) rNil))))))) (rTOr (rTru (rDef d_shows_least_late (rCons (rVar 3) (rCons (rVar 4) (rCons (rVar 5) (rCons (rTup (rCons (rC (.str [108, 97, 116, 101])) (rCons (rBin addI (rVar 12) (rC (.int (1)))) (rCons (rVar 13) rNil)))) rNil)))))) (rTru (rDef d_shows_least_late (rCons (rVar 3) (rCons (rVar 4) (rCons (rVar 5) (rCons (rTup (rCons (rC (.str [110, 101, 118, 101, 114])) (rCons (rC (.int (0))) rNil))) rNil))))))))) (sRet (rC (.bl false))) sPass)
    (sSeq (sFor (fRng1 (rCons (rVar 2) rNil)) (gN 10) (sIf (rTBl (rBin cNe (rDef d_shows_least_late (rCons (rVar 3) (rCons (rVar 4) (rCons (rVar 5) (rCons (rTup (rCons (rC (.str [108, 97, 116, 101])) (rCons (rVar 12) (rCons (rVar 10) rNil)))) rNil))))) (rAnd (rBin cGt (rVar 12) (rC (.int (0)))) (rBin cIn (rVar 10) (rDef d__law_late (rCons (rVar 3) (rCons (rVar 4) (rCons (rVar 5) (rCons (rBin subI (rVar 12) (rC (.int (1)))) rNil))))))))) (sRet (rC (.bl false))) sPass))
    (sSeq (sAsg (rTup (rCons (rDef d__law_heard (rCons (rVar 3) (rCons (rVar 4) (rCons (rVar 12) rNil)))) (rCons (rDef d__law_times (rCons (rVar 3) (rCons (rVar 4) (rCons (rVar 5) (rCons (rVar 12) rNil))))) rNil))) (gT 2 (gsCons (gN 14) (gsCons (gN 15) gsNil))))
    (sSeq (sIf (rTBl (rBin cNe (rDef d_delay_of (rCons (rVar 3) (rCons (rVar 4) (rCons (rVar 5) rNil)))) (rCall maxI (rCons (rLc (fRng1 (rCons (rVar 2) rNil)) (.one 10) [10] rYes (rBin addI (rBin subI (rBin idxI (rVar 14) (rVar 10)) (rBin idxI (rVar 15) (rVar 10))) (rBin idxI (rBin idxI (rVar 3) (rC (.int (1)))) (rVar 10)))) rNil)))) (sRet (rC (.bl false))) sPass)
    (sIf (rTOr (rTru (rCall anyI (rCons (rLc (fRng2 (rCons (rVar 12) (rCons (rBin addI (rVar 7) (rC (.int (1)))) rNil))) (.one 11) [11] rYes (rBin cNe (rDef d__law_late (rCons (rVar 3) (rCons (rVar 4) (rCons (rVar 5) (rCons (rVar 11) rNil))))) (rTup rNil))) rNil))) (rTru (rCall anyI (rCons (rLc (fRng1 (rCons (rVar 12) rNil)) (.one 11) [11] rYes (rBin cEq (rDef d_late_blocks (rCons (rVar 3) (rCons (rVar 4) (rCons (rVar 5) (rCons (rVar 11) rNil))))) (rTup rNil))) rNil)))) (sRet (rC (.bl false))) sPass))))))))
    (sSeq (sIf (rTOr (rTru (rDef d_shows_least_late (rCons (rVar 3) (rCons (rVar 4) (rCons (rVar 5) (rCons (rCall listI (rCons (rVar 9) rNil)) rNil)))))) (rTOr (rTru (rDef d_shows_least_late (rCons (rVar 3) (rCons (rVar 4) (rCons (rVar 5) (rCons (rC .non) rNil)))))) (rTru (rDef d_shows_least_late (rCons (rVar 3) (rCons (rVar 4) (rCons (rVar 5) (rCons (rTup (rCons (rBin idxI (rVar 9) (rC (.int (0)))) (rCons (rC (.bl true)) rNil))) rNil)))))))) (sRet (rC (.bl false))) sPass)
    (sSeq (sAsg (rTup (rCons (rBin addI (rC (.int (1))) (rDef d__law_next (rCons (rVar 1) (rCons (rC (.int (9))) rNil)))) (rCons (rDef d__law_next (rCons (rVar 1) (rCons (rC (.int (20))) rNil))) (rCons (rDef d__law_next (rCons (rVar 1) (rCons (rC (.int (5))) rNil))) rNil)))) (gT 3 (gsCons (gN 16) (gsCons (gN 17) (gsCons (gN 11) gsNil)))))
    (sSeq (sAsg (rBin addI (rC (.int (1))) (rDef d__law_next (rCons (rVar 1) (rCons (rC (.int (50))) rNil)))) (gN 18))
    (sSeq (sAsg (rBin addI (rBin mulT (rTup (rCons (rVar 16) rNil)) (rBin divI (rVar 18) (rVar 16))) (rIfE (rTBl (rBin cGt (rVar 18) (rBin mulT (rVar 16) (rBin divI (rVar 18) (rVar 16))))) (rTup (rCons (rBin subI (rVar 18) (rBin mulT (rVar 16) (rBin divI (rVar 18) (rVar 16)))) rNil)) (rTup rNil))) (gN 19))
    (sSeq (sIf (rTBl (rBin cNe (rDef d_even_plan (rCons (rVar 18) (rCons (rVar 16) (rCons (rVar 17) (rCons (rVar 11) rNil))))) (rTup (rCons (rVar 19) (rCons (rCall tupleI (rCons (rLc (fSeq (rVar 19)) (.one 23) [23] rYes (rBin addI (rVar 17) (rBin mulT (rVar 11) (rVar 23)))) rNil)) rNil))))) (sRet (rC (.bl false))) sPass)
    (sSeq (sAsg (rLc (fRng2 (rCons (rC (.int (1))) (rCons (rC (.int (41))) rNil))) (.one 24) [24] (rTBl (rBin cLe (rBin addI (rVar 17) (rBin mulT (rVar 11) (rVar 24))) (rBin mulT (rVar 4) (rVar 24)))) (rVar 24)) (gN 20))
    (sSeq (sIf (rTBl (rBin cNe (rDef d_least_size (rCons (rVar 17) (rCons (rVar 11) (rCons (rVar 4) (rCons (rC (.int (40))) rNil))))) (rIfE (rTBl (rBin cNe (rVar 20) (rLst rNil))) (rBin idxI (rVar 20) (rC (.int (0)))) (rC .non)))) (sRet (rC (.bl false))) sPass)
    (sSeq (sIf (rTBl (rBin cNe (rVar 20) (rLst rNil))) (sSeq (sAsg (rDef d_even_plan (rCons (rBin mulT (rBin idxI (rVar 20) (rC (.int (0)))) (rC (.int (9)))) (rCons (rBin idxI (rVar 20) (rC (.int (0)))) (rCons (rVar 17) (rCons (rVar 11) rNil))))) (gN 21))
    (sIf (rTBl (rBin cNe (rDef d_late_blocks (rCons (rVar 21) (rCons (rVar 4) (rCons (rC (.int (2))) (rCons (rBin addI (rVar 17) (rBin mulT (rVar 11) (rBin idxI (rVar 20) (rC (.int (0)))))) rNil))))) (rTup rNil))) (sRet (rC (.bl false))) sPass)) sPass)
    (sRet (rDef d__law_refused_right (rCons (rVar 3) rNil))))))))))))))))))))
def d_law : List IV → Sto → RE IV := callI 25 r_law

structure Hd (P : Program) (w : World) (K : PySem.W.Frag) (mg : Str → Option Value) (base : Heap) (T : List (Addr × Str) × (Nat → Addr)) (co : Nat → Addr) : Prop where
  b_all : mg "all" = none
  b_any : mg "any" = none
  b_bool : mg "bool" = none
  b_enumerate : mg "enumerate" = none
  b_int : mg "int" = none
  b_isinstance : mg "isinstance" = none
  b_len : mg "len" = none
  b_list : mg "list" = none
  b_max : mg "max" = none
  b_min : mg "min" = none
  b_range : mg "range" = none
  b_repr : mg "repr" = none
  b_sum : mg "sum" = none
  b_tuple : mg "tuple" = none
  b_zip : mg "zip" = none
  c_MOST_LATE : Gc K mg "MOST_LATE" g_MOST_LATE
  x_BadThing : Xn P w K mg base T.2 1 "BadThing" "thing"
  f_is_whole : ∃ f fd, mg "is_whole" = some (.ref f) ∧ Fun K "is_whole" "is_whole" s_is_whole f fd
  f_is_from : ∃ f fd, mg "is_from" = some (.ref f) ∧ Fun K "is_from" "is_from" s_is_from f fd
  f_is_many : ∃ f fd, mg "is_many" = some (.ref f) ∧ Fun K "is_many" "is_many" s_is_many f fd
  f_is_plan : ∃ f fd, mg "is_plan" = some (.ref f) ∧ Fun K "is_plan" "is_plan" s_is_plan f fd
  f_check_plan : ∃ f fd, mg "check_plan" = some (.ref f) ∧ Fun K "check_plan" "check_plan" s_check_plan f fd
  f_check_hearing : ∃ f fd, mg "check_hearing" = some (.ref f) ∧ Fun K "check_hearing" "check_hearing" s_check_hearing f fd
  f_heard_times : ∃ f fd, mg "heard_times" = some (.ref f) ∧ Fun K "heard_times" "heard_times" s_heard_times f fd
  f_played_times : ∃ f fd, mg "played_times" = some (.ref f) ∧ Fun K "played_times" "played_times" s_played_times f fd
  f_late_blocks : ∃ f fd, mg "late_blocks" = some (.ref f) ∧ Fun K "late_blocks" "late_blocks" s_late_blocks f fd
  f_is_never : ∃ f fd, mg "is_never" = some (.ref f) ∧ Fun K "is_never" "is_never" s_is_never f fd
  f_least_late : ∃ f fd, mg "least_late" = some (.ref f) ∧ Fun K "least_late" "least_late" s_least_late f fd
  f_shows_least_late : ∃ f fd, mg "shows_least_late" = some (.ref f) ∧ Fun K "shows_least_late" "shows_least_late" s_shows_least_late f fd
  f_even_plan : ∃ f fd, mg "even_plan" = some (.ref f) ∧ Fun K "even_plan" "even_plan" s_even_plan f fd
  f_least_size : ∃ f fd, mg "least_size" = some (.ref f) ∧ Fun K "least_size" "least_size" s_least_size f fd
  f_delay_of : ∃ f fd, mg "delay_of" = some (.ref f) ∧ Fun K "delay_of" "delay_of" s_delay_of f fd
  f__law_cell_at : ∃ f fd, mg "_law_cell_at" = some (.ref f) ∧ Fun K "_law_cell_at" "_law_cell_at" s__law_cell_at f fd
  f__law_draw : ∃ f fd, mg "_law_draw" = some (.ref f) ∧ Fun K "_law_draw" "_law_draw" s__law_draw f fd
  f__law_number : ∃ f fd, mg "_law_number" = some (.ref f) ∧ Fun K "_law_number" "_law_number" s__law_number f fd
  f__law_next : ∃ f fd, mg "_law_next" = some (.ref f) ∧ Fun K "_law_next" "_law_next" s__law_next f fd
  f__law_heard : ∃ f fd, mg "_law_heard" = some (.ref f) ∧ Fun K "_law_heard" "_law_heard" s__law_heard f fd
  f__law_times : ∃ f fd, mg "_law_times" = some (.ref f) ∧ Fun K "_law_times" "_law_times" s__law_times f fd
  f__law_late : ∃ f fd, mg "_law_late" = some (.ref f) ∧ Fun K "_law_late" "_law_late" s__law_late f fd
  f__law_refused_right : ∃ f fd, mg "_law_refused_right" = some (.ref f) ∧ Fun K "_law_refused_right" "_law_refused_right" s__law_refused_right f fd ∧ fd.code = .ref (co 30)
  f_law : ∃ f fd, mg "law" = some (.ref f) ∧ Fun K "law" "law" s_law f fd ∧ fd.code = .ref (co 31)
  t__law_refused_right : Tb base mg T.1 (co 30) (((("_law_refused_right" : Str) ++ ".<locals>.") : Str) ++ "<lambda>")
  o__law_refuses : Tn P K mg T.2 1 "_law_refuses" "BadThing" "thing" s__law_refuses "work" "due" "e"
theorem tt__law_refuses : ToldT s__law_refuses "work" "due" "e" "BadThing" "thing" := ⟨⟨_, _, _, _, _, _, _, _, _, _, _, _, _, _, _, _, _, _, rfl, fun _ => rfl, fun _ => rfl⟩, ⟨rfl, rfl, rfl, by decide +kernel, rfl, by decide +kernel, by decide +kernel⟩, rfl, rfl, rfl, rfl, rfl, by decide⟩
theorem sc_is_whole : FnScope ["thing"] ["thing"] (defScope s_is_whole) := ⟨rfl, rfl, rfl, by decide +kernel, rfl, by decide +kernel, by decide +kernel⟩
theorem dn_is_whole {P : Program} {w : World} {K : PySem.W.Frag} {mg : Str → Option Value} {base : Heap} {T : List (Addr × Str) × (Nat → Addr)} {co : Nat → Addr} (B : Hd P w K mg base T co) : Dn P w K mg base T 1 "is_whole" 1 d_is_whole :=
  dn_mk (k := 0) (r := r_is_whole) B.f_is_whole sc_is_whole rfl rfl (fun _ _ _ _ _ _ us hl => match us, hl with | [_], _ => rfl) fun f cdv A outer s H E Pr hr hT => by
    subst hT
    exact (sss_one (ss_ret (se_and (se_isT (by decide) (by rfl) B.b_isinstance (by rfl) B.b_int (by rfl) (se_var (i := 0) rfl (.inl rfl))) (se_one (se_not (se_isT (by decide) (by rfl) B.b_isinstance (by rfl) B.b_bool (by rfl) (se_var (i := 0) rfl (.inl rfl))))))))

theorem sc_is_from : FnScope ["thing", "least", "most"] ["thing", "least", "most"] (defScope s_is_from) := ⟨rfl, rfl, rfl, by decide +kernel, rfl, by decide +kernel, by decide +kernel⟩
theorem dn_is_from {P : Program} {w : World} {K : PySem.W.Frag} {mg : Str → Option Value} {base : Heap} {T : List (Addr × Str) × (Nat → Addr)} {co : Nat → Addr} (B : Hd P w K mg base T co) : Dn P w K mg base T 2 "is_from" 3 d_is_from :=
  dn_mk (k := 1) (r := r_is_from) B.f_is_from sc_is_from rfl rfl (fun _ _ _ _ _ _ us hl => match us, hl with | [_, _, _], _ => rfl) fun f cdv A outer s H E Pr hr hT => by
    subst hT
    exact (sss_one (ss_ret (se_and (se_dn (dn_is_whole B) takes_fn (hr.mono (by decide)) (by rfl) (sa_cons (se_var (i := 0) rfl (.inl rfl)) sa_nil) (len_cons len_nil)) (se_one (se_chain op_leI op_leI (se_var (i := 1) rfl (.inl rfl)) (se_var (i := 0) rfl (.inl rfl)) (se_var (i := 2) rfl (.inl rfl)))))))

theorem sc_is_many : FnScope ["thing", "many"] ["thing", "many"] (defScope s_is_many) := ⟨rfl, rfl, rfl, by decide +kernel, rfl, by decide +kernel, by decide +kernel⟩
theorem dn_is_many {P : Program} {w : World} {K : PySem.W.Frag} {mg : Str → Option Value} {base : Heap} {T : List (Addr × Str) × (Nat → Addr)} {co : Nat → Addr} (B : Hd P w K mg base T co) : Dn P w K mg base T 1 "is_many" 2 d_is_many :=
  dn_mk (k := 0) (r := r_is_many) B.f_is_many sc_is_many rfl rfl (fun _ _ _ _ _ _ us hl => match us, hl with | [_, _], _ => rfl) fun f cdv A outer s H E Pr hr hT => by
    subst hT
    exact (sss_one (ss_ret (se_and (se_isT (by decide) (by rfl) B.b_isinstance (by rfl) B.b_tuple (by rfl) (se_var (i := 0) rfl (.inl rfl))) (se_one (se_cmp (op_eqI (ru4 hr)) (se_callB call_lenI (by rfl) B.b_len (by rfl) (sa_cons (se_var (i := 0) rfl (.inl rfl)) sa_nil)) (se_var (i := 1) rfl (.inl rfl)) (nomark _))))))

theorem sc_is_plan : FnScope ["thing", "sizes", "costs", "part", "one"] ["thing"] (defScope s_is_plan) := ⟨rfl, rfl, rfl, by decide +kernel, rfl, by decide +kernel, by decide +kernel⟩
theorem dn_is_plan {P : Program} {w : World} {K : PySem.W.Frag} {mg : Str → Option Value} {base : Heap} {T : List (Addr × Str) × (Nat → Addr)} {co : Nat → Addr} (B : Hd P w K mg base T co) : Dn P w K mg base T 3 "is_plan" 1 d_is_plan :=
  dn_mk (k := 2) (r := r_is_plan) B.f_is_plan sc_is_plan rfl rfl (fun _ _ _ _ _ _ us hl => match us, hl with | [_], _ => rfl) fun f cdv A outer s H E Pr hr hT => by
    subst hT
    exact (sss_cons (ss_if (sw_or (sc_not (sc_truth (se_dn (dn_is_many B) takes_fn (hr.mono (by decide)) (by rfl) (sa_cons (se_var (i := 0) rfl (.inl rfl)) (sa_cons se_int sa_nil)) (len_cons (len_cons len_nil))) (fun _ => rfl))) (sw_or (sc_not (sc_truth (se_callB (call_allI rfl) (by rfl) B.b_all (by rfl) (sa_cons (se_lc (own := [("part", 3)]) (ct := (.one 3)) rfl sc_is_plan.nd (pi_seqI (se_var (i := 0) rfl (.inl rfl))) (blkOk_by (by rfl)) (by decide) (fun _ _ _ _ _ => (pg_name (i := 3) sc_is_plan.nd rfl (.inl rfl))) (fun _ _ _ _ _ => pts_yes) (fun _ _ _ _ _ => (se_isT (by decide) (by rfl) B.b_isinstance (by rfl) B.b_tuple (by rfl) (se_var (i := 3) rfl (.inl rfl))))) sa_nil)) (fun _ => rfl))) (sw_or1 (sc_not (sc_chain op_leI op_leI se_int (se_callB call_lenI (by rfl) B.b_len (by rfl) (sa_cons (se_ix (se_var (i := 0) rfl (.inl rfl)) se_int (fun _ _ => rfl)) sa_nil)) se_int))))).pt (sss_one (ss_ret se_bl)) sss_nil)
    (sss_cons (ss_asg (se_var (i := 0) rfl (.inl rfl)) (sg_tup rfl (sgs_cons (sg_name (i := 1) sc_is_plan.nd rfl (.inl rfl)) (sgs_cons (sg_name (i := 2) sc_is_plan.nd rfl (.inl rfl)) sgs_nil))))
    (sss_one (ss_ret (se_and (se_cmp (op_eqI (ru4 hr)) (se_callB call_lenI (by rfl) B.b_len (by rfl) (sa_cons (se_var (i := 2) rfl (.inl rfl)) sa_nil)) (se_callB call_lenI (by rfl) B.b_len (by rfl) (sa_cons (se_var (i := 1) rfl (.inl rfl)) sa_nil)) (nomark _)) (se_and (se_callB (call_allI rfl) (by rfl) B.b_all (by rfl) (sa_cons (se_lc (own := [("one", 4)]) (ct := (.one 4)) rfl sc_is_plan.nd (pi_seqI (se_var (i := 1) rfl (.inl rfl))) (blkOk_by (by rfl)) (by decide) (fun _ _ _ _ _ => (pg_name (i := 4) sc_is_plan.nd rfl (.inl rfl))) (fun _ _ _ _ _ => pts_yes) (fun _ _ _ _ _ => (se_dn (dn_is_from B) LamX.takes0 (hr.mono (by decide)) (by rfl) (sa_cons (se_var (i := 4) rfl (.inl rfl)) (sa_cons se_int (sa_cons se_int sa_nil))) (len_cons (len_cons (len_cons len_nil)))))) sa_nil)) (se_one (se_callB (call_allI rfl) (by rfl) B.b_all (by rfl) (sa_cons (se_lc (own := [("one", 4)]) (ct := (.one 4)) rfl sc_is_plan.nd (pi_seqI (se_var (i := 2) rfl (.inl rfl))) (blkOk_by (by rfl)) (by decide) (fun _ _ _ _ _ => (pg_name (i := 4) sc_is_plan.nd rfl (.inl rfl))) (fun _ _ _ _ _ => pts_yes) (fun _ _ _ _ _ => (se_dn (dn_is_from B) LamX.takes0 (hr.mono (by decide)) (by rfl) (sa_cons (se_var (i := 4) rfl (.inl rfl)) (sa_cons se_int (sa_cons se_int sa_nil))) (len_cons (len_cons (len_cons len_nil)))))) sa_nil)))))))))

theorem sc_check_plan : FnScope ["plan", "ticks"] ["plan", "ticks"] (defScope s_check_plan) := ⟨rfl, rfl, rfl, by decide +kernel, rfl, by decide +kernel, by decide +kernel⟩
theorem dn_check_plan {P : Program} {w : World} {K : PySem.W.Frag} {mg : Str → Option Value} {base : Heap} {T : List (Addr × Str) × (Nat → Addr)} {co : Nat → Addr} (B : Hd P w K mg base T co) : Dn P w K mg base T 4 "check_plan" 2 d_check_plan :=
  dn_mk (k := 3) (r := r_check_plan) B.f_check_plan sc_check_plan rfl rfl (fun _ _ _ _ _ _ us hl => match us, hl with | [_, _], _ => rfl) fun f cdv A outer s H E Pr hr hT => by
    subst hT
    exact (sss_cons (ss_if (sc_not (sc_truth (se_dn (dn_is_plan B) takes_fn (hr.mono (by decide)) (by rfl) (sa_cons (se_var (i := 0) rfl (.inl rfl)) sa_nil) (len_cons len_nil)) (fun _ => rfl))) (sss_one (ss_rs B.x_BadThing rfl takes_fn (hr.mono (by decide)) (by rfl) (se_var (i := 0) rfl (.inl rfl)))) sss_nil)
    (sss_one (ss_if (sc_not (sc_truth (se_dn (dn_is_from B) takes_fn (hr.mono (by decide)) (by rfl) (sa_cons (se_var (i := 1) rfl (.inl rfl)) (sa_cons se_int (sa_cons se_int sa_nil))) (len_cons (len_cons (len_cons len_nil)))) (fun _ => rfl))) (sss_one (ss_rs B.x_BadThing rfl takes_fn (hr.mono (by decide)) (by rfl) (se_var (i := 1) rfl (.inl rfl)))) sss_nil)))

theorem sc_check_hearing : FnScope ["plan", "ticks", "lead", "late"] ["plan", "ticks", "lead", "late"] (defScope s_check_hearing) := ⟨rfl, rfl, rfl, by decide +kernel, rfl, by decide +kernel, by decide +kernel⟩
theorem dn_check_hearing {P : Program} {w : World} {K : PySem.W.Frag} {mg : Str → Option Value} {base : Heap} {T : List (Addr × Str) × (Nat → Addr)} {co : Nat → Addr} (B : Hd P w K mg base T co) : Dn P w K mg base T 5 "check_hearing" 4 d_check_hearing :=
  dn_mk (k := 4) (r := r_check_hearing) B.f_check_hearing sc_check_hearing rfl rfl (fun _ _ _ _ _ _ us hl => match us, hl with | [_, _, _, _], _ => rfl) fun f cdv A outer s H E Pr hr hT => by
    subst hT
    exact (sss_cons (ss_expr (se_dn (dn_check_plan B) takes_fn (hr.mono (by decide)) (by rfl) (sa_cons (se_var (i := 0) rfl (.inl rfl)) (sa_cons (se_var (i := 1) rfl (.inl rfl)) sa_nil)) (len_cons (len_cons len_nil))))
    (sss_cons (ss_if (sc_not (sc_truth (se_dn (dn_is_from B) takes_fn (hr.mono (by decide)) (by rfl) (sa_cons (se_var (i := 2) rfl (.inl rfl)) (sa_cons se_int (sa_cons se_int sa_nil))) (len_cons (len_cons (len_cons len_nil)))) (fun _ => rfl))) (sss_one (ss_rs B.x_BadThing rfl takes_fn (hr.mono (by decide)) (by rfl) (se_var (i := 2) rfl (.inl rfl)))) sss_nil)
    (sss_one (ss_if (sc_not (sc_truth (se_dn (dn_is_from B) takes_fn (hr.mono (by decide)) (by rfl) (sa_cons (se_var (i := 3) rfl (.inl rfl)) (sa_cons se_int (sa_cons (se_gc B.c_MOST_LATE (by rfl)) sa_nil))) (len_cons (len_cons (len_cons len_nil)))) (fun _ => rfl))) (sss_one (ss_rs B.x_BadThing rfl takes_fn (hr.mono (by decide)) (by rfl) (se_var (i := 3) rfl (.inl rfl)))) sss_nil))))

theorem sc_heard_times : FnScope ["plan", "ticks", "late", "found", "one"] ["plan", "ticks", "late"] (defScope s_heard_times) := ⟨rfl, rfl, rfl, by decide +kernel, rfl, by decide +kernel, by decide +kernel⟩
theorem dn_heard_times {P : Program} {w : World} {K : PySem.W.Frag} {mg : Str → Option Value} {base : Heap} {T : List (Addr × Str) × (Nat → Addr)} {co : Nat → Addr} (B : Hd P w K mg base T co) : Dn P w K mg base T 6 "heard_times" 3 d_heard_times :=
  dn_mk (k := 5) (r := r_heard_times) B.f_heard_times sc_heard_times rfl rfl (fun _ _ _ _ _ _ us hl => match us, hl with | [_, _, _], _ => rfl) fun f cdv A outer s H E Pr hr hT => by
    subst hT
    exact (sss_cons (ss_expr (se_dn (dn_check_hearing B) takes_fn (hr.mono (by decide)) (by rfl) (sa_cons (se_var (i := 0) rfl (.inl rfl)) (sa_cons (se_var (i := 1) rfl (.inl rfl)) (sa_cons se_int (sa_cons (se_var (i := 2) rfl (.inl rfl)) sa_nil)))) (len_cons (len_cons (len_cons (len_cons len_nil))))))
    (sss_cons (ss_set (i := 3) sc_heard_times.nd rfl (.inl rfl) (se_lst (sa_cons (se_var (i := 2) rfl (.inl rfl)) sa_nil)))
    (sss_cons (ss_for passes_fn rfl (pi_seqI (se_ix (se_var (i := 0) rfl (.inl rfl)) se_int (fun _ _ => rfl))) (sg_name (i := 4) sc_heard_times.nd rfl (.inl rfl)) (sss_one (ss_expr (se_methL PySem.F.plainAttrs_list PySem.F.slot_list_append PySem.F.type_list_append mt_appI (se_var (i := 3) rfl (.inl rfl)) (sa_cons (se_bin op_addI (se_ix (se_var (i := 3) rfl (.inl rfl)) (se_un un_negI se_int) (fun _ _ => rfl)) (se_bin op_mulT (se_var (i := 1) rfl (.inl rfl)) (se_var (i := 4) rfl (.inl rfl)))) sa_nil)))))
    (sss_one (ss_ret (se_callTy call_tupleI (by rfl) B.b_tuple (by rfl) (sa_cons (se_var (i := 3) rfl (.inl rfl)) sa_nil)))))))

theorem sc_played_times : FnScope ["plan", "ticks", "lead", "late", "heard", "found", "at", "cost", "ahead", "free"] ["plan", "ticks", "lead", "late"] (defScope s_played_times) := ⟨rfl, rfl, rfl, by decide +kernel, rfl, by decide +kernel, by decide +kernel⟩
theorem dn_played_times {P : Program} {w : World} {K : PySem.W.Frag} {mg : Str → Option Value} {base : Heap} {T : List (Addr × Str) × (Nat → Addr)} {co : Nat → Addr} (B : Hd P w K mg base T co) : Dn P w K mg base T 7 "played_times" 4 d_played_times :=
  dn_mk (k := 6) (r := r_played_times) B.f_played_times sc_played_times rfl rfl (fun _ _ _ _ _ _ us hl => match us, hl with | [_, _, _, _], _ => rfl) fun f cdv A outer s H E Pr hr hT => by
    subst hT
    exact (sss_cons (ss_expr (se_dn (dn_check_hearing B) takes_fn (hr.mono (by decide)) (by rfl) (sa_cons (se_var (i := 0) rfl (.inl rfl)) (sa_cons (se_var (i := 1) rfl (.inl rfl)) (sa_cons (se_var (i := 2) rfl (.inl rfl)) (sa_cons (se_var (i := 3) rfl (.inl rfl)) sa_nil)))) (len_cons (len_cons (len_cons (len_cons len_nil))))))
    (sss_cons (ss_par (i := 4) (j := 5) rfl sc_played_times.nd rfl rfl (by decide) rfl rfl (sa_cons (se_dn (dn_heard_times B) takes_fn (hr.mono (by decide)) (by rfl) (sa_cons (se_var (i := 0) rfl (.inl rfl)) (sa_cons (se_var (i := 1) rfl (.inl rfl)) (sa_cons (se_var (i := 3) rfl (.inl rfl)) sa_nil))) (len_cons (len_cons (len_cons len_nil)))) (sa_cons (se_lst sa_nil) sa_nil)) (by rfl))
    (sss_cons (ss_for passes_fn rfl (pi_enumS (by rfl) B.b_enumerate (sa_cons (se_ix (se_var (i := 0) rfl (.inl rfl)) se_int (fun _ _ => rfl)) sa_nil)) (sg_tup rfl (sgs_cons (sg_name (i := 6) sc_played_times.nd rfl (.inl rfl)) (sgs_cons (sg_name (i := 7) sc_played_times.nd rfl (.inl rfl)) sgs_nil))) (sss_cons (ss_set (i := 8) sc_played_times.nd rfl (.inl rfl) (se_ifE (sc_cmp (op_neI (ru4 hr)) (se_var (i := 5) rfl (.inl rfl)) (se_lst sa_nil) (nomark _)) (se_ix (se_var (i := 5) rfl (.inl rfl)) (se_un un_negI se_int) (fun _ _ => rfl)) se_int))
    (sss_cons (ss_set (i := 9) sc_played_times.nd rfl (.inl rfl) (se_ifE (sc_cmp op_geI (se_var (i := 6) rfl (.inl rfl)) (se_var (i := 2) rfl (.inl rfl)) (nomark _)) (se_ix (se_var (i := 4) rfl (.inl rfl)) (se_bin op_addI (se_bin op_subI (se_var (i := 6) rfl (.inl rfl)) (se_var (i := 2) rfl (.inl rfl))) se_int) (fun _ _ => rfl)) se_int))
    (sss_one (ss_expr (se_methL PySem.F.plainAttrs_list PySem.F.slot_list_append PySem.F.type_list_append mt_appI (se_var (i := 5) rfl (.inl rfl)) (sa_cons (se_bin op_addI (se_callB (call_maxI rfl) (by rfl) B.b_max (by rfl) (sa_cons (se_lst (sa_cons (se_var (i := 8) rfl (.inl rfl)) (sa_cons (se_var (i := 9) rfl (.inl rfl)) sa_nil))) sa_nil)) (se_var (i := 7) rfl (.inl rfl))) sa_nil)))))))
    (sss_one (ss_ret (se_callTy call_tupleI (by rfl) B.b_tuple (by rfl) (sa_cons (se_var (i := 5) rfl (.inl rfl)) sa_nil)))))))

theorem sc_late_blocks : FnScope ["plan", "ticks", "lead", "late", "heard", "at", "time"] ["plan", "ticks", "lead", "late"] (defScope s_late_blocks) := ⟨rfl, rfl, rfl, by decide +kernel, rfl, by decide +kernel, by decide +kernel⟩
theorem dn_late_blocks {P : Program} {w : World} {K : PySem.W.Frag} {mg : Str → Option Value} {base : Heap} {T : List (Addr × Str) × (Nat → Addr)} {co : Nat → Addr} (B : Hd P w K mg base T co) : Dn P w K mg base T 8 "late_blocks" 4 d_late_blocks :=
  dn_mk (k := 7) (r := r_late_blocks) B.f_late_blocks sc_late_blocks rfl rfl (fun _ _ _ _ _ _ us hl => match us, hl with | [_, _, _, _], _ => rfl) fun f cdv A outer s H E Pr hr hT => by
    subst hT
    exact (sss_cons (ss_set (i := 4) sc_late_blocks.nd rfl (.inr rfl) (se_dn (dn_heard_times B) takes_fn (hr.mono (by decide)) (by rfl) (sa_cons (se_var (i := 0) rfl (.inl rfl)) (sa_cons (se_var (i := 1) rfl (.inl rfl)) (sa_cons (se_var (i := 3) rfl (.inl rfl)) sa_nil))) (len_cons (len_cons (len_cons len_nil)))))
    (sss_one (ss_ret (se_callTy call_tupleI (by rfl) B.b_tuple (by rfl) (sa_cons (se_lc (own := [("at", 5), ("time", 6)]) (ct := (.tup [5, 6])) rfl sc_late_blocks.nd (pi_enumS (by rfl) B.b_enumerate (sa_cons (se_dn (dn_played_times B) takes_fn (hr.mono (by decide)) (by rfl) (sa_cons (se_var (i := 0) rfl (.inl rfl)) (sa_cons (se_var (i := 1) rfl (.inl rfl)) (sa_cons (se_var (i := 2) rfl (.inl rfl)) (sa_cons (se_var (i := 3) rfl (.inl rfl)) sa_nil)))) (len_cons (len_cons (len_cons (len_cons len_nil))))) sa_nil)) (blkOk_by (by rfl)) (by decide) (fun _ _ _ _ _ => (pg_ct rfl (pgs_ctc (pg_name (i := 5) sc_late_blocks.nd rfl (.inl rfl)) (pgs_ctc (pg_name (i := 6) sc_late_blocks.nd rfl (.inl rfl)) pgs_ctn)))) (fun _ _ _ _ _ => (pts_one (sc_cmp op_gtI (se_var (i := 6) rfl (.inl rfl)) (se_ix (se_var (i := 4) rfl (.inr (.inl rfl))) (se_var (i := 5) rfl (.inl rfl)) (fun _ _ => rfl)) (nomark _)))) (fun _ _ _ _ _ => (se_var (i := 5) rfl (.inl rfl)))) sa_nil)))))

theorem sc_is_never : FnScope ["plan", "ticks", "lead", "at", "cost", "begin"] ["plan", "ticks", "lead", "at"] (defScope s_is_never) := ⟨rfl, rfl, rfl, by decide +kernel, rfl, by decide +kernel, by decide +kernel⟩
theorem dn_is_never {P : Program} {w : World} {K : PySem.W.Frag} {mg : Str → Option Value} {base : Heap} {T : List (Addr × Str) × (Nat → Addr)} {co : Nat → Addr} (B : Hd P w K mg base T co) : Dn P w K mg base T 1 "is_never" 4 d_is_never :=
  dn_mk (k := 0) (r := r_is_never) B.f_is_never sc_is_never rfl rfl (fun _ _ _ _ _ _ us hl => match us, hl with | [_, _, _, _], _ => rfl) fun f cdv A outer s H E Pr hr hT => by
    subst hT
    exact (sss_cons (ss_set (i := 4) sc_is_never.nd rfl (.inl rfl) se_int)
    (sss_cons (ss_for passes_fn rfl (pi_rng3 (by rfl) B.b_range (sa_cons (se_var (i := 3) rfl (.inl rfl)) (sa_cons (se_bin op_subI (se_var (i := 2) rfl (.inl rfl)) se_int) (sa_cons (se_un un_negI se_int) sa_nil)))) (sg_name (i := 5) sc_is_never.nd rfl (.inl rfl)) (sss_cons (ss_aug (i := 4) sc_is_never.nd rfl (.inl rfl) (se_ix (se_ix (se_var (i := 0) rfl (.inl rfl)) se_int (fun _ _ => rfl)) (se_var (i := 5) rfl (.inl rfl)) (fun _ _ => rfl)) ip_add)
    (sss_one (ss_if (sc_cmp op_gtI (se_var (i := 4) rfl (.inl rfl)) (se_bin op_mulT (se_var (i := 1) rfl (.inl rfl)) (se_callB (call_sumT rfl) (by rfl) B.b_sum (by rfl) (sa_cons (se_slice (se_ix (se_var (i := 0) rfl (.inl rfl)) se_int (fun _ _ => rfl)) (sp_some (se_bin op_addI (se_bin op_subI (se_var (i := 5) rfl (.inl rfl)) (se_var (i := 2) rfl (.inl rfl))) se_int)) (sp_some (se_var (i := 3) rfl (.inl rfl)))) sa_nil))) (nomark _)) (sss_one (ss_ret se_bl)) sss_nil))))
    (sss_one (ss_ret se_bl))))

theorem sc_least_late : FnScope ["plan", "ticks", "lead", "never", "low", "high", "middle", "at"] ["plan", "ticks", "lead"] (defScope s_least_late) := ⟨rfl, rfl, rfl, by decide +kernel, rfl, by decide +kernel, by decide +kernel⟩
theorem dn_least_late {P : Program} {w : World} {K : PySem.W.Frag} {mg : Str → Option Value} {base : Heap} {T : List (Addr × Str) × (Nat → Addr)} {co : Nat → Addr} (B : Hd P w K mg base T co) : Dn P w K mg base T 9 "least_late" 3 d_least_late :=
  dn_mk (k := 8) (r := r_least_late) B.f_least_late sc_least_late rfl rfl (fun _ _ _ _ _ _ us hl => match us, hl with | [_, _, _], _ => rfl) fun f cdv A outer s H E Pr hr hT => by
    subst hT
    exact (sss_cons (ss_expr (se_dn (dn_check_hearing B) takes_fn (hr.mono (by decide)) (by rfl) (sa_cons (se_var (i := 0) rfl (.inr (.inl rfl))) (sa_cons (se_var (i := 1) rfl (.inr (.inl rfl))) (sa_cons (se_var (i := 2) rfl (.inr (.inl rfl))) (sa_cons se_int sa_nil)))) (len_cons (len_cons (len_cons (len_cons len_nil))))))
    (sss_cons (ss_setLc (own := [("at", 7)]) (ct := (.one 7)) (i := 3) rfl sc_least_late.nd rfl rfl (sw_true rfl rfl rfl (by decide +kernel)) (pi_rng1 (by rfl) B.b_range (sa_cons (se_callB call_lenI (by rfl) B.b_len (by rfl) (sa_cons (se_ix (se_var (i := 0) rfl (.inr (.inl rfl))) se_int (fun _ _ => rfl)) sa_nil)) sa_nil)) (blkOk_by (by rfl)) (by decide) (fun _ _ _ _ _ => (pg_name (i := 7) sc_least_late.nd rfl (.inl rfl))) (fun _ _ _ _ _ => (pts_one (sw_and (sc_cmp op_geI (se_var (i := 7) rfl (.inl rfl)) (se_var (i := 2) rfl (.inr (.inl rfl))) (nomark _)) (sw_and1 (sc_truth (se_dn (dn_is_never B) LamX.takes0 (hr.mono (by decide)) (by rfl) (sa_cons (se_var (i := 0) rfl (.inr (.inl rfl))) (sa_cons (se_var (i := 1) rfl (.inr (.inl rfl))) (sa_cons (se_var (i := 2) rfl (.inr (.inl rfl))) (sa_cons (se_var (i := 7) rfl (.inl rfl)) sa_nil)))) (len_cons (len_cons (len_cons (len_cons len_nil))))) (fun _ => rfl)))).pt)) (fun _ _ _ _ _ => (se_var (i := 7) rfl (.inl rfl))))
    (sss_cons (ss_if (sc_cmp (op_neI (ru4 hr)) (se_var (i := 3) rfl (.inl rfl)) (se_lst sa_nil) (nomark _)) (sss_one (ss_ret (se_tup (sa_cons (se_str (s := [110, 101, 118, 101, 114]) (by rfl) (by decide)) (sa_cons (se_ix (se_var (i := 3) rfl (.inl rfl)) se_int (fun _ _ => rfl)) sa_nil))))) sss_nil)
    (sss_cons (ss_par (i := 4) (j := 5) rfl sc_least_late.nd rfl rfl (by decide) rfl rfl (sa_cons se_int (sa_cons (se_callB (call_sumT rfl) (by rfl) B.b_sum (by rfl) (sa_cons (se_ix (se_var (i := 0) rfl (.inr (.inl rfl))) se_int (fun _ _ => rfl)) sa_nil)) sa_nil)) (by rfl))
    (sss_cons (ss_while passes_fn (sc_cmp op_ltI (se_var (i := 4) rfl (.inl rfl)) (se_var (i := 5) rfl (.inl rfl)) (nomark _)) (sss_cons (ss_set (i := 6) sc_least_late.nd rfl (.inl rfl) (se_bin op_divI (se_bin op_addI (se_var (i := 4) rfl (.inl rfl)) (se_var (i := 5) rfl (.inl rfl))) se_int))
    (sss_one (ss_if (sc_cmp (op_eqI (ru4 hr)) (se_dn (dn_late_blocks B) takes_fn (hr.mono (by decide)) (by rfl) (sa_cons (se_var (i := 0) rfl (.inr (.inl rfl))) (sa_cons (se_var (i := 1) rfl (.inr (.inl rfl))) (sa_cons (se_var (i := 2) rfl (.inr (.inl rfl))) (sa_cons (se_var (i := 6) rfl (.inl rfl)) sa_nil)))) (len_cons (len_cons (len_cons (len_cons len_nil))))) (se_tup sa_nil) (nomark _)) (sss_one (ss_set (i := 5) sc_least_late.nd rfl (.inl rfl) (se_var (i := 6) rfl (.inl rfl)))) (sss_one (ss_set (i := 4) sc_least_late.nd rfl (.inl rfl) (se_bin op_addI (se_var (i := 6) rfl (.inl rfl)) se_int)))))))
    (sss_one (ss_ret (se_tup (sa_cons (se_str (s := [108, 97, 116, 101]) (by rfl) (by decide)) (sa_cons (se_var (i := 4) rfl (.inl rfl)) (sa_cons (se_ifE (sc_cmp op_gtI (se_var (i := 4) rfl (.inl rfl)) se_int (nomark _)) (se_ix (se_dn (dn_late_blocks B) takes_fn (hr.mono (by decide)) (by rfl) (sa_cons (se_var (i := 0) rfl (.inr (.inl rfl))) (sa_cons (se_var (i := 1) rfl (.inr (.inl rfl))) (sa_cons (se_var (i := 2) rfl (.inr (.inl rfl))) (sa_cons (se_bin op_subI (se_var (i := 4) rfl (.inl rfl)) se_int) sa_nil)))) (len_cons (len_cons (len_cons (len_cons len_nil))))) se_int (fun _ _ => rfl)) se_non) sa_nil)))))))))))

theorem sc_shows_least_late : FnScope ["plan", "ticks", "lead", "told", "due"] ["plan", "ticks", "lead", "told"] (defScope s_shows_least_late) := ⟨rfl, rfl, rfl, by decide +kernel, rfl, by decide +kernel, by decide +kernel⟩
theorem dn_shows_least_late {P : Program} {w : World} {K : PySem.W.Frag} {mg : Str → Option Value} {base : Heap} {T : List (Addr × Str) × (Nat → Addr)} {co : Nat → Addr} (B : Hd P w K mg base T co) : Dn P w K mg base T 10 "shows_least_late" 4 d_shows_least_late :=
  dn_mk (k := 9) (r := r_shows_least_late) B.f_shows_least_late sc_shows_least_late rfl rfl (fun _ _ _ _ _ _ us hl => match us, hl with | [_, _, _, _], _ => rfl) fun f cdv A outer s H E Pr hr hT => by
    subst hT
    exact (sss_cons (ss_set (i := 4) sc_shows_least_late.nd rfl (.inl rfl) (se_dn (dn_least_late B) takes_fn (hr.mono (by decide)) (by rfl) (sa_cons (se_var (i := 0) rfl (.inl rfl)) (sa_cons (se_var (i := 1) rfl (.inl rfl)) (sa_cons (se_var (i := 2) rfl (.inl rfl)) sa_nil))) (len_cons (len_cons (len_cons len_nil)))))
    (sss_cons (ss_if (sc_cmp (op_eqI (ru4 hr)) (se_ix (se_var (i := 4) rfl (.inl rfl)) se_int (fun _ _ => rfl)) (se_str (s := [110, 101, 118, 101, 114]) (by rfl) (by decide)) (nomark _)) (sss_cons (ss_if (sw_or (sc_not (sc_truth (se_dn (dn_is_many B) takes_fn (hr.mono (by decide)) (by rfl) (sa_cons (se_var (i := 3) rfl (.inl rfl)) (sa_cons se_int sa_nil)) (len_cons (len_cons len_nil))) (fun _ => rfl))) (sw_or (sc_cmp (op_neI (ru4 hr)) (se_ix (se_var (i := 3) rfl (.inl rfl)) se_int (fun _ _ => rfl)) (se_str (s := [110, 101, 118, 101, 114]) (by rfl) (by decide)) (nomark _)) (sw_or1 (sc_not (sc_truth (se_dn (dn_is_from B) takes_fn (hr.mono (by decide)) (by rfl) (sa_cons (se_ix (se_var (i := 3) rfl (.inl rfl)) se_int (fun _ _ => rfl)) (sa_cons se_int (sa_cons (se_bin op_subI (se_callB call_lenI (by rfl) B.b_len (by rfl) (sa_cons (se_ix (se_var (i := 0) rfl (.inl rfl)) se_int (fun _ _ => rfl)) sa_nil)) se_int) sa_nil))) (len_cons (len_cons (len_cons len_nil)))) (fun _ => rfl)))))).pt (sss_one (ss_ret se_bl)) sss_nil)
    (sss_one (ss_ret (se_and (se_cmp op_geI (se_ix (se_var (i := 3) rfl (.inl rfl)) se_int (fun _ _ => rfl)) (se_var (i := 2) rfl (.inl rfl)) (nomark _)) (se_one (se_dn (dn_is_never B) takes_fn (hr.mono (by decide)) (by rfl) (sa_cons (se_var (i := 0) rfl (.inl rfl)) (sa_cons (se_var (i := 1) rfl (.inl rfl)) (sa_cons (se_var (i := 2) rfl (.inl rfl)) (sa_cons (se_ix (se_var (i := 3) rfl (.inl rfl)) se_int (fun _ _ => rfl)) sa_nil)))) (len_cons (len_cons (len_cons (len_cons len_nil)))))))))) sss_nil)
    (sss_cons (ss_if (sw_or (sc_not (sc_truth (se_dn (dn_is_many B) takes_fn (hr.mono (by decide)) (by rfl) (sa_cons (se_var (i := 3) rfl (.inl rfl)) (sa_cons se_int sa_nil)) (len_cons (len_cons len_nil))) (fun _ => rfl))) (sw_or (sc_cmp (op_neI (ru4 hr)) (se_slice (se_var (i := 3) rfl (.inl rfl)) sp_none (sp_some se_int)) (se_slice (se_var (i := 4) rfl (.inl rfl)) sp_none (sp_some se_int)) (nomark _)) (sw_or1 (sc_not (sc_truth (se_dn (dn_is_from B) takes_fn (hr.mono (by decide)) (by rfl) (sa_cons (se_ix (se_var (i := 3) rfl (.inl rfl)) se_int (fun _ _ => rfl)) (sa_cons se_int (sa_cons (se_gc B.c_MOST_LATE (by rfl)) sa_nil))) (len_cons (len_cons (len_cons len_nil)))) (fun _ => rfl)))))).pt (sss_one (ss_ret se_bl)) sss_nil)
    (sss_cons (ss_if (sc_cmp (op_eqI (ru4 hr)) (se_ix (se_var (i := 3) rfl (.inl rfl)) se_int (fun _ _ => rfl)) se_int (nomark _)) (sss_one (ss_ret (se_cmp op_isI (se_ix (se_var (i := 3) rfl (.inl rfl)) se_int (fun _ _ => rfl)) se_non (nomark _)))) sss_nil)
    (sss_one (ss_ret (se_and (se_dn (dn_is_from B) takes_fn (hr.mono (by decide)) (by rfl) (sa_cons (se_ix (se_var (i := 3) rfl (.inl rfl)) se_int (fun _ _ => rfl)) (sa_cons se_int (sa_cons (se_bin op_subI (se_callB call_lenI (by rfl) B.b_len (by rfl) (sa_cons (se_ix (se_var (i := 0) rfl (.inl rfl)) se_int (fun _ _ => rfl)) sa_nil)) se_int) sa_nil))) (len_cons (len_cons (len_cons len_nil)))) (se_one (se_cmp (op_inI (ru5 hr)) (se_ix (se_var (i := 3) rfl (.inl rfl)) se_int (fun _ _ => rfl)) (se_dn (dn_late_blocks B) takes_fn (hr.mono (by decide)) (by rfl) (sa_cons (se_var (i := 0) rfl (.inl rfl)) (sa_cons (se_var (i := 1) rfl (.inl rfl)) (sa_cons (se_var (i := 2) rfl (.inl rfl)) (sa_cons (se_bin op_subI (se_ix (se_var (i := 3) rfl (.inl rfl)) se_int (fun _ _ => rfl)) se_int) sa_nil)))) (len_cons (len_cons (len_cons (len_cons len_nil))))) (by with_unfolding_all rfl))))))))))

theorem sc_even_plan : FnScope ["many", "size", "each", "one", "thing", "rest", "sizes", "part"] ["many", "size", "each", "one"] (defScope s_even_plan) := ⟨rfl, rfl, rfl, by decide +kernel, rfl, by decide +kernel, by decide +kernel⟩
theorem dn_even_plan {P : Program} {w : World} {K : PySem.W.Frag} {mg : Str → Option Value} {base : Heap} {T : List (Addr × Str) × (Nat → Addr)} {co : Nat → Addr} (B : Hd P w K mg base T co) : Dn P w K mg base T 3 "even_plan" 4 d_even_plan :=
  dn_mk (k := 2) (r := r_even_plan) B.f_even_plan sc_even_plan rfl rfl (fun _ _ _ _ _ _ us hl => match us, hl with | [_, _, _, _], _ => rfl) fun f cdv A outer s H E Pr hr hT => by
    subst hT
    exact (sss_cons (ss_if (sc_not (sc_truth (se_dn (dn_is_from B) takes_fn (hr.mono (by decide)) (by rfl) (sa_cons (se_var (i := 1) rfl (.inl rfl)) (sa_cons se_int (sa_cons se_int sa_nil))) (len_cons (len_cons (len_cons len_nil)))) (fun _ => rfl))) (sss_one (ss_rs B.x_BadThing rfl takes_fn (hr.mono (by decide)) (by rfl) (se_var (i := 1) rfl (.inl rfl)))) sss_nil)
    (sss_cons (ss_if (sw_or (sc_not (sc_truth (se_dn (dn_is_from B) takes_fn (hr.mono (by decide)) (by rfl) (sa_cons (se_var (i := 0) rfl (.inl rfl)) (sa_cons se_int (sa_cons se_int sa_nil))) (len_cons (len_cons (len_cons len_nil)))) (fun _ => rfl))) (sw_or1 (sc_cmp op_gtI (se_var (i := 0) rfl (.inl rfl)) (se_bin op_mulT se_int (se_var (i := 1) rfl (.inl rfl))) (nomark _)))).pt (sss_one (ss_rs B.x_BadThing rfl takes_fn (hr.mono (by decide)) (by rfl) (se_var (i := 0) rfl (.inl rfl)))) sss_nil)
    (sss_cons (ss_for passes_fn rfl (pi_seqI (se_tup (sa_cons (se_var (i := 2) rfl (.inr (.inl rfl))) (sa_cons (se_var (i := 3) rfl (.inr (.inl rfl))) sa_nil)))) (sg_name (i := 4) sc_even_plan.nd rfl (.inl rfl)) (sss_one (ss_if (sc_not (sc_truth (se_dn (dn_is_from B) takes_fn (hr.mono (by decide)) (by rfl) (sa_cons (se_var (i := 4) rfl (.inl rfl)) (sa_cons se_int (sa_cons se_int sa_nil))) (len_cons (len_cons (len_cons len_nil)))) (fun _ => rfl))) (sss_one (ss_rs B.x_BadThing rfl takes_fn (hr.mono (by decide)) (by rfl) (se_var (i := 4) rfl (.inl rfl)))) sss_nil)))
    (sss_cons (ss_if (sc_cmp op_gtI (se_bin op_addI (se_var (i := 2) rfl (.inr (.inl rfl))) (se_bin op_mulT (se_var (i := 3) rfl (.inr (.inl rfl))) (se_callB (call_minI rfl) (by rfl) B.b_min (by rfl) (sa_cons (se_lst (sa_cons (se_var (i := 1) rfl (.inl rfl)) (sa_cons (se_var (i := 0) rfl (.inl rfl)) sa_nil))) sa_nil)))) se_int (nomark _)) (sss_one (ss_rs B.x_BadThing rfl takes_fn (hr.mono (by decide)) (by rfl) (se_var (i := 3) rfl (.inr (.inl rfl))))) sss_nil)
    (sss_cons (ss_set (i := 5) sc_even_plan.nd rfl (.inl rfl) (se_bin op_subI (se_var (i := 0) rfl (.inl rfl)) (se_bin op_mulT (se_var (i := 1) rfl (.inl rfl)) (se_bin op_divI (se_var (i := 0) rfl (.inl rfl)) (se_var (i := 1) rfl (.inl rfl))))))
    (sss_cons (ss_set (i := 6) sc_even_plan.nd rfl (.inl rfl) (se_bin op_addI (se_bin op_mulT (se_tup (sa_cons (se_var (i := 1) rfl (.inl rfl)) sa_nil)) (se_bin op_divI (se_var (i := 0) rfl (.inl rfl)) (se_var (i := 1) rfl (.inl rfl)))) (se_ifE (sc_cmp op_gtI (se_var (i := 5) rfl (.inl rfl)) se_int (nomark _)) (se_tup (sa_cons (se_var (i := 5) rfl (.inl rfl)) sa_nil)) (se_tup sa_nil))))
    (sss_one (ss_ret (se_tup (sa_cons (se_var (i := 6) rfl (.inl rfl)) (sa_cons (se_callTy call_tupleI (by rfl) B.b_tuple (by rfl) (sa_cons (se_lc (own := [("part", 7)]) (ct := (.one 7)) rfl sc_even_plan.nd (pi_seqI (se_var (i := 6) rfl (.inl rfl))) (blkOk_by (by rfl)) (by decide) (fun _ _ _ _ _ => (pg_name (i := 7) sc_even_plan.nd rfl (.inl rfl))) (fun _ _ _ _ _ => pts_yes) (fun _ _ _ _ _ => (se_bin op_addI (se_var (i := 2) rfl (.inr (.inl rfl))) (se_bin op_mulT (se_var (i := 3) rfl (.inr (.inl rfl))) (se_var (i := 7) rfl (.inl rfl)))))) sa_nil)) sa_nil)))))))))))

theorem sc_least_size : FnScope ["each", "one", "ticks", "most", "thing", "some", "size"] ["each", "one", "ticks", "most"] (defScope s_least_size) := ⟨rfl, rfl, rfl, by decide +kernel, rfl, by decide +kernel, by decide +kernel⟩
theorem dn_least_size {P : Program} {w : World} {K : PySem.W.Frag} {mg : Str → Option Value} {base : Heap} {T : List (Addr × Str) × (Nat → Addr)} {co : Nat → Addr} (B : Hd P w K mg base T co) : Dn P w K mg base T 3 "least_size" 4 d_least_size :=
  dn_mk (k := 2) (r := r_least_size) B.f_least_size sc_least_size rfl rfl (fun _ _ _ _ _ _ us hl => match us, hl with | [_, _, _, _], _ => rfl) fun f cdv A outer s H E Pr hr hT => by
    subst hT
    exact (sss_cons (ss_for passes_fn rfl (pi_seqI (se_tup (sa_cons (se_var (i := 0) rfl (.inr (.inl rfl))) (sa_cons (se_var (i := 1) rfl (.inr (.inl rfl))) sa_nil)))) (sg_name (i := 4) sc_least_size.nd rfl (.inl rfl)) (sss_one (ss_if (sc_not (sc_truth (se_dn (dn_is_from B) takes_fn (hr.mono (by decide)) (by rfl) (sa_cons (se_var (i := 4) rfl (.inl rfl)) (sa_cons se_int (sa_cons se_int sa_nil))) (len_cons (len_cons (len_cons len_nil)))) (fun _ => rfl))) (sss_one (ss_rs B.x_BadThing rfl takes_fn (hr.mono (by decide)) (by rfl) (se_var (i := 4) rfl (.inl rfl)))) sss_nil)))
    (sss_cons (ss_if (sc_not (sc_truth (se_dn (dn_is_from B) takes_fn (hr.mono (by decide)) (by rfl) (sa_cons (se_var (i := 2) rfl (.inr (.inl rfl))) (sa_cons se_int (sa_cons se_int sa_nil))) (len_cons (len_cons (len_cons len_nil)))) (fun _ => rfl))) (sss_one (ss_rs B.x_BadThing rfl takes_fn (hr.mono (by decide)) (by rfl) (se_var (i := 2) rfl (.inr (.inl rfl))))) sss_nil)
    (sss_cons (ss_if (sc_not (sc_truth (se_dn (dn_is_from B) takes_fn (hr.mono (by decide)) (by rfl) (sa_cons (se_var (i := 3) rfl (.inl rfl)) (sa_cons se_int (sa_cons se_int sa_nil))) (len_cons (len_cons (len_cons len_nil)))) (fun _ => rfl))) (sss_one (ss_rs B.x_BadThing rfl takes_fn (hr.mono (by decide)) (by rfl) (se_var (i := 3) rfl (.inl rfl)))) sss_nil)
    (sss_cons (ss_setLc (own := [("size", 6)]) (ct := (.one 6)) (i := 5) rfl sc_least_size.nd rfl rfl (sw_true rfl rfl rfl (by decide +kernel)) (pi_rng2 (by rfl) B.b_range (sa_cons se_int (sa_cons (se_bin op_addI (se_var (i := 3) rfl (.inl rfl)) se_int) sa_nil))) (blkOk_by (by rfl)) (by decide) (fun _ _ _ _ _ => (pg_name (i := 6) sc_least_size.nd rfl (.inl rfl))) (fun _ _ _ _ _ => (pts_one (sc_cmp op_leI (se_bin op_addI (se_var (i := 0) rfl (.inr (.inl rfl))) (se_bin op_mulT (se_var (i := 1) rfl (.inr (.inl rfl))) (se_var (i := 6) rfl (.inl rfl)))) (se_bin op_mulT (se_var (i := 2) rfl (.inr (.inl rfl))) (se_var (i := 6) rfl (.inl rfl))) (nomark _)))) (fun _ _ _ _ _ => (se_var (i := 6) rfl (.inl rfl))))
    (sss_one (ss_ret (se_ifE (sc_cmp (op_neI (ru4 hr)) (se_var (i := 5) rfl (.inl rfl)) (se_lst sa_nil) (nomark _)) (se_ix (se_var (i := 5) rfl (.inl rfl)) se_int (fun _ _ => rfl)) se_non)))))))

theorem sc_delay_of : FnScope ["plan", "ticks", "lead", "told", "heard", "rows", "time", "done", "cost"] ["plan", "ticks", "lead"] (defScope s_delay_of) := ⟨rfl, rfl, rfl, by decide +kernel, rfl, by decide +kernel, by decide +kernel⟩
theorem dn_delay_of {P : Program} {w : World} {K : PySem.W.Frag} {mg : Str → Option Value} {base : Heap} {T : List (Addr × Str) × (Nat → Addr)} {co : Nat → Addr} (B : Hd P w K mg base T co) : Dn P w K mg base T 10 "delay_of" 3 d_delay_of :=
  dn_mk (k := 9) (r := r_delay_of) B.f_delay_of sc_delay_of rfl rfl (fun _ _ _ _ _ _ us hl => match us, hl with | [_, _, _], _ => rfl) fun f cdv A outer s H E Pr hr hT => by
    subst hT
    exact (sss_cons (ss_set (i := 3) sc_delay_of.nd rfl (.inl rfl) (se_dn (dn_least_late B) takes_fn (hr.mono (by decide)) (by rfl) (sa_cons (se_var (i := 0) rfl (.inl rfl)) (sa_cons (se_var (i := 1) rfl (.inl rfl)) (sa_cons (se_var (i := 2) rfl (.inl rfl)) sa_nil))) (len_cons (len_cons (len_cons len_nil)))))
    (sss_cons (ss_if (sc_cmp (op_eqI (ru4 hr)) (se_ix (se_var (i := 3) rfl (.inl rfl)) se_int (fun _ _ => rfl)) (se_str (s := [110, 101, 118, 101, 114]) (by rfl) (by decide)) (nomark _)) (sss_one (ss_ret se_non)) sss_nil)
    (sss_cons (ss_set (i := 4) sc_delay_of.nd rfl (.inl rfl) (se_dn (dn_heard_times B) takes_fn (hr.mono (by decide)) (by rfl) (sa_cons (se_var (i := 0) rfl (.inl rfl)) (sa_cons (se_var (i := 1) rfl (.inl rfl)) (sa_cons (se_ix (se_var (i := 3) rfl (.inl rfl)) se_int (fun _ _ => rfl)) sa_nil))) (len_cons (len_cons (len_cons len_nil)))))
    (sss_zip3 (own := [("time", 6), ("done", 7), ("cost", 8)]) (ct := (.tup [6, 7, 8])) (i := 5) rfl sc_delay_of.nd rfl (.inl rfl) (by rfl) B.b_zip (sa_cons (se_var (i := 4) rfl (.inl rfl)) (sa_cons (se_dn (dn_played_times B) takes_fn (hr.mono (by decide)) (by rfl) (sa_cons (se_var (i := 0) rfl (.inl rfl)) (sa_cons (se_var (i := 1) rfl (.inl rfl)) (sa_cons (se_var (i := 2) rfl (.inl rfl)) (sa_cons (se_ix (se_var (i := 3) rfl (.inl rfl)) se_int (fun _ _ => rfl)) sa_nil)))) (len_cons (len_cons (len_cons (len_cons len_nil))))) (sa_cons (se_ix (se_var (i := 0) rfl (.inl rfl)) se_int (fun _ _ => rfl)) sa_nil))) (call_maxI rfl) (by rfl) B.b_max (by rfl) (by decide) (blkOk_by (by rfl)) (.inl rfl) (fun _ _ _ _ _ => (pg_ct rfl (pgs_ctc (pg_name (i := 6) sc_delay_of.nd rfl (.inl rfl)) (pgs_ctc (pg_name (i := 7) sc_delay_of.nd rfl (.inl rfl)) (pgs_ctc (pg_name (i := 8) sc_delay_of.nd rfl (.inl rfl)) pgs_ctn))))) (fun _ _ _ _ _ => (se_bin op_subI (se_var (i := 6) rfl (.inl rfl)) (se_bin op_subI (se_var (i := 7) rfl (.inl rfl)) (se_var (i := 8) rfl (.inl rfl)))))))))

theorem sc__law_cell_at : FnScope ["script", "k"] ["script", "k"] (defScope s__law_cell_at) := ⟨rfl, rfl, rfl, by decide +kernel, rfl, by decide +kernel, by decide +kernel⟩
theorem dn__law_cell_at {P : Program} {w : World} {K : PySem.W.Frag} {mg : Str → Option Value} {base : Heap} {T : List (Addr × Str) × (Nat → Addr)} {co : Nat → Addr} (B : Hd P w K mg base T co) : Dn P w K mg base T 1 "_law_cell_at" 2 d__law_cell_at :=
  dn_mk (k := 0) (r := r__law_cell_at) B.f__law_cell_at sc__law_cell_at rfl rfl (fun _ _ _ _ _ _ us hl => match us, hl with | [_, _], _ => rfl) fun f cdv A outer s H E Pr hr hT => by
    subst hT
    exact (sss_cons (ss_if (sc_cmp op_ltI (se_var (i := 1) rfl (.inl rfl)) (se_callB call_lenI (by rfl) B.b_len (by rfl) (sa_cons (se_var (i := 0) rfl (.inl rfl)) sa_nil)) (nomark _)) (sss_one (ss_ret (se_ix (se_var (i := 0) rfl (.inl rfl)) (se_var (i := 1) rfl (.inl rfl)) (fun _ _ => rfl)))) sss_nil)
    (sss_one (ss_ret se_int)))

theorem sc__law_draw : FnScope ["cell", "k", "bound", "primes"] ["cell", "k", "bound"] (defScope s__law_draw) := ⟨rfl, rfl, rfl, by decide +kernel, rfl, by decide +kernel, by decide +kernel⟩
theorem dn__law_draw {P : Program} {w : World} {K : PySem.W.Frag} {mg : Str → Option Value} {base : Heap} {T : List (Addr × Str) × (Nat → Addr)} {co : Nat → Addr} (B : Hd P w K mg base T co) : Dn P w K mg base T 1 "_law_draw" 3 d__law_draw :=
  dn_mk (k := 0) (r := r__law_draw) B.f__law_draw sc__law_draw rfl rfl (fun _ _ _ _ _ _ us hl => match us, hl with | [_, _, _], _ => rfl) fun f cdv A outer s H E Pr hr hT => by
    subst hT
    exact (sss_cons (ss_set (i := 3) sc__law_draw.nd rfl (.inl rfl) (se_tup (sa_cons se_int (sa_cons se_int (sa_cons se_int (sa_cons se_int (sa_cons se_int (sa_cons se_int (sa_cons se_int (sa_cons se_int (sa_cons se_int (sa_cons se_int (sa_cons se_int (sa_cons se_int (sa_cons se_int (sa_cons se_int (sa_cons se_int (sa_cons se_int sa_nil))))))))))))))))))
    (sss_one (ss_ret (se_bin op_modI (se_bin op_modI (se_callTy call_intI (by rfl) B.b_int (by rfl) (sa_cons (se_bin op_addI (se_bin op_mulT (se_var (i := 0) rfl (.inl rfl)) se_int) (se_bin op_mulT (se_var (i := 1) rfl (.inl rfl)) se_int)) sa_nil)) (se_ix (se_var (i := 3) rfl (.inl rfl)) (se_bin op_modI (se_callTy call_intI (by rfl) B.b_int (by rfl) (sa_cons (se_var (i := 1) rfl (.inl rfl)) sa_nil)) se_int) (fun _ _ => rfl))) (se_var (i := 2) rfl (.inl rfl))))))

theorem sc__law_number : FnScope ["cell", "k", "bound", "scale", "lap", "remains", "small"] ["cell", "k", "bound"] (defScope s__law_number) := ⟨rfl, rfl, rfl, by decide +kernel, rfl, by decide +kernel, by decide +kernel⟩
theorem dn__law_number {P : Program} {w : World} {K : PySem.W.Frag} {mg : Str → Option Value} {base : Heap} {T : List (Addr × Str) × (Nat → Addr)} {co : Nat → Addr} (B : Hd P w K mg base T co) : Dn P w K mg base T 2 "_law_number" 3 d__law_number :=
  dn_mk (k := 1) (r := r__law_number) B.f__law_number sc__law_number rfl rfl (fun _ _ _ _ _ _ us hl => match us, hl with | [_, _, _], _ => rfl) fun f cdv A outer s H E Pr hr hT => by
    subst hT
    exact (sss_cons (ss_set (i := 3) sc__law_number.nd rfl (.inl rfl) se_int)
    (sss_cons (ss_for passes_fn rfl (pi_rng1 (by rfl) B.b_range (sa_cons (se_bin op_modI (se_callTy call_intI (by rfl) B.b_int (by rfl) (sa_cons (se_var (i := 1) rfl (.inl rfl)) sa_nil)) se_int) sa_nil)) (sg_name (i := 4) sc__law_number.nd rfl (.inl rfl)) (sss_one (ss_set (i := 3) sc__law_number.nd rfl (.inl rfl) (se_bin op_mulT (se_var (i := 3) rfl (.inl rfl)) se_int))))
    (sss_cons (ss_set (i := 5) sc__law_number.nd rfl (.inl rfl) (se_bin op_divI (se_bin op_subI (se_var (i := 0) rfl (.inl rfl)) (se_bin op_powI se_int se_int)) (se_var (i := 3) rfl (.inl rfl))))
    (sss_cons (ss_if (sc_cmp op_gtI (se_var (i := 5) rfl (.inl rfl)) se_int (nomark _)) (sss_one (ss_ret (se_bin op_modI (se_bin op_modI (se_callTy call_intI (by rfl) B.b_int (by rfl) (sa_cons (se_var (i := 5) rfl (.inl rfl)) sa_nil)) se_int) (se_var (i := 2) rfl (.inl rfl))))) sss_nil)
    (sss_cons (ss_set (i := 6) sc__law_number.nd rfl (.inl rfl) (se_bin op_modI (se_callTy call_intI (by rfl) B.b_int (by rfl) (sa_cons (se_var (i := 0) rfl (.inl rfl)) sa_nil)) se_int))
    (sss_one (ss_ret (se_bin op_modI (se_dn (dn__law_draw B) takes_fn (hr.mono (by decide)) (by rfl) (sa_cons (se_bin op_mulT (se_bin op_addI (se_var (i := 6) rfl (.inl rfl)) (se_bin op_mulT se_int (se_var (i := 1) rfl (.inl rfl)))) (se_bin op_addI (se_bin op_addI (se_var (i := 6) rfl (.inl rfl)) (se_bin op_mulT se_int (se_var (i := 1) rfl (.inl rfl)))) se_int)) (sa_cons (se_bin op_addI (se_bin op_modI (se_callTy call_intI (by rfl) B.b_int (by rfl) (sa_cons (se_var (i := 1) rfl (.inl rfl)) sa_nil)) se_int) se_int) (sa_cons se_int sa_nil))) (len_cons (len_cons (len_cons len_nil)))) (se_var (i := 2) rfl (.inl rfl))))))))))

theorem sc__law_next : FnScope ["draw", "bound", "at", "cell"] ["draw", "bound"] (defScope s__law_next) := ⟨rfl, rfl, rfl, by decide +kernel, rfl, by decide +kernel, by decide +kernel⟩
theorem dn__law_next {P : Program} {w : World} {K : PySem.W.Frag} {mg : Str → Option Value} {base : Heap} {T : List (Addr × Str) × (Nat → Addr)} {co : Nat → Addr} (B : Hd P w K mg base T co) : Dn P w K mg base T 3 "_law_next" 2 d__law_next :=
  dn_mk (k := 2) (r := r__law_next) B.f__law_next sc__law_next rfl rfl (fun _ _ _ _ _ _ us hl => match us, hl with | [_, _], _ => rfl) fun f cdv A outer s H E Pr hr hT => by
    subst hT
    exact (sss_cons (ss_asg (se_bin op_addI (se_ix (se_var (i := 0) rfl (.inl rfl)) se_int (fun _ _ => rfl)) se_int) (sg_sub (W := WF) (se_var (i := 0) rfl (.inl rfl)) se_int))
    (sss_cons (ss_set (i := 2) sc__law_next.nd rfl (.inl rfl) (se_bin op_divI (se_ix (se_var (i := 0) rfl (.inl rfl)) se_int (fun _ _ => rfl)) se_int))
    (sss_cons (ss_set (i := 3) sc__law_next.nd rfl (.inl rfl) (se_bin op_addI (se_dn (dn__law_cell_at B) takes_fn (hr.mono (by decide)) (by rfl) (sa_cons (se_ix (se_var (i := 0) rfl (.inl rfl)) se_int (fun _ _ => rfl)) (sa_cons (se_bin op_addI (se_ix (se_var (i := 0) rfl (.inl rfl)) se_int (fun _ _ => rfl)) (se_var (i := 2) rfl (.inl rfl))) sa_nil)) (len_cons (len_cons len_nil))) (se_bin op_mulT se_int (se_var (i := 2) rfl (.inl rfl)))))
    (sss_one (ss_ret (se_dn (dn__law_number B) takes_fn (hr.mono (by decide)) (by rfl) (sa_cons (se_var (i := 3) rfl (.inl rfl)) (sa_cons (se_bin op_addI (se_bin op_modI (se_callTy call_intI (by rfl) B.b_int (by rfl) (sa_cons (se_ix (se_var (i := 0) rfl (.inl rfl)) se_int (fun _ _ => rfl)) sa_nil)) se_int) se_int) (sa_cons (se_var (i := 1) rfl (.inl rfl)) sa_nil))) (len_cons (len_cons (len_cons len_nil)))))))))

theorem sc__law_heard : FnScope ["plan", "ticks", "late", "at"] ["plan", "ticks", "late"] (defScope s__law_heard) := ⟨rfl, rfl, rfl, by decide +kernel, rfl, by decide +kernel, by decide +kernel⟩
theorem dn__law_heard {P : Program} {w : World} {K : PySem.W.Frag} {mg : Str → Option Value} {base : Heap} {T : List (Addr × Str) × (Nat → Addr)} {co : Nat → Addr} (B : Hd P w K mg base T co) : Dn P w K mg base T 1 "_law_heard" 3 d__law_heard :=
  dn_mk (k := 0) (r := r__law_heard) B.f__law_heard sc__law_heard rfl rfl (fun _ _ _ _ _ _ us hl => match us, hl with | [_, _, _], _ => rfl) fun f cdv A outer s H E Pr hr hT => by
    subst hT
    exact (sss_one (ss_ret (se_lc (own := [("at", 3)]) (ct := (.one 3)) rfl sc__law_heard.nd (pi_rng1 (by rfl) B.b_range (sa_cons (se_bin op_addI (se_callB call_lenI (by rfl) B.b_len (by rfl) (sa_cons (se_ix (se_var (i := 0) rfl (.inr (.inl rfl))) se_int (fun _ _ => rfl)) sa_nil)) se_int) sa_nil)) (blkOk_by (by rfl)) (by decide) (fun _ _ _ _ _ => (pg_name (i := 3) sc__law_heard.nd rfl (.inl rfl))) (fun _ _ _ _ _ => pts_yes) (fun _ _ _ _ _ => (se_bin op_addI (se_var (i := 2) rfl (.inr (.inl rfl))) (se_bin op_mulT (se_var (i := 1) rfl (.inr (.inl rfl))) (se_callB (call_sumT rfl) (by rfl) B.b_sum (by rfl) (sa_cons (se_slice (se_ix (se_var (i := 0) rfl (.inr (.inl rfl))) se_int (fun _ _ => rfl)) sp_none (sp_some (se_var (i := 3) rfl (.inl rfl)))) sa_nil))))))))

theorem sc__law_times : FnScope ["plan", "ticks", "lead", "late", "heard", "found", "at", "begin"] ["plan", "ticks", "lead", "late"] (defScope s__law_times) := ⟨rfl, rfl, rfl, by decide +kernel, rfl, by decide +kernel, by decide +kernel⟩
theorem dn__law_times {P : Program} {w : World} {K : PySem.W.Frag} {mg : Str → Option Value} {base : Heap} {T : List (Addr × Str) × (Nat → Addr)} {co : Nat → Addr} (B : Hd P w K mg base T co) : Dn P w K mg base T 2 "_law_times" 4 d__law_times :=
  dn_mk (k := 1) (r := r__law_times) B.f__law_times sc__law_times rfl rfl (fun _ _ _ _ _ _ us hl => match us, hl with | [_, _, _, _], _ => rfl) fun f cdv A outer s H E Pr hr hT => by
    subst hT
    exact (sss_cons (ss_par (i := 4) (j := 5) rfl sc__law_times.nd rfl rfl (by decide) rfl rfl (sa_cons (se_dn (dn__law_heard B) takes_fn (hr.mono (by decide)) (by rfl) (sa_cons (se_var (i := 0) rfl (.inl rfl)) (sa_cons (se_var (i := 1) rfl (.inl rfl)) (sa_cons (se_var (i := 3) rfl (.inl rfl)) sa_nil))) (len_cons (len_cons (len_cons len_nil)))) (sa_cons (se_lst sa_nil) sa_nil)) (by rfl))
    (sss_cons (ss_for passes_fn rfl (pi_rng1 (by rfl) B.b_range (sa_cons (se_callB call_lenI (by rfl) B.b_len (by rfl) (sa_cons (se_ix (se_var (i := 0) rfl (.inl rfl)) se_int (fun _ _ => rfl)) sa_nil)) sa_nil)) (sg_name (i := 6) sc__law_times.nd rfl (.inl rfl)) (sss_cons (ss_set (i := 7) sc__law_times.nd rfl (.inl rfl) (se_callB (call_maxI rfl) (by rfl) B.b_max (by rfl) (sa_cons (se_lst (sa_cons (se_ifE (sc_cmp (op_neI (ru4 hr)) (se_var (i := 5) rfl (.inl rfl)) (se_lst sa_nil) (nomark _)) (se_ix (se_var (i := 5) rfl (.inl rfl)) (se_un un_negI se_int) (fun _ _ => rfl)) se_int) (sa_cons (se_ifE (sc_cmp op_geI (se_var (i := 6) rfl (.inl rfl)) (se_var (i := 2) rfl (.inl rfl)) (nomark _)) (se_ix (se_var (i := 4) rfl (.inl rfl)) (se_bin op_addI (se_bin op_subI (se_var (i := 6) rfl (.inl rfl)) (se_var (i := 2) rfl (.inl rfl))) se_int) (fun _ _ => rfl)) se_int) sa_nil))) sa_nil)))
    (sss_one (ss_expr (se_methL PySem.F.plainAttrs_list PySem.F.slot_list_append PySem.F.type_list_append mt_appI (se_var (i := 5) rfl (.inl rfl)) (sa_cons (se_bin op_addI (se_var (i := 7) rfl (.inl rfl)) (se_ix (se_ix (se_var (i := 0) rfl (.inl rfl)) se_int (fun _ _ => rfl)) (se_var (i := 6) rfl (.inl rfl)) (fun _ _ => rfl))) sa_nil))))))
    (sss_one (ss_ret (se_var (i := 5) rfl (.inl rfl))))))

theorem sc__law_late : FnScope ["plan", "ticks", "lead", "late", "heard", "times", "at"] ["plan", "ticks", "lead", "late"] (defScope s__law_late) := ⟨rfl, rfl, rfl, by decide +kernel, rfl, by decide +kernel, by decide +kernel⟩
theorem dn__law_late {P : Program} {w : World} {K : PySem.W.Frag} {mg : Str → Option Value} {base : Heap} {T : List (Addr × Str) × (Nat → Addr)} {co : Nat → Addr} (B : Hd P w K mg base T co) : Dn P w K mg base T 3 "_law_late" 4 d__law_late :=
  dn_mk (k := 2) (r := r__law_late) B.f__law_late sc__law_late rfl rfl (fun _ _ _ _ _ _ us hl => match us, hl with | [_, _, _, _], _ => rfl) fun f cdv A outer s H E Pr hr hT => by
    subst hT
    exact (sss_cons (ss_asg (se_tup (sa_cons (se_dn (dn__law_heard B) takes_fn (hr.mono (by decide)) (by rfl) (sa_cons (se_var (i := 0) rfl (.inl rfl)) (sa_cons (se_var (i := 1) rfl (.inl rfl)) (sa_cons (se_var (i := 3) rfl (.inl rfl)) sa_nil))) (len_cons (len_cons (len_cons len_nil)))) (sa_cons (se_dn (dn__law_times B) takes_fn (hr.mono (by decide)) (by rfl) (sa_cons (se_var (i := 0) rfl (.inl rfl)) (sa_cons (se_var (i := 1) rfl (.inl rfl)) (sa_cons (se_var (i := 2) rfl (.inl rfl)) (sa_cons (se_var (i := 3) rfl (.inl rfl)) sa_nil)))) (len_cons (len_cons (len_cons (len_cons len_nil))))) sa_nil))) (sg_tup rfl (sgs_cons (sg_name (i := 4) sc__law_late.nd rfl (.inr rfl)) (sgs_cons (sg_name (i := 5) sc__law_late.nd rfl (.inr rfl)) sgs_nil))))
    (sss_one (ss_ret (se_callTy call_tupleI (by rfl) B.b_tuple (by rfl) (sa_cons (se_lc (own := [("at", 6)]) (ct := (.one 6)) rfl sc__law_late.nd (pi_rng1 (by rfl) B.b_range (sa_cons (se_callB call_lenI (by rfl) B.b_len (by rfl) (sa_cons (se_ix (se_var (i := 0) rfl (.inl rfl)) se_int (fun _ _ => rfl)) sa_nil)) sa_nil)) (blkOk_by (by rfl)) (by decide) (fun _ _ _ _ _ => (pg_name (i := 6) sc__law_late.nd rfl (.inl rfl))) (fun _ _ _ _ _ => (pts_one (sc_cmp op_gtI (se_ix (se_var (i := 5) rfl (.inr (.inl rfl))) (se_var (i := 6) rfl (.inl rfl)) (fun _ _ => rfl)) (se_ix (se_var (i := 4) rfl (.inr (.inl rfl))) (se_var (i := 6) rfl (.inl rfl)) (fun _ _ => rfl)) (nomark _)))) (fun _ _ _ _ _ => (se_var (i := 6) rfl (.inl rfl)))) sa_nil)))))

theorem sc__law_refused_right : FnScope ["plan", "bad"] ["plan"] (defScope s__law_refused_right) := ⟨rfl, rfl, rfl, by decide +kernel, rfl, by decide +kernel, by decide +kernel⟩
theorem dn__law_refused_right {P : Program} {w : World} {K : PySem.W.Frag} {mg : Str → Option Value} {base : Heap} {T : List (Addr × Str) × (Nat → Addr)} {co : Nat → Addr} (B : Hd P w K mg base T co) : DnG P w K mg base T 13 "_law_refused_right" 1 d__law_refused_right :=
  dn_mkG (k := 12) (r := r__law_refused_right) B.f__law_refused_right sc__law_refused_right rfl rfl (fun _ _ _ _ _ _ us hl => match us, hl with | [_], _ => rfl) fun f A outer s H E Pr hgd hr hT => by
    subst hT
    exact (sss_cons (ss_for passes_fn rfl (pi_seqI (se_tup (sa_cons se_non (sa_cons (se_tup (sa_cons (se_tup sa_nil) (sa_cons (se_tup sa_nil) sa_nil))) (sa_cons (se_tup (sa_cons (se_tup (sa_cons se_int sa_nil)) (sa_cons (se_tup sa_nil) sa_nil))) (sa_cons (se_tup (sa_cons (se_lst (sa_cons se_int sa_nil)) (sa_cons (se_tup (sa_cons se_int sa_nil)) sa_nil))) (sa_cons (se_tup (sa_cons (se_tup (sa_cons se_int sa_nil)) (sa_cons (se_tup (sa_cons se_int sa_nil)) sa_nil))) (sa_cons (se_tup (sa_cons (se_tup (sa_cons se_int sa_nil)) (sa_cons (se_tup (sa_cons se_int sa_nil)) sa_nil))) (sa_cons (se_tup (sa_cons (se_tup (sa_cons se_int sa_nil)) (sa_cons (se_tup (sa_cons se_int sa_nil)) sa_nil))) (sa_cons (se_tup (sa_cons (se_tup (sa_cons se_int sa_nil)) (sa_cons (se_tup (sa_cons (se_un un_negI se_int) sa_nil)) sa_nil))) (sa_cons (se_tup (sa_cons (se_tup (sa_cons se_bl sa_nil)) (sa_cons (se_tup (sa_cons se_int sa_nil)) sa_nil))) (sa_cons (se_tup (sa_cons (se_bin op_mulT (se_tup (sa_cons se_int sa_nil)) se_int) (sa_cons (se_bin op_mulT (se_tup (sa_cons se_int sa_nil)) se_int) sa_nil))) sa_nil)))))))))))) (sg_name (i := 1) sc__law_refused_right.nd rfl (.inr rfl)) (sss_cons (ss_if (sc_truth (se_dn (dn_is_plan B) takes_fn (hr.mono (by decide)) (by rfl) (sa_cons (se_var (i := 1) rfl (.inr (.inl rfl))) sa_nil) (len_cons len_nil)) (fun _ => rfl)) (sss_one (ss_ret se_bl)) sss_nil)
    (sss_cons (ss_if (sc_not (sc_truth (se_told (k := 10) B.o__law_refuses tt__law_refuses B.t__law_refused_right (fun _ _ _ _ _ _ us hl => match us, hl with | [_, _], _ => rfl) rfl rfl hgd hr (by rfl) (LamX.lamS_by (by rfl)) (by rfl) (fun _ _ _ _ _ => rfl) (fun A outer s H E f c' hr => (se_dn (dn_heard_times B) (takes_of rfl rfl rfl rfl) (hr.mono (by decide)) (by rfl) (sa_cons (se_var (i := 1) rfl (.inr (.inr rfl))) (sa_cons se_non (sa_cons se_non sa_nil))) (len_cons (len_cons (len_cons len_nil))))) (se_var (i := 1) rfl (.inr (.inl rfl)))) (fun _ => rfl))) (sss_one (ss_ret se_bl)) sss_nil)
    (sss_cons (ss_if (sc_not (sc_truth (se_told (k := 10) B.o__law_refuses tt__law_refuses B.t__law_refused_right (fun _ _ _ _ _ _ us hl => match us, hl with | [_, _], _ => rfl) rfl rfl hgd hr (by rfl) (LamX.lamS_by (by rfl)) (by rfl) (fun _ _ _ _ _ => rfl) (fun A outer s H E f c' hr => (se_dn (dn_least_late B) (takes_of rfl rfl rfl rfl) (hr.mono (by decide)) (by rfl) (sa_cons (se_var (i := 1) rfl (.inr (.inr rfl))) (sa_cons se_non (sa_cons se_non sa_nil))) (len_cons (len_cons (len_cons len_nil))))) (se_var (i := 1) rfl (.inr (.inl rfl)))) (fun _ => rfl))) (sss_one (ss_ret se_bl)) sss_nil)
    (sss_one (ss_if (sc_not (sc_truth (se_told (k := 10) B.o__law_refuses tt__law_refuses B.t__law_refused_right (fun _ _ _ _ _ _ us hl => match us, hl with | [_, _], _ => rfl) rfl rfl hgd hr (by rfl) (LamX.lamS_by (by rfl)) (by rfl) (fun _ _ _ _ _ => rfl) (fun A outer s H E f c' hr => (se_dn (dn_played_times B) (takes_of rfl rfl rfl rfl) (hr.mono (by decide)) (by rfl) (sa_cons (se_var (i := 1) rfl (.inr (.inr rfl))) (sa_cons se_non (sa_cons se_non (sa_cons se_non sa_nil)))) (len_cons (len_cons (len_cons (len_cons len_nil)))))) (se_var (i := 1) rfl (.inr (.inl rfl)))) (fun _ => rfl))) (sss_one (ss_ret se_bl)) sss_nil))))))
    (sss_cons (ss_for passes_fn rfl (pi_seqI (se_tup (sa_cons se_int (sa_cons se_int (sa_cons se_non (sa_cons se_bl sa_nil)))))) (sg_name (i := 1) sc__law_refused_right.nd rfl (.inr rfl)) (sss_cons (ss_if (sc_not (sc_truth (se_told (k := 10) B.o__law_refuses tt__law_refuses B.t__law_refused_right (fun _ _ _ _ _ _ us hl => match us, hl with | [_, _], _ => rfl) rfl rfl hgd hr (by rfl) (LamX.lamS_by (by rfl)) (by rfl) (fun _ _ _ _ _ => rfl) (fun A outer s H E f c' hr => (se_dn (dn_heard_times B) (takes_of rfl rfl rfl rfl) (hr.mono (by decide)) (by rfl) (sa_cons (se_var (i := 0) rfl (.inr (.inr rfl))) (sa_cons (se_var (i := 1) rfl (.inr (.inr rfl))) (sa_cons se_non sa_nil))) (len_cons (len_cons (len_cons len_nil))))) (se_var (i := 1) rfl (.inr (.inl rfl)))) (fun _ => rfl))) (sss_one (ss_ret se_bl)) sss_nil)
    (sss_cons (ss_if (sc_not (sc_truth (se_told (k := 10) B.o__law_refuses tt__law_refuses B.t__law_refused_right (fun _ _ _ _ _ _ us hl => match us, hl with | [_, _], _ => rfl) rfl rfl hgd hr (by rfl) (LamX.lamS_by (by rfl)) (by rfl) (fun _ _ _ _ _ => rfl) (fun A outer s H E f c' hr => (se_dn (dn_shows_least_late B) (takes_of rfl rfl rfl rfl) (hr.mono (by decide)) (by rfl) (sa_cons (se_var (i := 0) rfl (.inr (.inr rfl))) (sa_cons (se_var (i := 1) rfl (.inr (.inr rfl))) (sa_cons se_non (sa_cons se_non sa_nil)))) (len_cons (len_cons (len_cons (len_cons len_nil)))))) (se_var (i := 1) rfl (.inr (.inl rfl)))) (fun _ => rfl))) (sss_one (ss_ret se_bl)) sss_nil)
    (sss_one (ss_if (sc_not (sc_truth (se_told (k := 10) B.o__law_refuses tt__law_refuses B.t__law_refused_right (fun _ _ _ _ _ _ us hl => match us, hl with | [_, _], _ => rfl) rfl rfl hgd hr (by rfl) (LamX.lamS_by (by rfl)) (by rfl) (fun _ _ _ _ _ => rfl) (fun A outer s H E f c' hr => (se_dn (dn_least_size B) (takes_of rfl rfl rfl rfl) (hr.mono (by decide)) (by rfl) (sa_cons se_int (sa_cons se_int (sa_cons (se_var (i := 1) rfl (.inr (.inr rfl))) (sa_cons se_non sa_nil)))) (len_cons (len_cons (len_cons (len_cons len_nil)))))) (se_var (i := 1) rfl (.inr (.inl rfl)))) (fun _ => rfl))) (sss_one (ss_ret se_bl)) sss_nil)))))
    (sss_cons (ss_for passes_fn rfl (pi_seqI (se_tup (sa_cons se_int (sa_cons se_int (sa_cons se_non sa_nil))))) (sg_name (i := 1) sc__law_refused_right.nd rfl (.inr rfl)) (sss_cons (ss_if (sc_not (sc_truth (se_told (k := 10) B.o__law_refuses tt__law_refuses B.t__law_refused_right (fun _ _ _ _ _ _ us hl => match us, hl with | [_, _], _ => rfl) rfl rfl hgd hr (by rfl) (LamX.lamS_by (by rfl)) (by rfl) (fun _ _ _ _ _ => rfl) (fun A outer s H E f c' hr => (se_dn (dn_late_blocks B) (takes_of rfl rfl rfl rfl) (hr.mono (by decide)) (by rfl) (sa_cons (se_var (i := 0) rfl (.inr (.inr rfl))) (sa_cons se_int (sa_cons (se_var (i := 1) rfl (.inr (.inr rfl))) (sa_cons se_int sa_nil)))) (len_cons (len_cons (len_cons (len_cons len_nil)))))) (se_var (i := 1) rfl (.inr (.inl rfl)))) (fun _ => rfl))) (sss_one (ss_ret se_bl)) sss_nil)
    (sss_one (ss_if (sc_not (sc_truth (se_told (k := 10) B.o__law_refuses tt__law_refuses B.t__law_refused_right (fun _ _ _ _ _ _ us hl => match us, hl with | [_, _], _ => rfl) rfl rfl hgd hr (by rfl) (LamX.lamS_by (by rfl)) (by rfl) (fun _ _ _ _ _ => rfl) (fun A outer s H E f c' hr => (se_dn (dn_delay_of B) (takes_of rfl rfl rfl rfl) (hr.mono (by decide)) (by rfl) (sa_cons (se_var (i := 0) rfl (.inr (.inr rfl))) (sa_cons se_int (sa_cons (se_var (i := 1) rfl (.inr (.inr rfl))) sa_nil))) (len_cons (len_cons (len_cons len_nil))))) (se_var (i := 1) rfl (.inr (.inl rfl)))) (fun _ => rfl))) (sss_one (ss_ret se_bl)) sss_nil))))
    (sss_cons (ss_for passes_fn rfl (pi_seqI (se_tup (sa_cons (se_un un_negI se_int) (sa_cons (se_bin op_addI (se_bin op_powI se_int se_int) se_int) (sa_cons se_non sa_nil))))) (sg_name (i := 1) sc__law_refused_right.nd rfl (.inr rfl)) (sss_one (ss_if (sc_not (sc_truth (se_told (k := 10) B.o__law_refuses tt__law_refuses B.t__law_refused_right (fun _ _ _ _ _ _ us hl => match us, hl with | [_, _], _ => rfl) rfl rfl hgd hr (by rfl) (LamX.lamS_by (by rfl)) (by rfl) (fun _ _ _ _ _ => rfl) (fun A outer s H E f c' hr => (se_dn (dn_played_times B) (takes_of rfl rfl rfl rfl) (hr.mono (by decide)) (by rfl) (sa_cons (se_var (i := 0) rfl (.inr (.inr rfl))) (sa_cons se_int (sa_cons se_int (sa_cons (se_var (i := 1) rfl (.inr (.inr rfl))) sa_nil)))) (len_cons (len_cons (len_cons (len_cons len_nil)))))) (se_var (i := 1) rfl (.inr (.inl rfl)))) (fun _ => rfl))) (sss_one (ss_ret se_bl)) sss_nil)))
    (sss_cons (ss_for passes_fn rfl (pi_seqI (se_tup (sa_cons se_int (sa_cons se_int (sa_cons se_non sa_nil))))) (sg_name (i := 1) sc__law_refused_right.nd rfl (.inr rfl)) (sss_cons (ss_if (sc_not (sc_truth (se_told (k := 10) B.o__law_refuses tt__law_refuses B.t__law_refused_right (fun _ _ _ _ _ _ us hl => match us, hl with | [_, _], _ => rfl) rfl rfl hgd hr (by rfl) (LamX.lamS_by (by rfl)) (by rfl) (fun _ _ _ _ _ => rfl) (fun A outer s H E f c' hr => (se_dn (dn_even_plan B) (takes_of rfl rfl rfl rfl) (hr.mono (by decide)) (by rfl) (sa_cons se_int (sa_cons (se_var (i := 1) rfl (.inr (.inr rfl))) (sa_cons se_non (sa_cons se_non sa_nil)))) (len_cons (len_cons (len_cons (len_cons len_nil)))))) (se_var (i := 1) rfl (.inr (.inl rfl)))) (fun _ => rfl))) (sss_one (ss_ret se_bl)) sss_nil)
    (sss_one (ss_if (sc_not (sc_truth (se_told (k := 10) B.o__law_refuses tt__law_refuses B.t__law_refused_right (fun _ _ _ _ _ _ us hl => match us, hl with | [_, _], _ => rfl) rfl rfl hgd hr (by rfl) (LamX.lamS_by (by rfl)) (by rfl) (fun _ _ _ _ _ => rfl) (fun A outer s H E f c' hr => (se_dn (dn_least_size B) (takes_of rfl rfl rfl rfl) (hr.mono (by decide)) (by rfl) (sa_cons se_int (sa_cons se_int (sa_cons se_int (sa_cons (se_var (i := 1) rfl (.inr (.inr rfl))) sa_nil)))) (len_cons (len_cons (len_cons (len_cons len_nil)))))) (se_var (i := 1) rfl (.inr (.inl rfl)))) (fun _ => rfl))) (sss_one (ss_ret se_bl)) sss_nil))))
    (sss_cons (ss_for passes_fn rfl (pi_seqI (se_tup (sa_cons se_int (sa_cons se_int (sa_cons se_int (sa_cons se_non sa_nil)))))) (sg_name (i := 1) sc__law_refused_right.nd rfl (.inr rfl)) (sss_one (ss_if (sc_not (sc_truth (se_told (k := 10) B.o__law_refuses tt__law_refuses B.t__law_refused_right (fun _ _ _ _ _ _ us hl => match us, hl with | [_, _], _ => rfl) rfl rfl hgd hr (by rfl) (LamX.lamS_by (by rfl)) (by rfl) (fun _ _ _ _ _ => rfl) (fun A outer s H E f c' hr => (se_dn (dn_even_plan B) (takes_of rfl rfl rfl rfl) (hr.mono (by decide)) (by rfl) (sa_cons (se_var (i := 1) rfl (.inr (.inr rfl))) (sa_cons se_int (sa_cons se_non (sa_cons se_non sa_nil)))) (len_cons (len_cons (len_cons (len_cons len_nil)))))) (se_var (i := 1) rfl (.inr (.inl rfl)))) (fun _ => rfl))) (sss_one (ss_ret se_bl)) sss_nil)))
    (sss_cons (ss_for passes_fn rfl (pi_seqI (se_tup (sa_cons (se_un un_negI se_int) (sa_cons se_int (sa_cons se_non sa_nil))))) (sg_name (i := 1) sc__law_refused_right.nd rfl (.inr rfl)) (sss_cons (ss_if (sc_not (sc_truth (se_told (k := 10) B.o__law_refuses tt__law_refuses B.t__law_refused_right (fun _ _ _ _ _ _ us hl => match us, hl with | [_, _], _ => rfl) rfl rfl hgd hr (by rfl) (LamX.lamS_by (by rfl)) (by rfl) (fun _ _ _ _ _ => rfl) (fun A outer s H E f c' hr => (se_dn (dn_even_plan B) (takes_of rfl rfl rfl rfl) (hr.mono (by decide)) (by rfl) (sa_cons se_int (sa_cons se_int (sa_cons (se_var (i := 1) rfl (.inr (.inr rfl))) (sa_cons se_int sa_nil)))) (len_cons (len_cons (len_cons (len_cons len_nil)))))) (se_var (i := 1) rfl (.inr (.inl rfl)))) (fun _ => rfl))) (sss_one (ss_ret se_bl)) sss_nil)
    (sss_cons (ss_if (sc_not (sc_truth (se_told (k := 10) B.o__law_refuses tt__law_refuses B.t__law_refused_right (fun _ _ _ _ _ _ us hl => match us, hl with | [_, _], _ => rfl) rfl rfl hgd hr (by rfl) (LamX.lamS_by (by rfl)) (by rfl) (fun _ _ _ _ _ => rfl) (fun A outer s H E f c' hr => (se_dn (dn_even_plan B) (takes_of rfl rfl rfl rfl) (hr.mono (by decide)) (by rfl) (sa_cons se_int (sa_cons se_int (sa_cons se_int (sa_cons (se_var (i := 1) rfl (.inr (.inr rfl))) sa_nil)))) (len_cons (len_cons (len_cons (len_cons len_nil)))))) (se_var (i := 1) rfl (.inr (.inl rfl)))) (fun _ => rfl))) (sss_one (ss_ret se_bl)) sss_nil)
    (sss_one (ss_if (sc_not (sc_truth (se_told (k := 10) B.o__law_refuses tt__law_refuses B.t__law_refused_right (fun _ _ _ _ _ _ us hl => match us, hl with | [_, _], _ => rfl) rfl rfl hgd hr (by rfl) (LamX.lamS_by (by rfl)) (by rfl) (fun _ _ _ _ _ => rfl) (fun A outer s H E f c' hr => (se_dn (dn_least_size B) (takes_of rfl rfl rfl rfl) (hr.mono (by decide)) (by rfl) (sa_cons (se_var (i := 1) rfl (.inr (.inr rfl))) (sa_cons se_non (sa_cons se_non (sa_cons se_non sa_nil)))) (len_cons (len_cons (len_cons (len_cons len_nil)))))) (se_var (i := 1) rfl (.inr (.inl rfl)))) (fun _ => rfl))) (sss_one (ss_ret se_bl)) sss_nil)))))
    (sss_one (ss_ret (se_and (se_told (k := 10) B.o__law_refuses tt__law_refuses B.t__law_refused_right (fun _ _ _ _ _ _ us hl => match us, hl with | [_, _], _ => rfl) rfl rfl hgd hr (by rfl) (LamX.lamS_by (by rfl)) (by rfl) (fun _ _ _ _ _ => rfl) (fun A outer s H E f c' hr => (se_dn (dn_even_plan B) (takes_of rfl rfl rfl rfl) (hr.mono (by decide)) (by rfl) (sa_cons se_int (sa_cons se_int (sa_cons se_int (sa_cons se_int sa_nil)))) (len_cons (len_cons (len_cons (len_cons len_nil)))))) se_int) (se_one (se_dn (dn_is_plan B) takes_fn (hr.mono (by decide)) (by rfl) (sa_cons (se_tup (sa_cons (se_bin op_mulT (se_tup (sa_cons se_int sa_nil)) se_int) (sa_cons (se_bin op_mulT (se_tup (sa_cons se_int sa_nil)) se_int) sa_nil))) sa_nil) (len_cons len_nil)))))))))))))

theorem sc_law : FnScope ["script", "draw", "many", "plan", "ticks", "lead", "late", "top", "never", "told", "at", "one", "least", "block", "heard", "times", "size", "each", "samples", "sizes", "some", "long", "turn", "part", "number"] ["script"] (defScope s_law) := ⟨rfl, rfl, rfl, by decide +kernel, rfl, by decide +kernel, by decide +kernel⟩
theorem dn_law {P : Program} {w : World} {K : PySem.W.Frag} {mg : Str → Option Value} {base : Heap} {T : List (Addr × Str) × (Nat → Addr)} {co : Nat → Addr} (B : Hd P w K mg base T co) : DnG P w K mg base T 14 "law" 1 d_law :=
  dn_mkG (k := 13) (r := r_law) B.f_law sc_law rfl rfl (fun _ _ _ _ _ _ us hl => match us, hl with | [_], _ => rfl) fun f A outer s H E Pr hgd hr hT => by
    subst hT
    exact (sss_cons (ss_set (i := 1) sc_law.nd rfl (.inr rfl) (se_lst (sa_cons (se_slice (se_var (i := 0) rfl (.inl rfl)) sp_none (sp_some se_int)) (sa_cons se_int (sa_cons se_int sa_nil)))))
    (sss_cons (ss_set (i := 2) sc_law.nd rfl (.inl rfl) (se_bin op_addI se_int (se_dn (dn__law_next B) takes_fn (hr.mono (by decide)) (by rfl) (sa_cons (se_var (i := 1) rfl (.inr (.inl rfl))) (sa_cons se_int sa_nil)) (len_cons (len_cons len_nil)))))
    (sss_cons (ss_set (i := 3) sc_law.nd rfl (.inr rfl) (se_tup (sa_cons (se_callTy call_tupleI (by rfl) B.b_tuple (by rfl) (sa_cons (se_lc (own := [("turn", 22)]) (ct := (.one 22)) rfl sc_law.nd (pi_rng1 (by rfl) B.b_range (sa_cons (se_var (i := 2) rfl (.inl rfl)) sa_nil)) (blkOk_by (by rfl)) (by decide) (fun _ _ _ _ _ => (pg_name (i := 22) sc_law.nd rfl (.inl rfl))) (fun _ _ _ _ _ => pts_yes) (fun _ _ _ _ _ => (se_bin op_addI se_int (se_dn (dn__law_next B) LamX.takes0 (hr.mono (by decide)) (by rfl) (sa_cons (se_var (i := 1) rfl (.inr (.inl rfl))) (sa_cons se_int sa_nil)) (len_cons (len_cons len_nil)))))) sa_nil)) (sa_cons (se_callTy call_tupleI (by rfl) B.b_tuple (by rfl) (sa_cons (se_lc (own := [("turn", 22)]) (ct := (.one 22)) rfl sc_law.nd (pi_rng1 (by rfl) B.b_range (sa_cons (se_var (i := 2) rfl (.inl rfl)) sa_nil)) (blkOk_by (by rfl)) (by decide) (fun _ _ _ _ _ => (pg_name (i := 22) sc_law.nd rfl (.inl rfl))) (fun _ _ _ _ _ => pts_yes) (fun _ _ _ _ _ => (se_dn (dn__law_next B) LamX.takes0 (hr.mono (by decide)) (by rfl) (sa_cons (se_var (i := 1) rfl (.inr (.inl rfl))) (sa_cons se_int sa_nil)) (len_cons (len_cons len_nil))))) sa_nil)) sa_nil))))
    (sss_cons (ss_asg (se_tup (sa_cons (se_bin op_addI se_int (se_dn (dn__law_next B) takes_fn (hr.mono (by decide)) (by rfl) (sa_cons (se_var (i := 1) rfl (.inr (.inl rfl))) (sa_cons se_int sa_nil)) (len_cons (len_cons len_nil)))) (sa_cons (se_bin op_addI se_int (se_dn (dn__law_next B) takes_fn (hr.mono (by decide)) (by rfl) (sa_cons (se_var (i := 1) rfl (.inr (.inl rfl))) (sa_cons se_int sa_nil)) (len_cons (len_cons len_nil)))) (sa_cons (se_dn (dn__law_next B) takes_fn (hr.mono (by decide)) (by rfl) (sa_cons (se_var (i := 1) rfl (.inr (.inl rfl))) (sa_cons se_int sa_nil)) (len_cons (len_cons len_nil))) sa_nil)))) (sg_tup rfl (sgs_cons (sg_name (i := 4) sc_law.nd rfl (.inr rfl)) (sgs_cons (sg_name (i := 5) sc_law.nd rfl (.inr rfl)) (sgs_cons (sg_name (i := 6) sc_law.nd rfl (.inl rfl)) sgs_nil)))))
    (sss_cons (ss_if (sw_or (sc_cmp (op_neI (ru4 hr)) (se_dn (dn_heard_times B) takes_fn (hr.mono (by decide)) (by rfl) (sa_cons (se_var (i := 3) rfl (.inr (.inl rfl))) (sa_cons (se_var (i := 4) rfl (.inr (.inl rfl))) (sa_cons (se_var (i := 6) rfl (.inl rfl)) sa_nil))) (len_cons (len_cons (len_cons len_nil)))) (se_callTy call_tupleI (by rfl) B.b_tuple (by rfl) (sa_cons (se_dn (dn__law_heard B) takes_fn (hr.mono (by decide)) (by rfl) (sa_cons (se_var (i := 3) rfl (.inr (.inl rfl))) (sa_cons (se_var (i := 4) rfl (.inr (.inl rfl))) (sa_cons (se_var (i := 6) rfl (.inl rfl)) sa_nil))) (len_cons (len_cons (len_cons len_nil)))) sa_nil)) (nomark _)) (sw_or (sc_cmp (op_neI (ru4 hr)) (se_dn (dn_played_times B) takes_fn (hr.mono (by decide)) (by rfl) (sa_cons (se_var (i := 3) rfl (.inr (.inl rfl))) (sa_cons (se_var (i := 4) rfl (.inr (.inl rfl))) (sa_cons (se_var (i := 5) rfl (.inr (.inl rfl))) (sa_cons (se_var (i := 6) rfl (.inl rfl)) sa_nil)))) (len_cons (len_cons (len_cons (len_cons len_nil))))) (se_callTy call_tupleI (by rfl) B.b_tuple (by rfl) (sa_cons (se_dn (dn__law_times B) takes_fn (hr.mono (by decide)) (by rfl) (sa_cons (se_var (i := 3) rfl (.inr (.inl rfl))) (sa_cons (se_var (i := 4) rfl (.inr (.inl rfl))) (sa_cons (se_var (i := 5) rfl (.inr (.inl rfl))) (sa_cons (se_var (i := 6) rfl (.inl rfl)) sa_nil)))) (len_cons (len_cons (len_cons (len_cons len_nil))))) sa_nil)) (nomark _)) (sw_or1 (sc_cmp (op_neI (ru4 hr)) (se_dn (dn_late_blocks B) takes_fn (hr.mono (by decide)) (by rfl) (sa_cons (se_var (i := 3) rfl (.inr (.inl rfl))) (sa_cons (se_var (i := 4) rfl (.inr (.inl rfl))) (sa_cons (se_var (i := 5) rfl (.inr (.inl rfl))) (sa_cons (se_var (i := 6) rfl (.inl rfl)) sa_nil)))) (len_cons (len_cons (len_cons (len_cons len_nil))))) (se_dn (dn__law_late B) takes_fn (hr.mono (by decide)) (by rfl) (sa_cons (se_var (i := 3) rfl (.inr (.inl rfl))) (sa_cons (se_var (i := 4) rfl (.inr (.inl rfl))) (sa_cons (se_var (i := 5) rfl (.inr (.inl rfl))) (sa_cons (se_var (i := 6) rfl (.inl rfl)) sa_nil)))) (len_cons (len_cons (len_cons (len_cons len_nil))))) (nomark _))))).pt (sss_one (ss_ret se_bl)) sss_nil)
    (sss_cons (ss_set (i := 7) sc_law.nd rfl (.inl rfl) (se_callB (call_sumT rfl) (by rfl) B.b_sum (by rfl) (sa_cons (se_ix (se_var (i := 3) rfl (.inr (.inl rfl))) se_int (fun _ _ => rfl)) sa_nil)))
    (sss_cons (ss_set (i := 8) sc_law.nd rfl (.inr rfl) (se_dn (dn__law_late B) takes_fn (hr.mono (by decide)) (by rfl) (sa_cons (se_var (i := 3) rfl (.inr (.inl rfl))) (sa_cons (se_var (i := 4) rfl (.inr (.inl rfl))) (sa_cons (se_var (i := 5) rfl (.inr (.inl rfl))) (sa_cons (se_var (i := 7) rfl (.inl rfl)) sa_nil)))) (len_cons (len_cons (len_cons (len_cons len_nil))))))
    (sss_cons (ss_set (i := 9) sc_law.nd rfl (.inl rfl) (se_dn (dn_least_late B) takes_fn (hr.mono (by decide)) (by rfl) (sa_cons (se_var (i := 3) rfl (.inr (.inl rfl))) (sa_cons (se_var (i := 4) rfl (.inr (.inl rfl))) (sa_cons (se_var (i := 5) rfl (.inr (.inl rfl))) sa_nil))) (len_cons (len_cons (len_cons len_nil)))))
    (sss_cons (ss_if (sc_cmp (op_neI (ru4 hr)) (se_var (i := 8) rfl (.inr (.inl rfl))) (se_tup sa_nil) (nomark _)) (sss_one (ss_if (sw_or (sc_cmp (op_neI (ru4 hr)) (se_var (i := 9) rfl (.inl rfl)) (se_tup (sa_cons (se_str (s := [110, 101, 118, 101, 114]) (by rfl) (by decide)) (sa_cons (se_ix (se_var (i := 8) rfl (.inr (.inl rfl))) se_int (fun _ _ => rfl)) sa_nil))) (nomark _)) (sw_or (sc_not (sc_truth (se_dn (dn_shows_least_late B) takes_fn (hr.mono (by decide)) (by rfl) (sa_cons (se_var (i := 3) rfl (.inr (.inl rfl))) (sa_cons (se_var (i := 4) rfl (.inr (.inl rfl))) (sa_cons (se_var (i := 5) rfl (.inr (.inl rfl))) (sa_cons (se_var (i := 9) rfl (.inl rfl)) sa_nil)))) (len_cons (len_cons (len_cons (len_cons len_nil))))) (fun _ => rfl))) (sw_or (sc_truth (se_callB (call_anyI rfl) (by rfl) B.b_any (by rfl) (sa_cons (se_lc (own := [("at", 10)]) (ct := (.one 10)) rfl sc_law.nd (pi_rng1 (by rfl) B.b_range (sa_cons (se_bin op_addI (se_var (i := 2) rfl (.inl rfl)) se_int) sa_nil)) (blkOk_by (by rfl)) (by decide) (fun _ _ _ _ _ => (pg_name (i := 10) sc_law.nd rfl (.inl rfl))) (fun _ _ _ _ _ => pts_yes) (fun _ _ _ _ _ => (se_cmp (op_neI (ru4 hr)) (se_dn (dn_shows_least_late B) LamX.takes0 (hr.mono (by decide)) (by rfl) (sa_cons (se_var (i := 3) rfl (.inr (.inl rfl))) (sa_cons (se_var (i := 4) rfl (.inr (.inl rfl))) (sa_cons (se_var (i := 5) rfl (.inr (.inl rfl))) (sa_cons (se_tup (sa_cons (se_str (s := [110, 101, 118, 101, 114]) (by rfl) (by decide)) (sa_cons (se_var (i := 10) rfl (.inl rfl)) sa_nil))) sa_nil)))) (len_cons (len_cons (len_cons (len_cons len_nil))))) (se_cmp (op_inI (ru5 hr)) (se_var (i := 10) rfl (.inl rfl)) (se_var (i := 8) rfl (.inr (.inl rfl))) (by with_unfolding_all rfl)) (nomark _)))) sa_nil)) (fun _ => rfl)) (sw_or (sc_truth (se_dn (dn_shows_least_late B) takes_fn (hr.mono (by decide)) (by rfl) (sa_cons (se_var (i := 3) rfl (.inr (.inl rfl))) (sa_cons (se_var (i := 4) rfl (.inr (.inl rfl))) (sa_cons (se_var (i := 5) rfl (.inr (.inl rfl))) (sa_cons (se_tup (sa_cons (se_str (s := [108, 97, 116, 101]) (by rfl) (by decide)) (sa_cons (se_var (i := 7) rfl (.inl rfl)) (sa_cons se_non sa_nil)))) sa_nil)))) (len_cons (len_cons (len_cons (len_cons len_nil))))) (fun _ => rfl)) (sw_or1 (sc_cmp op_isnotI (se_dn (dn_delay_of B) takes_fn (hr.mono (by decide)) (by rfl) (sa_cons (se_var (i := 3) rfl (.inr (.inl rfl))) (sa_cons (se_var (i := 4) rfl (.inr (.inl rfl))) (sa_cons (se_var (i := 5) rfl (.inr (.inl rfl))) sa_nil))) (len_cons (len_cons (len_cons len_nil)))) se_non (nomark _))))))).pt (sss_one (ss_ret se_bl)) sss_nil)) (sss_cons (ss_set (i := 12) sc_law.nd rfl (.inl rfl) (se_ix (se_lc (own := [("one", 11)]) (ct := (.one 11)) rfl sc_law.nd (pi_rng1 (by rfl) B.b_range (sa_cons (se_bin op_addI (se_var (i := 7) rfl (.inl rfl)) se_int) sa_nil)) (blkOk_by (by rfl)) (by decide) (fun _ _ _ _ _ => (pg_name (i := 11) sc_law.nd rfl (.inl rfl))) (fun _ _ _ _ _ => (pts_one (sc_cmp (op_eqI (ru4 hr)) (se_dn (dn__law_late B) LamX.takes0 (hr.mono (by decide)) (by rfl) (sa_cons (se_var (i := 3) rfl (.inr (.inl rfl))) (sa_cons (se_var (i := 4) rfl (.inr (.inl rfl))) (sa_cons (se_var (i := 5) rfl (.inr (.inl rfl))) (sa_cons (se_var (i := 11) rfl (.inl rfl)) sa_nil)))) (len_cons (len_cons (len_cons (len_cons len_nil))))) (se_tup sa_nil) (nomark _)))) (fun _ _ _ _ _ => (se_var (i := 11) rfl (.inl rfl)))) se_int (fun _ _ => rfl)))
    (sss_cons (ss_set (i := 13) sc_law.nd rfl (.inl rfl) (se_ifE (sc_cmp op_gtI (se_var (i := 12) rfl (.inl rfl)) se_int (nomark _)) (se_ix (se_dn (dn__law_late B) takes_fn (hr.mono (by decide)) (by rfl) (sa_cons (se_var (i := 3) rfl (.inr (.inl rfl))) (sa_cons (se_var (i := 4) rfl (.inr (.inl rfl))) (sa_cons (se_var (i := 5) rfl (.inr (.inl rfl))) (sa_cons (se_bin op_subI (se_var (i := 12) rfl (.inl rfl)) se_int) sa_nil)))) (len_cons (len_cons (len_cons (len_cons len_nil))))) se_int (fun _ _ => rfl)) se_non))
    (sss_cons (ss_if (sw_or (sc_cmp (op_neI (ru4 hr)) (se_var (i := 9) rfl (.inl rfl)) (se_tup (sa_cons (se_str (s := [108, 97, 116, 101]) (by rfl) (by decide)) (sa_cons (se_var (i := 12) rfl (.inl rfl)) (sa_cons (se_var (i := 13) rfl (.inl rfl)) sa_nil)))) (nomark _)) (sw_or (sc_not (sc_truth (se_dn (dn_shows_least_late B) takes_fn (hr.mono (by decide)) (by rfl) (sa_cons (se_var (i := 3) rfl (.inr (.inl rfl))) (sa_cons (se_var (i := 4) rfl (.inr (.inl rfl))) (sa_cons (se_var (i := 5) rfl (.inr (.inl rfl))) (sa_cons (se_var (i := 9) rfl (.inl rfl)) sa_nil)))) (len_cons (len_cons (len_cons (len_cons len_nil))))) (fun _ => rfl))) (sw_or (sc_truth (se_dn (dn_shows_least_late B) takes_fn (hr.mono (by decide)) (by rfl) (sa_cons (se_var (i := 3) rfl (.inr (.inl rfl))) (sa_cons (se_var (i := 4) rfl (.inr (.inl rfl))) (sa_cons (se_var (i := 5) rfl (.inr (.inl rfl))) (sa_cons (se_tup (sa_cons (se_str (s := [108, 97, 116, 101]) (by rfl) (by decide)) (sa_cons (se_bin op_addI (se_var (i := 12) rfl (.inl rfl)) se_int) (sa_cons (se_var (i := 13) rfl (.inl rfl)) sa_nil)))) sa_nil)))) (len_cons (len_cons (len_cons (len_cons len_nil))))) (fun _ => rfl)) (sw_or1 (sc_truth (se_dn (dn_shows_least_late B) takes_fn (hr.mono (by decide)) (by rfl) (sa_cons (se_var (i := 3) rfl (.inr (.inl rfl))) (sa_cons (se_var (i := 4) rfl (.inr (.inl rfl))) (sa_cons (se_var (i := 5) rfl (.inr (.inl rfl))) (sa_cons (se_tup (sa_cons (se_str (s := [110, 101, 118, 101, 114]) (by rfl) (by decide)) (sa_cons se_int sa_nil))) sa_nil)))) (len_cons (len_cons (len_cons (len_cons len_nil))))) (fun _ => rfl)))))).pt (sss_one (ss_ret se_bl)) sss_nil)
    (sss_cons (ss_for passes_fn rfl (pi_rng1 (by rfl) B.b_range (sa_cons (se_var (i := 2) rfl (.inl rfl)) sa_nil)) (sg_name (i := 10) sc_law.nd rfl (.inl rfl)) (sss_one (ss_if (sc_cmp (op_neI (ru4 hr)) (se_dn (dn_shows_least_late B) takes_fn (hr.mono (by decide)) (by rfl) (sa_cons (se_var (i := 3) rfl (.inr (.inl rfl))) (sa_cons (se_var (i := 4) rfl (.inr (.inl rfl))) (sa_cons (se_var (i := 5) rfl (.inr (.inl rfl))) (sa_cons (se_tup (sa_cons (se_str (s := [108, 97, 116, 101]) (by rfl) (by decide)) (sa_cons (se_var (i := 12) rfl (.inl rfl)) (sa_cons (se_var (i := 10) rfl (.inl rfl)) sa_nil)))) sa_nil)))) (len_cons (len_cons (len_cons (len_cons len_nil))))) (se_and (se_cmp op_gtI (se_var (i := 12) rfl (.inl rfl)) se_int (nomark _)) (se_one (se_cmp (op_inI (ru5 hr)) (se_var (i := 10) rfl (.inl rfl)) (se_dn (dn__law_late B) takes_fn (hr.mono (by decide)) (by rfl) (sa_cons (se_var (i := 3) rfl (.inr (.inl rfl))) (sa_cons (se_var (i := 4) rfl (.inr (.inl rfl))) (sa_cons (se_var (i := 5) rfl (.inr (.inl rfl))) (sa_cons (se_bin op_subI (se_var (i := 12) rfl (.inl rfl)) se_int) sa_nil)))) (len_cons (len_cons (len_cons (len_cons len_nil))))) (by with_unfolding_all rfl)))) (nomark _)) (sss_one (ss_ret se_bl)) sss_nil)))
    (sss_cons (ss_asg (se_tup (sa_cons (se_dn (dn__law_heard B) takes_fn (hr.mono (by decide)) (by rfl) (sa_cons (se_var (i := 3) rfl (.inr (.inl rfl))) (sa_cons (se_var (i := 4) rfl (.inr (.inl rfl))) (sa_cons (se_var (i := 12) rfl (.inl rfl)) sa_nil))) (len_cons (len_cons (len_cons len_nil)))) (sa_cons (se_dn (dn__law_times B) takes_fn (hr.mono (by decide)) (by rfl) (sa_cons (se_var (i := 3) rfl (.inr (.inl rfl))) (sa_cons (se_var (i := 4) rfl (.inr (.inl rfl))) (sa_cons (se_var (i := 5) rfl (.inr (.inl rfl))) (sa_cons (se_var (i := 12) rfl (.inl rfl)) sa_nil)))) (len_cons (len_cons (len_cons (len_cons len_nil))))) sa_nil))) (sg_tup rfl (sgs_cons (sg_name (i := 14) sc_law.nd rfl (.inr rfl)) (sgs_cons (sg_name (i := 15) sc_law.nd rfl (.inr rfl)) sgs_nil))))
    (sss_cons (ss_if (sc_cmp (op_neI (ru4 hr)) (se_dn (dn_delay_of B) takes_fn (hr.mono (by decide)) (by rfl) (sa_cons (se_var (i := 3) rfl (.inr (.inl rfl))) (sa_cons (se_var (i := 4) rfl (.inr (.inl rfl))) (sa_cons (se_var (i := 5) rfl (.inr (.inl rfl))) sa_nil))) (len_cons (len_cons (len_cons len_nil)))) (se_callB (call_maxI rfl) (by rfl) B.b_max (by rfl) (sa_cons (se_lc (own := [("at", 10)]) (ct := (.one 10)) rfl sc_law.nd (pi_rng1 (by rfl) B.b_range (sa_cons (se_var (i := 2) rfl (.inl rfl)) sa_nil)) (blkOk_by (by rfl)) (by decide) (fun _ _ _ _ _ => (pg_name (i := 10) sc_law.nd rfl (.inl rfl))) (fun _ _ _ _ _ => pts_yes) (fun _ _ _ _ _ => (se_bin op_addI (se_bin op_subI (se_ix (se_var (i := 14) rfl (.inr (.inl rfl))) (se_var (i := 10) rfl (.inl rfl)) (fun _ _ => rfl)) (se_ix (se_var (i := 15) rfl (.inr (.inl rfl))) (se_var (i := 10) rfl (.inl rfl)) (fun _ _ => rfl))) (se_ix (se_ix (se_var (i := 3) rfl (.inr (.inl rfl))) se_int (fun _ _ => rfl)) (se_var (i := 10) rfl (.inl rfl)) (fun _ _ => rfl))))) sa_nil)) (nomark _)) (sss_one (ss_ret se_bl)) sss_nil)
    (sss_one (ss_if (sw_or (sc_truth (se_callB (call_anyI rfl) (by rfl) B.b_any (by rfl) (sa_cons (se_lc (own := [("one", 11)]) (ct := (.one 11)) rfl sc_law.nd (pi_rng2 (by rfl) B.b_range (sa_cons (se_var (i := 12) rfl (.inl rfl)) (sa_cons (se_bin op_addI (se_var (i := 7) rfl (.inl rfl)) se_int) sa_nil))) (blkOk_by (by rfl)) (by decide) (fun _ _ _ _ _ => (pg_name (i := 11) sc_law.nd rfl (.inl rfl))) (fun _ _ _ _ _ => pts_yes) (fun _ _ _ _ _ => (se_cmp (op_neI (ru4 hr)) (se_dn (dn__law_late B) LamX.takes0 (hr.mono (by decide)) (by rfl) (sa_cons (se_var (i := 3) rfl (.inr (.inl rfl))) (sa_cons (se_var (i := 4) rfl (.inr (.inl rfl))) (sa_cons (se_var (i := 5) rfl (.inr (.inl rfl))) (sa_cons (se_var (i := 11) rfl (.inl rfl)) sa_nil)))) (len_cons (len_cons (len_cons (len_cons len_nil))))) (se_tup sa_nil) (nomark _)))) sa_nil)) (fun _ => rfl)) (sw_or1 (sc_truth (se_callB (call_anyI rfl) (by rfl) B.b_any (by rfl) (sa_cons (se_lc (own := [("one", 11)]) (ct := (.one 11)) rfl sc_law.nd (pi_rng1 (by rfl) B.b_range (sa_cons (se_var (i := 12) rfl (.inl rfl)) sa_nil)) (blkOk_by (by rfl)) (by decide) (fun _ _ _ _ _ => (pg_name (i := 11) sc_law.nd rfl (.inl rfl))) (fun _ _ _ _ _ => pts_yes) (fun _ _ _ _ _ => (se_cmp (op_eqI (ru4 hr)) (se_dn (dn_late_blocks B) LamX.takes0 (hr.mono (by decide)) (by rfl) (sa_cons (se_var (i := 3) rfl (.inr (.inl rfl))) (sa_cons (se_var (i := 4) rfl (.inr (.inl rfl))) (sa_cons (se_var (i := 5) rfl (.inr (.inl rfl))) (sa_cons (se_var (i := 11) rfl (.inl rfl)) sa_nil)))) (len_cons (len_cons (len_cons (len_cons len_nil))))) (se_tup sa_nil) (nomark _)))) sa_nil)) (fun _ => rfl)))).pt (sss_one (ss_ret se_bl)) sss_nil)))))))))
    (sss_cons (ss_if (sw_or (sc_truth (se_dn (dn_shows_least_late B) takes_fn (hr.mono (by decide)) (by rfl) (sa_cons (se_var (i := 3) rfl (.inr (.inl rfl))) (sa_cons (se_var (i := 4) rfl (.inr (.inl rfl))) (sa_cons (se_var (i := 5) rfl (.inr (.inl rfl))) (sa_cons (se_callTy call_listI (by rfl) B.b_list (by rfl) (sa_cons (se_var (i := 9) rfl (.inl rfl)) sa_nil)) sa_nil)))) (len_cons (len_cons (len_cons (len_cons len_nil))))) (fun _ => rfl)) (sw_or (sc_truth (se_dn (dn_shows_least_late B) takes_fn (hr.mono (by decide)) (by rfl) (sa_cons (se_var (i := 3) rfl (.inr (.inl rfl))) (sa_cons (se_var (i := 4) rfl (.inr (.inl rfl))) (sa_cons (se_var (i := 5) rfl (.inr (.inl rfl))) (sa_cons se_non sa_nil)))) (len_cons (len_cons (len_cons (len_cons len_nil))))) (fun _ => rfl)) (sw_or1 (sc_truth (se_dn (dn_shows_least_late B) takes_fn (hr.mono (by decide)) (by rfl) (sa_cons (se_var (i := 3) rfl (.inr (.inl rfl))) (sa_cons (se_var (i := 4) rfl (.inr (.inl rfl))) (sa_cons (se_var (i := 5) rfl (.inr (.inl rfl))) (sa_cons (se_tup (sa_cons (se_ix (se_var (i := 9) rfl (.inl rfl)) se_int (fun _ _ => rfl)) (sa_cons se_bl sa_nil))) sa_nil)))) (len_cons (len_cons (len_cons (len_cons len_nil))))) (fun _ => rfl))))).pt (sss_one (ss_ret se_bl)) sss_nil)
    (sss_cons (ss_asg (se_tup (sa_cons (se_bin op_addI se_int (se_dn (dn__law_next B) takes_fn (hr.mono (by decide)) (by rfl) (sa_cons (se_var (i := 1) rfl (.inr (.inl rfl))) (sa_cons se_int sa_nil)) (len_cons (len_cons len_nil)))) (sa_cons (se_dn (dn__law_next B) takes_fn (hr.mono (by decide)) (by rfl) (sa_cons (se_var (i := 1) rfl (.inr (.inl rfl))) (sa_cons se_int sa_nil)) (len_cons (len_cons len_nil))) (sa_cons (se_dn (dn__law_next B) takes_fn (hr.mono (by decide)) (by rfl) (sa_cons (se_var (i := 1) rfl (.inr (.inl rfl))) (sa_cons se_int sa_nil)) (len_cons (len_cons len_nil))) sa_nil)))) (sg_tup rfl (sgs_cons (sg_name (i := 16) sc_law.nd rfl (.inl rfl)) (sgs_cons (sg_name (i := 17) sc_law.nd rfl (.inr rfl)) (sgs_cons (sg_name (i := 11) sc_law.nd rfl (.inr rfl)) sgs_nil)))))
    (sss_cons (ss_set (i := 18) sc_law.nd rfl (.inl rfl) (se_bin op_addI se_int (se_dn (dn__law_next B) takes_fn (hr.mono (by decide)) (by rfl) (sa_cons (se_var (i := 1) rfl (.inr (.inl rfl))) (sa_cons se_int sa_nil)) (len_cons (len_cons len_nil)))))
    (sss_cons (ss_set (i := 19) sc_law.nd rfl (.inl rfl) (se_bin op_addI (se_bin op_mulT (se_tup (sa_cons (se_var (i := 16) rfl (.inl rfl)) sa_nil)) (se_bin op_divI (se_var (i := 18) rfl (.inl rfl)) (se_var (i := 16) rfl (.inl rfl)))) (se_ifE (sc_cmp op_gtI (se_var (i := 18) rfl (.inl rfl)) (se_bin op_mulT (se_var (i := 16) rfl (.inl rfl)) (se_bin op_divI (se_var (i := 18) rfl (.inl rfl)) (se_var (i := 16) rfl (.inl rfl)))) (nomark _)) (se_tup (sa_cons (se_bin op_subI (se_var (i := 18) rfl (.inl rfl)) (se_bin op_mulT (se_var (i := 16) rfl (.inl rfl)) (se_bin op_divI (se_var (i := 18) rfl (.inl rfl)) (se_var (i := 16) rfl (.inl rfl))))) sa_nil)) (se_tup sa_nil))))
    (sss_cons (ss_if (sc_cmp (op_neI (ru4 hr)) (se_dn (dn_even_plan B) takes_fn (hr.mono (by decide)) (by rfl) (sa_cons (se_var (i := 18) rfl (.inl rfl)) (sa_cons (se_var (i := 16) rfl (.inl rfl)) (sa_cons (se_var (i := 17) rfl (.inr (.inl rfl))) (sa_cons (se_var (i := 11) rfl (.inr (.inl rfl))) sa_nil)))) (len_cons (len_cons (len_cons (len_cons len_nil))))) (se_tup (sa_cons (se_var (i := 19) rfl (.inl rfl)) (sa_cons (se_callTy call_tupleI (by rfl) B.b_tuple (by rfl) (sa_cons (se_lc (own := [("part", 23)]) (ct := (.one 23)) rfl sc_law.nd (pi_seqI (se_var (i := 19) rfl (.inl rfl))) (blkOk_by (by rfl)) (by decide) (fun _ _ _ _ _ => (pg_name (i := 23) sc_law.nd rfl (.inl rfl))) (fun _ _ _ _ _ => pts_yes) (fun _ _ _ _ _ => (se_bin op_addI (se_var (i := 17) rfl (.inr (.inl rfl))) (se_bin op_mulT (se_var (i := 11) rfl (.inr (.inl rfl))) (se_var (i := 23) rfl (.inl rfl)))))) sa_nil)) sa_nil))) (nomark _)) (sss_one (ss_ret se_bl)) sss_nil)
    (sss_cons (ss_setLc (own := [("number", 24)]) (ct := (.one 24)) (i := 20) rfl sc_law.nd rfl rfl (sw_true rfl rfl rfl (by decide +kernel)) (pi_rng2 (by rfl) B.b_range (sa_cons se_int (sa_cons se_int sa_nil))) (blkOk_by (by rfl)) (by decide) (fun _ _ _ _ _ => (pg_name (i := 24) sc_law.nd rfl (.inl rfl))) (fun _ _ _ _ _ => (pts_one (sc_cmp op_leI (se_bin op_addI (se_var (i := 17) rfl (.inr (.inl rfl))) (se_bin op_mulT (se_var (i := 11) rfl (.inr (.inl rfl))) (se_var (i := 24) rfl (.inl rfl)))) (se_bin op_mulT (se_var (i := 4) rfl (.inr (.inl rfl))) (se_var (i := 24) rfl (.inl rfl))) (nomark _)))) (fun _ _ _ _ _ => (se_var (i := 24) rfl (.inl rfl))))
    (sss_cons (ss_if (sc_cmp (op_neI (ru4 hr)) (se_dn (dn_least_size B) takes_fn (hr.mono (by decide)) (by rfl) (sa_cons (se_var (i := 17) rfl (.inr (.inl rfl))) (sa_cons (se_var (i := 11) rfl (.inr (.inl rfl))) (sa_cons (se_var (i := 4) rfl (.inr (.inl rfl))) (sa_cons se_int sa_nil)))) (len_cons (len_cons (len_cons (len_cons len_nil))))) (se_ifE (sc_cmp (op_neI (ru4 hr)) (se_var (i := 20) rfl (.inl rfl)) (se_lst sa_nil) (nomark _)) (se_ix (se_var (i := 20) rfl (.inl rfl)) se_int (fun _ _ => rfl)) se_non) (nomark _)) (sss_one (ss_ret se_bl)) sss_nil)
    (sss_cons (ss_if (sc_cmp (op_neI (ru4 hr)) (se_var (i := 20) rfl (.inl rfl)) (se_lst sa_nil) (nomark _)) (sss_cons (ss_set (i := 21) sc_law.nd rfl (.inl rfl) (se_dn (dn_even_plan B) takes_fn (hr.mono (by decide)) (by rfl) (sa_cons (se_bin op_mulT (se_ix (se_var (i := 20) rfl (.inl rfl)) se_int (fun _ _ => rfl)) se_int) (sa_cons (se_ix (se_var (i := 20) rfl (.inl rfl)) se_int (fun _ _ => rfl)) (sa_cons (se_var (i := 17) rfl (.inr (.inl rfl))) (sa_cons (se_var (i := 11) rfl (.inr (.inl rfl))) sa_nil)))) (len_cons (len_cons (len_cons (len_cons len_nil))))))
    (sss_one (ss_if (sc_cmp (op_neI (ru4 hr)) (se_dn (dn_late_blocks B) takes_fn (hr.mono (by decide)) (by rfl) (sa_cons (se_var (i := 21) rfl (.inl rfl)) (sa_cons (se_var (i := 4) rfl (.inr (.inl rfl))) (sa_cons se_int (sa_cons (se_bin op_addI (se_var (i := 17) rfl (.inr (.inl rfl))) (se_bin op_mulT (se_var (i := 11) rfl (.inr (.inl rfl))) (se_ix (se_var (i := 20) rfl (.inl rfl)) se_int (fun _ _ => rfl)))) sa_nil)))) (len_cons (len_cons (len_cons (len_cons len_nil))))) (se_tup sa_nil) (nomark _)) (sss_one (ss_ret se_bl)) sss_nil))) sss_nil)
    (sss_one (ss_ret (se_dnG (dn__law_refused_right B) takes_fn hgd (hr.mono (by decide)) (by rfl) (sa_cons (se_var (i := 3) rfl (.inr (.inl rfl))) sa_nil) (len_cons len_nil)))))))))))))))))))))

end law_k18

set_option Elab.async false
set_option linter.all false
set_option maxRecDepth 100000
set_option maxHeartbeats 4000000
/-! PL1: plain facts of readings that all laws share: ints, the draws. -/
namespace PL
open PySem PySem.Spec PyProof.Rows L2 PI
def r__law_cell_at : SemS :=
  (sSeq (sIf (rTBl (rBin cLt (rVar 1) (rCall lenI (rCons (rVar 0) rNil)))) (sRet (rBin idxI (rVar 0) (rVar 1))) sPass)
    (sRet (rC (.int (0)))))
def d__law_cell_at : List IV → Sto → RE IV := callI 2 r__law_cell_at
def r__law_draw : SemS :=
  (sSeq (sAsg (rTup (rCons (rC (.int (1000003))) (rCons (rC (.int (1000033))) (rCons (rC (.int (1000037))) (rCons (rC (.int (1000039))) (rCons (rC (.int (1000081))) (rCons (rC (.int (1000099))) (rCons (rC (.int (1000117))) (rCons (rC (.int (1000121))) (rCons (rC (.int (1000133))) (rCons (rC (.int (1000151))) (rCons (rC (.int (1000159))) (rCons (rC (.int (1000171))) (rCons (rC (.int (1000183))) (rCons (rC (.int (1000187))) (rCons (rC (.int (1000193))) (rCons (rC (.int (1000199))) rNil))))))))))))))))) (gN 3))
    (sRet (rBin modI (rBin modI (rCall intI (rCons (rBin addI (rBin mulT (rVar 0) (rC (.int (48271)))) (rBin mulT (rVar 1) (rC (.int (69621))))) rNil)) (rBin idxI (rVar 3) (rBin modI (rCall intI (rCons (rVar 1) rNil)) (rC (.int (16)))))) (rVar 2))))
def d__law_draw : List IV → Sto → RE IV := callI 4 r__law_draw
def r__law_number : SemS :=
  (sSeq (sAsg (rC (.int (1))) (gN 3))
    (sSeq (sFor (fRng1 (rCons (rBin modI (rCall intI (rCons (rVar 1) rNil)) (rC (.int (24)))) rNil)) (gN 4) (sAsg (rBin mulT (rVar 3) (rC (.int (1009)))) (gN 3)))
    (sSeq (sAsg (rBin divI (rBin subI (rVar 0) (rBin powI (rC (.int (10))) (rC (.int (18))))) (rVar 3)) (gN 5))
    (sSeq (sIf (rTBl (rBin cGt (rVar 5) (rC (.int (0))))) (sRet (rBin modI (rBin modI (rCall intI (rCons (rVar 5) rNil)) (rC (.int (1009)))) (rVar 2))) sPass)
    (sSeq (sAsg (rBin modI (rCall intI (rCons (rVar 0) rNil)) (rC (.int (1000003)))) (gN 6))
    (sRet (rBin modI (rDef d__law_draw (rCons (rBin mulT (rBin addI (rVar 6) (rBin mulT (rC (.int (977))) (rVar 1))) (rBin addI (rBin addI (rVar 6) (rBin mulT (rC (.int (31))) (rVar 1))) (rC (.int (5))))) (rCons (rBin addI (rBin modI (rCall intI (rCons (rVar 1) rNil)) (rC (.int (9)))) (rC (.int (1)))) (rCons (rC (.int (999983))) rNil)))) (rVar 2))))))))
def d__law_number : List IV → Sto → RE IV := callI 7 r__law_number
def r__law_next : SemS :=
  (sSeq (sAsg (rBin addI (rBin idxI (rVar 0) (rC (.int (2)))) (rC (.int (1)))) (gSubI (rVar 0) (rC (.int (2)))))
    (sSeq (sAsg (rBin divI (rBin idxI (rVar 0) (rC (.int (2)))) (rC (.int (12)))) (gN 2))
    (sSeq (sAsg (rBin addI (rDef d__law_cell_at (rCons (rBin idxI (rVar 0) (rC (.int (0)))) (rCons (rBin addI (rBin idxI (rVar 0) (rC (.int (1)))) (rVar 2)) rNil))) (rBin mulT (rC (.int (31))) (rVar 2))) (gN 3))
    (sRet (rDef d__law_number (rCons (rVar 3) (rCons (rBin addI (rBin modI (rCall intI (rCons (rBin idxI (rVar 0) (rC (.int (2)))) rNil)) (rC (.int (12)))) (rC (.int (1)))) (rCons (rVar 1) rNil))))))))
def d__law_next : List IV → Sto → RE IV := callI 4 r__law_next
/-- below the line up to which divisors are served -/
def Sm (i : Int) : Prop := i.natAbs < 2 ^ 9000
theorem log2_lt {n k : Nat} (h : n < 2 ^ k) (hk : 0 < k) : n.log2 < k := by
  by_cases h0 : n = 0
  · subst h0; simpa [Nat.log2_zero] using hk
  · exact (Nat.log2_lt h0).mpr h
theorem div_ok {a b : Int} (st : Sto) (hb : 0 < b) (h : Sm b) : divI (.int a) (.int b) st = some (.int (a / b), st) := by
  show (bif decide (0 < b) && Nat.blt b.natAbs.log2 9000 then _ else _) = _
  have h1 : Nat.blt b.natAbs.log2 9000 = true := by
    have := log2_lt h (by decide)
    simp [Nat.blt]; omega
  rw [decide_eq_true hb, h1]; rfl
theorem mul_ok {a b : Int} (st : Sto) (ha : Sm a) (hb : Sm b) : mulT (.int a) (.int b) st = some (.int (a * b), st) := by
  show (bif mulOk a b then _ else _) = _
  have : mulOk a b = true := by
    unfold mulOk
    have h1 := log2_lt ha (by decide)
    have h2 := log2_lt hb (by decide)
    apply Nat.ble_eq_true_of_le
    omega
  rw [this]; rfl
theorem gt_eq (i j : Int) (st : Sto) : cGt (.int i) (.int j) st = some (.bl (decide (j < i)), st) := rfl
theorem lt_eq (i j : Int) (st : Sto) : cLt (.int i) (.int j) st = some (.bl (decide (i < j)), st) := rfl
theorem le_eq (i j : Int) (st : Sto) : cLe (.int i) (.int j) st = some (.bl (decide (i ≤ j)), st) := rfl
theorem ge_eq (i j : Int) (st : Sto) : cGe (.int i) (.int j) st = some (.bl (decide (j ≤ i)), st) := rfl
theorem eq_eq (i j : Int) (st : Sto) : cEq (.int i) (.int j) st = some (.bl (decide (i = j)), st) := rfl
theorem ne_eq (i j : Int) (st : Sto) : cNe (.int i) (.int j) st = some (.bl (!decide (i = j)), st) := rfl
theorem add_ok (a b : Int) (st : Sto) : addI (.int a) (.int b) st = some (.int (a + b), st) := rfl
theorem sub_ok (a b : Int) (st : Sto) : subI (.int a) (.int b) st = some (.int (a - b), st) := rfl
theorem neg_ok (i : Int) (st : Sto) : negI (.int i) st = some (.int (-i), st) := rfl
theorem sm_le {a b : Int} (h : a.natAbs ≤ b.natAbs) (hb : Sm b) : Sm a := Nat.lt_of_le_of_lt h hb
theorem sm60 {i : Int} (h : i.natAbs ≤ 10 ^ 60) : Sm i := Nat.lt_of_le_of_lt h (by decide +kernel)
theorem mod_ok {a b : Int} (st : Sto) (hb : 0 < b) : modI (.int a) (.int b) st = some (.int (a % b), st) := by
  show (bif decide (0 < b) then _ else _) = _
  rw [decide_eq_true hb]; rfl
theorem sm_of {a : Int} (h : a.natAbs < 2 ^ 100) : Sm a := Nat.lt_of_lt_of_le h (by decide +kernel)
theorem int_ok (a : Int) (st : Sto) : intI [.int a] st = some (.int a, st) := rfl
theorem d__law_draw_ok (c k b : Int) (st : Sto) (hc : c.natAbs < 2 ^ 100) (hk0 : 0 ≤ k) (hk : k < 16) (hb : 0 < b) : ∃ v, 0 ≤ v ∧ v < b ∧ d__law_draw [.int c, .int k, .int b] st = .ok (.int v) st := by
  have hp : ∃ p : Int, 0 < p ∧ ∀ st, idxI (.tup [IV.int 1000003, .int 1000033, .int 1000037, .int 1000039, .int 1000081, .int 1000099, .int 1000117, .int 1000121, .int 1000133, .int 1000151, .int 1000159, .int 1000171, .int 1000183, .int 1000187, .int 1000193, .int 1000199]) (.int (k % 16)) st = some (.int p, st) := by
    have : k = 0 ∨ k = 1 ∨ k = 2 ∨ k = 3 ∨ k = 4 ∨ k = 5 ∨ k = 6 ∨ k = 7 ∨ k = 8 ∨ k = 9 ∨ k = 10 ∨ k = 11 ∨ k = 12 ∨ k = 13 ∨ k = 14 ∨ k = 15 := by omega
    rcases this with rfl | rfl | rfl | rfl | rfl | rfl | rfl | rfl | rfl | rfl | rfl | rfl | rfl | rfl | rfl | rfl <;> exact ⟨_, by decide, fun _ => rfl⟩
  obtain ⟨p, hp0, hp⟩ := hp
  refine ⟨(c * 48271 + k * 69621) % p % b, Int.emod_nonneg _ (Int.ne_of_gt hb), Int.emod_lt_of_pos _ hb, ?_⟩
  unfold d__law_draw r__law_draw
  have m1 : ∀ st, mulT (.int c) (.int 48271) st = some (.int (c * 48271), st) := fun st => mul_ok st (sm_of hc) (sm_of (by decide))
  have m2 : ∀ st, mulT (.int k) (.int 69621) st = some (.int (k * 69621), st) := fun st => mul_ok st (sm_of (by omega)) (sm_of (by decide))
  have m3 : ∀ (x : Int) st, modI (.int x) (.int 16) st = some (.int (x % 16), st) := fun x st => mod_ok st (by decide)
  have lt : Nat.ble 16 lineI = true := by decide
  simp only [callI, startI, List.map_cons, List.map_nil, List.length_cons, List.length_nil, Nat.reduceAdd, Nat.reduceSub, List.replicate_one, List.cons_append, List.nil_append, List.replicate, List.append_nil, sSeq, sAsg, rTup, rC, rCons, rNil, RE.bind, lt, cond_true, RS.ofE, gN, RS.ofG, List.set_cons_zero, List.set_cons_succ, RS.seq, sRet, rBin, rCall, rVar, List.getElem?_cons_zero, List.getElem?_cons_succ, RE.ofO, m1, m2, add_ok, int_ok, m3, hp, mod_ok _ hp0, mod_ok _ hb]
theorem d__law_number_ok (C k b : Int) (st : Sto) (hk0 : 1 ≤ k) (hk : k ≤ 12) (hb : 0 < b) : ∃ v, 0 ≤ v ∧ v < b ∧ d__law_number [.int C, .int k, .int b] st = .ok (.int v) st := by
  have hl : ∃ (z : Int) (e4 : Option IV), 0 < z ∧ Sm z ∧ sFor (fRng1 (rCons (rBin modI (rCall intI (rCons (rVar 1) rNil)) (rC (.int (24)))) rNil)) (gN 4) (sAsg (rBin mulT (rVar 3) (rC (.int (1009)))) (gN 3)) [some (.int C), some (.int k), some (.int b), some (.int 1), none, none, none] st = .nx [some (.int C), some (.int k), some (.int b), some (.int z), e4, none, none] st := by
    have : k = 1 ∨ k = 2 ∨ k = 3 ∨ k = 4 ∨ k = 5 ∨ k = 6 ∨ k = 7 ∨ k = 8 ∨ k = 9 ∨ k = 10 ∨ k = 11 ∨ k = 12 := by omega
    rcases this with rfl | rfl | rfl | rfl | rfl | rfl | rfl | rfl | rfl | rfl | rfl | rfl
    · exact ⟨1009 ^ 1, some (.int 0), by decide, sm60 (by decide), by kernel_rfl⟩
    · exact ⟨1009 ^ 2, some (.int 1), by decide, sm60 (by decide), by kernel_rfl⟩
    · exact ⟨1009 ^ 3, some (.int 2), by decide, sm60 (by decide), by kernel_rfl⟩
    · exact ⟨1009 ^ 4, some (.int 3), by decide, sm60 (by decide), by kernel_rfl⟩
    · exact ⟨1009 ^ 5, some (.int 4), by decide, sm60 (by decide), by kernel_rfl⟩
    · exact ⟨1009 ^ 6, some (.int 5), by decide, sm60 (by decide), by kernel_rfl⟩
    · exact ⟨1009 ^ 7, some (.int 6), by decide, sm60 (by decide), by kernel_rfl⟩
    · exact ⟨1009 ^ 8, some (.int 7), by decide, sm60 (by decide), by kernel_rfl⟩
    · exact ⟨1009 ^ 9, some (.int 8), by decide, sm60 (by decide), by kernel_rfl⟩
    · exact ⟨1009 ^ 10, some (.int 9), by decide, sm60 (by decide), by kernel_rfl⟩
    · exact ⟨1009 ^ 11, some (.int 10), by decide, sm60 (by decide), by kernel_rfl⟩
    · exact ⟨1009 ^ 12, some (.int 11), by decide, sm60 (by decide), by kernel_rfl⟩
  obtain ⟨z, e4, hz, sz, hl⟩ := hl
  have hs0 : 0 ≤ C % 1000003 := Int.emod_nonneg _ (by decide)
  have hs1 : C % 1000003 < 1000003 := Int.emod_lt_of_pos _ (by decide)
  have m1 : ∀ st, mulT (.int 977) (.int k) st = some (.int (977 * k), st) := fun st => mul_ok st (sm_of (by decide)) (sm_of (by omega))
  have m2 : ∀ st, mulT (.int 31) (.int k) st = some (.int (31 * k), st) := fun st => mul_ok st (sm_of (by decide)) (sm_of (by omega))
  have m3 : ∀ st, mulT (.int (C % 1000003 + 977 * k)) (.int (C % 1000003 + 31 * k + 5)) st = some (.int ((C % 1000003 + 977 * k) * (C % 1000003 + 31 * k + 5)), st) := fun st => mul_ok st (sm_of (by omega)) (sm_of (by omega))
  have big : ((C % 1000003 + 977 * k) * (C % 1000003 + 31 * k + 5)).natAbs < 2 ^ 100 := by
    rw [Int.natAbs_mul]
    have a1 : (C % 1000003 + 977 * k).natAbs ≤ 2 ^ 30 := by omega
    have a2 : (C % 1000003 + 31 * k + 5).natAbs ≤ 2 ^ 30 := by omega
    exact Nat.lt_of_le_of_lt (Nat.mul_le_mul a1 a2) (by decide)
  have k9 : 0 ≤ k % 9 ∧ k % 9 < 9 := ⟨Int.emod_nonneg _ (by decide), Int.emod_lt_of_pos _ (by decide)⟩
  obtain ⟨v, hv0, hv1, hv⟩ := d__law_draw_ok ((C % 1000003 + 977 * k) * (C % 1000003 + 31 * k + 5)) (k % 9 + 1) 999983 st big (by omega) (by omega) (by decide)
  have p1 : ∀ st, powI (.int 10) (.int 18) st = some (.int (10 ^ 18), st) := fun _ => rfl
  have s1 : ∀ (x y : Int) (st : Sto), subI (.int x) (.int y) st = some (.int (x - y), st) := fun _ _ _ => rfl
  by_cases h : 0 < (C - 10 ^ 18) / z
  · refine ⟨(C - 10 ^ 18) / z % 1009 % b, Int.emod_nonneg _ (Int.ne_of_gt hb), Int.emod_lt_of_pos _ hb, ?_⟩
    unfold d__law_number r__law_number
    simp only [callI, startI, List.map_cons, List.map_nil, List.length_cons, List.length_nil, Nat.reduceAdd, Nat.reduceSub, List.replicate_one, List.cons_append, List.nil_append, List.replicate, List.append_nil, sSeq]
    simp only [sAsg, rC, RS.ofE, gN, RS.ofG, List.set_cons_zero, List.set_cons_succ, RS.seq, sSeq]
    rw [hl]
    simp only [RS.seq, rBin, rVar, rCons, rNil, List.getElem?_cons_zero, List.getElem?_cons_succ, RE.bind, RE.ofO, p1, s1, div_ok _ hz sz, RS.ofE, RS.ofG, List.set_cons_zero, List.set_cons_succ, sIf, rTBl, gt_eq, rC, decide_eq_true h, cond_true, sRet, rCall, int_ok, mod_ok _ (show (0 : Int) < 1009 by decide), mod_ok _ hb]
  · refine ⟨v % b, Int.emod_nonneg _ (Int.ne_of_gt hb), Int.emod_lt_of_pos _ hb, ?_⟩
    unfold d__law_number r__law_number
    simp only [callI, startI, List.map_cons, List.map_nil, List.length_cons, List.length_nil, Nat.reduceAdd, Nat.reduceSub, List.replicate_one, List.cons_append, List.nil_append, List.replicate, List.append_nil, sSeq]
    simp only [sAsg, rC, RS.ofE, gN, RS.ofG, List.set_cons_zero, List.set_cons_succ, RS.seq, sSeq]
    rw [hl]
    simp only [RS.seq, rBin, rVar, rCons, rNil, List.getElem?_cons_zero, List.getElem?_cons_succ, RE.bind, RE.ofO, p1, s1, div_ok _ hz sz, RS.ofE, RS.ofG, List.set_cons_zero, List.set_cons_succ, sIf, rTBl, gt_eq, rC, decide_eq_false h, cond_false, sPass, sRet, rCall, int_ok, rDef, mod_ok _ (show (0 : Int) < 1000003 by decide), mod_ok _ (show (0 : Int) < 9 by decide), m1, m2, m3, add_ok, hv, mod_ok _ hb]
theorem d__law_cell_ok (m : Nat) (ns : List Int) (k : Int) (st : Sto) (hm : st.os[m]? = some (.lst (ns.map IV.int))) (hk : 0 ≤ k) : ∃ c, d__law_cell_at [.ref m, .int k] st = .ok (.int c) st := by
  have hl : lenI [.ref m] st = some (.int ns.length, st) := by
    show (match lstAt st m with | some xs => some (IV.int xs.length, st) | none => none) = _
    unfold lstAt
    rw [hm]
    simp
  have hlt : cLt (.int k) (.int ns.length) st = some (.bl (decide (k < ns.length)), st) := rfl
  unfold d__law_cell_at r__law_cell_at
  by_cases h : k < ns.length
  · have hi : ∃ c, idxI (.ref m) (.int k) st = some (.int c, st) := by
      have hlt2 : k.toNat < ns.length := by omega
      refine ⟨ns[k.toNat], ?_⟩
      show (match lstAt st m with | some xs => (match L2.atI xs k with | some v => some (v, st) | none => none) | none => none) = _
      unfold lstAt
      rw [hm]
      have ha : L2.atI (ns.map IV.int) k = some (.int ns[k.toNat]) := by
        obtain ⟨j, rfl⟩ := Int.eq_ofNat_of_zero_le hk
        refine L2.atI_nat (j := j) ?_
        rw [List.getElem?_map, List.getElem?_eq_getElem (by simpa using hlt2)]
        rfl
      simp only [ha]
    obtain ⟨c, hi⟩ := hi
    refine ⟨c, ?_⟩
    simp only [callI, startI, List.map_cons, List.map_nil, List.length_cons, List.length_nil, Nat.reduceAdd, Nat.reduceSub, List.replicate_one, List.cons_append, List.nil_append, List.replicate, List.append_nil, sSeq, sIf, rTBl, rBin, rVar, rCall, rCons, rNil, List.getElem?_cons_zero, List.getElem?_cons_succ, RE.bind, RE.ofO, hl, hlt, decide_eq_true h, RS.ofE, cond_true, sRet, hi, RS.seq]
  · refine ⟨0, ?_⟩
    simp only [callI, startI, List.map_cons, List.map_nil, List.length_cons, List.length_nil, Nat.reduceAdd, Nat.reduceSub, List.replicate_one, List.cons_append, List.nil_append, List.replicate, List.append_nil, sSeq, sIf, rTBl, rBin, rVar, rCall, rCons, rNil, rC, List.getElem?_cons_zero, List.getElem?_cons_succ, RE.bind, RE.ofO, hl, hlt, decide_eq_false h, RS.ofE, cond_false, sPass, sRet, RS.seq]
theorem d__law_next_ok (n m : Nat) (ns : List Int) (cnt b : Int) (st : Sto) (hn : st.os[n]? = some (.lst [.ref m, .int 0, .int cnt])) (hm : st.os[m]? = some (.lst (ns.map IV.int))) (hnm : n ≠ m) (hc : 0 ≤ cnt) (hc2 : cnt < 1000) (hb : 0 < b) :
    ∃ v, 0 ≤ v ∧ v < b ∧ d__law_next [.ref n, .int b] st = .ok (.int v) { os := st.os.set n (.lst [.ref m, .int 0, .int (cnt + 1)]), low := st.low } := by
  have hnl : n < st.os.length := (List.getElem?_eq_some_iff.mp hn).1
  have hq0 : 0 ≤ (cnt + 1) / 12 := Int.ediv_nonneg (by omega) (by decide)
  have hq1 : (cnt + 1) / 12 ≤ cnt + 1 := Int.ediv_le_self _ (by omega)
  have hm' : ({ os := st.os.set n (.lst [.ref m, .int 0, .int (cnt + 1)]), low := st.low } : Sto).os[m]? = some (.lst (ns.map IV.int)) := by
    show (st.os.set n _)[m]? = _
    rw [List.getElem?_set_ne hnm]; exact hm
  have hn' : (st.os.set n (IO.lst [.ref m, .int 0, .int (cnt + 1)]))[n]? = some (.lst [.ref m, .int 0, .int (cnt + 1)]) := List.getElem?_set_self hnl
  obtain ⟨c, hcell⟩ := d__law_cell_ok m ns (0 + (cnt + 1) / 12) { os := st.os.set n (.lst [.ref m, .int 0, .int (cnt + 1)]), low := st.low } hm' (by omega)
  have hk0 : 0 ≤ (cnt + 1) % 12 := Int.emod_nonneg _ (by decide)
  have hk1 : (cnt + 1) % 12 < 12 := Int.emod_lt_of_pos _ (by decide)
  obtain ⟨v, hv0, hv1, hv⟩ := d__law_number_ok (c + 31 * ((cnt + 1) / 12)) ((cnt + 1) % 12 + 1) b { os := st.os.set n (.lst [.ref m, .int 0, .int (cnt + 1)]), low := st.low } (by omega) (by omega) hb
  refine ⟨v, hv0, hv1, ?_⟩
  have g2 : idxI (.ref n) (.int 2) st = some (.int cnt, st) := by
    show (match lstAt st n with | some xs => (match L2.atI xs 2 with | some v => some (v, st) | none => none) | none => none) = _
    unfold lstAt; rw [hn]; rfl
  have s2 : setI (.ref n) (.int 2) (.int (cnt + 1)) st = some { os := st.os.set n (.lst [.ref m, .int 0, .int (cnt + 1)]), low := st.low } := by
    unfold setI; simp only [hn]; rfl
  have h2 : idxI (.ref n) (.int 2) { os := st.os.set n (.lst [.ref m, .int 0, .int (cnt + 1)]), low := st.low } = some (.int (cnt + 1), { os := st.os.set n (.lst [.ref m, .int 0, .int (cnt + 1)]), low := st.low }) := by
    show (match lstAt _ n with | some xs => (match L2.atI xs 2 with | some v => some (v, _) | none => none) | none => none) = _
    unfold lstAt; simp only [hn']; rfl
  have h1 : idxI (.ref n) (.int 1) { os := st.os.set n (.lst [.ref m, .int 0, .int (cnt + 1)]), low := st.low } = some (.int 0, { os := st.os.set n (.lst [.ref m, .int 0, .int (cnt + 1)]), low := st.low }) := by
    show (match lstAt _ n with | some xs => (match L2.atI xs 1 with | some v => some (v, _) | none => none) | none => none) = _
    unfold lstAt; simp only [hn']; rfl
  have h0 : idxI (.ref n) (.int 0) { os := st.os.set n (.lst [.ref m, .int 0, .int (cnt + 1)]), low := st.low } = some (.ref m, { os := st.os.set n (.lst [.ref m, .int 0, .int (cnt + 1)]), low := st.low }) := by
    show (match lstAt _ n with | some xs => (match L2.atI xs 0 with | some v => some (v, _) | none => none) | none => none) = _
    unfold lstAt; simp only [hn']; rfl
  have mm : ∀ st, mulT (.int 31) (.int ((cnt + 1) / 12)) st = some (.int (31 * ((cnt + 1) / 12)), st) := fun st => mul_ok st (sm_of (by decide)) (sm_of (by omega))
  have dv : ∀ (x : Int) st, divI (.int x) (.int 12) st = some (.int (x / 12), st) := fun x st => div_ok st (by decide) (sm_of (by decide))
  unfold d__law_next r__law_next
  simp only [callI, startI, List.map_cons, List.map_nil, List.length_cons, List.length_nil, Nat.reduceAdd, Nat.reduceSub, List.replicate_one, List.cons_append, List.nil_append, List.replicate, List.append_nil, sSeq, sAsg, rBin, rVar, rC, rCall, rCons, rNil, rDef, List.getElem?_cons_zero, List.getElem?_cons_succ, RE.bind, RE.ofO, g2, add_ok, RS.ofE, gSubI, s2, RS.ofG, RS.seq, h2, dv, gN, List.set_cons_zero, List.set_cons_succ, h0, h1, hcell, mm, int_ok, mod_ok _ (show (0 : Int) < 12 by decide), sRet, hv]
theorem atI_int {ns : List Int} {v : Int} (h0 : 0 ≤ v) (h : v < ns.length) : ∃ c, c ∈ ns ∧ L2.atI (ns.map IV.int) v = some (.int c) := by
  obtain ⟨j, rfl⟩ := Int.eq_ofNat_of_zero_le h0
  have hj : j < ns.length := by omega
  exact ⟨ns[j], List.getElem_mem hj, L2.atI_nat (j := j) (by rw [List.getElem?_map, List.getElem?_eq_getElem hj]; rfl)⟩
/-- a comprehension whose element changes nothing -/
theorem loopC_pure (i : Nat) (env0 : IEnv) (te : SemE) (st : Sto) (g : IV → IV) : ∀ (xs acc : List IV), (∀ x ∈ xs, te (env0.set i (some x)) st = .ok (g x) st) → loopC (.one i) env0 rYes te xs acc st = .ok (acc.reverse ++ xs.map g) st
  | [], acc, _ => by simp [loopC]
  | x :: xs, acc, h => by
    unfold loopC
    simp only [CT.put, rYes, h x List.mem_cons_self]
    rw [loopC_pure i env0 te st g xs (g x :: acc) fun y hy => h y (List.mem_cons_of_mem _ hy)]
    simp
theorem mem_intsI : ∀ (n : Nat) (lo : Int) (x : IV), x ∈ intsI lo n → ∃ i : Int, x = .int i ∧ lo ≤ i ∧ i < lo + n
  | 0, _, _, h => nomatch h
  | n + 1, lo, x, h => by
    rcases List.mem_cons.mp h with rfl | h
    · exact ⟨lo, rfl, Int.le_refl _, by omega⟩
    · obtain ⟨i, h1, h2, h3⟩ := mem_intsI n (lo + 1) x h
      exact ⟨i, h1, by omega, by omega⟩
theorem intsI_len : ∀ (n : Nat) (lo : Int), (intsI lo n).length = n
  | 0, _ => rfl
  | n + 1, lo => by show (intsI (lo + 1) n).length + 1 = n + 1; rw [intsI_len]
end PL

set_option Elab.async false
set_option linter.all false
set_option maxRecDepth 100000
set_option maxHeartbeats 4000000
/-! PL2: stores that only grow; comprehensions and loops whose turns are known. -/
namespace PL
open PySem PySem.Spec PyProof.Rows L2 PI
/-- the store only grew -/
structure Gw (st st' : Sto) : Prop where
  os : st.os <+: st'.os
  low : st'.low = st.low
theorem Gw.refl (st : Sto) : Gw st st := ⟨List.prefix_refl _, rfl⟩
theorem Gw.trans {a b c : Sto} (h : Gw a b) (h' : Gw b c) : Gw a c := ⟨h.os.trans h'.os, h'.low.trans h.low⟩
theorem Gw.get {st st' : Sto} {n : Nat} {o : IO} (g : Gw st st') (h : st.os[n]? = some o) : st'.os[n]? = some o := by
  obtain ⟨t, e⟩ := g.os
  rw [← e, List.getElem?_append_left (List.getElem?_eq_some_iff.mp h).1]; exact h
theorem lst_some {st : Sto} {n : Nat} {xs : List IV} (h : lstAt st n = some xs) : ∃ o, st.os[n]? = some o ∧ (o = .lst xs ∨ o = .frl xs) := by
  unfold lstAt at h
  split at h
  · cases h; exact ⟨_, by assumption, .inl rfl⟩
  · cases h; exact ⟨_, by assumption, .inr rfl⟩
  · cases h
theorem lst_of {st : Sto} {n : Nat} {xs : List IV} (h : st.os[n]? = some (.lst xs)) : lstAt st n = some xs := by
  unfold lstAt; rw [h]
theorem Gw.lst {st st' : Sto} {n : Nat} {xs : List IV} (g : Gw st st') (h : lstAt st n = some xs) : lstAt st' n = some xs := by
  obtain ⟨o, ho, hx⟩ := lst_some h
  have := g.get ho
  unfold lstAt; rw [this]
  rcases hx with rfl | rfl <;> rfl
theorem Gw.len {st st' : Sto} (g : Gw st st') : st.os.length ≤ st'.os.length := g.os.length_le
theorem Gw.alloc (st : Sto) (o : IO) : Gw st { os := st.os ++ [o], low := st.low } := ⟨List.prefix_append _ _, rfl⟩
theorem new_get (st : Sto) (o : IO) (l : Nat) : ({ os := st.os ++ [o], low := l } : Sto).os[st.os.length]? = some o := by simp
theorem new_lst (st : Sto) (xs : List IV) (l : Nat) : lstAt { os := st.os ++ [.lst xs], low := l } st.os.length = some xs := lst_of (new_get st _ l)
theorem Gw.set {st st' : Sto} (g : Gw st st') {n : Nat} (h : st.os.length ≤ n) (o : IO) : Gw st { os := st'.os.set n o, low := st'.low } := by
  refine ⟨?_, g.low⟩
  obtain ⟨t, e⟩ := g.os
  show st.os <+: st'.os.set n o
  rw [← e, List.set_append_right _ _ h]
  exact List.prefix_append _ _
/-- it gives v, and the store only grew -/
def Ok {α : Type} (m : RE α) (st : Sto) (v : α) : Prop := ∃ st', m = .ok v st' ∧ Gw st st'
/-- it gives a list of the store -/
def OkL (m : RE IV) (st : Sto) (xs : List IV) : Prop := ∃ n st', m = .ok (.ref n) st' ∧ Gw st st' ∧ lstAt st' n = some xs
theorem Ok.same {α : Type} {m : RE α} {st : Sto} {v : α} (h : m = .ok v st) : Ok m st v := ⟨st, h, .refl st⟩
theorem tup_lst {n : Nat} {st : Sto} {xs : List IV} (h : lstAt st n = some xs) : tupleI [.ref n] st = some (.tup xs, st) := by
  show (match lstAt st n with | some xs => some (IV.tup xs, st) | none => none) = _
  rw [h]
theorem bools_map {κ : Type} (f : κ → Bool) : ∀ ks : List κ, bools (ks.map fun k => .bl (f k)) = some (ks.map f)
  | [] => rfl
  | k :: ks => by
    show (match bools (ks.map fun k => IV.bl (f k)) with | some bs => some (f k :: bs) | none => none) = _
    rw [bools_map f ks]; rfl
theorem ints_map {κ : Type} (f : κ → Int) : ∀ ks : List κ, intsOf (ks.map fun k => .int (f k)) = some (ks.map f)
  | [] => rfl
  | k :: ks => by
    show (match intsOf (ks.map fun k => IV.int (f k)) with | some bs => some (f k :: bs) | none => none) = _
    rw [ints_map f ks]; rfl
theorem any_lst {κ : Type} {n : Nat} {st : Sto} {ks : List κ} {f : κ → Bool} (h : lstAt st n = some (ks.map fun k => .bl (f k))) : anyI [.ref n] st = some (.bl (ks.any f), st) := by
  show (match lstAt st n with | some xs => (match bools xs with | some bs => some (IV.bl (bs.any id), st) | none => none) | none => none) = _
  rw [h]; simp only [bools_map]
  simp [List.any_map]
theorem all_lst {κ : Type} {n : Nat} {st : Sto} {ks : List κ} {f : κ → Bool} (h : lstAt st n = some (ks.map fun k => .bl (f k))) : allI [.ref n] st = some (.bl (ks.all f), st) := by
  show (match lstAt st n with | some xs => (match bools xs with | some bs => some (IV.bl (bs.all id), st) | none => none) | none => none) = _
  rw [h]; simp only [bools_map]
  simp [List.all_map]
theorem sum_tup (xs : List Int) (st : Sto) : sumT [.tup (xs.map IV.int)] st = some (.int xs.sum, st) := by
  show (match intsOf (xs.map IV.int) with | some ns => some (IV.int ns.sum, st) | none => none) = _
  have := ints_map (fun k : Int => k) xs
  simp only [List.map_id'] at this
  rw [show (xs.map IV.int) = xs.map fun k => IV.int k from rfl, this]
theorem call_L {f : List IV → Sto → RO} {e : SemE} {env : IEnv} {st : Sto} {xs : List IV} {v : IV} (h : OkL (e env st) st xs) (hf : ∀ n st', lstAt st' n = some xs → f [.ref n] st' = some (v, st')) : Ok (rCall f (rCons e rNil) env st) st v := by
  obtain ⟨n, st', e1, g, hl⟩ := h
  refine ⟨st', ?_, g⟩
  simp only [rCall, rCons, rNil, e1, RE.bind, hf n st' hl, RE.ofO]
theorem lc_gen (ct : CT) (env0 : IEnv) (tt : SemT) (te : SemE) (base : Sto) {κ : Type} (f : κ → IV) (E : κ → IEnv) (p : κ → Bool) (g : κ → IV) : ∀ (ks : List κ) (acc : List IV) (st : Sto), Gw base st →
    (∀ k ∈ ks, ct.put (f k) env0 = some (E k)) → (∀ k ∈ ks, ∀ st1, Gw base st1 → Ok (tt (E k) st1) st1 (p k)) → (∀ k ∈ ks, p k = true → ∀ st1, Gw base st1 → Ok (te (E k) st1) st1 (g k)) →
    ∃ st2, loopC ct env0 tt te (ks.map f) acc st = .ok (acc.reverse ++ (ks.filter p).map g) st2 ∧ Gw st st2
  | [], acc, st, gb, h1, h2, h3 => ⟨st, by simp [loopC], .refl st⟩
  | k :: ks, acc, st, gb, h1, h2, h3 => by
    obtain ⟨s1, e1, g1⟩ := h2 k List.mem_cons_self st gb
    rw [List.map_cons]
    unfold loopC
    rw [h1 k List.mem_cons_self]
    simp only [e1]
    have r1 := fun k' hk => h1 k' (List.mem_cons_of_mem k hk)
    have r2 := fun k' hk => h2 k' (List.mem_cons_of_mem k hk)
    have r3 := fun k' hk => h3 k' (List.mem_cons_of_mem k hk)
    cases hp : p k with
    | true =>
      obtain ⟨s2, e2, g2⟩ := h3 k List.mem_cons_self hp s1 (gb.trans g1)
      obtain ⟨s3, e3, g3⟩ := lc_gen ct env0 tt te base f E p g ks (g k :: acc) s2 ((gb.trans g1).trans g2) r1 r2 r3
      refine ⟨s3, ?_, (g1.trans g2).trans g3⟩
      simp only [e2, e3, List.filter_cons, hp, if_true, List.map_cons, List.reverse_cons, List.append_assoc, List.singleton_append]
    | false =>
      obtain ⟨s3, e3, g3⟩ := lc_gen ct env0 tt te base f E p g ks acc s1 (gb.trans g1) r1 r2 r3
      refine ⟨s3, ?_, g1.trans g3⟩
      simp [e3, List.filter_cons, hp]
theorem lc_items {κ : Type} {it : IEnv → Sto → RE FI} {ct : CT} {vs : List Nat} {tt : SemT} {te : SemE} {env : IEnv} {st0 st : Sto} (f : κ → IV) (E : κ → IEnv) (p : κ → Bool) (g : κ → IV) (ks : List κ)
    (hi : it env st0 = .ok (.items (ks.map f)) st) (hg : Gw st0 st) (hl : ks.length ≤ 100000) (h1 : ∀ k ∈ ks, ct.put (f k) (wipeI env vs) = some (E k))
    (h2 : ∀ k ∈ ks, ∀ st1, Gw st st1 → Ok (tt (E k) st1) st1 (p k)) (h3 : ∀ k ∈ ks, p k = true → ∀ st1, Gw st st1 → Ok (te (E k) st1) st1 (g k)) :
    OkL (rLc it ct vs tt te env st0) st0 ((ks.filter p).map g) := by
  obtain ⟨s2, e2, g2⟩ := lc_gen ct (wipeI env vs) tt te st f E p g ks [] st (.refl st) h1 h2 h3
  refine ⟨s2.os.length, { os := s2.os ++ [.lst ((ks.filter p).map g)], low := s2.low }, ?_, (hg.trans g2).trans (.alloc _ _), new_lst _ _ _⟩
  have hb : Nat.ble (ks.map f).length lineI = true := by
    rw [List.length_map]; exact Nat.ble_eq_true_of_le hl
  unfold rLc
  simp only [hi, RE.bind, hb, cond_true, e2, List.reverse_nil, List.nil_append, Sto.allocO, RE.ofO]
theorem lc_yes {κ : Type} {it : IEnv → Sto → RE FI} {ct : CT} {vs : List Nat} {te : SemE} {env : IEnv} {st0 st : Sto} (f : κ → IV) (E : κ → IEnv) (g : κ → IV) (ks : List κ)
    (hi : it env st0 = .ok (.items (ks.map f)) st) (hg : Gw st0 st) (hl : ks.length ≤ 100000) (h1 : ∀ k ∈ ks, ct.put (f k) (wipeI env vs) = some (E k))
    (h3 : ∀ k ∈ ks, ∀ st1, Gw st st1 → Ok (te (E k) st1) st1 (g k)) :
    OkL (rLc it ct vs rYes te env st0) st0 (ks.map g) := by
  have := lc_items (tt := rYes) f E (fun _ => true) g ks hi hg hl h1 (fun _ _ st1 _ => ⟨st1, rfl, .refl _⟩) (fun k hk _ => h3 k hk)
  rwa [List.filter_eq_self.mpr (fun _ _ => rfl)] at this
theorem intsI_map : ∀ (n : Nat) (lo : Int), intsI lo n = (List.range n).map fun i => .int (lo + (i : Nat))
  | 0, _ => rfl
  | n + 1, lo => by
    rw [List.range_succ_eq_map, List.map_cons, List.map_map]
    show IV.int lo :: intsI (lo + 1) n = _
    rw [intsI_map n (lo + 1)]
    congr 1
    · simp
    · apply List.map_congr_left
      intro i _
      show IV.int _ = IV.int _
      congr 1
      show lo + 1 + (i : Int) = lo + ((i + 1 : Nat) : Int)
      omega
theorem intsI_0 (n : Nat) : intsI 0 n = (List.range n).map fun i => .int (i : Nat) := by
  rw [intsI_map]; apply List.map_congr_left; intro i _; simp
theorem rngOk_nat {i : Int} (h0 : -1000000 ≤ i) (h : i ≤ 1000000) : rngOk i = true := by
  unfold rngOk
  rw [decide_eq_true (show -(2 ^ 62) ≤ i by omega), decide_eq_true (show i < 2 ^ 62 by omega)]; rfl
theorem fRng1_eq {a : SemA} {env : IEnv} {st st' : Sto} (j : Int) (h : a env st = .ok [.int j] st') (h1 : rngOk j = true) : fRng1 a env st = .ok (.items (intsI 0 j.toNat)) st' := by
  have h2 : fRng1 a env st = (a env st).bind fun v st1 => match v with
    | [.int j] => bif rngOk j then .ok (.items (intsI 0 j.toNat)) st1 else .bad
    | _ => .bad := rfl
  rw [h2, h]
  simp only [RE.bind]
  rw [h1, cond_true]
theorem rng1 {a : SemA} {env : IEnv} {st st' : Sto} (n : Nat) (h : a env st = .ok [.int (n : Nat)] st') (hn : n ≤ 100000) : fRng1 a env st = .ok (.items ((List.range n).map fun i => .int (i : Nat))) st' := by
  have h1 : rngOk (n : Int) = true := rngOk_nat (by omega) (by omega)
  rw [fRng1_eq (n : Int) h h1, Int.toNat_natCast, intsI_0]
theorem rng2 {a : SemA} {env : IEnv} {st st' : Sto} (lo hi : Int) (n : Nat) (h : a env st = .ok [.int lo, .int hi] st') (e : hi = lo + n) (h0 : -100000 ≤ lo) (h1 : lo ≤ 100000) (hn : n ≤ 100000) : fRng2 a env st = .ok (.items ((List.range n).map fun i => .int (lo + (i : Nat)))) st' := by
  subst e
  have e : (lo + (n : Int) - lo).toNat = n := by omega
  have h3 : rngOk lo = true := rngOk_nat (by omega) (by omega)
  have h4 : rngOk (lo + (n : Int)) = true := rngOk_nat (by omega) (by omega)
  have h2 : fRng2 a env st = (a env st).bind fun v st1 => match v with
    | [.int i, .int j] => bif rngOk i && rngOk j then .ok (.items (intsI i (j - i).toNat)) st1 else .bad
    | _ => .bad := rfl
  rw [h2, h]
  simp only [RE.bind]
  rw [h3, h4, Bool.and_true, cond_true, e, intsI_map]
/-- rows of enumerate -/
def enumI (xs : List IV) : List IV := (List.range xs.length).map fun i => .tup [.int (i : Nat), (xs[i]?).getD .non]
theorem loopT_nil {g : SemG} {b : SemS} {env : IEnv} {st : Sto} : loopT g b [] env st = .nx env st := rfl
theorem walkT (g : SemG) (b : SemS) (xs : List IV) : ∀ (m i : Nat), m + i = xs.length + 1 → i ≤ xs.length → ∀ (env : IEnv) (st : Sto), loopW g b xs.length (lenOf (.tup xs)) (rowE (.tup xs)) m i env st = loopT g b ((enumI xs).drop i) env st := by
  intro m
  induction m with
  | zero =>
    intro i hi hi' env st
    exact absurd hi (by omega)
  | succ m ih =>
    intro i hi hi' env st
    have hl : lenOf (.tup xs) st = some xs.length := rfl
    unfold loopW
    simp only [hl]
    rw [Nat.beq_refl, cond_true]
    by_cases h : i < xs.length
    · have hb : Nat.blt i xs.length = true := by simp [Nat.blt]; omega
      have hr : rowE (.tup xs) st i = some (.tup [.int (i : Nat), xs[i]]) := by
        show (xs[i]?).map _ = _
        rw [List.getElem?_eq_getElem h]; rfl
      have hd : (enumI xs).drop i = .tup [.int (i : Nat), xs[i]] :: (enumI xs).drop (i + 1) := by
        have hi2 : i < (enumI xs).length := by simp [enumI, h]
        rw [List.drop_eq_getElem_cons hi2]
        congr 1
        simp [enumI, List.getElem?_eq_getElem h]
      rw [hb, cond_true, hr, hd]
      show RS.ofG _ _ = RS.ofG _ _
      congr 1
      funext env1 st1
      congr 1
      funext env2 st2
      exact ih (i + 1) (by omega) (by omega) env2 st2
    · have hb : Nat.blt i xs.length = false := Bool.eq_false_iff.mpr fun h' => absurd (Nat.le_of_ble_eq_true h') (by omega)
      have hd : (enumI xs).drop i = [] := List.drop_eq_nil_of_le (by have : (enumI xs).length = xs.length := by simp [enumI]
                                                                     omega)
      rw [hb, cond_false, hd, loopT_nil]
theorem walkC (ct : CT) (env0 : IEnv) (tt : SemT) (te : SemE) (xs : List IV) : ∀ (m i : Nat), m + i = xs.length + 1 → i ≤ xs.length → ∀ (acc : List IV) (st : Sto), loopCW ct env0 tt te xs.length (lenOf (.tup xs)) (rowE (.tup xs)) m i acc st = loopC ct env0 tt te ((enumI xs).drop i) acc st := by
  intro m
  induction m with
  | zero =>
    intro i hi hi' acc st
    exact absurd hi (by omega)
  | succ m ih =>
    intro i hi hi' acc st
    have hl : lenOf (.tup xs) st = some xs.length := rfl
    unfold loopCW
    simp only [hl]
    rw [Nat.beq_refl, cond_true]
    by_cases h : i < xs.length
    · have hb : Nat.blt i xs.length = true := by simp [Nat.blt]; omega
      have hr : rowE (.tup xs) st i = some (.tup [.int (i : Nat), xs[i]]) := by
        show (xs[i]?).map _ = _
        rw [List.getElem?_eq_getElem h]; rfl
      have hd : (enumI xs).drop i = .tup [.int (i : Nat), xs[i]] :: (enumI xs).drop (i + 1) := by
        have hi2 : i < (enumI xs).length := by simp [enumI, h]
        rw [List.drop_eq_getElem_cons hi2]
        congr 1
        simp [enumI, List.getElem?_eq_getElem h]
      rw [hb, cond_true, hr, hd]
      simp only [loopC, ih (i + 1) (by omega) (by omega)]
    · have hb : Nat.blt i xs.length = false := Bool.eq_false_iff.mpr fun h' => absurd (Nat.le_of_ble_eq_true h') (by omega)
      have hd : (enumI xs).drop i = [] := List.drop_eq_nil_of_le (by have : (enumI xs).length = xs.length := by simp [enumI]
                                                                     omega)
      rw [hb, cond_false, hd]; rfl
/-- for over items, by an invariant of what has been walked -/
theorem for_inv {κ : Type} (g : SemG) (b : SemS) (f : κ → IV) (I : List κ → IEnv → Sto → Prop) : ∀ (ks pre : List κ) (env : IEnv) (st : Sto), I pre env st →
    (∀ pre' k rest, pre ++ ks = pre' ++ k :: rest → ∀ env st, I pre' env st → ∃ env1 st1, g (f k) env st = some (env1, st1) ∧ ∃ env2 st2, b env1 st1 = .nx env2 st2 ∧ I (pre' ++ [k]) env2 st2) →
    ∃ env' st', loopT g b (ks.map f) env st = .nx env' st' ∧ I (pre ++ ks) env' st'
  | [], pre, env, st, h, _ => ⟨env, st, rfl, by simpa using h⟩
  | k :: ks, pre, env, st, h, hs => by
    obtain ⟨e1, s1, h1, e2, s2, h2, h3⟩ := hs pre k ks rfl env st h
    obtain ⟨e3, s3, h4, h5⟩ := for_inv g b f I ks (pre ++ [k]) e2 s2 h3 (fun pre' k' rest hq => hs pre' k' rest (by simpa using hq))
    refine ⟨e3, s3, ?_, by simpa using h5⟩
    show RS.ofG (g (f k) env st) (fun env1 st1 => (b env1 st1).loop (loopT g b (ks.map f))) = _
    rw [h1]
    show (b e1 s1).loop _ = _
    rw [h2]
    exact h4
end PL

set_option Elab.async false
set_option linter.all false
set_option maxRecDepth 100000
set_option maxHeartbeats 4000000
/-! PL3: readings that only let the store grow, rule by rule. -/
namespace PL
open PySem PySem.Spec PyProof.Rows L2 PI
/-- the statement ends and leaves these names -/
def OkS (m : RS) (st : Sto) (env : IEnv) : Prop := ∃ st', m = .nx env st' ∧ Gw st st'
/-- the statement gives this -/
def OkR (m : RS) (st : Sto) (v : IV) : Prop := ∃ st', m = .rt v st' ∧ Gw st st'
section
variable {α β : Type} {env env' env'' : IEnv} {st st1 : Sto} {a b c : SemE} {as : SemA} {ct dt : SemT} {x y z v w : IV} {xs ys : List IV} {f g : IV → IV → Sto → RO} {i j : Nat} {k l : Bool} {s t : SemS} {F : List IV → Sto → RO} {D : List IV → Sto → RE IV}
theorem Ok.bind {m : RE α} {q : α → Sto → RE β} {v : α} {w : β} (h : Ok m st v) (h2 : ∀ st1, Gw st st1 → Ok (q v st1) st1 w) : Ok (m.bind q) st w := by
  obtain ⟨s1, rfl, g1⟩ := h
  obtain ⟨s2, e2, g2⟩ := h2 s1 g1
  exact ⟨s2, e2, g1.trans g2⟩
theorem Ok.eq {m : RE α} {v w : α} (h : Ok m st v) (e : v = w) : Ok m st w := e ▸ h
theorem ok_ofO {o : RO} (h : o = some (v, st)) : Ok (RE.ofO o) st v := ⟨st, by rw [h]; rfl, .refl st⟩
theorem ok_var (h : env[i]? = some (some v)) : Ok (rVar i env st) st v := ⟨st, by unfold rVar; rw [h], .refl st⟩
theorem ok_c : Ok (rC v env st) st v := .same rfl
theorem ok_nil : Ok (rNil env st) st [] := .same rfl
theorem ok_cons (h : Ok (a env st) st v) (h2 : ∀ st1, Gw st st1 → Ok (as env st1) st1 xs) : Ok (rCons a as env st) st (v :: xs) := h.bind fun s1 g1 => (h2 s1 g1).bind fun s2 _ => .same rfl
theorem ok_bin (h : Ok (a env st) st x) (h2 : ∀ st1, Gw st st1 → Ok (b env st1) st1 y) (h3 : ∀ st1, Gw st st1 → Ok (RE.ofO (f x y st1)) st1 z) : Ok (rBin f a b env st) st z := h.bind fun s1 g1 => (h2 s1 g1).bind fun s2 g2 => h3 s2 (g1.trans g2)
theorem ok_un {f : IV → Sto → RO} (h : Ok (a env st) st x) (h3 : ∀ st1, Gw st st1 → Ok (RE.ofO (f x st1)) st1 z) : Ok (rUn f a env st) st z := h.bind fun s1 g1 => h3 s1 g1
theorem ok_call (h : Ok (as env st) st xs) (h2 : ∀ st1, Gw st st1 → Ok (RE.ofO (F xs st1)) st1 v) : Ok (rCall F as env st) st v := h.bind h2
theorem ok_def (h : Ok (as env st) st xs) (h2 : ∀ st1, Gw st st1 → Ok (D xs st1) st1 v) : Ok (rDef D as env st) st v := h.bind h2
theorem ok_tup (h : Ok (as env st) st xs) (hl : xs.length ≤ 100000) : Ok (rTup as env st) st (.tup xs) := h.bind fun s1 g1 => ⟨s1, by rw [show Nat.ble xs.length lineI = true from Nat.ble_eq_true_of_le hl]; rfl, .refl s1⟩
theorem ok_lst (h : Ok (as env st) st xs) (hl : xs.length ≤ 100000) : OkL (rLst as env st) st xs := by
  obtain ⟨s1, e1, g1⟩ := h
  refine ⟨s1.os.length, { os := s1.os ++ [.lst xs], low := s1.low }, ?_, g1.trans (.alloc _ _), new_lst _ _ _⟩
  unfold rLst
  rw [e1]
  show (bif Nat.ble xs.length lineI then RE.ofO (s1.allocO (.lst xs)) else .bad) = _
  rw [show Nat.ble xs.length lineI = true from Nat.ble_eq_true_of_le hl]; rfl
theorem ok_tru (h : Ok (a env st) st v) (h2 : ∀ st1, Gw st st1 → truI st1 v = some k) : Ok (rTru a env st) st k := h.bind fun s1 g1 => ⟨s1, by rw [h2 s1 g1], .refl s1⟩
theorem ok_trub (h : Ok (a env st) st (.bl k)) : Ok (rTru a env st) st k := ok_tru h fun _ _ => rfl
theorem ok_tbl (h : Ok (a env st) st (.bl k)) : Ok (rTBl a env st) st k := h.bind fun s1 g1 => ⟨s1, rfl, .refl s1⟩
theorem ok_tnot (h : Ok (ct env st) st k) : Ok (rTNot ct env st) st (!k) := h.bind fun s1 g1 => .same rfl
theorem ok_tor (h : Ok (ct env st) st k) (h2 : ∀ st1, Gw st st1 → k = false → Ok (dt env st1) st1 l) : Ok (rTOr ct dt env st) st (k || l) := h.bind fun s1 g1 => by
  cases k with
  | true => exact .same rfl
  | false => exact h2 s1 g1 rfl
theorem ok_tand (h : Ok (ct env st) st k) (h2 : ∀ st1, Gw st st1 → k = true → Ok (dt env st1) st1 l) : Ok (rTAnd ct dt env st) st (k && l) := h.bind fun s1 g1 => by
  cases k with
  | false => exact .same rfl
  | true => exact h2 s1 g1 rfl
theorem ok_and (h : Ok (a env st) st (.bl k)) (h2 : ∀ st1, Gw st st1 → k = true → Ok (b env st1) st1 (.bl l)) : Ok (rAnd a b env st) st (.bl (k && l)) := h.bind fun s1 g1 => by
  cases k with
  | false => exact .same rfl
  | true => exact h2 s1 g1 rfl
theorem ok_not (h : Ok (a env st) st (.bl k)) : Ok (rNot a env st) st (.bl (!k)) := h.bind fun s1 g1 => by
  cases k <;> exact .same rfl
theorem ok_ifT (h : Ok (ct env st) st true) (h2 : ∀ st1, Gw st st1 → Ok (a env st1) st1 v) : Ok (rIfE ct a b env st) st v := h.bind fun s1 g1 => h2 s1 g1
theorem ok_ifF (h : Ok (ct env st) st false) (h2 : ∀ st1, Gw st st1 → Ok (b env st1) st1 v) : Ok (rIfE ct a b env st) st v := h.bind fun s1 g1 => h2 s1 g1
theorem ok_chain {f g : IV → IV → Sto → RO} (h : Ok (a env st) st x) (h2 : ∀ st1, Gw st st1 → Ok (b env st1) st1 y) (h3 : ∀ st1, Gw st st1 → f x y st1 = some (.bl k, st1)) (h4 : ∀ st1, Gw st st1 → Ok (c env st1) st1 z) (h5 : ∀ st1, Gw st st1 → g y z st1 = some (.bl l, st1)) : Ok (rChain f g a b c env st) st (.bl (k && l)) :=
  h.bind fun s1 g1 => (h2 s1 g1).bind fun s2 g2 => (ok_ofO (h3 s2 (g1.trans g2))).bind fun s3 g3 => by
    cases k with
    | false => exact .same rfl
    | true => exact (h4 s3 ((g1.trans g2).trans g3)).bind fun s4 g4 => ok_ofO (h5 s4 (((g1.trans g2).trans g3).trans g4))
theorem ok_part {n : Int} (h : Ok (b env st) st (.int n)) : Ok (rPart b env st) st (some n) := h.bind fun s1 g1 => .same rfl
theorem ok_slTo {n : Int} (h : Ok (a env st) st (.tup xs)) (h2 : ∀ st1, Gw st st1 → Ok (b env st1) st1 (.int n)) : Ok (rSl a rNoPart (rPart b) env st) st (.tup (cutI xs none (some n))) := h.bind fun s1 g1 => (ok_part (h2 s1 g1)).bind fun s4 g4 => ok_ofO rfl
theorem ok_sl {m n : Int} (h : Ok (a env st) st (.tup xs)) (h1 : ∀ st1, Gw st st1 → Ok (b env st1) st1 (.int m)) (h2 : ∀ st1, Gw st st1 → Ok (c env st1) st1 (.int n)) : Ok (rSl a (rPart b) (rPart c) env st) st (.tup (cutI xs (some m) (some n))) := h.bind fun s1 g1 => (ok_part (h1 s1 g1)).bind fun s3 g3 => (ok_part (h2 s3 (g1.trans g3))).bind fun s5 g5 => ok_ofO rfl
theorem ok_isT {T : TY} {t : TY} (h : Ok (a env st) st v) (h2 : ∀ st1, Gw st st1 → tyI st1 v = some t) : Ok (rIsT T a env st) st (.bl (t.sub T)) := h.bind fun s1 g1 => ⟨s1, by rw [h2 s1 g1], .refl s1⟩
/-! statements -/
theorem oks_pass : OkS (sPass env st) st env := ⟨st, rfl, .refl st⟩
theorem oks_seq (h : OkS (s env st) st env') (h2 : ∀ st1, Gw st st1 → OkS (t env' st1) st1 env'') : OkS (sSeq s t env st) st env'' := by
  obtain ⟨s1, e1, g1⟩ := h
  obtain ⟨s2, e2, g2⟩ := h2 s1 g1
  exact ⟨s2, by unfold sSeq; rw [e1]; exact e2, g1.trans g2⟩
theorem okr_seq (h : OkS (s env st) st env') (h2 : ∀ st1, Gw st st1 → OkR (t env' st1) st1 v) : OkR (sSeq s t env st) st v := by
  obtain ⟨s1, e1, g1⟩ := h
  obtain ⟨s2, e2, g2⟩ := h2 s1 g1
  exact ⟨s2, by unfold sSeq; rw [e1]; exact e2, g1.trans g2⟩
theorem okr_now (h : OkR (s env st) st v) : OkR (sSeq s t env st) st v := by
  obtain ⟨s1, e1, g1⟩ := h
  exact ⟨s1, by unfold sSeq; rw [e1]; rfl, g1⟩
theorem okr_ret (h : Ok (a env st) st v) : OkR (sRet a env st) st v := by
  obtain ⟨s1, e1, g1⟩ := h
  exact ⟨s1, by unfold sRet; rw [e1]; rfl, g1⟩
theorem oks_expr (h : Ok (a env st) st v) : OkS (sExpr a env st) st env := by
  obtain ⟨s1, e1, g1⟩ := h
  exact ⟨s1, by unfold sExpr; rw [e1]; rfl, g1⟩
theorem oks_set (h : Ok (a env st) st v) : OkS (sAsg a (gN i) env st) st (env.set i (some v)) := by
  obtain ⟨s1, e1, g1⟩ := h
  exact ⟨s1, by unfold sAsg; rw [e1]; rfl, g1⟩
theorem oks_asg {G : SemG} (h : Ok (a env st) st v) (h2 : ∀ st1, Gw st st1 → G v env st1 = some (env', st1)) : OkS (sAsg a G env st) st env' := by
  obtain ⟨s1, e1, g1⟩ := h
  exact ⟨s1, by unfold sAsg; rw [e1]; show RS.ofG (G v env s1) _ = _; rw [h2 s1 g1]; rfl, g1⟩
theorem oks_ifT (h : Ok (ct env st) st true) (h2 : ∀ st1, Gw st st1 → OkS (s env st1) st1 env') : OkS (sIf ct s t env st) st env' := by
  obtain ⟨s1, e1, g1⟩ := h
  obtain ⟨s2, e2, g2⟩ := h2 s1 g1
  exact ⟨s2, by unfold sIf; rw [e1]; exact e2, g1.trans g2⟩
theorem oks_ifF (h : Ok (ct env st) st false) (h2 : ∀ st1, Gw st st1 → OkS (t env st1) st1 env') : OkS (sIf ct s t env st) st env' := by
  obtain ⟨s1, e1, g1⟩ := h
  obtain ⟨s2, e2, g2⟩ := h2 s1 g1
  exact ⟨s2, by unfold sIf; rw [e1]; exact e2, g1.trans g2⟩
theorem okr_ifT (h : Ok (ct env st) st true) (h2 : ∀ st1, Gw st st1 → OkR (s env st1) st1 v) : OkR (sIf ct s t env st) st v := by
  obtain ⟨s1, e1, g1⟩ := h
  obtain ⟨s2, e2, g2⟩ := h2 s1 g1
  exact ⟨s2, by unfold sIf; rw [e1]; exact e2, g1.trans g2⟩
/-- a check that does not fire -/
theorem oks_chk (h : Ok (ct env st) st false) : OkS (sIf ct s sPass env st) st env := oks_ifF h fun _ _ => oks_pass
theorem ok_fn {n : Nat} {r : SemS} {xs : List IV} (h : OkR (r (startI n xs) st) st v) : Ok (callI n r xs st) st v := by
  obtain ⟨s1, e1, g1⟩ := h
  exact ⟨s1, by unfold callI; rw [e1], g1⟩
theorem ok_fnN {n : Nat} {r : SemS} {xs : List IV} (h : OkS (r (startI n xs) st) st env) : Ok (callI n r xs st) st .non := by
  obtain ⟨s1, e1, g1⟩ := h
  exact ⟨s1, by unfold callI; rw [e1], g1⟩
theorem okl_fn {n : Nat} {r : SemS} {xs : List IV} {e : SemE} (h : OkL (e (startI n xs) st) st ys) (hr : r = sRet e) : OkL (callI n r xs st) st ys := by
  obtain ⟨m, s1, e1, g1, hl⟩ := h
  refine ⟨m, s1, ?_, g1, hl⟩
  subst hr
  unfold callI sRet
  rw [e1]; rfl
/-! leaves -/
theorem ok_add {p q : Int} : Ok (RE.ofO (addI (.int p) (.int q) st)) st (.int (p + q)) := ok_ofO rfl
theorem ok_sub {p q : Int} : Ok (RE.ofO (subI (.int p) (.int q) st)) st (.int (p - q)) := ok_ofO rfl
theorem ok_mul {p q : Int} (hp : Sm p) (hq : Sm q) : Ok (RE.ofO (mulT (.int p) (.int q) st)) st (.int (p * q)) := ok_ofO (mul_ok st hp hq)
theorem ok_div {p q : Int} (hq : 0 < q) (h : Sm q) : Ok (RE.ofO (divI (.int p) (.int q) st)) st (.int (p / q)) := ok_ofO (div_ok st hq h)
theorem ok_neg {p : Int} : Ok (RE.ofO (negI (.int p) st)) st (.int (-p)) := ok_ofO rfl
theorem ok_lt {p q : Int} : Ok (RE.ofO (cLt (.int p) (.int q) st)) st (.bl (decide (p < q))) := ok_ofO rfl
theorem ok_gt {p q : Int} : Ok (RE.ofO (cGt (.int p) (.int q) st)) st (.bl (decide (q < p))) := ok_ofO rfl
theorem ok_le {p q : Int} : Ok (RE.ofO (cLe (.int p) (.int q) st)) st (.bl (decide (p ≤ q))) := ok_ofO rfl
theorem ok_ge {p q : Int} : Ok (RE.ofO (cGe (.int p) (.int q) st)) st (.bl (decide (q ≤ p))) := ok_ofO rfl
theorem ok_eqi {p q : Int} : Ok (RE.ofO (cEq (.int p) (.int q) st)) st (.bl (decide (p = q))) := ok_ofO rfl
theorem ok_nei {p q : Int} : Ok (RE.ofO (cNe (.int p) (.int q) st)) st (.bl (!decide (p = q))) := ok_ofO rfl
theorem ok_idx {p : Int} (h : L2.atI xs p = some v) : Ok (RE.ofO (idxI (.tup xs) (.int p) st)) st v := ok_ofO (by
  show (match L2.atI xs p with | some v => some (v, st) | none => none) = _
  rw [h])
theorem ok_idxL {p : Int} {n : Nat} (hn : lstAt st n = some xs) (h : L2.atI xs p = some v) : Ok (RE.ofO (idxI (.ref n) (.int p) st)) st v := ok_ofO (by
  show (match lstAt st n with | some xs => (match L2.atI xs p with | some v => some (v, st) | none => none) | none => none) = _
  rw [hn]; simp only [h])
theorem ok_len : Ok (RE.ofO (lenI [.tup xs] st)) st (.int xs.length) := ok_ofO rfl
theorem ok_tupleT : Ok (RE.ofO (tupleI [.tup xs] st)) st (.tup xs) := ok_ofO rfl
theorem ok_sumT {ns : List Int} : Ok (RE.ofO (sumT [.tup (ns.map IV.int)] st)) st (.int ns.sum) := ok_ofO (sum_tup ns st)
theorem at_nat {xs : List IV} {j : Nat} {v : IV} (h : xs[j]? = some v) : L2.atI xs (j : Int) = some v := L2.atI_nat h
theorem pd_ints (os : List IO) (n : Nat) (xs : List Int) : pd os (n + 2) (.tup (xs.map IV.int)) = some (.tuple (xs.map PyData.int)) := by
  have h1 : ∀ xs : List Int, allSome (pd os (n + 1)) (xs.map IV.int) = some (xs.map PyData.int) := fun xs => by
    induction xs with
    | nil => rfl
    | cons p ps ih =>
      rw [List.map_cons]
      unfold allSome
      rw [show pd os (n + 1) (.int p) = some (.int p) from rfl, ih]; rfl
  show (match allSome (pd os (n + 1)) (xs.map IV.int) with
    | some ds => some (PyData.tuple ds)
    | none => none) = _
  rw [h1]
theorem eq_tup {xs : List IV} {d : PyData} (st : Sto) (h : pd st.os 63 (.tup xs) = some d) (hc : d.canLay0 = true) : eqI st (.tup xs) (.tup xs) = some true := by
  show (match pd st.os 63 (.tup xs) with
    | some d => match pd st.os 63 (.tup xs) with
      | some e => some (PyData.eqv d e)
      | none => none
    | none => none) = _
  rw [h]
  simp only
  rw [PySem.SeqAt.eqv_refl d hc]
theorem can_ints : ∀ xs : List Int, PyData.canLayAll0 (xs.map PyData.int) = true
  | [] => rfl
  | x :: xs => by
    rw [List.map_cons]
    simp only [PyData.canLayAll0, can_ints xs, PyData.canLay0, Bool.and_self]
theorem eq_ints (xs : List Int) (st : Sto) : eqI st (.tup (xs.map IV.int)) (.tup (xs.map IV.int)) = some true := eq_tup st (pd_ints st.os 61 xs) (by unfold PyData.canLay0; exact can_ints xs)
theorem eq_ints_nil (xs : List Int) (st : Sto) : eqI st (.tup (xs.map IV.int)) (.tup []) = some (xs.isEmpty) := by
  show (match pd st.os 63 (.tup (xs.map IV.int)) with
    | some d => match pd st.os 63 (.tup []) with
      | some e => some (PyData.eqv d e)
      | none => none
    | none => none) = _
  rw [pd_ints st.os 61 xs]
  cases xs with
  | nil => simp [pd, allSome, PyData.eqv, PyData.eqvAll]
  | cons x xs => simp [pd, allSome, PyData.eqv, PyData.eqvAll]
end
end PL

set_option Elab.async false
set_option linter.all false
set_option maxRecDepth 100000
set_option maxHeartbeats 4000000
/-! PL4: lists that grow by one item, cuts, sums. -/
namespace PL
open PySem PySem.Spec PyProof.Rows L2 PI
theorem seq_nx {s t : SemS} {env env' : IEnv} {st st' : Sto} (h : s env st = .nx env' st') : sSeq s t env st = t env' st' := by unfold sSeq; rw [h]; rfl
theorem app_eq {st : Sto} {n : Nat} {xs : List IV} {v : IV} (h : st.os[n]? = some (.lst xs)) (hl : xs.length < 100000) : appI n [v] st = some (.non, { os := st.os.set n (.lst (xs ++ [v])), low := st.low }) := by
  show (match st.os[n]? with
    | some (.lst xs) => bif Nat.blt xs.length lineI then some (IV.non, ({ os := st.os.set n (.lst (xs ++ [v])), low := st.low } : Sto)) else none
    | _ => none) = _
  rw [h]
  have : Nat.blt xs.length lineI = true := Nat.ble_eq_true_of_le hl
  simp only [this, cond_true]
theorem oks_app {env : IEnv} {st : Sto} {i n : Nat} {a : SemE} {v : IV} {xs : List IV} (he : env[i]? = some (some (.ref n))) (hn : st.os[n]? = some (.lst xs)) (ha : Ok (a env st) st v) (hl : xs.length < 100000) :
    ∃ st', sExpr (rMethL appI (rVar i) (rCons a rNil)) env st = .nx env { os := st'.os.set n (.lst (xs ++ [v])), low := st'.low } ∧ Gw st st' := by
  obtain ⟨s1, e1, g1⟩ := ha
  refine ⟨s1, ?_, g1⟩
  have hv : rVar i env st = .ok (.ref n) st := by unfold rVar; rw [he]
  have : rMethL appI (rVar i) (rCons a rNil) env st = .ok .non { os := s1.os.set n (.lst (xs ++ [v])), low := s1.low } := by
    unfold rMethL
    simp only [hv, RE.bind, lst_of hn, rCons, e1, rNil, app_eq (g1.get hn) hl, RE.ofO]
  unfold sExpr
  rw [this]; rfl
theorem set_get {os : List IO} {n : Nat} {o o' : IO} (h : os[n]? = some o) : (os.set n o')[n]? = some o' := List.getElem?_set_self (List.getElem?_eq_some_iff.mp h).1
theorem cut_take {xs : List IV} {j : Nat} : cutI xs none (some (j : Int)) = xs.take j := by
  unfold cutI
  rw [show HT.sIx xs.length 0 none = 0 from rfl, HT.sIx_nat, List.drop_zero, Nat.sub_zero]
  by_cases h : j ≤ xs.length
  · rw [Nat.min_eq_left h]
  · rw [Nat.min_eq_right (by omega), List.take_length, List.take_of_length_le (by omega)]
theorem cut_mid {xs : List IV} {i j : Nat} (hj : j ≤ xs.length) : cutI xs (some (i : Int)) (some (j : Int)) = (xs.drop i).take (j - i) := by
  unfold cutI
  rw [HT.sIx_nat, HT.sIx_nat, Nat.min_eq_left hj]
  by_cases h : i ≤ xs.length
  · rw [Nat.min_eq_left h]
  · rw [Nat.min_eq_right (by omega)]
    rw [show j - xs.length = 0 by omega, show j - i = 0 by omega]; simp
theorem sum_le {B : Int} : ∀ {xs : List Int}, (∀ x ∈ xs, 0 ≤ x ∧ x ≤ B) → 0 ≤ xs.sum ∧ xs.sum ≤ B * (xs.length : Nat)
  | [], _ => by simp
  | x :: xs, h => by
    have h1 := h x List.mem_cons_self
    have h2 := sum_le fun y hy => h y (List.mem_cons_of_mem _ hy)
    rw [List.sum_cons, List.length_cons]
    have : B * ((xs.length + 1 : Nat) : Int) = B * (xs.length : Nat) + B := by rw [Int.natCast_add]; rw [Int.mul_add]; simp
    omega
theorem range_mem {n k : Nat} (h : k ∈ List.range n) : k < n := List.mem_range.mp h
theorem take_sum_succ {xs : List Int} {j : Nat} {x : Int} (h : xs[j]? = some x) : (xs.take (j + 1)).sum = (xs.take j).sum + x := by
  rw [List.take_succ, h]; simp
theorem gw_lst {st st' : Sto} {n : Nat} {xs : List IV} (g : Gw st st') (h : st.os[n]? = some (.lst xs)) : lstAt st' n = some xs := lst_of (g.get h)
end PL

set_option Elab.async false
set_option linter.all false
set_option maxRecDepth 100000
set_option maxHeartbeats 4000000
namespace law_k18
open PySem PySem.Spec PyProof.Rows L2 PI PL
local macro_rules | `(tactic| trivial) => `(tactic| first
  | exact ok_c
  | ((with_reducible show Ok (rVar _ _ _) _ _); exact ok_var (by rfl))
  | exact ok_nil
  | ((with_reducible show Ok (RE.ofO _) _ _); first
    | with_reducible exact ok_add | with_reducible exact ok_sub | with_reducible exact ok_neg | with_reducible exact ok_lt | with_reducible exact ok_gt | with_reducible exact ok_le | with_reducible exact ok_ge
    | with_reducible exact ok_eqi | with_reducible exact ok_nei | with_reducible exact ok_len | with_reducible exact ok_tupleT | exact ok_ofO (by rfl))
  | ((with_reducible show Ok (rCons _ _ _ _) _ _); exact ok_cons (by trivial) (fun _ _ => by trivial))
  | ((with_reducible show Ok (rBin _ _ _ _ _) _ _); exact ok_bin (by trivial) (fun _ _ => by trivial) (fun _ _ => by trivial))
  | ((with_reducible show Ok (rUn _ _ _ _) _ _); exact ok_un (by trivial) (fun _ _ => by trivial))
  | ((with_reducible show Ok (rCall _ _ _ _) _ _); exact ok_call (by trivial) (fun _ _ => by trivial))
  | ((with_reducible show Ok (rDef _ _ _ _) _ _); exact ok_def (by trivial) (fun _ _ => by trivial))
  | ((with_reducible show Ok (rTup _ _ _) _ _); exact ok_tup (by trivial) (by simp))
  | ((with_reducible show Ok (rTBl _ _ _) _ _); exact ok_tbl (by trivial))
  | ((with_reducible show Ok (rTNot _ _ _) _ _); exact ok_tnot (by trivial))
  | ((with_reducible show Ok (rTOr _ _ _ _) _ _); exact ok_tor (by trivial) (fun _ _ _ => by trivial))
  | ((with_reducible show Ok (rTru _ _ _) _ _); exact ok_trub (by trivial))
  | assumption)
def itup (xs : List Int) : IV := .tup (xs.map IV.int)
def plan (ss cs : List Int) : IV := .tup [itup ss, itup cs]
structure PlanOk (ss cs : List Int) : Prop where
  len : cs.length = ss.length
  lo : 1 ≤ ss.length
  hi : ss.length ≤ 60
  s : ∀ s ∈ ss, 1 ≤ s ∧ s ≤ 1000
  c : ∀ c ∈ cs, 0 ≤ c ∧ c ≤ 10000
theorem d_is_whole_int (i : Int) (st : Sto) : d_is_whole [.int i] st = .ok (.bl true) st := rfl
theorem from_ok (i lo hi : Int) (st : Sto) : d_is_from [.int i, .int lo, .int hi] st = .ok (.bl (decide (lo ≤ i) && decide (i ≤ hi))) st := by
  have e : d_is_from [.int i, .int lo, .int hi] st = (match decide (lo ≤ i) with | true => RE.ok (.bl (decide (i ≤ hi))) st | false => .ok (.bl false) st) := by
    unfold d_is_from r_is_from
    simp only [callI, startI, List.map_cons, List.map_nil, List.length_cons, List.length_nil, Nat.reduceAdd, Nat.reduceSub, List.replicate_one, List.cons_append, List.nil_append, List.replicate, List.append_nil, sRet, rAnd, rDef, rCons, rNil, rVar, List.getElem?_cons_zero, List.getElem?_cons_succ, RE.bind, d_is_whole_int, truI, rChain, cLe, leI, blO, RE.ofO, RS.ofE]
    cases decide (lo ≤ i) <;> rfl
  rw [e]
  cases decide (lo ≤ i) <;> rfl
theorem from_yes {i lo hi : Int} (h : lo ≤ i) (h' : i ≤ hi) (st : Sto) : Ok (d_is_from [.int i, .int lo, .int hi] st) st (.bl true) := .same (by rw [from_ok, decide_eq_true h, decide_eq_true h']; rfl)
local macro_rules | `(tactic| trivial) => `(tactic| ((with_reducible show Ok (d_is_from _ _) _ _); exact from_yes (by omega) (by omega) _))
theorem many2 (x y : IV) (st : Sto) : Ok (d_is_many [.tup [x, y], .int 2] st) st (.bl true) := .same rfl
local macro_rules | `(tactic| trivial) => `(tactic| ((with_reducible show Ok (d_is_many _ _) _ _); exact many2 _ _ _))
theorem all_L {κ : Type} {e : SemE} {env : IEnv} {st : Sto} {ks : List κ} {f : κ → Bool} (h : OkL (e env st) st (ks.map fun k => .bl (f k))) : Ok (rCall allI (rCons e rNil) env st) st (.bl (ks.all f)) := call_L h fun n s hl => all_lst hl
theorem any_L {κ : Type} {e : SemE} {env : IEnv} {st : Sto} {ks : List κ} {f : κ → Bool} (h : OkL (e env st) st (ks.map fun k => .bl (f k))) : Ok (rCall anyI (rCons e rNil) env st) st (.bl (ks.any f)) := call_L h fun n s hl => any_lst hl
theorem tup_L {e : SemE} {env : IEnv} {st : Sto} {xs : List IV} (h : OkL (e env st) st xs) : Ok (rCall tupleI (rCons e rNil) env st) st (.tup xs) := call_L h fun n s hl => tup_lst hl
theorem plan_ok {ss cs : List Int} (P : PlanOk ss cs) (st : Sto) : Ok (d_is_plan [plan ss cs] st) st (.bl true) := by
  unfold d_is_plan r_is_plan
  refine ok_fn (okr_seq (env' := startI 5 [plan ss cs]) (oks_chk (Ok.eq (ok_tor (ok_tnot (ok_trub (k := true) ?_)) fun s1 _ _ => ok_tor (ok_tnot (ok_trub (k := true) ?_)) fun s2 _ _ => ok_tnot (ok_tbl (k := true) ?_)) rfl)) fun s1 _ => okr_seq (env' := [some (plan ss cs), some (itup ss), some (itup cs), none, none]) (oks_asg (v := plan ss cs) (ok_var rfl) fun _ _ => rfl) fun s2 _ => okr_ret (Ok.eq (ok_and (k := true) ?_ fun s3 _ _ => ok_and (k := true) ?_ fun s4 _ _ => (?_ : Ok _ _ (IV.bl true))) rfl))
  · trivial
  · exact all_L (ks := [itup ss, itup cs]) (f := fun _ => true) (lc_yes id (fun k => (wipeI (startI 5 [plan ss cs]) [3]).set 3 (some k)) (fun _ => .bl true) [itup ss, itup cs] rfl (.refl _) (by simp) (fun _ _ => rfl) fun k hk s _ => by
      refine Ok.eq (ok_isT (t := .tup) (ok_var (v := k) rfl) fun _ _ => ?_) rfl
      rcases List.mem_cons.mp hk with rfl | hk
      · rfl
      · rcases List.mem_cons.mp hk with rfl | hk
        · rfl
        · cases hk)
  · refine Ok.eq (ok_chain (x := .int 1) (y := .int ss.length) (z := .int 60) (k := true) (l := true) (ok_c) (fun _ _ => ?_) (fun _ _ => ?_) (fun _ _ => ok_c) (fun _ _ => ?_)) rfl
    · refine ok_call (xs := [itup ss]) (ok_cons (ok_bin (x := plan ss cs) (ok_var rfl) (fun _ _ => ok_c) fun _ _ => ok_ofO rfl) fun _ _ => ok_nil) fun _ _ => ok_ofO ?_
      show some (IV.int ((ss.map IV.int).length : Nat), _) = _
      rw [List.length_map]
    · rw [le_eq, decide_eq_true (by have := P.lo; omega)]
    · rw [le_eq, decide_eq_true (by have := P.hi; omega)]
  · refine Ok.eq (ok_bin (x := .int cs.length) (y := .int ss.length) (ok_call (xs := [itup cs]) (ok_cons (ok_var rfl) fun _ _ => ok_nil) fun _ _ => ok_ofO ?_) (fun _ _ => ok_call (xs := [itup ss]) (ok_cons (ok_var rfl) fun _ _ => ok_nil) fun _ _ => ok_ofO ?_) fun _ _ => ok_eqi) ?_
    · show some (IV.int ((cs.map IV.int).length : Nat), _) = _
      rw [List.length_map]
    · show some (IV.int ((ss.map IV.int).length : Nat), _) = _
      rw [List.length_map]
    · rw [decide_eq_true (by rw [P.len])]
  · refine Ok.eq (all_L (ks := ss) (f := fun _ => true) (lc_yes IV.int (fun k => (wipeI [some (plan ss cs), some (itup ss), some (itup cs), none, none] [4]).set 4 (some (.int k))) (fun _ => .bl true) ss rfl (.refl _) (by have := P.hi; omega) (fun _ _ => rfl) fun k hk s _ => ?_)) ?_
    · have := P.s k hk
      trivial
    · simp
  · refine Ok.eq (all_L (ks := cs) (f := fun _ => true) (lc_yes IV.int (fun k => (wipeI [some (plan ss cs), some (itup ss), some (itup cs), none, none] [4]).set 4 (some (.int k))) (fun _ => .bl true) cs rfl (.refl _) (by have := P.hi; have := P.len; omega) (fun _ _ => rfl) fun k hk s _ => ?_)) ?_
    · have := P.c k hk
      trivial
    · simp
local macro_rules | `(tactic| trivial) => `(tactic| ((with_reducible show Ok (d_is_plan _ _) _ _); exact plan_ok (by assumption) _))
theorem check_ok {ss cs : List Int} (P : PlanOk ss cs) {t : Int} (h1 : 1 ≤ t) (h2 : t ≤ 100) (st : Sto) : Ok (d_check_plan [plan ss cs, .int t] st) st .non := by
  unfold d_check_plan r_check_plan
  refine ok_fnN (oks_seq (env' := startI 2 [plan ss cs, .int t]) (oks_chk (Ok.eq (ok_tnot (ok_trub (k := true) ?_)) rfl)) fun s1 _ => oks_chk (Ok.eq (ok_tnot (ok_trub (k := true) ?_)) rfl))
  · trivial
  · trivial
local macro_rules | `(tactic| trivial) => `(tactic| ((with_reducible show Ok (d_check_plan _ _) _ _); exact check_ok (by assumption) (by omega) (by omega) _))
theorem hear_ok {ss cs : List Int} (P : PlanOk ss cs) {t l m : Int} (h1 : 1 ≤ t) (h2 : t ≤ 100) (h3 : 1 ≤ l) (h4 : l ≤ 60) (h5 : 0 ≤ m) (h6 : m ≤ 10 ^ 7) (st : Sto) : Ok (d_check_hearing [plan ss cs, .int t, .int l, .int m] st) st .non := by
  unfold d_check_hearing r_check_hearing
  refine ok_fnN (oks_seq (env' := startI 4 [plan ss cs, .int t, .int l, .int m]) (oks_expr (v := .non) ?_) fun s1 _ => oks_seq (env' := startI 4 [plan ss cs, .int t, .int l, .int m]) (oks_chk (Ok.eq (ok_tnot (ok_trub (k := true) ?_)) rfl)) fun s1 _ => oks_chk (Ok.eq (ok_tnot (ok_trub (k := true) ?_)) rfl))
  · trivial
  · trivial
  · trivial
local macro_rules | `(tactic| trivial) => `(tactic| ((with_reducible show Ok (d_check_hearing _ _) _ _); exact hear_ok (by assumption) (by omega) (by omega) (by omega) (by omega) (by omega) (by omega) _))
end law_k18

set_option Elab.async false
set_option linter.all false
set_option maxRecDepth 100000
set_option maxHeartbeats 4000000
namespace law_k18
open PySem PySem.Spec PyProof.Rows L2 PI PL
local macro_rules | `(tactic| trivial) => `(tactic| first
  | exact ok_c
  | ((with_reducible show Ok (rVar _ _ _) _ _); exact ok_var (by rfl))
  | exact ok_nil
  | ((with_reducible show Ok (RE.ofO _) _ _); first
    | with_reducible exact ok_add | with_reducible exact ok_sub | with_reducible exact ok_neg | with_reducible exact ok_lt | with_reducible exact ok_gt | with_reducible exact ok_le | with_reducible exact ok_ge
    | with_reducible exact ok_eqi | with_reducible exact ok_nei | with_reducible exact ok_len | with_reducible exact ok_tupleT | exact ok_ofO (by rfl))
  | ((with_reducible show Ok (rCons _ _ _ _) _ _); exact ok_cons (by trivial) (fun _ _ => by trivial))
  | ((with_reducible show Ok (rBin _ _ _ _ _) _ _); exact ok_bin (by trivial) (fun _ _ => by trivial) (fun _ _ => by trivial))
  | ((with_reducible show Ok (rUn _ _ _ _) _ _); exact ok_un (by trivial) (fun _ _ => by trivial))
  | ((with_reducible show Ok (rCall _ _ _ _) _ _); exact ok_call (by trivial) (fun _ _ => by trivial))
  | ((with_reducible show Ok (rDef _ _ _ _) _ _); exact ok_def (by trivial) (fun _ _ => by trivial))
  | ((with_reducible show Ok (rTup _ _ _) _ _); exact ok_tup (by trivial) (by simp))
  | ((with_reducible show Ok (rTBl _ _ _) _ _); exact ok_tbl (by trivial))
  | ((with_reducible show Ok (rTNot _ _ _) _ _); exact ok_tnot (by trivial))
  | ((with_reducible show Ok (rTOr _ _ _ _) _ _); exact ok_tor (by trivial) (fun _ _ _ => by trivial))
  | ((with_reducible show Ok (rTru _ _ _) _ _); exact ok_trub (by trivial))
  | assumption)
local macro_rules | `(tactic| trivial) => `(tactic| ((with_reducible show Ok (d_is_from _ _) _ _); exact from_yes (by omega) (by omega) _))
local macro_rules | `(tactic| trivial) => `(tactic| ((with_reducible show Ok (d_is_many _ _) _ _); exact many2 _ _ _))
local macro_rules | `(tactic| trivial) => `(tactic| ((with_reducible show Ok (d_is_plan _ _) _ _); exact plan_ok (by assumption) _))
local macro_rules | `(tactic| trivial) => `(tactic| ((with_reducible show Ok (d_check_plan _ _) _ _); exact check_ok (by assumption) (by omega) (by omega) _))
local macro_rules | `(tactic| trivial) => `(tactic| ((with_reducible show Ok (d_check_hearing _ _) _ _); exact hear_ok (by assumption) (by omega) (by omega) (by omega) (by omega) (by omega) (by omega) _))
/-- when the first j blocks are heard -/
def Hj (t m : Int) (ss : List Int) (j : Nat) : Int := m + t * (ss.take j).sum
def heardL (t m : Int) (ss : List Int) : List Int := (List.range (ss.length + 1)).map (Hj t m ss)
theorem Hj_succ {t m : Int} {ss : List Int} {j : Nat} {x : Int} (h : ss[j]? = some x) : Hj t m ss (j + 1) = Hj t m ss j + t * x := by
  unfold Hj
  rw [take_sum_succ h, Int.mul_add]; omega
theorem mem_mid {α : Type} {xs pre rest : List α} {k : α} (h : xs = pre ++ k :: rest) : xs[pre.length]? = some k ∧ k ∈ xs ∧ pre.length < xs.length := by
  subst h
  exact ⟨by simp, by simp, by simp⟩
theorem heard_ok {ss cs : List Int} (P : PlanOk ss cs) {t m : Int} (h1 : 1 ≤ t) (h2 : t ≤ 100) (h5 : 0 ≤ m) (h6 : m ≤ 10 ^ 7) (st : Sto) : Ok (d_heard_times [plan ss cs, .int t, .int m] st) st (itup (heardL t m ss)) := by
  unfold d_heard_times r_heard_times
  refine ok_fn (okr_seq (env' := startI 5 [plan ss cs, .int t, .int m]) (oks_expr (v := .non) ?_) fun s1 g1 => ?_)
  · trivial
  · have l0 : sAsg (rLst (rCons (rVar 2) rNil)) (gN 3) (startI 5 [plan ss cs, .int t, .int m]) s1 = .nx [some (plan ss cs), some (.int t), some (.int m), some (.ref s1.os.length), none] { os := s1.os ++ [.lst [.int m]], low := s1.low } := rfl
    have hfor : ∃ env' st', sFor (fSeq (rBin idxI (rVar 0) (rC (.int (0))))) (gN 4) (sExpr (rMethL appI (rVar 3) (rCons (rBin addI (rBin idxI (rVar 3) (rUn negI (rC (.int (1))))) (rBin mulT (rVar 1) (rVar 4))) rNil))) [some (plan ss cs), some (.int t), some (.int m), some (.ref s1.os.length), none] { os := s1.os ++ [.lst [.int m]], low := s1.low } = .nx env' st' ∧
        ∃ e4, env' = [some (plan ss cs), some (.int t), some (.int m), some (.ref s1.os.length), e4] ∧ Gw s1 st' ∧ st'.os[s1.os.length]? = some (.lst ((List.range (ss.length + 1)).map fun j => .int (Hj t m ss j))) := by
      refine for_inv (gN 4) _ IV.int (fun pre env st => ∃ e4, env = [some (plan ss cs), some (.int t), some (.int m), some (.ref s1.os.length), e4] ∧ Gw s1 st ∧ st.os[s1.os.length]? = some (.lst ((List.range (pre.length + 1)).map fun j => .int (Hj t m ss j)))) ss [] _ _ ⟨none, rfl, .alloc _ _, ?_⟩ ?_
      · rw [new_get]
        simp [Hj]
      · rintro pre k rest hq env st ⟨e4, rfl, g, hn⟩
        rw [List.nil_append] at hq
        obtain ⟨hk, hm, hlt⟩ := mem_mid hq
        refine ⟨_, _, rfl, ?_⟩
        have hle := P.hi
        have hs := P.s k hm
        have hv : Ok (rBin addI (rBin idxI (rVar 3) (rUn negI (rC (.int (1))))) (rBin mulT (rVar 1) (rVar 4)) [some (plan ss cs), some (.int t), some (.int m), some (.ref s1.os.length), some (.int k)] st) st (.int (Hj t m ss (pre.length + 1))) := by
          refine Ok.eq (ok_bin (x := .int (Hj t m ss pre.length)) (y := .int (t * k)) ?_ (fun s2 g2 => ?_) fun _ _ => ok_add) (by rw [Hj_succ hk])
          · refine ok_bin (x := .ref s1.os.length) (y := .int (-1)) (ok_var rfl) (fun _ _ => ok_un ok_c fun _ _ => ok_neg) fun s2 g2 => ok_idxL (gw_lst g2 hn) ?_
            rw [List.range_succ, List.map_append]
            exact atI_last _ _
          · refine ok_bin (x := .int t) (y := .int k) (ok_var rfl) (fun _ _ => ok_var rfl) fun _ _ => ok_mul (sm_of (by omega)) (sm_of (by omega))
        obtain ⟨s2, e2, g2⟩ := oks_app (env := [some (plan ss cs), some (.int t), some (.int m), some (.ref s1.os.length), some (.int k)]) (i := 3) rfl hn hv (by simp; omega)
        refine ⟨_, _, e2, _, rfl, (g.trans g2).set (Nat.le_refl _) _, ?_⟩
        rw [set_get (g2.get hn)]
        simp [List.range_succ]
    obtain ⟨env', s3, e3, e4, rfl, g3, hl⟩ := hfor
    refine ⟨s3, ?_, g3⟩
    rw [seq_nx l0, seq_nx e3]
    show sRet _ _ _ = _
    unfold sRet
    have : rCall tupleI (rCons (rVar 3) rNil) [some (plan ss cs), some (.int t), some (.int m), some (.ref s1.os.length), e4] s3 = .ok (itup (heardL t m ss)) s3 := by
      have hv : rVar 3 [some (plan ss cs), some (.int t), some (.int m), some (.ref s1.os.length), e4] s3 = .ok (.ref s1.os.length) s3 := rfl
      unfold rCall
      simp only [rCons, hv, RE.bind, rNil, tup_lst (lst_of hl), RE.ofO]
      unfold itup heardL
      rw [List.map_map]; rfl
    rw [this]; rfl
theorem lheard_ok {ss cs : List Int} (P : PlanOk ss cs) {t m : Int} (h1 : 1 ≤ t) (h2 : t ≤ 100) (st : Sto) : OkL (d__law_heard [plan ss cs, .int t, .int m] st) st ((heardL t m ss).map IV.int) := by
  unfold d__law_heard r__law_heard
  refine okl_fn (e := _) ?_ rfl
  have hle := P.hi
  have := lc_yes (it := fRng1 (rCons (rBin addI (rCall lenI (rCons (rBin idxI (rVar 0) (rC (.int (0)))) rNil)) (rC (.int (1)))) rNil)) (ct := .one 3) (vs := [3]) (te := rBin addI (rVar 2) (rBin mulT (rVar 1) (rCall sumT (rCons (rSl (rBin idxI (rVar 0) (rC (.int (0)))) rNoPart (rPart (rVar 3))) rNil))))
    (env := startI 4 [plan ss cs, .int t, .int m]) (st0 := st) (st := st) (fun j : Nat => IV.int j) (fun k => (wipeI (startI 4 [plan ss cs, .int t, .int m]) [3]).set 3 (some (.int (k : Nat)))) (fun j => IV.int (Hj t m ss j)) (List.range (ss.length + 1)) ?_ (.refl _) (by simp; omega) (fun _ _ => rfl) ?_
  · unfold heardL
    rw [List.map_map]
    exact this
  · refine rng1 (ss.length + 1) ?_ (by omega)
    have hlen : lenI [itup ss] st = some (.int ss.length, st) := by
      show some (IV.int ((ss.map IV.int).length : Nat), _) = _
      rw [List.length_map]
    have i0 : idxI (plan ss cs) (.int 0) st = some (itup ss, st) := rfl
    have hv : rVar 0 (startI 4 [plan ss cs, .int t, .int m]) st = .ok (plan ss cs) st := rfl
    simp only [rCons, rBin, rCall, hv, RE.bind, rC, i0, RE.ofO, rNil, hlen, add_ok]
    rfl
  · intro k hk s g
    have hk := range_mem hk
    refine ok_bin (x := .int m) (y := .int (t * (ss.take k).sum)) (ok_var rfl) (fun _ _ => ?_) fun _ _ => ok_add
    refine ok_bin (x := .int t) (y := .int ((ss.take k).sum)) (ok_var rfl) (fun _ _ => ?_) fun _ _ => ok_mul (sm_of (by omega)) ?_
    · refine ok_call (xs := [itup (ss.take k)]) (ok_cons ?_ fun _ _ => ok_nil) fun _ _ => ok_sumT
      refine Ok.eq (ok_slTo (xs := ss.map IV.int) (n := (k : Int)) (ok_bin (x := plan ss cs) (y := .int 0) (ok_var rfl) (fun _ _ => ok_c) fun _ _ => ok_ofO rfl) fun _ _ => ok_var rfl) ?_
      rw [cut_take, ← List.map_take]; rfl
    · have := sum_le (B := 1000) (xs := ss.take k) fun x hx => by
        have := P.s x (List.mem_of_mem_take hx)
        omega
      have hl : (ss.take k).length ≤ 60 := by rw [List.length_take]; omega
      exact sm_of (by omega)
end law_k18

set_option Elab.async false
set_option linter.all false
set_option maxRecDepth 100000
set_option maxHeartbeats 4000000
namespace law_k18
open PySem PySem.Spec PyProof.Rows L2 PI PL
local macro_rules | `(tactic| trivial) => `(tactic| first
  | exact ok_c
  | ((with_reducible show Ok (rVar _ _ _) _ _); exact ok_var (by rfl))
  | exact ok_nil
  | ((with_reducible show Ok (RE.ofO _) _ _); first
    | with_reducible exact ok_add | with_reducible exact ok_sub | with_reducible exact ok_neg | with_reducible exact ok_lt | with_reducible exact ok_gt | with_reducible exact ok_le | with_reducible exact ok_ge
    | with_reducible exact ok_eqi | with_reducible exact ok_nei | with_reducible exact ok_len | with_reducible exact ok_tupleT | exact ok_ofO (by rfl))
  | ((with_reducible show Ok (rCons _ _ _ _) _ _); exact ok_cons (by trivial) (fun _ _ => by trivial))
  | ((with_reducible show Ok (rBin _ _ _ _ _) _ _); exact ok_bin (by trivial) (fun _ _ => by trivial) (fun _ _ => by trivial))
  | ((with_reducible show Ok (rUn _ _ _ _) _ _); exact ok_un (by trivial) (fun _ _ => by trivial))
  | ((with_reducible show Ok (rCall _ _ _ _) _ _); exact ok_call (by trivial) (fun _ _ => by trivial))
  | ((with_reducible show Ok (rDef _ _ _ _) _ _); exact ok_def (by trivial) (fun _ _ => by trivial))
  | ((with_reducible show Ok (rTup _ _ _) _ _); exact ok_tup (by trivial) (by simp))
  | ((with_reducible show Ok (rTBl _ _ _) _ _); exact ok_tbl (by trivial))
  | ((with_reducible show Ok (rTNot _ _ _) _ _); exact ok_tnot (by trivial))
  | ((with_reducible show Ok (rTOr _ _ _ _) _ _); exact ok_tor (by trivial) (fun _ _ _ => by trivial))
  | ((with_reducible show Ok (rTru _ _ _) _ _); exact ok_trub (by trivial))
  | assumption)
local macro_rules | `(tactic| trivial) => `(tactic| ((with_reducible show Ok (d_is_from _ _) _ _); exact from_yes (by omega) (by omega) _))
local macro_rules | `(tactic| trivial) => `(tactic| ((with_reducible show Ok (d_is_many _ _) _ _); exact many2 _ _ _))
local macro_rules | `(tactic| trivial) => `(tactic| ((with_reducible show Ok (d_is_plan _ _) _ _); exact plan_ok (by assumption) _))
local macro_rules | `(tactic| trivial) => `(tactic| ((with_reducible show Ok (d_check_plan _ _) _ _); exact check_ok (by assumption) (by omega) (by omega) _))
local macro_rules | `(tactic| trivial) => `(tactic| ((with_reducible show Ok (d_check_hearing _ _) _ _); exact hear_ok (by assumption) (by omega) (by omega) (by omega) (by omega) (by omega) (by omega) _))
/-- when the block before the place k is played out -/
def Pk (t m : Int) (l : Nat) (ss cs : List Int) : Nat → Int
  | 0 => 0
  | k + 1 => max (Pk t m l ss cs k) (if l ≤ k then Hj t m ss (k - l + 1) else 0) + cs.getD k 0
def playedL (t m : Int) (l : Nat) (ss cs : List Int) : List Int := (List.range ss.length).map fun k => Pk t m l ss cs (k + 1)
theorem maxL2 (a b : Int) : maxL a [b] = max a b := by
  show (if a < b then b else a) = max a b
  omega
theorem max2_L {x y : SemE} {env : IEnv} {st : Sto} {a b : Int} (h : Ok (x env st) st (.int a)) (h2 : ∀ st1, Gw st st1 → Ok (y env st1) st1 (.int b)) : Ok (rCall maxI (rCons (rLst (rCons x (rCons y rNil))) rNil) env st) st (.int (max a b)) :=
  call_L (ok_lst (ok_cons h fun s g => ok_cons (h2 s g) fun _ _ => ok_nil) (by simp)) fun n s hl => by
    show (match lstAt s n with | some xs => (match intsOf xs with | some (m :: ns) => some (IV.int (maxL m ns), s) | _ => none) | none => none) = _
    rw [hl]
    show some (IV.int (maxL a [b]), s) = _
    rw [maxL2]
theorem pd_list {st : Sto} {n : Nat} {ys : List Int} (h : lstAt st n = some (ys.map IV.int)) (k : Nat) : pd st.os (k + 2) (.ref n) = some (.list (ys.map PyData.int)) := by
  have h' : lstAt ⟨st.os, 0⟩ n = some (ys.map IV.int) := h
  have h1 : ∀ xs : List Int, allSome (pd st.os (k + 1)) (xs.map IV.int) = some (xs.map PyData.int) := fun xs => by
    induction xs with
    | nil => rfl
    | cons p ps ih =>
      rw [List.map_cons]
      unfold allSome
      rw [show pd st.os (k + 1) (.int p) = some (.int p) from rfl, ih]; rfl
  show (match lstAt ⟨st.os, 0⟩ n with
    | some xs => match allSome (pd st.os (k + 1)) xs with
      | some ds => some (PyData.list ds)
      | none => none
    | none => none) = _
  rw [h']
  simp only [h1]
theorem ne_nil_L {env : IEnv} {st : Sto} {i n : Nat} {ys : List Int} (he : env[i]? = some (some (.ref n))) (hn : lstAt st n = some (ys.map IV.int)) : Ok (rBin cNe (rVar i) (rLst rNil) env st) st (.bl (!ys.isEmpty)) := by
  obtain ⟨m, s1, e1, g1, hl⟩ := (ok_lst (ok_nil (env := env) (st := st)) (by simp) : OkL (rLst rNil env st) st [])
  refine ⟨s1, ?_, g1⟩
  have hv : rVar i env st = .ok (.ref n) st := by unfold rVar; rw [he]
  have he : eqI s1 (.ref n) (.ref m) = some ys.isEmpty := by
    show (match pd s1.os 63 (.ref n) with
      | some d => match pd s1.os 63 (.ref m) with
        | some e => some (PyData.eqv d e)
        | none => none
      | none => none) = _
    rw [pd_list (g1.lst hn) 61, pd_list (ys := []) hl 61]
    cases ys with
    | nil => simp [PyData.eqv, PyData.eqvAll]
    | cons x xs => simp [PyData.eqv, PyData.eqvAll]
  have hc : cNe (.ref n) (.ref m) s1 = some (.bl (!ys.isEmpty), s1) := by
    show blN (eqI s1 (.ref n) (.ref m)) s1 = _
    rw [he]; rfl
  unfold rBin
  simp only [hv, RE.bind, e1, hc, RE.ofO]
/-- played[-1] if played != [] else 0 -/
theorem prev_ok {env : IEnv} {st : Sto} {n j : Nat} (F : Nat → Int) (h0 : F 0 = 0) (he : env[5]? = some (some (.ref n))) (hn : st.os[n]? = some (.lst ((List.range j).map fun i => .int (F (i + 1))))) :
    Ok (rIfE (rTBl (rBin cNe (rVar 5) (rLst rNil))) (rBin idxI (rVar 5) (rUn negI (rC (.int (1))))) (rC (.int (0))) env st) st (.int (F j)) := by
  have hl : lstAt st n = some (((List.range j).map fun i => F (i + 1)).map IV.int) := by
    rw [List.map_map]; exact lst_of hn
  have hc := ok_tbl (ne_nil_L he hl)
  cases j with
  | zero => exact ok_ifF (hc.eq rfl) fun _ _ => by rw [h0]; exact ok_c
  | succ j =>
    refine ok_ifT (hc.eq (by simp [List.range_succ])) fun s g => ?_
    refine ok_bin (x := .ref n) (y := .int (-1)) (ok_var he) (fun _ _ => ok_un ok_c fun _ _ => ok_neg) fun s2 g2 => ok_idxL (gw_lst (g.trans g2) hn) ?_
    rw [List.range_succ, List.map_append]
    exact atI_last _ _
theorem heard_at {t m : Int} {ss : List Int} {k l : Nat} (hk : k < ss.length) (hl : 1 ≤ l) (h : l ≤ k) : L2.atI ((heardL t m ss).map IV.int) ((k : Int) - (l : Int) + 1) = some (.int (Hj t m ss (k - l + 1))) := by
  rw [show ((k : Int) - (l : Int) + 1) = ((k - l + 1 : Nat) : Int) by omega]
  refine at_nat ?_
  unfold heardL
  rw [List.map_map, List.getElem?_map, List.getElem?_range (by omega)]
  rfl
theorem range_pre {n : Nat} {pre rest : List Nat} {k : Nat} (h : List.range n = pre ++ k :: rest) : k = pre.length ∧ k < n := by
  obtain ⟨h1, h2, h3⟩ := mem_mid h
  have h4 : pre.length < n := by simpa using h3
  rw [List.getElem?_range h4] at h1
  have := Option.some.inj h1
  omega
theorem cs_at {ss cs : List Int} (P : PlanOk ss cs) {k : Nat} (hk : k < ss.length) : cs[k]? = some (cs.getD k 0) := by
  have : k < cs.length := by rw [P.len]; exact hk
  rw [List.getD_eq_getElem?_getD, List.getElem?_eq_getElem this]; rfl
/-- the turn of the played times -/
abbrev bPl : SemS := (sSeq (sAsg (rIfE (rTBl (rBin cNe (rVar 5) (rLst rNil))) (rBin idxI (rVar 5) (rUn negI (rC (.int (1))))) (rC (.int (0)))) (gN 8))
    (sSeq (sAsg (rIfE (rTBl (rBin cGe (rVar 6) (rVar 2))) (rBin idxI (rVar 4) (rBin addI (rBin subI (rVar 6) (rVar 2)) (rC (.int (1))))) (rC (.int (0)))) (gN 9))
    (sExpr (rMethL appI (rVar 5) (rCons (rBin addI (rCall maxI (rCons (rLst (rCons (rVar 8) (rCons (rVar 9) rNil))) rNil)) (rVar 7)) rNil)))))
theorem played_ok {ss cs : List Int} (P : PlanOk ss cs) {t m : Int} {l : Nat} (h1 : 1 ≤ t) (h2 : t ≤ 100) (h3 : 1 ≤ l) (h4 : l ≤ 60) (h5 : 0 ≤ m) (h6 : m ≤ 10 ^ 7) (st : Sto) : Ok (d_played_times [plan ss cs, .int t, .int l, .int m] st) st (itup (playedL t m l ss cs)) := by
  unfold d_played_times r_played_times
  refine ok_fn (okr_seq (env' := startI 10 [plan ss cs, .int t, .int l, .int m]) (oks_expr (v := .non) ?_) fun s0 g0 => ?_)
  · trivial
  · obtain ⟨s1, e1, g1⟩ := heard_ok P h1 h2 h5 h6 s0
    have hle := P.hi
    have l0 : sPar 4 5 (rCons (rDef d_heard_times (rCons (rVar 0) (rCons (rVar 1) (rCons (rVar 3) rNil)))) (rCons (rLst rNil) rNil)) (startI 10 [plan ss cs, .int t, .int l, .int m]) s0 = .nx [some (plan ss cs), some (.int t), some (.int l), some (.int m), some (itup (heardL t m ss)), some (.ref s1.os.length), none, none, none, none] { os := s1.os ++ [.lst []], low := s1.low } := by
      have a0 : rVar 0 (startI 10 [plan ss cs, .int t, .int l, .int m]) s0 = .ok (plan ss cs) s0 := rfl
      have a1 : rVar 1 (startI 10 [plan ss cs, .int t, .int l, .int m]) s0 = .ok (.int t) s0 := rfl
      have a3 : rVar 3 (startI 10 [plan ss cs, .int t, .int l, .int m]) s0 = .ok (.int m) s0 := rfl
      have al : rLst rNil (startI 10 [plan ss cs, .int t, .int l, .int m]) s1 = .ok (.ref s1.os.length) { os := s1.os ++ [.lst []], low := s1.low } := rfl
      unfold sPar
      simp only [rCons, rDef, a0, a1, a3, RE.bind, rNil, e1, al, RS.ofE]
      rfl
    have hfor : ∃ env' st', sFor (fEnum (rCons (rBin idxI (rVar 0) (rC (.int (1)))) rNil)) (gT 2 (gsCons (gN 6) (gsCons (gN 7) gsNil))) bPl [some (plan ss cs), some (.int t), some (.int l), some (.int m), some (itup (heardL t m ss)), some (.ref s1.os.length), none, none, none, none] { os := s1.os ++ [.lst []], low := s1.low } = .nx env' st' ∧
        ∃ e6 e7 e8 e9, env' = [some (plan ss cs), some (.int t), some (.int l), some (.int m), some (itup (heardL t m ss)), some (.ref s1.os.length), e6, e7, e8, e9] ∧ Gw s1 st' ∧ st'.os[s1.os.length]? = some (.lst ((List.range ss.length).map fun j => .int (Pk t m l ss cs (j + 1)))) := by
      have hw : ∀ b env st, sFor (fEnum (rCons (rBin idxI (rVar 0) (rC (.int (1)))) rNil)) (gT 2 (gsCons (gN 6) (gsCons (gN 7) gsNil))) b (some (plan ss cs) :: env) st = loopT (gT 2 (gsCons (gN 6) (gsCons (gN 7) gsNil))) b ((List.range ss.length).map fun i => .tup [.int (i : Nat), ((cs.map IV.int)[i]?).getD .non]) (some (plan ss cs) :: env) st := fun b env st => by
        have := walkT (gT 2 (gsCons (gN 6) (gsCons (gN 7) gsNil))) b (cs.map IV.int) ((cs.map IV.int).length + 1) 0 (by omega) (by omega) (some (plan ss cs) :: env) st
        rw [List.drop_zero] at this
        unfold enumI at this
        rw [show (List.range (cs.map IV.int).length) = List.range ss.length by rw [List.length_map, P.len]] at this
        rw [← this]; rfl
      rw [hw]
      have := for_inv (gT 2 (gsCons (gN 6) (gsCons (gN 7) gsNil))) bPl (fun i : Nat => IV.tup [.int (i : Nat), ((cs.map IV.int)[i]?).getD .non])
        (fun pre env st => ∃ e6 e7 e8 e9, env = [some (plan ss cs), some (.int t), some (.int l), some (.int m), some (itup (heardL t m ss)), some (.ref s1.os.length), e6, e7, e8, e9] ∧ Gw s1 st ∧ st.os[s1.os.length]? = some (.lst ((List.range pre.length).map fun j => .int (Pk t m l ss cs (j + 1))))) (List.range ss.length) [] _ { os := s1.os ++ [.lst []], low := s1.low } ⟨none, none, none, none, rfl, .alloc _ _, new_get _ _ _⟩ ?_
      · simpa using this
      · rintro pre k rest hq env st ⟨e6, e7, e8, e9, rfl, g, hn⟩
        rw [List.nil_append] at hq
        obtain ⟨rfl, hk⟩ := range_pre hq
        have hc := cs_at P hk
        refine ⟨[some (plan ss cs), some (.int t), some (.int l), some (.int m), some (itup (heardL t m ss)), some (.ref s1.os.length), some (.int (pre.length : Nat)), some (.int (cs.getD pre.length 0)), e8, e9], st, ?_, ?_⟩
        · rw [List.getElem?_map, hc]; rfl
        obtain ⟨s2, e2, g2⟩ := oks_set (i := 8) (prev_ok (env := [some (plan ss cs), some (.int t), some (.int l), some (.int m), some (itup (heardL t m ss)), some (.ref s1.os.length), some (.int (pre.length : Nat)), some (.int (cs.getD pre.length 0)), e8, e9]) (Pk t m l ss cs) rfl rfl hn)
        obtain ⟨s3, e3, g3⟩ := oks_set (i := 9) (show Ok (rIfE (rTBl (rBin cGe (rVar 6) (rVar 2))) (rBin idxI (rVar 4) (rBin addI (rBin subI (rVar 6) (rVar 2)) (rC (.int (1))))) (rC (.int (0))) [some (plan ss cs), some (.int t), some (.int l), some (.int m), some (itup (heardL t m ss)), some (.ref s1.os.length), some (.int (pre.length : Nat)), some (.int (cs.getD pre.length 0)), some (.int (Pk t m l ss cs pre.length)), e9] s2) s2 (.int (if l ≤ pre.length then Hj t m ss (pre.length - l + 1) else 0)) by
          by_cases hlk : l ≤ pre.length
          · rw [if_pos hlk]
            refine ok_ifT (Ok.eq (ok_tbl (ok_bin (x := .int (pre.length : Nat)) (y := .int (l : Nat)) (ok_var rfl) (fun _ _ => ok_var rfl) fun _ _ => ok_ge)) (decide_eq_true (by omega))) fun s g => ?_
            refine ok_bin (x := itup (heardL t m ss)) (y := .int ((pre.length : Nat) - (l : Nat) + 1)) (ok_var rfl) (fun _ _ => ?_) fun _ _ => ok_idx (heard_at hk h3 hlk)
            trivial
          · rw [if_neg hlk]
            exact ok_ifF (Ok.eq (ok_tbl (ok_bin (x := .int (pre.length : Nat)) (y := .int (l : Nat)) (ok_var rfl) (fun _ _ => ok_var rfl) fun _ _ => ok_ge)) (decide_eq_false (by omega))) fun _ _ => ok_c)
        obtain ⟨s4, e4, g4⟩ := oks_app (env := [some (plan ss cs), some (.int t), some (.int l), some (.int m), some (itup (heardL t m ss)), some (.ref s1.os.length), some (.int (pre.length : Nat)), some (.int (cs.getD pre.length 0)), some (.int (Pk t m l ss cs pre.length)), some (.int (if l ≤ pre.length then Hj t m ss (pre.length - l + 1) else 0))]) (i := 5) (a := rBin addI (rCall maxI (rCons (rLst (rCons (rVar 8) (rCons (rVar 9) rNil))) rNil)) (rVar 7)) (v := .int (Pk t m l ss cs (pre.length + 1))) rfl ((g2.trans g3).get hn) (ok_bin (max2_L (ok_var rfl) fun _ _ => ok_var rfl) (fun _ _ => ok_var rfl) fun _ _ => ok_add) (by simp; omega)
        have hb : bPl [some (plan ss cs), some (.int t), some (.int l), some (.int m), some (itup (heardL t m ss)), some (.ref s1.os.length), some (.int (pre.length : Nat)), some (.int (cs.getD pre.length 0)), e8, e9] st = .nx [some (plan ss cs), some (.int t), some (.int l), some (.int m), some (itup (heardL t m ss)), some (.ref s1.os.length), some (.int (pre.length : Nat)), some (.int (cs.getD pre.length 0)), some (.int (Pk t m l ss cs pre.length)), some (.int (if l ≤ pre.length then Hj t m ss (pre.length - l + 1) else 0))] { os := s4.os.set s1.os.length (.lst (((List.range pre.length).map fun j => .int (Pk t m l ss cs (j + 1))) ++ [.int (Pk t m l ss cs (pre.length + 1))])), low := s4.low } := by
          unfold bPl
          rw [seq_nx e2]
          show sSeq _ _ [some (plan ss cs), some (.int t), some (.int l), some (.int m), some (itup (heardL t m ss)), some (.ref s1.os.length), some (.int (pre.length : Nat)), some (.int (cs.getD pre.length 0)), some (.int (Pk t m l ss cs pre.length)), e9] s2 = _
          rw [seq_nx e3]
          exact e4
        refine ⟨_, _, hb, _, _, _, _, rfl, (((g.trans g2).trans g3).trans g4).set (Nat.le_refl _) _, ?_⟩
        · rw [set_get (((g2.trans g3).trans g4).get hn)]
          simp [List.range_succ]
    obtain ⟨env', s3, e3, e6, e7, e8, e9, rfl, g3, hl⟩ := hfor
    refine ⟨s3, ?_, g1.trans g3⟩
    rw [seq_nx l0, seq_nx e3]
    unfold sRet
    have : rCall tupleI (rCons (rVar 5) rNil) [some (plan ss cs), some (.int t), some (.int l), some (.int m), some (itup (heardL t m ss)), some (.ref s1.os.length), e6, e7, e8, e9] s3 = .ok (itup (playedL t m l ss cs)) s3 := by
      have hv : rVar 5 [some (plan ss cs), some (.int t), some (.int l), some (.int m), some (itup (heardL t m ss)), some (.ref s1.os.length), e6, e7, e8, e9] s3 = .ok (.ref s1.os.length) s3 := rfl
      unfold rCall
      simp only [rCons, hv, RE.bind, rNil, tup_lst (lst_of hl), RE.ofO]
      unfold itup playedL
      rw [List.map_map]; rfl
    rw [this]; rfl
end law_k18

set_option Elab.async false
set_option linter.all false
set_option maxRecDepth 100000
set_option maxHeartbeats 4000000
namespace law_k18
open PySem PySem.Spec PyProof.Rows L2 PI PL
local macro_rules | `(tactic| trivial) => `(tactic| first
  | exact ok_c
  | ((with_reducible show Ok (rVar _ _ _) _ _); exact ok_var (by rfl))
  | exact ok_nil
  | ((with_reducible show Ok (RE.ofO _) _ _); first
    | with_reducible exact ok_add | with_reducible exact ok_sub | with_reducible exact ok_neg | with_reducible exact ok_lt | with_reducible exact ok_gt | with_reducible exact ok_le | with_reducible exact ok_ge
    | with_reducible exact ok_eqi | with_reducible exact ok_nei | with_reducible exact ok_len | with_reducible exact ok_tupleT | exact ok_ofO (by rfl))
  | ((with_reducible show Ok (rCons _ _ _ _) _ _); exact ok_cons (by trivial) (fun _ _ => by trivial))
  | ((with_reducible show Ok (rBin _ _ _ _ _) _ _); exact ok_bin (by trivial) (fun _ _ => by trivial) (fun _ _ => by trivial))
  | ((with_reducible show Ok (rUn _ _ _ _) _ _); exact ok_un (by trivial) (fun _ _ => by trivial))
  | ((with_reducible show Ok (rCall _ _ _ _) _ _); exact ok_call (by trivial) (fun _ _ => by trivial))
  | ((with_reducible show Ok (rDef _ _ _ _) _ _); exact ok_def (by trivial) (fun _ _ => by trivial))
  | ((with_reducible show Ok (rTup _ _ _) _ _); exact ok_tup (by trivial) (by simp))
  | ((with_reducible show Ok (rTBl _ _ _) _ _); exact ok_tbl (by trivial))
  | ((with_reducible show Ok (rTNot _ _ _) _ _); exact ok_tnot (by trivial))
  | ((with_reducible show Ok (rTOr _ _ _ _) _ _); exact ok_tor (by trivial) (fun _ _ _ => by trivial))
  | ((with_reducible show Ok (rTru _ _ _) _ _); exact ok_trub (by trivial))
  | assumption)
local macro_rules | `(tactic| trivial) => `(tactic| ((with_reducible show Ok (d_is_from _ _) _ _); exact from_yes (by omega) (by omega) _))
local macro_rules | `(tactic| trivial) => `(tactic| ((with_reducible show Ok (d_is_many _ _) _ _); exact many2 _ _ _))
local macro_rules | `(tactic| trivial) => `(tactic| ((with_reducible show Ok (d_is_plan _ _) _ _); exact plan_ok (by assumption) _))
local macro_rules | `(tactic| trivial) => `(tactic| ((with_reducible show Ok (d_check_plan _ _) _ _); exact check_ok (by assumption) (by omega) (by omega) _))
local macro_rules | `(tactic| trivial) => `(tactic| ((with_reducible show Ok (d_check_hearing _ _) _ _); exact hear_ok (by assumption) (by omega) (by omega) (by omega) (by omega) (by omega) (by omega) _))
theorem okl_def {as : SemA} {D : List IV → Sto → RE IV} {env : IEnv} {st : Sto} {xs ys : List IV} (h : Ok (as env st) st xs) (h2 : ∀ st1, Gw st st1 → OkL (D xs st1) st1 ys) : OkL (rDef D as env st) st ys := by
  obtain ⟨s1, e1, g1⟩ := h
  obtain ⟨n, s2, e2, g2, hl⟩ := h2 s1 g1
  refine ⟨n, s2, ?_, g1.trans g2, hl⟩
  unfold rDef
  rw [e1]; exact e2
theorem rcons_eq {a : SemE} {as : SemA} {env : IEnv} {st s1 s2 : Sto} {v : IV} {vs : List IV} (h : a env st = .ok v s1) (h2 : as env s1 = .ok vs s2) : rCons a as env st = .ok (v :: vs) s2 := by
  unfold rCons
  rw [h]
  simp only [RE.bind]
  rw [h2]
theorem spar_eq {a b : SemE} {env : IEnv} {st s1 s2 : Sto} {x y : IV} {i j : Nat} (h : a env st = .ok x s1) (h2 : b env s1 = .ok y s2) : sPar i j (rCons a (rCons b rNil)) env st = .nx ((env.set i (some x)).set j (some y)) s2 := by
  unfold sPar
  rw [rcons_eq h (rcons_eq h2 (rfl : rNil env s2 = .ok [] s2))]
  rfl
theorem sasg2_eq {a b : SemE} {env : IEnv} {st s1 s2 : Sto} {x y : IV} {i j : Nat} (h : a env st = .ok x s1) (h2 : b env s1 = .ok y s2) : sAsg (rTup (rCons a (rCons b rNil))) (gT 2 (gsCons (gN i) (gsCons (gN j) gsNil))) env st = .nx ((env.set i (some x)).set j (some y)) s2 := by
  unfold sAsg rTup
  rw [rcons_eq h (rcons_eq h2 (rfl : rNil env s2 = .ok [] s2))]
  rfl
theorem callI_rt {n : Nat} {r : SemS} {xs : List IV} {st st' : Sto} {v : IV} (h : r (startI n xs) st = .rt v st') : callI n r xs st = .ok v st' := by unfold callI; rw [h]
theorem sfor_items {it : IEnv → Sto → RE FI} {g : SemG} {b : SemS} {env : IEnv} {st st1 : Sto} {xs : List IV} (h : it env st = .ok (.items xs) st1) : sFor it g b env st = loopT g b xs env st1 := by
  unfold sFor
  rw [h]; rfl
theorem len_plan0 {ss cs : List Int} {env : IEnv} {st : Sto} (he : env[0]? = some (some (plan ss cs))) : Ok (rCall lenI (rCons (rBin idxI (rVar 0) (rC (.int (0)))) rNil) env st) st (.int ss.length) := by
  refine ok_call (xs := [itup ss]) (ok_cons (ok_bin (x := plan ss cs) (y := .int 0) (ok_var he) (fun _ _ => ok_c) fun _ _ => ok_ofO rfl) fun _ _ => ok_nil) fun s _ => ok_ofO ?_
  show some (IV.int ((ss.map IV.int).length : Nat), s) = _
  rw [List.length_map]
/-- the turn of the law's times -/
abbrev bTl : SemS := (sSeq (sAsg (rCall maxI (rCons (rLst (rCons (rIfE (rTBl (rBin cNe (rVar 5) (rLst rNil))) (rBin idxI (rVar 5) (rUn negI (rC (.int (1))))) (rC (.int (0)))) (rCons (rIfE (rTBl (rBin cGe (rVar 6) (rVar 2))) (rBin idxI (rVar 4) (rBin addI (rBin subI (rVar 6) (rVar 2)) (rC (.int (1))))) (rC (.int (0)))) rNil))) rNil)) (gN 7))
    (sExpr (rMethL appI (rVar 5) (rCons (rBin addI (rVar 7) (rBin idxI (rBin idxI (rVar 0) (rC (.int (1)))) (rVar 6))) rNil))))
theorem rng1_len {ss cs : List Int} {env : IEnv} {st : Sto} (P : PlanOk ss cs) (he : env[0]? = some (some (plan ss cs))) : ∃ st1, fRng1 (rCons (rCall lenI (rCons (rBin idxI (rVar 0) (rC (.int (0)))) rNil)) rNil) env st = .ok (.items ((List.range ss.length).map fun i => .int (i : Nat))) st1 ∧ Gw st st1 := by
  obtain ⟨s1, e1, g1⟩ := ok_cons (len_plan0 (st := st) he) fun s _ => ok_nil (env := env) (st := s)
  exact ⟨s1, rng1 ss.length e1 (by have := P.hi; omega), g1⟩
theorem ltimes_for {ss cs : List Int} (P : PlanOk ss cs) {t m : Int} {l h : Nat} (h1 : 1 ≤ t) (h2 : t ≤ 100) (h3 : 1 ≤ l) (s1 : Sto) (hh : lstAt s1 h = some ((heardL t m ss).map IV.int)) : ∃ env' st', sFor (fRng1 (rCons (rCall lenI (rCons (rBin idxI (rVar 0) (rC (.int (0)))) rNil)) rNil)) (gN 6) bTl [some (plan ss cs), some (.int t), some (.int l), some (.int m), some (.ref h), some (.ref s1.os.length), none, none] { os := s1.os ++ [.lst []], low := s1.low } = .nx env' st' ∧
      ∃ e6 e7, env' = [some (plan ss cs), some (.int t), some (.int l), some (.int m), some (.ref h), some (.ref s1.os.length), e6, e7] ∧ Gw s1 st' ∧ st'.os[s1.os.length]? = some (.lst ((List.range ss.length).map fun j => .int (Pk t m l ss cs (j + 1)))) := by
  have hle := P.hi
  obtain ⟨s2, e2, g2⟩ := rng1_len (st := { os := s1.os ++ [.lst []], low := s1.low }) (env := [some (plan ss cs), some (.int t), some (.int l), some (.int m), some (.ref h), some (.ref s1.os.length), none, none]) P rfl
  have := for_inv (gN 6) bTl (fun i : Nat => IV.int (i : Nat))
    (fun pre env st => ∃ e6 e7, env = [some (plan ss cs), some (.int t), some (.int l), some (.int m), some (.ref h), some (.ref s1.os.length), e6, e7] ∧ Gw s1 st ∧ st.os[s1.os.length]? = some (.lst ((List.range pre.length).map fun j => .int (Pk t m l ss cs (j + 1))))) (List.range ss.length) [] [some (plan ss cs), some (.int t), some (.int l), some (.int m), some (.ref h), some (.ref s1.os.length), none, none] s2 ⟨none, none, rfl, (Gw.alloc _ _).trans g2, g2.get (new_get _ _ _)⟩ ?_
  · obtain ⟨env', st', e3, h3⟩ := this
    refine ⟨env', st', ?_, by simpa using h3⟩
    exact (sfor_items e2).trans e3
  · rintro pre k rest hq env st ⟨e6, e7, rfl, g, hn⟩
    rw [List.nil_append] at hq
    obtain ⟨rfl, hk⟩ := range_pre hq
    have hc := cs_at P hk
    refine ⟨[some (plan ss cs), some (.int t), some (.int l), some (.int m), some (.ref h), some (.ref s1.os.length), some (.int (pre.length : Nat)), e7], st, rfl, ?_⟩
    have hm : Ok (rIfE (rTBl (rBin cGe (rVar 6) (rVar 2))) (rBin idxI (rVar 4) (rBin addI (rBin subI (rVar 6) (rVar 2)) (rC (.int (1))))) (rC (.int (0))) [some (plan ss cs), some (.int t), some (.int l), some (.int m), some (.ref h), some (.ref s1.os.length), some (.int (pre.length : Nat)), e7] st) st (.int (if l ≤ pre.length then Hj t m ss (pre.length - l + 1) else 0)) ∧ True := ⟨by
      by_cases hlk : l ≤ pre.length
      · rw [if_pos hlk]
        refine ok_ifT (Ok.eq (ok_tbl (ok_bin (x := .int (pre.length : Nat)) (y := .int (l : Nat)) (ok_var rfl) (fun _ _ => ok_var rfl) fun _ _ => ok_ge)) (decide_eq_true (by omega))) fun s gs => ?_
        refine ok_bin (x := .ref h) (y := .int ((pre.length : Nat) - (l : Nat) + 1)) (ok_var rfl) (fun _ _ => ?_) fun s' gs' => ok_idxL (((g.trans gs).trans gs').lst hh) (heard_at hk h3 hlk)
        trivial
      · rw [if_neg hlk]
        exact ok_ifF (Ok.eq (ok_tbl (ok_bin (x := .int (pre.length : Nat)) (y := .int (l : Nat)) (ok_var rfl) (fun _ _ => ok_var rfl) fun _ _ => ok_ge)) (decide_eq_false (by omega))) fun _ _ => ok_c, trivial⟩
    have hm2 : ∀ st1, Gw st st1 → Ok (rIfE (rTBl (rBin cGe (rVar 6) (rVar 2))) (rBin idxI (rVar 4) (rBin addI (rBin subI (rVar 6) (rVar 2)) (rC (.int (1))))) (rC (.int (0))) [some (plan ss cs), some (.int t), some (.int l), some (.int m), some (.ref h), some (.ref s1.os.length), some (.int (pre.length : Nat)), e7] st1) st1 (.int (if l ≤ pre.length then Hj t m ss (pre.length - l + 1) else 0)) := fun st1 gx => by
      by_cases hlk : l ≤ pre.length
      · rw [if_pos hlk]
        refine ok_ifT (Ok.eq (ok_tbl (ok_bin (x := .int (pre.length : Nat)) (y := .int (l : Nat)) (ok_var rfl) (fun _ _ => ok_var rfl) fun _ _ => ok_ge)) (decide_eq_true (by omega))) fun s gs => ?_
        refine ok_bin (x := .ref h) (y := .int ((pre.length : Nat) - (l : Nat) + 1)) (ok_var rfl) (fun _ _ => ?_) fun s' gs' => ok_idxL ((((g.trans gx).trans gs).trans gs').lst hh) (heard_at hk h3 hlk)
        trivial
      · rw [if_neg hlk]
        exact ok_ifF (Ok.eq (ok_tbl (ok_bin (x := .int (pre.length : Nat)) (y := .int (l : Nat)) (ok_var rfl) (fun _ _ => ok_var rfl) fun _ _ => ok_ge)) (decide_eq_false (by omega))) fun _ _ => ok_c
    obtain ⟨s2, e2, g2⟩ := oks_set (i := 7) (max2_L (prev_ok (env := [some (plan ss cs), some (.int t), some (.int l), some (.int m), some (.ref h), some (.ref s1.os.length), some (.int (pre.length : Nat)), e7]) (Pk t m l ss cs) rfl rfl hn) hm2)
    obtain ⟨s4, e4, g4⟩ := oks_app (env := [some (plan ss cs), some (.int t), some (.int l), some (.int m), some (.ref h), some (.ref s1.os.length), some (.int (pre.length : Nat)), some (.int (max (Pk t m l ss cs pre.length) (if l ≤ pre.length then Hj t m ss (pre.length - l + 1) else 0)))]) (i := 5) (a := rBin addI (rVar 7) (rBin idxI (rBin idxI (rVar 0) (rC (.int (1)))) (rVar 6))) (v := .int (Pk t m l ss cs (pre.length + 1))) rfl (g2.get hn) (ok_bin (ok_var rfl) (fun _ _ => ok_bin (x := itup cs) (ok_bin (x := plan ss cs) (ok_var rfl) (fun _ _ => ok_c) fun _ _ => ok_ofO rfl) (fun _ _ => ok_var rfl) fun _ _ => ok_idx (at_nat (v := .int (cs.getD pre.length 0)) (by rw [List.getElem?_map, hc]; rfl))) fun _ _ => ok_add) (by simp; omega)
    have hb : bTl [some (plan ss cs), some (.int t), some (.int l), some (.int m), some (.ref h), some (.ref s1.os.length), some (.int (pre.length : Nat)), e7] st = .nx [some (plan ss cs), some (.int t), some (.int l), some (.int m), some (.ref h), some (.ref s1.os.length), some (.int (pre.length : Nat)), some (.int (max (Pk t m l ss cs pre.length) (if l ≤ pre.length then Hj t m ss (pre.length - l + 1) else 0)))] { os := s4.os.set s1.os.length (.lst (((List.range pre.length).map fun j => .int (Pk t m l ss cs (j + 1))) ++ [.int (Pk t m l ss cs (pre.length + 1))])), low := s4.low } := by
      unfold bTl
      rw [seq_nx e2]
      exact e4
    refine ⟨_, _, hb, _, _, rfl, ((g.trans g2).trans g4).set (Nat.le_refl _) _, ?_⟩
    rw [set_get ((g2.trans g4).get hn)]
    simp [List.range_succ]
theorem ltimes_ok {ss cs : List Int} (P : PlanOk ss cs) {t m : Int} {l : Nat} (h1 : 1 ≤ t) (h2 : t ≤ 100) (h3 : 1 ≤ l) (st : Sto) : OkL (d__law_times [plan ss cs, .int t, .int l, .int m] st) st ((playedL t m l ss cs).map IV.int) := by
  unfold d__law_times r__law_times
  obtain ⟨h, s1, e1, g1, hh⟩ := okl_def (D := d__law_heard) (as := rCons (rVar 0) (rCons (rVar 1) (rCons (rVar 3) rNil))) (env := startI 8 [plan ss cs, .int t, .int l, .int m]) (st := st) (xs := [plan ss cs, .int t, .int m]) (ok_cons (ok_var rfl) fun _ _ => ok_cons (ok_var rfl) fun _ _ => ok_cons (ok_var rfl) fun _ _ => ok_nil) fun s _ => lheard_ok P (m := m) h1 h2 s
  have hle := P.hi
  have l0 : sPar 4 5 (rCons (rDef d__law_heard (rCons (rVar 0) (rCons (rVar 1) (rCons (rVar 3) rNil)))) (rCons (rLst rNil) rNil)) (startI 8 [plan ss cs, .int t, .int l, .int m]) st = .nx [some (plan ss cs), some (.int t), some (.int l), some (.int m), some (.ref h), some (.ref s1.os.length), none, none] { os := s1.os ++ [.lst []], low := s1.low } := by
    exact spar_eq e1 rfl
  have hfor := ltimes_for P h1 h2 h3 s1 hh
  obtain ⟨env', s3, e3, e6, e7, rfl, g3, hl⟩ := hfor
  refine ⟨s1.os.length, s3, ?_, g1.trans g3, ?_⟩
  · exact callI_rt (by rw [seq_nx l0, seq_nx e3]; rfl)
  · rw [lst_of hl]
    unfold playedL
    rw [List.map_map]; rfl
def lateN (t m : Int) (l : Nat) (ss cs : List Int) : List Nat := (List.range ss.length).filter fun k => decide (Hj t m ss k < Pk t m l ss cs (k + 1))
def lateV (t m : Int) (l : Nat) (ss cs : List Int) : IV := .tup ((lateN t m l ss cs).map fun k => .int (k : Nat))
theorem played_at {t m : Int} {l : Nat} {ss cs : List Int} {k : Nat} (hk : k < ss.length) : ((playedL t m l ss cs).map IV.int)[k]? = some (.int (Pk t m l ss cs (k + 1))) := by
  unfold playedL
  rw [List.map_map, List.getElem?_map, List.getElem?_range hk]; rfl
theorem heardL_at {t m : Int} {ss : List Int} {k : Nat} (hk : k < ss.length + 1) : ((heardL t m ss).map IV.int)[k]? = some (.int (Hj t m ss k)) := by
  unfold heardL
  rw [List.map_map, List.getElem?_map, List.getElem?_range hk]; rfl
theorem lc_enum {it : IEnv → Sto → RE FI} {ct : CT} {vs : List Nat} {tt : SemT} {te : SemE} {env : IEnv} {st0 st : Sto} {xs : List IV} (E : Nat → IEnv) (p : Nat → Bool) (g : Nat → IV)
    (hi : it env st0 = .ok (.walk xs.length (lenOf (.tup xs)) (rowE (.tup xs))) st) (hg : Gw st0 st) (hl : xs.length ≤ 100000) (h1 : ∀ k, k < xs.length → ct.put (.tup [.int (k : Nat), (xs[k]?).getD .non]) (wipeI env vs) = some (E k))
    (h2 : ∀ k, k < xs.length → ∀ st1, Gw st st1 → Ok (tt (E k) st1) st1 (p k)) (h3 : ∀ k, k < xs.length → p k = true → ∀ st1, Gw st st1 → Ok (te (E k) st1) st1 (g k)) :
    OkL (rLc it ct vs tt te env st0) st0 (((List.range xs.length).filter p).map g) := by
  obtain ⟨s2, e2, g2⟩ := lc_gen ct (wipeI env vs) tt te st (fun i : Nat => IV.tup [.int (i : Nat), (xs[i]?).getD .non]) E p g (List.range xs.length) [] st (.refl st) (fun k hk => h1 k (range_mem hk)) (fun k hk => h2 k (range_mem hk)) (fun k hk => h3 k (range_mem hk))
  refine ⟨s2.os.length, { os := s2.os ++ [.lst (((List.range xs.length).filter p).map g)], low := s2.low }, ?_, (hg.trans g2).trans (.alloc _ _), new_lst _ _ _⟩
  have hb : Nat.ble xs.length lineI = true := Nat.ble_eq_true_of_le hl
  have hw := walkC ct (wipeI env vs) tt te xs (xs.length + 1) 0 (by omega) (by omega) [] st
  rw [List.drop_zero] at hw
  unfold enumI at hw
  unfold rLc
  simp only [hi, RE.bind, hb, cond_true, hw, e2, List.reverse_nil, List.nil_append, Sto.allocO, RE.ofO]
theorem late_ok {ss cs : List Int} (P : PlanOk ss cs) {t m : Int} {l : Nat} (h1 : 1 ≤ t) (h2 : t ≤ 100) (h3 : 1 ≤ l) (h4 : l ≤ 60) (h5 : 0 ≤ m) (h6 : m ≤ 10 ^ 7) (st : Sto) : Ok (d_late_blocks [plan ss cs, .int t, .int l, .int m] st) st (lateV t m l ss cs) := by
  unfold d_late_blocks r_late_blocks
  have hle := P.hi
  refine ok_fn (okr_seq (env' := [some (plan ss cs), some (.int t), some (.int l), some (.int m), some (itup (heardL t m ss)), none, none]) (oks_set (ok_def (xs := [plan ss cs, .int t, .int m]) (ok_cons (ok_var rfl) fun _ _ => ok_cons (ok_var rfl) fun _ _ => ok_cons (ok_var rfl) fun _ _ => ok_nil) fun s _ => heard_ok P h1 h2 h5 h6 s)) fun s1 g1 => okr_ret (tup_L ?_))
  obtain ⟨s2, e2, g2⟩ := ok_cons (as := rNil) (a := rDef d_played_times (rCons (rVar 0) (rCons (rVar 1) (rCons (rVar 2) (rCons (rVar 3) rNil))))) (env := [some (plan ss cs), some (.int t), some (.int l), some (.int m), some (itup (heardL t m ss)), none, none]) (st := s1) (ok_def (xs := [plan ss cs, .int t, .int l, .int m]) (ok_cons (ok_var rfl) fun _ _ => ok_cons (ok_var rfl) fun _ _ => ok_cons (ok_var rfl) fun _ _ => ok_cons (ok_var rfl) fun _ _ => ok_nil) fun s _ => played_ok P h1 h2 h3 h4 h5 h6 s) fun _ _ => ok_nil
  have hlen : ((playedL t m l ss cs).map IV.int).length = ss.length := by unfold playedL; simp
  have := lc_enum (it := fEnum (rCons (rDef d_played_times (rCons (rVar 0) (rCons (rVar 1) (rCons (rVar 2) (rCons (rVar 3) rNil))))) rNil)) (ct := .tup [5, 6]) (vs := [5, 6]) (tt := rTBl (rBin cGt (rVar 6) (rBin idxI (rVar 4) (rVar 5)))) (te := rVar 5) (env := [some (plan ss cs), some (.int t), some (.int l), some (.int m), some (itup (heardL t m ss)), none, none]) (st0 := s1) (st := s2) (xs := (playedL t m l ss cs).map IV.int)
    (fun k => [some (plan ss cs), some (.int t), some (.int l), some (.int m), some (itup (heardL t m ss)), some (.int (k : Nat)), some (((playedL t m l ss cs).map IV.int)[k]?.getD .non)]) (fun k => decide (Hj t m ss k < Pk t m l ss cs (k + 1))) (fun k => .int (k : Nat)) (by unfold fEnum; rw [e2]; rfl) g2 (by omega) (fun _ _ => rfl) (fun k hk s gs => ?_) (fun k hk _ s gs => ok_var rfl)
  · rw [hlen] at this
    exact this
  · have hk' : k < ss.length := by omega
    rw [played_at hk']
    exact ok_tbl (ok_bin (x := .int (Pk t m l ss cs (k + 1))) (y := .int (Hj t m ss k)) (ok_var rfl) (fun _ _ => ok_bin (x := itup (heardL t m ss)) (y := .int (k : Nat)) (ok_var rfl) (fun _ _ => ok_var rfl) fun _ _ => ok_idx (at_nat (heardL_at (by omega)))) fun _ _ => ok_gt)
theorem llate_ok {ss cs : List Int} (P : PlanOk ss cs) {t m : Int} {l : Nat} (h1 : 1 ≤ t) (h2 : t ≤ 100) (h3 : 1 ≤ l) (st : Sto) : Ok (d__law_late [plan ss cs, .int t, .int l, .int m] st) st (lateV t m l ss cs) := by
  unfold d__law_late r__law_late
  have hle := P.hi
  obtain ⟨a, s1, e1, g1, ha⟩ := okl_def (D := d__law_heard) (as := rCons (rVar 0) (rCons (rVar 1) (rCons (rVar 3) rNil))) (env := startI 7 [plan ss cs, .int t, .int l, .int m]) (st := st) (xs := [plan ss cs, .int t, .int m]) (ok_cons (ok_var rfl) fun _ _ => ok_cons (ok_var rfl) fun _ _ => ok_cons (ok_var rfl) fun _ _ => ok_nil) fun s _ => lheard_ok P (m := m) h1 h2 s
  obtain ⟨b, s2, e2, g2, hb⟩ := okl_def (D := d__law_times) (as := rCons (rVar 0) (rCons (rVar 1) (rCons (rVar 2) (rCons (rVar 3) rNil)))) (env := startI 7 [plan ss cs, .int t, .int l, .int m]) (st := s1) (xs := [plan ss cs, .int t, .int l, .int m]) (ok_cons (ok_var rfl) fun _ _ => ok_cons (ok_var rfl) fun _ _ => ok_cons (ok_var rfl) fun _ _ => ok_cons (ok_var rfl) fun _ _ => ok_nil) fun s _ => ltimes_ok P (m := m) h1 h2 h3 s
  have l0 : sAsg (rTup (rCons (rDef d__law_heard (rCons (rVar 0) (rCons (rVar 1) (rCons (rVar 3) rNil)))) (rCons (rDef d__law_times (rCons (rVar 0) (rCons (rVar 1) (rCons (rVar 2) (rCons (rVar 3) rNil))))) rNil))) (gT 2 (gsCons (gN 4) (gsCons (gN 5) gsNil))) (startI 7 [plan ss cs, .int t, .int l, .int m]) st = .nx [some (plan ss cs), some (.int t), some (.int l), some (.int m), some (.ref a), some (.ref b), none] s2 := by
    exact sasg2_eq e1 e2
  have hr : OkR (sRet (rCall tupleI (rCons (rLc (fRng1 (rCons (rCall lenI (rCons (rBin idxI (rVar 0) (rC (.int (0)))) rNil)) rNil)) (.one 6) [6] (rTBl (rBin cGt (rBin idxI (rVar 5) (rVar 6)) (rBin idxI (rVar 4) (rVar 6)))) (rVar 6)) rNil)) [some (plan ss cs), some (.int t), some (.int l), some (.int m), some (.ref a), some (.ref b), none] s2) s2 (lateV t m l ss cs) := by
    obtain ⟨s3, e3, g3⟩ := rng1_len (st := s2) (env := [some (plan ss cs), some (.int t), some (.int l), some (.int m), some (.ref a), some (.ref b), none]) P rfl
    refine okr_ret (tup_L (lc_items (fun k : Nat => IV.int (k : Nat)) (fun k => [some (plan ss cs), some (.int t), some (.int l), some (.int m), some (.ref a), some (.ref b), some (.int (k : Nat))]) (fun k => decide (Hj t m ss k < Pk t m l ss cs (k + 1))) (fun k => .int (k : Nat)) (List.range ss.length) e3 g3 (by simp; omega) (fun _ _ => rfl) (fun k hk s gs => ?_) (fun k hk _ s gs => ok_var rfl)))
    have hk' := range_mem hk
    exact ok_tbl (ok_bin (x := .int (Pk t m l ss cs (k + 1))) (y := .int (Hj t m ss k)) (ok_bin (x := .ref b) (y := .int (k : Nat)) (ok_var rfl) (fun _ _ => ok_var rfl) fun s' g' => ok_idxL (((g3.trans gs).trans g').lst hb) (at_nat (played_at hk'))) (fun s' g' => ok_bin (x := .ref a) (y := .int (k : Nat)) (ok_var rfl) (fun _ _ => ok_var rfl) fun s'' g'' => ok_idxL (((((g2.trans g3).trans gs).trans g').trans g'').lst ha) (at_nat (heardL_at (by omega)))) fun _ _ => ok_gt)
  obtain ⟨s4, e4, g4⟩ := hr
  refine ⟨s4, ?_, (g1.trans g2).trans g4⟩
  exact callI_rt (by rw [seq_nx l0, e4])
end law_k18

set_option Elab.async false
set_option linter.all false
set_option maxRecDepth 100000
set_option maxHeartbeats 4000000
namespace law_k18
open PySem PySem.Spec PyProof.Rows L2 PI PL
local macro_rules | `(tactic| trivial) => `(tactic| first
  | exact ok_c
  | ((with_reducible show Ok (rVar _ _ _) _ _); exact ok_var (by rfl))
  | exact ok_nil
  | ((with_reducible show Ok (RE.ofO _) _ _); first
    | with_reducible exact ok_add | with_reducible exact ok_sub | with_reducible exact ok_neg | with_reducible exact ok_lt | with_reducible exact ok_gt | with_reducible exact ok_le | with_reducible exact ok_ge
    | with_reducible exact ok_eqi | with_reducible exact ok_nei | with_reducible exact ok_len | with_reducible exact ok_tupleT | exact ok_ofO (by rfl))
  | ((with_reducible show Ok (rCons _ _ _ _) _ _); exact ok_cons (by trivial) (fun _ _ => by trivial))
  | ((with_reducible show Ok (rBin _ _ _ _ _) _ _); exact ok_bin (by trivial) (fun _ _ => by trivial) (fun _ _ => by trivial))
  | ((with_reducible show Ok (rUn _ _ _ _) _ _); exact ok_un (by trivial) (fun _ _ => by trivial))
  | ((with_reducible show Ok (rCall _ _ _ _) _ _); exact ok_call (by trivial) (fun _ _ => by trivial))
  | ((with_reducible show Ok (rDef _ _ _ _) _ _); exact ok_def (by trivial) (fun _ _ => by trivial))
  | ((with_reducible show Ok (rTup _ _ _) _ _); exact ok_tup (by trivial) (by simp))
  | ((with_reducible show Ok (rTBl _ _ _) _ _); exact ok_tbl (by trivial))
  | ((with_reducible show Ok (rTNot _ _ _) _ _); exact ok_tnot (by trivial))
  | ((with_reducible show Ok (rTOr _ _ _ _) _ _); exact ok_tor (by trivial) (fun _ _ _ => by trivial))
  | ((with_reducible show Ok (rTru _ _ _) _ _); exact ok_trub (by trivial))
  | assumption)
local macro_rules | `(tactic| trivial) => `(tactic| ((with_reducible show Ok (d_is_from _ _) _ _); exact from_yes (by omega) (by omega) _))
local macro_rules | `(tactic| trivial) => `(tactic| ((with_reducible show Ok (d_is_many _ _) _ _); exact many2 _ _ _))
local macro_rules | `(tactic| trivial) => `(tactic| ((with_reducible show Ok (d_is_plan _ _) _ _); exact plan_ok (by assumption) _))
local macro_rules | `(tactic| trivial) => `(tactic| ((with_reducible show Ok (d_check_plan _ _) _ _); exact check_ok (by assumption) (by omega) (by omega) _))
local macro_rules | `(tactic| trivial) => `(tactic| ((with_reducible show Ok (d_check_hearing _ _) _ _); exact hear_ok (by assumption) (by omega) (by omega) (by omega) (by omega) (by omega) (by omega) _))
theorem size_down (a b : Int) : Builtin.Range.rangeSize a b (-1) = ((a - b).toNat : Int) := by
  unfold Builtin.Range.rangeSize
  rw [if_neg (by omega)]
  by_cases h : a > b
  · rw [if_pos h]; simp; omega
  · rw [if_neg h]; omega
theorem rg3_down {a b : Int} (h1 : 0 ≤ a) (h2 : a ≤ 100) (h3 : -1 ≤ b) (h4 : b ≤ 100) : rg3Ok a b (-1) = true := by
  have hf : ∀ x : Int, -200 ≤ x → x ≤ 200 → Builtin.Range.rangeFitsLong x = true := fun x h h' => by
    unfold Builtin.Range.rangeFitsLong
    rw [decide_eq_true (show -(2 ^ 63) ≤ x by omega), decide_eq_true (show x < 2 ^ 63 by omega)]; rfl
  have hs := size_down a b
  have e : Builtin.Range.small a b (-1) = true := by
    unfold Builtin.Range.small
    rw [hf a (by omega) (by omega), hf b (by omega) (by omega), hf (-1) (by omega) (by omega), hf (Builtin.Range.rangeSize a b (-1)) (by omega) (by omega)]
    rw [if_neg (by omega), hf (b + (-1 + 1)) (by omega) (by omega)]
    simp
  unfold rg3Ok
  rw [e, decide_eq_true (show (-1 : Int) ≠ 0 by omega), decide_eq_true (show 0 ≤ Builtin.Range.rangeSize a b (-1) by omega)]
  rfl
theorem intsS_down (a : Int) : ∀ (n i : Nat), intsS (a - i) (-1) n = (List.range' i n).map fun j => .int (a - (j : Nat))
  | 0, _ => rfl
  | n + 1, i => by
    rw [List.range'_succ, List.map_cons]
    show IV.int (a - i) :: intsS (a - i + -1) (-1) n = _
    rw [show a - (i : Int) + -1 = a - ((i + 1 : Nat) : Int) by omega, intsS_down a n (i + 1)]
theorem frng3_eq {a : SemA} {env : IEnv} {st st' : Sto} {i j c : Int} (h : a env st = .ok [.int i, .int j, .int c] st') (h1 : rg3Ok i j c = true) : fRng3 a env st = .ok (.items (intsS i c (Builtin.Range.rangeSize i j c).toNat)) st' := by
  have h2 : fRng3 a env st = (a env st).bind fun v st1 => match v with
    | [.int i, .int j, .int c] => bif rg3Ok i j c then .ok (.items (intsS i c (Builtin.Range.rangeSize i j c).toNat)) st1 else .bad
    | _ => .bad := rfl
  rw [h2, h]
  simp only [RE.bind]
  rw [h1, cond_true]
theorem sum_mid {xs : List Int} {i j : Nat} (h : i ≤ j) : ((xs.drop i).take (j - i)).sum = (xs.take j).sum - (xs.take i).sum := by
  have : (xs.take j) = xs.take i ++ (xs.drop i).take (j - i) := by
    have := List.take_add (l := xs) (i := i) (j := j - i)
    rwa [show i + (j - i) = j by omega] at this
  rw [this, List.sum_append]; omega
/-- the block in the place b must play before the one at is heard, and does not -/
def nevC (t : Int) (l : Nat) (ss cs : List Int) (a b : Nat) : Prop := t * ((ss.take a).sum - (ss.take (b - l + 1)).sum) < (cs.take (a + 1)).sum - (cs.take b).sum
instance (t : Int) (l : Nat) (ss cs : List Int) (a b : Nat) : Decidable (nevC t l ss cs a b) := by unfold nevC; infer_instance
def nevF (t : Int) (l : Nat) (ss cs : List Int) (a i n : Nat) : Bool := (List.range' i n).any fun j => decide (nevC t l ss cs a (a - j))
def nevB (t : Int) (l : Nat) (ss cs : List Int) (a : Nat) : Bool := nevF t l ss cs a 0 (a + 1 - l)
/-- the turn of is_never -/
abbrev bNv : SemS := (sSeq (sAug 4 (augI fun i j => i + j) (rBin idxI (rBin idxI (rVar 0) (rC (.int (1)))) (rVar 5)))
    (sIf (rTBl (rBin cGt (rVar 4) (rBin mulT (rVar 1) (rCall sumT (rCons (rSl (rBin idxI (rVar 0) (rC (.int (0)))) (rPart (rBin addI (rBin subI (rVar 5) (rVar 2)) (rC (.int (1))))) (rPart (rVar 3))) rNil))))) (sRet (rC (.bl true))) sPass))
theorem oks_aug {i : Nat} {e : SemE} {env : IEnv} {st : Sto} {p q : Int} (he : env[i]? = some (some (.int p))) (h : Ok (e env st) st (.int q)) : OkS (sAug i (augI fun i j => i + j) e env st) st (env.set i (some (.int (p + q)))) := by
  obtain ⟨s1, e1, g1⟩ := h
  refine ⟨s1, ?_, g1⟩
  unfold sAug
  rw [he, e1]; rfl
theorem never_loop {ss cs : List Int} (P : PlanOk ss cs) {t : Int} {l a : Nat} (h1 : 1 ≤ t) (h2 : t ≤ 100) (h3 : 1 ≤ l) (ha : a < ss.length) : ∀ (n i : Nat), i + n = a + 1 - l → ∀ (e5 : Option IV) (st : Sto),
    ∃ st', Gw st st' ∧ (bif nevF t l ss cs a i n then loopT (gN 5) bNv ((List.range' i n).map fun j => .int ((a : Int) - (j : Nat))) [some (plan ss cs), some (.int t), some (.int l), some (.int a), some (.int ((cs.take (a + 1)).sum - (cs.take (a + 1 - i)).sum)), e5] st = .rt (.bl true) st' else ∃ env', loopT (gN 5) bNv ((List.range' i n).map fun j => .int ((a : Int) - (j : Nat))) [some (plan ss cs), some (.int t), some (.int l), some (.int a), some (.int ((cs.take (a + 1)).sum - (cs.take (a + 1 - i)).sum)), e5] st = .nx env' st')
  | 0, i, hi, e5, st => ⟨st, .refl st, _, rfl⟩
  | n + 1, i, hi, e5, st => by
    have hle := P.hi
    have hc := cs_at P (k := a - i) (by omega)
    have hb : (cs.take (a + 1 - i)).sum = (cs.take (a - i)).sum + cs.getD (a - i) 0 := by
      rw [show a + 1 - i = (a - i) + 1 by omega, take_sum_succ hc]
    have ew : (cs.take (a + 1)).sum - (cs.take (a + 1 - i)).sum + cs.getD (a - i) 0 = (cs.take (a + 1)).sum - (cs.take (a - i)).sum := by omega
    have hin : ((a : Int) - (i : Nat)) = ((a - i : Nat) : Int) := by omega
    obtain ⟨s1, e1, g1⟩ := oks_aug (i := 4) (e := rBin idxI (rBin idxI (rVar 0) (rC (.int (1)))) (rVar 5)) (env := [some (plan ss cs), some (.int t), some (.int l), some (.int a), some (.int ((cs.take (a + 1)).sum - (cs.take (a + 1 - i)).sum)), some (.int ((a : Int) - (i : Nat)))]) (st := st) (q := cs.getD (a - i) 0) rfl (ok_bin (x := itup cs) (y := .int ((a : Int) - (i : Nat))) (ok_bin (x := plan ss cs) (y := .int 1) (ok_var rfl) (fun _ _ => ok_c) fun _ _ => ok_ofO rfl) (fun _ _ => ok_var rfl) fun _ _ => by
      rw [hin]
      exact ok_idx (at_nat (by rw [List.getElem?_map, hc]; rfl)))
    rw [ew] at e1
    have hcond : Ok (rTBl (rBin cGt (rVar 4) (rBin mulT (rVar 1) (rCall sumT (rCons (rSl (rBin idxI (rVar 0) (rC (.int (0)))) (rPart (rBin addI (rBin subI (rVar 5) (rVar 2)) (rC (.int (1))))) (rPart (rVar 3))) rNil)))) [some (plan ss cs), some (.int t), some (.int l), some (.int a), some (.int ((cs.take (a + 1)).sum - (cs.take (a - i)).sum)), some (.int ((a : Int) - (i : Nat)))] s1) s1 (decide (nevC t l ss cs a (a - i))) := by
      refine ok_tbl (ok_bin (x := .int ((cs.take (a + 1)).sum - (cs.take (a - i)).sum)) (y := .int (t * ((ss.take a).sum - (ss.take (a - i - l + 1)).sum))) (ok_var rfl) (fun _ _ => ?_) fun _ _ => ok_gt)
      refine ok_bin (x := .int t) (y := .int ((ss.take a).sum - (ss.take (a - i - l + 1)).sum)) (ok_var rfl) (fun _ _ => ?_) fun _ _ => ok_mul (sm_of (by omega)) ?_
      · refine ok_call (xs := [itup ((ss.drop (a - i - l + 1)).take (a - (a - i - l + 1)))]) (ok_cons ?_ fun _ _ => ok_nil) fun _ _ => Ok.eq ok_sumT ?_
        · refine Ok.eq (ok_sl (xs := ss.map IV.int) (m := (a : Int) - (i : Nat) - (l : Nat) + 1) (n := (a : Int)) (ok_bin (x := plan ss cs) (y := .int 0) (ok_var rfl) (fun _ _ => ok_c) fun _ _ => ok_ofO rfl) (fun _ _ => ?_) fun _ _ => ok_var rfl) ?_
          · trivial
          · rw [show ((a : Int) - (i : Nat) - (l : Nat) + 1) = ((a - i - l + 1 : Nat) : Int) by omega, cut_mid (by rw [List.length_map]; omega)]
            unfold itup
            rw [List.map_take, List.map_drop]
        · rw [sum_mid (by omega)]
      · have b1 := sum_le (B := 1000) (xs := ss.take a) fun x hx => by
          have := P.s x (List.mem_of_mem_take hx)
          omega
        have b2 := sum_le (B := 1000) (xs := ss.take (a - i - l + 1)) fun x hx => by
          have := P.s x (List.mem_of_mem_take hx)
          omega
        have l1 : (ss.take a).length ≤ 60 := by rw [List.length_take]; omega
        have l2 : (ss.take (a - i - l + 1)).length ≤ 60 := by rw [List.length_take]; omega
        exact sm_of (by omega)
    obtain ⟨s2, e2, g2⟩ := hcond
    have hrw : ∀ k : SemS, loopT (gN 5) bNv ((List.range' i (n + 1)).map fun j => .int ((a : Int) - (j : Nat))) [some (plan ss cs), some (.int t), some (.int l), some (.int a), some (.int ((cs.take (a + 1)).sum - (cs.take (a + 1 - i)).sum)), e5] st = (bNv [some (plan ss cs), some (.int t), some (.int l), some (.int a), some (.int ((cs.take (a + 1)).sum - (cs.take (a + 1 - i)).sum)), some (.int ((a : Int) - (i : Nat)))] st).loop (loopT (gN 5) bNv ((List.range' (i + 1) n).map fun j => .int ((a : Int) - (j : Nat)))) := fun k => by
      rw [List.range'_succ, List.map_cons]; rfl
    rw [hrw sPass]
    have hF : nevF t l ss cs a i (n + 1) = (decide (nevC t l ss cs a (a - i)) || nevF t l ss cs a (i + 1) n) := by
      unfold nevF
      rw [List.range'_succ, List.any_cons]
    rw [hF]
    have hbody : bNv [some (plan ss cs), some (.int t), some (.int l), some (.int a), some (.int ((cs.take (a + 1)).sum - (cs.take (a + 1 - i)).sum)), some (.int ((a : Int) - (i : Nat)))] st = bif decide (nevC t l ss cs a (a - i)) then .rt (.bl true) s2 else .nx [some (plan ss cs), some (.int t), some (.int l), some (.int a), some (.int ((cs.take (a + 1)).sum - (cs.take (a - i)).sum)), some (.int ((a : Int) - (i : Nat)))] s2 := by
      unfold bNv
      rw [seq_nx e1]
      show sIf _ _ _ [some (plan ss cs), some (.int t), some (.int l), some (.int a), some (.int ((cs.take (a + 1)).sum - (cs.take (a - i)).sum)), some (.int ((a : Int) - (i : Nat)))] s1 = _
      unfold sIf
      rw [e2]
      cases decide (nevC t l ss cs a (a - i)) <;> rfl
    rw [hbody]
    cases hd : decide (nevC t l ss cs a (a - i)) with
    | true => exact ⟨s2, g1.trans g2, rfl⟩
    | false =>
      obtain ⟨s3, g3, h⟩ := never_loop P h1 h2 h3 ha n (i + 1) (by omega) (some (.int ((a : Int) - (i : Nat)))) s2
      rw [show a + 1 - (i + 1) = a - i by omega] at h
      exact ⟨s3, (g1.trans g2).trans g3, h⟩
theorem never_ok {ss cs : List Int} (P : PlanOk ss cs) {t : Int} {l a : Nat} (h1 : 1 ≤ t) (h2 : t ≤ 100) (h3 : 1 ≤ l) (h4 : l ≤ 60) (ha : a < ss.length) (st : Sto) : Ok (d_is_never [plan ss cs, .int t, .int l, .int a] st) st (.bl (nevB t l ss cs a)) := by
  unfold d_is_never r_is_never
  have hle := P.hi
  refine ok_fn (okr_seq (env' := [some (plan ss cs), some (.int t), some (.int l), some (.int a), some (.int 0), none]) (oks_set ok_c) fun s1 g1 => ?_)
  obtain ⟨s2, e2, g2⟩ : Ok (rCons (rVar 3) (rCons (rBin subI (rVar 2) (rC (.int (1)))) (rCons (rUn negI (rC (.int (1)))) rNil)) [some (plan ss cs), some (.int t), some (.int l), some (.int a), some (.int 0), none] s1) s1 [.int (a : Nat), .int ((l : Nat) - 1), .int (-1)] := by trivial
  have hr := frng3_eq e2 (rg3_down (by omega) (by omega) (by omega) (by omega))
  rw [size_down, show (((a : Int) - ((l : Int) - 1)).toNat : Int).toNat = a + 1 - l by omega] at hr
  have hi := intsS_down (a : Int) (a + 1 - l) 0
  rw [show (a : Int) - ((0 : Nat) : Int) = a by omega] at hi
  rw [hi] at hr
  obtain ⟨s3, g3, h⟩ := never_loop P h1 h2 h3 ha (a + 1 - l) 0 (by omega) none s2
  rw [show (cs.take (a + 1)).sum - (cs.take (a + 1 - 0)).sum = 0 by rw [Nat.sub_zero]; omega] at h
  refine ⟨s3, ?_, g2.trans g3⟩
  have hf := sfor_items (g := gN 5) (b := bNv) hr
  show sSeq (sFor _ (gN 5) bNv) _ _ _ = _
  unfold sSeq
  rw [hf]
  change (bif nevB t l ss cs a then _ else _) at h
  cases hb : nevB t l ss cs a with
  | true => rw [hb] at h; rw [show loopT _ _ _ _ _ = _ from h]; rfl
  | false =>
    rw [hb] at h
    obtain ⟨env', h⟩ := h
    rw [show loopT _ _ _ _ _ = _ from h]; rfl
end law_k18

set_option Elab.async false
set_option linter.all false
set_option maxRecDepth 100000
set_option maxHeartbeats 4000000
namespace law_k18
open PySem PySem.Spec PyProof.Rows L2 PI PL
/-! ### the law of the deadlines, in plain numbers -/
theorem Hj_add (t m d : Int) (ss : List Int) (j : Nat) : Hj t (m + d) ss j = Hj t m ss j + d := by unfold Hj; omega
theorem Pk_add {t m d : Int} (hd : 0 ≤ d) (l : Nat) (ss cs : List Int) : ∀ k, Pk t (m + d) l ss cs k ≤ Pk t m l ss cs k + d
  | 0 => by show (0 : Int) ≤ 0 + d; omega
  | k + 1 => by
    have h := Pk_add (t := t) (m := m) hd l ss cs k
    have hh := Hj_add t m d ss (k - l + 1)
    show max (Pk t (m + d) l ss cs k) (if l ≤ k then Hj t (m + d) ss (k - l + 1) else 0) + cs.getD k 0 ≤ max (Pk t m l ss cs k) (if l ≤ k then Hj t m ss (k - l + 1) else 0) + cs.getD k 0 + d
    by_cases hk : l ≤ k
    · rw [if_pos hk, if_pos hk]; omega
    · rw [if_neg hk, if_neg hk]; omega
theorem mem_late {t m : Int} {l : Nat} {ss cs : List Int} {k : Nat} : k ∈ lateN t m l ss cs ↔ k < ss.length ∧ Hj t m ss k < Pk t m l ss cs (k + 1) := by
  unfold lateN
  rw [List.mem_filter, List.mem_range]
  simp
theorem late_mono {t m m' : Int} {l : Nat} {ss cs : List Int} (h : lateN t m l ss cs = []) (hm : m ≤ m') : lateN t m' l ss cs = [] := by
  apply List.eq_nil_iff_forall_not_mem.mpr
  intro k hk
  obtain ⟨h1, h2⟩ := mem_late.mp hk
  have h3 : k ∈ lateN t m l ss cs := mem_late.mpr ⟨h1, by
    have a := Hj_add t m (m' - m) ss k
    have b := Pk_add (t := t) (m := m) (d := m' - m) (by omega) l ss cs (k + 1)
    rw [show m + (m' - m) = m' by omega] at a b
    omega⟩
  rw [h] at h3
  cases h3
theorem take_mono {B : Int} {cs : List Int} (h : ∀ c ∈ cs, 0 ≤ c ∧ c ≤ B) {i j : Nat} (hij : i ≤ j) : (cs.take i).sum ≤ (cs.take j).sum := by
  have e := sum_mid (xs := cs) hij
  have := sum_le (B := B) (xs := (cs.drop i).take (j - i)) fun x hx => h x (List.mem_of_mem_drop (List.mem_of_mem_take hx))
  omega
theorem Pk_gt {t m : Int} {l : Nat} {ss cs : List Int} (P : PlanOk ss cs) : ∀ (k : Nat), k ≤ ss.length → ∀ y : Int, (y < Pk t m l ss cs k ↔ y < (cs.take k).sum ∨ ∃ b, b < k ∧ l ≤ b ∧ y < Hj t m ss (b - l + 1) + ((cs.take k).sum - (cs.take b).sum))
  | 0, _, y => by
    show y < 0 ↔ _
    simp
  | k + 1, hk, y => by
    have ih := Pk_gt (t := t) (m := m) (l := l) P k (by omega) (y - cs.getD k 0)
    have hc := cs_at P (k := k) (by omega)
    have hs := take_sum_succ hc
    have hm := P.c _ (List.mem_of_getElem? hc)
    have h0 := sum_le (B := 10000) (xs := cs.take k) fun x hx => P.c x (List.mem_of_mem_take hx)
    show y < max (Pk t m l ss cs k) (if l ≤ k then Hj t m ss (k - l + 1) else 0) + cs.getD k 0 ↔ _
    have e : y < max (Pk t m l ss cs k) (if l ≤ k then Hj t m ss (k - l + 1) else 0) + cs.getD k 0 ↔ y - cs.getD k 0 < Pk t m l ss cs k ∨ y - cs.getD k 0 < (if l ≤ k then Hj t m ss (k - l + 1) else 0) := by omega
    rw [e, ih, hs]
    constructor
    · rintro ((h | ⟨b, h1, h2, h3⟩) | h)
      · exact .inl (by omega)
      · exact .inr ⟨b, by omega, h2, by omega⟩
      · by_cases hl : l ≤ k
        · rw [if_pos hl] at h
          exact .inr ⟨k, by omega, hl, by omega⟩
        · rw [if_neg hl] at h
          exact .inl (by omega)
    · rintro (h | ⟨b, h1, h2, h3⟩)
      · exact .inl (.inl (by omega))
      · by_cases hb : b = k
        · subst hb
          exact .inr (by rw [if_pos h2]; omega)
        · exact .inl (.inr ⟨b, by omega, h2, by omega⟩)
theorem late_top {t : Int} {l : Nat} {ss cs : List Int} (P : PlanOk ss cs) (ht : 1 ≤ t) (hl : 1 ≤ l) {a : Nat} : a ∈ lateN t cs.sum l ss cs ↔ a < ss.length ∧ nevB t l ss cs a = true := by
  rw [mem_late]
  constructor
  · rintro ⟨h1, h2⟩
    refine ⟨h1, ?_⟩
    rw [Pk_gt P (a + 1) (by omega)] at h2
    have hs := sum_le (B := 1000) (xs := ss.take a) fun x hx => by
      have := P.s x (List.mem_of_mem_take hx)
      omega
    have hts : 0 ≤ t * (ss.take a).sum := Int.mul_nonneg (by omega) hs.1
    rcases h2 with h2 | ⟨b, h3, h4, h5⟩
    · have hm := take_mono (B := 10000) P.c (i := a + 1) (j := cs.length) (by have := P.len; omega)
      rw [List.take_length] at hm
      unfold Hj at h2
      omega
    · unfold nevB nevF
      rw [List.any_eq_true]
      refine ⟨a - b, List.mem_range'.mpr ⟨a - b, by omega, by omega⟩, decide_eq_true ?_⟩
      rw [show a - (a - b) = b by omega]
      unfold nevC Hj at *
      rw [Int.mul_sub]
      omega
  · rintro ⟨h1, h2⟩
    refine ⟨h1, ?_⟩
    rw [Pk_gt P (a + 1) (by omega)]
    unfold nevB nevF at h2
    rw [List.any_eq_true] at h2
    obtain ⟨i, h3, h4⟩ := h2
    obtain ⟨j, h5, h6⟩ := List.mem_range'.mp h3
    have h7 := of_decide_eq_true h4
    refine .inr ⟨a - i, by omega, by omega, ?_⟩
    unfold nevC at h7
    unfold Hj
    rw [Int.mul_sub] at h7
    omega
def neverN (t : Int) (l : Nat) (ss cs : List Int) : List Nat := (List.range ss.length).filter fun a => decide (l ≤ a) && nevB t l ss cs a
theorem nevB_low {t : Int} {l : Nat} {ss cs : List Int} {a : Nat} (h : ¬ l ≤ a) : nevB t l ss cs a = false := by
  unfold nevB nevF
  rw [show a + 1 - l = 0 by omega]
  rfl
theorem neverN_top {t : Int} {l : Nat} {ss cs : List Int} (P : PlanOk ss cs) (ht : 1 ≤ t) (hl : 1 ≤ l) : neverN t l ss cs = lateN t cs.sum l ss cs := by
  unfold neverN lateN
  apply List.filter_congr
  intro a ha
  have h := late_top P ht hl (a := a)
  have ha' := range_mem ha
  rw [mem_late] at h
  by_cases h1 : Hj t cs.sum ss a < Pk t cs.sum l ss cs (a + 1)
  · rw [decide_eq_true h1, (h.mp ⟨ha', h1⟩).2, Bool.and_true]
    refine decide_eq_true ?_
    by_cases hla : l ≤ a
    · exact hla
    · have := (h.mp ⟨ha', h1⟩).2
      rw [nevB_low hla] at this; cases this
  · rw [decide_eq_false h1]
    cases hn : nevB t l ss cs a with
    | false => rw [Bool.and_false]
    | true => exact absurd (h.mpr ⟨ha', hn⟩).2 h1
/-- the least lateness at which no block is late -/
structure Least (t : Int) (l : Nat) (ss cs : List Int) (M : Int) : Prop where
  lo : 0 ≤ M
  hi : M ≤ cs.sum
  none : lateN t M l ss cs = []
  some : ∀ m, 0 ≤ m → m < M → lateN t m l ss cs ≠ []
theorem Least.one {t : Int} {l : Nat} {ss cs : List Int} {M N : Int} (h : Least t l ss cs M) (h' : Least t l ss cs N) : M = N := by
  by_cases h1 : M < N
  · exact absurd h.none (h'.some M h.lo h1)
  · by_cases h2 : N < M
    · exact absurd h'.none (h.some N h'.lo h2)
    · omega
end law_k18

set_option Elab.async false
set_option linter.all false
set_option maxRecDepth 100000
set_option maxHeartbeats 4000000
namespace law_k18
open PySem PySem.Spec PyProof.Rows L2 PI PL
local macro_rules | `(tactic| trivial) => `(tactic| first
  | exact ok_c
  | ((with_reducible show Ok (rVar _ _ _) _ _); exact ok_var (by rfl))
  | exact ok_nil
  | ((with_reducible show Ok (RE.ofO _) _ _); first
    | with_reducible exact ok_add | with_reducible exact ok_sub | with_reducible exact ok_neg | with_reducible exact ok_lt | with_reducible exact ok_gt | with_reducible exact ok_le | with_reducible exact ok_ge
    | with_reducible exact ok_eqi | with_reducible exact ok_nei | with_reducible exact ok_len | with_reducible exact ok_tupleT | exact ok_ofO (by rfl))
  | ((with_reducible show Ok (rCons _ _ _ _) _ _); exact ok_cons (by trivial) (fun _ _ => by trivial))
  | ((with_reducible show Ok (rBin _ _ _ _ _) _ _); exact ok_bin (by trivial) (fun _ _ => by trivial) (fun _ _ => by trivial))
  | ((with_reducible show Ok (rUn _ _ _ _) _ _); exact ok_un (by trivial) (fun _ _ => by trivial))
  | ((with_reducible show Ok (rCall _ _ _ _) _ _); exact ok_call (by trivial) (fun _ _ => by trivial))
  | ((with_reducible show Ok (rDef _ _ _ _) _ _); exact ok_def (by trivial) (fun _ _ => by trivial))
  | ((with_reducible show Ok (rTup _ _ _) _ _); exact ok_tup (by trivial) (by simp))
  | ((with_reducible show Ok (rTBl _ _ _) _ _); exact ok_tbl (by trivial))
  | ((with_reducible show Ok (rTNot _ _ _) _ _); exact ok_tnot (by trivial))
  | ((with_reducible show Ok (rTOr _ _ _ _) _ _); exact ok_tor (by trivial) (fun _ _ _ => by trivial))
  | ((with_reducible show Ok (rTru _ _ _) _ _); exact ok_trub (by trivial))
  | assumption)
local macro_rules | `(tactic| trivial) => `(tactic| ((with_reducible show Ok (d_is_from _ _) _ _); exact from_yes (by omega) (by omega) _))
local macro_rules | `(tactic| trivial) => `(tactic| ((with_reducible show Ok (d_is_many _ _) _ _); exact many2 _ _ _))
local macro_rules | `(tactic| trivial) => `(tactic| ((with_reducible show Ok (d_is_plan _ _) _ _); exact plan_ok (by assumption) _))
local macro_rules | `(tactic| trivial) => `(tactic| ((with_reducible show Ok (d_check_plan _ _) _ _); exact check_ok (by assumption) (by omega) (by omega) _))
local macro_rules | `(tactic| trivial) => `(tactic| ((with_reducible show Ok (d_check_hearing _ _) _ _); exact hear_ok (by assumption) (by omega) (by omega) (by omega) (by omega) (by omega) (by omega) _))
local macro_rules | `(tactic| trivial) => `(tactic| ((with_reducible show Ok (d_is_never _ _) _ _); exact never_ok (by assumption) (by omega) (by omega) (by omega) (by omega) (by omega) _))
local macro_rules | `(tactic| trivial) => `(tactic| ((with_reducible show Ok (d_late_blocks _ _) _ _); exact late_ok (by assumption) (by omega) (by omega) (by omega) (by omega) (by omega) (by omega) _))
local macro_rules | `(tactic| trivial) => `(tactic| ((with_reducible show Ok (d__law_late _ _) _ _); exact llate_ok (by assumption) (by omega) (by omega) (by omega) _))
local macro_rules | `(tactic| trivial) => `(tactic| ((with_reducible show Ok (d_heard_times _ _) _ _); exact heard_ok (by assumption) (by omega) (by omega) (by omega) (by omega) _))
local macro_rules | `(tactic| trivial) => `(tactic| ((with_reducible show Ok (d_played_times _ _) _ _); exact played_ok (by assumption) (by omega) (by omega) (by omega) (by omega) (by omega) (by omega) _))
theorem nat_ints (ks : List Nat) : (ks.map fun k => IV.int (k : Nat)) = (ks.map fun k : Nat => (k : Int)).map IV.int := by rw [List.map_map]; rfl
theorem top_le {ss cs : List Int} (P : PlanOk ss cs) : 0 ≤ cs.sum ∧ cs.sum ≤ 600000 := by
  have := sum_le P.c
  have := P.hi
  have := P.len
  omega
theorem late_nil {ss cs : List Int} (P : PlanOk ss cs) {t m : Int} {l : Nat} (h1 : 1 ≤ t) (h2 : t ≤ 100) (h3 : 1 ≤ l) (h4 : l ≤ 60) (h5 : 0 ≤ m) (h6 : m ≤ 10 ^ 7) {as : SemA} {env : IEnv} {st : Sto} (ha : Ok (as env st) st [plan ss cs, .int t, .int l, .int m]) :
    Ok (rBin cEq (rDef d_late_blocks as) (rTup rNil) env st) st (.bl (lateN t m l ss cs).isEmpty) :=
  ok_bin (ok_def ha fun s _ => late_ok P h1 h2 h3 h4 h5 h6 s) (fun _ _ => ok_tup ok_nil (by simp)) fun s _ => ok_ofO (by
    show blO (eqI s (.tup _) (.tup [])) s = _
    rw [nat_ints, eq_ints_nil]
    show some (IV.bl _, s) = _
    rw [show ((lateN t m l ss cs).map fun k : Nat => (k : Int)).isEmpty = (lateN t m l ss cs).isEmpty by cases lateN t m l ss cs <;> rfl])
theorem ok_idx0 {xs : List IV} {v : IV} {st : Sto} : Ok (RE.ofO (idxI (.tup (v :: xs)) (.int 0) st)) st v := ok_idx (at_nat (j := 0) rfl)
theorem whileF_eq {n : Nat} {c : SemT} {b : SemS} {env env' : IEnv} {st st' : Sto} (h : sWhile c b n env st = .nx env' st') : sWhileF (fun _ _ => n) c b env st = .nx env' st' := h
/-- the turn of the search -/
abbrev cLl : SemT := rTBl (rBin cLt (rVar 4) (rVar 5))
abbrev bLl : SemS := (sSeq (sAsg (rBin divI (rBin addI (rVar 4) (rVar 5)) (rC (.int (2)))) (gN 6))
    (sIf (rTBl (rBin cEq (rDef d_late_blocks (rCons (rVar 0) (rCons (rVar 1) (rCons (rVar 2) (rCons (rVar 6) rNil))))) (rTup rNil))) (sAsg (rVar 6) (gN 5)) (sAsg (rBin addI (rVar 6) (rC (.int (1)))) (gN 4))))
theorem search {ss cs : List Int} (P : PlanOk ss cs) {t : Int} {l : Nat} (h1 : 1 ≤ t) (h2 : t ≤ 100) (h3 : 1 ≤ l) (h4 : l ≤ 60) (x3 : Option IV) (x7 : Option IV) : ∀ (n : Nat) (lo hi : Int) (x6 : Option IV) (st : Sto), hi - lo < n → 0 ≤ lo → lo ≤ hi → hi ≤ cs.sum → lateN t hi l ss cs = [] → (∀ m, 0 ≤ m → m < lo → lateN t m l ss cs ≠ []) →
    ∃ M x6' st', sWhile cLl bLl n [some (plan ss cs), some (.int t), some (.int l), x3, some (.int lo), some (.int hi), x6, x7] st = .nx [some (plan ss cs), some (.int t), some (.int l), x3, some (.int M), some (.int M), x6', x7] st' ∧ Gw st st' ∧ Least t l ss cs M
  | 0, lo, hi, x6, st, hn, h5, h6, h7, h8, h9 => absurd hn (by omega)
  | n + 1, lo, hi, x6, st, hn, h5, h6, h7, h8, h9 => by
    have htop := top_le P
    have hw : sWhile cLl bLl (n + 1) [some (plan ss cs), some (.int t), some (.int l), x3, some (.int lo), some (.int hi), x6, x7] st = bif decide (lo < hi) then (bLl [some (plan ss cs), some (.int t), some (.int l), x3, some (.int lo), some (.int hi), x6, x7] st).loop (sWhile cLl bLl n) else .nx [some (plan ss cs), some (.int t), some (.int l), x3, some (.int lo), some (.int hi), x6, x7] st := rfl
    rw [hw]
    by_cases hlt : lo < hi
    · rw [decide_eq_true hlt, cond_true]
      have hmid : lo ≤ (lo + hi) / 2 ∧ (lo + hi) / 2 < hi := by omega
      obtain ⟨s1, e1, g1⟩ := oks_set (i := 6) (a := rBin divI (rBin addI (rVar 4) (rVar 5)) (rC (.int (2)))) (env := [some (plan ss cs), some (.int t), some (.int l), x3, some (.int lo), some (.int hi), x6, x7]) (st := st) (v := .int ((lo + hi) / 2)) (ok_bin (x := .int (lo + hi)) (y := .int 2) (by trivial) (fun _ _ => ok_c) fun _ _ => ok_div (by decide) (sm_of (by decide)))
      obtain ⟨s2, e2, g2⟩ := ok_tbl (late_nil P (m := (lo + hi) / 2) h1 h2 h3 h4 (by omega) (by omega) (as := rCons (rVar 0) (rCons (rVar 1) (rCons (rVar 2) (rCons (rVar 6) rNil)))) (env := [some (plan ss cs), some (.int t), some (.int l), x3, some (.int lo), some (.int hi), some (.int ((lo + hi) / 2)), x7]) (st := s1) (by trivial))
      have hb : bLl [some (plan ss cs), some (.int t), some (.int l), x3, some (.int lo), some (.int hi), x6, x7] st = bif (lateN t ((lo + hi) / 2) l ss cs).isEmpty then .nx [some (plan ss cs), some (.int t), some (.int l), x3, some (.int lo), some (.int ((lo + hi) / 2)), some (.int ((lo + hi) / 2)), x7] s2 else .nx [some (plan ss cs), some (.int t), some (.int l), x3, some (.int ((lo + hi) / 2 + 1)), some (.int hi), some (.int ((lo + hi) / 2)), x7] s2 := by
        unfold bLl
        rw [seq_nx e1]
        show sIf _ _ _ [some (plan ss cs), some (.int t), some (.int l), x3, some (.int lo), some (.int hi), some (.int ((lo + hi) / 2)), x7] s1 = _
        unfold sIf
        rw [e2]
        cases (lateN t ((lo + hi) / 2) l ss cs).isEmpty <;> rfl
      rw [hb]
      cases he : (lateN t ((lo + hi) / 2) l ss cs).isEmpty with
      | true =>
        obtain ⟨M, x6', s3, e3, g3, hM⟩ := search P h1 h2 h3 h4 x3 x7 n lo ((lo + hi) / 2) (some (.int ((lo + hi) / 2))) s2 (by omega) h5 (by omega) (by omega) (List.isEmpty_iff.mp he) h9
        exact ⟨M, x6', s3, e3, (g1.trans g2).trans g3, hM⟩
      | false =>
        obtain ⟨M, x6', s3, e3, g3, hM⟩ := search P h1 h2 h3 h4 x3 x7 n ((lo + hi) / 2 + 1) hi (some (.int ((lo + hi) / 2))) s2 (by omega) (by omega) (by omega) h7 h8 (fun m hm0 hm hnil => by
          have := late_mono hnil (show m ≤ (lo + hi) / 2 by omega)
          rw [this] at he; cases he)
        exact ⟨M, x6', s3, e3, (g1.trans g2).trans g3, hM⟩
    · rw [decide_eq_false hlt, cond_false]
      have : lo = hi := by omega
      subst this
      exact ⟨lo, x6, st, rfl, .refl st, h5, h7, h8, h9⟩
def sNever : IV := .str [110, 101, 118, 101, 114]
def sLate : IV := .str [108, 97, 116, 101]
/-- the first late block at one less, if any -/
def firstV (t : Int) (l : Nat) (ss cs : List Int) (M : Int) : IV := if 0 < M then (match lateN t (M - 1) l ss cs with | [] => .non | k :: _ => .int (k : Nat)) else .non
theorem never_list {ss cs : List Int} (P : PlanOk ss cs) {t : Int} {l : Nat} (h1 : 1 ≤ t) (h2 : t ≤ 100) (h3 : 1 ≤ l) (h4 : l ≤ 60) (x3 x4 x5 x6 x7 : Option IV) (st : Sto) :
    OkL (rLc (fRng1 (rCons (rCall lenI (rCons (rBin idxI (rVar 0) (rC (.int (0)))) rNil)) rNil)) (.one 7) [7] (rTAnd (rTBl (rBin cGe (rVar 7) (rVar 2))) (rTru (rDef d_is_never (rCons (rVar 0) (rCons (rVar 1) (rCons (rVar 2) (rCons (rVar 7) rNil))))))) (rVar 7) [some (plan ss cs), some (.int t), some (.int l), x3, x4, x5, x6, x7] st) st ((neverN t l ss cs).map fun k => .int (k : Nat)) := by
  obtain ⟨s3, e3, g3⟩ := rng1_len (st := st) (env := [some (plan ss cs), some (.int t), some (.int l), x3, x4, x5, x6, x7]) P rfl
  have hle := P.hi
  refine lc_items (fun k : Nat => IV.int (k : Nat)) (fun k => [some (plan ss cs), some (.int t), some (.int l), x3, x4, x5, x6, some (.int (k : Nat))]) (fun a => decide (l ≤ a) && nevB t l ss cs a) (fun k => .int (k : Nat)) (List.range ss.length) e3 g3 (by simp; omega) (fun _ _ => rfl) (fun k hk s gs => ?_) (fun k hk _ s gs => ok_var rfl)
  have hk' := range_mem hk
  refine ok_tand (Ok.eq (ok_tbl (ok_bin (x := .int (k : Nat)) (y := .int (l : Nat)) (ok_var rfl) (fun _ _ => ok_var rfl) fun _ _ => ok_ge)) ?_) fun s' g' hle => ?_
  · rw [Bool.eq_iff_iff]; simp
  · exact ok_trub (ok_def (xs := [plan ss cs, .int t, .int l, .int (k : Nat)]) (ok_cons (ok_var rfl) fun _ _ => ok_cons (ok_var rfl) fun _ _ => ok_cons (ok_var rfl) fun _ _ => ok_cons (ok_var rfl) fun _ _ => ok_nil) fun s _ => never_ok P h1 h2 h3 h4 hk' s)
theorem least_never {ss cs : List Int} (P : PlanOk ss cs) {t : Int} {l a : Nat} {r : List Nat} (h1 : 1 ≤ t) (h2 : t ≤ 100) (h3 : 1 ≤ l) (h4 : l ≤ 60) (hn : neverN t l ss cs = a :: r) (st : Sto) : Ok (d_least_late [plan ss cs, .int t, .int l] st) st (.tup [sNever, .int (a : Nat)]) := by
  unfold d_least_late r_least_late
  refine ok_fn (okr_seq (env' := [some (plan ss cs), some (.int t), some (.int l), none, none, none, none, none]) (oks_expr (v := .non) (by trivial)) fun s1 g1 => ?_)
  obtain ⟨n, s2, e2, g2, hl⟩ := never_list P h1 h2 h3 h4 none none none none none s1
  rw [hn] at hl
  have l1 : sAsg (rLc (fRng1 (rCons (rCall lenI (rCons (rBin idxI (rVar 0) (rC (.int (0)))) rNil)) rNil)) (.one 7) [7] (rTAnd (rTBl (rBin cGe (rVar 7) (rVar 2))) (rTru (rDef d_is_never (rCons (rVar 0) (rCons (rVar 1) (rCons (rVar 2) (rCons (rVar 7) rNil))))))) (rVar 7)) (gN 3) [some (plan ss cs), some (.int t), some (.int l), none, none, none, none, none] s1 = .nx [some (plan ss cs), some (.int t), some (.int l), some (.ref n), none, none, none, none] s2 := by
    unfold sAsg; rw [e2]; rfl
  have hr : OkR (sSeq (sIf (rTBl (rBin cNe (rVar 3) (rLst rNil))) (sRet (rTup (rCons (rC (.str [110, 101, 118, 101, 114])) (rCons (rBin idxI (rVar 3) (rC (.int (0)))) rNil)))) sPass)
    (sSeq (sPar 4 5 (rCons (rC (.int (0))) (rCons (rCall sumT (rCons (rBin idxI (rVar 0) (rC (.int (1)))) rNil)) rNil)))
    (sSeq (sWhileF (fun _ _ => 1000000) cLl bLl)
    (sRet (rTup (rCons (rC (.str [108, 97, 116, 101])) (rCons (rVar 4) (rCons (rIfE (rTBl (rBin cGt (rVar 4) (rC (.int (0))))) (rBin idxI (rDef d_late_blocks (rCons (rVar 0) (rCons (rVar 1) (rCons (rVar 2) (rCons (rBin subI (rVar 4) (rC (.int (1)))) rNil))))) (rC (.int (0)))) (rC .non)) rNil)))))))
     [some (plan ss cs), some (.int t), some (.int l), some (.ref n), none, none, none, none] s2) s2 (.tup [sNever, .int (a : Nat)]) := by
    refine okr_now (okr_ifT (Ok.eq (ok_tbl (ne_nil_L (ys := ((a :: r).map fun k : Nat => (k : Int))) rfl (by rw [hl, nat_ints]))) rfl) fun s3 g3 => okr_ret (ok_tup (ok_cons ok_c fun s4 g4 => ok_cons (ok_bin (x := .ref n) (y := .int 0) (ok_var rfl) (fun _ _ => ok_c) fun s5 g5 => ok_idxL (((g3.trans g4).trans g5).lst hl) (at_nat (j := 0) rfl)) fun _ _ => ok_nil) (by simp)))
  obtain ⟨s3, e3, g3⟩ := hr
  exact ⟨s3, by rw [seq_nx l1]; exact e3, g2.trans g3⟩
end law_k18

set_option Elab.async false
set_option linter.all false
set_option maxRecDepth 100000
set_option maxHeartbeats 4000000
namespace law_k18
open PySem PySem.Spec PyProof.Rows L2 PI PL
local macro_rules | `(tactic| trivial) => `(tactic| first
  | exact ok_c
  | ((with_reducible show Ok (rVar _ _ _) _ _); exact ok_var (by rfl))
  | exact ok_nil
  | ((with_reducible show Ok (RE.ofO _) _ _); first
    | with_reducible exact ok_add | with_reducible exact ok_sub | with_reducible exact ok_neg | with_reducible exact ok_lt | with_reducible exact ok_gt | with_reducible exact ok_le | with_reducible exact ok_ge
    | with_reducible exact ok_eqi | with_reducible exact ok_nei | with_reducible exact ok_len | with_reducible exact ok_tupleT | exact ok_ofO (by rfl))
  | ((with_reducible show Ok (rCons _ _ _ _) _ _); exact ok_cons (by trivial) (fun _ _ => by trivial))
  | ((with_reducible show Ok (rBin _ _ _ _ _) _ _); exact ok_bin (by trivial) (fun _ _ => by trivial) (fun _ _ => by trivial))
  | ((with_reducible show Ok (rUn _ _ _ _) _ _); exact ok_un (by trivial) (fun _ _ => by trivial))
  | ((with_reducible show Ok (rCall _ _ _ _) _ _); exact ok_call (by trivial) (fun _ _ => by trivial))
  | ((with_reducible show Ok (rDef _ _ _ _) _ _); exact ok_def (by trivial) (fun _ _ => by trivial))
  | ((with_reducible show Ok (rTup _ _ _) _ _); exact ok_tup (by trivial) (by simp))
  | ((with_reducible show Ok (rTBl _ _ _) _ _); exact ok_tbl (by trivial))
  | ((with_reducible show Ok (rTNot _ _ _) _ _); exact ok_tnot (by trivial))
  | ((with_reducible show Ok (rTOr _ _ _ _) _ _); exact ok_tor (by trivial) (fun _ _ _ => by trivial))
  | ((with_reducible show Ok (rTru _ _ _) _ _); exact ok_trub (by trivial))
  | assumption)
local macro_rules | `(tactic| trivial) => `(tactic| ((with_reducible show Ok (d_is_from _ _) _ _); exact from_yes (by omega) (by omega) _))
local macro_rules | `(tactic| trivial) => `(tactic| ((with_reducible show Ok (d_is_many _ _) _ _); exact many2 _ _ _))
local macro_rules | `(tactic| trivial) => `(tactic| ((with_reducible show Ok (d_is_plan _ _) _ _); exact plan_ok (by assumption) _))
local macro_rules | `(tactic| trivial) => `(tactic| ((with_reducible show Ok (d_check_plan _ _) _ _); exact check_ok (by assumption) (by omega) (by omega) _))
local macro_rules | `(tactic| trivial) => `(tactic| ((with_reducible show Ok (d_check_hearing _ _) _ _); exact hear_ok (by assumption) (by omega) (by omega) (by omega) (by omega) (by omega) (by omega) _))
local macro_rules | `(tactic| trivial) => `(tactic| ((with_reducible show Ok (d_is_never _ _) _ _); exact never_ok (by assumption) (by omega) (by omega) (by omega) (by omega) (by omega) _))
local macro_rules | `(tactic| trivial) => `(tactic| ((with_reducible show Ok (d_late_blocks _ _) _ _); exact late_ok (by assumption) (by omega) (by omega) (by omega) (by omega) (by omega) (by omega) _))
local macro_rules | `(tactic| trivial) => `(tactic| ((with_reducible show Ok (d__law_late _ _) _ _); exact llate_ok (by assumption) (by omega) (by omega) (by omega) _))
local macro_rules | `(tactic| trivial) => `(tactic| ((with_reducible show Ok (d_heard_times _ _) _ _); exact heard_ok (by assumption) (by omega) (by omega) (by omega) (by omega) _))
local macro_rules | `(tactic| trivial) => `(tactic| ((with_reducible show Ok (d_played_times _ _) _ _); exact played_ok (by assumption) (by omega) (by omega) (by omega) (by omega) (by omega) (by omega) _))
theorem least_late {ss cs : List Int} (P : PlanOk ss cs) {t : Int} {l : Nat} (h1 : 1 ≤ t) (h2 : t ≤ 100) (h3 : 1 ≤ l) (h4 : l ≤ 60) (hn : neverN t l ss cs = []) : ∃ M, Least t l ss cs M ∧ ∀ st, Ok (d_least_late [plan ss cs, .int t, .int l] st) st (.tup [sLate, .int M, firstV t l ss cs M]) := by
  have key : ∀ st, ∃ M, Least t l ss cs M ∧ Ok (d_least_late [plan ss cs, .int t, .int l] st) st (.tup [sLate, .int M, firstV t l ss cs M]) := fun st => by
    obtain ⟨s1, e1, g1⟩ := oks_expr (show Ok (rDef d_check_hearing (rCons (rVar 0) (rCons (rVar 1) (rCons (rVar 2) (rCons (rC (.int (0))) rNil)))) [some (plan ss cs), some (.int t), some (.int l), none, none, none, none, none] st) st .non by trivial)
    obtain ⟨n, s2, e2, g2, hl⟩ := never_list P h1 h2 h3 h4 none none none none none s1
    rw [hn] at hl
    have l1 : sAsg (rLc (fRng1 (rCons (rCall lenI (rCons (rBin idxI (rVar 0) (rC (.int (0)))) rNil)) rNil)) (.one 7) [7] (rTAnd (rTBl (rBin cGe (rVar 7) (rVar 2))) (rTru (rDef d_is_never (rCons (rVar 0) (rCons (rVar 1) (rCons (rVar 2) (rCons (rVar 7) rNil))))))) (rVar 7)) (gN 3) [some (plan ss cs), some (.int t), some (.int l), none, none, none, none, none] s1 = .nx [some (plan ss cs), some (.int t), some (.int l), some (.ref n), none, none, none, none] s2 := by
      unfold sAsg; rw [e2]; rfl
    obtain ⟨s3, e3, g3⟩ := oks_chk (s := sRet (rTup (rCons (rC (.str [110, 101, 118, 101, 114])) (rCons (rBin idxI (rVar 3) (rC (.int (0)))) rNil)))) (Ok.eq (ok_tbl (ne_nil_L (env := [some (plan ss cs), some (.int t), some (.int l), some (.ref n), none, none, none, none]) (st := s2) (i := 3) (ys := []) rfl hl)) rfl)
    obtain ⟨s4, e4, g4⟩ : Ok (rCall sumT (rCons (rBin idxI (rVar 0) (rC (.int (1)))) rNil) [some (plan ss cs), some (.int t), some (.int l), some (.ref n), none, none, none, none] s3) s3 (.int cs.sum) := ok_call (xs := [itup cs]) (ok_cons (ok_bin (x := plan ss cs) (y := .int 1) (ok_var rfl) (fun _ _ => ok_c) fun _ _ => ok_ofO rfl) fun _ _ => ok_nil) fun _ _ => ok_sumT
    have l4 := spar_eq (i := 4) (j := 5) (a := rC (.int 0)) (b := rCall sumT (rCons (rBin idxI (rVar 0) (rC (.int (1)))) rNil)) (env := [some (plan ss cs), some (.int t), some (.int l), some (.ref n), none, none, none, none]) (st := s3) (s1 := s3) (x := .int 0) rfl e4
    have htop := top_le P
    have hall : lateN t cs.sum l ss cs = [] := by rw [← neverN_top P h1 h3]; exact hn
    obtain ⟨M, x6, s5, e5, g5, hM⟩ := search P h1 h2 h3 h4 (some (.ref n)) none 1000000 0 cs.sum none s4 (by omega) (by omega) (by omega) (by omega) hall (fun m h h' => by omega)
    have hfirst : Ok (rIfE (rTBl (rBin cGt (rVar 4) (rC (.int (0))))) (rBin idxI (rDef d_late_blocks (rCons (rVar 0) (rCons (rVar 1) (rCons (rVar 2) (rCons (rBin subI (rVar 4) (rC (.int (1)))) rNil))))) (rC (.int (0)))) (rC .non) [some (plan ss cs), some (.int t), some (.int l), some (.ref n), some (.int M), some (.int M), x6, none] s5) s5 (firstV t l ss cs M) := by
      have hlo := hM.lo
      have hhi := hM.hi
      unfold firstV
      by_cases hp : 0 < M
      · rw [if_pos hp]
        have hne := hM.some (M - 1) (by omega) (by omega)
        refine ok_ifT (Ok.eq (ok_tbl (ok_bin (x := .int M) (y := .int 0) (ok_var rfl) (fun _ _ => ok_c) fun _ _ => ok_gt)) (decide_eq_true hp)) fun s _ => ?_
        refine ok_bin (x := lateV t (M - 1) l ss cs) (y := .int 0) (by trivial) (fun _ _ => ok_c) fun _ _ => ?_
        unfold lateV
        cases hc : lateN t (M - 1) l ss cs with
        | nil => exact absurd hc hne
        | cons k r => exact ok_idx0
      · rw [if_neg hp]
        exact ok_ifF (Ok.eq (ok_tbl (ok_bin (x := .int M) (y := .int 0) (ok_var rfl) (fun _ _ => ok_c) fun _ _ => ok_gt)) (decide_eq_false hp)) fun _ _ => ok_c
    obtain ⟨s6, e6, g6⟩ := okr_ret (ok_tup (ok_cons (ok_c (v := .str [108, 97, 116, 101])) fun s g => ok_cons (ok_var (i := 4) (v := .int M) rfl) fun s' g' => ok_cons (Ok.same (v := firstV t l ss cs M) (m := RE.ok (firstV t l ss cs M) s') rfl) fun _ _ => ok_nil) (by simp) : Ok (rTup (rCons (rC (.str [108, 97, 116, 101])) (rCons (rVar 4) (rCons (fun _ s => RE.ok (firstV t l ss cs M) s) rNil))) [some (plan ss cs), some (.int t), some (.int l), some (.ref n), some (.int M), some (.int M), x6, none] s5) s5 (.tup [sLate, .int M, firstV t l ss cs M]))
    have hr : OkR (sRet (rTup (rCons (rC (.str [108, 97, 116, 101])) (rCons (rVar 4) (rCons (rIfE (rTBl (rBin cGt (rVar 4) (rC (.int (0))))) (rBin idxI (rDef d_late_blocks (rCons (rVar 0) (rCons (rVar 1) (rCons (rVar 2) (rCons (rBin subI (rVar 4) (rC (.int (1)))) rNil))))) (rC (.int (0)))) (rC .non)) rNil)))) [some (plan ss cs), some (.int t), some (.int l), some (.ref n), some (.int M), some (.int M), x6, none] s5) s5 (.tup [sLate, .int M, firstV t l ss cs M]) := by
      obtain ⟨s7, e7, g7⟩ := hfirst
      refine okr_ret ⟨s7, ?_, g7⟩
      unfold rTup
      rw [rcons_eq (v := .str [108, 97, 116, 101]) (s1 := s5) rfl (rcons_eq (v := .int M) (s1 := s5) rfl (rcons_eq e7 rfl))]
      rfl
    obtain ⟨s7, e7, g7⟩ := hr
    refine ⟨M, hM, s7, ?_, (((((g1.trans g2).trans g3).trans g4).trans g5)).trans g7⟩
    unfold d_least_late r_least_late
    refine callI_rt ?_
    show sSeq _ _ [some (plan ss cs), some (.int t), some (.int l), none, none, none, none, none] st = _
    rw [seq_nx e1, seq_nx l1, seq_nx e3, seq_nx l4]
    show sSeq (sWhileF (fun _ _ => 1000000) cLl bLl) _ [some (plan ss cs), some (.int t), some (.int l), some (.ref n), some (.int 0), some (.int cs.sum), none, none] s4 = _
    rw [seq_nx (whileF_eq e5)]
    exact e7
  obtain ⟨M, hM, _⟩ := key { os := [], low := 0 }
  refine ⟨M, hM, fun st => ?_⟩
  obtain ⟨N, hN, h⟩ := key st
  rw [hM.one hN]; exact h
end law_k18

set_option Elab.async false
set_option linter.all false
set_option maxRecDepth 100000
set_option maxHeartbeats 4000000
namespace law_k18
open PySem PySem.Spec PyProof.Rows L2 PI PL
theorem str_eq (s t : List Nat) (st : Sto) : cEq (.str s) (.str t) st = some (.bl (s == t), st) := rfl
theorem pair_ne (s : List Nat) (a b : Int) (st : Sto) : cNe (.tup [.str s, .int a]) (.tup [.str s, .int b]) st = some (.bl (!decide (a = b)), st) := by
  show blN (eqI st (.tup [.str s, .int a]) (.tup [.str s, .int b])) st = _
  have : eqI st (.tup [.str s, .int a]) (.tup [.str s, .int b]) = some (decide (a = b)) := by
    show some (PyData.eqv (.tuple [.str ⟨s.toArray⟩, .int a]) (.tuple [.str ⟨s.toArray⟩, .int b])) = _
    simp [PyData.eqv, PyData.eqvAll]
    rw [Bool.eq_iff_iff]; simp
  rw [this]; rfl
theorem anyEq_nats (st : Sto) (k : Nat) : ∀ ks : List Nat, anyEq st (.int (k : Nat)) (ks.map fun j => .int (j : Nat)) = some (decide (k ∈ ks))
  | [] => rfl
  | j :: ks => by
    rw [List.map_cons]
    show (match eqI st (.int (j : Nat)) (.int (k : Nat)) with
      | some b => match anyEq st (.int (k : Nat)) (ks.map fun j => .int (j : Nat)) with
        | some c => some (b || c)
        | none => none
      | none => none) = _
    rw [anyEq_nats st k ks]
    show some (decide ((j : Int) = (k : Int)) || decide (k ∈ ks)) = _
    congr 1
    rw [Bool.eq_iff_iff]
    simp only [Bool.or_eq_true, decide_eq_true_eq, List.mem_cons]
    constructor
    · rintro (h | h)
      · exact .inl (by omega)
      · exact .inr h
    · rintro (h | h)
      · exact .inl (by omega)
      · exact .inr h
theorem in_nats (st : Sto) (k : Nat) (ks : List Nat) : cIn (.int (k : Nat)) (.tup (ks.map fun j => .int (j : Nat))) st = some (.bl (decide (k ∈ ks)), st) := by
  show blO (inI st (.int (k : Nat)) (.tup (ks.map fun j => .int (j : Nat)))) st = _
  have : inI st (.int (k : Nat)) (.tup (ks.map fun j => .int (j : Nat))) = anyEq st (.int (k : Nat)) (ks.map fun j => .int (j : Nat)) := rfl
  rw [this, anyEq_nats]; rfl
theorem len_plan1 {ss cs : List Int} {env : IEnv} {st : Sto} (he : env[0]? = some (some (plan ss cs))) : Ok (rBin subI (rCall lenI (rCons (rBin idxI (rVar 0) (rC (.int (0)))) rNil)) (rC (.int (1))) env st) st (.int ((ss.length : Int) - 1)) := ok_bin (len_plan0 he) (fun _ _ => ok_c) fun _ _ => ok_sub
abbrev shNot2 : SemT := rTOr (rTNot (rTru (rDef d_is_many (rCons (rVar 3) (rCons (rC (.int (2))) rNil))))) (rTOr (rTBl (rBin cNe (rBin idxI (rVar 3) (rC (.int (0)))) (rC (.str [110, 101, 118, 101, 114])))) (rTNot (rTru (rDef d_is_from (rCons (rBin idxI (rVar 3) (rC (.int (1)))) (rCons (rC (.int (0))) (rCons (rBin subI (rCall lenI (rCons (rBin idxI (rVar 0) (rC (.int (0)))) rNil)) (rC (.int (1)))) rNil)))))))
section
variable {ss cs : List Int} (P : PlanOk ss cs) {t : Int} {l a : Nat} {r : List Nat} (h1 : 1 ≤ t) (h2 : t ≤ 100) (h3 : 1 ≤ l) (h4 : l ≤ 60)
include P h1 h2 h3 h4
theorem shows_real {x v : IV} {st : Sto} (hv : ∀ st, Ok (d_least_late [plan ss cs, .int t, .int l] st) st v) {q : SemS} {w : IV} (h : ∀ st1, Gw st st1 → OkR (q [some (plan ss cs), some (.int t), some (.int l), some x, some v] st1) st1 w) :
    Ok (callI 5 (sSeq (sAsg (rDef d_least_late (rCons (rVar 0) (rCons (rVar 1) (rCons (rVar 2) rNil)))) (gN 4)) q) [plan ss cs, .int t, .int l, x] st) st w :=
  ok_fn (okr_seq (env' := [some (plan ss cs), some (.int t), some (.int l), some x, some v]) (oks_set (ok_def (xs := [plan ss cs, .int t, .int l]) (ok_cons (ok_var rfl) fun _ _ => ok_cons (ok_var rfl) fun _ _ => ok_cons (ok_var rfl) fun _ _ => ok_nil) fun s _ => hv s)) h)
theorem never_c {x : IV} {a : Int} {st : Sto} {E : IEnv} (hE : E[4]? = some (some (.tup [sNever, .int a]))) : Ok (rTBl (rBin cEq (rBin idxI (rVar 4) (rC (.int (0)))) (rC (.str [110, 101, 118, 101, 114]))) E st) st true :=
  ok_tbl (ok_bin (x := sNever) (y := sNever) (ok_bin (x := .tup [sNever, .int a]) (y := .int 0) (ok_var hE) (fun _ _ => ok_c) fun _ _ => ok_idx0) (fun _ _ => ok_c) fun _ _ => ok_ofO rfl)
theorem late_c {M : Int} {v : IV} {st : Sto} {E : IEnv} {i : Nat} (hE : E[i]? = some (some (.tup [sLate, .int M, v]))) : Ok (rTBl (rBin cEq (rBin idxI (rVar i) (rC (.int (0)))) (rC (.str [110, 101, 118, 101, 114]))) E st) st false :=
  ok_tbl (ok_bin (x := sLate) (y := sNever) (ok_bin (x := .tup [sLate, .int M, v]) (y := .int 0) (ok_var hE) (fun _ _ => ok_c) fun _ _ => ok_idx0) (fun _ _ => ok_c) fun _ _ => ok_ofO rfl)
/-- not a pair: refused when the answer is never -/
theorem shows_n2 (hn : neverN t l ss cs = a :: r) {x : IV} {st : Sto} (hx : ∀ st1, Gw st st1 → Ok (d_is_many [x, .int 2] st1) st1 (.bl false)) : Ok (d_shows_least_late [plan ss cs, .int t, .int l, x] st) st (.bl false) := by
  unfold d_shows_least_late r_shows_least_late
  refine shows_real P h1 h2 h3 h4 (least_never P h1 h2 h3 h4 hn) fun s1 g1 => okr_now (okr_ifT (never_c P h1 h2 h3 h4 (x := x) rfl) fun s2 g2 => okr_now (okr_ifT (Ok.eq (ok_tor (k := true) (ok_tnot (ok_trub (k := false) (ok_def (xs := [x, .int 2]) (ok_cons (ok_var rfl) fun _ _ => ok_cons ok_c fun _ _ => ok_nil) fun s3 g3 => hx s3 ((g1.trans g2).trans g3)))) fun _ _ h => nomatch h) (Bool.true_or false)) fun s2 g2 => okr_ret ok_c))
theorem shows_nT (hn : neverN t l ss cs = a :: r) (st : Sto) : Ok (d_shows_least_late [plan ss cs, .int t, .int l, .tup [sNever, .bl true]] st) st (.bl false) := by
  unfold d_shows_least_late r_shows_least_late
  refine shows_real P h1 h2 h3 h4 (least_never P h1 h2 h3 h4 hn) fun s1 g1 => okr_now (okr_ifT (never_c P h1 h2 h3 h4 (x := .non) rfl) fun s2 g2 => okr_now (okr_ifT (Ok.eq (ok_tor (k := false) (l := true) (ok_tnot (ok_trub (k := true) (ok_def (xs := [.tup [sNever, .bl true], .int 2]) (ok_cons (ok_var rfl) fun _ _ => ok_cons ok_c fun _ _ => ok_nil) fun s3 g3 => many2 _ _ _))) fun s4 g4 _ => Ok.eq (ok_tor (k := false) (l := true) (ok_tbl (ok_bin (x := sNever) (y := sNever) (ok_bin (x := .tup [sNever, .bl true]) (y := .int 0) (ok_var rfl) (fun _ _ => ok_c) fun _ _ => ok_idx0) (fun _ _ => ok_c) fun _ _ => ok_ofO rfl)) fun s5 g5 _ => ok_tnot (ok_trub (k := false) ?_)) rfl) rfl) fun s2 g2 => okr_ret ok_c))
  exact ok_def (xs := [.bl true, .int 0, .int ((ss.length : Int) - 1)]) (ok_cons (ok_bin (x := .tup [sNever, .bl true]) (y := .int 1) (ok_var rfl) (fun _ _ => ok_c) fun _ _ => ok_ofO rfl) fun _ _ => ok_cons ok_c fun _ _ => ok_cons (len_plan1 rfl) fun _ _ => ok_nil) fun _ _ => .same rfl
theorem shows_nk (hn : neverN t l ss cs = a :: r) (k : Nat) (st : Sto) : Ok (d_shows_least_late [plan ss cs, .int t, .int l, .tup [sNever, .int (k : Nat)]] st) st (.bl (decide (k ∈ neverN t l ss cs))) := by
  unfold d_shows_least_late r_shows_least_late
  refine shows_real P h1 h2 h3 h4 (least_never P h1 h2 h3 h4 hn) fun s1 g1 => okr_now (okr_ifT (never_c P h1 h2 h3 h4 (x := .non) rfl) fun s2 g2 => ?_)
  have hcond : ∀ st, Ok (shNot2 [some (plan ss cs), some (.int t), some (.int l), some (.tup [sNever, .int (k : Nat)]), some (.tup [sNever, .int (a : Nat)])] st) st (!(decide ((0 : Int) ≤ k) && decide ((k : Int) ≤ (ss.length : Int) - 1))) := fun st => by
    refine Ok.eq (ok_tor (k := false) (ok_tnot (ok_trub (k := true) (ok_def (xs := [.tup [sNever, .int (k : Nat)], .int 2]) (ok_cons (ok_var rfl) fun _ _ => ok_cons ok_c fun _ _ => ok_nil) fun s3 g3 => many2 _ _ _))) fun s4 g4 _ => ok_tor (k := false) (ok_tbl (ok_bin (x := sNever) (y := sNever) (ok_bin (x := .tup [sNever, .int (k : Nat)]) (y := .int 0) (ok_var rfl) (fun _ _ => ok_c) fun _ _ => ok_idx0) (fun _ _ => ok_c) fun _ _ => ok_ofO rfl)) fun s5 g5 _ => ok_tnot (ok_trub ?_)) (Bool.false_or _)
    exact ok_def (xs := [.int (k : Nat), .int 0, .int ((ss.length : Int) - 1)]) (ok_cons (ok_bin (x := .tup [sNever, .int (k : Nat)]) (y := .int 1) (ok_var rfl) (fun _ _ => ok_c) fun _ _ => ok_ofO rfl) fun _ _ => ok_cons ok_c fun _ _ => ok_cons (len_plan1 rfl) fun _ _ => ok_nil) fun s _ => .same (from_ok _ _ _ s)
  have hmem : (k ∈ neverN t l ss cs) ↔ (k < ss.length ∧ l ≤ k ∧ nevB t l ss cs k = true) := by
    unfold neverN
    rw [List.mem_filter, List.mem_range]
    simp
  by_cases hk : k < ss.length
  · refine okr_seq (oks_chk (Ok.eq (hcond s2) (by rw [decide_eq_true (show (0 : Int) ≤ k by omega), decide_eq_true (show (k : Int) ≤ (ss.length : Int) - 1 by omega)]; rfl))) fun s3 g3 => okr_ret (Ok.eq (ok_and (k := decide (l ≤ k)) (l := nevB t l ss cs k) (Ok.eq (ok_bin (x := .int (k : Nat)) (y := .int (l : Nat)) (ok_bin (x := .tup [sNever, .int (k : Nat)]) (y := .int 1) (ok_var rfl) (fun _ _ => ok_c) fun _ _ => ok_ofO rfl) (fun _ _ => ok_var rfl) fun _ _ => ok_ge) ?_) fun s4 g4 _ => ok_def (xs := [plan ss cs, .int t, .int l, .int (k : Nat)]) (ok_cons (ok_var rfl) fun _ _ => ok_cons (ok_var rfl) fun _ _ => ok_cons (ok_var rfl) fun _ _ => ok_cons (ok_bin (x := .tup [sNever, .int (k : Nat)]) (y := .int 1) (ok_var rfl) (fun _ _ => ok_c) fun _ _ => ok_ofO rfl) fun _ _ => ok_nil) fun s _ => never_ok P h1 h2 h3 h4 hk s) ?_)
    · congr 1
      rw [Bool.eq_iff_iff]; simp
    · congr 1
      rw [Bool.eq_iff_iff, decide_eq_true_eq, hmem]
      simp [hk]
  · refine okr_now (okr_ifT (Ok.eq (hcond s2) (by rw [decide_eq_false (show ¬ (k : Int) ≤ (ss.length : Int) - 1 by omega), Bool.and_false]; rfl)) fun s3 g3 => okr_ret (Ok.eq (ok_c (v := .bl false)) ?_))
    congr 1
    symm
    rw [decide_eq_false_iff_not, hmem]
    omega
abbrev shNot3 : SemT := rTOr (rTNot (rTru (rDef d_is_many (rCons (rVar 3) (rCons (rC (.int (3))) rNil))))) (rTOr (rTBl (rBin cNe (rSl (rVar 3) rNoPart (rPart (rC (.int (2))))) (rSl (rVar 4) rNoPart (rPart (rC (.int (2))))))) (rTNot (rTru (rDef d_is_from (rCons (rBin idxI (rVar 3) (rC (.int (1)))) (rCons (rC (.int (0))) (rCons (rC g_MOST_LATE) rNil)))))))
theorem shows_l3 {M : Int} {v : IV} (hv : ∀ st, Ok (d_least_late [plan ss cs, .int t, .int l] st) st (.tup [sLate, .int M, v])) {x : IV} {st : Sto} (hx : ∀ st1, Gw st st1 → Ok (d_is_many [x, .int 3] st1) st1 (.bl false)) : Ok (d_shows_least_late [plan ss cs, .int t, .int l, x] st) st (.bl false) := by
  unfold d_shows_least_late r_shows_least_late
  exact shows_real P h1 h2 h3 h4 hv fun s1 g1 => okr_seq (oks_chk (late_c P h1 h2 h3 h4 rfl)) fun s2 g2 => okr_now (okr_ifT (Ok.eq (ok_tor (k := true) (ok_tnot (ok_trub (k := false) (ok_def (xs := [x, .int 3]) (ok_cons (ok_var rfl) fun _ _ => ok_cons ok_c fun _ _ => ok_nil) fun s3 g3 => hx s3 ((g1.trans g2).trans g3)))) fun _ _ h => nomatch h) (Bool.true_or false)) fun s2 g2 => okr_ret ok_c)
theorem not3 {M N : Int} {v w : IV} (hN : 0 ≤ N) (hN2 : N ≤ 10 ^ 7) (st : Sto) : Ok (shNot3 [some (plan ss cs), some (.int t), some (.int l), some (.tup [sLate, .int N, w]), some (.tup [sLate, .int M, v])] st) st (!decide (N = M)) := by
  refine Ok.eq (ok_tor (k := false) (l := !decide (N = M)) (ok_tnot (ok_trub (k := true) (ok_def (xs := [.tup [sLate, .int N, w], .int 3]) (ok_cons (ok_var rfl) fun _ _ => ok_cons ok_c fun _ _ => ok_nil) fun s3 g3 => .same rfl))) fun s1 g1 _ => Ok.eq (ok_tor (k := !decide (N = M)) (l := false) (ok_tbl (ok_bin (x := .tup [sLate, .int N]) (y := .tup [sLate, .int M]) (ok_slTo (xs := [sLate, .int N, w]) (n := 2) (ok_var rfl) fun _ _ => ok_c) (fun _ _ => ok_slTo (xs := [sLate, .int M, v]) (n := 2) (ok_var rfl) fun _ _ => ok_c) fun s _ => ok_ofO (pair_ne _ N M s))) fun s2 g2 _ => ok_tnot (ok_trub (k := true) (ok_def (xs := [.int N, .int 0, .int (10 ^ 7)]) (ok_cons (ok_bin (x := .tup [sLate, .int N, w]) (y := .int 1) (ok_var rfl) (fun _ _ => ok_c) fun _ _ => ok_ofO rfl) fun _ _ => ok_cons ok_c fun _ _ => ok_cons ok_c fun _ _ => ok_nil) fun s _ => from_yes hN hN2 s))) (Bool.or_false _)) (Bool.false_or _)
theorem shows_lM {M N : Int} {v w : IV} (hv : ∀ st, Ok (d_least_late [plan ss cs, .int t, .int l] st) st (.tup [sLate, .int M, v])) (hN : 0 ≤ N) (hN2 : N ≤ 10 ^ 7) (hne : N ≠ M) (st : Sto) : Ok (d_shows_least_late [plan ss cs, .int t, .int l, .tup [sLate, .int N, w]] st) st (.bl false) := by
  unfold d_shows_least_late r_shows_least_late
  exact shows_real P h1 h2 h3 h4 hv fun s1 g1 => okr_seq (oks_chk (late_c P h1 h2 h3 h4 rfl)) fun s2 g2 => okr_now (okr_ifT (Ok.eq (not3 P h1 h2 h3 h4 hN hN2 s2) (by rw [decide_eq_false hne]; rfl)) fun s2 g2 => okr_ret ok_c)
theorem shows_l0 {v : IV} {w : IV} {b : Bool} (hv : ∀ st, Ok (d_least_late [plan ss cs, .int t, .int l] st) st (.tup [sLate, .int 0, v])) (hw : isNI w .non = some b) (st : Sto) : Ok (d_shows_least_late [plan ss cs, .int t, .int l, .tup [sLate, .int 0, w]] st) st (.bl b) := by
  unfold d_shows_least_late r_shows_least_late
  refine shows_real P h1 h2 h3 h4 hv fun s1 g1 => okr_seq (oks_chk (late_c P h1 h2 h3 h4 rfl)) fun s2 g2 => okr_seq (oks_chk (Ok.eq (not3 P h1 h2 h3 h4 (by decide) (by decide) s2) (by rw [decide_eq_true rfl]; rfl))) fun s3 g3 => okr_now (okr_ifT (Ok.eq (ok_tbl (ok_bin (x := .int 0) (y := .int 0) (ok_bin (x := .tup [sLate, .int 0, w]) (y := .int 1) (ok_var rfl) (fun _ _ => ok_c) fun _ _ => ok_ofO rfl) (fun _ _ => ok_c) fun _ _ => ok_eqi)) rfl) fun s4 g4 => okr_ret (ok_bin (x := w) (y := .non) (ok_bin (x := .tup [sLate, .int 0, w]) (y := .int 2) (ok_var rfl) (fun _ _ => ok_c) fun _ _ => ok_ofO rfl) (fun _ _ => ok_c) fun s _ => ok_ofO ?_))
  show blO (isNI w .non) s = _
  rw [hw]; rfl
theorem shows_lk {M : Int} {v : IV} {k : Nat} (hv : ∀ st, Ok (d_least_late [plan ss cs, .int t, .int l] st) st (.tup [sLate, .int M, v])) (hM : 0 < M) (hM2 : M ≤ 10 ^ 7) (hk : k < ss.length) (st : Sto) : Ok (d_shows_least_late [plan ss cs, .int t, .int l, .tup [sLate, .int M, .int (k : Nat)]] st) st (.bl (decide (k ∈ lateN t (M - 1) l ss cs))) := by
  unfold d_shows_least_late r_shows_least_late
  refine shows_real P h1 h2 h3 h4 hv fun s1 g1 => okr_seq (oks_chk (late_c P h1 h2 h3 h4 rfl)) fun s2 g2 => okr_seq (oks_chk (Ok.eq (not3 P h1 h2 h3 h4 (by omega) hM2 s2) (by rw [decide_eq_true rfl]; rfl))) fun s3 g3 => okr_seq (oks_chk (Ok.eq (ok_tbl (ok_bin (x := .int M) (y := .int 0) (ok_bin (x := .tup [sLate, .int M, .int (k : Nat)]) (y := .int 1) (ok_var rfl) (fun _ _ => ok_c) fun _ _ => ok_ofO rfl) (fun _ _ => ok_c) fun _ _ => ok_eqi)) (decide_eq_false (by omega)))) fun s4 g4 => okr_ret (Ok.eq (ok_and (k := true) (l := decide (k ∈ lateN t (M - 1) l ss cs)) (ok_def (xs := [.int (k : Nat), .int 0, .int ((ss.length : Int) - 1)]) (ok_cons (ok_bin (x := .tup [sLate, .int M, .int (k : Nat)]) (y := .int 2) (ok_var rfl) (fun _ _ => ok_c) fun _ _ => ok_ofO rfl) fun _ _ => ok_cons ok_c fun _ _ => ok_cons (len_plan1 rfl) fun _ _ => ok_nil) fun s _ => from_yes (by omega) (by omega) s) fun s5 g5 _ => ok_bin (x := .int (k : Nat)) (y := lateV t (M - 1) l ss cs) (ok_bin (x := .tup [sLate, .int M, .int (k : Nat)]) (y := .int 2) (ok_var rfl) (fun _ _ => ok_c) fun _ _ => ok_ofO rfl) (fun _ _ => ok_def (xs := [plan ss cs, .int t, .int l, .int (M - 1)]) (ok_cons (ok_var rfl) fun _ _ => ok_cons (ok_var rfl) fun _ _ => ok_cons (ok_var rfl) fun _ _ => ok_cons (ok_bin (x := .int M) (y := .int 1) (ok_bin (x := .tup [sLate, .int M, .int (k : Nat)]) (y := .int 1) (ok_var rfl) (fun _ _ => ok_c) fun _ _ => ok_ofO rfl) (fun _ _ => ok_c) fun _ _ => ok_sub) fun _ _ => ok_nil) fun s _ => late_ok P h1 h2 h3 h4 (by omega) (by omega) s) fun s _ => ok_ofO (in_nats s k _)) (by rw [Bool.true_and]))
/-- what least_late answers is shown -/
theorem shows_told {M : Int} (hM : Least t l ss cs M) (hv : ∀ st, Ok (d_least_late [plan ss cs, .int t, .int l] st) st (.tup [sLate, .int M, firstV t l ss cs M])) (st : Sto) : Ok (d_shows_least_late [plan ss cs, .int t, .int l, .tup [sLate, .int M, firstV t l ss cs M]] st) st (.bl true) := by
  have htop := top_le P
  have hhi := hM.hi
  have hlo := hM.lo
  by_cases hp : 0 < M
  · have hne := hM.some (M - 1) (by omega) (by omega)
    have hf : ∃ k, firstV t l ss cs M = .int (k : Nat) ∧ k ∈ lateN t (M - 1) l ss cs := by
      unfold firstV
      rw [if_pos hp]
      cases hc : lateN t (M - 1) l ss cs with
      | nil => exact absurd hc hne
      | cons k r => exact ⟨k, rfl, List.mem_cons_self⟩
    obtain ⟨k, e, hk⟩ := hf
    rw [e] at hv ⊢
    exact Ok.eq (shows_lk P h1 h2 h3 h4 hv hp (by omega) (mem_late.mp hk).1 st) (by rw [decide_eq_true hk])
  · have : M = 0 := by omega
    subst this
    have e : firstV t l ss cs 0 = .non := by unfold firstV; rw [if_neg (by omega)]
    rw [e] at hv ⊢
    exact shows_l0 P h1 h2 h3 h4 hv rfl st
end
end law_k18

set_option Elab.async false
set_option linter.all false
set_option maxRecDepth 100000
set_option maxHeartbeats 4000000
namespace law_k18
open PySem PySem.Spec PyProof.Rows L2 PI PL
def delayL (t M : Int) (l : Nat) (ss cs : List Int) : List Int := (List.range ss.length).map fun k => Hj t M ss k - Pk t M l ss cs (k + 1) + cs.getD k 0
def delayM : List Int → Int
  | [] => 0
  | m :: ns => maxL m ns
theorem zip3_get : ∀ (xs ys zs : List IV) (i : Nat), (zip3I xs ys zs)[i]? = match xs[i]?, ys[i]?, zs[i]? with
    | some x, some y, some z => some (.tup [x, y, z])
    | _, _, _ => none
  | x :: xs, y :: ys, z :: zs, 0 => rfl
  | x :: xs, y :: ys, z :: zs, i + 1 => zip3_get xs ys zs i
  | [], _, _, _ => by simp [zip3I]
  | x :: xs, [], _, i => by
    show ([] : List IV)[i]? = _
    rw [List.getElem?_nil]
    split <;> simp_all
  | x :: xs, y :: ys, [], i => by
    show ([] : List IV)[i]? = _
    rw [List.getElem?_nil]
    split <;> simp_all
theorem rows_eq {ss cs : List Int} (P : PlanOk ss cs) (t M : Int) (l : Nat) : zip3I ((heardL t M ss).map IV.int) ((playedL t M l ss cs).map IV.int) (cs.map IV.int) = (List.range ss.length).map fun k => .tup [.int (Hj t M ss k), .int (Pk t M l ss cs (k + 1)), .int (cs.getD k 0)] := by
  apply List.ext_getElem?
  intro i
  rw [zip3_get]
  by_cases hi : i < ss.length
  · have ea := heardL_at (t := t) (m := M) (ss := ss) (k := i) (by omega)
    have eb := played_at (t := t) (m := M) (l := l) (ss := ss) (cs := cs) (k := i) hi
    have ec : (cs.map IV.int)[i]? = some (.int (cs.getD i 0)) := by rw [List.getElem?_map, cs_at P hi]; rfl
    rw [ea, eb, ec, List.getElem?_map, List.getElem?_range hi]; rfl
  · have h1 : ((List.range ss.length).map fun k => IV.tup [.int (Hj t M ss k), .int (Pk t M l ss cs (k + 1)), .int (cs.getD k 0)])[i]? = none := List.getElem?_eq_none (by rw [List.length_map, List.length_range]; omega)
    have h2 : (cs.map IV.int)[i]? = none := List.getElem?_eq_none (by rw [List.length_map, P.len]; omega)
    rw [h2, h1]
    cases ((heardL t M ss).map IV.int)[i]? <;> cases ((playedL t M l ss cs).map IV.int)[i]? <;> rfl
theorem max_lst {n : Nat} {st : Sto} {xs : List Int} (h : lstAt st n = some (xs.map IV.int)) (hne : xs ≠ []) : maxI [.ref n] st = some (.int (delayM xs), st) := by
  show (match lstAt st n with | some xs => (match intsOf xs with | some (m :: ns) => some (IV.int (maxL m ns), st) | _ => none) | none => none) = _
  rw [h]
  have := ints_map (fun k : Int => k) xs
  rw [List.map_id'] at this
  simp only [show (xs.map IV.int) = xs.map fun k => IV.int k from rfl, this]
  cases xs with
  | nil => exact absurd rfl hne
  | cons x xs => rfl
theorem szip3_eq {f : List IV → Sto → RO} {i : Nat} {rs : SemA} {ct : CT} {vs : List Nat} {te : SemE} {env : IEnv} {st st1 st2 st3 : Sto} {xs ys zs : List IV} {l : List IV} {v : IV} (h : rs env st = .ok [.tup xs, .tup ys, .tup zs] st1) (hi : Nat.blt i env.length = true) (hl : Nat.ble (zip3I xs ys zs).length lineI = true)
    (hc : loopC ct (wipeI (env.set i none) vs) rYes te (zip3I xs ys zs) [] st1 = .ok l st2) (hf : f [.ref st2.os.length] { os := st2.os ++ [.lst l], low := st2.low } = some (v, st3)) : sZip3 f i rs ct vs te env st = .rt v st3 := by
  unfold sZip3
  rw [h]
  simp only [RS.ofE, hi, hl, cond_true, hc, RE.bind, Sto.allocO, RE.ofO, hf]
theorem delay_late {ss cs : List Int} (P : PlanOk ss cs) {t M : Int} {l : Nat} (h1 : 1 ≤ t) (h2 : t ≤ 100) (h3 : 1 ≤ l) (h4 : l ≤ 60) (h5 : 0 ≤ M) (h6 : M ≤ 10 ^ 7) {v : IV} (hv : ∀ st, Ok (d_least_late [plan ss cs, .int t, .int l] st) st (.tup [sLate, .int M, v])) (st : Sto) : Ok (d_delay_of [plan ss cs, .int t, .int l] st) st (.int (delayM (delayL t M l ss cs))) := by
  unfold d_delay_of r_delay_of
  have hle := P.hi
  have hlo := P.lo
  refine ok_fn (okr_seq (env' := [some (plan ss cs), some (.int t), some (.int l), some (.tup [sLate, .int M, v]), none, none, none, none, none]) (oks_set (ok_def (xs := [plan ss cs, .int t, .int l]) (ok_cons (ok_var rfl) fun _ _ => ok_cons (ok_var rfl) fun _ _ => ok_cons (ok_var rfl) fun _ _ => ok_nil) fun s _ => hv s)) fun s1 g1 => okr_seq (oks_chk (late_c P h1 h2 h3 h4 (i := 3) rfl)) fun s2 g2 => okr_seq (env' := [some (plan ss cs), some (.int t), some (.int l), some (.tup [sLate, .int M, v]), some (itup (heardL t M ss)), none, none, none, none]) (oks_set (ok_def (xs := [plan ss cs, .int t, .int M]) (ok_cons (ok_var rfl) fun _ _ => ok_cons (ok_var rfl) fun _ _ => ok_cons (ok_bin (x := .tup [sLate, .int M, v]) (y := .int 1) (ok_var rfl) (fun _ _ => ok_c) fun _ _ => ok_ofO rfl) fun _ _ => ok_nil) fun s _ => heard_ok P h1 h2 h5 h6 s)) fun s3 g3 => ?_)
  obtain ⟨s4, e4, g4⟩ : Ok (rCons (rVar 4) (rCons (rDef d_played_times (rCons (rVar 0) (rCons (rVar 1) (rCons (rVar 2) (rCons (rBin idxI (rVar 3) (rC (.int (1)))) rNil))))) (rCons (rBin idxI (rVar 0) (rC (.int (1)))) rNil)) [some (plan ss cs), some (.int t), some (.int l), some (.tup [sLate, .int M, v]), some (itup (heardL t M ss)), none, none, none, none] s3) s3 [itup (heardL t M ss), itup (playedL t M l ss cs), itup cs] :=
    ok_cons (ok_var rfl) fun _ _ => ok_cons (ok_def (xs := [plan ss cs, .int t, .int l, .int M]) (ok_cons (ok_var rfl) fun _ _ => ok_cons (ok_var rfl) fun _ _ => ok_cons (ok_var rfl) fun _ _ => ok_cons (ok_bin (x := .tup [sLate, .int M, v]) (y := .int 1) (ok_var rfl) (fun _ _ => ok_c) fun _ _ => ok_ofO rfl) fun _ _ => ok_nil) fun s _ => played_ok P h1 h2 h3 h4 h5 h6 s) fun _ _ => ok_cons (ok_bin (x := plan ss cs) (y := .int 1) (ok_var rfl) (fun _ _ => ok_c) fun _ _ => ok_ofO rfl) fun _ _ => ok_nil
  obtain ⟨s5, e5, g5⟩ := lc_gen (.tup [6, 7, 8]) (wipeI ([some (plan ss cs), some (.int t), some (.int l), some (.tup [sLate, .int M, v]), some (itup (heardL t M ss)), none, none, none, none].set 5 none) [6, 7, 8]) rYes (rBin subI (rVar 6) (rBin subI (rVar 7) (rVar 8))) s4 (fun k : Nat => IV.tup [.int (Hj t M ss k), .int (Pk t M l ss cs (k + 1)), .int (cs.getD k 0)])
    (fun k => [some (plan ss cs), some (.int t), some (.int l), some (.tup [sLate, .int M, v]), some (itup (heardL t M ss)), none, some (.int (Hj t M ss k)), some (.int (Pk t M l ss cs (k + 1))), some (.int (cs.getD k 0))]) (fun _ => true) (fun k => .int (Hj t M ss k - Pk t M l ss cs (k + 1) + cs.getD k 0)) (List.range ss.length) [] s4 (.refl _) (fun _ _ => rfl) (fun _ _ s _ => ⟨s, rfl, .refl _⟩) (fun k hk _ s _ => Ok.eq (ok_bin (x := .int (Hj t M ss k)) (y := .int (Pk t M l ss cs (k + 1) - cs.getD k 0)) (ok_var rfl) (fun _ _ => ok_bin (ok_var rfl) (fun _ _ => ok_var rfl) fun _ _ => ok_sub) fun _ _ => ok_sub) (by congr 1; omega))
  rw [← rows_eq P t M l, List.filter_eq_self.mpr (fun _ _ => rfl)] at e5
  have hl : lstAt { os := s5.os ++ [.lst ((delayL t M l ss cs).map IV.int)], low := s5.low } s5.os.length = some ((delayL t M l ss cs).map IV.int) := new_lst _ _ _
  have hne : delayL t M l ss cs ≠ [] := by
    intro h
    have hd : (delayL t M l ss cs).length = ss.length := by unfold delayL; rw [List.length_map, List.length_range]
    rw [h, List.length_nil] at hd
    omega
  have hlen : Nat.ble (zip3I ((heardL t M ss).map IV.int) ((playedL t M l ss cs).map IV.int) (cs.map IV.int)).length lineI = true := by
    rw [rows_eq P, List.length_map, List.length_range]
    exact Nat.ble_eq_true_of_le (Nat.le_trans hle (by decide))
  refine ⟨_, szip3_eq (l := (delayL t M l ss cs).map IV.int) e4 rfl hlen ?_ (max_lst hl hne), (g4.trans g5).trans (.alloc _ _)⟩
  rw [e5]
  unfold delayL
  rw [List.map_map]; rfl
theorem delay_never {ss cs : List Int} (P : PlanOk ss cs) {t : Int} {l a : Nat} {r : List Nat} (h1 : 1 ≤ t) (h2 : t ≤ 100) (h3 : 1 ≤ l) (h4 : l ≤ 60) (hn : neverN t l ss cs = a :: r) (st : Sto) : Ok (d_delay_of [plan ss cs, .int t, .int l] st) st .non := by
  unfold d_delay_of r_delay_of
  refine ok_fn (okr_seq (env' := [some (plan ss cs), some (.int t), some (.int l), some (.tup [sNever, .int (a : Nat)]), none, none, none, none, none]) (oks_set (ok_def (xs := [plan ss cs, .int t, .int l]) (ok_cons (ok_var rfl) fun _ _ => ok_cons (ok_var rfl) fun _ _ => ok_cons (ok_var rfl) fun _ _ => ok_nil) fun s _ => least_never P h1 h2 h3 h4 hn s)) fun s1 g1 => okr_now (okr_ifT (ok_tbl (ok_bin (x := sNever) (y := sNever) (ok_bin (x := .tup [sNever, .int (a : Nat)]) (y := .int 0) (ok_var rfl) (fun _ _ => ok_c) fun _ _ => ok_idx0) (fun _ _ => ok_c) fun _ _ => ok_ofO rfl)) fun s2 g2 => okr_ret ok_c))
end law_k18

set_option Elab.async false
set_option linter.all false
set_option maxRecDepth 100000
set_option maxHeartbeats 4000000
namespace law_k18
open PySem PySem.Spec PyProof.Rows L2 PI PL
local macro_rules | `(tactic| trivial) => `(tactic| first
  | exact ok_c
  | ((with_reducible show Ok (rVar _ _ _) _ _); exact ok_var (by rfl))
  | exact ok_nil
  | ((with_reducible show Ok (RE.ofO _) _ _); first
    | with_reducible exact ok_add | with_reducible exact ok_sub | with_reducible exact ok_neg | with_reducible exact ok_lt | with_reducible exact ok_gt | with_reducible exact ok_le | with_reducible exact ok_ge
    | with_reducible exact ok_eqi | with_reducible exact ok_nei | with_reducible exact ok_len | with_reducible exact ok_tupleT | exact ok_ofO (by rfl))
  | ((with_reducible show Ok (rCons _ _ _ _) _ _); exact ok_cons (by trivial) (fun _ _ => by trivial))
  | ((with_reducible show Ok (rBin _ _ _ _ _) _ _); exact ok_bin (by trivial) (fun _ _ => by trivial) (fun _ _ => by trivial))
  | ((with_reducible show Ok (rUn _ _ _ _) _ _); exact ok_un (by trivial) (fun _ _ => by trivial))
  | ((with_reducible show Ok (rCall _ _ _ _) _ _); exact ok_call (by trivial) (fun _ _ => by trivial))
  | ((with_reducible show Ok (rDef _ _ _ _) _ _); exact ok_def (by trivial) (fun _ _ => by trivial))
  | ((with_reducible show Ok (rTup _ _ _) _ _); exact ok_tup (by trivial) (by simp))
  | ((with_reducible show Ok (rTBl _ _ _) _ _); exact ok_tbl (by trivial))
  | ((with_reducible show Ok (rTNot _ _ _) _ _); exact ok_tnot (by trivial))
  | ((with_reducible show Ok (rTOr _ _ _ _) _ _); exact ok_tor (by trivial) (fun _ _ _ => by trivial))
  | ((with_reducible show Ok (rTru _ _ _) _ _); exact ok_trub (by trivial))
  | assumption)
local macro_rules | `(tactic| trivial) => `(tactic| ((with_reducible show Ok (d_is_from _ _) _ _); exact from_yes (by omega) (by omega) _))
local macro_rules | `(tactic| trivial) => `(tactic| ((with_reducible show Ok (d_is_many _ _) _ _); exact many2 _ _ _))
local macro_rules | `(tactic| trivial) => `(tactic| ((with_reducible show Ok (d_is_plan _ _) _ _); exact plan_ok (by assumption) _))
local macro_rules | `(tactic| trivial) => `(tactic| ((with_reducible show Ok (d_check_plan _ _) _ _); exact check_ok (by assumption) (by omega) (by omega) _))
local macro_rules | `(tactic| trivial) => `(tactic| ((with_reducible show Ok (d_check_hearing _ _) _ _); exact hear_ok (by assumption) (by omega) (by omega) (by omega) (by omega) (by omega) (by omega) _))
local macro_rules | `(tactic| trivial) => `(tactic| ((with_reducible show Ok (d_is_never _ _) _ _); exact never_ok (by assumption) (by omega) (by omega) (by omega) (by omega) (by omega) _))
local macro_rules | `(tactic| trivial) => `(tactic| ((with_reducible show Ok (d_late_blocks _ _) _ _); exact late_ok (by assumption) (by omega) (by omega) (by omega) (by omega) (by omega) (by omega) _))
local macro_rules | `(tactic| trivial) => `(tactic| ((with_reducible show Ok (d__law_late _ _) _ _); exact llate_ok (by assumption) (by omega) (by omega) (by omega) _))
local macro_rules | `(tactic| trivial) => `(tactic| ((with_reducible show Ok (d_heard_times _ _) _ _); exact heard_ok (by assumption) (by omega) (by omega) (by omega) (by omega) _))
local macro_rules | `(tactic| trivial) => `(tactic| ((with_reducible show Ok (d_played_times _ _) _ _); exact played_ok (by assumption) (by omega) (by omega) (by omega) (by omega) (by omega) (by omega) _))
def evenS (S z : Int) : List Int := List.replicate (S / z).toNat z ++ (if 0 < S - z * (S / z) then [S - z * (S / z)] else [])
def evenC (S z e o : Int) : List Int := (evenS S z).map fun x => e + o * x
theorem quot {S z : Int} (hz : 1 ≤ z) (h1 : 1 ≤ S) (h2 : S ≤ 60 * z) : 0 ≤ S / z ∧ S / z ≤ 60 ∧ 0 ≤ S - z * (S / z) ∧ S - z * (S / z) < z := by
  have a := Int.emod_add_mul_ediv S z
  have b := Int.emod_nonneg S (show z ≠ 0 by omega)
  have c := Int.emod_lt_of_pos S (show 0 < z by omega)
  have d : S / z ≤ 60 := Int.ediv_le_of_le_mul (by omega) h2
  have e : 0 ≤ S / z := Int.ediv_nonneg (by omega) (by omega)
  omega
theorem mul_rep (z q : Int) (h0 : 0 ≤ q) (h : q ≤ 60) (st : Sto) : mulT (.tup [.int z]) (.int q) st = some (.tup ((List.replicate q.toNat z).map IV.int), st) := by
  show (bif decide (-1000000 < q) && decide (q ≤ 1000) && Nat.ble [IV.int z].length 1000 then some (IV.tup (List.replicate q.toNat [IV.int z]).flatten, st) else none) = _
  rw [decide_eq_true (show -1000000 < q by omega), decide_eq_true (show q ≤ 1000 by omega), List.flatten_replicate_singleton, List.map_replicate]
  rfl
theorem add_tups (xs ys : List Int) (h : xs.length + ys.length ≤ 1000) (st : Sto) : addI (.tup (xs.map IV.int)) (.tup (ys.map IV.int)) st = some (.tup ((xs ++ ys).map IV.int), st) := by
  show (bif Nat.ble ((xs.map IV.int).length + (ys.map IV.int).length) lineI then some (IV.tup (xs.map IV.int ++ ys.map IV.int), st) else none) = _
  rw [List.length_map, List.length_map, show Nat.ble (xs.length + ys.length) lineI = true from Nat.ble_eq_true_of_le (Nat.le_trans h (by decide)), ← List.map_append]
  rfl
theorem evenS_mem {S z : Int} (hz : 1 ≤ z) (h1 : 1 ≤ S) (h2 : S ≤ 60 * z) : ∀ x ∈ evenS S z, 1 ≤ x ∧ x ≤ z := by
  have q := quot hz h1 h2
  intro x hx
  unfold evenS at hx
  rcases List.mem_append.mp hx with h | h
  · have := List.eq_of_mem_replicate h; omega
  · by_cases hp : 0 < S - z * (S / z)
    · rw [if_pos hp] at h
      have := List.mem_singleton.mp h; omega
    · rw [if_neg hp] at h; cases h
theorem evenS_len {S z : Int} (hz : 1 ≤ z) (h1 : 1 ≤ S) (h2 : S ≤ 60 * z) : (evenS S z).length ≤ 61 := by
  have q := quot hz h1 h2
  unfold evenS
  rw [List.length_append, List.length_replicate]
  by_cases hp : 0 < S - z * (S / z)
  · rw [if_pos hp]; simp; omega
  · rw [if_neg hp]; simp; omega
theorem min2_L {x y : SemE} {env : IEnv} {st : Sto} {a b : Int} (h : Ok (x env st) st (.int a)) (h2 : ∀ st1, Gw st st1 → Ok (y env st1) st1 (.int b)) : Ok (rCall minI (rCons (rLst (rCons x (rCons y rNil))) rNil) env st) st (.int (if b < a then b else a)) :=
  call_L (ok_lst (ok_cons h fun s g => ok_cons (h2 s g) fun _ _ => ok_nil) (by simp)) fun n s hl => by
    show (match lstAt s n with | some xs => (match intsOf xs with | some (m :: ns) => some (IV.int (minL m ns), s) | _ => none) | none => none) = _
    rw [hl]; rfl
/-- [each + one * x for x in sizes], turned to a tuple -/
theorem costs_L {it : IEnv → Sto → RE FI} {ct : Nat} {te : SemE} {env : IEnv} {st st1 : Sto} {xs : List Int} {e o : Int} (hi : it env st = .ok (.items (xs.map IV.int)) st1) (hg : Gw st st1) (hl : xs.length ≤ 100) (hx : ∀ x ∈ xs, ∀ s, Ok (te ((wipeI env [ct]).set ct (some (.int x))) s) s (.int (e + o * x))) :
    Ok (rCall tupleI (rCons (rLc it (.one ct) [ct] rYes te) rNil) env st) st (itup (xs.map fun x => e + o * x)) := by
  refine Ok.eq (tup_L (lc_yes IV.int (fun k => (wipeI env [ct]).set ct (some (.int k))) (fun x => .int (e + o * x)) xs hi hg (by omega) (fun _ _ => rfl) fun k hk s _ => hx k hk s)) ?_
  unfold itup
  rw [List.map_map]; rfl
theorem sfor_from {b : SemS} {env : IEnv} {st : Sto} {it : IEnv → Sto → RE FI} {i : Nat} {xs : List IV} (h : it env st = .ok (.items xs) st) (hb : ∀ x ∈ xs, ∀ st1 e, OkS (b ((env.set i e).set i (some x)) st1) st1 ((env.set i e).set i (some x))) (hi : i < env.length) : ∃ e, OkS (sFor it (gN i) b env st) st (env.set i e) := by
  have : ∀ (xs : List IV) (e : Option IV) (st : Sto), (∀ x ∈ xs, ∀ st1 e, OkS (b ((env.set i e).set i (some x)) st1) st1 ((env.set i e).set i (some x))) → ∃ e', OkS (loopT (gN i) b xs (env.set i e) st) st (env.set i e') := by
    intro xs
    induction xs with
    | nil => exact fun e st _ => ⟨e, st, rfl, .refl st⟩
    | cons x xs ih =>
      intro e st hb
      obtain ⟨s1, e1, g1⟩ := hb x List.mem_cons_self st e
      obtain ⟨e', s2, e2, g2⟩ := ih (some x) s1 (fun y hy => hb y (List.mem_cons_of_mem _ hy))
      refine ⟨e', s2, ?_, g1.trans g2⟩
      show (b ((env.set i e).set i (some x)) st).loop _ = _
      rw [e1]
      show loopT (gN i) b xs ((env.set i e).set i (some x)) s1 = _
      rw [List.set_set]
      exact e2
  obtain ⟨e', s2, e2, g2⟩ := this xs (env[i]'hi) st hb
  rw [List.set_getElem_self] at e2
  exact ⟨e', s2, (sfor_items h).trans e2, g2⟩
section
variable {S z e o : Int} (hz : 1 ≤ z) (hz2 : z ≤ 40) (h1 : 1 ≤ S) (h2 : S ≤ 60 * z) (he : 0 ≤ e) (he2 : e ≤ 19) (ho : 0 ≤ o) (ho2 : o ≤ 4)
include hz hz2 h1 h2 he he2 ho ho2
theorem even_ok (st : Sto) : Ok (d_even_plan [.int S, .int z, .int e, .int o] st) st (plan (evenS S z) (evenC S z e o)) := by
  unfold d_even_plan r_even_plan
  have q := quot hz h1 h2
  have hlen := evenS_len hz h1 h2
  refine ok_fn (okr_seq (env' := [some (.int S), some (.int z), some (.int e), some (.int o), none, none, none, none]) (oks_chk (Ok.eq (ok_tnot (ok_trub (k := true) (by trivial))) rfl)) fun s1 g1 => ?_)
  refine okr_seq (oks_chk (Ok.eq (ok_tor (k := false) (l := false) (ok_tnot (ok_trub (k := true) (by trivial))) fun s g _ => Ok.eq (ok_tbl (ok_bin (x := .int S) (y := .int (60 * z)) (ok_var rfl) (fun _ _ => ok_bin ok_c (fun _ _ => ok_var rfl) fun _ _ => ok_mul (sm_of (by decide)) (sm_of (by omega))) fun _ _ => ok_gt)) (decide_eq_false (by omega))) rfl)) fun s2 g2 => ?_
  obtain ⟨e4, hf⟩ := sfor_from (it := fSeq (rTup (rCons (rVar 2) (rCons (rVar 3) rNil)))) (i := 4) (b := sIf (rTNot (rTru (rDef d_is_from (rCons (rVar 4) (rCons (rC (.int (0))) (rCons (rC (.int (10000))) rNil)))))) (sRaise 1 "thing" (rVar 4)) sPass) (env := [some (.int S), some (.int z), some (.int e), some (.int o), none, none, none, none]) (st := s2) (xs := [.int e, .int o]) rfl (fun x hx s e' => by
    have hx' : ∃ v : Int, x = .int v ∧ 0 ≤ v ∧ v ≤ 10000 := by
      rcases List.mem_cons.mp hx with rfl | hx
      · exact ⟨e, rfl, by omega, by omega⟩
      · rcases List.mem_cons.mp hx with rfl | hx
        · exact ⟨o, rfl, by omega, by omega⟩
        · cases hx
    obtain ⟨v, rfl, hv0, hv1⟩ := hx'
    exact oks_chk (Ok.eq (ok_tnot (ok_trub (k := true) (ok_def (xs := [.int v, .int 0, .int 10000]) (ok_cons (ok_var rfl) fun _ _ => ok_cons ok_c fun _ _ => ok_cons ok_c fun _ _ => ok_nil) fun s _ => from_yes hv0 hv1 s))) rfl)) (by simp)
  refine okr_seq hf fun s3 g3 => ?_
  have hmin : o * (if S < z then S else z) ≤ 4 * 40 := Int.mul_le_mul ho2 (by split <;> omega) (by split <;> omega) (by omega)
  refine okr_seq (oks_chk (Ok.eq (ok_tbl (ok_bin (x := .int (e + o * (if S < z then S else z))) (y := .int 10000) (ok_bin (ok_var rfl) (fun _ _ => ok_bin (x := .int o) (y := .int (if S < z then S else z)) (ok_var rfl) (fun _ _ => min2_L (ok_var rfl) fun _ _ => ok_var rfl) fun _ _ => ok_mul (sm_of (by omega)) (sm_of (by split <;> omega))) fun _ _ => ok_add) (fun _ _ => ok_c) fun _ _ => ok_gt)) (decide_eq_false (by omega)))) fun s4 g4 => ?_
  refine okr_seq (env' := [some (.int S), some (.int z), some (.int e), some (.int o), e4, some (.int (S - z * (S / z))), none, none]) (oks_set (ok_bin (x := .int S) (y := .int (z * (S / z))) (ok_var rfl) (fun _ _ => ok_bin (x := .int z) (y := .int (S / z)) (ok_var rfl) (fun _ _ => ok_bin (ok_var rfl) (fun _ _ => ok_var rfl) fun _ _ => ok_div (by omega) (sm_of (by omega))) fun _ _ => ok_mul (sm_of (by omega)) (sm_of (by omega))) fun _ _ => ok_sub)) fun s5 g5 => ?_
  refine okr_seq (env' := [some (.int S), some (.int z), some (.int e), some (.int o), e4, some (.int (S - z * (S / z))), some (itup (evenS S z)), none]) (oks_set (ok_bin (x := itup (List.replicate (S / z).toNat z)) (y := itup (if 0 < S - z * (S / z) then [S - z * (S / z)] else [])) (ok_bin (x := .tup [.int z]) (y := .int (S / z)) (ok_tup (ok_cons (ok_var rfl) fun _ _ => ok_nil) (by simp)) (fun _ _ => ok_bin (ok_var rfl) (fun _ _ => ok_var rfl) fun _ _ => ok_div (by omega) (sm_of (by omega))) fun s _ => ok_ofO (mul_rep z (S / z) q.1 q.2.1 s)) (fun s g => ?_) fun s _ => ok_ofO (add_tups _ _ ?_ s))) fun s6 g6 => ?_
  · by_cases hp : 0 < S - z * (S / z)
    · rw [if_pos hp]
      exact ok_ifT (Ok.eq (ok_tbl (ok_bin (ok_var rfl) (fun _ _ => ok_c) fun _ _ => ok_gt)) (decide_eq_true hp)) fun _ _ => ok_tup (ok_cons (ok_var rfl) fun _ _ => ok_nil) (by simp)
    · rw [if_neg hp]
      exact ok_ifF (Ok.eq (ok_tbl (ok_bin (ok_var rfl) (fun _ _ => ok_c) fun _ _ => ok_gt)) (decide_eq_false hp)) fun _ _ => ok_tup ok_nil (by simp)
  · rw [List.length_replicate]
    split <;> simp <;> omega
  · refine okr_ret (ok_tup (ok_cons (ok_var rfl) fun s7 g7 => ok_cons (costs_L (xs := evenS S z) rfl (.refl _) (by omega) fun x hx s => ?_) fun _ _ => ok_nil) (by simp))
    have hx' := evenS_mem hz h1 h2 x hx
    exact ok_bin (ok_var rfl) (fun _ _ => ok_bin (ok_var rfl) (fun _ _ => ok_var rfl) fun _ _ => ok_mul (sm_of (by omega)) (sm_of (by omega))) fun _ _ => ok_add
end
def szL (e o t : Int) : List Int := ((List.range 40).filter fun i => decide (e + o * (1 + (i : Nat)) ≤ t * (1 + (i : Nat)))).map fun i => 1 + (i : Nat)
def szV : List Int → IV
  | [] => .non
  | x :: _ => .int x
/-- the sizes that serve, wherever they are asked -/
theorem sizes_L {e o t : Int} (he : 0 ≤ e) (he2 : e ≤ 19) (ho : 0 ≤ o) (ho2 : o ≤ 4) (ht : 1 ≤ t) (ht2 : t ≤ 100) {it : IEnv → Sto → RE FI} {a b c i : Nat} {env : IEnv} {st : Sto} (hi : it env st = .ok (.items ((List.range 40).map fun i => .int (1 + (i : Nat)))) st) (ha : ∀ x : Int, ((wipeI env [i]).set i (some (.int x)))[a]? = some (some (.int e))) (hb : ∀ x : Int, ((wipeI env [i]).set i (some (.int x)))[b]? = some (some (.int o))) (hc : ∀ x : Int, ((wipeI env [i]).set i (some (.int x)))[c]? = some (some (.int t))) (hx : ∀ x : Int, ((wipeI env [i]).set i (some (.int x)))[i]? = some (some (.int x))) :
    OkL (rLc it (.one i) [i] (rTBl (rBin cLe (rBin addI (rVar a) (rBin mulT (rVar b) (rVar i))) (rBin mulT (rVar c) (rVar i)))) (rVar i) env st) st ((szL e o t).map IV.int) := by
  have := lc_items (it := it) (ct := .one i) (vs := [i]) (tt := rTBl (rBin cLe (rBin addI (rVar a) (rBin mulT (rVar b) (rVar i))) (rBin mulT (rVar c) (rVar i)))) (te := rVar i) (env := env) (st0 := st) (fun i : Nat => IV.int (1 + (i : Nat))) (fun k => (wipeI env [i]).set i (some (.int (1 + (k : Nat))))) (fun i => decide (e + o * (1 + (i : Nat)) ≤ t * (1 + (i : Nat)))) (fun i => IV.int (1 + (i : Nat))) (List.range 40) hi (.refl _) (by simp) (fun _ _ => rfl) (fun k hk s _ => by
    have hk' := range_mem hk
    exact ok_tbl (ok_bin (x := .int (e + o * (1 + (k : Nat)))) (y := .int (t * (1 + (k : Nat)))) (ok_bin (ok_var (ha _)) (fun _ _ => ok_bin (ok_var (hb _)) (fun _ _ => ok_var (hx _)) fun _ _ => ok_mul (sm_of (by omega)) (sm_of (by omega))) fun _ _ => ok_add) (fun _ _ => ok_bin (ok_var (hc _)) (fun _ _ => ok_var (hx _)) fun _ _ => ok_mul (sm_of (by omega)) (sm_of (by omega))) fun _ _ => ok_le)) (fun k hk _ s _ => ok_var (hx _))
  unfold szL
  rw [List.map_map]
  exact this
theorem first_L {i : Nat} {env : IEnv} {st : Sto} {n : Nat} {xs : List Int} (he : env[i]? = some (some (.ref n))) (hl : lstAt st n = some (xs.map IV.int)) : Ok (rIfE (rTBl (rBin cNe (rVar i) (rLst rNil))) (rBin idxI (rVar i) (rC (.int (0)))) (rC .non) env st) st (szV xs) := by
  have hc := ok_tbl (ne_nil_L he hl)
  cases xs with
  | nil => exact ok_ifF hc fun _ _ => ok_c
  | cons x xs => exact ok_ifT hc fun s g => ok_bin (ok_var he) (fun _ _ => ok_c) fun s2 g2 => ok_idxL ((g.trans g2).lst hl) (at_nat (j := 0) rfl)
end law_k18

set_option Elab.async false
set_option linter.all false
set_option maxRecDepth 100000
set_option maxHeartbeats 4000000
namespace law_k18
open PySem PySem.Spec PyProof.Rows L2 PI PL
theorem setL_eq {a : SemE} {env : IEnv} {st st1 : Sto} {n i : Nat} (h : a env st = .ok (.ref n) st1) : sAsg a (gN i) env st = .nx (env.set i (some (.ref n))) st1 := by
  unfold sAsg; rw [h]; rfl
theorem okr_setL {a : SemE} {env : IEnv} {st : Sto} {i : Nat} {xs : List IV} {k : SemS} {v : IV} (h : OkL (a env st) st xs) (h2 : ∀ n st1, Gw st st1 → lstAt st1 n = some xs → OkR (k (env.set i (some (.ref n))) st1) st1 v) : OkR (sSeq (sAsg a (gN i)) k env st) st v := by
  obtain ⟨n, s1, e1, g1, hl⟩ := h
  obtain ⟨s2, e2, g2⟩ := h2 n s1 g1 hl
  exact ⟨s2, by rw [seq_nx (setL_eq e1)]; exact e2, g1.trans g2⟩
theorem rng40 {a : SemA} {env : IEnv} {st : Sto} (h : a env st = .ok [.int 1, .int 41] st) : fRng2 a env st = .ok (.items ((List.range 40).map fun i => .int (1 + (i : Nat)))) st := rng2 1 41 40 h (by decide) (by decide) (by decide) (by decide)
theorem size_ok {e o t : Int} (he : 0 ≤ e) (he2 : e ≤ 19) (ho : 0 ≤ o) (ho2 : o ≤ 4) (ht : 1 ≤ t) (ht2 : t ≤ 100) (st : Sto) : Ok (d_least_size [.int e, .int o, .int t, .int 40] st) st (szV (szL e o t)) := by
  unfold d_least_size r_least_size
  obtain ⟨e4, hf⟩ := sfor_from (it := fSeq (rTup (rCons (rVar 0) (rCons (rVar 1) rNil)))) (i := 4) (b := sIf (rTNot (rTru (rDef d_is_from (rCons (rVar 4) (rCons (rC (.int (0))) (rCons (rC (.int (10000))) rNil)))))) (sRaise 1 "thing" (rVar 4)) sPass) (env := [some (.int e), some (.int o), some (.int t), some (.int 40), none, none, none]) (st := st) (xs := [.int e, .int o]) rfl (fun x hx s e' => by
    have hx' : ∃ v : Int, x = .int v ∧ 0 ≤ v ∧ v ≤ 10000 := by
      rcases List.mem_cons.mp hx with rfl | hx
      · exact ⟨e, rfl, by omega, by omega⟩
      · rcases List.mem_cons.mp hx with rfl | hx
        · exact ⟨o, rfl, by omega, by omega⟩
        · cases hx
    obtain ⟨v, rfl, hv0, hv1⟩ := hx'
    exact oks_chk (Ok.eq (ok_tnot (ok_trub (k := true) (ok_def (xs := [.int v, .int 0, .int 10000]) (ok_cons (ok_var rfl) fun _ _ => ok_cons ok_c fun _ _ => ok_cons ok_c fun _ _ => ok_nil) fun s _ => from_yes hv0 hv1 s))) rfl)) (by simp)
  refine ok_fn (okr_seq hf fun s1 g1 => okr_seq (oks_chk (Ok.eq (ok_tnot (ok_trub (k := true) (ok_def (xs := [.int t, .int 1, .int 100]) (ok_cons (ok_var rfl) fun _ _ => ok_cons ok_c fun _ _ => ok_cons ok_c fun _ _ => ok_nil) fun s _ => from_yes ht ht2 s))) rfl)) fun s2 g2 => okr_seq (oks_chk (Ok.eq (ok_tnot (ok_trub (k := true) (ok_def (xs := [.int 40, .int 1, .int 1000]) (ok_cons (ok_var rfl) fun _ _ => ok_cons ok_c fun _ _ => ok_cons ok_c fun _ _ => ok_nil) fun s _ => from_yes (by decide) (by decide) s))) rfl)) fun s3 g3 => okr_setL (sizes_L he he2 ho ho2 ht ht2 (rng40 rfl) (fun _ => rfl) (fun _ => rfl) (fun _ => rfl) (fun _ => rfl)) fun n s4 g4 hl => okr_ret (first_L rfl hl))
theorem sz_mem {e o t x : Int} (h : x ∈ szL e o t) : 1 ≤ x ∧ x ≤ 40 ∧ e + o * x ≤ t * x := by
  unfold szL at h
  obtain ⟨i, hi, rfl⟩ := List.mem_map.mp h
  obtain ⟨h1, h2⟩ := List.mem_filter.mp hi
  have h1 := range_mem h1
  have h2 := of_decide_eq_true h2
  exact ⟨by omega, by omega, h2⟩
theorem even9 {z : Int} (hz : 1 ≤ z) : evenS (z * 9) z = List.replicate 9 z := by
  unfold evenS
  rw [Int.mul_ediv_cancel_left _ (by omega), if_neg (by omega), List.append_nil]
  rfl
theorem long_plan {z e o : Int} (hz : 1 ≤ z) (hz2 : z ≤ 40) (he : 0 ≤ e) (he2 : e ≤ 19) (ho : 0 ≤ o) (ho2 : o ≤ 4) : PlanOk (evenS (z * 9) z) (evenC (z * 9) z e o) := by
  unfold evenC
  rw [even9 hz]
  have hm : o * z ≤ 4 * 40 := Int.mul_le_mul ho2 hz2 (by omega) (by omega)
  have h0 : 0 ≤ o * z := Int.mul_nonneg ho (by omega)
  refine ⟨by simp, by simp, by simp, fun s hs => ?_, fun c hc => ?_⟩
  · have := List.eq_of_mem_replicate hs; omega
  · obtain ⟨x, hx, rfl⟩ := List.mem_map.mp hc
    have := List.eq_of_mem_replicate hx
    subst this
    omega
theorem long_late {t z c : Int} (hz : 1 ≤ z) (ht : 1 ≤ t) (hc : 0 ≤ c) (h : c ≤ t * z) : ∀ k, k < 9 → Pk t c 2 (List.replicate 9 z) (List.replicate 9 c) (k + 1) ≤ Hj t c (List.replicate 9 z) k
  | 0, _ => by
    show max 0 (if 2 ≤ 0 then _ else 0) + (List.replicate 9 c).getD 0 0 ≤ c + t * ((List.replicate 9 z).take 0).sum
    rw [if_neg (by omega)]
    simp
  | k + 1, hk => by
    have ih := long_late hz ht hc h k (by omega)
    have e1 : Hj t c (List.replicate 9 z) (k + 1) = Hj t c (List.replicate 9 z) k + t * z := Hj_succ (by rw [List.getElem?_replicate, if_pos (by omega)])
    have e2 : (List.replicate 9 c).getD (k + 1) 0 = c := by rw [List.getD_eq_getElem?_getD, List.getElem?_replicate, if_pos hk]; rfl
    have e3 : c ≤ Hj t c (List.replicate 9 z) k := by
      have := sum_le (B := z) (xs := (List.replicate 9 z).take k) fun x hx => by
        have := List.eq_of_mem_replicate (List.mem_of_mem_take hx)
        omega
      have := Int.mul_nonneg (show 0 ≤ t by omega) this.1
      unfold Hj
      omega
    show max (Pk t c 2 (List.replicate 9 z) (List.replicate 9 c) (k + 1)) (if 2 ≤ k + 1 then Hj t c (List.replicate 9 z) (k + 1 - 2 + 1) else 0) + (List.replicate 9 c).getD (k + 1) 0 ≤ _
    rw [e1, e2]
    by_cases h2 : 2 ≤ k + 1
    · rw [if_pos h2, show k + 1 - 2 + 1 = k by omega]; omega
    · rw [if_neg h2]; omega
theorem long_nil {t z e o : Int} (hz : 1 ≤ z) (ht : 1 ≤ t) (he : 0 ≤ e) (ho : 0 ≤ o) (h : e + o * z ≤ t * z) : lateN t (e + o * z) 2 (evenS (z * 9) z) (evenC (z * 9) z e o) = [] := by
  have h0 : 0 ≤ o * z := Int.mul_nonneg ho (by omega)
  apply List.eq_nil_iff_forall_not_mem.mpr
  intro k hk
  obtain ⟨h1, h2⟩ := mem_late.mp hk
  unfold evenC at h2
  rw [even9 hz, List.map_replicate] at h2
  rw [even9 hz, List.length_replicate] at h1
  have := long_late hz ht (show 0 ≤ e + o * z by omega) h k h1
  omega
theorem eq_plan (ss cs : List Int) (st : Sto) : eqI st (plan ss cs) (plan ss cs) = some true := by
  refine eq_tup (d := .tuple [.tuple (ss.map PyData.int), .tuple (cs.map PyData.int)]) st ?_ ?_
  · show (match allSome (pd st.os 62) [itup ss, itup cs] with
      | some ds => some (PyData.tuple ds)
      | none => none) = _
    have e1 : pd st.os 62 (itup ss) = some (.tuple (ss.map PyData.int)) := pd_ints st.os 60 ss
    have e2 : pd st.os 62 (itup cs) = some (.tuple (cs.map PyData.int)) := pd_ints st.os 60 cs
    simp only [allSome, e1, e2]
  · simp only [PyData.canLay0, PyData.canLayAll0, can_ints, Bool.and_self]
/-! ### refusals -/
/-- it raises, and the store only grew -/
def Ex {α : Type} (m : RE α) (st : Sto) (x : IX) : Prop := ∃ st', m = .exc x st' ∧ Gw st st'
def ExS (m : RS) (st : Sto) (x : IX) : Prop := ∃ env st', m = .exc x env st' ∧ Gw st st'
section
variable {env env' : IEnv} {st : Sto} {as : SemA} {xs : List IV} {D : List IV → Sto → RE IV} {x : IX} {s t : SemS} {e : SemE} {v : IV}
theorem ex_def (h : Ok (as env st) st xs) (h2 : ∀ st1, Gw st st1 → Ex (D xs st1) st1 x) : Ex (rDef D as env st) st x := by
  obtain ⟨s1, e1, g1⟩ := h
  obtain ⟨s2, e2, g2⟩ := h2 s1 g1
  refine ⟨s2, ?_, g1.trans g2⟩
  unfold rDef
  rw [e1]; exact e2
theorem ex_fn {n : Nat} {r : SemS} (h : ExS (r (startI n xs) st) st x) : Ex (callI n r xs st) st x := by
  obtain ⟨en, s1, e1, g1⟩ := h
  exact ⟨s1, by unfold callI; rw [e1], g1⟩
theorem exs_now (h : ExS (s env st) st x) : ExS (sSeq s t env st) st x := by
  obtain ⟨en, s1, e1, g1⟩ := h
  exact ⟨en, s1, by unfold sSeq; rw [e1]; rfl, g1⟩
theorem exs_seq (h : OkS (s env st) st env') (h2 : ∀ st1, Gw st st1 → ExS (t env' st1) st1 x) : ExS (sSeq s t env st) st x := by
  obtain ⟨s1, e1, g1⟩ := h
  obtain ⟨en, s2, e2, g2⟩ := h2 s1 g1
  exact ⟨en, s2, by unfold sSeq; rw [e1]; exact e2, g1.trans g2⟩
theorem exs_expr (h : Ex (e env st) st x) : ExS (sExpr e env st) st x := by
  obtain ⟨s1, e1, g1⟩ := h
  exact ⟨env, s1, by unfold sExpr; rw [e1]; rfl, g1⟩
theorem exs_asg {G : SemG} (h : Ex (e env st) st x) : ExS (sAsg e G env st) st x := by
  obtain ⟨s1, e1, g1⟩ := h
  exact ⟨env, s1, by unfold sAsg; rw [e1]; rfl, g1⟩
theorem exs_ret (h : Ex (e env st) st x) : ExS (sRet e env st) st x := by
  obtain ⟨s1, e1, g1⟩ := h
  exact ⟨env, s1, by unfold sRet; rw [e1]; rfl, g1⟩
theorem exs_fire {c : SemT} (h : Ok (c env st) st true) (hv : ∀ st1, Gw st st1 → e env st1 = .ok v st1) : ExS (sIf c (sRaise 1 "thing" e) t env st) st ⟨1, [("thing", v)]⟩ := by
  obtain ⟨s1, e1, g1⟩ := h
  exact ⟨env, s1, by unfold sIf; rw [e1]; show sRaise 1 "thing" e env s1 = _; unfold sRaise; rw [hv s1 g1]; rfl, g1⟩
theorem ok_refuses {body due : SemE} (hd : Ok (due env st) st v) (hb : ∀ st1, Gw st st1 → Ex (body env st1) st1 ⟨1, [("thing", v)]⟩) (hr : ∀ st1, Gw st st1 → ∃ s, reprI [v] st1 = some (.str s, st1)) : Ok (rRefuses 1 "thing" body due env st) st (.bl true) := by
  obtain ⟨s1, e1, g1⟩ := hd
  obtain ⟨s2, e2, g2⟩ := hb s1 g1
  obtain ⟨s, hs⟩ := hr s2 (g1.trans g2)
  refine ⟨s2, ?_, g1.trans g2⟩
  unfold rRefuses
  rw [e1]
  show (match body env s1 with
    | .ok _ st2 => RE.ok (IV.bl false) st2
    | .exc x st2 => bif Nat.beq x.cls 1 then (match x.fs with
      | [(n, v1)] => bif decide (n = "thing") then RE.ofO ((reprI [v1] st2).bind fun (a, st3) => (reprI [v] st3).bind fun (b, st4) => blO (eqI st4 a b) st4) else .bad
      | _ => .bad) else .bad
    | .bad => .bad) = _
  rw [e2]
  show RE.ofO ((reprI [v] s2).bind fun (a, st3) => (reprI [v] st3).bind fun (b, st4) => blO (eqI st4 a b) st4) = _
  rw [hs]
  show RE.ofO ((reprI [v] s2).bind fun (b, st4) => blO (eqI st4 (.str s) b) st4) = _
  rw [hs]
  show RE.ofO (some (.bl (s == s), s2)) = _
  rw [beq_self_eq_true]; rfl
end
end law_k18

set_option Elab.async false
set_option linter.all false
set_option maxRecDepth 100000
set_option maxHeartbeats 4000000
namespace law_k18
open PySem PySem.Spec PyProof.Rows L2 PI PL
/-- an int, a bool or None -/
def Simple : IV → Prop
  | .int _ => True
  | .bl _ => True
  | .non => True
  | _ => False
def fromB (lo hi : Int) : IV → Bool
  | .int i => decide (lo ≤ i) && decide (i ≤ hi)
  | _ => false
theorem from_gen {v : IV} (h : Simple v) (lo hi : Int) (st : Sto) : Ok (d_is_from [v, .int lo, .int hi] st) st (.bl (fromB lo hi v)) := by
  cases v with
  | int i => exact .same (from_ok i lo hi st)
  | bl b => exact .same rfl
  | non => exact .same rfl
  | _ => exact h.elim
theorem ge1 (n : Nat) (st : Sto) : cLe (.int 1) (.int (n : Nat)) st = some (.bl (decide ((1 : Int) ≤ n)), st) := rfl
theorem plan_gen {A B : List IV} (hA : ∀ v ∈ A, Simple v) (hB : ∀ v ∈ B, Simple v) (lA : A.length ≤ 100) (lB : B.length ≤ 100) (st : Sto) : Ok (d_is_plan [.tup [.tup A, .tup B]] st) st (.bl (decide ((1 : Int) ≤ A.length) && decide ((A.length : Int) ≤ 60) && (decide ((B.length : Int) = A.length) && (A.all (fromB 1 1000) && B.all (fromB 0 10000))))) := by
  unfold d_is_plan r_is_plan
  have hc : ∀ st, Ok ((rTOr (rTNot (rTru (rDef d_is_many (rCons (rVar 0) (rCons (rC (.int (2))) rNil))))) (rTOr (rTNot (rTru (rCall allI (rCons (rLc (fSeq (rVar 0)) (.one 3) [3] rYes (rIsT .tup (rVar 3))) rNil)))) (rTNot (rTBl (rChain cLe cLe (rC (.int (1))) (rCall lenI (rCons (rBin idxI (rVar 0) (rC (.int (0)))) rNil)) (rC (.int (60)))))))) (startI 5 [.tup [.tup A, .tup B]]) st) st (!(decide ((1 : Int) ≤ A.length) && decide ((A.length : Int) ≤ 60))) := fun st => by
    refine Ok.eq (ok_tor (ok_tnot (ok_trub (k := true) (ok_def (xs := [.tup [.tup A, .tup B], .int 2]) (ok_cons (ok_var rfl) fun _ _ => ok_cons ok_c fun _ _ => ok_nil) fun s _ => many2 _ _ s))) fun s1 _ _ => ok_tor (ok_tnot (ok_trub (k := true) ?_)) fun s2 _ _ => ok_tnot (ok_tbl (k := decide ((1 : Int) ≤ A.length) && decide ((A.length : Int) ≤ 60)) ?_)) rfl
    · exact all_L (ks := [IV.tup A, .tup B]) (f := fun _ => true) (lc_yes id (fun k => (wipeI (startI 5 [.tup [.tup A, .tup B]]) [3]).set 3 (some k)) (fun _ => .bl true) [IV.tup A, .tup B] rfl (.refl _) (by simp) (fun _ _ => rfl) fun k hk s _ => by
        refine Ok.eq (ok_isT (t := .tup) (ok_var (v := k) rfl) fun _ _ => ?_) rfl
        rcases List.mem_cons.mp hk with rfl | hk
        · rfl
        · rcases List.mem_cons.mp hk with rfl | hk
          · rfl
          · cases hk)
    · exact ok_chain (x := .int 1) (y := .int A.length) (z := .int 60) (ok_c) (fun _ _ => ok_call (xs := [.tup A]) (ok_cons (ok_bin (x := .tup [.tup A, .tup B]) (ok_var rfl) (fun _ _ => ok_c) fun _ _ => ok_ofO rfl) fun _ _ => ok_nil) fun _ _ => ok_len) (fun _ _ => rfl) (fun _ _ => ok_c) (fun _ _ => rfl)
  cases hk : decide ((1 : Int) ≤ A.length) && decide ((A.length : Int) ≤ 60) with
  | false => exact ok_fn (okr_now (okr_ifT (Ok.eq (hc st) (by rw [hk]; rfl)) fun _ _ => okr_ret ok_c))
  | true =>
    refine ok_fn (okr_seq (oks_chk (Ok.eq (hc st) (by rw [hk]; rfl))) fun s1 _ => okr_seq (env' := [some (.tup [.tup A, .tup B]), some (.tup A), some (.tup B), none, none]) (oks_asg (v := .tup [.tup A, .tup B]) (ok_var rfl) fun _ _ => rfl) fun s2 _ => okr_ret ?_)
    rw [Bool.true_and]
    refine ok_and (ok_bin (x := .int B.length) (y := .int A.length) (ok_call (xs := [.tup B]) (ok_cons (ok_var rfl) fun _ _ => ok_nil) fun _ _ => ok_len) (fun _ _ => ok_call (xs := [.tup A]) (ok_cons (ok_var rfl) fun _ _ => ok_nil) fun _ _ => ok_len) fun _ _ => ok_eqi) fun s3 _ _ => ok_and ?_ fun s4 _ _ => ?_
    · exact all_L (ks := A) (f := fromB 1 1000) (lc_yes id (fun k => (wipeI [some (.tup [.tup A, .tup B]), some (.tup A), some (.tup B), none, none] [4]).set 4 (some k)) (fun v => .bl (fromB 1 1000 v)) A (by rw [List.map_id]; rfl) (.refl _) (by omega) (fun _ _ => rfl) fun k hk s _ => ok_def (xs := [k, .int 1, .int 1000]) (ok_cons (ok_var rfl) fun _ _ => ok_cons ok_c fun _ _ => ok_cons ok_c fun _ _ => ok_nil) fun s _ => from_gen (hA k hk) _ _ s)
    · exact all_L (ks := B) (f := fromB 0 10000) (lc_yes id (fun k => (wipeI [some (.tup [.tup A, .tup B]), some (.tup A), some (.tup B), none, none] [4]).set 4 (some k)) (fun v => .bl (fromB 0 10000 v)) B (by rw [List.map_id]; rfl) (.refl _) (by omega) (fun _ _ => rfl) fun k hk s _ => ok_def (xs := [k, .int 0, .int 10000]) (ok_cons (ok_var rfl) fun _ _ => ok_cons ok_c fun _ _ => ok_cons ok_c fun _ _ => ok_nil) fun s _ => from_gen (hB k hk) _ _ s)
/-- a list of the store among the blocks -/
theorem plan_list {n : Nat} {xs : List IV} {b : IV} (st : Sto) (h : st.os[n]? = some (.lst xs)) (hb : b = .tup [.int 1]) : Ok (d_is_plan [.tup [.ref n, b]] st) st (.bl false) := by
  subst hb
  unfold d_is_plan r_is_plan
  refine ok_fn (okr_now (okr_ifT (Ok.eq (ok_tor (k := false) (l := true) (ok_tnot (ok_trub (k := true) (ok_def (xs := [.tup [.ref n, .tup [.int 1]], .int 2]) (ok_cons (ok_var rfl) fun _ _ => ok_cons ok_c fun _ _ => ok_nil) fun s _ => many2 _ _ s))) fun s1 g1 _ => Ok.eq (ok_tor (k := true) (ok_tnot (ok_trub (k := false) ?_)) fun _ _ h => nomatch h) (Bool.true_or false)) rfl) fun _ _ => okr_ret ok_c))
  have := all_L (ks := [(IV.ref n, false), (IV.tup [.int 1], true)]) (f := fun k => k.2) (lc_yes (it := fSeq (rVar 0)) (ct := .one 3) (vs := [3]) (te := rIsT .tup (rVar 3)) (env := startI 5 [.tup [.ref n, .tup [.int 1]]]) (st0 := s1) (st := s1) (fun k => k.1) (fun k => (wipeI (startI 5 [.tup [.ref n, .tup [.int 1]]]) [3]).set 3 (some k.1)) (fun k => .bl k.2) [(IV.ref n, false), (IV.tup [.int 1], true)] rfl (.refl _) (by simp) (fun _ _ => rfl) fun k hk s gs => by
    rcases List.mem_cons.mp hk with rfl | hk
    · exact Ok.eq (ok_isT (t := .lst) (ok_var (v := .ref n) rfl) fun s' g' => by
        show (match s'.os[n]? with | some (.lst _) => some TY.lst | some (.frl _) => some TY.lst | _ => none) = _
        rw [((g1.trans gs).trans g').get h]) rfl
    · rcases List.mem_cons.mp hk with rfl | hk
      · exact Ok.eq (ok_isT (t := .tup) (ok_var (v := .tup [.int 1]) rfl) fun _ _ => rfl) rfl
      · cases hk)
  exact this
theorem plan_non (st : Sto) : Ok (d_is_plan [.non] st) st (.bl false) := .same rfl
/-! who raises what -/
theorem exc_bad {x t : IV} {st : Sto} (hx : ∀ st1, Gw st st1 → Ok (d_is_plan [x] st1) st1 (.bl false)) : Ex (d_check_plan [x, t] st) st ⟨1, [("thing", x)]⟩ := by
  unfold d_check_plan r_check_plan
  exact ex_fn (exs_now (exs_fire (Ok.eq (ok_tnot (ok_trub (k := false) (ok_def (xs := [x]) (ok_cons (ok_var rfl) fun _ _ => ok_nil) hx))) rfl) fun _ _ => rfl))
theorem exc_tick {ss cs : List Int} (P : PlanOk ss cs) {t : IV} {st : Sto} (ht : ∀ st1, Ok (d_is_from [t, .int 1, .int 100] st1) st1 (.bl false)) : Ex (d_check_plan [plan ss cs, t] st) st ⟨1, [("thing", t)]⟩ := by
  unfold d_check_plan r_check_plan
  exact ex_fn (exs_seq (oks_chk (Ok.eq (ok_tnot (ok_trub (k := true) (ok_def (xs := [plan ss cs]) (ok_cons (ok_var rfl) fun _ _ => ok_nil) fun s _ => plan_ok P s))) rfl)) fun s1 _ => exs_fire (Ok.eq (ok_tnot (ok_trub (k := false) (ok_def (xs := [t, .int 1, .int 100]) (ok_cons (ok_var rfl) fun _ _ => ok_cons ok_c fun _ _ => ok_cons ok_c fun _ _ => ok_nil) fun s _ => ht s))) rfl) fun _ _ => rfl)
theorem exh_1 {x t l m : IV} {X : IX} {st : Sto} (h : ∀ st1, Gw st st1 → Ex (d_check_plan [x, t] st1) st1 X) : Ex (d_check_hearing [x, t, l, m] st) st X := by
  unfold d_check_hearing r_check_hearing
  exact ex_fn (exs_now (exs_expr (ex_def (xs := [x, t]) (ok_cons (ok_var rfl) fun _ _ => ok_cons (ok_var rfl) fun _ _ => ok_nil) h)))
theorem exh_2 {ss cs : List Int} (P : PlanOk ss cs) {t : Int} (h1 : 1 ≤ t) (h2 : t ≤ 100) {l m : IV} {st : Sto} (hl : ∀ st1, Ok (d_is_from [l, .int 1, .int 60] st1) st1 (.bl false)) : Ex (d_check_hearing [plan ss cs, .int t, l, m] st) st ⟨1, [("thing", l)]⟩ := by
  unfold d_check_hearing r_check_hearing
  exact ex_fn (exs_seq (oks_expr (ok_def (xs := [plan ss cs, .int t]) (ok_cons (ok_var rfl) fun _ _ => ok_cons (ok_var rfl) fun _ _ => ok_nil) fun s _ => check_ok P h1 h2 s)) fun s1 _ => exs_now (exs_fire (Ok.eq (ok_tnot (ok_trub (k := false) (ok_def (xs := [l, .int 1, .int 60]) (ok_cons (ok_var rfl) fun _ _ => ok_cons ok_c fun _ _ => ok_cons ok_c fun _ _ => ok_nil) fun s _ => hl s))) rfl) fun _ _ => rfl))
theorem exh_3 {ss cs : List Int} (P : PlanOk ss cs) {t l : Int} (h1 : 1 ≤ t) (h2 : t ≤ 100) (h3 : 1 ≤ l) (h4 : l ≤ 60) {m : IV} {st : Sto} (hm : ∀ st1, Ok (d_is_from [m, .int 0, .int (10 ^ 7)] st1) st1 (.bl false)) : Ex (d_check_hearing [plan ss cs, .int t, .int l, m] st) st ⟨1, [("thing", m)]⟩ := by
  unfold d_check_hearing r_check_hearing
  exact ex_fn (exs_seq (oks_expr (ok_def (xs := [plan ss cs, .int t]) (ok_cons (ok_var rfl) fun _ _ => ok_cons (ok_var rfl) fun _ _ => ok_nil) fun s _ => check_ok P h1 h2 s)) fun s1 _ => exs_seq (oks_chk (Ok.eq (ok_tnot (ok_trub (k := true) (ok_def (xs := [.int l, .int 1, .int 60]) (ok_cons (ok_var rfl) fun _ _ => ok_cons ok_c fun _ _ => ok_cons ok_c fun _ _ => ok_nil) fun s _ => from_yes h3 h4 s))) rfl)) fun s2 _ => exs_fire (Ok.eq (ok_tnot (ok_trub (k := false) (ok_def (xs := [m, .int 0, .int (10 ^ 7)]) (ok_cons (ok_var rfl) fun _ _ => ok_cons ok_c fun _ _ => ok_cons ok_c fun _ _ => ok_nil) fun s _ => hm s))) rfl) fun _ _ => rfl)
section
variable {x t l m : IV} {X : IX} {st : Sto}
theorem ex_heard (h : ∀ st1, Gw st st1 → Ex (d_check_hearing [x, t, .int 1, m] st1) st1 X) : Ex (d_heard_times [x, t, m] st) st X := by
  unfold d_heard_times r_heard_times
  exact ex_fn (exs_now (exs_expr (ex_def (xs := [x, t, .int 1, m]) (ok_cons (ok_var rfl) fun _ _ => ok_cons (ok_var rfl) fun _ _ => ok_cons ok_c fun _ _ => ok_cons (ok_var rfl) fun _ _ => ok_nil) h)))
theorem ex_played (h : ∀ st1, Gw st st1 → Ex (d_check_hearing [x, t, l, m] st1) st1 X) : Ex (d_played_times [x, t, l, m] st) st X := by
  unfold d_played_times r_played_times
  exact ex_fn (exs_now (exs_expr (ex_def (xs := [x, t, l, m]) (ok_cons (ok_var rfl) fun _ _ => ok_cons (ok_var rfl) fun _ _ => ok_cons (ok_var rfl) fun _ _ => ok_cons (ok_var rfl) fun _ _ => ok_nil) h)))
theorem ex_least (h : ∀ st1, Gw st st1 → Ex (d_check_hearing [x, t, l, .int 0] st1) st1 X) : Ex (d_least_late [x, t, l] st) st X := by
  unfold d_least_late r_least_late
  exact ex_fn (exs_now (exs_expr (ex_def (xs := [x, t, l, .int 0]) (ok_cons (ok_var rfl) fun _ _ => ok_cons (ok_var rfl) fun _ _ => ok_cons (ok_var rfl) fun _ _ => ok_cons ok_c fun _ _ => ok_nil) h)))
theorem ex_shows (h : ∀ st1, Gw st st1 → Ex (d_check_hearing [x, t, l, .int 0] st1) st1 X) : Ex (d_shows_least_late [x, t, l, m] st) st X := by
  unfold d_shows_least_late r_shows_least_late
  exact ex_fn (exs_now (exs_asg (ex_def (xs := [x, t, l]) (ok_cons (ok_var rfl) fun _ _ => ok_cons (ok_var rfl) fun _ _ => ok_cons (ok_var rfl) fun _ _ => ok_nil) fun s g => ex_least fun s' g' => h s' (g.trans g'))))
theorem ex_delay (h : ∀ st1, Gw st st1 → Ex (d_check_hearing [x, t, l, .int 0] st1) st1 X) : Ex (d_delay_of [x, t, l] st) st X := by
  unfold d_delay_of r_delay_of
  exact ex_fn (exs_now (exs_asg (ex_def (xs := [x, t, l]) (ok_cons (ok_var rfl) fun _ _ => ok_cons (ok_var rfl) fun _ _ => ok_cons (ok_var rfl) fun _ _ => ok_nil) fun s g => ex_least fun s' g' => h s' (g.trans g'))))
theorem ex_lc {D : SemE} {ct : CT} {vs : List Nat} {tt : SemT} {te : SemE} {env : IEnv} {F : List IV → Sto → RO} (h : Ex (D env st) st X) : Ex (rCall F (rCons (rLc (fEnum (rCons D rNil)) ct vs tt te) rNil) env st) st X := by
  obtain ⟨s1, e1, g1⟩ := h
  have h1 : rCons D rNil env st = .exc X s1 := by unfold rCons; rw [e1]; rfl
  have h2 : fEnum (rCons D rNil) env st = .exc X s1 := by unfold fEnum; rw [h1]; rfl
  have h3 : rLc (fEnum (rCons D rNil)) ct vs tt te env st = .exc X s1 := by unfold rLc; rw [h2]; rfl
  have h4 : rCons (rLc (fEnum (rCons D rNil)) ct vs tt te) rNil env st = .exc X s1 := by
    show (rLc (fEnum (rCons D rNil)) ct vs tt te env st).bind _ = _
    rw [h3]; rfl
  refine ⟨s1, ?_, g1⟩
  unfold rCall; rw [h4]; rfl
end
theorem ex_late {ss cs : List Int} (P : PlanOk ss cs) {t : Int} (h1 : 1 ≤ t) (h2 : t ≤ 100) {l : IV} {st : Sto} (hl : ∀ st1, Ok (d_is_from [l, .int 1, .int 60] st1) st1 (.bl false)) : Ex (d_late_blocks [plan ss cs, .int t, l, .int 0] st) st ⟨1, [("thing", l)]⟩ := by
  unfold d_late_blocks r_late_blocks
  exact ex_fn (exs_seq (oks_set (ok_def (xs := [plan ss cs, .int t, .int 0]) (ok_cons (ok_var rfl) fun _ _ => ok_cons (ok_var rfl) fun _ _ => ok_cons (ok_var rfl) fun _ _ => ok_nil) fun s _ => heard_ok P h1 h2 (by decide) (by decide) s)) fun s1 _ => exs_ret (ex_lc (ex_def (xs := [plan ss cs, .int t, l, .int 0]) (ok_cons (ok_var rfl) fun _ _ => ok_cons (ok_var rfl) fun _ _ => ok_cons (ok_var rfl) fun _ _ => ok_cons (ok_var rfl) fun _ _ => ok_nil) fun s _ => ex_played fun s' _ => exh_2 P h1 h2 hl)))
end law_k18

set_option Elab.async false
set_option linter.all false
set_option maxRecDepth 100000
set_option maxHeartbeats 4000000
namespace law_k18
open PySem PySem.Spec PyProof.Rows L2 PI PL
theorem loop_ok {b : SemS} {env : IEnv} {i : Nat} : ∀ (xs : List IV) (e : Option IV) (st : Sto), (∀ x ∈ xs, ∀ st1, Gw st st1 → ∀ e, OkS (b ((env.set i e).set i (some x)) st1) st1 ((env.set i e).set i (some x))) → ∃ e', OkS (loopT (gN i) b xs (env.set i e) st) st (env.set i e')
  | [], e, st, _ => ⟨e, st, rfl, .refl st⟩
  | x :: xs, e, st, hb => by
    obtain ⟨s1, e1, g1⟩ := hb x List.mem_cons_self st (.refl st) e
    obtain ⟨e', s2, e2, g2⟩ := loop_ok xs (some x) s1 (fun y hy st1 h => hb y (List.mem_cons_of_mem _ hy) st1 (g1.trans h))
    refine ⟨e', s2, ?_, g1.trans g2⟩
    show (b ((env.set i e).set i (some x)) st).loop _ = _
    rw [e1]
    show loopT (gN i) b xs ((env.set i e).set i (some x)) s1 = _
    rw [List.set_set]
    exact e2
theorem for_ok {b : SemS} {env : IEnv} {i : Nat} {st st0 : Sto} {it : IEnv → Sto → RE FI} {xs : List IV} (h : it env st = .ok (.items xs) st0) (hg : Gw st st0) (hb : ∀ x ∈ xs, ∀ st1, Gw st0 st1 → ∀ e, OkS (b ((env.set i e).set i (some x)) st1) st1 ((env.set i e).set i (some x))) (hi : i < env.length) : ∃ e, OkS (sFor it (gN i) b env st) st (env.set i e) := by
  obtain ⟨e', s2, e2, g2⟩ := loop_ok xs (env[i]'hi) st0 hb
  rw [List.set_getElem_self] at e2
  exact ⟨e', s2, (sfor_items h).trans e2, hg.trans g2⟩
theorem repr_of {st : Sto} {v : IV} {d : PyData} (h : pd st.os 63 v = some d) (hd : (d.showable && (Nat.ble d.shown.length lineI && (txtOf d).all fun c => decide (c < 0x110000))) = true) : ∃ s, reprI [v] st = some (.str s, st) := by
  refine ⟨txtOf d, ?_⟩
  show (match pd st.os 63 v with
    | some d => bif d.showable && (Nat.ble d.shown.length lineI && (txtOf d).all fun c => decide (c < 0x110000)) then some (IV.str (txtOf d), st) else none
    | none => none) = _
  rw [h]
  simp only [hd, cond_true]
/-- a refusal as due, among the checks of a turn -/
theorem chk_ref {body : SemE} {env : IEnv} {st : Sto} {v : IV} (he : env[1]? = some (some v)) (hb : ∀ st1, Gw st st1 → Ex (body env st1) st1 ⟨1, [("thing", v)]⟩) (hr : ∀ st1, Gw st st1 → ∃ s, reprI [v] st1 = some (.str s, st1)) : OkS (sIf (rTNot (rTru (rRefuses 1 "thing" body (rVar 1)))) (sRet (rC (.bl false))) sPass env st) st env :=
  oks_chk (Ok.eq (ok_tnot (ok_trub (k := true) (ok_refuses (ok_var he) hb hr))) rfl)
theorem chk_rfl {body : SemE} {env : IEnv} {st : Sto} (h : ∀ st1, rRefuses 1 "thing" body (rVar 1) env st1 = .ok (.bl true) st1) : OkS (sIf (rTNot (rTru (rRefuses 1 "thing" body (rVar 1)))) (sRet (rC (.bl false))) sPass env st) st env :=
  oks_chk (Ok.eq (ok_tnot (ok_trub (k := true) (.same (h st)))) rfl)
/-- a bad plan among the first turns -/
theorem turn1 {p x : IV} {st : Sto} (hx : ∀ st1, Gw st st1 → Ok (d_is_plan [x] st1) st1 (.bl false)) (hr : ∀ st1, Gw st st1 → ∃ s, reprI [x] st1 = some (.str s, st1)) : OkS ((sSeq (sIf (rTru (rDef d_is_plan (rCons (rVar 1) rNil))) (sRet (rC (.bl false))) sPass)
    (sSeq (sIf (rTNot (rTru (rRefuses 1 "thing" (rDef d_heard_times (rCons (rVar 1) (rCons (rC .non) (rCons (rC .non) rNil)))) (rVar 1)))) (sRet (rC (.bl false))) sPass)
    (sSeq (sIf (rTNot (rTru (rRefuses 1 "thing" (rDef d_least_late (rCons (rVar 1) (rCons (rC .non) (rCons (rC .non) rNil)))) (rVar 1)))) (sRet (rC (.bl false))) sPass)
    (sIf (rTNot (rTru (rRefuses 1 "thing" (rDef d_played_times (rCons (rVar 1) (rCons (rC .non) (rCons (rC .non) (rCons (rC .non) rNil))))) (rVar 1)))) (sRet (rC (.bl false))) sPass)))) [some p, some x] st) st [some p, some x] := by
  refine oks_seq (oks_chk (ok_trub (ok_def (xs := [x]) (ok_cons (ok_var rfl) fun _ _ => ok_nil) hx))) fun s1 g1 => oks_seq (chk_ref (v := x) rfl (fun s2 g2 => ex_def (xs := [x, .non, .non]) (ok_cons (ok_var rfl) fun _ _ => ok_cons ok_c fun _ _ => ok_cons ok_c fun _ _ => ok_nil) fun s3 g3 => ex_heard fun s4 g4 => exh_1 fun s5 g5 => exc_bad fun s6 g6 => hx s6 (((((g1.trans g2).trans g3).trans g4).trans g5).trans g6)) fun s2 g2 => hr s2 (g1.trans g2)) fun s2 g2 => oks_seq (chk_ref (v := x) rfl (fun s3 g3 => ex_def (xs := [x, .non, .non]) (ok_cons (ok_var rfl) fun _ _ => ok_cons ok_c fun _ _ => ok_cons ok_c fun _ _ => ok_nil) fun s4 g4 => ex_least fun s5 g5 => exh_1 fun s6 g6 => exc_bad fun s7 g7 => hx s7 ((((((g1.trans g2).trans g3).trans g4).trans g5).trans g6).trans g7)) fun s3 g3 => hr s3 ((g1.trans g2).trans g3)) fun s3 g3 => chk_ref (v := x) rfl (fun s4 g4 => ex_def (xs := [x, .non, .non, .non]) (ok_cons (ok_var rfl) fun _ _ => ok_cons ok_c fun _ _ => ok_cons ok_c fun _ _ => ok_cons ok_c fun _ _ => ok_nil) fun s5 g5 => ex_played fun s6 g6 => exh_1 fun s7 g7 => exc_bad fun s8 g8 => hx s8 (((((((g1.trans g2).trans g3).trans g4).trans g5).trans g6).trans g7).trans g8)) fun s4 g4 => hr s4 (((g1.trans g2).trans g3).trans g4)
/-- the ten bad plans -/
def bads (n : Nat) : List IV := [.non, .tup [.tup [], .tup []], .tup [.tup [.int 1], .tup []], .tup [.ref n, .tup [.int 1]], .tup [.tup [.int 0], .tup [.int 1]], .tup [.tup [.int 1001], .tup [.int 1]], .tup [.tup [.int 1], .tup [.int 10001]], .tup [.tup [.int 1], .tup [.int (-1)]], .tup [.tup [.bl true], .tup [.int 1]], .tup [.tup (List.replicate 61 (.int 1)), .tup (List.replicate 61 (.int 1))]]
theorem ftup_eq {as : SemA} {env : IEnv} {st s1 : Sto} {xs : List IV} (h : as env st = .ok xs s1) (hl : Nat.ble xs.length lineI = true) : fSeq (rTup as) env st = .ok (.items xs) s1 := by
  have h1 : rTup as env st = .ok (.tup xs) s1 := by
    unfold rTup
    rw [h]
    show (bif Nat.ble xs.length lineI then RE.ok (IV.tup xs) s1 else .bad) = _
    rw [hl]; rfl
  unfold fSeq
  rw [h1]; rfl
theorem rtup_eq {as : SemA} {env : IEnv} {st s1 : Sto} {xs : List IV} (h : as env st = .ok xs s1) (hl : Nat.ble xs.length lineI = true) : rTup as env st = .ok (.tup xs) s1 := by
  unfold rTup
  rw [h]
  show (bif Nat.ble xs.length lineI then RE.ok (IV.tup xs) s1 else .bad) = _
  rw [hl]; rfl
theorem rbin_eq' {f : IV → IV → Sto → RO} {a b : SemE} {env : IEnv} {st s1 s2 s3 : Sto} {x y z : IV} (h : a env st = .ok x s1) (h2 : b env s1 = .ok y s2) (h3 : f x y s2 = some (z, s3)) : rBin f a b env st = .ok z s3 := by
  unfold rBin
  rw [h]
  simp only [RE.bind]
  rw [h2]
  simp only
  rw [h3]; rfl
theorem pair_eq {a b : SemE} {env : IEnv} {st s1 s2 : Sto} {x y : IV} (h : a env st = .ok x s1) (h2 : b env s1 = .ok y s2) : rTup (rCons a (rCons b rNil)) env st = .ok (.tup [x, y]) s2 :=
  rtup_eq (rcons_eq h (rcons_eq h2 (rfl : rNil env s2 = .ok [] s2))) rfl
theorem one_eq (v : IV) (env : IEnv) (st : Sto) : rTup (rCons (rC v) rNil) env st = .ok (.tup [v]) st := rtup_eq (rcons_eq (rfl : rC v env st = .ok v st) (rfl : rNil env st = .ok [] st)) rfl
theorem no_eq (env : IEnv) (st : Sto) : rTup rNil env st = .ok (.tup []) st := rtup_eq (rfl : rNil env st = .ok [] st) rfl
theorem rep_eq (env : IEnv) (st : Sto) : rBin mulT (rTup (rCons (rC (.int (1))) rNil)) (rC (.int (61))) env st = .ok (.tup (List.replicate 61 (.int 1))) st :=
  rbin_eq' (one_eq (.int 1) env st) (rfl : rC (.int 61) env st = .ok (.int 61) st) (by
    show (bif decide (-1000000 < (61 : Int)) && decide ((61 : Int) ≤ 1000) && Nat.ble [IV.int 1].length 1000 then some (IV.tup (List.replicate (61 : Int).toNat [IV.int 1]).flatten, st) else none) = _
    rw [decide_eq_true (show -1000000 < (61 : Int) by omega), decide_eq_true (show (61 : Int) ≤ 1000 by omega), List.flatten_replicate_singleton]
    rfl)
theorem bads_eq (p : IV) (st : Sto) : fSeq (rTup (rCons (rC .non) (rCons (rTup (rCons (rTup rNil) (rCons (rTup rNil) rNil))) (rCons (rTup (rCons (rTup (rCons (rC (.int (1))) rNil)) (rCons (rTup rNil) rNil))) (rCons (rTup (rCons (rLst (rCons (rC (.int (1))) rNil)) (rCons (rTup (rCons (rC (.int (1))) rNil)) rNil))) (rCons (rTup (rCons (rTup (rCons (rC (.int (0))) rNil)) (rCons (rTup (rCons (rC (.int (1))) rNil)) rNil))) (rCons (rTup (rCons (rTup (rCons (rC (.int (1001))) rNil)) (rCons (rTup (rCons (rC (.int (1))) rNil)) rNil))) (rCons (rTup (rCons (rTup (rCons (rC (.int (1))) rNil)) (rCons (rTup (rCons (rC (.int (10001))) rNil)) rNil))) (rCons (rTup (rCons (rTup (rCons (rC (.int (1))) rNil)) (rCons (rTup (rCons (rUn negI (rC (.int (1)))) rNil)) rNil))) (rCons (rTup (rCons (rTup (rCons (rC (.bl true)) rNil)) (rCons (rTup (rCons (rC (.int (1))) rNil)) rNil))) (rCons (rTup (rCons (rBin mulT (rTup (rCons (rC (.int (1))) rNil)) (rC (.int (61)))) (rCons (rBin mulT (rTup (rCons (rC (.int (1))) rNil)) (rC (.int (61)))) rNil))) rNil))))))))))) [some p, none] st = .ok (.items (bads st.os.length)) { os := st.os ++ [.lst [.int 1]], low := st.low } := by
  let s1 : Sto := { os := st.os ++ [.lst [.int 1]], low := st.low }
  let E : IEnv := [some p, none]
  have l1 : rLst (rCons (rC (.int (1))) rNil) E st = .ok (.ref st.os.length) s1 := rfl
  have m1 : rTup (rCons (rUn negI (rC (.int (1)))) rNil) E s1 = .ok (.tup [.int (-1)]) s1 := rfl
  refine ftup_eq (rcons_eq (v := .non) (s1 := st) rfl (rcons_eq (pair_eq (no_eq E st) (no_eq E st)) (rcons_eq (pair_eq (one_eq _ E st) (no_eq E st)) (rcons_eq (pair_eq l1 (one_eq _ E s1)) (rcons_eq (pair_eq (one_eq _ E s1) (one_eq _ E s1)) (rcons_eq (pair_eq (one_eq _ E s1) (one_eq _ E s1)) (rcons_eq (pair_eq (one_eq _ E s1) (one_eq _ E s1)) (rcons_eq (pair_eq (one_eq _ E s1) m1) (rcons_eq (pair_eq (one_eq _ E s1) (one_eq _ E s1)) (rcons_eq (pair_eq (rep_eq E s1) (rep_eq E s1)) (rfl : rNil E s1 = .ok [] s1))))))))))) rfl
theorem plan_61 : ∀ v ∈ List.replicate 61 (IV.int 1), Simple v := fun v hv => by rw [List.eq_of_mem_replicate hv]; trivial
def Chs (t : Str) : Prop := ∀ c ∈ t.cps.toList, c < 0x110000
theorem chs_app {a b : Str} (h : Chs a) (h' : Chs b) : Chs (a ++ b) := by
  intro c hc
  have e : (a ++ b).cps.toList = a.cps.toList ++ b.cps.toList := by
    show (a.cps ++ b.cps).toList = _
    simp
  rw [e] at hc
  rcases List.mem_append.mp hc with h1 | h1
  · exact h c h1
  · exact h' c h1
theorem len_app (a b : Str) : (a ++ b).length = a.length + b.length := by
  show (a.cps ++ b.cps).size = _
  simp [Str.length]
theorem joinC {B : Nat} : ∀ ts : List Str, (∀ t ∈ ts, t.length ≤ B ∧ Chs t) → (Str.join ", " ts).length ≤ (B + 2) * ts.length ∧ Chs (Str.join ", " ts)
  | [], _ => ⟨Nat.zero_le _, fun c hc => nomatch hc⟩
  | [x], h => by
    have h1 := h x List.mem_cons_self
    exact ⟨by show x.length ≤ _; simp; omega, h1.2⟩
  | x :: y :: r, h => by
    have h1 := h x List.mem_cons_self
    have ih := joinC (y :: r) fun t ht => h t (List.mem_cons_of_mem _ ht)
    have e2 : ((", " : String) : Str).length = 2 := rfl
    refine ⟨?_, ?_⟩
    · show (x ++ ", " ++ Str.join ", " (y :: r)).length ≤ _
      rw [len_app, len_app, e2, List.length_cons, Nat.mul_add, Nat.mul_one]
      omega
    · show Chs (x ++ ", " ++ Str.join ", " (y :: r))
      exact chs_app (chs_app h1.2 (by unfold Chs; decide +kernel)) ih.2
theorem tupleC {B : Nat} (ts : List Str) (h : ∀ t ∈ ts, t.length ≤ B ∧ Chs t) : (tupleText ts).length ≤ (B + 2) * ts.length + 3 ∧ Chs (tupleText ts) := by
  have j := joinC ts h
  unfold tupleText
  have e1 : ((if ts.length == 1 then ",)" else ")" : String) : Str).length ≤ 2 := by split <;> decide +kernel
  have e3 : Chs ((if ts.length == 1 then ",)" else ")" : String) : Str) := by split <;> (unfold Chs; decide +kernel)
  have e2 : (("(" : Str)).length = 1 := rfl
  have e4 : Chs ("(" : Str) := by unfold Chs; decide +kernel
  exact ⟨by rw [len_app, len_app, e2]; omega, chs_app (chs_app e4 j.2) e3⟩
theorem shown_rep (n : Nat) : PyData.shownAll (List.replicate n (.int 1)) = List.replicate n (PyData.shown (.int 1)) := by
  induction n with
  | zero => simp [PyData.shownAll]
  | succ n ih => rw [List.replicate_succ, List.replicate_succ, PyData.shownAll, ih]
theorem one_ok : (PyData.shown (.int 1)).length ≤ 1 ∧ Chs (PyData.shown (.int 1)) := ⟨by decide +kernel, by unfold Chs; decide +kernel⟩
def d61 : PyData := .tuple [.tuple (List.replicate 61 (.int 1)), .tuple (List.replicate 61 (.int 1))]
theorem d61_ok : (d61.showable && (Nat.ble d61.shown.length lineI && (txtOf d61).all fun c => decide (c < 0x110000))) = true := by
  have s : d61.showable = true := by decide +kernel
  have h1 : (PyData.shown (.tuple (List.replicate 61 (.int 1)))).length ≤ 186 ∧ Chs (PyData.shown (.tuple (List.replicate 61 (.int 1)))) := by
    have := tupleC (B := 1) (PyData.shownAll (List.replicate 61 (.int 1))) (by
      rw [shown_rep]
      intro t ht
      rw [List.eq_of_mem_replicate ht]; exact one_ok)
    rw [shown_rep, List.length_replicate] at this
    rw [PyData.shown, shown_rep]
    exact ⟨by omega, this.2⟩
  have h2 := tupleC (B := 186) (PyData.shownAll [.tuple (List.replicate 61 (.int 1)), .tuple (List.replicate 61 (.int 1))]) (by
    rw [PyData.shownAll, PyData.shownAll, PyData.shownAll]
    intro t ht
    rcases List.mem_cons.mp ht with rfl | ht
    · exact h1
    · rcases List.mem_cons.mp ht with rfl | ht
      · exact h1
      · cases ht)
  have hd : d61.shown = tupleText (PyData.shownAll [.tuple (List.replicate 61 (.int 1)), .tuple (List.replicate 61 (.int 1))]) := by
    unfold d61; rw [PyData.shown]
  rw [← hd] at h2
  have hl : (PyData.shownAll [.tuple (List.replicate 61 (.int 1)), .tuple (List.replicate 61 (.int 1))]).length = 2 := by
    rw [PyData.shownAll, PyData.shownAll, PyData.shownAll]; rfl
  rw [hl] at h2
  have a : Nat.ble d61.shown.length lineI = true := Nat.ble_eq_true_of_le (Nat.le_trans h2.1 (by decide))
  have b : ((txtOf d61).all fun c => decide (c < 0x110000)) = true := by
    rw [List.all_eq_true]
    intro c hc
    exact decide_eq_true (h2.2 c hc)
  rw [s, a, b]; rfl
theorem bads_bad {st : Sto} {n : Nat} (hn : st.os[n]? = some (.lst [.int 1])) : ∀ x ∈ bads n, (Ok (d_is_plan [x] st) st (.bl false)) ∧ ∃ s, reprI [x] st = some (.str s, st) := by
  have sm : ∀ i : Int, ∀ v ∈ [IV.int i], Simple v := fun i v hv => by rw [List.mem_singleton.mp hv]; trivial
  have sb : ∀ v ∈ [IV.bl true], Simple v := fun v hv => by rw [List.mem_singleton.mp hv]; trivial
  have s0 : ∀ v ∈ ([] : List IV), Simple v := fun v hv => nomatch hv
  intro x hx
  unfold bads at hx
  simp only [List.mem_cons, List.not_mem_nil, or_false] at hx
  rcases hx with rfl | rfl | rfl | rfl | rfl | rfl | rfl | rfl | rfl | rfl
  · exact ⟨plan_non st, repr_of (d := .none) rfl (by decide +kernel)⟩
  · exact ⟨Ok.eq (plan_gen s0 s0 (by simp) (by simp) st) (by rfl), repr_of (d := .tuple [.tuple [], .tuple []]) rfl (by decide +kernel)⟩
  · exact ⟨Ok.eq (plan_gen (sm 1) s0 (by simp) (by simp) st) (by rfl), repr_of (d := .tuple [.tuple [.int 1], .tuple []]) rfl (by decide +kernel)⟩
  · refine ⟨plan_list st hn rfl, repr_of (d := .tuple [.list [.int 1], .tuple [.int 1]]) ?_ (by decide +kernel)⟩
    have hl : lstAt ⟨st.os, 0⟩ n = some [.int 1] := lst_of hn
    have e1 : pd st.os 62 (.ref n) = some (.list [.int 1]) := by
      show (match lstAt ⟨st.os, 0⟩ n with
        | some xs => match allSome (pd st.os 61) xs with
          | some ds => some (PyData.list ds)
          | none => none
        | none => none) = _
      rw [hl]; rfl
    show (match allSome (pd st.os 62) [.ref n, .tup [.int 1]] with
      | some ds => some (PyData.tuple ds)
      | none => none) = _
    have e2 : pd st.os 62 (.tup [.int 1]) = some (.tuple [.int 1]) := rfl
    simp only [allSome, e1, e2]
  · exact ⟨Ok.eq (plan_gen (sm 0) (sm 1) (by simp) (by simp) st) (by rfl), repr_of (d := .tuple [.tuple [.int 0], .tuple [.int 1]]) rfl (by decide +kernel)⟩
  · exact ⟨Ok.eq (plan_gen (sm 1001) (sm 1) (by simp) (by simp) st) (by rfl), repr_of (d := .tuple [.tuple [.int 1001], .tuple [.int 1]]) rfl (by decide +kernel)⟩
  · exact ⟨Ok.eq (plan_gen (sm 1) (sm 10001) (by simp) (by simp) st) (by rfl), repr_of (d := .tuple [.tuple [.int 1], .tuple [.int 10001]]) rfl (by decide +kernel)⟩
  · exact ⟨Ok.eq (plan_gen (sm 1) (sm (-1)) (by simp) (by simp) st) (by rfl), repr_of (d := .tuple [.tuple [.int 1], .tuple [.int (-1)]]) rfl (by decide +kernel)⟩
  · exact ⟨Ok.eq (plan_gen sb (sm 1) (by simp) (by simp) st) (by rfl), repr_of (d := .tuple [.tuple [.bool true], .tuple [.int 1]]) rfl (by decide +kernel)⟩
  · exact ⟨Ok.eq (plan_gen plan_61 plan_61 (by simp) (by simp) st) (by rfl), repr_of (d := d61) (by rfl) d61_ok⟩
end law_k18

set_option Elab.async false
set_option linter.all false
set_option maxRecDepth 100000
set_option maxHeartbeats 4000000
namespace law_k18
open PySem PySem.Spec PyProof.Rows L2 PI PL
theorem turn2 {ss cs : List Int} (P : PlanOk ss cs) {x : IV} {st : Sto} (ht : ∀ st1, Ok (d_is_from [x, .int 1, .int 100] st1) st1 (.bl false)) (hr : ∀ st1, ∃ s, reprI [x] st1 = some (.str s, st1)) (hs : ∀ st1, Ex (d_least_size [.int 1, .int 1, x, .non] st1) st1 ⟨1, [("thing", x)]⟩) : OkS ((sSeq (sIf (rTNot (rTru (rRefuses 1 "thing" (rDef d_heard_times (rCons (rVar 0) (rCons (rVar 1) (rCons (rC .non) rNil)))) (rVar 1)))) (sRet (rC (.bl false))) sPass)
    (sSeq (sIf (rTNot (rTru (rRefuses 1 "thing" (rDef d_shows_least_late (rCons (rVar 0) (rCons (rVar 1) (rCons (rC .non) (rCons (rC .non) rNil))))) (rVar 1)))) (sRet (rC (.bl false))) sPass)
    (sIf (rTNot (rTru (rRefuses 1 "thing" (rDef d_least_size (rCons (rC (.int (1))) (rCons (rC (.int (1))) (rCons (rVar 1) (rCons (rC .non) rNil))))) (rVar 1)))) (sRet (rC (.bl false))) sPass))) [some (plan ss cs), some x] st) st [some (plan ss cs), some x] :=
  oks_seq (chk_ref (v := x) rfl (fun s2 g2 => ex_def (xs := [plan ss cs, x, .non]) (ok_cons (ok_var rfl) fun _ _ => ok_cons (ok_var rfl) fun _ _ => ok_cons ok_c fun _ _ => ok_nil) fun s3 g3 => ex_heard fun s4 g4 => exh_1 fun s5 g5 => exc_tick P ht) fun s2 g2 => hr s2) fun s2 g2 => oks_seq (chk_ref (v := x) rfl (fun s3 g3 => ex_def (xs := [plan ss cs, x, .non, .non]) (ok_cons (ok_var rfl) fun _ _ => ok_cons (ok_var rfl) fun _ _ => ok_cons ok_c fun _ _ => ok_cons ok_c fun _ _ => ok_nil) fun s4 g4 => ex_shows fun s5 g5 => exh_1 fun s6 g6 => exc_tick P ht) fun s3 g3 => hr s3) fun s3 g3 => chk_ref (v := x) rfl (fun s4 g4 => ex_def (xs := [.int 1, .int 1, x, .non]) (ok_cons ok_c fun _ _ => ok_cons ok_c fun _ _ => ok_cons (ok_var rfl) fun _ _ => ok_cons ok_c fun _ _ => ok_nil) fun s5 _ => hs s5) fun s4 g4 => hr s4
theorem turn3 {ss cs : List Int} (P : PlanOk ss cs) {x : IV} {st : Sto} (ht : ∀ st1, Ok (d_is_from [x, .int 1, .int 60] st1) st1 (.bl false)) (hr : ∀ st1, ∃ s, reprI [x] st1 = some (.str s, st1)) : OkS ((sSeq (sIf (rTNot (rTru (rRefuses 1 "thing" (rDef d_late_blocks (rCons (rVar 0) (rCons (rC (.int (1))) (rCons (rVar 1) (rCons (rC (.int (0))) rNil))))) (rVar 1)))) (sRet (rC (.bl false))) sPass)
    (sIf (rTNot (rTru (rRefuses 1 "thing" (rDef d_delay_of (rCons (rVar 0) (rCons (rC (.int (1))) (rCons (rVar 1) rNil)))) (rVar 1)))) (sRet (rC (.bl false))) sPass)) [some (plan ss cs), some x] st) st [some (plan ss cs), some x] :=
  oks_seq (chk_ref (v := x) rfl (fun s2 g2 => ex_def (xs := [plan ss cs, .int 1, x, .int 0]) (ok_cons (ok_var rfl) fun _ _ => ok_cons ok_c fun _ _ => ok_cons (ok_var rfl) fun _ _ => ok_cons ok_c fun _ _ => ok_nil) fun s3 g3 => ex_late P (by decide) (by decide) ht) fun s2 g2 => hr s2) fun s2 g2 => chk_ref (v := x) rfl (fun s3 g3 => ex_def (xs := [plan ss cs, .int 1, x]) (ok_cons (ok_var rfl) fun _ _ => ok_cons ok_c fun _ _ => ok_cons (ok_var rfl) fun _ _ => ok_nil) fun s4 g4 => ex_delay fun s5 g5 => exh_2 P (by decide) (by decide) ht) fun s3 g3 => hr s3
theorem turn4 {ss cs : List Int} (P : PlanOk ss cs) {x : IV} {st : Sto} (ht : ∀ st1, Ok (d_is_from [x, .int 0, .int (10 ^ 7)] st1) st1 (.bl false)) (hr : ∀ st1, ∃ s, reprI [x] st1 = some (.str s, st1)) : OkS ((sIf (rTNot (rTru (rRefuses 1 "thing" (rDef d_played_times (rCons (rVar 0) (rCons (rC (.int (1))) (rCons (rC (.int (1))) (rCons (rVar 1) rNil))))) (rVar 1)))) (sRet (rC (.bl false))) sPass) [some (plan ss cs), some x] st) st [some (plan ss cs), some x] :=
  chk_ref (v := x) rfl (fun s2 g2 => ex_def (xs := [plan ss cs, .int 1, .int 1, x]) (ok_cons (ok_var rfl) fun _ _ => ok_cons ok_c fun _ _ => ok_cons ok_c fun _ _ => ok_cons (ok_var rfl) fun _ _ => ok_nil) fun s3 g3 => ex_played fun s4 g4 => exh_3 P (by decide) (by decide) (by decide) (by decide) ht) fun s2 g2 => hr s2
theorem ex_same {α : Type} {m : RE α} {st : Sto} {x : IX} (h : m = .exc x st) : Ex m st x := ⟨st, h, .refl st⟩
theorem turn5 {p x : IV} {st : Sto} (h1 : ∀ st1, Ex (d_even_plan [.int 9, x, .non, .non] st1) st1 ⟨1, [("thing", x)]⟩) (h2 : ∀ st1, Ex (d_least_size [.int 1, .int 1, .int 1, x] st1) st1 ⟨1, [("thing", x)]⟩) (hr : ∀ st1, ∃ s, reprI [x] st1 = some (.str s, st1)) : OkS ((sSeq (sIf (rTNot (rTru (rRefuses 1 "thing" (rDef d_even_plan (rCons (rC (.int (9))) (rCons (rVar 1) (rCons (rC .non) (rCons (rC .non) rNil))))) (rVar 1)))) (sRet (rC (.bl false))) sPass)
    (sIf (rTNot (rTru (rRefuses 1 "thing" (rDef d_least_size (rCons (rC (.int (1))) (rCons (rC (.int (1))) (rCons (rC (.int (1))) (rCons (rVar 1) rNil))))) (rVar 1)))) (sRet (rC (.bl false))) sPass)) [some p, some x] st) st [some p, some x] :=
  oks_seq (chk_ref (v := x) rfl (fun s2 g2 => ex_def (xs := [.int 9, x, .non, .non]) (ok_cons ok_c fun _ _ => ok_cons (ok_var rfl) fun _ _ => ok_cons ok_c fun _ _ => ok_cons ok_c fun _ _ => ok_nil) fun s3 g3 => h1 s3) fun s2 g2 => hr s2) fun s2 g2 => chk_ref (v := x) rfl (fun s3 g3 => ex_def (xs := [.int 1, .int 1, .int 1, x]) (ok_cons ok_c fun _ _ => ok_cons ok_c fun _ _ => ok_cons ok_c fun _ _ => ok_cons (ok_var rfl) fun _ _ => ok_nil) fun s4 g4 => h2 s4) fun s3 g3 => hr s3
theorem turn6 {p x : IV} {st : Sto} (h1 : ∀ st1, Ex (d_even_plan [x, .int 1, .non, .non] st1) st1 ⟨1, [("thing", x)]⟩) (hr : ∀ st1, ∃ s, reprI [x] st1 = some (.str s, st1)) : OkS ((sIf (rTNot (rTru (rRefuses 1 "thing" (rDef d_even_plan (rCons (rVar 1) (rCons (rC (.int (1))) (rCons (rC .non) (rCons (rC .non) rNil))))) (rVar 1)))) (sRet (rC (.bl false))) sPass) [some p, some x] st) st [some p, some x] :=
  chk_ref (v := x) rfl (fun s2 g2 => ex_def (xs := [x, .int 1, .non, .non]) (ok_cons (ok_var rfl) fun _ _ => ok_cons ok_c fun _ _ => ok_cons ok_c fun _ _ => ok_cons ok_c fun _ _ => ok_nil) fun s3 g3 => h1 s3) fun s2 g2 => hr s2
theorem turn7 {p x : IV} {st : Sto} (h1 : ∀ st1, Ex (d_even_plan [.int 9, .int 9, x, .int 1] st1) st1 ⟨1, [("thing", x)]⟩) (h2 : ∀ st1, Ex (d_even_plan [.int 9, .int 9, .int 1, x] st1) st1 ⟨1, [("thing", x)]⟩) (h3 : ∀ st1, Ex (d_least_size [x, .non, .non, .non] st1) st1 ⟨1, [("thing", x)]⟩) (hr : ∀ st1, ∃ s, reprI [x] st1 = some (.str s, st1)) : OkS ((sSeq (sIf (rTNot (rTru (rRefuses 1 "thing" (rDef d_even_plan (rCons (rC (.int (9))) (rCons (rC (.int (9))) (rCons (rVar 1) (rCons (rC (.int (1))) rNil))))) (rVar 1)))) (sRet (rC (.bl false))) sPass)
    (sSeq (sIf (rTNot (rTru (rRefuses 1 "thing" (rDef d_even_plan (rCons (rC (.int (9))) (rCons (rC (.int (9))) (rCons (rC (.int (1))) (rCons (rVar 1) rNil))))) (rVar 1)))) (sRet (rC (.bl false))) sPass)
    (sIf (rTNot (rTru (rRefuses 1 "thing" (rDef d_least_size (rCons (rVar 1) (rCons (rC .non) (rCons (rC .non) (rCons (rC .non) rNil))))) (rVar 1)))) (sRet (rC (.bl false))) sPass))) [some p, some x] st) st [some p, some x] :=
  oks_seq (chk_ref (v := x) rfl (fun s2 g2 => ex_def (xs := [.int 9, .int 9, x, .int 1]) (ok_cons ok_c fun _ _ => ok_cons ok_c fun _ _ => ok_cons (ok_var rfl) fun _ _ => ok_cons ok_c fun _ _ => ok_nil) fun s3 g3 => h1 s3) fun s2 g2 => hr s2) fun s2 g2 => oks_seq (chk_ref (v := x) rfl (fun s3 g3 => ex_def (xs := [.int 9, .int 9, .int 1, x]) (ok_cons ok_c fun _ _ => ok_cons ok_c fun _ _ => ok_cons ok_c fun _ _ => ok_cons (ok_var rfl) fun _ _ => ok_nil) fun s4 g4 => h2 s4) fun s3 g3 => hr s3) fun s3 g3 => chk_ref (v := x) rfl (fun s4 g4 => ex_def (xs := [x, .non, .non, .non]) (ok_cons (ok_var rfl) fun _ _ => ok_cons ok_c fun _ _ => ok_cons ok_c fun _ _ => ok_cons ok_c fun _ _ => ok_nil) fun s5 g5 => h3 s5) fun s4 g4 => hr s4
/-- the last refusal: the plan would cost too much -/
theorem even_dear (st : Sto) : Ex (d_even_plan [.int 9, .int 9, .int 1000, .int 1001] st) st ⟨1, [("thing", .int 1001)]⟩ := by
  unfold d_even_plan r_even_plan
  refine ex_fn (exs_seq (env' := [some (.int 9), some (.int 9), some (.int 1000), some (.int 1001), none, none, none, none]) (oks_chk (Ok.eq (ok_tnot (ok_trub (k := true) (ok_def (xs := [.int 9, .int 1, .int 1000]) (ok_cons (ok_var rfl) fun _ _ => ok_cons ok_c fun _ _ => ok_cons ok_c fun _ _ => ok_nil) fun s _ => from_yes (by decide) (by decide) s))) rfl)) fun s1 _ => exs_seq (oks_chk (Ok.eq (ok_tor (k := false) (l := false) (ok_tnot (ok_trub (k := true) (ok_def (xs := [.int 9, .int 1, .int 60000]) (ok_cons (ok_var rfl) fun _ _ => ok_cons ok_c fun _ _ => ok_cons ok_c fun _ _ => ok_nil) fun s _ => from_yes (by decide) (by decide) s))) fun _ _ _ => Ok.eq (ok_tbl (ok_bin (x := .int 9) (y := .int 540) (ok_var rfl) (fun _ _ => ok_bin (x := .int 60) (y := .int 9) ok_c (fun _ _ => ok_var rfl) fun _ _ => ok_ofO rfl) fun _ _ => ok_gt)) rfl) rfl)) fun s2 _ => ?_)
  obtain ⟨e4, hf⟩ := sfor_from (it := fSeq (rTup (rCons (rVar 2) (rCons (rVar 3) rNil)))) (i := 4) (b := sIf (rTNot (rTru (rDef d_is_from (rCons (rVar 4) (rCons (rC (.int (0))) (rCons (rC (.int (10000))) rNil)))))) (sRaise 1 "thing" (rVar 4)) sPass) (env := [some (.int 9), some (.int 9), some (.int 1000), some (.int 1001), none, none, none, none]) (st := s2) (xs := [.int 1000, .int 1001]) rfl (fun x hx s e' => by
    have hx' : ∃ v : Int, x = .int v ∧ 0 ≤ v ∧ v ≤ 10000 := by
      rcases List.mem_cons.mp hx with rfl | hx
      · exact ⟨1000, rfl, by omega, by omega⟩
      · rcases List.mem_cons.mp hx with rfl | hx
        · exact ⟨1001, rfl, by omega, by omega⟩
        · cases hx
    obtain ⟨v, rfl, hv0, hv1⟩ := hx'
    exact oks_chk (Ok.eq (ok_tnot (ok_trub (k := true) (ok_def (xs := [.int v, .int 0, .int 10000]) (ok_cons (ok_var rfl) fun _ _ => ok_cons ok_c fun _ _ => ok_cons ok_c fun _ _ => ok_nil) fun s _ => from_yes hv0 hv1 s))) rfl)) (by simp)
  refine exs_seq hf fun s3 g3 => exs_now (exs_fire (Ok.eq (ok_tbl (ok_bin (x := .int 10009) (y := .int 10000) (ok_bin (x := .int 1000) (y := .int 9009) (ok_var rfl) (fun _ _ => ok_bin (x := .int 1001) (y := .int 9) (ok_var rfl) (fun _ _ => Ok.eq (min2_L (a := 9) (b := 9) (ok_var rfl) fun _ _ => ok_var rfl) rfl) fun _ _ => ok_ofO rfl) fun _ _ => ok_ofO rfl) (fun _ _ => ok_c) fun _ _ => ok_gt)) rfl) fun _ _ => rfl)
theorem full_plan : PlanOk (List.replicate 60 1) (List.replicate 60 10000) := ⟨by simp, by simp, by simp, fun s hs => by rw [List.eq_of_mem_replicate hs]; omega, fun c hc => by rw [List.eq_of_mem_replicate hc]; omega⟩
end law_k18

set_option Elab.async false
set_option linter.all false
set_option maxRecDepth 100000
set_option maxHeartbeats 4000000
namespace law_k18
open PySem PySem.Spec PyProof.Rows L2 PI PL
theorem rp_int0 (st : Sto) : ∃ s, reprI [.int 0] st = some (.str s, st) := repr_of (d := .int 0) rfl (by decide +kernel)
theorem rp_non (st : Sto) : ∃ s, reprI [.non] st = some (.str s, st) := repr_of (d := .none) rfl (by decide +kernel)
theorem rp_true (st : Sto) : ∃ s, reprI [.bl true] st = some (.str s, st) := repr_of (d := .bool true) rfl (by decide +kernel)
theorem rp_101 (st : Sto) : ∃ s, reprI [.int 101] st = some (.str s, st) := repr_of (d := .int 101) rfl (by decide +kernel)
theorem rp_61 (st : Sto) : ∃ s, reprI [.int 61] st = some (.str s, st) := repr_of (d := .int 61) rfl (by decide +kernel)
theorem rp_m1 (st : Sto) : ∃ s, reprI [.int (-1)] st = some (.str s, st) := repr_of (d := .int (-1)) rfl (by decide +kernel)
theorem rp_7 (st : Sto) : ∃ s, reprI [.int (10 ^ 7 + 1)] st = some (.str s, st) := repr_of (d := .int (10 ^ 7 + 1)) rfl (by decide +kernel)
theorem rp_1001 (st : Sto) : ∃ s, reprI [.int 1001] st = some (.str s, st) := repr_of (d := .int 1001) rfl (by decide +kernel)
theorem rp_60001 (st : Sto) : ∃ s, reprI [.int 60001] st = some (.str s, st) := repr_of (d := .int 60001) rfl (by decide +kernel)
theorem rp_10001 (st : Sto) : ∃ s, reprI [.int 10001] st = some (.str s, st) := repr_of (d := .int 10001) rfl (by decide +kernel)
theorem no_int {i lo hi : Int} (h : ¬ (lo ≤ i ∧ i ≤ hi)) (st : Sto) : Ok (d_is_from [.int i, .int lo, .int hi] st) st (.bl false) := .same (by
  rw [from_ok]
  congr 2
  rw [Bool.and_eq_false_iff, decide_eq_false_iff_not, decide_eq_false_iff_not]
  omega)
theorem no_non (lo hi : Int) (st : Sto) : Ok (d_is_from [.non, .int lo, .int hi] st) st (.bl false) := .same rfl
theorem no_bl (lo hi : Int) (st : Sto) : Ok (d_is_from [.bl true, .int lo, .int hi] st) st (.bl false) := .same rfl
theorem refused_ok {ss cs : List Int} (P : PlanOk ss cs) (st : Sto) : Ok (d__law_refused_right [plan ss cs] st) st (.bl true) := by
  unfold d__law_refused_right r__law_refused_right
  refine ok_fn ?_
  obtain ⟨e1, f1⟩ := for_ok (i := 1) (bads_eq (plan ss cs) st) (.alloc _ _) (fun x hx st1 g e => by
    have h : ∀ s, Gw st1 s → _ := fun s g' => bads_bad ((g.trans g').get (new_get st (.lst [.int 1]) st.low)) x hx
    exact turn1 (p := plan ss cs) (fun s g' => (h s g').1) (fun s g' => (h s g').2)) (by simp)
  refine okr_seq f1 fun s1 _ => ?_
  obtain ⟨e2, f2⟩ := for_ok (it := fSeq (rTup (rCons (rC (.int (0))) (rCons (rC (.int (101))) (rCons (rC .non) (rCons (rC (.bl true)) rNil)))))) (i := 1) (env := [some (plan ss cs), e1]) (st := s1) (st0 := s1) (xs := [.int 0, .int 101, .non, .bl true]) rfl (.refl _) (fun x hx st1 g e => by
    simp only [List.mem_cons, List.not_mem_nil, or_false] at hx
    rcases hx with rfl | rfl | rfl | rfl
    · exact turn2 P (no_int (by omega)) rp_int0 (fun st => ex_same (by kernel_rfl))
    · exact turn2 P (no_int (by omega)) rp_101 (fun st => ex_same (by kernel_rfl))
    · exact turn2 P (no_non _ _) rp_non (fun st => ex_same (by kernel_rfl))
    · exact turn2 P (no_bl _ _) rp_true (fun st => ex_same (by kernel_rfl))) (by simp)
  refine okr_seq f2 fun s2 _ => ?_
  obtain ⟨e3, f3⟩ := for_ok (it := fSeq (rTup (rCons (rC (.int (0))) (rCons (rC (.int (61))) (rCons (rC .non) rNil))))) (i := 1) (env := [some (plan ss cs), e2]) (st := s2) (st0 := s2) (xs := [.int 0, .int 61, .non]) rfl (.refl _) (fun x hx st1 g e => by
    simp only [List.mem_cons, List.not_mem_nil, or_false] at hx
    rcases hx with rfl | rfl | rfl
    · exact turn3 P (no_int (by omega)) rp_int0
    · exact turn3 P (no_int (by omega)) rp_61
    · exact turn3 P (no_non _ _) rp_non) (by simp)
  refine okr_seq f3 fun s3 _ => ?_
  obtain ⟨e4, f4⟩ := for_ok (it := fSeq (rTup (rCons (rUn negI (rC (.int (1)))) (rCons (rBin addI (rBin powI (rC (.int (10))) (rC (.int (7)))) (rC (.int (1)))) (rCons (rC .non) rNil))))) (i := 1) (env := [some (plan ss cs), e3]) (st := s3) (st0 := s3) (xs := [.int (-1), .int (10 ^ 7 + 1), .non]) (by kernel_rfl) (.refl _) (fun x hx st1 g e => by
    simp only [List.mem_cons, List.not_mem_nil, or_false] at hx
    rcases hx with rfl | rfl | rfl
    · exact turn4 P (no_int (by omega)) rp_m1
    · exact turn4 P (no_int (by omega)) rp_7
    · exact turn4 P (no_non _ _) rp_non) (by simp)
  refine okr_seq f4 fun s4 _ => ?_
  obtain ⟨e5, f5⟩ := for_ok (it := fSeq (rTup (rCons (rC (.int (0))) (rCons (rC (.int (1001))) (rCons (rC .non) rNil))))) (i := 1) (env := [some (plan ss cs), e4]) (st := s4) (st0 := s4) (xs := [.int 0, .int 1001, .non]) rfl (.refl _) (fun x hx st1 g e => by
    simp only [List.mem_cons, List.not_mem_nil, or_false] at hx
    rcases hx with rfl | rfl | rfl
    · exact turn5 (fun st => ex_same (by kernel_rfl)) (fun st => ex_same (by kernel_rfl)) rp_int0
    · exact turn5 (fun st => ex_same (by kernel_rfl)) (fun st => ex_same (by kernel_rfl)) rp_1001
    · exact turn5 (fun st => ex_same (by kernel_rfl)) (fun st => ex_same (by kernel_rfl)) rp_non) (by simp)
  refine okr_seq f5 fun s5 _ => ?_
  obtain ⟨e6, f6⟩ := for_ok (it := fSeq (rTup (rCons (rC (.int (0))) (rCons (rC (.int (61))) (rCons (rC (.int (60001))) (rCons (rC .non) rNil)))))) (i := 1) (env := [some (plan ss cs), e5]) (st := s5) (st0 := s5) (xs := [.int 0, .int 61, .int 60001, .non]) rfl (.refl _) (fun x hx st1 g e => by
    simp only [List.mem_cons, List.not_mem_nil, or_false] at hx
    rcases hx with rfl | rfl | rfl | rfl
    · exact turn6 (fun st => ex_same (by kernel_rfl)) rp_int0
    · exact turn6 (fun st => ex_same (by kernel_rfl)) rp_61
    · exact turn6 (fun st => ex_same (by kernel_rfl)) rp_60001
    · exact turn6 (fun st => ex_same (by kernel_rfl)) rp_non) (by simp)
  refine okr_seq f6 fun s6 _ => ?_
  obtain ⟨e7, f7⟩ := for_ok (it := fSeq (rTup (rCons (rUn negI (rC (.int (1)))) (rCons (rC (.int (10001))) (rCons (rC .non) rNil))))) (i := 1) (env := [some (plan ss cs), e6]) (st := s6) (st0 := s6) (xs := [.int (-1), .int 10001, .non]) rfl (.refl _) (fun x hx st1 g e => by
    simp only [List.mem_cons, List.not_mem_nil, or_false] at hx
    rcases hx with rfl | rfl | rfl
    · exact turn7 (fun st => ex_same (by kernel_rfl)) (fun st => ex_same (by kernel_rfl)) (fun st => ex_same (by kernel_rfl)) rp_m1
    · exact turn7 (fun st => ex_same (by kernel_rfl)) (fun st => ex_same (by kernel_rfl)) (fun st => ex_same (by kernel_rfl)) rp_10001
    · exact turn7 (fun st => ex_same (by kernel_rfl)) (fun st => ex_same (by kernel_rfl)) (fun st => ex_same (by kernel_rfl)) rp_non) (by simp)
  refine okr_seq f7 fun s7 _ => okr_ret (Ok.eq (ok_and (k := true) (l := true) (ok_refuses (v := .int 1001) ok_c (fun s8 _ => ex_def (xs := [.int 9, .int 9, .int 1000, .int 1001]) (ok_cons ok_c fun _ _ => ok_cons ok_c fun _ _ => ok_cons ok_c fun _ _ => ok_cons ok_c fun _ _ => ok_nil) fun s9 _ => even_dear s9) fun s8 _ => rp_1001 s8) fun s8 _ _ => ok_def (xs := [plan (List.replicate 60 1) (List.replicate 60 10000)]) (ok_cons (.same (by kernel_rfl)) fun _ _ => ok_nil) fun s9 _ => plan_ok full_plan s9) rfl)
end law_k18

set_option Elab.async false
set_option linter.all false
set_option maxRecDepth 100000
set_option maxHeartbeats 4000000
namespace law_k18
open PySem PySem.Spec PyProof.Rows L2 PI PL
abbrev EV (n t m : Int) (l : Nat) (pl : IV) (e7 e8 e9 e10 e12 e13 e14 e15 : Option IV) : IEnv := [some (.ref 0), some (.ref 2), some (.int n), some pl, some (.int t), some (.int l), some (.int m), e7, e8, e9, e10, none, e12, e13, e14, e15, none, none, none, none, none, none, none, none, none]
theorem ne_self (xs : List Int) (st : Sto) : cNe (itup xs) (itup xs) st = some (.bl false, st) := by
  show blN (eqI st (.tup (xs.map IV.int)) (.tup (xs.map IV.int))) st = _
  rw [eq_ints]; rfl
theorem ne_late (t m : Int) (l : Nat) (ss cs : List Int) (st : Sto) : cNe (lateV t m l ss cs) (lateV t m l ss cs) st = some (.bl false, st) := by
  unfold lateV
  rw [nat_ints]; exact ne_self _ st
theorem late_ne_nil (t m : Int) (l : Nat) (ss cs : List Int) (st : Sto) : cNe (lateV t m l ss cs) (.tup []) st = some (.bl (!(lateN t m l ss cs).isEmpty), st) := by
  show blN (eqI st (lateV t m l ss cs) (.tup [])) st = _
  unfold lateV
  rw [nat_ints, eq_ints_nil, show ((lateN t m l ss cs).map fun k : Nat => (k : Int)).isEmpty = (lateN t m l ss cs).isEmpty by cases lateN t m l ss cs <;> rfl]; rfl
theorem late_eq_nil (t m : Int) (l : Nat) (ss cs : List Int) (st : Sto) : cEq (lateV t m l ss cs) (.tup []) st = some (.bl ((lateN t m l ss cs).isEmpty), st) := by
  show blO (eqI st (lateV t m l ss cs) (.tup [])) st = _
  unfold lateV
  rw [nat_ints, eq_ints_nil, show ((lateN t m l ss cs).map fun k : Nat => (k : Int)).isEmpty = (lateN t m l ss cs).isEmpty by cases lateN t m l ss cs <;> rfl]; rfl
theorem bl_ne (b : Bool) (st : Sto) : cNe (.bl b) (.bl b) st = some (.bl false, st) := by cases b <;> rfl
abbrev Told (n t m : Int) (l : Nat) (ss cs : List Int) (e7 e8 e9 e10 e12 e13 e14 e15 : Option IV) : IEnv := EV n t m l (plan ss cs) e7 e8 e9 e10 e12 e13 e14 e15
section
variable {ss cs : List Int} (P : PlanOk ss cs) {n t m : Int} {l : Nat} (h1 : 1 ≤ t) (h2 : t ≤ 100) (h3 : 1 ≤ l) (h4 : l ≤ 60) (h5 : 0 ≤ m) (h6 : m ≤ 10 ^ 7)
include P h1 h2 h3 h4 h5 h6
theorem law_4 (e7 e8 e9 e10 e12 e13 e14 e15 : Option IV) (st : Sto) : OkS ((sIf (rTOr (rTBl (rBin cNe (rDef d_heard_times (rCons (rVar 3) (rCons (rVar 4) (rCons (rVar 6) rNil)))) (rCall tupleI (rCons (rDef d__law_heard (rCons (rVar 3) (rCons (rVar 4) (rCons (rVar 6) rNil)))) rNil)))) (rTOr (rTBl (rBin cNe (rDef d_played_times (rCons (rVar 3) (rCons (rVar 4) (rCons (rVar 5) (rCons (rVar 6) rNil))))) (rCall tupleI (rCons (rDef d__law_times (rCons (rVar 3) (rCons (rVar 4) (rCons (rVar 5) (rCons (rVar 6) rNil))))) rNil)))) (rTBl (rBin cNe (rDef d_late_blocks (rCons (rVar 3) (rCons (rVar 4) (rCons (rVar 5) (rCons (rVar 6) rNil))))) (rDef d__law_late (rCons (rVar 3) (rCons (rVar 4) (rCons (rVar 5) (rCons (rVar 6) rNil))))))))) (sRet (rC (.bl false))) sPass) (EV n t m l (plan ss cs) e7 e8 e9 e10 e12 e13 e14 e15) st) st (EV n t m l (plan ss cs) e7 e8 e9 e10 e12 e13 e14 e15) := by
  refine oks_chk (Ok.eq (ok_tor (k := false) (l := false) (ok_tbl (ok_bin (x := itup (heardL t m ss)) (y := itup (heardL t m ss)) (ok_def (xs := [plan ss cs, .int t, .int m]) (ok_cons (ok_var rfl) fun _ _ => ok_cons (ok_var rfl) fun _ _ => ok_cons (ok_var rfl) fun _ _ => ok_nil) fun s _ => heard_ok P h1 h2 h5 h6 s) (fun _ _ => tup_L (okl_def (xs := [plan ss cs, .int t, .int m]) (ok_cons (ok_var rfl) fun _ _ => ok_cons (ok_var rfl) fun _ _ => ok_cons (ok_var rfl) fun _ _ => ok_nil) fun s _ => lheard_ok P h1 h2 s)) fun s _ => ok_ofO (ne_self _ s))) fun _ _ _ => Ok.eq (ok_tor (k := false) (l := false) (ok_tbl (ok_bin (x := itup (playedL t m l ss cs)) (y := itup (playedL t m l ss cs)) (ok_def (xs := [plan ss cs, .int t, .int l, .int m]) ((ok_cons (ok_var rfl) fun _ _ => ok_cons (ok_var rfl) fun _ _ => ok_cons (ok_var rfl) fun _ _ => ok_cons (ok_var rfl) fun _ _ => ok_nil)) fun s _ => played_ok P h1 h2 h3 h4 h5 h6 s) (fun _ _ => tup_L (okl_def (xs := [plan ss cs, .int t, .int l, .int m]) ((ok_cons (ok_var rfl) fun _ _ => ok_cons (ok_var rfl) fun _ _ => ok_cons (ok_var rfl) fun _ _ => ok_cons (ok_var rfl) fun _ _ => ok_nil)) fun s _ => ltimes_ok P h1 h2 h3 s)) fun s _ => ok_ofO (ne_self _ s))) fun _ _ _ => ok_tbl (ok_bin (x := lateV t m l ss cs) (y := lateV t m l ss cs) (ok_def (xs := [plan ss cs, .int t, .int l, .int m]) ((ok_cons (ok_var rfl) fun _ _ => ok_cons (ok_var rfl) fun _ _ => ok_cons (ok_var rfl) fun _ _ => ok_cons (ok_var rfl) fun _ _ => ok_nil)) fun s _ => late_ok P h1 h2 h3 h4 h5 h6 s) (fun _ _ => ok_def (xs := [plan ss cs, .int t, .int l, .int m]) ((ok_cons (ok_var rfl) fun _ _ => ok_cons (ok_var rfl) fun _ _ => ok_cons (ok_var rfl) fun _ _ => ok_cons (ok_var rfl) fun _ _ => ok_nil)) fun s _ => llate_ok P h1 h2 h3 s) fun s _ => ok_ofO (ne_late _ _ _ _ _ s))) rfl) rfl)
end
/-- the checks when a block can never be heard in time -/
abbrev sA : SemS := (sIf (rTOr (rTBl (rBin cNe (rVar 9) (rTup (rCons (rC (.str [110, 101, 118, 101, 114])) (rCons (rBin idxI (rVar 8) (rC (.int (0)))) rNil))))) (rTOr (rTNot (rTru (rDef d_shows_least_late (rCons (rVar 3) (rCons (rVar 4) (rCons (rVar 5) (rCons (rVar 9) rNil))))))) (rTOr (rTru (rCall anyI (rCons (rLc (fRng1 (rCons (rBin addI (rVar 2) (rC (.int (1)))) rNil)) (.one 10) [10] rYes (rBin cNe (rDef d_shows_least_late (rCons (rVar 3) (rCons (rVar 4) (rCons (rVar 5) (rCons (rTup (rCons (rC (.str [110, 101, 118, 101, 114])) (rCons (rVar 10) rNil))) rNil))))) (rBin cIn (rVar 10) (rVar 8)))) rNil))) (rTOr (rTru (rDef d_shows_least_late (rCons (rVar 3) (rCons (rVar 4) (rCons (rVar 5) (rCons (rTup (rCons (rC (.str [108, 97, 116, 101])) (rCons (rVar 7) (rCons (rC .non) rNil)))) rNil)))))) (rTBl (rBin cIsNot (rDef d_delay_of (rCons (rVar 3) (rCons (rVar 4) (rCons (rVar 5) rNil)))) (rC .non))))))) (sRet (rC (.bl false))) sPass)
theorem any_false {κ : Type} (ks : List κ) : (ks.any fun _ => false) = false := by induction ks <;> simp_all
theorem caseA {ss cs : List Int} (P : PlanOk ss cs) {n t m : Int} {l a : Nat} {r : List Nat} (h1 : 1 ≤ t) (h2 : t ≤ 100) (h3 : 1 ≤ l) (h4 : l ≤ 60) (hn0 : n = ss.length) (hn : neverN t l ss cs = a :: r) (e10 e12 e13 e14 e15 : Option IV) (st : Sto) :
    OkS (sA (EV n t m l (plan ss cs) (some (.int cs.sum)) (some (lateV t cs.sum l ss cs)) (some (.tup [sNever, .int (a : Nat)])) e10 e12 e13 e14 e15) st) st (EV n t m l (plan ss cs) (some (.int cs.sum)) (some (lateV t cs.sum l ss cs)) (some (.tup [sNever, .int (a : Nat)])) e10 e12 e13 e14 e15) := by
  have hle := P.hi
  have hnt := neverN_top P h1 h3
  have hlv : lateV t cs.sum l ss cs = .tup ((a :: r).map fun k => .int (k : Nat)) := by unfold lateV; rw [← hnt, hn]
  have hany : ∀ st, Ok (rCall anyI (rCons (rLc (fRng1 (rCons (rBin addI (rVar 2) (rC (.int (1)))) rNil)) (.one 10) [10] rYes (rBin cNe (rDef d_shows_least_late (rCons (rVar 3) (rCons (rVar 4) (rCons (rVar 5) (rCons (rTup (rCons (rC (.str [110, 101, 118, 101, 114])) (rCons (rVar 10) rNil))) rNil))))) (rBin cIn (rVar 10) (rVar 8)))) rNil) (EV n t m l (plan ss cs) (some (.int cs.sum)) (some (lateV t cs.sum l ss cs)) (some (.tup [sNever, .int (a : Nat)])) e10 e12 e13 e14 e15) st) st (.bl false) := fun st => by
    have hr : fRng1 (rCons (rBin addI (rVar 2) (rC (.int (1)))) rNil) (EV n t m l (plan ss cs) (some (.int cs.sum)) (some (lateV t cs.sum l ss cs)) (some (.tup [sNever, .int (a : Nat)])) e10 e12 e13 e14 e15) st = .ok (.items ((List.range (ss.length + 1)).map fun i => .int (i : Nat))) st := rng1 (ss.length + 1) (by subst hn0; rfl) (by omega)
    refine Ok.eq (any_L (ks := List.range (ss.length + 1)) (f := fun _ => false) (lc_yes (fun k : Nat => IV.int (k : Nat)) (fun k => EV n t m l (plan ss cs) (some (.int cs.sum)) (some (lateV t cs.sum l ss cs)) (some (.tup [sNever, .int (a : Nat)])) (some (.int (k : Nat))) e12 e13 e14 e15) (fun _ => .bl false) (List.range (ss.length + 1)) hr (.refl _) (by simp; omega) (fun _ _ => rfl) fun k hk s _ => ?_)) (by rw [any_false])
    refine ok_bin (x := .bl (decide (k ∈ neverN t l ss cs))) (y := .bl (decide (k ∈ neverN t l ss cs))) (ok_def (xs := [plan ss cs, .int t, .int l, .tup [sNever, .int (k : Nat)]]) ((ok_cons (ok_var rfl) fun _ _ => ok_cons (ok_var rfl) fun _ _ => ok_cons (ok_var rfl) fun _ _ => ok_cons (ok_tup (ok_cons ok_c fun _ _ => ok_cons (ok_var rfl) fun _ _ => ok_nil) (by simp)) fun _ _ => ok_nil)) fun s _ => shows_nk P h1 h2 h3 h4 hn k s) (fun _ _ => ok_bin (x := .int (k : Nat)) (y := lateV t cs.sum l ss cs) (ok_var rfl) (fun _ _ => ok_var rfl) fun s _ => ok_ofO (by rw [hnt]; exact in_nats s k _)) fun s _ => ok_ofO (bl_ne _ s)
  refine oks_chk (Ok.eq (ok_tor (k := false) (l := false) (ok_tbl (ok_bin (x := .tup [sNever, .int (a : Nat)]) (y := .tup [sNever, .int (a : Nat)]) (ok_var rfl) (fun _ _ => ok_tup (ok_cons ok_c fun _ _ => ok_cons (ok_bin (x := lateV t cs.sum l ss cs) (y := .int 0) (ok_var rfl) (fun _ _ => ok_c) fun _ _ => by rw [hlv]; exact ok_idx0) fun _ _ => ok_nil) (by simp)) fun s _ => Ok.eq (ok_ofO (pair_ne _ _ _ s)) (by rw [decide_eq_true rfl]; rfl))) fun _ _ _ => Ok.eq (ok_tor (k := false) (l := false) (Ok.eq (ok_tnot (ok_trub (k := decide (a ∈ neverN t l ss cs)) (ok_def (xs := [plan ss cs, .int t, .int l, .tup [sNever, .int (a : Nat)]]) ((ok_cons (ok_var rfl) fun _ _ => ok_cons (ok_var rfl) fun _ _ => ok_cons (ok_var rfl) fun _ _ => ok_cons (ok_var rfl) fun _ _ => ok_nil)) fun s _ => shows_nk P h1 h2 h3 h4 hn a s))) (by rw [hn, decide_eq_true List.mem_cons_self]; rfl)) fun s _ _ => Ok.eq (ok_tor (k := false) (l := false) (ok_trub (hany s)) fun s _ _ => Ok.eq (ok_tor (k := false) (l := false) (ok_trub (ok_def (xs := [plan ss cs, .int t, .int l, .tup [sLate, .int cs.sum, .non]]) ((ok_cons (ok_var rfl) fun _ _ => ok_cons (ok_var rfl) fun _ _ => ok_cons (ok_var rfl) fun _ _ => ok_cons (ok_tup (ok_cons ok_c fun _ _ => ok_cons (ok_var rfl) fun _ _ => ok_cons ok_c fun _ _ => ok_nil) (by simp)) fun _ _ => ok_nil)) fun s _ => shows_n2 P h1 h2 h3 h4 hn fun _ _ => .same rfl)) fun s _ _ => ok_tbl (ok_bin (x := .non) (y := .non) (ok_def (xs := [plan ss cs, .int t, .int l]) (ok_cons (ok_var rfl) fun _ _ => ok_cons (ok_var rfl) fun _ _ => ok_cons (ok_var rfl) fun _ _ => ok_nil) fun s _ => delay_never P h1 h2 h3 h4 hn s) (fun _ _ => ok_c) fun _ _ => ok_ofO rfl)) rfl) rfl) rfl) rfl)
end law_k18

set_option Elab.async false
set_option linter.all false
set_option maxRecDepth 100000
set_option maxHeartbeats 4000000
namespace law_k18
open PySem PySem.Spec PyProof.Rows L2 PI PL
abbrev sB1 : SemS := sAsg (rBin idxI (rLc (fRng1 (rCons (rBin addI (rVar 7) (rC (.int (1)))) rNil)) (.one 11) [11] (rTBl (rBin cEq (rDef d__law_late (rCons (rVar 3) (rCons (rVar 4) (rCons (rVar 5) (rCons (rVar 11) rNil))))) (rTup rNil))) (rVar 11)) (rC (.int (0)))) (gN 12)
abbrev sB2 : SemS := sAsg (rIfE (rTBl (rBin cGt (rVar 12) (rC (.int (0))))) (rBin idxI (rDef d__law_late (rCons (rVar 3) (rCons (rVar 4) (rCons (rVar 5) (rCons (rBin subI (rVar 12) (rC (.int (1)))) rNil))))) (rC (.int (0)))) (rC .non)) (gN 13)
abbrev sB3 : SemS := sIf (rTOr (rTBl (rBin cNe (rVar 9) (rTup (rCons (rC (.str [108, 97, 116, 101])) (rCons (rVar 12) (rCons (rVar 13) rNil)))))) (rTOr (rTNot (rTru (rDef d_shows_least_late (rCons (rVar 3) (rCons (rVar 4) (rCons (rVar 5) (rCons (rVar 9) rNil))))))) (rTOr (rTru (rDef d_shows_least_late (rCons (rVar 3) (rCons (rVar 4) (rCons (rVar 5) (rCons (rTup (rCons (rC (.str [108, 97, 116, 101])) (rCons (rBin addI (rVar 12) (rC (.int (1)))) (rCons (rVar 13) rNil)))) rNil)))))) (rTru (rDef d_shows_least_late (rCons (rVar 3) (rCons (rVar 4) (rCons (rVar 5) (rCons (rTup (rCons (rC (.str [110, 101, 118, 101, 114])) (rCons (rC (.int (0))) rNil))) rNil))))))))) (sRet (rC (.bl false))) sPass
abbrev bB4 : SemS := sIf (rTBl (rBin cNe (rDef d_shows_least_late (rCons (rVar 3) (rCons (rVar 4) (rCons (rVar 5) (rCons (rTup (rCons (rC (.str [108, 97, 116, 101])) (rCons (rVar 12) (rCons (rVar 10) rNil)))) rNil))))) (rAnd (rBin cGt (rVar 12) (rC (.int (0)))) (rBin cIn (rVar 10) (rDef d__law_late (rCons (rVar 3) (rCons (rVar 4) (rCons (rVar 5) (rCons (rBin subI (rVar 12) (rC (.int (1)))) rNil))))))))) (sRet (rC (.bl false))) sPass
abbrev sB4 : SemS := sFor (fRng1 (rCons (rVar 2) rNil)) (gN 10) bB4
abbrev sB5 : SemS := sAsg (rTup (rCons (rDef d__law_heard (rCons (rVar 3) (rCons (rVar 4) (rCons (rVar 12) rNil)))) (rCons (rDef d__law_times (rCons (rVar 3) (rCons (rVar 4) (rCons (rVar 5) (rCons (rVar 12) rNil))))) rNil))) (gT 2 (gsCons (gN 14) (gsCons (gN 15) gsNil)))
abbrev sB6 : SemS := sIf (rTBl (rBin cNe (rDef d_delay_of (rCons (rVar 3) (rCons (rVar 4) (rCons (rVar 5) rNil)))) (rCall maxI (rCons (rLc (fRng1 (rCons (rVar 2) rNil)) (.one 10) [10] rYes (rBin addI (rBin subI (rBin idxI (rVar 14) (rVar 10)) (rBin idxI (rVar 15) (rVar 10))) (rBin idxI (rBin idxI (rVar 3) (rC (.int (1)))) (rVar 10)))) rNil)))) (sRet (rC (.bl false))) sPass
abbrev sB7 : SemS := sIf (rTOr (rTru (rCall anyI (rCons (rLc (fRng2 (rCons (rVar 12) (rCons (rBin addI (rVar 7) (rC (.int (1)))) rNil))) (.one 11) [11] rYes (rBin cNe (rDef d__law_late (rCons (rVar 3) (rCons (rVar 4) (rCons (rVar 5) (rCons (rVar 11) rNil))))) (rTup rNil))) rNil))) (rTru (rCall anyI (rCons (rLc (fRng1 (rCons (rVar 12) rNil)) (.one 11) [11] rYes (rBin cEq (rDef d_late_blocks (rCons (rVar 3) (rCons (rVar 4) (rCons (rVar 5) (rCons (rVar 11) rNil))))) (rTup rNil))) rNil)))) (sRet (rC (.bl false))) sPass
abbrev sB : SemS := sSeq sB1 (sSeq sB2 (sSeq sB3 (sSeq sB4 (sSeq sB5 (sSeq sB6 sB7)))))
theorem filter_first {p : Nat → Bool} {M N : Nat} (hM : M < N) (h0 : ∀ k, k < M → p k = false) (h1 : p M = true) : ∃ r, (List.range N).filter p = M :: r := by
  have e0 : (List.range M).filter p = [] := by
    rw [List.filter_eq_nil_iff]
    intro k hk
    rw [h0 k (range_mem hk)]; simp
  obtain ⟨d, hd⟩ : ∃ d, N = M + (d + 1) := ⟨N - M - 1, by omega⟩
  rw [hd, List.range_add, List.filter_append, e0, List.nil_append, List.range_succ_eq_map, List.map_cons, List.filter_cons, Nat.add_zero, if_pos h1]
  exact ⟨_, rfl⟩
theorem rbin_eq {f : IV → IV → Sto → RO} {a b : SemE} {env : IEnv} {st s1 s2 s3 : Sto} {x y z : IV} (h : a env st = .ok x s1) (h2 : b env s1 = .ok y s2) (h3 : f x y s2 = some (z, s3)) : rBin f a b env st = .ok z s3 := by
  unfold rBin
  rw [h]
  simp only [RE.bind]
  rw [h2]
  simp only
  rw [h3]; rfl
theorem firstV_eq (s : List Nat) (hs : PyData.strOk ⟨s.toArray⟩ = true) (t M : Int) (l : Nat) (ss cs : List Int) (st : Sto) : cNe (.tup [.str s, .int M, firstV t l ss cs M]) (.tup [.str s, .int M, firstV t l ss cs M]) st = some (.bl false, st) := by
  have h : ∃ d, pd st.os 62 (firstV t l ss cs M) = some d ∧ d.canLay0 = true := by
    unfold firstV
    split
    · split
      · exact ⟨_, rfl, rfl⟩
      · exact ⟨_, rfl, by simp [PyData.canLay0]⟩
    · exact ⟨_, rfl, rfl⟩
  obtain ⟨d, hd, hc⟩ := h
  show blN (eqI st _ _) st = _
  rw [eq_tup (d := .tuple [.str ⟨s.toArray⟩, .int M, d]) st ?_ ?_]
  · rfl
  · show (match allSome (pd st.os 62) [.str s, .int M, firstV t l ss cs M] with
      | some ds => some (PyData.tuple ds)
      | none => none) = _
    have e1 : pd st.os 62 (.str s) = some (.str ⟨s.toArray⟩) := rfl
    have e2 : pd st.os 62 (.int M) = some (.int M) := rfl
    simp only [allSome, e1, e2, hd]
  · simp only [PyData.canLay0, PyData.canLayAll0, hc, hs, Bool.and_self]
theorem caseB {ss cs : List Int} (P : PlanOk ss cs) {n t m M : Int} {l : Nat} (h1 : 1 ≤ t) (h2 : t ≤ 100) (h3 : 1 ≤ l) (h4 : l ≤ 60) (hn0 : n = ss.length) (hc50 : cs.sum ≤ 50000) (hM : Least t l ss cs M) (hv : ∀ st, Ok (d_least_late [plan ss cs, .int t, .int l] st) st (.tup [sLate, .int M, firstV t l ss cs M])) (e8 e10 e12 e13 e14 e15 : Option IV) (st : Sto) :
    ∃ f10 f12 f13 f14 f15, OkS (sB (EV n t m l (plan ss cs) (some (.int cs.sum)) e8 (some (.tup [sLate, .int M, firstV t l ss cs M])) e10 e12 e13 e14 e15) st) st (EV n t m l (plan ss cs) (some (.int cs.sum)) e8 (some (.tup [sLate, .int M, firstV t l ss cs M])) f10 f12 f13 f14 f15) := by
  have hle := P.hi
  have hlo := P.lo
  have htop := top_le P
  have hM0 := hM.lo
  have hM1 := hM.hi
  obtain ⟨K, hK⟩ := Int.eq_ofNat_of_zero_le hM0
  obtain ⟨T, hT⟩ := Int.eq_ofNat_of_zero_le htop.1
  -- the least lateness
  have b1 : OkS (sB1 (EV n t m l (plan ss cs) (some (.int cs.sum)) e8 (some (.tup [sLate, .int M, firstV t l ss cs M])) e10 e12 e13 e14 e15) st) st (EV n t m l (plan ss cs) (some (.int cs.sum)) e8 (some (.tup [sLate, .int M, firstV t l ss cs M])) e10 (some (.int M)) e13 e14 e15) := by
    have hr : fRng1 (rCons (rBin addI (rVar 7) (rC (.int (1)))) rNil) (EV n t m l (plan ss cs) (some (.int cs.sum)) e8 (some (.tup [sLate, .int M, firstV t l ss cs M])) e10 e12 e13 e14 e15) st = .ok (.items ((List.range (T + 1)).map fun i => .int (i : Nat))) st := rng1 (T + 1) (by rw [hT]; rfl) (by omega)
    obtain ⟨q, s1, e1, g1, hq⟩ := lc_items (tt := rTBl (rBin cEq (rDef d__law_late (rCons (rVar 3) (rCons (rVar 4) (rCons (rVar 5) (rCons (rVar 11) rNil))))) (rTup rNil))) (te := rVar 11) (ct := .one 11) (vs := [11]) (fun k : Nat => IV.int (k : Nat)) (fun k => (EV n t m l (plan ss cs) (some (.int cs.sum)) e8 (some (.tup [sLate, .int M, firstV t l ss cs M])) e10 e12 e13 e14 e15).set 11 (some (.int (k : Nat)))) (fun k => (lateN t (k : Nat) l ss cs).isEmpty) (fun k => .int (k : Nat)) (List.range (T + 1)) hr (.refl _) (by simp; omega) (fun _ _ => rfl) (fun k hk s _ => ok_tbl (ok_bin (x := lateV t (k : Nat) l ss cs) (y := .tup []) (ok_def (xs := [plan ss cs, .int t, .int l, .int (k : Nat)]) ((ok_cons (ok_var rfl) fun _ _ => ok_cons (ok_var rfl) fun _ _ => ok_cons (ok_var rfl) fun _ _ => ok_cons (ok_var rfl) fun _ _ => ok_nil)) fun s _ => llate_ok P h1 h2 h3 s) (fun _ _ => ok_tup ok_nil (by simp)) fun s _ => ok_ofO (late_eq_nil _ _ _ _ _ s))) (fun k hk _ s _ => ok_var rfl)
    obtain ⟨r, hr2⟩ := filter_first (p := fun k : Nat => (lateN t (k : Nat) l ss cs).isEmpty) (M := K) (N := T + 1) (by omega) (fun k hk => by
      have := hM.some (k : Nat) (by omega) (by omega)
      cases hc : lateN t (k : Nat) l ss cs with
      | nil => exact absurd hc this
      | cons a b => rfl) (by
      have := hM.none
      rw [hK] at this
      simp only [this]; rfl)
    rw [hr2] at hq
    refine oks_set (i := 12) ⟨s1, ?_, g1⟩
    refine rbin_eq e1 (rfl : rC (.int 0) _ s1 = .ok (.int 0) s1) ?_
    show (match lstAt s1 q with | some xs => (match L2.atI xs 0 with | some v => some (v, s1) | none => none) | none => none) = _
    have h0 : L2.atI ((K :: r).map fun k : Nat => IV.int (k : Nat)) 0 = some (.int (K : Nat)) := at_nat (j := 0) rfl
    rw [hq]
    simp only [h0, hK]
  have b2 : ∀ st, OkS (sB2 (EV n t m l (plan ss cs) (some (.int cs.sum)) e8 (some (.tup [sLate, .int M, firstV t l ss cs M])) e10 (some (.int M)) e13 e14 e15) st) st (EV n t m l (plan ss cs) (some (.int cs.sum)) e8 (some (.tup [sLate, .int M, firstV t l ss cs M])) e10 (some (.int M)) (some (firstV t l ss cs M)) e14 e15) := fun st => by
    refine oks_set (i := 13) ?_
    by_cases hp : 0 < M
    · have hne := hM.some (M - 1) (by omega) (by omega)
      refine ok_ifT (Ok.eq (ok_tbl (ok_bin (x := .int M) (y := .int 0) (ok_var rfl) (fun _ _ => ok_c) fun _ _ => ok_gt)) (decide_eq_true hp)) fun s _ => ?_
      refine ok_bin (x := lateV t (M - 1) l ss cs) (y := .int 0) (ok_def (xs := [plan ss cs, .int t, .int l, .int (M - 1)]) ((ok_cons (ok_var rfl) fun _ _ => ok_cons (ok_var rfl) fun _ _ => ok_cons (ok_var rfl) fun _ _ => ok_cons (ok_bin (ok_var rfl) (fun _ _ => ok_c) fun _ _ => ok_sub) fun _ _ => ok_nil)) fun s _ => llate_ok P h1 h2 h3 s) (fun _ _ => ok_c) fun _ _ => ?_
      unfold lateV firstV
      rw [if_pos hp]
      cases hc : lateN t (M - 1) l ss cs with
      | nil => exact absurd hc hne
      | cons k r => exact ok_idx0
    · have e : firstV t l ss cs M = .non := by unfold firstV; rw [if_neg hp]
      rw [e]
      exact ok_ifF (Ok.eq (ok_tbl (ok_bin (x := .int M) (y := .int 0) (ok_var rfl) (fun _ _ => ok_c) fun _ _ => ok_gt)) (decide_eq_false hp)) fun _ _ => ok_c
  have b3 : ∀ st, OkS (sB3 (EV n t m l (plan ss cs) (some (.int cs.sum)) e8 (some (.tup [sLate, .int M, firstV t l ss cs M])) e10 (some (.int M)) (some (firstV t l ss cs M)) e14 e15) st) st (EV n t m l (plan ss cs) (some (.int cs.sum)) e8 (some (.tup [sLate, .int M, firstV t l ss cs M])) e10 (some (.int M)) (some (firstV t l ss cs M)) e14 e15) := fun st => by
    refine oks_chk (Ok.eq (ok_tor (k := false) (l := false) (ok_tbl (ok_bin (x := .tup [sLate, .int M, firstV t l ss cs M]) (y := .tup [sLate, .int M, firstV t l ss cs M]) (ok_var rfl) (fun _ _ => ok_tup (ok_cons ok_c fun _ _ => ok_cons (ok_var rfl) fun _ _ => ok_cons (ok_var rfl) fun _ _ => ok_nil) (by simp)) fun s _ => ok_ofO (firstV_eq _ (by decide +kernel) _ _ _ _ _ s))) fun s _ _ => Ok.eq (ok_tor (k := false) (l := false) (ok_tnot (ok_trub (k := true) (ok_def (xs := [plan ss cs, .int t, .int l, .tup [sLate, .int M, firstV t l ss cs M]]) ((ok_cons (ok_var rfl) fun _ _ => ok_cons (ok_var rfl) fun _ _ => ok_cons (ok_var rfl) fun _ _ => ok_cons (ok_var rfl) fun _ _ => ok_nil)) fun s _ => shows_told P h1 h2 h3 h4 hM hv s))) fun s _ _ => Ok.eq (ok_tor (k := false) (l := false) (ok_trub (ok_def (xs := [plan ss cs, .int t, .int l, .tup [sLate, .int (M + 1), firstV t l ss cs M]]) ((ok_cons (ok_var rfl) fun _ _ => ok_cons (ok_var rfl) fun _ _ => ok_cons (ok_var rfl) fun _ _ => ok_cons (ok_tup (ok_cons ok_c fun _ _ => ok_cons (ok_bin (ok_var rfl) (fun _ _ => ok_c) fun _ _ => ok_add) fun _ _ => ok_cons (ok_var rfl) fun _ _ => ok_nil) (by simp)) fun _ _ => ok_nil)) fun s _ => shows_lM P h1 h2 h3 h4 hv (by omega) (by omega) (by omega) s)) fun s _ _ => ok_trub (ok_def (xs := [plan ss cs, .int t, .int l, .tup [sNever, .int 0]]) ((ok_cons (ok_var rfl) fun _ _ => ok_cons (ok_var rfl) fun _ _ => ok_cons (ok_var rfl) fun _ _ => ok_cons (ok_tup (ok_cons ok_c fun _ _ => ok_cons ok_c fun _ _ => ok_nil) (by simp)) fun _ _ => ok_nil)) fun s _ => shows_l3 P h1 h2 h3 h4 hv fun _ _ => .same rfl)) rfl) rfl) rfl)
  have b4 : ∀ st, ∃ f10, OkS (sB4 (EV n t m l (plan ss cs) (some (.int cs.sum)) e8 (some (.tup [sLate, .int M, firstV t l ss cs M])) e10 (some (.int M)) (some (firstV t l ss cs M)) e14 e15) st) st (EV n t m l (plan ss cs) (some (.int cs.sum)) e8 (some (.tup [sLate, .int M, firstV t l ss cs M])) f10 (some (.int M)) (some (firstV t l ss cs M)) e14 e15) := fun st => by
    have hr : fRng1 (rCons (rVar 2) rNil) (EV n t m l (plan ss cs) (some (.int cs.sum)) e8 (some (.tup [sLate, .int M, firstV t l ss cs M])) e10 (some (.int M)) (some (firstV t l ss cs M)) e14 e15) st = .ok (.items ((List.range ss.length).map fun i => .int (i : Nat))) st := rng1 ss.length (by subst hn0; rfl) (by omega)
    obtain ⟨f10, hf⟩ := for_ok (i := 10) (b := bB4) hr (.refl _) (fun x hx st1 g e => by
      obtain ⟨k, hk, rfl⟩ := List.mem_map.mp hx
      have hk := range_mem hk
      show OkS (bB4 (EV n t m l (plan ss cs) (some (.int cs.sum)) e8 (some (.tup [sLate, .int M, firstV t l ss cs M])) (some (.int (k : Nat))) (some (.int M)) (some (firstV t l ss cs M)) e14 e15) st1) st1 (EV n t m l (plan ss cs) (some (.int cs.sum)) e8 (some (.tup [sLate, .int M, firstV t l ss cs M])) (some (.int (k : Nat))) (some (.int M)) (some (firstV t l ss cs M)) e14 e15)
      by_cases hp : 0 < M
      · refine oks_chk (ok_tbl (ok_bin (x := .bl (decide (k ∈ lateN t (M - 1) l ss cs))) (y := .bl (decide (k ∈ lateN t (M - 1) l ss cs))) (ok_def (xs := [plan ss cs, .int t, .int l, .tup [sLate, .int M, .int (k : Nat)]]) ((ok_cons (ok_var rfl) fun _ _ => ok_cons (ok_var rfl) fun _ _ => ok_cons (ok_var rfl) fun _ _ => ok_cons (ok_tup (ok_cons ok_c fun _ _ => ok_cons (ok_var rfl) fun _ _ => ok_cons (ok_var rfl) fun _ _ => ok_nil) (by simp)) fun _ _ => ok_nil)) fun s _ => shows_lk P h1 h2 h3 h4 hv hp (by omega) hk s) (fun _ _ => Ok.eq (ok_and (k := true) (Ok.eq (ok_bin (x := .int M) (y := .int 0) (ok_var rfl) (fun _ _ => ok_c) fun _ _ => ok_gt) (by rw [decide_eq_true hp])) fun _ _ _ => ok_bin (x := .int (k : Nat)) (y := lateV t (M - 1) l ss cs) (ok_var rfl) (fun _ _ => ok_def (xs := [plan ss cs, .int t, .int l, .int (M - 1)]) ((ok_cons (ok_var rfl) fun _ _ => ok_cons (ok_var rfl) fun _ _ => ok_cons (ok_var rfl) fun _ _ => ok_cons (ok_bin (ok_var rfl) (fun _ _ => ok_c) fun _ _ => ok_sub) fun _ _ => ok_nil)) fun s _ => llate_ok P h1 h2 h3 s) fun s _ => ok_ofO (in_nats s k _)) (by rw [Bool.true_and])) fun s _ => ok_ofO (bl_ne _ s)))
      · have hM00 : M = 0 := by omega
        subst hM00
        refine oks_chk (ok_tbl (ok_bin (x := .bl false) (y := .bl false) (ok_def (xs := [plan ss cs, .int t, .int l, .tup [sLate, .int 0, .int (k : Nat)]]) ((ok_cons (ok_var rfl) fun _ _ => ok_cons (ok_var rfl) fun _ _ => ok_cons (ok_var rfl) fun _ _ => ok_cons (ok_tup (ok_cons ok_c fun _ _ => ok_cons (ok_var rfl) fun _ _ => ok_cons (ok_var rfl) fun _ _ => ok_nil) (by simp)) fun _ _ => ok_nil)) fun s _ => shows_l0 P h1 h2 h3 h4 hv rfl s) (fun _ _ => Ok.eq (ok_and (k := false) (l := false) (ok_bin (x := .int 0) (y := .int 0) (ok_var rfl) (fun _ _ => ok_c) fun _ _ => ok_gt) fun _ _ h => nomatch h) rfl) fun s _ => ok_ofO (bl_ne _ s)))) (by simp)
    exact ⟨f10, hf⟩
  obtain ⟨s1, e1, g1⟩ := b1
  obtain ⟨s2, e2, g2⟩ := b2 s1
  obtain ⟨s3, e3, g3⟩ := b3 s2
  obtain ⟨f10, s4, e4, g4⟩ := b4 s3
  obtain ⟨a, s5, e5, g5, ha⟩ := okl_def (D := d__law_heard) (as := rCons (rVar 3) (rCons (rVar 4) (rCons (rVar 12) rNil))) (env := EV n t m l (plan ss cs) (some (.int cs.sum)) e8 (some (.tup [sLate, .int M, firstV t l ss cs M])) f10 (some (.int M)) (some (firstV t l ss cs M)) e14 e15) (st := s4) (xs := [plan ss cs, .int t, .int M]) (ok_cons (ok_var rfl) fun _ _ => ok_cons (ok_var rfl) fun _ _ => ok_cons (ok_var rfl) fun _ _ => ok_nil) fun s _ => lheard_ok P (m := M) h1 h2 s
  obtain ⟨b, s6, e6, g6, hb⟩ := okl_def (D := d__law_times) (as := rCons (rVar 3) (rCons (rVar 4) (rCons (rVar 5) (rCons (rVar 12) rNil)))) (env := EV n t m l (plan ss cs) (some (.int cs.sum)) e8 (some (.tup [sLate, .int M, firstV t l ss cs M])) f10 (some (.int M)) (some (firstV t l ss cs M)) e14 e15) (st := s5) (xs := [plan ss cs, .int t, .int l, .int M]) ((ok_cons (ok_var rfl) fun _ _ => ok_cons (ok_var rfl) fun _ _ => ok_cons (ok_var rfl) fun _ _ => ok_cons (ok_var rfl) fun _ _ => ok_nil)) fun s _ => ltimes_ok P (m := M) h1 h2 h3 s
  have l5 := sasg2_eq (i := 14) (j := 15) e5 e6
  have b6 : OkS (sB6 (EV n t m l (plan ss cs) (some (.int cs.sum)) e8 (some (.tup [sLate, .int M, firstV t l ss cs M])) f10 (some (.int M)) (some (firstV t l ss cs M)) (some (.ref a)) (some (.ref b))) s6) s6 (EV n t m l (plan ss cs) (some (.int cs.sum)) e8 (some (.tup [sLate, .int M, firstV t l ss cs M])) f10 (some (.int M)) (some (firstV t l ss cs M)) (some (.ref a)) (some (.ref b))) := by
    refine oks_chk (Ok.eq (ok_tbl (ok_bin (x := .int (delayM (delayL t M l ss cs))) (y := .int (delayM (delayL t M l ss cs))) (ok_def (xs := [plan ss cs, .int t, .int l]) (ok_cons (ok_var rfl) fun _ _ => ok_cons (ok_var rfl) fun _ _ => ok_cons (ok_var rfl) fun _ _ => ok_nil) fun s _ => delay_late P h1 h2 h3 h4 hM0 (by omega) hv s) (fun s gs => ?_) fun _ _ => ok_nei)) (by rw [decide_eq_true rfl]; rfl))
    have hr : fRng1 (rCons (rVar 2) rNil) (EV n t m l (plan ss cs) (some (.int cs.sum)) e8 (some (.tup [sLate, .int M, firstV t l ss cs M])) f10 (some (.int M)) (some (firstV t l ss cs M)) (some (.ref a)) (some (.ref b))) s = .ok (.items ((List.range ss.length).map fun i => .int (i : Nat))) s := rng1 ss.length (by subst hn0; rfl) (by omega)
    refine call_L (xs := (delayL t M l ss cs).map IV.int) ?_ fun q s' hq => max_lst hq ?_
    · have := lc_yes (ct := .one 10) (vs := [10]) (te := (rBin addI (rBin subI (rBin idxI (rVar 14) (rVar 10)) (rBin idxI (rVar 15) (rVar 10))) (rBin idxI (rBin idxI (rVar 3) (rC (.int (1)))) (rVar 10)))) (fun k : Nat => IV.int (k : Nat)) (fun k => EV n t m l (plan ss cs) (some (.int cs.sum)) e8 (some (.tup [sLate, .int M, firstV t l ss cs M])) (some (.int (k : Nat))) (some (.int M)) (some (firstV t l ss cs M)) (some (.ref a)) (some (.ref b))) (fun k => IV.int (Hj t M ss k - Pk t M l ss cs (k + 1) + cs.getD k 0)) (List.range ss.length) hr (.refl _) (by simp; omega) (fun _ _ => rfl) fun k hk s' g' => by
        have hk' := range_mem hk
        exact ok_bin (x := .int (Hj t M ss k - Pk t M l ss cs (k + 1))) (y := .int (cs.getD k 0)) (ok_bin (x := .int (Hj t M ss k)) (y := .int (Pk t M l ss cs (k + 1))) (ok_bin (x := .ref a) (y := .int (k : Nat)) (ok_var rfl) (fun _ _ => ok_var rfl) fun s'' g'' => ok_idxL ((((g6.trans gs).trans g').trans g'').lst ha) (at_nat (heardL_at (by omega)))) (fun s'' g'' => ok_bin (x := .ref b) (y := .int (k : Nat)) (ok_var rfl) (fun _ _ => ok_var rfl) fun s3 g3 => ok_idxL ((((gs.trans g').trans g'').trans g3).lst hb) (at_nat (played_at hk'))) fun _ _ => ok_sub) (fun _ _ => ok_bin (x := itup cs) (y := .int (k : Nat)) (ok_bin (x := plan ss cs) (y := .int 1) (ok_var rfl) (fun _ _ => ok_c) fun _ _ => ok_ofO rfl) (fun _ _ => ok_var rfl) fun _ _ => ok_idx (at_nat (by rw [List.getElem?_map, cs_at P hk']; rfl))) fun _ _ => ok_add
      unfold delayL
      rw [List.map_map]
      exact this
    · intro h
      have hd : (delayL t M l ss cs).length = ss.length := by unfold delayL; rw [List.length_map, List.length_range]
      rw [h, List.length_nil] at hd
      omega
  obtain ⟨s7, e7, g7⟩ := b6
  have b7 : OkS (sB7 (EV n t m l (plan ss cs) (some (.int cs.sum)) e8 (some (.tup [sLate, .int M, firstV t l ss cs M])) f10 (some (.int M)) (some (firstV t l ss cs M)) (some (.ref a)) (some (.ref b))) s7) s7 (EV n t m l (plan ss cs) (some (.int cs.sum)) e8 (some (.tup [sLate, .int M, firstV t l ss cs M])) f10 (some (.int M)) (some (firstV t l ss cs M)) (some (.ref a)) (some (.ref b))) := by
    refine oks_chk (Ok.eq (ok_tor (k := false) (l := false) (ok_trub ?_) fun s _ _ => ok_trub ?_) rfl)
    · have hr : fRng2 (rCons (rVar 12) (rCons (rBin addI (rVar 7) (rC (.int (1)))) rNil)) (EV n t m l (plan ss cs) (some (.int cs.sum)) e8 (some (.tup [sLate, .int M, firstV t l ss cs M])) f10 (some (.int M)) (some (firstV t l ss cs M)) (some (.ref a)) (some (.ref b))) s7 = .ok (.items ((List.range (T + 1 - K)).map fun i => .int (M + (i : Nat)))) s7 := rng2 M (cs.sum + 1) (T + 1 - K) rfl (by omega) (by omega) (by omega) (by omega)
      refine Ok.eq (any_L (ks := List.range (T + 1 - K)) (f := fun _ => false) (lc_yes (fun k : Nat => IV.int (M + (k : Nat))) (fun k => (EV n t m l (plan ss cs) (some (.int cs.sum)) e8 (some (.tup [sLate, .int M, firstV t l ss cs M])) f10 (some (.int M)) (some (firstV t l ss cs M)) (some (.ref a)) (some (.ref b))).set 11 (some (.int (M + (k : Nat))))) (fun _ => .bl false) (List.range (T + 1 - K)) hr (.refl _) (by simp; omega) (fun _ _ => rfl) fun k hk s _ => ?_)) (by rw [any_false])
      refine ok_bin (x := lateV t (M + (k : Nat)) l ss cs) (y := .tup []) (ok_def (xs := [plan ss cs, .int t, .int l, .int (M + (k : Nat))]) ((ok_cons (ok_var rfl) fun _ _ => ok_cons (ok_var rfl) fun _ _ => ok_cons (ok_var rfl) fun _ _ => ok_cons (ok_var rfl) fun _ _ => ok_nil)) fun s _ => llate_ok P h1 h2 h3 s) (fun _ _ => ok_tup ok_nil (by simp)) fun s _ => Ok.eq (ok_ofO (late_ne_nil _ _ _ _ _ s)) ?_
      rw [late_mono hM.none (show M ≤ M + (k : Nat) by omega)]; rfl
    · have hr : fRng1 (rCons (rVar 12) rNil) (EV n t m l (plan ss cs) (some (.int cs.sum)) e8 (some (.tup [sLate, .int M, firstV t l ss cs M])) f10 (some (.int M)) (some (firstV t l ss cs M)) (some (.ref a)) (some (.ref b))) s = .ok (.items ((List.range K).map fun i => .int (i : Nat))) s := rng1 K (by rw [hK]; rfl) (by omega)
      refine Ok.eq (any_L (ks := List.range K) (f := fun _ => false) (lc_yes (fun k : Nat => IV.int (k : Nat)) (fun k => (EV n t m l (plan ss cs) (some (.int cs.sum)) e8 (some (.tup [sLate, .int M, firstV t l ss cs M])) f10 (some (.int M)) (some (firstV t l ss cs M)) (some (.ref a)) (some (.ref b))).set 11 (some (.int (k : Nat)))) (fun _ => .bl false) (List.range K) hr (.refl _) (by simp; omega) (fun _ _ => rfl) fun k hk s _ => ?_)) (by rw [any_false])
      have hk' := range_mem hk
      refine ok_bin (x := lateV t (k : Nat) l ss cs) (y := .tup []) (ok_def (xs := [plan ss cs, .int t, .int l, .int (k : Nat)]) ((ok_cons (ok_var rfl) fun _ _ => ok_cons (ok_var rfl) fun _ _ => ok_cons (ok_var rfl) fun _ _ => ok_cons (ok_var rfl) fun _ _ => ok_nil)) fun s _ => late_ok P h1 h2 h3 h4 (by omega) (by omega) s) (fun _ _ => ok_tup ok_nil (by simp)) fun s _ => Ok.eq (ok_ofO (late_eq_nil _ _ _ _ _ s)) ?_
      have := hM.some (k : Nat) (by omega) (by omega)
      cases hc : lateN t (k : Nat) l ss cs with
      | nil => exact absurd hc this
      | cons a b => rfl
  obtain ⟨s8, e8', g8⟩ := b7
  refine ⟨f10, some (.int M), some (firstV t l ss cs M), some (.ref a), some (.ref b), s8, ?_, ((((((g1.trans g2).trans g3).trans g4).trans g5).trans g6).trans g7).trans g8⟩
  unfold sB
  rw [seq_nx e1, seq_nx e2, seq_nx e3, seq_nx e4, seq_nx (show sB5 _ _ = _ from l5)]
  exact (seq_nx e7).trans e8'
end law_k18

set_option Elab.async false
set_option linter.all false
set_option maxRecDepth 100000
set_option maxHeartbeats 4000000
namespace law_k18
open PySem PySem.Spec PyProof.Rows L2 PI PL
abbrev s4 : SemS := (sIf (rTOr (rTBl (rBin cNe (rDef d_heard_times (rCons (rVar 3) (rCons (rVar 4) (rCons (rVar 6) rNil)))) (rCall tupleI (rCons (rDef d__law_heard (rCons (rVar 3) (rCons (rVar 4) (rCons (rVar 6) rNil)))) rNil)))) (rTOr (rTBl (rBin cNe (rDef d_played_times (rCons (rVar 3) (rCons (rVar 4) (rCons (rVar 5) (rCons (rVar 6) rNil))))) (rCall tupleI (rCons (rDef d__law_times (rCons (rVar 3) (rCons (rVar 4) (rCons (rVar 5) (rCons (rVar 6) rNil))))) rNil)))) (rTBl (rBin cNe (rDef d_late_blocks (rCons (rVar 3) (rCons (rVar 4) (rCons (rVar 5) (rCons (rVar 6) rNil))))) (rDef d__law_late (rCons (rVar 3) (rCons (rVar 4) (rCons (rVar 5) (rCons (rVar 6) rNil))))))))) (sRet (rC (.bl false))) sPass)
abbrev s5 : SemS := sAsg (rCall sumT (rCons (rBin idxI (rVar 3) (rC (.int (1)))) rNil)) (gN 7)
abbrev s6 : SemS := sAsg (rDef d__law_late (rCons (rVar 3) (rCons (rVar 4) (rCons (rVar 5) (rCons (rVar 7) rNil))))) (gN 8)
abbrev s7 : SemS := sAsg (rDef d_least_late (rCons (rVar 3) (rCons (rVar 4) (rCons (rVar 5) rNil)))) (gN 9)
abbrev s8 : SemS := sIf (rTBl (rBin cNe (rVar 8) (rTup rNil))) sA sB
abbrev s9 : SemS := sIf (rTOr (rTru (rDef d_shows_least_late (rCons (rVar 3) (rCons (rVar 4) (rCons (rVar 5) (rCons (rCall listI (rCons (rVar 9) rNil)) rNil)))))) (rTOr (rTru (rDef d_shows_least_late (rCons (rVar 3) (rCons (rVar 4) (rCons (rVar 5) (rCons (rC .non) rNil)))))) (rTru (rDef d_shows_least_late (rCons (rVar 3) (rCons (rVar 4) (rCons (rVar 5) (rCons (rTup (rCons (rBin idxI (rVar 9) (rC (.int (0)))) (rCons (rC (.bl true)) rNil))) rNil)))))))) (sRet (rC (.bl false))) sPass
theorem many_ref {n : Nat} {xs : List IV} {k : Int} {st : Sto} (h : st.os[n]? = some (.lst xs)) : Ok (d_is_many [.ref n, .int k] st) st (.bl false) := by
  unfold d_is_many r_is_many
  refine ok_fn (okr_ret (Ok.eq (ok_and (k := false) (l := false) (Ok.eq (ok_isT (t := .lst) (ok_var (v := .ref n) rfl) fun s g => ?_) rfl) fun _ _ h => nomatch h) rfl))
  show (match s.os[n]? with | some (.lst _) => some TY.lst | some (.frl _) => some TY.lst | _ => none) = _
  rw [g.get h]
section
variable {ss cs : List Int} (P : PlanOk ss cs) {n t m : Int} {l : Nat}
theorem law_9 {w : IV} {ws : List IV} (hsh : ∀ x st, (∀ st1, Gw st st1 → Ok (d_is_many [x, .int 2] st1) st1 (.bl false) ∧ Ok (d_is_many [x, .int 3] st1) st1 (.bl false)) → Ok (d_shows_least_late [plan ss cs, .int t, .int l, x] st) st (.bl false)) (hT : ∀ st, Ok (d_shows_least_late [plan ss cs, .int t, .int l, .tup [w, .bl true]] st) st (.bl false)) (e7 e8 e10 e12 e13 e14 e15 : Option IV) (st : Sto) :
    OkS (s9 (EV n t m l (plan ss cs) e7 e8 (some (.tup (w :: ws))) e10 e12 e13 e14 e15) st) st (EV n t m l (plan ss cs) e7 e8 (some (.tup (w :: ws))) e10 e12 e13 e14 e15) := by
  have hl : ∀ st, Ok (rDef d_shows_least_late (rCons (rVar 3) (rCons (rVar 4) (rCons (rVar 5) (rCons (rCall listI (rCons (rVar 9) rNil)) rNil)))) (EV n t m l (plan ss cs) e7 e8 (some (.tup (w :: ws))) e10 e12 e13 e14 e15) st) st (.bl false) := fun st => by
    have a1 : rCall listI (rCons (rVar 9) rNil) (EV n t m l (plan ss cs) e7 e8 (some (.tup (w :: ws))) e10 e12 e13 e14 e15) st = .ok (.ref st.os.length) { os := st.os ++ [.lst (w :: ws)], low := st.low } := rfl
    have a2 := rcons_eq (a := rVar 3) (env := EV n t m l (plan ss cs) e7 e8 (some (.tup (w :: ws))) e10 e12 e13 e14 e15) (st := st) (s1 := st) (v := plan ss cs) rfl (rcons_eq (a := rVar 4) (s1 := st) (v := .int t) rfl (rcons_eq (a := rVar 5) (s1 := st) (v := .int l) rfl (rcons_eq a1 (rfl : rNil _ _ = .ok [] _))))
    obtain ⟨s2, e2, g2⟩ := hsh (.ref st.os.length) { os := st.os ++ [.lst (w :: ws)], low := st.low } fun s1 g1 => ⟨many_ref (g1.get (new_get st _ st.low)), many_ref (g1.get (new_get st _ st.low))⟩
    refine ⟨s2, ?_, (Gw.alloc _ _).trans g2⟩
    unfold rDef
    rw [a2]; exact e2
  exact oks_chk (Ok.eq (ok_tor (k := false) (l := false) (ok_trub (hl st)) fun s _ _ => Ok.eq (ok_tor (k := false) (l := false) (ok_trub (ok_def (xs := [plan ss cs, .int t, .int l, .non]) ((ok_cons (ok_var rfl) fun _ _ => ok_cons (ok_var rfl) fun _ _ => ok_cons (ok_var rfl) fun _ _ => ok_cons (ok_c) fun _ _ => ok_nil)) fun s _ => hsh .non s fun _ _ => ⟨.same rfl, .same rfl⟩)) fun s _ _ => ok_trub (ok_def (xs := [plan ss cs, .int t, .int l, .tup [w, .bl true]]) ((ok_cons (ok_var rfl) fun _ _ => ok_cons (ok_var rfl) fun _ _ => ok_cons (ok_var rfl) fun _ _ => ok_cons (ok_tup (ok_cons (ok_bin (x := .tup (w :: ws)) (y := .int 0) (ok_var rfl) (fun _ _ => ok_c) fun _ _ => ok_idx0) fun _ _ => ok_cons ok_c fun _ _ => ok_nil) (by simp)) fun _ _ => ok_nil)) fun s _ => hT s)) rfl) rfl)
include P
theorem phase (h1 : 1 ≤ t) (h2 : t ≤ 100) (h3 : 1 ≤ l) (h4 : l ≤ 60) (h5 : 0 ≤ m) (h6 : m ≤ 10 ^ 7) (hn0 : n = ss.length) (hc50 : cs.sum ≤ 50000) (st : Sto) : ∃ st' e7 e8 e9 e10 e12 e13 e14 e15, Gw st st' ∧ ∀ k : SemS, sSeq s4 (sSeq s5 (sSeq s6 (sSeq s7 (sSeq s8 (sSeq s9 k))))) (EV n t m l (plan ss cs) none none none none none none none none) st = k (EV n t m l (plan ss cs) e7 e8 e9 e10 e12 e13 e14 e15) st' := by
  obtain ⟨t4, e4, g4⟩ := law_4 P (n := n) (l := l) h1 h2 h3 h4 h5 h6 none none none none none none none none st
  obtain ⟨t5, e5, g5⟩ : OkS (s5 (EV n t m l (plan ss cs) none none none none none none none none) t4) t4 (EV n t m l (plan ss cs) (some (.int cs.sum)) none none none none none none none) := oks_set (i := 7) (ok_call (xs := [itup cs]) (ok_cons (ok_bin (x := plan ss cs) (y := .int 1) (ok_var rfl) (fun _ _ => ok_c) fun _ _ => ok_ofO rfl) fun _ _ => ok_nil) fun _ _ => ok_sumT)
  obtain ⟨t6, e6, g6⟩ : OkS (s6 (EV n t m l (plan ss cs) (some (.int cs.sum)) none none none none none none none) t5) t5 (EV n t m l (plan ss cs) (some (.int cs.sum)) (some (lateV t cs.sum l ss cs)) none none none none none none) := oks_set (i := 8) (ok_def (xs := [plan ss cs, .int t, .int l, .int cs.sum]) ((ok_cons (ok_var rfl) fun _ _ => ok_cons (ok_var rfl) fun _ _ => ok_cons (ok_var rfl) fun _ _ => ok_cons (ok_var rfl) fun _ _ => ok_nil)) fun s _ => llate_ok P h1 h2 h3 s)
  have hc : ∀ (e9 : Option IV) st, Ok (rTBl (rBin cNe (rVar 8) (rTup rNil)) (EV n t m l (plan ss cs) (some (.int cs.sum)) (some (lateV t cs.sum l ss cs)) e9 none none none none none) st) st (!(lateN t cs.sum l ss cs).isEmpty) := fun e9 st => ok_tbl (ok_bin (x := lateV t cs.sum l ss cs) (y := .tup []) (ok_var rfl) (fun _ _ => ok_tup ok_nil (by simp)) fun s _ => ok_ofO (late_ne_nil _ _ _ _ _ s))
  have hnt := neverN_top P h1 h3 (l := l)
  cases hn : neverN t l ss cs with
  | cons a r =>
    obtain ⟨t7, e7, g7⟩ : OkS (s7 (EV n t m l (plan ss cs) (some (.int cs.sum)) (some (lateV t cs.sum l ss cs)) none none none none none none) t6) t6 (EV n t m l (plan ss cs) (some (.int cs.sum)) (some (lateV t cs.sum l ss cs)) (some (.tup [sNever, .int (a : Nat)])) none none none none none) := oks_set (i := 9) (ok_def (xs := [plan ss cs, .int t, .int l]) (ok_cons (ok_var rfl) fun _ _ => ok_cons (ok_var rfl) fun _ _ => ok_cons (ok_var rfl) fun _ _ => ok_nil) fun s _ => least_never P h1 h2 h3 h4 hn s)
    obtain ⟨t8, e8, g8⟩ := oks_ifT (t := sB) (Ok.eq (hc (some (.tup [sNever, .int (a : Nat)])) t7) (by rw [← hnt, hn]; rfl)) fun s _ => caseA P (m := m) (l := l) h1 h2 h3 h4 hn0 hn none none none none none s
    obtain ⟨t9, e9, g9⟩ := law_9 (n := n) (m := m) (w := sNever) (ws := [.int (a : Nat)]) (fun x st hx => shows_n2 P h1 h2 h3 h4 hn fun s g => (hx s g).1) (fun st => shows_nT P h1 h2 h3 h4 hn st) (some (.int cs.sum)) (some (lateV t cs.sum l ss cs)) none none none none none t8
    refine ⟨t9, some (.int cs.sum), some (lateV t cs.sum l ss cs), some (.tup [sNever, .int (a : Nat)]), none, none, none, none, none, ((((g4.trans g5).trans g6).trans g7).trans g8).trans g9, fun k => ?_⟩
    rw [seq_nx e4, seq_nx e5, seq_nx e6, seq_nx e7, seq_nx e8, seq_nx e9]
  | nil =>
    obtain ⟨M, hM, hv⟩ := least_late P h1 h2 h3 h4 hn
    obtain ⟨t7, e7, g7⟩ : OkS (s7 (EV n t m l (plan ss cs) (some (.int cs.sum)) (some (lateV t cs.sum l ss cs)) none none none none none none) t6) t6 (EV n t m l (plan ss cs) (some (.int cs.sum)) (some (lateV t cs.sum l ss cs)) (some (.tup [sLate, .int M, firstV t l ss cs M])) none none none none none) := oks_set (i := 9) (ok_def (xs := [plan ss cs, .int t, .int l]) (ok_cons (ok_var rfl) fun _ _ => ok_cons (ok_var rfl) fun _ _ => ok_cons (ok_var rfl) fun _ _ => ok_nil) fun s _ => hv s)
    obtain ⟨tc, ec, gc⟩ := Ok.eq (hc (some (.tup [sLate, .int M, firstV t l ss cs M])) t7) (show _ = false by rw [← hnt, hn]; rfl)
    obtain ⟨f10, f12, f13, f14, f15, t8, e8, g8⟩ := caseB P (n := n) (m := m) h1 h2 h3 h4 hn0 hc50 hM hv (some (lateV t cs.sum l ss cs)) none none none none none tc
    have e8' : s8 (EV n t m l (plan ss cs) (some (.int cs.sum)) (some (lateV t cs.sum l ss cs)) (some (.tup [sLate, .int M, firstV t l ss cs M])) none none none none none) t7 = .nx (EV n t m l (plan ss cs) (some (.int cs.sum)) (some (lateV t cs.sum l ss cs)) (some (.tup [sLate, .int M, firstV t l ss cs M])) f10 f12 f13 f14 f15) t8 := by
      show sIf _ _ _ _ _ = _
      unfold sIf
      rw [ec]; exact e8
    obtain ⟨t9, e9, g9⟩ := law_9 (n := n) (m := m) (w := sLate) (ws := [.int M, firstV t l ss cs M]) (fun x st hx => shows_l3 P h1 h2 h3 h4 hv fun s g => (hx s g).2) (fun st => shows_l3 P h1 h2 h3 h4 hv fun _ _ => .same rfl) (some (.int cs.sum)) (some (lateV t cs.sum l ss cs)) f10 f12 f13 f14 f15 t8
    refine ⟨t9, some (.int cs.sum), some (lateV t cs.sum l ss cs), some (.tup [sLate, .int M, firstV t l ss cs M]), f10, f12, f13, f14, f15, ((((((g4.trans g5).trans g6).trans g7).trans gc).trans g8)).trans g9, fun k => ?_⟩
    rw [seq_nx e4, seq_nx e5, seq_nx e6, seq_nx e7, seq_nx e8', seq_nx e9]
end
end law_k18

set_option Elab.async false
set_option linter.all false
set_option maxRecDepth 100000
set_option maxHeartbeats 4000000
namespace law_k18
open PySem PySem.Spec PyProof.Rows L2 PI PL
theorem next_eq : d__law_next = PL.d__law_next := rfl
/-- the store while numbers are drawn -/
structure Dr (ms : List Int) (st : Sto) (cnt : Int) : Prop where
  m : st.os[1]? = some (.lst (ms.map IV.int))
  n : st.os[2]? = some (.lst [.ref 1, .int 0, .int cnt])
theorem Dr.grow {ms : List Int} {st st' : Sto} {cnt : Int} (D : Dr ms st cnt) (g : Gw st st') : Dr ms st' cnt := ⟨g.get D.m, g.get D.n⟩
theorem drw {ms : List Int} {env : IEnv} {st : Sto} {cnt b : Int} (he : env[1]? = some (some (.ref 2))) (D : Dr ms st cnt) (h0 : 0 ≤ cnt) (h1 : cnt < 900) (hb : 0 < b) : ∃ v st', 0 ≤ v ∧ v < b ∧ rDef d__law_next (rCons (rVar 1) (rCons (rC (.int b)) rNil)) env st = .ok (.int v) st' ∧ Dr ms st' (cnt + 1) := by
  obtain ⟨v, hv0, hv1, hv⟩ := d__law_next_ok 2 1 ms cnt b st D.n D.m (by decide) h0 (by omega) hb
  have hl1 := (List.getElem?_eq_some_iff.mp D.n).1
  refine ⟨v, { os := st.os.set 2 (.lst [.ref 1, .int 0, .int (cnt + 1)]), low := st.low }, hv0, hv1, ?_, ⟨?_, ?_⟩⟩
  · have hx : rVar 1 env st = .ok (.ref 2) st := by unfold rVar; rw [he]
    have ha := rcons_eq hx (rcons_eq (rfl : rC (.int b) env st = .ok (.int b) st) (rfl : rNil env st = .ok [] st))
    unfold rDef
    rw [ha, next_eq]; exact hv
  · show (st.os.set 2 _)[1]? = _
    rw [List.getElem?_set_ne (by decide)]; exact D.m
  · exact List.getElem?_set_self hl1
theorem drw1 {ms : List Int} {env : IEnv} {st : Sto} {cnt b : Int} (he : env[1]? = some (some (.ref 2))) (D : Dr ms st cnt) (h0 : 0 ≤ cnt) (h1 : cnt < 900) (hb : 0 < b) : ∃ v st', 1 ≤ v ∧ v ≤ b ∧ rBin addI (rC (.int 1)) (rDef d__law_next (rCons (rVar 1) (rCons (rC (.int b)) rNil))) env st = .ok (.int v) st' ∧ Dr ms st' (cnt + 1) := by
  obtain ⟨v, st', a, b', e, D'⟩ := drw he D h0 h1 hb
  exact ⟨1 + v, st', by omega, by omega, rbin_eq (rfl : rC (.int 1) env st = .ok (.int 1) st) e rfl, D'⟩
theorem draws_loop {ms : List Int} {env0 : IEnv} {te : SemE} {lo hi : Int} (hte : ∀ x st cnt, Dr ms st cnt → 0 ≤ cnt → cnt < 900 → ∃ v st', lo ≤ v ∧ v ≤ hi ∧ te (env0.set 22 (some x)) st = .ok (.int v) st' ∧ Dr ms st' (cnt + 1)) : ∀ (xs : List IV) (acc : List Int) (st : Sto) (cnt : Int), Dr ms st cnt → 0 ≤ cnt → cnt + xs.length < 900 → ∃ (vs : List Int) (st' : Sto), loopC (.one 22) env0 rYes te xs (acc.map IV.int) st = .ok ((acc.reverse ++ vs).map IV.int) st' ∧ vs.length = xs.length ∧ (∀ v ∈ vs, lo ≤ v ∧ v ≤ hi) ∧ Dr ms st' (cnt + xs.length)
  | [], acc, st, cnt, D, h0, h1 => ⟨[], st, by simp [loopC], rfl, (fun v hv => nomatch hv), by simpa using D⟩
  | x :: xs, acc, st, cnt, D, h0, h1 => by
    rw [List.length_cons] at h1
    obtain ⟨v, s1, a, b, e, D1⟩ := hte x st cnt D h0 (by omega)
    obtain ⟨vs, s2, e2, h2, h3, D2⟩ := draws_loop hte xs (v :: acc) s1 (cnt + 1) D1 (by omega) (by omega)
    refine ⟨v :: vs, s2, ?_, by rw [List.length_cons, List.length_cons, h2], ?_, ?_⟩
    · unfold loopC
      simp only [CT.put, rYes, e]
      rw [show IV.int v :: acc.map IV.int = (v :: acc).map IV.int from rfl, e2]
      simp
    · intro u hu
      rcases List.mem_cons.mp hu with rfl | hu
      · exact ⟨a, b⟩
      · exact h3 u hu
    · rw [List.length_cons]
      have : cnt + 1 + (xs.length : Int) = cnt + ((xs.length + 1 : Nat) : Int) := by omega
      rw [← this]; exact D2
theorem draws_tup {ms : List Int} {it : IEnv → Sto → RE FI} {env : IEnv} {st : Sto} {cnt lo hi : Int} {te : SemE} {xs : List IV} (hi' : it env st = .ok (.items xs) st) (hN : xs.length ≤ 10) (D : Dr ms st cnt) (h0 : 0 ≤ cnt) (h1 : cnt < 800) (hte : ∀ x st cnt, Dr ms st cnt → 0 ≤ cnt → cnt < 900 → ∃ v st', lo ≤ v ∧ v ≤ hi ∧ te ((wipeI env [22]).set 22 (some x)) st = .ok (.int v) st' ∧ Dr ms st' (cnt + 1)) :
    ∃ (vs : List Int) (st' : Sto), rCall tupleI (rCons (rLc it (.one 22) [22] rYes te) rNil) env st = .ok (itup vs) st' ∧ vs.length = xs.length ∧ (∀ v ∈ vs, lo ≤ v ∧ v ≤ hi) ∧ Dr ms st' (cnt + xs.length) := by
  obtain ⟨vs, s2, e2, h2, h3, D2⟩ := draws_loop hte xs [] st cnt D h0 (by omega)
  have e3 : rLc it (.one 22) [22] rYes te env st = .ok (.ref s2.os.length) { os := s2.os ++ [.lst (vs.map IV.int)], low := s2.low } := by
    have hb : Nat.ble xs.length lineI = true := Nat.ble_eq_true_of_le (Nat.le_trans hN (by decide))
    unfold rLc
    rw [hi']
    simp only [RE.bind, hb, cond_true]
    rw [show ([] : List IV) = ([] : List Int).map IV.int from rfl, e2]
    rfl
  refine ⟨vs, { os := s2.os ++ [.lst (vs.map IV.int)], low := s2.low }, ?_, h2, h3, D2.grow (.alloc _ _)⟩
  unfold rCall
  rw [rcons_eq e3 (rfl : rNil env _ = .ok [] _)]
  simp only [RE.bind]
  rw [tup_lst (new_lst s2 (vs.map IV.int) s2.low)]; rfl
theorem sasg3_eq {a b c : SemE} {env : IEnv} {st s1 s2 s3 : Sto} {x y z : IV} {i j k : Nat} (h : a env st = .ok x s1) (h2 : b env s1 = .ok y s2) (h3 : c env s2 = .ok z s3) : sAsg (rTup (rCons a (rCons b (rCons c rNil)))) (gT 3 (gsCons (gN i) (gsCons (gN j) (gsCons (gN k) gsNil)))) env st = .nx (((env.set i (some x)).set j (some y)).set k (some z)) s3 := by
  unfold sAsg rTup
  rw [rcons_eq h (rcons_eq h2 (rcons_eq h3 (rfl : rNil env s3 = .ok [] s3)))]
  rfl
theorem stup2_eq {a b : SemE} {env : IEnv} {st s1 s2 : Sto} {x y : IV} {i : Nat} (h : a env st = .ok x s1) (h2 : b env s1 = .ok y s2) : sAsg (rTup (rCons a (rCons b rNil))) (gN i) env st = .nx (env.set i (some (.tup [x, y]))) s2 := by
  unfold sAsg rTup
  rw [rcons_eq h (rcons_eq h2 (rfl : rNil env s2 = .ok [] s2))]
  rfl
theorem sset_eq {a : SemE} {env : IEnv} {st s1 : Sto} {x : IV} {i : Nat} (h : a env st = .ok x s1) : sAsg a (gN i) env st = .nx (env.set i (some x)) s1 := by
  unfold sAsg; rw [h]; rfl
theorem szV_ne (xs : List Int) (st : Sto) : cNe (szV xs) (szV xs) st = some (.bl false, st) := by
  cases xs with
  | nil => rfl
  | cons x xs =>
    show some (IV.bl (!decide (x = x)), st) = _
    rw [decide_eq_true rfl]; rfl
abbrev q12 : SemS := (sAsg (rBin addI (rBin mulT (rTup (rCons (rVar 16) rNil)) (rBin divI (rVar 18) (rVar 16))) (rIfE (rTBl (rBin cGt (rVar 18) (rBin mulT (rVar 16) (rBin divI (rVar 18) (rVar 16))))) (rTup (rCons (rBin subI (rVar 18) (rBin mulT (rVar 16) (rBin divI (rVar 18) (rVar 16)))) rNil)) (rTup rNil))) (gN 19))
abbrev q13 : SemS := (sIf (rTBl (rBin cNe (rDef d_even_plan (rCons (rVar 18) (rCons (rVar 16) (rCons (rVar 17) (rCons (rVar 11) rNil))))) (rTup (rCons (rVar 19) (rCons (rCall tupleI (rCons (rLc (fSeq (rVar 19)) (.one 23) [23] rYes (rBin addI (rVar 17) (rBin mulT (rVar 11) (rVar 23)))) rNil)) rNil))))) (sRet (rC (.bl false))) sPass)
abbrev q14 : SemE := (rLc (fRng2 (rCons (rC (.int (1))) (rCons (rC (.int (41))) rNil))) (.one 24) [24] (rTBl (rBin cLe (rBin addI (rVar 17) (rBin mulT (rVar 11) (rVar 24))) (rBin mulT (rVar 4) (rVar 24)))) (rVar 24))
abbrev q15 : SemS := (sIf (rTBl (rBin cNe (rDef d_least_size (rCons (rVar 17) (rCons (rVar 11) (rCons (rVar 4) (rCons (rC (.int (40))) rNil))))) (rIfE (rTBl (rBin cNe (rVar 20) (rLst rNil))) (rBin idxI (rVar 20) (rC (.int (0)))) (rC .non)))) (sRet (rC (.bl false))) sPass)
abbrev q16 : SemS := (sIf (rTBl (rBin cNe (rVar 20) (rLst rNil))) (sSeq (sAsg (rDef d_even_plan (rCons (rBin mulT (rBin idxI (rVar 20) (rC (.int (0)))) (rC (.int (9)))) (rCons (rBin idxI (rVar 20) (rC (.int (0)))) (rCons (rVar 17) (rCons (rVar 11) rNil))))) (gN 21))
    (sIf (rTBl (rBin cNe (rDef d_late_blocks (rCons (rVar 21) (rCons (rVar 4) (rCons (rC (.int (2))) (rCons (rBin addI (rVar 17) (rBin mulT (rVar 11) (rBin idxI (rVar 20) (rC (.int (0)))))) rNil))))) (rTup rNil))) (sRet (rC (.bl false))) sPass)) sPass)
theorem tail {ss cs : List Int} (P : PlanOk ss cs) {n t m z e o S : Int} {l : Nat} (h1 : 1 ≤ t) (h2 : t ≤ 100) (hz : 1 ≤ z) (hz2 : z ≤ 9) (he : 0 ≤ e) (he2 : e ≤ 19) (ho : 0 ≤ o) (ho2 : o ≤ 4) (hS : 1 ≤ S) (hS2 : S ≤ 50) (x0 x1 x2 x5 x6 e7 e8 e9 e10 e12 e13 e14 e15 : Option IV) (st : Sto) :
    OkR (sSeq q12 (sSeq q13 (sSeq (sAsg q14 (gN 20)) (sSeq q15 (sSeq q16 (sRet (rDef d__law_refused_right (rCons (rVar 3) rNil))))))) [x0, x1, x2, some (plan ss cs), some (.int t), x5, x6, e7, e8, e9, e10, some (.int o), e12, e13, e14, e15, some (.int z), some (.int e), some (.int S), none, none, none, none, none, none] st) st (.bl true) := by
  have q := quot hz hS (show S ≤ 60 * z by omega)
  have hlen := evenS_len hz hS (show S ≤ 60 * z by omega)
  refine okr_seq (env' := [x0, x1, x2, some (plan ss cs), some (.int t), x5, x6, e7, e8, e9, e10, some (.int o), e12, e13, e14, e15, some (.int z), some (.int e), some (.int S), some (itup (evenS S z)), none, none, none, none, none]) (oks_set (ok_bin (x := itup (List.replicate (S / z).toNat z)) (y := itup (if 0 < S - z * (S / z) then [S - z * (S / z)] else [])) (ok_bin (x := .tup [.int z]) (y := .int (S / z)) (ok_tup (ok_cons (ok_var rfl) fun _ _ => ok_nil) (by simp)) (fun _ _ => ok_bin (ok_var rfl) (fun _ _ => ok_var rfl) fun _ _ => ok_div (by omega) (sm_of (by omega))) fun s _ => ok_ofO (mul_rep z (S / z) q.1 q.2.1 s)) (fun s g => ?_) fun s _ => ok_ofO (add_tups _ _ ?_ s))) fun s1 g1 => ?_
  · have hm : ∀ st, Ok (rBin mulT (rVar 16) (rBin divI (rVar 18) (rVar 16)) [x0, x1, x2, some (plan ss cs), some (.int t), x5, x6, e7, e8, e9, e10, some (.int o), e12, e13, e14, e15, some (.int z), some (.int e), some (.int S), none, none, none, none, none, none] st) st (.int (z * (S / z))) := fun st => ok_bin (ok_var rfl) (fun _ _ => ok_bin (ok_var rfl) (fun _ _ => ok_var rfl) fun _ _ => ok_div (by omega) (sm_of (by omega))) fun _ _ => ok_mul (sm_of (by omega)) (sm_of (by omega))
    by_cases hp : 0 < S - z * (S / z)
    · rw [if_pos hp]
      exact ok_ifT (Ok.eq (ok_tbl (ok_bin (x := .int S) (ok_var rfl) (fun s _ => hm s) fun _ _ => ok_gt)) (decide_eq_true (by omega))) fun _ _ => ok_tup (ok_cons (ok_bin (x := .int S) (ok_var rfl) (fun s _ => hm s) fun _ _ => ok_sub) fun _ _ => ok_nil) (by simp)
    · rw [if_neg hp]
      exact ok_ifF (Ok.eq (ok_tbl (ok_bin (x := .int S) (ok_var rfl) (fun s _ => hm s) fun _ _ => ok_gt)) (decide_eq_false (by omega))) fun _ _ => ok_tup ok_nil (by simp)
  · rw [List.length_replicate]
    split <;> simp <;> omega
  refine okr_seq (oks_chk (ok_tbl (ok_bin (x := plan (evenS S z) (evenC S z e o)) (y := plan (evenS S z) (evenC S z e o)) (ok_def (xs := [.int S, .int z, .int e, .int o]) (ok_cons (ok_var rfl) fun _ _ => ok_cons (ok_var rfl) fun _ _ => ok_cons (ok_var rfl) fun _ _ => ok_cons (ok_var rfl) fun _ _ => ok_nil) fun s _ => even_ok hz (by omega) hS (by omega) he he2 ho ho2 s) (fun s _ => ok_tup (ok_cons (ok_var rfl) fun s7 g7 => ok_cons (costs_L (xs := evenS S z) rfl (.refl _) (by omega) fun x hx s => ?_) fun _ _ => ok_nil) (by simp)) fun s _ => ok_ofO ?_))) fun s2 g2 => ?_
  · have hx' := evenS_mem hz hS (show S ≤ 60 * z by omega) x hx
    exact ok_bin (ok_var rfl) (fun _ _ => ok_bin (ok_var rfl) (fun _ _ => ok_var rfl) fun _ _ => ok_mul (sm_of (by omega)) (sm_of (by omega))) fun _ _ => ok_add
  · show blN (eqI s _ _) s = _
    rw [eq_plan]; rfl
  refine okr_setL (sizes_L he he2 ho ho2 h1 h2 (rng40 rfl) (fun _ => rfl) (fun _ => rfl) (fun _ => rfl) (fun _ => rfl)) fun nn s3 g3 hl => ?_
  refine okr_seq (oks_chk (ok_tbl (ok_bin (x := szV (szL e o t)) (y := szV (szL e o t)) (ok_def (xs := [.int e, .int o, .int t, .int 40]) (ok_cons (ok_var rfl) fun _ _ => ok_cons (ok_var rfl) fun _ _ => ok_cons (ok_var rfl) fun _ _ => ok_cons ok_c fun _ _ => ok_nil) fun s _ => size_ok he he2 ho ho2 h1 h2 s) (fun s g => first_L rfl (g.lst hl)) fun s _ => ok_ofO (szV_ne _ s)))) fun s4 g4 => ?_
  have hl4 := g4.lst hl
  have hret : ∀ (e20 e21 : Option IV) st, OkR (sRet (rDef d__law_refused_right (rCons (rVar 3) rNil)) [x0, x1, x2, some (plan ss cs), some (.int t), x5, x6, e7, e8, e9, e10, some (.int o), e12, e13, e14, e15, some (.int z), some (.int e), some (.int S), some (itup (evenS S z)), e20, e21, none, none, none] st) st (.bl true) := fun e20 e21 st => okr_ret (ok_def (xs := [plan ss cs]) (ok_cons (ok_var rfl) fun _ _ => ok_nil) fun s _ => refused_ok P s)
  have hc := ok_tbl (ne_nil_L (env := [x0, x1, x2, some (plan ss cs), some (.int t), x5, x6, e7, e8, e9, e10, some (.int o), e12, e13, e14, e15, some (.int z), some (.int e), some (.int S), some (itup (evenS S z)), some (.ref nn), none, none, none, none]) (st := s4) (i := 20) rfl hl4)
  cases hsz : szL e o t with
  | nil => exact okr_seq (oks_chk (Ok.eq hc (by rw [hsz]; rfl))) fun s5 _ => hret _ _ s5
  | cons y ys =>
    have hy := sz_mem (show y ∈ szL e o t by rw [hsz]; exact List.mem_cons_self)
    rw [hsz] at hl4
    have hi : ∀ st, Gw s4 st → ∀ e21, Ok (rBin idxI (rVar 20) (rC (.int (0))) [x0, x1, x2, some (plan ss cs), some (.int t), x5, x6, e7, e8, e9, e10, some (.int o), e12, e13, e14, e15, some (.int z), some (.int e), some (.int S), some (itup (evenS S z)), some (.ref nn), e21, none, none, none] st) st (.int y) := fun st g e21 => ok_bin (x := .ref nn) (y := .int 0) (ok_var rfl) (fun _ _ => ok_c) fun s g' => ok_idxL ((g.trans g').lst hl4) (at_nat (j := 0) rfl)
    have hoy : o * y ≤ 4 * 40 := Int.mul_le_mul ho2 hy.2.1 (by omega) (by omega)
    have hoy0 : 0 ≤ o * y := Int.mul_nonneg ho (by omega)
    refine okr_seq (oks_ifT (Ok.eq hc (by rw [hsz]; rfl)) fun s5 g5 => oks_seq (oks_set (i := 21) (ok_def (xs := [.int (y * 9), .int y, .int e, .int o]) (ok_cons (ok_bin (x := .int y) (y := .int 9) (hi s5 g5 none) (fun _ _ => ok_c) fun _ _ => ok_mul (sm_of (by omega)) (sm_of (by decide))) fun s6 g6 => ok_cons (hi s6 (g5.trans g6) none) fun _ _ => ok_cons (ok_var rfl) fun _ _ => ok_cons (ok_var rfl) fun _ _ => ok_nil) fun s _ => even_ok (S := y * 9) hy.1 hy.2.1 (by omega) (by omega) he he2 ho ho2 s)) fun s6 g6 => oks_chk (ok_tbl (ok_bin (x := lateV t (e + o * y) 2 (evenS (y * 9) y) (evenC (y * 9) y e o)) (y := .tup []) (ok_def (xs := [plan (evenS (y * 9) y) (evenC (y * 9) y e o), .int t, .int 2, .int (e + o * y)]) (ok_cons (ok_var rfl) fun sa ga => ok_cons (ok_var rfl) fun sb gb => ok_cons ok_c fun s7 g7 => ok_cons (ok_bin (ok_var rfl) (fun s8 g8 => ok_bin (x := .int o) (y := .int y) (ok_var rfl) (fun s9 g9 => hi s9 ((((((g5.trans g6).trans ga).trans gb).trans g7).trans g8).trans g9) _) fun _ _ => ok_mul (sm_of (by omega)) (sm_of (by omega))) fun _ _ => ok_add) fun _ _ => ok_nil) fun s _ => late_ok (l := 2) (long_plan hy.1 hy.2.1 he he2 ho ho2) h1 h2 (by decide) (by decide) (by omega) (by omega) s) (fun _ _ => ok_tup ok_nil (by simp)) fun s _ => Ok.eq (ok_ofO (late_ne_nil _ _ _ _ _ s)) (by rw [long_nil hy.1 h1 he ho hy.2.2]; rfl)))) fun s7 _ => hret _ _ s7
theorem cut_map (ns : List Int) (lo hi : Option Int) : ∃ ms : List Int, cutI (ns.map IV.int) lo hi = ms.map IV.int := by
  unfold cutI
  exact ⟨_, by rw [← List.map_drop, ← List.map_take]⟩
abbrev dr (b : Int) : SemE := rDef d__law_next (rCons (rVar 1) (rCons (rC (.int b)) rNil))
abbrev p0 : SemS := (sAsg (rLst (rCons (rSl (rVar 0) rNoPart (rPart (rC (.int (63))))) (rCons (rC (.int (0))) (rCons (rC (.int (0))) rNil)))) (gN 1))
abbrev p1 : SemS := sAsg (rBin addI (rC (.int (1))) (dr 8)) (gN 2)
abbrev p2 : SemS := sAsg (rTup (rCons (rCall tupleI (rCons (rLc (fRng1 (rCons (rVar 2) rNil)) (.one 22) [22] rYes (rBin addI (rC (.int (1))) (dr 6))) rNil)) (rCons (rCall tupleI (rCons (rLc (fRng1 (rCons (rVar 2) rNil)) (.one 22) [22] rYes (dr 12)) rNil)) rNil))) (gN 3)
abbrev p3 : SemS := sAsg (rTup (rCons (rBin addI (rC (.int (1))) (dr 3)) (rCons (rBin addI (rC (.int (1))) (dr 4)) (rCons (dr 20) rNil)))) (gT 3 (gsCons (gN 4) (gsCons (gN 5) (gsCons (gN 6) gsNil))))
abbrev p10 : SemS := sAsg (rTup (rCons (rBin addI (rC (.int (1))) (dr 9)) (rCons (dr 20) (rCons (dr 5) rNil)))) (gT 3 (gsCons (gN 16) (gsCons (gN 17) (gsCons (gN 11) gsNil))))
abbrev p11 : SemS := sAsg (rBin addI (rC (.int (1))) (dr 50)) (gN 18)
theorem r_law_eq : r_law = (sSeq p0 (sSeq p1 (sSeq p2 (sSeq p3 (sSeq s4 (sSeq s5 (sSeq s6 (sSeq s7 (sSeq s8 (sSeq s9 (sSeq p10 (sSeq p11 (sSeq q12 (sSeq q13 (sSeq (sAsg q14 (gN 20)) (sSeq q15 (sSeq q16 (sRet (rDef d__law_refused_right (rCons (rVar 3) rNil)))))))))))))))))))) := rfl
theorem law_true (ns : List Int) (l0 : Nat) : ∃ st', d_law [.ref 0] { os := [.frl (ns.map IV.int)], low := l0 } = .ok (.bl true) st' := by
  obtain ⟨ms, hms⟩ := cut_map ns none (some 63)
  have e0 : p0 (startI 25 [.ref 0]) { os := [.frl (ns.map IV.int)], low := l0 } = .nx ((startI 25 [.ref 0]).set 1 (some (.ref 2))) { os := [.frl (ns.map IV.int), .lst (ms.map IV.int), .lst [.ref 1, .int 0, .int 0]], low := l0 } := by
    rw [← hms]; rfl
  have D0 : Dr ms { os := [.frl (ns.map IV.int), .lst (ms.map IV.int), .lst [.ref 1, .int 0, .int 0]], low := l0 } 0 := ⟨rfl, rfl⟩
  obtain ⟨n, t1, n1, n2, e1, D1⟩ := drw1 (env := (startI 25 [.ref 0]).set 1 (some (.ref 2))) (b := 8) rfl D0 (by decide) (by decide) (by decide)
  obtain ⟨N, hN⟩ := Int.eq_ofNat_of_zero_le (show 0 ≤ n by omega)
  have hr : ∀ (e22 : Option IV) st, fRng1 (rCons (rVar 2) rNil) (((startI 25 [.ref 0]).set 1 (some (.ref 2))).set 2 (some (.int n))) st = .ok (.items ((List.range N).map fun i => .int (i : Nat))) st := fun _ st => rng1 N (by rw [hN]; rfl) (by omega)
  obtain ⟨ss, t2, e2, l2, b2, D2⟩ := draws_tup (te := rBin addI (rC (.int (1))) (dr 6)) (lo := 1) (hi := 6) (hr none t1) (by simp; omega) D1 (by decide) (by decide) (fun x st cnt D h0 h1 => drw1 (b := 6) rfl D h0 h1 (by decide))
  rw [List.length_map, List.length_range] at l2 D2
  obtain ⟨cs, t3, e3, l3, b3, D3⟩ := draws_tup (te := dr 12) (lo := 0) (hi := 11) (hr none t2) (by simp; omega) D2 (by omega) (by omega) (fun x st cnt D h0 h1 => by
    obtain ⟨v, st', a, b, e, D'⟩ := drw (b := 12) (env := ((wipeI (((startI 25 [.ref 0]).set 1 (some (.ref 2))).set 2 (some (.int n))) [22]).set 22 (some x))) rfl D h0 h1 (by decide)
    exact ⟨v, st', a, by omega, e, D'⟩)
  rw [List.length_map, List.length_range] at l3 D3
  have E2 := stup2_eq (i := 3) e2 e3
  obtain ⟨t, t4, a4, b4, e4, D4⟩ := drw1 (env := (((startI 25 [.ref 0]).set 1 (some (.ref 2))).set 2 (some (.int n))).set 3 (some (.tup [itup ss, itup cs]))) (b := 3) rfl D3 (by omega) (by omega) (by decide)
  obtain ⟨l', t5, a5, b5, e5, D5⟩ := drw1 (env := (((startI 25 [.ref 0]).set 1 (some (.ref 2))).set 2 (some (.int n))).set 3 (some (.tup [itup ss, itup cs]))) (b := 4) rfl D4 (by omega) (by omega) (by decide)
  obtain ⟨m, t6, a6, b6, e6, D6⟩ := drw (env := (((startI 25 [.ref 0]).set 1 (some (.ref 2))).set 2 (some (.int n))).set 3 (some (.tup [itup ss, itup cs]))) (b := 20) rfl D5 (by omega) (by omega) (by decide)
  have E3 := sasg3_eq (i := 4) (j := 5) (k := 6) e4 e5 e6
  obtain ⟨l, hl⟩ := Int.eq_ofNat_of_zero_le (show 0 ≤ l' by omega)
  subst hl
  have P : PlanOk ss cs := ⟨by rw [l2, l3], by omega, by omega, fun s hs => by have := b2 s hs; omega, fun c hc => by have := b3 c hc; omega⟩
  have hc50 : cs.sum ≤ 50000 := by
    have := sum_le (B := 11) (xs := cs) fun c hc => b3 c hc
    omega
  obtain ⟨t7, e7, e8, e9, e10, e12, e13, e14, e15, g7, hp⟩ := phase P (n := n) (t := t) (m := m) (l := l) a4 (by omega) (by omega) (by omega) a6 (by omega) (by omega) hc50 t6
  have D7 := D6.grow g7
  obtain ⟨z, t8, a8, b8, f8, D8⟩ := drw1 (env := EV n t m l (plan ss cs) e7 e8 e9 e10 e12 e13 e14 e15) (b := 9) rfl D7 (by omega) (by omega) (by decide)
  obtain ⟨e, t9, a9, b9, f9, D9⟩ := drw (env := EV n t m l (plan ss cs) e7 e8 e9 e10 e12 e13 e14 e15) (b := 20) rfl D8 (by omega) (by omega) (by decide)
  obtain ⟨o, t10, a10, b10, f10, D10⟩ := drw (env := EV n t m l (plan ss cs) e7 e8 e9 e10 e12 e13 e14 e15) (b := 5) rfl D9 (by omega) (by omega) (by decide)
  have E10 := sasg3_eq (i := 16) (j := 17) (k := 11) f8 f9 f10
  obtain ⟨S, t11, a11, b11, f11, D11⟩ := drw1 (env := (((EV n t m l (plan ss cs) e7 e8 e9 e10 e12 e13 e14 e15).set 16 (some (.int z))).set 17 (some (.int e))).set 11 (some (.int o))) (b := 50) rfl D10 (by omega) (by omega) (by decide)
  obtain ⟨t12, f12, g12⟩ := tail P (n := n) (m := m) (l := l) a4 (show t ≤ 100 by omega) a8 b8 a9 (show e ≤ 19 by omega) a10 (show o ≤ 4 by omega) a11 b11 (some (.ref 0)) (some (.ref 2)) (some (.int n)) (some (.int l)) (some (.int m)) e7 e8 e9 e10 e12 e13 e14 e15 t11
  refine ⟨t12, ?_⟩
  unfold d_law
  rw [r_law_eq]
  refine callI_rt ?_
  rw [seq_nx e0, seq_nx (sset_eq (i := 2) e1), seq_nx E2, seq_nx E3]
  have hp' := hp (sSeq p10 (sSeq p11 (sSeq q12 (sSeq q13 (sSeq (sAsg q14 (gN 20)) (sSeq q15 (sSeq q16 (sRet (rDef d__law_refused_right (rCons (rVar 3) rNil))))))))))
  refine hp'.trans ?_
  rw [seq_nx E10, seq_nx (sset_eq (i := 18) f11)]
  exact f12
end law_k18

set_option Elab.async false
set_option linter.all false
set_option maxRecDepth 100000
set_option maxHeartbeats 2000000
/-! PE1: what the heap behind the top says, by one look of the kernel. -/
namespace PI
open PySem PySem.Spec PyProof.Rows L2
open LamX (Tabs TabS CodeO ExtN TabB)
abbrev Look := Addr → Option Obj
/-! ### the part of the heap -/
def refsD (o : Obj) : List Addr := match o.data with
  | .seq its _ => its.toList.flatMap He.refV
  | .dict es _ => es.toList.flatMap fun z => He.refV z.val
  | .func fd => He.refV fd.code ++ fd.closure.map (·.2)
  | .cls cd => [cd.ns]
  | _ => []
def atG (g : Look) (a : Addr) : List Addr := match g a with
  | some o => refsD o
  | none => []
def isCG (g : Look) (a : Addr) : Bool := match g a with
  | some ⟨_, _, .cls _, _⟩ => true
  | _ => false
def a1G (g : Look) : List Addr := atG g mainGlobals
def a3G (g : Look) (a1 : List Addr) : List Addr := (a1.filter (isCG g)).flatMap fun c => (atG g c).flatMap (atG g)
def asN (g : Look) : List Addr := let a1 := a1G g; let a3 := a3G g a1; [mainGlobals, cStatics] ++ (a1 ++ (a1.flatMap (atG g) ++ (a3 ++ a3.flatMap (atG g))))
def kN (g : Look) : PySem.W.Frag := He.frG g (asN g)
theorem kN_in {h : Heap} : (kN h.get?).In h := He.frG_in
/-! ### defs -/
def cdA (K : PySem.W.Frag) (x : Str) : Addr := match K.lookup (He.ga K x) with
  | some ⟨_, _, .func fd, _⟩ => (match fd.code with
    | .ref c => c
    | _ => 0)
  | _ => 0
def fnB (K : PySem.W.Frag) (x : Str) : Bool := (He.Fa.glo x).ok K && ((He.Fa.keep x).ok K && (He.Fa.code (x, none) x).ok K)
def fnV (x : Str) (st : Stmt) : He.FnV := He.FnD.val ⟨(x, none), x, x, defArgs st, defBody st, defScope st⟩
theorem codeIn_ref {K : PySem.W.Frag} {cdv : Value} {q : Str} (h : PySem.W.codeIn K cdv q = true) : ∃ c, cdv = .ref c := by
  cases cdv with
  | ref c => exact ⟨c, rfl⟩
  | _ => cases h
section
variable {K : PySem.W.Frag} {h : Heap} {mg : Str → Option Value}
theorem fun_of {x : Str} {st : Stmt} (X : K.In h) (G : h.Ns mainGlobals mg) (c : fnB K x = true) (e : He.fnObs K (x, none) = fnV x st) : ∃ f fd, mg x = some (.ref f) ∧ Fun K x x st f fd ∧ fd.code = .ref (cdA K x) := by
  obtain ⟨c1, c⟩ := He.ba c
  obtain ⟨c2, c3⟩ := He.ba c
  obtain ⟨oc, od, osl, kV, doc, pm, an, cdv, ct, lk, hc⟩ := He.fn_ok (d := ⟨(x, none), x, x, defArgs st, defBody st, defScope st⟩) e c3
  obtain ⟨cc, rfl⟩ := codeIn_ref hc
  refine ⟨He.ga K x, _, He.glo_ok X G c1, fun_mk lk hc c2, ?_⟩
  have lk' : K.lookup (He.ga K x) = _ := lk
  show Value.ref cc = .ref (cdA K x)
  unfold cdA
  rw [lk']
theorem fun_of' {x : Str} {st : Stmt} (X : K.In h) (G : h.Ns mainGlobals mg) (c : fnB K x = true) (e : He.fnObs K (x, none) = fnV x st) : ∃ f fd, mg x = some (.ref f) ∧ Fun K x x st f fd := by
  obtain ⟨f, fd, h1, h2, _⟩ := fun_of X G c e
  exact ⟨f, fd, h1, h2⟩
/-! ### constants -/
def allB2 (f : IV → Value → Bool) : List IV → List Value → Bool
  | [], [] => true
  | x :: xs, u :: us => f x u && allB2 f xs us
  | _, _ => false
def cB (K : PySem.W.Frag) : Nat → IV → Value → Bool
  | n + 1, .tup xs, .ref a => (match K.lookup a with
    | some ⟨.type t, _, .seq its _, _⟩ => decide (t = "tuple") && (Nat.ble its.size 1000 && allB2 (cB K n) xs its.toList)
    | _ => false)
  | _, .int i, .int j _ => decide (j = i)
  | _, .str s, .str y _ => decide (y = ⟨s.toArray⟩) && s.all (fun c => decide (c < 0x110000))
  | _, .bl b, .bool c => decide (c = b)
  | _, .non, .none => true
  | _, _, _ => false
theorem allB2_ok {f : IV → Value → Bool} (hf : ∀ x u, f x u = true → ∃ v, RelV v u ∧ ∀ H ρ, RepV K H ρ x v) : ∀ xs us, allB2 f xs us = true → ∃ vs, Vals vs us ∧ ∀ H ρ, RepVs K H ρ xs vs
  | [], [], _ => ⟨[], .nil, fun _ _ => .nil⟩
  | [], _ :: _, h => by cases h
  | _ :: _, [], h => by cases h
  | x :: xs, u :: us, h => by
    obtain ⟨h1, h2⟩ := He.ba h
    obtain ⟨v, r, p⟩ := hf x u h1
    obtain ⟨vs, rs, ps⟩ := allB2_ok hf xs us h2
    exact ⟨v :: vs, .cons r rs, fun H ρ => .cons (p H ρ) (ps H ρ)⟩
theorem cB_ok : ∀ (n : Nat) (c : IV) (u : Value), cB K n c u = true → ∃ v, RelV v u ∧ ∀ H ρ, RepV K H ρ c v := by
  have simple : ∀ (n : Nat) (c : IV) (u : Value), (∀ xs, c ≠ .tup xs) → cB K n c u = true → ∃ v, RelV v u ∧ ∀ H ρ, RepV K H ρ c v := fun n c u hc h => by
    cases c with
    | non => cases u with
      | none => exact ⟨.non, rfl, fun _ _ => .non⟩
      | _ => cases n <;> cases h
    | bl b => cases u with
      | bool b' =>
        have e : b' = b := by cases n <;> exact of_decide_eq_true h
        subst e
        exact ⟨.bl b', rfl, fun _ _ => .bl _⟩
      | _ => cases n <;> cases h
    | int i => cases u with
      | int j t =>
        have e : j = i := by cases n <;> exact of_decide_eq_true h
        subst e
        exact ⟨.int j, ⟨t, rfl⟩, fun _ _ => .int _⟩
      | _ => cases n <;> cases h
    | str s => cases u with
      | str y t =>
        have e : (decide (y = ⟨s.toArray⟩) && s.all (fun c => decide (c < 0x110000))) = true := by cases n <;> exact h
        obtain ⟨e1, e2⟩ := He.ba e
        obtain rfl := of_decide_eq_true e1
        exact ⟨.str ⟨s.toArray⟩, ⟨t, rfl⟩, fun _ _ => .str e2⟩
      | _ => cases n <;> cases h
    | tup xs => exact absurd rfl (hc xs)
    | ref n' => cases u <;> cases n <;> cases h
  intro n
  induction n with
  | zero =>
    intro c u h
    cases c with
    | tup xs => cases u <;> cases h
    | _ => exact simple 0 _ u (fun _ z => nomatch z) h
  | succ n ih =>
    intro c u h
    cases c with
    | tup xs =>
      cases u with
      | ref a =>
        have h' : (match K.lookup a with
          | some ⟨.type t, _, .seq its _, _⟩ => decide (t = "tuple") && (Nat.ble its.size 1000 && allB2 (cB K n) xs its.toList)
          | _ => false) = true := h
        split at h'
        · rename_i t od its m sl e
          obtain ⟨h1, h2⟩ := He.ba h'
          obtain ⟨h2, h3⟩ := He.ba h2
          obtain rfl := of_decide_eq_true h1
          obtain ⟨vs, rs, ps⟩ := allB2_ok ih xs its.toList h3
          exact ⟨.ref a, rfl, fun H ρ => .tup (.inr ⟨_, its, m, e, rfl, rfl, Nat.le_of_lt (small1000 (Nat.le_of_ble_eq_true h2)), rs⟩) (ps H ρ)⟩
        · cases h'
      | _ => cases h
    | _ => exact simple (n + 1) _ u (fun _ z => nomatch z) h
def constB (K : PySem.W.Frag) (x : Str) (c : IV) : Bool := match PySem.W.nsIn K mainGlobals x with
  | some (some u) => cB K 20 c u
  | _ => false
theorem gc_of {x : Str} {c : IV} (X : K.In h) (G : h.Ns mainGlobals mg) (e : constB K x c = true) : Gc K mg x c := by
  unfold constB at e
  split at e
  · rename_i u q
    obtain ⟨v, r, p⟩ := cB_ok 20 c u e
    exact ⟨v, u, PySem.W.mg_of X G q, r, p⟩
  · cases e
end
end PI

set_option Elab.async false
set_option linter.all false
set_option maxRecDepth 100000
set_option maxHeartbeats 2000000
/-! PE2: the law's call, guards known: the script and the empty tables are what is tracked. -/
namespace PI
open PySem PySem.Spec PyProof.Rows L2
open LamX (TabB)
abbrev tabObj : Obj := { cls := .none, data := .fields #[] }
def H0 (ts : List Addr) (a : Addr) (o : Obj) (u : HO) : Hp := fun b => if b = a then some (.frz o u) else if b ∈ ts then some (.tbl #[]) else none
section
variable {ts : List Addr} {a b : Addr} {o : Obj} {u x : HO}
theorem H0_at : H0 ts a o u a = some (.frz o u) := if_pos rfl
theorem H0_tab (n : b ≠ a) (h : b ∈ ts) : H0 ts a o u b = some (.tbl #[]) := (if_neg n).trans (if_pos h)
theorem H0_non (n : b ≠ a) (h : b ∉ ts) : H0 ts a o u b = none := (if_neg n).trans (if_neg h)
theorem H0_cases (e : H0 ts a o u b = some x) : (b = a ∧ x = .frz o u) ∨ (b ≠ a ∧ b ∈ ts ∧ x = .tbl #[]) := by
  by_cases h1 : b = a
  · subst h1
    rw [H0_at] at e
    exact .inl ⟨rfl, (Option.some.inj e).symm⟩
  · by_cases h2 : b ∈ ts
    · rw [H0_tab h1 h2] at e
      exact .inr ⟨h1, h2, (Option.some.inj e).symm⟩
    · rw [H0_non h1 h2] at e
      cases e
end
/-- what is known where the law is called -/
structure Start (K : PySem.W.Frag) (mg mb : Str → Option Value) (cs : List (Addr × Addr)) (s : Shared) (a : Addr) (so : Obj) : Prop where
  kx : K.In s.heap
  ns : s.heap.Ns mainGlobals mg
  nb : s.heap.Ns builtinsNs mb
  bb : ∀ x : Str, x ≠ "__name__" → mb x = bootBuiltins x
  lim : s.heap.NoLimit
  gens : s.gens = #[]
  tab : ∀ p ∈ cs, s.heap.get? p.2 = some tabObj
  noK : ∀ p ∈ cs, K.lookup p.2 = none
  hd : ∀ p ∈ cs, PySem.W.CodeHd s.heap p.1 p.2
  bm : ∃ (bm : Addr) (ob : Obj), mg "__builtins__" = some (.ref bm) ∧ bm ≠ builtinsNs ∧ s.heap.get? bm = some ob ∧ ob.cls = .type "module" ∧ ob.dict = some builtinsNs ∧ ob.data = .plain
  sg : s.heap.get? a = some so
  sd : ∃ its n, so.data = .seq its n
  nk : K.lookup a = none
section
variable {P : Program} {w : World} {K : PySem.W.Frag} {mg mb : Str → Option Value} {cs : List (Addr × Addr)} {s : Shared} {a : Addr} {so : Obj} {u : HO}
abbrev tsOf (cs : List (Addr × Addr)) : List Addr := cs.map (·.2)
theorem Start.tab' (S : Start K mg mb cs s a so) {b : Addr} (h : b ∈ tsOf cs) : s.heap.get? b = some tabObj := by
  obtain ⟨p, hp, rfl⟩ := List.mem_map.mp h
  exact S.tab p hp
theorem Start.aT (S : Start K mg mb cs s a so) : a ∉ tsOf cs := fun z => by
  have e := S.tab' z
  obtain ⟨its, n, hd⟩ := S.sd
  rw [S.sg] at e
  cases e
  cases hd
theorem Start.shown (S : Start K mg mb cs s a so) {b : Addr} {o : Obj} (e : s.heap.get? b = some o) (n1 : ∀ its n, o.data ≠ .seq its n) (n2 : o.data ≠ .fields #[]) : (hidT s.heap (H0 (tsOf cs) a so u)).get? b = some o := by
  refine hidT_get e (H0_non (fun z => ?_) fun z => ?_)
  · rw [z, S.sg] at e
    cases e
    obtain ⟨its, n, hd⟩ := S.sd
    exact n1 _ _ hd
  · rw [S.tab' z] at e
    cases e
    exact n2 rfl
theorem Start.names (S : Start K mg mb cs s a so) {b : Addr} {m : Str → Option Value} (N : s.heap.Ns b m) : (hidT s.heap (H0 (tsOf cs) a so u)).Ns b m := by
  obtain ⟨o, es, ep, e, d, rest⟩ := N
  refine ⟨o, es, ep, S.shown e (fun its n z => ?_) (fun z => ?_), d, rest⟩ <;> (rw [d] at z; cases z)
theorem Start.kin (S : Start K mg mb cs s a so) : K.In (hidT s.heap (H0 (tsOf cs) a so u)) := fun b o e => by
  refine hidT_get (S.kx b o e) (H0_non (fun z => ?_) fun z => ?_)
  · rw [z, S.nk] at e
    cases e
  · obtain ⟨p, hp, rfl⟩ := List.mem_map.mp z
    rw [S.noK p hp] at e
    cases e
theorem Start.mod (S : Start K mg mb cs s a so) : L2.Mod K mg (hidT s.heap (H0 (tsOf cs) a so u)) := by
  obtain ⟨mc, l1, l2⟩ := S.lim
  exact ⟨S.kin, S.names S.ns, ⟨mb, S.names S.nb, S.bb⟩, mc, S.names l1, l2⟩
theorem Start.tb (S : Start K mg mb cs s a so) (p : Addr × Addr) (hp : p ∈ cs) : TabB (hidT s.heap (H0 (tsOf cs) a so u)) mg p.1 p.2 := by
  have ht := S.tab p hp
  have ng : ∀ {b : Addr} {o : Obj}, s.heap.get? b = some o → (∃ es ep, o.data = .dict es ep) → b ≠ p.2 := fun e ⟨es, ep, d⟩ z => by
    rw [z, ht] at e
    cases e
    cases d
  refine ⟨?_, ?_, ?_⟩
  · obtain ⟨o, us, file, tf, flags, tg, inF, text, tt, e1, r1, r2, r3, rest⟩ := S.hd p hp
    refine ⟨o, us, file, tf, flags, tg, inF, text, tt, S.shown e1 (fun its n z => ?_) (fun z => ?_), r1, r2, r3, rest⟩
    · rw [r2] at z
      cases z
    · rw [r2] at z
      cases z
      simp at r3
  · obtain ⟨bm, ob, b1, b2, b3, b4, b5, b6⟩ := S.bm
    refine ⟨bm, ob, b1, b2, fun q => ?_, fun q => ?_, S.shown b3 (fun its n z => ?_) (fun z => ?_), b4, b5, b6⟩
    · obtain ⟨o, es, ep, e, d, _⟩ := S.ns
      rw [q, e] at b3
      cases b3
      rw [d] at b6
      cases b6
    · rw [q, ht] at b3
      cases b3
      cases b6
    · rw [b6] at z
      cases z
    · rw [b6] at z
      cases z
  · obtain ⟨o, es, ep, e, d, _⟩ := S.ns
    exact ng e ⟨es, ep, d⟩
theorem Start.env0 (S : Start K mg mb cs s a so) (hok : HOk P w (H0 (tsOf cs) a so u) s.heap) : Env0 P w K mg (hidT s.heap (H0 (tsOf cs) a so u)) callerA [] s (H0 (tsOf cs) a so u) where
  frames := rfl
  mod := S.mod
  bs := fun b o e => of_hidT e
  bsz := Nat.le_of_eq (hidT_size _ _)
  funs := trivial
  frf := fun b hb => nomatch (show b ∈ ([] : List Addr) from hb)
  hok := hok
  bare := .of_eq S.gens
/-- what stood before stands, the tables may have grown -/
theorem Start.old (S : Start K mg mb cs s a so) {s' : Shared} {H' : Hp} (hok : HOk P w (H0 (tsOf cs) a so u) s.heap) (un : Un (frs []) [] (H0 (tsOf cs) a so u) H' s.heap s'.heap) (hok' : HOk P w H' s'.heap) : OldK s.heap s'.heap := by
  have grown : ∀ b ∈ tsOf cs, ∃ more : Array Value, s'.heap.get? b = some { cls := .none, data := .fields more } := fun b hb => by
    have nb : b ≠ a := fun z => S.aT (z ▸ hb)
    obtain ⟨more, z⟩ := un.tbls b #[] (H0_tab nb hb)
    exact ⟨_, hok' b _ z⟩
  have kept : ∀ b o, b ∉ tsOf cs → s.heap.get? b = some o → s'.heap.get? b = some o := fun b o nb e => by
    by_cases hb : b = a
    · subst hb
      have z := H0_at (ts := tsOf cs) (a := b) (o := so) (u := u)
      have z2 := un.frzs b _ _ z
      obtain ⟨e1, _⟩ := hok b _ z
      obtain ⟨e2, _⟩ := hok' b _ z2
      rw [e] at e1
      cases e1
      exact e2
    · exact un.keep b o e (H0_non hb nb) (fun z => nomatch (show b ∈ ([] : List Addr) from z)) (by simp)
  refine ⟨fun b o e => ?_, fun b o e => ?_⟩
  · by_cases hb : b ∈ tsOf cs
    · obtain ⟨more, hm⟩ := grown b hb
      obtain ⟨p, hp, rfl⟩ := List.mem_map.mp hb
      rw [S.tab p hp] at e
      cases e
      exact .inr (.inl ⟨((S.hd p hp).tab (S.tab p hp)).isCodeTable, rfl, #[], more, rfl, by rw [Array.empty_append]; exact hm⟩)
    · exact .inl (kept b o hb e)
  · by_cases hb : b ∈ tsOf cs
    · obtain ⟨more, hm⟩ := grown b hb
      exact ⟨_, hm⟩
    · exact ⟨o, kept b o hb e⟩
end
theorem tabs_empty {T : List (Addr × Str)} {H : Hp} (h : ∀ p ∈ T, H p.1 = some (.tbl #[])) : LamX.Tabs T H := fun p hp => ⟨#[], h p hp, trivial, fun pos cv hc => by cases hc⟩
/-- the law's call gives True -/
theorem law_go {P : Program} {w : World} {K : PySem.W.Frag} {mg mb : Str → Option Value} {cs : List (Addr × Addr)} {s : Shared} {a fa : Addr} {k : Nat} {x : Str} {T : List (Addr × Str) × (Nat → Addr)} {g : List IV → Sto → RE IV} {vs : List Value} {ns : List Int}
    (S : Start K mg mb cs s a { cls := .type "list", data := .seq vs.toArray }) (hi : IntsAre vs ns) (hl : ns.length ≤ sizeLine) (hr : Room k callerA) (hT : ∀ p ∈ T.1, p.1 ∈ tsOf cs) (hfa : mg x = some (.ref fa))
    (hg : ∃ st', g [.ref 0] { os := [.frl (ns.map IV.int)], low := 0 } = .ok (.bl true) st')
    (D : ∀ base : Heap, K.In base → base.Ns mainGlobals mg → (∀ p ∈ cs, TabB base mg p.1 p.2) → DnG P w K mg base T k x 1 g) :
    codeAny (model P w) callerA (.call (.ref fa) ⟨[.ref a], []⟩) (fun r s' => r = .ok (.ret (.bool true)) ∧ OldK s.heap s'.heap ∧ s'.os = s.os ∧ AllBare s'.gens) s := by
  let o : Obj := { cls := .type "list", data := .seq vs.toArray }
  let u : HO := .lst (ns.map V.int)
  have hok : HOk P w (H0 (tsOf cs) a o u) s.heap := fun b z e => by
    rcases H0_cases e with ⟨rfl, rfl⟩ | ⟨nb, hb, rfl⟩
    · exact ⟨S.sg, by rw [List.length_map]; exact hl, vs, _, vals_ints hi, S.sg⟩
    · exact S.tab' hb
  have e0 := S.env0 hok
  have hH : ∀ b ∈ tsOf cs, H0 (tsOf cs) a o u b = some (.tbl #[]) := fun b hb => H0_tab (fun z => S.aT (z ▸ hb)) hb
  obtain ⟨f, fd, ps, hps, hf, hkp, hb, F⟩ := (D _ S.kin (S.names S.ns) S.tb).ex
  rw [hfa] at hf
  cases hf
  obtain ⟨st', hst⟩ := hg
  have hrd : Rd (H0 (tsOf cs) a o u) a (.lst (ns.map V.int)) := .inr ⟨o, H0_at⟩
  have reps : ∀ (H : Hp) (ρ : List Addr) (ns : List Int), RepVs K H ρ (ns.map IV.int) (ns.map V.int) := fun H ρ ns => by
    induction ns with
    | nil => exact .nil
    | cons n ns ih => exact .cons (.int n) ih
  have rel : Rel K (H0 (tsOf cs) a o u) [a] { os := [.frl (ns.map IV.int)], low := 0 } := by
    refine ⟨rfl, by simp, fun n ob b e1 e2 => ?_⟩
    cases n with
    | zero =>
      cases e1
      cases e2
      exact ⟨_, hrd, reps _ _ _⟩
    | succ n => cases e1
  have hsp : spI K T 1 g [.ref a] (H0 (tsOf cs) a o u) (fun v _ => v = .bl true) fun _ _ _ => False := by
    refine ⟨rfl, ⟨T.1, T.2, fun _ _ => True, fun _ _ _ => trivial⟩, [a], { os := [.frl (ns.map IV.int)], low := 0 }, [.ref 0], rfl, ⟨rel, tabs_empty fun p hp => hH _ (hT p hp), trivial⟩, .cons (.ref rfl) .nil, ?_⟩
    rw [hst]
    intro ρ' H' y _ _ py
    cases py
    rfl
  have bt := hb s [.ref a] S.kx (by simp [hps])
  have run := F.run callerA [] s _ ⟨[.ref a], []⟩ [.ref a] [.ref a] (fun v _ => v = .bl true) (fun _ _ _ => False) rfl hr e0 bt (.cons rfl .nil) hsp
  refine codeAny_mono run fun r s' h => ?_
  cases r with
  | error e =>
    obtain ⟨_, _, _, _, _, _, _, _, _, _, _, _, hf⟩ := h
    exact False.elim hf
  | ok fl =>
    cases fl with
    | next => exact False.elim h
    | brk => exact False.elim h
    | cont => exact False.elim h
    | ret v =>
      obtain ⟨y, H', os, bare, un, hok', rv, q⟩ := h
      obtain rfl : y = .bl true := q
      obtain rfl : v = Value.bool true := rv
      exact ⟨rfl, S.old hok un hok', os, bare⟩
end PI

set_option Elab.async false
set_option linter.all false
set_option maxRecDepth 100000
set_option maxHeartbeats 2000000
/-! PE3: exceptions, tables of lambdas, what _law_refuses wants: by one look. -/
namespace PI
open PySem PySem.Spec PyProof.Rows L2
open LamX (Tabs TabS CodeO ExtN TabB)
/-! ### an own exception over ValueError -/
def oexB (K : PySem.W.Frag) (C : Addr) : Bool := match K.lookup C with
  | some ⟨.type t, _, .cls cd, sl⟩ => (match cd.mro, sl.toList with
    | .ref C' :: bm, [_, _, _, _, some (.builtin n), _] => decide (t = "type") && (decide (C' = C) && (decide (n = "ValueError.__new__") && (!cd.hasDel && (cd.hasDict && PySem.HandSPX.refsVE bm))))
    | _, _ => false)
  | _ => false
theorem oexB_ok {K : PySem.W.Frag} {C : Addr} (h : oexB K C = true) : ∃ nm q N bs bm sn sub ab col dd k0 k1 k2 k3 k5, K.lookup C = some (excClassObj nm q C N bs bm true sn sub ab col dd k0 k1 k2 k3 k5 "ValueError.__new__") ∧ PySem.HandSPX.refsVE bm = true := by
  unfold oexB at h
  split at h
  · rename_i t dd cd sl e
    split at h
    · rename_i C' bm k0 k1 k2 k3 n k5 e1 e2
      simp only [Bool.and_eq_true, decide_eq_true_eq, Bool.not_eq_true'] at h
      obtain ⟨rfl, rfl, rfl, h4, h5, h6⟩ := h
      obtain ⟨nm, bs, mro, ns, qn, hd, sn, sb, ab, col, del⟩ := cd
      dsimp only at e1 h4 h5
      subst e1 h4 h5
      have esl : sl = #[k0, k1, k2, k3, some (.builtin "ValueError.__new__"), k5] := Array.toList_inj.mp e2
      subst esl
      exact ⟨nm, qn, ns, bs, bm, sn, sb, ab, col, dd, k0, k1, k2, k3, k5, e, h6⟩
    · cases h
  · cases h
def inA (K : PySem.W.Frag) (x : Str) : Addr := He.ma K (He.ga K x) "__init__"
abbrev FnI : Type := Option (Str × Str × Arguments × FuncBody × Scope × Addr × Value × Addr)
def inV (K : PySem.W.Frag) (x : Str) : FnI := match K.lookup (inA K x) with
  | some ⟨_, _, .func fd, _⟩ => some (fd.name, fd.qualname, fd.params, fd.body, fd.scope, fd.globals, fd.defaults, fd.builtins)
  | _ => none
def inW (x : Str) (st : Stmt) : FnI := some ("__init__", x ++ ".__init__", defArgs st, .stmts (defBody st), defScope st, mainGlobals, .none, builtinsNs)
def inB (file : Str) (K : PySem.W.Frag) (x : Str) : Bool := match K.lookup (inA K x) with
  | some ⟨_, _, .func fd, _⟩ => (match fd.closure, fd.code with
    | [(n, cc)], .ref cda => decide (n = "__class__") && (PySem.W.codeIn K (.ref cda) (x ++ ".__init__") && ((match K.lookup cc with
      | some ⟨_, _, .cell (some (.ref D)), _⟩ => decide (D = He.ga K x)
      | _ => false) && (match K.lookup cda with
        | some ⟨_, _, .fields vs, _⟩ => (match (vs[2]? : Option Value) with
          | some (.str f _) => file == f
          | _ => false)
        | _ => false)))
    | _, _ => false)
  | _ => false
theorem inB_ok {file : Str} {K : PySem.W.Frag} {x : Str} {st : Stmt} (c : inB file K x = true) (e : inV K x = inW x st) :
    ∃ oc od osl kV doc pm an cda ct cc, K.lookup (inA K x) = some ⟨oc, od, .func (PySem.W.ksFn "__init__" (x ++ ".__init__") (defArgs st) (defBody st) (defScope st) .none kV doc pm an (.ref cda) ct cc), osl⟩ ∧ PySem.W.codeIn K (.ref cda) (x ++ ".__init__") = true ∧
      (∃ cl cld csl, K.lookup cc = some ⟨cl, cld, .cell (some (.ref (He.ga K x))), csl⟩) ∧ ∃ ccl cdd vs ccs f tf, K.lookup cda = some ⟨ccl, cdd, .fields vs, ccs⟩ ∧ vs[2]? = some (.str f tf) ∧ (file == f) = true := by
  unfold inB at c
  unfold inV inW at e
  split at c
  · rename_i oc od fd osl lk
    rw [lk] at e
    obtain ⟨n1, n2, n3, n4, n5, n6, n7, n8, n9, n10, n11, n12, n13, n14, n15⟩ := fd
    dsimp only at c e
    simp only [Option.some.injEq, Prod.mk.injEq] at e
    obtain ⟨rfl, rfl, rfl, rfl, rfl, rfl, rfl, rfl⟩ := e
    split at c
    · rename_i n cc cda
      obtain ⟨c1, c⟩ := He.ba c
      obtain ⟨c2, c⟩ := He.ba c
      obtain ⟨c3, c4⟩ := He.ba c
      obtain rfl : n = "__class__" := of_decide_eq_true c1
      refine ⟨oc, od, osl, _, _, _, _, cda, _, cc, lk, c2, ?_, ?_⟩
      · split at c3
        · rename_i cl cld D csl l
          obtain rfl : D = _ := of_decide_eq_true c3
          exact ⟨cl, cld, csl, l⟩
        · cases c3
      · split at c4
        · rename_i ccl cdd vs ccs l
          split at c4
          · rename_i f tf l2
            exact ⟨ccl, cdd, vs, ccs, f, tf, l, l2, c4⟩
          · cases c4
        · cases c4
    · cases c
  · cases c
/-- the written __init__ -/
structure InitT (st : Stmt) (par fld : Str) : Prop where
  ex : ∃ (q0 q1 q2 q3 q4 q5 q6 q7 q8 q9 : Pos) (msg : Str) (j : Nat) (pl : Sem Bool), defBody st = [.Expr (.Call (.Attribute (.Call (.Name "super" q0) [] [] q1) "__init__" q2) [.Constant (.str msg) j q3] [] q4) q5, .Assign [.Attribute (.Name "self" q6) fld q7] (.Name par q8) q9] ∧
    (∀ env, eval (.Call (.Attribute (.Call (.Name "super" q0) [] [] q1) "__init__" q2) [.Constant (.str msg) j q3] [] q4) env = (do
      let ov ← attributeBase (.Call (.Name "super" q0) [] [] q1) "__init__" env (eval (.Call (.Name "super" q0) [] [] q1) env)
      standAt q2.atName
      let (f, first) ← holding [ov] (getMethod ov "__init__" pl)
      callWith q4 f first (backTo q4 (starEach [.Constant (.str msg) j q3] env)) [])) ∧
    (∀ env, swapsWith (.Name par q8) (some (.Attribute (.Name "self" q6) fld q7)) q9.line env = pure false) ∧ (∀ env, swapsWith (.Call (.Attribute (.Call (.Name "super" q0) [] [] q1) "__init__" q2) [.Constant (.str msg) j q3] [] q4) none q5.line env = pure false)
  arg : ∃ ar, ((defArgs st).posonlyargs ++ (defArgs st).args).head? = some ar ∧ ar.arg = "self"
  bind : ∀ (q : Str) (kV doc pm cdv ct : Value) (an : Option Addr) (cc : Addr) (us : List Value), us.length = 2 → bindArgs (PySem.W.ksFn "__init__" q (defArgs st) (defBody st) (defScope st) .none kV doc pm an cdv ct cc) ⟨us, []⟩ = pure ([("self" : Str), par].zip us)
  kS : (defScope st).names.lookup ("super" : Str) = some .globalImplicit
  kC : (defScope st).names.lookup ("__class__" : Str) = some .free
  kSelf : (defScope st).names.lookup ("self" : Str) = some .local
  kPar : (defScope st).names.lookup par = some .local
  kind : (defScope st).kind = .function
  co : (defScope st).isCoroutine = false
  gen : (defScope st).isGenerator = false
  noCell : ∀ x ∈ (defScope st).names, x.2 ≠ .cell
  ne : par ≠ "self"
  nd : (par == ("__debug__" : Str)) = false
def exB (file : Str) (K : PySem.W.Frag) (x fld : Str) : Bool :=
  (He.Fa.glo x).ok K && (oexB K (He.ga K x) && (He.eqO (PySem.W.findIn K (.ref (He.ga K x)) "__setattr__") (some (some (.builtin "object.__setattr__"))) && (decide (PySem.W.subIn K (.ref (He.ga K x)) (.type "BaseException") = some true) &&
    (decide (PySem.W.typeIn K (.ref (He.ga K x)) = some (.type "type")) && (PySem.W.keepIn K (.ref (He.ga K x)) && (PySem.W.excInitIn K (He.ga K x) PySem.HandSPX.veTail "ValueError.__new__" &&
    (He.eqO (PySem.W.ks_superIn K (He.ga K x) (He.ga K x) "__init__") (some (some (.builtin "ValueError.__init__"))) && (decide (PySem.W.subIn K (.ref (He.ga K x)) (.type "ValueError") = some true) &&
    (He.eqO (PySem.W.nsIn K cStatics "thirdparty.any") (some none) && (He.eqO (PySem.W.findIn K (.ref (He.ga K x)) fld) (some none) && (He.eqO (PySem.W.findIn K (.ref (He.ga K x)) "__init__") (some (some (.ref (inA K x)))) &&
    (decide (PySem.W.typeIn K (.ref (inA K x)) = some (.type "function")) && (decide (PySem.W.mroIn K (He.ga K x) (.ref (He.ga K x)) = some true) && (inB file K x && (xfB K (He.ga K x) && decide (PySem.W.exmOne K (.ref (He.ga K x)) (.ref (He.ga K x)) = some true))))))))))))))))
section
variable {P : Program} {w : World} {K : PySem.W.Frag} {h base : Heap} {mg : Str → Option Value} {cm : Nat → Addr} {lb : Nat} {x fld par : Str} {st : Stmt}
theorem xn_of (X : K.In h) (G : h.Ns mainGlobals mg) (hcm : cm lb = He.ga K x) (c : exB P.main.file K x fld = true) (e : inV K x = inW x st) (T : InitT st par fld) (hS : mg "super" = none) (hT : (P.main.scope.names.lookup ("super" : Str)).isSome = false) :
    Xn P w K mg base cm lb x fld ∧ Xc K mg cm lb x fld := by
  obtain ⟨c1, c⟩ := He.ba c
  obtain ⟨c2, c⟩ := He.ba c
  obtain ⟨c3, c⟩ := He.ba c
  obtain ⟨c4, c⟩ := He.ba c
  obtain ⟨c5, c⟩ := He.ba c
  obtain ⟨c6, c⟩ := He.ba c
  obtain ⟨c7, c⟩ := He.ba c
  obtain ⟨c8, c⟩ := He.ba c
  obtain ⟨c9, c⟩ := He.ba c
  obtain ⟨c10, c⟩ := He.ba c
  obtain ⟨c11, c⟩ := He.ba c
  obtain ⟨c12, c⟩ := He.ba c
  obtain ⟨c13, c⟩ := He.ba c
  obtain ⟨c14, c⟩ := He.ba c
  obtain ⟨c15, c⟩ := He.ba c
  obtain ⟨c16, c17⟩ := He.ba c
  obtain ⟨oc, od, osl, kV, doc, pm, an, cda, ct, cc, lk, hcd, hcell, hcode⟩ := inB_ok c15 e
  obtain ⟨q0, q1, q2, q3, q4, q5, q6, q7, q8, q9, msg, j, pl, hbo, he, hs, hs0⟩ := T.ex
  have O : OexC K (He.ga K x) := ⟨oexB_ok c2, He.eqO_ok c3, of_decide_eq_true c4, of_decide_eq_true c5, c6⟩
  have hcl : ∃ cd, PySem.W.clsIn K (He.ga K x) = some cd := by
    obtain ⟨nm, q, N, bs, bm, sn, sub, ab, col, dd, k0, k1, k2, k3, k5, l, _⟩ := oexB_ok c2
    exact ⟨_, by unfold PySem.W.clsIn; rw [l] <;> rfl⟩
  have S : SupI P K mg (inA K x) cc cda (He.ga K x) (He.ga K x) (defScope st) par fld := ⟨O, c7, He.eqO_ok c8, of_decide_eq_true c9, He.eqO_ok c10, He.eqO_ok c11, hcode, hcell, hcl, of_decide_eq_true c14, hT, hS, T.kS, T.kC, T.kSelf, T.kPar, T.kind, T.co, T.gen, T.noCell, T.ne, T.nd⟩
  have hb : L2.Binds K (PySem.W.ksFn "__init__" (x ++ ".__init__") (defArgs st) (defBody st) (defScope st) .none kV doc pm an (.ref cda) ct cc) ["self", par] [] := .all fun us hl => T.bind _ _ _ _ _ _ _ _ us hl
  exact ⟨⟨He.ga K x, inA K x, _, _, hcm, He.glo_ok X G c1, O, He.eqO_ok c12, of_decide_eq_true c13, hb, sup_init (k := 0) hbo lk hcd S T.arg he hs hs0⟩, ⟨He.ga K x, hcm, He.glo_ok X G c1, xfB_ok c16, He.eqO_ok c11, of_decide_eq_true c17⟩⟩
/-! ### what told wants -/
theorem tn_of {f : Str} {sf : Stmt} {a due e' : Str} (X : K.In h) (G : h.Ns mainGlobals mg) (c : fnB K f = true) (e : He.fnObs K (f, none) = fnV f sf) (Y : Xc K mg cm lb x fld) (hR : mg ("repr" : Str) = none) : Tn P K mg cm lb f x fld sf a due e' :=
  ⟨fun_of' X G c e, Y.ex, hR⟩
/-! ### tables of lambdas -/
def tbA (K : PySem.W.Frag) (x : Str) : Addr := match K.lookup (cdA K x) with
  | some ⟨_, _, .fields vs, _⟩ => (match (vs[11]? : Option Value) with
    | some (.ref p) => p
    | _ => 0)
  | _ => 0
/-- the def's code object, its table: known where the table stands, not the table -/
def tabB (K : PySem.W.Frag) (x : Str) : Bool := (He.Fa.glo x).ok K && ((match K.lookup (He.ga K x) with
  | some ⟨_, _, .func fd, _⟩ => (match fd.code with
    | .ref c => (match K.lookup c with
      | some ⟨_, _, .fields vs, _⟩ => (match (vs[11]? : Option Value) with
        | some (.ref _) => true
        | _ => false)
      | _ => false)
    | _ => false)
  | _ => false) && (K.lookup (tbA K x)).isNone)
/-- what the ground says of a def's table -/
def TabAt (mg : Str → Option Value) (h : Heap) (x : Str) : Prop := ∃ a o fd c P, mg x = some (.ref a) ∧ h.get? a = some o ∧ o.data = .func fd ∧ fd.code = .ref c ∧ h.IsCode c P #[] ∧ h.TableAt c P #[]
theorem tab_of (X : K.In h) (G : h.Ns mainGlobals mg) (c : tabB K x = true) (T : TabAt mg h x) : h.get? (tbA K x) = some tabObj ∧ K.lookup (tbA K x) = none ∧ PySem.W.CodeHd h (cdA K x) (tbA K x) := by
  obtain ⟨c1, c⟩ := He.ba c
  obtain ⟨c2, c3⟩ := He.ba c
  have hg := He.glo_ok X G c1
  obtain ⟨a, o, fd, cc, PP, h1, h2, h3, h4, h5, h6⟩ := T
  rw [hg] at h1
  cases h1
  refine ⟨?_, Option.isNone_iff_eq_none.mp c3, ?_⟩
  all_goals
    split at c2
    · rename_i oc od fd' osl lk
      have g1 := X _ _ lk
      rw [g1] at h2
      cases h2
      cases h3
      rw [h4] at c2
      dsimp only at c2
      have ec : cdA K x = cc := by unfold cdA; rw [lk]; dsimp only; rw [h4]
      split at c2
      · rename_i o2 d2 vs s2 lk2
        split at c2
        · rename_i p ep
          have et : tbA K x = p := by unfold tbA; rw [ec, lk2]; dsimp only; rw [ep]
          have g2 := X _ _ lk2
          have hcd := PySem.W.CodeHd.of h5 h6
          obtain ⟨⟨o', vs', f1, f2, f3, f4⟩, hP⟩ := h6
          rw [g2] at f1
          cases f1
          cases f3
          rw [ep] at f4
          cases f4
          rw [et]
          first
            | exact hP
            | (rw [ec]; exact hcd)
        · cases c2
      · cases c2
    · cases c2
end
end PI

set_option Elab.async false
set_option linter.all false
set_option maxRecDepth 100000
set_option maxHeartbeats 2000000
/-! PE4: the head's Hook, the law's walk. -/
namespace PI
open PySem PySem.Spec PyProof.Rows L2
open LamX (Tabs TabS CodeO ExtN TabB)
/-- what is looked at: facts by names; defs; exception classes with their __init__; defs that hold lambdas -/
structure HD where
  file : Str
  fas : List He.Fa
  consts : List (Str × IV)
  defs : List (Str × Stmt)
  excs : List (Str × Str × Stmt)
  lams : List Str
def noLst (K : PySem.W.Frag) : Bool := K.all fun p => match p.2.cls with
  | .type t => !decide (t = "list")
  | _ => true
def distB : List Addr → Bool
  | [] => true
  | a :: as => as.all (fun b => !Nat.beq a b) && distB as
def okHD (D : HD) (K : PySem.W.Frag) : Bool := (D.fas.all (fun f => f.ok K) && D.consts.all (fun p => constB K p.1 p.2)) && (D.defs.all (fun p => fnB K p.1) && (D.excs.all (fun p => exB D.file K p.1 p.2.1) && (D.lams.all (fun x => tabB K x) && (distB (D.lams.map (tbA K)) && noLst K))))
abbrev AlN : Type := Bool × List He.FnV × List FnI
def obsK (D : HD) (K : PySem.W.Frag) : AlN := (okHD D K, D.defs.map fun p => He.fnObs K (p.1, none), D.excs.map fun p => inV K p.1)
def obsN (D : HD) (g : Look) : AlN := obsK D (kN g)
def valN (D : HD) : AlN := (true, D.defs.map fun p => fnV p.1 p.2, D.excs.map fun p => inW p.1 p.2.2)
def hookN (D : HD) : PySem.W.Hook where
  α := AlN
  obs := fun s => obsN D s.heap.get?
  val := fun _ => valN D
  says := fun _ h => ∃ K : PySem.W.Frag, K.In h ∧ obsK D K = valN D
  of := fun _ _ e => ⟨_, kN_in, e⟩
  keeps := fun _ _ _ ⟨K, hK, c⟩ k => ⟨K, PySem.W.Frag.In.keeps hK k, c⟩
def obT (D : HD) (s : PySem.W.SharedT) : AlN := obsN D (HandSHeadRun.getT s)
theorem obT_eq (D : HD) (s : PySem.W.SharedT) : obT D s = (hookN D).obs s.abs := by
  have e : HandSHeadRun.getT s = s.abs.heap.get? := funext (HandSHeadRun.getT_eq s)
  show obsN D (HandSHeadRun.getT s) = obsN D s.abs.heap.get?
  rw [e]
section
variable {D : HD} {K : PySem.W.Frag}
theorem hd_ok (c : obsK D K = valN D) : okHD D K = true := congrArg (fun z : AlN => z.1) c
theorem hd_fa (c : obsK D K = valN D) (i : Nat) {f : He.Fa} (h : D.fas[i]? = some f := by rfl) : f.ok K = true := List.all_eq_true.mp (He.ba (He.ba (hd_ok c)).1).1 f (List.mem_of_getElem? h)
theorem hd_const (c : obsK D K = valN D) (i : Nat) {x : Str} {v : IV} (h : D.consts[i]? = some (x, v) := by rfl) : constB K x v = true := List.all_eq_true.mp (He.ba (He.ba (hd_ok c)).1).2 _ (List.mem_of_getElem? h)
theorem hd_fn (c : obsK D K = valN D) (i : Nat) {x : Str} {st : Stmt} (h : D.defs[i]? = some (x, st) := by rfl) : fnB K x = true ∧ He.fnObs K (x, none) = fnV x st := by
  have c1 := (He.ba (He.ba (hd_ok c)).2).1
  have e : D.defs.map (fun p => He.fnObs K (p.1, none)) = D.defs.map fun p => fnV p.1 p.2 := congrArg (fun z : AlN => z.2.1) c
  have e2 : (D.defs.map fun p => He.fnObs K (p.1, none))[i]? = (D.defs.map fun p => fnV p.1 p.2)[i]? := by rw [e]
  rw [List.getElem?_map, List.getElem?_map, h] at e2
  exact ⟨List.all_eq_true.mp c1 _ (List.mem_of_getElem? h), Option.some.inj e2⟩
theorem hd_ex (c : obsK D K = valN D) (i : Nat) {x fld : Str} {st : Stmt} (h : D.excs[i]? = some (x, fld, st) := by rfl) : exB D.file K x fld = true ∧ inV K x = inW x st := by
  have c1 := (He.ba (He.ba (He.ba (hd_ok c)).2).2).1
  have e : D.excs.map (fun p => inV K p.1) = D.excs.map fun p => inW p.1 p.2.2 := congrArg (fun z : AlN => z.2.2) c
  have e2 : (D.excs.map fun p => inV K p.1)[i]? = (D.excs.map fun p => inW p.1 p.2.2)[i]? := by rw [e]
  rw [List.getElem?_map, List.getElem?_map, h] at e2
  exact ⟨List.all_eq_true.mp c1 _ (List.mem_of_getElem? h), Option.some.inj e2⟩
theorem hd_tab (c : obsK D K = valN D) {x : Str} (h : x ∈ D.lams) : tabB K x = true := List.all_eq_true.mp (He.ba (He.ba (He.ba (He.ba (hd_ok c)).2).2).2).1 x h
theorem hd_dist (c : obsK D K = valN D) : distB (D.lams.map (tbA K)) = true := (He.ba (He.ba (He.ba (He.ba (He.ba (hd_ok c)).2).2).2).2).1
theorem hd_noLst (c : obsK D K = valN D) {a : Addr} {o : Obj} (e : K.lookup a = some o) : o.cls ≠ .type "list" := by
  have h := (He.ba (He.ba (He.ba (He.ba (He.ba (hd_ok c)).2).2).2).2).2
  have m : ∀ (l : PySem.W.Frag), l.lookup a = some o → (a, o) ∈ l := fun l => by
    induction l with
    | nil => exact fun e => nomatch (show (none : Option Obj) = some o from e)
    | cons p r ih =>
      intro e
      obtain ⟨b, ob⟩ := p
      by_cases hb : a = b
      · subst hb
        have e' : some ob = some o := by simpa [List.lookup] using e
        cases e'
        exact List.mem_cons_self
      · have hb' : (a == b) = false := by simpa using hb
        have e' : r.lookup a = some o := by simpa [List.lookup, hb'] using e
        exact List.mem_cons_of_mem _ (ih e')
  have := List.all_eq_true.mp h _ (m K e)
  intro z
  dsimp only at this
  rw [z] at this
  simp at this
end
/-- code objects and tables of the defs that hold lambdas -/
def csOf (K : PySem.W.Frag) (lams : List Str) : List (Addr × Addr) := lams.map fun x => (cdA K x, tbA K x)
def lamT (K : PySem.W.Frag) (lams : List Str) : List (Addr × Str) := lams.map fun x => (tbA K x, ((x ++ ".<locals>.") : Str) ++ "<lambda>")
theorem distB_inj : ∀ {l : List Addr}, distB l = true → l.Nodup
  | [], _ => .nil
  | a :: as, h => by
    obtain ⟨h1, h2⟩ := He.ba h
    refine List.nodup_cons.mpr ⟨fun z => ?_, distB_inj h2⟩
    have := List.all_eq_true.mp h1 a z
    simp at this
theorem tb_of {D : HD} {K : PySem.W.Frag} {base : Heap} {mg : Str → Option Value} {x : Str} (c : obsK D K = valN D) (hx : x ∈ D.lams) (hb : ∀ p ∈ csOf K D.lams, TabB base mg p.1 p.2) : Tb base mg (lamT K D.lams) (cdA K x) (((x ++ ".<locals>.") : Str) ++ "<lambda>") := by
  refine ⟨tbA K x, hb (cdA K x, tbA K x) (List.mem_map.mpr ⟨x, hx, rfl⟩), List.mem_map.mpr ⟨x, hx, rfl⟩, fun p hp e => ?_⟩
  obtain ⟨y, hy, rfl⟩ := List.mem_map.mp hp
  have nd := distB_inj (hd_dist c)
  have : y = x := by
    obtain ⟨i, hi, ei⟩ := List.getElem_of_mem hx
    obtain ⟨j, hj, ej⟩ := List.getElem_of_mem hy
    have e1 : (D.lams.map (tbA K))[i]? = some (tbA K x) := by rw [List.getElem?_map, List.getElem?_eq_getElem hi, ei]; rfl
    have e2 : (D.lams.map (tbA K))[j]? = some (tbA K x) := by rw [List.getElem?_map, List.getElem?_eq_getElem hj, ej]; exact congrArg some e
    have := nodup_get nd e1 e2
    subst this
    rw [← ei, ← ej]
  rw [this]
/-- a law over such a head -/
theorem walk_G {l : PySem.W.OpenLaw} {n k : Nat} {q : Program} {loose : List Str} {XP : (Str → Option Value) → Heap → Prop} {d : DefRec} {D : HD} {g : List IV → Sto → RE IV} {T : PySem.W.Frag → List (Addr × Str) × (Nat → Addr)}
    (hn : l.most = some n) (hn2 : n ≤ sizeLine) (hdf : d.params.defaults = []) (hr : Room k callerA) (hrec : ∀ x ∈ D.lams, ((recsOf q).any fun e => e.name == x) = true) (hT : ∀ K, (T K).1 = lamT K D.lams)
    (hg : ∀ ns : List Int, (∀ z ∈ ns, Builtin.Int.intBits z ≤ 1048576) → ∃ st', g [.ref 0] { os := [.frl (ns.map IV.int)], low := 0 } = .ok (.bl true) st')
    (F : ∀ (w : World) (K : PySem.W.Frag) (mg : Str → Option Value) (base : Heap), K.In base → base.Ns mainGlobals mg → obsK D K = valN D → (∀ p ∈ csOf K D.lams, TabB base mg p.1 p.2) → DnG l.prog w K mg base (T K) k d.name 1 g) :
    PySem.W.WalkO q loose XP (hookN D).says l.row.toRowW d [] (fun f vs => PySem.call f vs) := by
  refine Att.attach_callB hn hdf fun w s₀ s₁ mg mb fa o pm cd doc a vs ns G Y ho hd hcd hmg hobj hints hlen hbits hgn => ?_
  obtain ⟨K, KX, c⟩ := Y
  have tabs : ∀ x ∈ D.lams, s₁.heap.get? (tbA K x) = some tabObj ∧ K.lookup (tbA K x) = none ∧ PySem.W.CodeHd s₁.heap (cdA K x) (tbA K x) := fun x hx => by
    refine tab_of KX G.T.g (hd_tab c hx) ?_
    obtain ⟨dL, hm, hn1⟩ := List.any_eq_true.mp (hrec x hx)
    obtain rfl : dL.name = x := beq_iff_eq.mp hn1
    exact G.T.tab dL hm
  have mem : ∀ p ∈ csOf K D.lams, ∃ x ∈ D.lams, p = (cdA K x, tbA K x) := fun p hp => by
    obtain ⟨x, hx, e⟩ := List.mem_map.mp hp
    exact ⟨x, hx, e.symm⟩
  have S : Start K mg mb (csOf K D.lams) s₁ a { cls := .type "list", data := .seq vs.toArray } :=
    { kx := KX, ns := G.T.g, nb := G.T.b, bb := G.T.builtins, lim := G.T.nolimit, gens := hgn, tab := fun p hp => by obtain ⟨x, hx, rfl⟩ := mem p hp; exact (tabs x hx).1, noK := fun p hp => by obtain ⟨x, hx, rfl⟩ := mem p hp; exact (tabs x hx).2.1,
      hd := fun p hp => by obtain ⟨x, hx, rfl⟩ := mem p hp; exact (tabs x hx).2.2, bm := G.T.bmain, sg := hobj, sd := ⟨_, _, rfl⟩, nk := by
        cases e : K.lookup a with
        | none => rfl
        | some o =>
          have h2 := KX _ _ e
          rw [hobj] at h2
          cases h2
          exact absurd rfl (hd_noLst c e) }
  exact law_go S hints (Nat.le_trans hlen hn2) hr (T := T K) (fun p hp => by
      rw [hT K] at hp
      obtain ⟨x, hx, rfl⟩ := List.mem_map.mp hp
      exact List.mem_map.mpr ⟨(cdA K x, tbA K x), List.mem_map.mpr ⟨x, hx, rfl⟩, rfl⟩) hmg (hg ns hbits) fun base h1 h2 h3 => F w K mg base h1 h2 c h3
end PI

set_option Elab.async false
set_option linter.all false
set_option maxRecDepth 100000
set_option maxHeartbeats 0
namespace law_k18
open PySem PySem.Spec PyProof.Rows L2 PI
open LamX (TabB)
def initS (i : Nat) : Stmt := match topS i with
  | .ClassDef _ _ _ b _ _ _ _ _ _ _ => b.getD 0 (.Pass ⟨0, 0, 0, 0⟩)
  | _ => .Pass ⟨0, 0, 0, 0⟩
abbrev R : PySem.W.OpenRow := PySem.W.OpenLaw.row PySem.Challenge.rw_noclicks_k18_whole_deadlines
def names0 : List (List PySem.Str) := [["SoundError", "BadThing", "is_whole", "is_from", "is_many", "MOST_LATE", "is_plan", "check_plan", "check_hearing", "heard_times", "played_times", "late_blocks", "least_late", "is_never", "shows_least_late", "even_plan", "least_size", "delay_of", "_law_cell_at", "_law_draw"], ["_law_number", "_law_next", "_law_refuses", "_law_heard", "_law_times", "_law_late"]]
def names : List PySem.Str := names0.flatten
abbrev qv : Program := PySem.W.view R.prog [30, 31]
def defs0 : List (List (PySem.Str × Stmt)) := [[("is_whole", s_is_whole), ("is_from", s_is_from), ("is_many", s_is_many), ("is_plan", s_is_plan), ("check_plan", s_check_plan), ("check_hearing", s_check_hearing), ("heard_times", s_heard_times), ("played_times", s_played_times), ("late_blocks", s_late_blocks), ("is_never", s_is_never), ("least_late", s_least_late), ("shows_least_late", s_shows_least_late), ("even_plan", s_even_plan), ("least_size", s_least_size), ("delay_of", s_delay_of), ("_law_cell_at", s__law_cell_at), ("_law_draw", s__law_draw), ("_law_number", s__law_number), ("_law_next", s__law_next), ("_law_heard", s__law_heard)], [("_law_times", s__law_times), ("_law_late", s__law_late), ("_law_refused_right", s__law_refused_right), ("law", s_law), ("_law_refuses", s__law_refuses)]]
def D : HD where
  file := PySem.Challenge.pw_noclicks_k18_whole_deadlines.main.file
  fas := [.free "all", .free "any", .free "bool", .free "enumerate", .free "int", .free "isinstance", .free "len", .free "list", .free "max", .free "min", .free "range", .free "repr", .free "sum", .free "tuple", .free "zip", .free "super"]
  consts := [("MOST_LATE", g_MOST_LATE)]
  defs := defs0.flatten
  excs := [("BadThing", "thing", initS 2)]
  lams := ["_law_refused_right"]
def TT (K : PySem.W.Frag) : List (Addr × Str) × (Nat → Addr) := (lamT K ["_law_refused_right"], fun i => match i with | 1 => He.ga K "BadThing" | _ => 0)
def co (K : PySem.W.Frag) : Nat → Addr := fun i => match i with | 31 => cdA K "law" | 30 => cdA K "_law_refused_right" | _ => 0
theorem it_BadThing : InitT (initS 2) "thing" "thing" := ⟨⟨_, _, _, _, _, _, _, _, _, _, _, _, _, rfl, fun _ => rfl, fun _ => rfl, fun _ => rfl⟩, ⟨_, rfl, rfl⟩, fun _ _ _ _ _ _ _ _ us hl => match us, hl with | [_, _], _ => rfl, rfl, rfl, rfl, rfl, rfl, rfl, rfl, by decide +kernel, by decide, by decide⟩
theorem hd_all {w : World} {K : PySem.W.Frag} {mg : PySem.Str → Option Value} {base : Heap} (X : K.In base) (G : base.Ns mainGlobals mg) (c : obsK D K = valN D) (hb : ∀ p ∈ csOf K D.lams, TabB base mg p.1 p.2) : Hd PySem.Challenge.pw_noclicks_k18_whole_deadlines w K mg base (TT K) (co K) := by
  have b_super := He.free_ok X G (hd_fa c 15)
  have e_BadThing := fun (base : Heap) => xn_of (P := PySem.Challenge.pw_noclicks_k18_whole_deadlines) (w := w) (base := base) (cm := (TT K).2) (lb := 1) X G rfl (hd_ex c 0).1 (hd_ex c 0).2 it_BadThing b_super rfl
  exact {
    b_all := He.free_ok X G (hd_fa c 0),
    b_any := He.free_ok X G (hd_fa c 1),
    b_bool := He.free_ok X G (hd_fa c 2),
    b_enumerate := He.free_ok X G (hd_fa c 3),
    b_int := He.free_ok X G (hd_fa c 4),
    b_isinstance := He.free_ok X G (hd_fa c 5),
    b_len := He.free_ok X G (hd_fa c 6),
    b_list := He.free_ok X G (hd_fa c 7),
    b_max := He.free_ok X G (hd_fa c 8),
    b_min := He.free_ok X G (hd_fa c 9),
    b_range := He.free_ok X G (hd_fa c 10),
    b_repr := He.free_ok X G (hd_fa c 11),
    b_sum := He.free_ok X G (hd_fa c 12),
    b_tuple := He.free_ok X G (hd_fa c 13),
    b_zip := He.free_ok X G (hd_fa c 14),
    c_MOST_LATE := gc_of X G (hd_const c 0),
    x_BadThing := (e_BadThing base).1,
    f_is_whole := fun_of' X G (hd_fn c 0).1 (hd_fn c 0).2,
    f_is_from := fun_of' X G (hd_fn c 1).1 (hd_fn c 1).2,
    f_is_many := fun_of' X G (hd_fn c 2).1 (hd_fn c 2).2,
    f_is_plan := fun_of' X G (hd_fn c 3).1 (hd_fn c 3).2,
    f_check_plan := fun_of' X G (hd_fn c 4).1 (hd_fn c 4).2,
    f_check_hearing := fun_of' X G (hd_fn c 5).1 (hd_fn c 5).2,
    f_heard_times := fun_of' X G (hd_fn c 6).1 (hd_fn c 6).2,
    f_played_times := fun_of' X G (hd_fn c 7).1 (hd_fn c 7).2,
    f_late_blocks := fun_of' X G (hd_fn c 8).1 (hd_fn c 8).2,
    f_is_never := fun_of' X G (hd_fn c 9).1 (hd_fn c 9).2,
    f_least_late := fun_of' X G (hd_fn c 10).1 (hd_fn c 10).2,
    f_shows_least_late := fun_of' X G (hd_fn c 11).1 (hd_fn c 11).2,
    f_even_plan := fun_of' X G (hd_fn c 12).1 (hd_fn c 12).2,
    f_least_size := fun_of' X G (hd_fn c 13).1 (hd_fn c 13).2,
    f_delay_of := fun_of' X G (hd_fn c 14).1 (hd_fn c 14).2,
    f__law_cell_at := fun_of' X G (hd_fn c 15).1 (hd_fn c 15).2,
    f__law_draw := fun_of' X G (hd_fn c 16).1 (hd_fn c 16).2,
    f__law_number := fun_of' X G (hd_fn c 17).1 (hd_fn c 17).2,
    f__law_next := fun_of' X G (hd_fn c 18).1 (hd_fn c 18).2,
    f__law_heard := fun_of' X G (hd_fn c 19).1 (hd_fn c 19).2,
    f__law_times := fun_of' X G (hd_fn c 20).1 (hd_fn c 20).2,
    f__law_late := fun_of' X G (hd_fn c 21).1 (hd_fn c 21).2,
    f__law_refused_right := fun_of X G (hd_fn c 22).1 (hd_fn c 22).2,
    f_law := fun_of X G (hd_fn c 23).1 (hd_fn c 23).2,
    t__law_refused_right := tb_of c List.mem_cons_self hb,
    o__law_refuses := tn_of X G (hd_fn c 24).1 (hd_fn c 24).2 (e_BadThing base).2 (He.free_ok X G (hd_fa c 11)) }
end law_k18

set_option Elab.async false
set_option linter.all false
set_option maxRecDepth 100000
set_option maxHeartbeats 0
namespace law_k18
open PySem PySem.Spec PyProof.Rows L2 PI
set_option maxHeartbeats 0 in
theorem run (w : World) : HandSHeadRun.RunEq R qv (hookN D) (obT D) 6000 names w := by
  intro os
  kernel_rfl
end law_k18

set_option Elab.async false
set_option linter.all false
set_option maxRecDepth 100000
set_option maxHeartbeats 0
open PySem PySem.W PySem.Calls PyProof.Rows
theorem PySem.Challenge.cw_noclicks_k18_whole_deadlines_holds : PySem.Challenge.rw_noclicks_k18_whole_deadlines.Holds := by
  w_on; o_law
  refine HandSHeadRun.head_any (r := law_k18.R) (q := law_k18.qv) (H := PI.hookN law_k18.D) (ob := PI.obT law_k18.D) (M := 6000) (loose := law_k18.names) (d := HandSHeadRun.topDef law_k18.R.prog 31) (kwd := []) (PI.obT_eq law_k18.D)
    (by kernel_rfl) (fun s => by kernel_rfl) law_k18.run (by kernel_rfl) (by kernel_rfl) (by kernel_rfl) (by rfl) (by first | assumption | decide +kernel) (by decide +kernel) ⟨rfl, rfl, rfl, rfl, rfl, by decide +kernel⟩ ?hw ?hc
  case hw => w_witness2
  case hc =>
    exact PI.walk_G (l := PySem.Challenge.rw_noclicks_k18_whole_deadlines) (n := 63) (k := 14) (D := law_k18.D) (g := law_k18.d_law) (T := law_k18.TT) rfl (by decide) (by kernel_rfl) ⟨rfl, by decide, by decide⟩ (by decide +kernel) (fun _ => rfl) (fun ns _ => law_k18.law_true ns 0)
      fun w K mg base X G c hb => law_k18.dn_law (law_k18.hd_all X G c hb)

