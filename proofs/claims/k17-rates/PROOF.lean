import PyProof.Rows.All
import Wide.All
import OpenK.AllK
import Wide.FinOn
import HandS.ForMost
import HandS.ForExc
import HandS.Wide
import HandS.IsInst
import HandS.TupAny
import HandS.TupMul
import HandS.Flow
import HandS.Deep
import HandS.ExcOwn
import HandS.Lambda
import HandS.ExcField
import HandS.SuiteRaise
import HandS.TryMany
import HandS.Iter
import HandS.Comp
import KE.KExcSuper
import HandS.ExcInit
import HandS.Words
import HandS.WordsExc
import KE.GoesMore
import KE.GoesEnum
import KE.GoesNew
import HandS.Star
import HandS.HeadHook1
import HandS.Head0
import HandS.Head1
import HandS.Head2
import HandS.EndTab
import PySem.Challenge.RW_noclicks_k17_whole_rates
set_option Elab.async false
set_option linter.all false
set_option maxRecDepth 100000
/-! PI1: an interpreter for a part of the language, by values and a store; what stands for what. -/
namespace PI
open PySem PySem.Spec PyProof.Rows L2

/-! ### values, objects, the store -/
inductive IV where
  | non | bl (b : Bool) | int (i : Int) | str (s : List Nat) | tup (xs : List IV) | ref (n : Nat)
  deriving Inhabited
inductive IO where
  | lst (xs : List IV)
  | frl (xs : List IV)
  deriving Inhabited
structure Sto where
  os : List IO
  low : Nat
/-- an exception: its class by number, its attributes -/
structure IX where
  cls : Nat
  fs : List (Str × IV)
inductive RE (α : Type) where
  | ok (a : α) (st : Sto)
  | exc (x : IX) (st : Sto)
  | bad
abbrev IEnv := List (Option IV)
/-- what the calls of the text's own defs give: the def by number, the arguments -/
abbrev CL := Nat → List IV → Sto → RE IV
def RE.bind {α β : Type} (m : RE α) (k : α → Sto → RE β) : RE β :=
  match m with
  | .ok a st => k a st
  | .exc x st => .exc x st
  | .bad => .bad
def Sto.alloc (st : Sto) (o : IO) : RE IV := .ok (.ref st.os.length) { st with os := st.os ++ [o] }

/-! ### what stands for what -/
mutual
inductive RepV (K : PySem.W.Frag) (H : Hp) (ρ : List Addr) : IV → V → Prop
  | non : RepV K H ρ .non .non
  | bl (b : Bool) : RepV K H ρ (.bl b) (.bl b)
  | int (i : Int) : RepV K H ρ (.int i) (.int i)
  | str {s : List Nat} (h : s.all (fun c => decide (c < 0x110000)) = true) : RepV K H ρ (.str s) (.str ⟨s.toArray⟩)
  | tup {xs : List IV} {vs : List V} {a : Addr} (h : SqT K H a vs) (r : RepVs K H ρ xs vs) : RepV K H ρ (.tup xs) (.ref a)
  | ref {n : Nat} {a : Addr} (h : ρ[n]? = some a) : RepV K H ρ (.ref n) (.ref a)
inductive RepVs (K : PySem.W.Frag) (H : Hp) (ρ : List Addr) : List IV → List V → Prop
  | nil : RepVs K H ρ [] []
  | cons {x : IV} {xs : List IV} {v : V} {vs : List V} (h : RepV K H ρ x v) (t : RepVs K H ρ xs vs) : RepVs K H ρ (x :: xs) (v :: vs)
end
def RepO (K : PySem.W.Frag) (H : Hp) (ρ : List Addr) (a : Addr) : IO → Prop
  | .lst xs => ∃ vs, H a = some (.lst vs) ∧ RepVs K H ρ xs vs
  | .frl xs => ∃ vs, Rd H a (.lst vs) ∧ RepVs K H ρ xs vs
structure Rel (K : PySem.W.Frag) (H : Hp) (ρ : List Addr) (st : Sto) : Prop where
  len : ρ.length = st.os.length
  nd : ρ.Nodup
  obj : ∀ (n : Nat) (o : IO) (a : Addr), st.os[n]? = some o → ρ[n]? = some a → RepO K H ρ a o
structure RelEnv (K : PySem.W.Frag) (H : Hp) (ρ : List Addr) (env : IEnv) (σ : L2.St) : Prop where
  len : env.length = σ.length
  get : ∀ (i : Nat) (v : IV), env[i]? = some (some v) → ∃ x, σ[i]? = some (some x) ∧ RepV K H ρ v x
/-- the heap goes on: what is not the store's stays, what comes into the store is new -/
structure Ext (ρ : List Addr) (H : Hp) (ρ' : List Addr) (H' : Hp) : Prop where
  pre : ρ <+: ρ'
  keep : ∀ (a : Addr) (o : HO), H a = some o → a ∉ ρ → H' a = some o
  new : ∀ a ∈ ρ', a ∈ ρ ∨ H a = none
theorem Ext.refl (ρ : List Addr) (H : Hp) : Ext ρ H ρ H := ⟨List.prefix_refl ρ, fun _ _ h _ => h, fun _ h => .inl h⟩
theorem Ext.trans {ρ ρ1 ρ2 : List Addr} {H H1 H2 : Hp} (a : Ext ρ H ρ1 H1) (b : Ext ρ1 H1 ρ2 H2) : Ext ρ H ρ2 H2 where
  pre := a.pre.trans b.pre
  keep := fun c o h n => b.keep c o (a.keep c o h n) fun z => by
    rcases a.new c z with z | z
    · exact n z
    · rw [h] at z; cases z
  new := fun c h => by
    rcases b.new c h with h | h
    · exact a.new c h
    · by_cases hc : c ∈ ρ
      · exact .inl hc
      · right
        cases q : H c with
        | none => rfl
        | some o => rw [a.keep c o q hc] at h; cases h

section
variable {K : PySem.W.Frag} {H H' : Hp} {ρ ρ' : List Addr} {st : Sto}
theorem Rel.at' (r : Rel K H ρ st) {a : Addr} (h : a ∈ ρ) : ∃ (n : Nat) (o : IO), ρ[n]? = some a ∧ st.os[n]? = some o ∧ RepO K H ρ a o := by
  obtain ⟨n, hn, e⟩ := List.getElem_of_mem h
  have e1 : ρ[n]? = some a := by rw [List.getElem?_eq_getElem hn, e]
  have hn' : n < st.os.length := by rw [← r.len]; exact hn
  exact ⟨n, st.os[n], e1, List.getElem?_eq_getElem hn', r.obj n _ a (List.getElem?_eq_getElem hn') e1⟩
theorem RepO.ne_tup {a : Addr} {o : IO} (h : RepO K H ρ a o) (vs : List V) : ¬ Rd H a (.tup vs) := by
  intro q
  cases o with
  | lst xs =>
    obtain ⟨ws, e, _⟩ := h
    rcases q with q | ⟨ob, q⟩ <;> (rw [e] at q; cases q)
  | frl xs =>
    obtain ⟨ws, e, _⟩ := h
    rcases e with e | ⟨ob', e⟩ <;> rcases q with q | ⟨ob, q⟩ <;> (rw [e] at q; cases q)
theorem RepO.trk {a : Addr} {o : IO} (h : RepO K H ρ a o) : ∃ u, H a = some u := by
  cases o with
  | lst xs => obtain ⟨ws, e, _⟩ := h; exact ⟨_, e⟩
  | frl xs =>
    obtain ⟨ws, e, _⟩ := h
    rcases e with e | ⟨ob', e⟩
    · exact ⟨_, e⟩
    · exact ⟨_, e⟩
theorem Rel.trk (r : Rel K H ρ st) {a : Addr} (h : a ∈ ρ) : ∃ u, H a = some u := by
  obtain ⟨_, _, _, _, q⟩ := r.at' h
  exact q.trk
theorem Rel.sqT (r : Rel K H ρ st) (e : Ext ρ H ρ' H') {a : Addr} {vs : List V} (h : SqT K H a vs) : SqT K H' a vs := by
  rcases h with h | h
  · have hn : a ∉ ρ := fun z => by
      obtain ⟨_, _, _, _, q⟩ := r.at' z
      exact q.ne_tup vs h
    left
    rcases h with h | ⟨ob, h⟩
    · exact .inl (e.keep a _ h hn)
    · exact .inr ⟨ob, e.keep a _ h hn⟩
  · exact .inr h
theorem pre_get {α : Type} {l l' : List α} (h : l <+: l') {n : Nat} {a : α} (e : l[n]? = some a) : l'[n]? = some a := by
  obtain ⟨t, rfl⟩ := h
  have hn := (List.getElem?_eq_some_iff.mp e).1
  rw [List.getElem?_append_left hn]
  exact e
mutual
theorem RepV.mono (r : Rel K H ρ st) (e : Ext ρ H ρ' H') : ∀ {v : IV} {x : V}, RepV K H ρ v x → RepV K H' ρ' v x
  | _, _, .non => .non
  | _, _, .bl b => .bl b
  | _, _, .int i => .int i
  | _, _, .str h => .str h
  | _, _, .tup h t => .tup (r.sqT e h) (RepVs.mono r e t)
  | _, _, .ref h => .ref (pre_get e.pre h)
theorem RepVs.mono (r : Rel K H ρ st) (e : Ext ρ H ρ' H') : ∀ {v : List IV} {x : List V}, RepVs K H ρ v x → RepVs K H' ρ' v x
  | _, _, .nil => .nil
  | _, _, .cons h t => .cons (RepV.mono r e h) (RepVs.mono r e t)
end
theorem RelEnv.mono (r : Rel K H ρ st) (e : Ext ρ H ρ' H') {env : IEnv} {σ : L2.St} (h : RelEnv K H ρ env σ) : RelEnv K H' ρ' env σ :=
  ⟨h.len, fun i v q => let ⟨x, a, b⟩ := h.get i v q; ⟨x, a, b.mono r e⟩⟩
theorem RepVs.length : ∀ {xs : List IV} {vs : List V}, RepVs K H ρ xs vs → xs.length = vs.length
  | _, _, .nil => rfl
  | _, _, .cons _ t => by rw [List.length_cons, List.length_cons, RepVs.length t]
theorem RepVs.get : ∀ {xs : List IV} {vs : List V} {i : Nat} {x : IV}, RepVs K H ρ xs vs → xs[i]? = some x → ∃ v, vs[i]? = some v ∧ RepV K H ρ x v
  | _, _, _, _, .nil, e => by simp at e
  | _, _, 0, _, .cons h _, e => by simp at e; subst e; exact ⟨_, rfl, h⟩
  | _, _, i + 1, x, .cons _ t, e => by
    obtain ⟨v, h1, h2⟩ := RepVs.get (i := i) (x := x) t (by simpa using e)
    exact ⟨v, by simpa using h1, h2⟩
theorem RepVs.append : ∀ {xs ys : List IV} {vs ws : List V}, RepVs K H ρ xs vs → RepVs K H ρ ys ws → RepVs K H ρ (xs ++ ys) (vs ++ ws)
  | _, _, _, _, .nil, s => s
  | _, _, _, _, .cons h t, s => .cons h (RepVs.append t s)
theorem RepVs.take : ∀ {xs : List IV} {vs : List V} (n : Nat), RepVs K H ρ xs vs → RepVs K H ρ (xs.take n) (vs.take n)
  | _, _, 0, _ => by simpa using RepVs.nil
  | _, _, _ + 1, .nil => .nil
  | _, _, n + 1, .cons h t => .cons h (RepVs.take n t)
theorem RepVs.drop : ∀ {xs : List IV} {vs : List V} (n : Nat), RepVs K H ρ xs vs → RepVs K H ρ (xs.drop n) (vs.drop n)
  | _, _, 0, r => by simpa using r
  | _, _, _ + 1, .nil => .nil
  | _, _, n + 1, .cons _ t => by simpa using RepVs.drop n t
theorem RepVs.set {x : IV} {v : V} (r : RepV K H ρ x v) : ∀ {xs : List IV} {vs : List V} (i : Nat), RepVs K H ρ xs vs → RepVs K H ρ (xs.set i x) (vs.set i v)
  | _, _, _, .nil => .nil
  | _, _, 0, .cons _ t => .cons r t
  | _, _, i + 1, .cons q t => .cons q (RepVs.set r i t)
theorem RepVs.one {x : IV} {vs : List V} (h : RepVs K H ρ [x] vs) : ∃ v, vs = [v] ∧ RepV K H ρ x v := by
  cases h with
  | cons h t => cases t; exact ⟨_, rfl, h⟩
theorem RepVs.two {x y : IV} {vs : List V} (h : RepVs K H ρ [x, y] vs) : ∃ v w, vs = [v, w] ∧ RepV K H ρ x v ∧ RepV K H ρ y w := by
  cases h with
  | cons h t => obtain ⟨w, rfl, h2⟩ := t.one; exact ⟨_, _, rfl, h, h2⟩

/-! ### a new object; an object changed -/
theorem fresh_not (r : Rel K H ρ st) {p : Addr} (h : H p = none) : p ∉ ρ := fun z => by
  obtain ⟨u, e⟩ := r.trk z
  rw [h] at e; cases e
theorem Ext.fresh (r : Rel K H ρ st) {p : Addr} (h : H p = none) (u : HO) : Ext ρ H ρ (upd H p u) :=
  ⟨List.prefix_refl ρ, fun a o e _ => by rw [upd_ne (ne_of_none e h)]; exact e, fun _ q => .inl q⟩
theorem Ext.alloc (r : Rel K H ρ st) {p : Addr} (h : H p = none) (u : HO) : Ext ρ H (ρ ++ [p]) (upd H p u) :=
  ⟨List.prefix_append ρ [p], fun a o e _ => by rw [upd_ne (ne_of_none e h)]; exact e, fun a q => by
    rcases List.mem_append.mp q with q | q
    · exact .inl q
    · right
      have : a = p := by simpa using q
      rw [this]; exact h⟩
theorem RepO.mono (r : Rel K H ρ st) (e : Ext ρ H ρ' H') {a : Addr} {o : IO} (h : RepO K H ρ a o) (hk : H' a = H a) : RepO K H' ρ' a o := by
  cases o with
  | lst xs => obtain ⟨vs, q, t⟩ := h; exact ⟨vs, by rw [hk]; exact q, t.mono r e⟩
  | frl xs =>
    obtain ⟨vs, q, t⟩ := h
    exact ⟨vs, by unfold Rd; rw [hk]; exact q, t.mono r e⟩
/-- a tuple (or what the store does not hold) is laid -/
theorem Rel.fresh (r : Rel K H ρ st) {p : Addr} (h : H p = none) (u : HO) : Rel K (upd H p u) ρ st :=
  ⟨r.len, r.nd, fun n o a e1 e2 => (r.obj n o a e1 e2).mono r (Ext.fresh r h u) (upd_ne fun z => fresh_not r h (z ▸ List.mem_of_getElem? e2))⟩
theorem Rel.alloc (r : Rel K H ρ st) {p : Addr} (h : H p = none) (u : HO) (o : IO) (hn : RepO K (upd H p u) (ρ ++ [p]) p o) : Rel K (upd H p u) (ρ ++ [p]) { st with os := st.os ++ [o] } := by
  have hf := fresh_not r h
  refine ⟨by simp [r.len], ?_, fun n o' a e1 e2 => ?_⟩
  · rw [List.nodup_append]
    refine ⟨r.nd, by simp, fun a ha b hb => ?_⟩
    have : b = p := by simpa using hb
    subst this
    exact fun z => hf (z ▸ ha)
  · have hl := r.len
    by_cases hlt : n < st.os.length
    · have e1' : st.os[n]? = some o' := by
        have e1'' : (st.os ++ [o])[n]? = some o' := e1
        rwa [List.getElem?_append_left hlt] at e1''
      have e2' : ρ[n]? = some a := by rwa [List.getElem?_append_left (by omega)] at e2
      exact (r.obj n o' a e1' e2').mono r (Ext.alloc r h u) (upd_ne fun z => hf (z ▸ List.mem_of_getElem? e2'))
    · have hn1 : n < (st.os ++ [o]).length := (List.getElem?_eq_some_iff.mp (show (st.os ++ [o])[n]? = some o' from e1)).1
      have en : n = st.os.length := by
        rw [List.length_append, List.length_cons, List.length_nil] at hn1
        omega
      subst en
      have e1'' : (st.os ++ [o])[st.os.length]? = some o' := e1
      have e2'' : (ρ ++ [p])[st.os.length]? = some a := e2
      rw [List.getElem?_append_right (Nat.le_refl _)] at e1''
      rw [← hl, List.getElem?_append_right (Nat.le_refl _)] at e2''
      simp at e1'' e2''
      subst e1'' e2''
      exact hn
theorem nodup_get {α : Type} {l : List α} (h : l.Nodup) {i j : Nat} {x : α} (a : l[i]? = some x) (b : l[j]? = some x) : i = j := by
  obtain ⟨h1, e1⟩ := List.getElem?_eq_some_iff.mp a
  obtain ⟨h2, e2⟩ := List.getElem?_eq_some_iff.mp b
  exact (List.getElem_inj h).mp (e1.trans e2.symm)
/-- the n-th object of the store is changed -/
theorem Ext.write (r : Rel K H ρ st) {n : Nat} {a : Addr} (hn : ρ[n]? = some a) (u : HO) : Ext ρ H ρ (upd H a u) :=
  ⟨List.prefix_refl ρ, fun b o e hb => by rw [upd_ne (fun z => hb (by rw [z]; exact List.mem_of_getElem? hn))]; exact e, fun _ q => .inl q⟩
theorem Rel.write (r : Rel K H ρ st) {n : Nat} {a : Addr} (hn : ρ[n]? = some a) (u : HO) (o : IO) (ho : RepO K (upd H a u) ρ a o) (lw : Nat) : Rel K (upd H a u) ρ { os := st.os.set n o, low := lw } := by
  refine ⟨by simp [r.len], r.nd, fun m o' b e1 e2 => ?_⟩
  by_cases hm : n = m
  · subst hm
    have hb : b = a := by rw [hn] at e2; exact (Option.some.inj e2).symm
    subst hb
    have e1' : (st.os.set n o)[n]? = some o' := e1
    have hl : n < st.os.length := by
      have := (List.getElem?_eq_some_iff.mp e1').1
      simpa using this
    rw [List.getElem?_set_self hl] at e1'
    cases e1'
    exact ho
  · have e1' : (st.os.set n o)[m]? = some o' := e1
    rw [List.getElem?_set_ne hm] at e1'
    refine (r.obj m o' b e1' e2).mono r (Ext.write r hn u) (upd_ne fun z => hm ?_)
    subst z
    exact nodup_get r.nd hn e2
end

/-- a reading may be strengthened -/
theorem _root_.L2.PE.of {X : Cx} {e : Expr} {t t' : TE} (h : PE X e t) (f : ∀ σ H Q, t' σ H Q → t σ H Q) : PE X e t' := ⟨fun pins s σ H Q I q => h.run pins s σ H Q I (f σ H Q q)⟩
theorem _root_.L2.PT.of {X : Cx} {e : Expr} {t t' : TT} (h : PT X e t) (f : ∀ σ H Q, t' σ H Q → t σ H Q) : PT X e t' := ⟨fun pins s σ H Q I q => h.run pins s σ H Q I (f σ H Q q)⟩
theorem _root_.L2.PA.of {X : Cx} {e : List Expr} {t t' : TA} (h : PA X e t) (f : ∀ σ H Q, t' σ H Q → t σ H Q) : PA X e t' := ⟨fun pos pins s σ H Q I q => h.run pos pins s σ H Q I (f σ H Q q)⟩
theorem _root_.L2.PS.of {X : Cx} {e : Stmt} {t t' : TS} (h : PS X e t) (f : ∀ D σ H, t' D σ H → t D σ H) : PS X e t' := ⟨fun pins s σ H D I q => h.run pins s σ H D I (f D σ H q)⟩
theorem _root_.L2.PSs.of {X : Cx} {e : List Stmt} {t t' : TS} (h : PSs X e t) (f : ∀ D σ H, t' D σ H → t D σ H) : PSs X e t' := ⟨fun pins s σ H D I q => h.run pins s σ H D I (f D σ H q)⟩
end PI

set_option Elab.async false
set_option linter.all false
set_option maxRecDepth 100000
/-! PI2: operators, builtins by values. -/
namespace PI
open PySem PySem.Spec PyProof.Rows L2

/-! ### answers of operators -/
abbrev RO := Option (IV × Sto)
def Sto.allocO (st : Sto) (o : IO) : RO := some (.ref st.os.length, { st with os := st.os ++ [o] })
def PostO (K : PySem.W.Frag) (ρ : List Addr) (H : Hp) (Q : VK) : RO → Prop
  | some (v, st) => ∀ (ρ' : List Addr) (H' : Hp) (x : V), Ext ρ H ρ' H' → Rel K H' ρ' st → RepV K H' ρ' v x → Q x H'
  | none => False
def RE.ofO : RO → RE IV
  | some (v, st) => .ok v st
  | none => .bad
def rB (K : PySem.W.Frag) (f : IV → IV → Sto → RO) : R2 := fun x y H Q => ∃ ρ st va vb, Rel K H ρ st ∧ RepV K H ρ va x ∧ RepV K H ρ vb y ∧ PostO K ρ H Q (f va vb st)
def rU1 (K : PySem.W.Frag) (f : IV → Sto → RO) : V → Hp → VK → Prop := fun x H Q => ∃ ρ st va, Rel K H ρ st ∧ RepV K H ρ va x ∧ PostO K ρ H Q (f va st)
def rCl (K : PySem.W.Frag) (f : List IV → Sto → RO) : List V → Hp → VK → Prop := fun vs H Q => ∃ ρ st xs, Rel K H ρ st ∧ RepVs K H ρ xs vs ∧ PostO K ρ H Q (f xs st)
section
variable {K : PySem.W.Frag} {H : Hp} {ρ : List Addr} {st : Sto} {Q : VK}
theorem PostO.here {v : IV} {x : V} (h : PostO K ρ H Q (some (v, st))) (r : Rel K H ρ st) (p : RepV K H ρ v x) : Q x H := h ρ H x (Ext.refl _ _) r p
theorem PostO.newTup {xs : List IV} {vs : List V} (h : PostO K ρ H Q (some (.tup xs, st))) (r : Rel K H ρ st) (p : RepVs K H ρ xs vs) : ∀ a, H a = none → Q (.ref a) (upd H a (.tup vs)) := fun a ha =>
  h ρ _ _ (Ext.fresh r ha _) (r.fresh ha _) (.tup (SqT.of upd_same) (p.mono r (Ext.fresh r ha _)))
theorem rep_last (r : Rel K H ρ st) (a : Addr) : (ρ ++ [a])[st.os.length]? = some a := by
  rw [← r.len, List.getElem?_append_right (Nat.le_refl _)]
  simp
theorem PostO.newLst {xs : List IV} {vs : List V} (h : PostO K ρ H Q (st.allocO (.lst xs))) (r : Rel K H ρ st) (p : RepVs K H ρ xs vs) : ∀ a, H a = none → Q (.ref a) (upd H a (.lst vs)) := fun a ha =>
  h (ρ ++ [a]) _ _ (Ext.alloc r ha _) (r.alloc ha _ _ ⟨vs, upd_same, p.mono r (Ext.alloc r ha _)⟩) (.ref (rep_last r a))
/-- a list that may be read, by its number -/
def lstAt (st : Sto) (n : Nat) : Option (List IV) :=
  match st.os[n]? with
  | some (.lst xs) => some xs
  | some (.frl xs) => some xs
  | _ => none
theorem lstAt_sq {n : Nat} {xs : List IV} {a : Addr} (r : Rel K H ρ st) (e : lstAt st n = some xs) (ea : ρ[n]? = some a) : ∃ vs, SqL K H a vs ∧ RepVs K H ρ xs vs := by
  unfold lstAt at e
  split at e
  · rename_i h
    cases e
    obtain ⟨vs, q, t⟩ := r.obj n _ a h ea
    exact ⟨vs, .inl (.inl q), t⟩
  · rename_i h
    cases e
    obtain ⟨vs, q, t⟩ := r.obj n _ a h ea
    exact ⟨vs, .inl q, t⟩
  · cases e
/-- the items of a list or tuple -/
def seqOf (st : Sto) : IV → Option (List IV)
  | .tup xs => some xs
  | .ref n => lstAt st n
  | _ => none
theorem seqOf_sq {v : IV} {x : V} {xs : List IV} (r : Rel K H ρ st) (p : RepV K H ρ v x) (e : seqOf st v = some xs) : ∃ a vs, x = .ref a ∧ (SqL K H a vs ∨ SqT K H a vs) ∧ RepVs K H ρ xs vs := by
  cases p with
  | tup h t => cases e; exact ⟨_, _, rfl, .inr h, t⟩
  | ref h =>
    obtain ⟨vs, q, t⟩ := lstAt_sq r e h
    exact ⟨_, _, rfl, .inl q, t⟩
  | _ => cases e
end

/-! ### arithmetic -/
def lineI : Nat := 100000
theorem line_ok {n : Nat} (h : n ≤ lineI) : n ≤ sizeLine := Nat.le_trans h (by decide)
theorem line_lt {n : Nat} (h : n < lineI) : n < sizeLine := Nat.lt_of_lt_of_le h (by decide)
def addI : IV → IV → Sto → RO
  | .int i, .int j, st => some (.int (i + j), st)
  | .tup xs, .tup ys, st => bif Nat.ble (xs.length + ys.length) lineI then some (.tup (xs ++ ys), st) else none
  | .str s, .str t, st => bif Nat.ble (s.length + t.length) lineI then some (.str (s ++ t), st) else none
  | .ref a, .ref b, st => match st.os[a]?, st.os[b]? with
    | some (.lst xs), some (.lst ys) => bif Nat.ble (xs.length + ys.length) lineI then st.allocO (.lst (xs ++ ys)) else none
    | _, _ => none
  | _, _, _ => none
def subI : IV → IV → Sto → RO
  | .int i, .int j, st => some (.int (i - j), st)
  | _, _, _ => none
def mulOk (i j : Int) : Bool := Nat.ble (i.natAbs.log2 + j.natAbs.log2) 900000
def mulI : IV → IV → Sto → RO
  | .int i, .int j, st => bif mulOk i j then some (.int (i * j), st) else none
  | .ref a, .int k, st => match st.os[a]? with
    | some (.lst xs) => bif decide (0 ≤ k) && Nat.ble (xs.length * k.toNat) lineI && decide (k < 1000000) then st.allocO (.lst (List.replicate k.toNat xs).flatten) else none
    | _ => none
  | .tup xs, .int k, st => bif (match xs with | [] => false | _ => true) && decide (2 ≤ k) && decide (k ≤ 1000) && Nat.ble xs.length 1000 then some (.tup (List.replicate k.toNat xs).flatten, st) else none
  | _, _, _ => none
def divI : IV → IV → Sto → RO
  | .int i, .int j, st => bif decide (0 < j) && Nat.blt j.natAbs.log2 9000 then some (.int (i / j), st) else none
  | _, _, _ => none
def modI : IV → IV → Sto → RO
  | .int i, .int j, st => bif decide (0 < j) then some (.int (i % j), st) else none
  | _, _, _ => none
def powI : IV → IV → Sto → RO
  | .int i, .int j, st => bif decide (0 ≤ j) && decide (j ≤ 10000) && Nat.blt i.natAbs (2 ^ 64) then some (.int (i ^ j.toNat), st) else none
  | _, _, _ => none
theorem bif_some {b : Bool} {α : Type} {x : Option α} {P : Option α → Prop} (h : P (bif b then x else none)) (hn : ¬ P none) : b = true ∧ P x := by
  cases b with
  | true => exact ⟨rfl, h⟩
  | false => exact absurd h hn
section
variable {X : Cx}
theorem post_none {K : PySem.W.Frag} {ρ : List Addr} {H : Hp} {Q : VK} : ¬ PostO K ρ H Q none := fun h => h
theorem cps_len (s : List Nat) : (⟨s.toArray⟩ : Str).length = s.length := by simp [Str.length]
theorem str_app (s t : List Nat) : (⟨s.toArray⟩ : Str) ++ (⟨t.toArray⟩ : Str) = ⟨(s ++ t).toArray⟩ := by
  show Str.mk _ = _
  simp
theorem op_addI : OpR X (binaryOp .Add) (rB X.K addI) := by
  rintro pins s σ H x y v u Q I rx ry ⟨ρ, st, va, vb, r, pa, pb, h⟩
  cases pa with
  | int i =>
    cases pb with
    | int j => exact op_add pins s σ H _ _ v u Q I rx ry ⟨i, j, rfl, rfl, h.here r (.int _)⟩
    | _ => exact (post_none h).elim
  | tup ha ta =>
    cases pb with
    | tup hb tb =>
      obtain ⟨e, h⟩ := bif_some (P := PostO X.K ρ H Q) h post_none
      have e' := Nat.le_of_ble_eq_true e
      refine op_catA pins s σ H _ _ v u Q I rx ry ⟨_, _, _, _, rfl, rfl, ha, hb, line_ok (by rw [← ta.length, ← tb.length]; exact e'), fun z => ?_, fun _ z => ?_, fun _ _ => h.newTup r (ta.append tb)⟩
      · subst z
        cases ta
        exact h.here r (.tup hb tb)
      · subst z
        cases tb
        rw [List.append_nil] at h
        exact h.here r (.tup ha ta)
    | _ => exact (post_none h).elim
  | @str s1 h1 =>
    cases pb with
    | @str s2 h2 =>
      obtain ⟨e, h⟩ := bif_some (P := PostO X.K ρ H Q) h post_none
      have e' := Nat.le_of_ble_eq_true e
      refine op_add_str pins s σ H _ _ v u Q I rx ry ⟨_, _, rfl, rfl, line_ok (by rw [cps_len, cps_len]; exact e'), ?_⟩
      rw [str_app]
      exact h.here r (.str (by rw [List.all_append, h1, h2]; rfl))
    | _ => exact (post_none h).elim
  | @ref a a1 ha =>
    cases pb with
    | @ref b b1 hb =>
      have h' : PostO X.K ρ H Q (match st.os[a]?, st.os[b]? with
        | some (.lst xs), some (.lst ys) => bif Nat.ble (xs.length + ys.length) lineI then st.allocO (.lst (xs ++ ys)) else none
        | _, _ => none) := h
      split at h'
      · rename_i xs ys e1 e2
        obtain ⟨e, h⟩ := bif_some (P := PostO X.K ρ H Q) h' post_none
        have e' := Nat.le_of_ble_eq_true e
        obtain ⟨vs, q1, t1⟩ := r.obj _ _ _ e1 ha
        obtain ⟨ws, q2, t2⟩ := r.obj _ _ _ e2 hb
        exact op_cat pins s σ H _ _ v u Q I rx ry ⟨_, _, _, _, rfl, rfl, q1, q2, line_ok (by rw [← t1.length, ← t2.length]; exact e'), h.newLst r (t1.append t2)⟩
      · exact h'.elim
    | _ => exact (post_none h).elim
  | _ => exact (post_none h).elim
theorem op_subI : OpR X (binaryOp .Sub) (rB X.K subI) := by
  rintro pins s σ H x y v u Q I rx ry ⟨ρ, st, va, vb, r, pa, pb, h⟩
  cases pa with
  | int i =>
    cases pb with
    | int j => exact op_sub pins s σ H _ _ v u Q I rx ry ⟨i, j, rfl, rfl, h.here r (.int _)⟩
    | _ => exact (post_none h).elim
  | _ => exact (post_none h).elim
theorem RepVs.flatten {K : PySem.W.Frag} {H : Hp} {ρ : List Addr} {xs : List IV} {vs : List V} (t : RepVs K H ρ xs vs) : ∀ n : Nat, RepVs K H ρ (List.replicate n xs).flatten (List.replicate n vs).flatten
  | 0 => .nil
  | n + 1 => by
    rw [List.replicate_succ, List.replicate_succ, List.flatten_cons, List.flatten_cons]
    exact t.append (RepVs.flatten t n)
theorem op_mulI : OpR X (binaryOp .Mult) (rB X.K mulI) := by
  rintro pins s σ H x y v u Q I rx ry ⟨ρ, st, va, vb, r, pa, pb, h⟩
  cases pa with
  | int i =>
    cases pb with
    | int j =>
      obtain ⟨e, h⟩ := bif_some (P := PostO X.K ρ H Q) h post_none
      exact op_mulW pins s σ H _ _ v u Q I rx ry ⟨i, j, rfl, rfl, Nat.lt_of_le_of_lt (Nat.le_of_ble_eq_true e) (by decide), h.here r (.int _)⟩
    | _ => exact (post_none h).elim
  | tup ha ta =>
    cases pb with
    | int k =>
      obtain ⟨e, h⟩ := bif_some (P := PostO X.K ρ H Q) h post_none
      simp only [Bool.and_eq_true, decide_eq_true_eq] at e
      obtain ⟨⟨⟨e1, e2⟩, e3⟩, e4⟩ := e
      refine op_repT pins s σ H _ _ v u Q I rx ry ⟨_, k, _, rfl, rfl, ha, fun z => ?_, e2, e3, by rw [← ta.length]; exact Nat.le_of_ble_eq_true e4, h.newTup r (ta.flatten _)⟩
      subst z
      cases ta
      cases e1
    | _ => exact (post_none h).elim
  | @ref a a1 ha =>
    cases pb with
    | int k =>
      have h' : PostO X.K ρ H Q (match st.os[a]? with
        | some (.lst xs) => bif decide (0 ≤ k) && Nat.ble (xs.length * k.toNat) lineI && decide (k < 1000000) then st.allocO (.lst (List.replicate k.toNat xs).flatten) else none
        | _ => none) := h
      split at h'
      · rename_i xs e1
        obtain ⟨e, h⟩ := bif_some (P := PostO X.K ρ H Q) h' post_none
        simp only [Bool.and_eq_true, decide_eq_true_eq] at e
        obtain ⟨⟨e2, e3⟩, e4⟩ := e
        obtain ⟨vs, q1, t1⟩ := r.obj _ _ _ e1 ha
        exact op_rep pins s σ H _ _ v u Q I rx ry ⟨_, k, _, rfl, rfl, q1, by omega, by omega, line_ok (by rw [← t1.length]; exact Nat.le_of_ble_eq_true e3), h.newLst r (t1.flatten _)⟩
      · exact h'.elim
    | _ => exact (post_none h).elim
  | _ => exact (post_none h).elim
theorem op_divI : OpR X (binaryOp .FloorDiv) (rB X.K divI) := by
  rintro pins s σ H x y v u Q I rx ry ⟨ρ, st, va, vb, r, pa, pb, h⟩
  cases pa with
  | int i =>
    cases pb with
    | int j =>
      obtain ⟨e, h⟩ := bif_some (P := PostO X.K ρ H Q) h post_none
      simp only [Bool.and_eq_true, decide_eq_true_eq] at e
      exact op_fdivW pins s σ H _ _ v u Q I rx ry ⟨i, j, rfl, rfl, ⟨e.1, by have := e.2; simp [Nat.blt] at this; omega⟩, h.here r (.int _)⟩
    | _ => exact (post_none h).elim
  | _ => exact (post_none h).elim
theorem op_modI : OpR X (binaryOp .Mod) (rB X.K modI) := by
  rintro pins s σ H x y v u Q I rx ry ⟨ρ, st, va, vb, r, pa, pb, h⟩
  cases pa with
  | int i =>
    cases pb with
    | int j =>
      obtain ⟨e, h⟩ := bif_some (P := PostO X.K ρ H Q) h post_none
      exact op_mod pins s σ H _ _ v u Q I rx ry ⟨i, j, rfl, rfl, of_decide_eq_true e, h.here r (.int _)⟩
    | _ => exact (post_none h).elim
  | _ => exact (post_none h).elim
theorem op_powI : OpR X (binaryOp .Pow) (rB X.K powI) := by
  rintro pins s σ H x y v u Q I rx ry ⟨ρ, st, va, vb, r, pa, pb, h⟩
  cases pa with
  | int i =>
    cases pb with
    | int j =>
      obtain ⟨e, h⟩ := bif_some (P := PostO X.K ρ H Q) h post_none
      simp only [Bool.and_eq_true, decide_eq_true_eq] at e
      obtain ⟨⟨e1, e2⟩, e3⟩ := e
      exact op_pow pins s σ H _ _ v u Q I rx ry ⟨i, j, rfl, rfl, ⟨e1, by omega, by simp [Nat.blt] at e3; omega⟩, h.here r (.int _)⟩
    | _ => exact (post_none h).elim
  | _ => exact (post_none h).elim
def negI : IV → Sto → RO
  | .int i, st => some (.int (-i), st)
  | _, _ => none
theorem un_negI : UnR X (unaryOp .USub) (rU1 X.K negI) := by
  rintro pins s σ H x v Q I rx ⟨ρ, st, va, r, pa, h⟩
  cases pa with
  | int i => exact un_neg pins s σ H _ v Q I rx ⟨i, rfl, h.here r (.int _)⟩
  | _ => exact (post_none h).elim
end
end PI

set_option Elab.async false
set_option linter.all false
set_option maxRecDepth 100000
/-! PI3: comparisons. -/
namespace PI
open PySem PySem.Spec PyProof.Rows L2

/-! ### data -/
def allSome {α β : Type} (f : α → Option β) : List α → Option (List β)
  | [] => some []
  | x :: xs => match f x with
    | some d => match allSome f xs with
      | some ds => some (d :: ds)
      | none => none
    | none => none
/-- the data that a value stands for, of no more than so much depth -/
def pd (os : List IO) : Nat → IV → Option PyData
  | 0, v => match v with
    | .non => some .none
    | .bl b => some (.bool b)
    | .int i => some (.int i)
    | .str s => some (.str ⟨s.toArray⟩)
    | .tup _ => none
    | .ref _ => none
  | n + 1, v => match v with
    | .non => some .none
    | .bl b => some (.bool b)
    | .int i => some (.int i)
    | .str s => some (.str ⟨s.toArray⟩)
    | .tup xs => match allSome (pd os n) xs with
      | some ds => some (.tuple ds)
      | none => none
    | .ref k => match lstAt ⟨os, 0⟩ k with
      | some xs => match allSome (pd os n) xs with
        | some ds => some (.list ds)
        | none => none
      | none => none
section
variable {K : PySem.W.Frag} {H : Hp} {ρ : List Addr} {st : Sto} {Q : VK}
theorem strOk_of {s : List Nat} (h : s.all (fun c => decide (c < 0x110000)) = true) : PyData.strOk ⟨s.toArray⟩ = true := by
  unfold PyData.strOk
  simpa using h
theorem depthAll_le {n : Nat} : ∀ {ds : List PyData}, (∀ d ∈ ds, PyData.depth d ≤ n) → PyData.depthAll ds ≤ n
  | [], _ => by simp [PyData.depthAll]
  | d :: ds, h => by
    have h1 := h d List.mem_cons_self
    have h2 := depthAll_le fun e he => h e (List.mem_cons_of_mem _ he)
    simp only [PyData.depthAll]
    omega
theorem canAll {ds : List PyData} (h : ∀ d ∈ ds, PyData.canLay0 d = true) : PyData.canLayAll0 ds = true := by
  induction ds with
  | nil => rfl
  | cons d ds ih =>
    simp only [PyData.canLayAll0, Bool.and_eq_true]
    exact ⟨h d List.mem_cons_self, ih fun e he => h e (List.mem_cons_of_mem _ he)⟩
/-- what is known of such data -/
structure PdOk (K : PySem.W.Frag) (H : Hp) (n : Nat) (x : V) (d : PyData) : Prop where
  dp : Dp K H x d
  can : PyData.canLay0 d = true
  dep : PyData.depth d ≤ n
theorem allSome_ok {f : IV → Option PyData} {n : Nat} (hf : ∀ (v : IV) (x : V) (d : PyData), RepV K H ρ v x → f v = some d → PdOk K H n x d) :
    ∀ {xs : List IV} {vs : List V} {ds : List PyData}, RepVs K H ρ xs vs → allSome f xs = some ds → DpAll K H vs ds ∧ ∀ d ∈ ds, PyData.canLay0 d = true ∧ PyData.depth d ≤ n
  | _, _, ds, .nil, e => by
    cases e
    exact ⟨.nil, fun _ z => nomatch z⟩
  | _, _, ds, .cons (x := x) (xs := xs) h t, e => by
    unfold allSome at e
    split at e
    · rename_i d e1
      split at e
      · rename_i es e2
        cases e
        have o := hf _ _ _ h e1
        obtain ⟨q1, q2⟩ := allSome_ok hf t e2
        refine ⟨.cons o.dp q1, fun c hc => ?_⟩
        rcases List.mem_cons.mp hc with rfl | hc
        · exact ⟨o.can, o.dep⟩
        · exact q2 c hc
      · cases e
    · cases e
theorem pd_ok (r : Rel K H ρ st) : ∀ (n : Nat) (v : IV) (x : V) (d : PyData), RepV K H ρ v x → pd st.os n v = some d → PdOk K H n x d
  | 0, _, _, d, p, e => by
    cases p with
    | non => cases e; exact ⟨.non, rfl, Nat.zero_le _⟩
    | bl b => cases e; exact ⟨.bl b, rfl, Nat.zero_le _⟩
    | int i => cases e; exact ⟨.int i, rfl, Nat.zero_le _⟩
    | str h => cases e; exact ⟨.str _, strOk_of h, Nat.zero_le _⟩
    | tup h t => cases e
    | ref h => cases e
  | n + 1, _, _, d, p, e => by
    cases p with
    | non => cases e; exact ⟨.non, rfl, Nat.zero_le _⟩
    | bl b => cases e; exact ⟨.bl b, rfl, Nat.zero_le _⟩
    | int i => cases e; exact ⟨.int i, rfl, Nat.zero_le _⟩
    | str h => cases e; exact ⟨.str _, strOk_of h, Nat.zero_le _⟩
    | @tup xs vs a h t =>
      have e' : (match allSome (pd st.os n) xs with
        | some ds => some (PyData.tuple ds)
        | none => none) = some d := e
      split at e'
      · rename_i ds e1
        cases e'
        obtain ⟨q1, q2⟩ := allSome_ok (fun v x d p q => pd_ok r n v x d p q) t e1
        exact ⟨.tup h q1, canAll fun d hd => (q2 d hd).1, Nat.succ_le_succ (depthAll_le fun d hd => (q2 d hd).2)⟩
      · cases e'
    | @ref k a h =>
      have e' : (match lstAt ⟨st.os, 0⟩ k with
        | some xs => match allSome (pd st.os n) xs with
          | some ds => some (PyData.list ds)
          | none => none
        | none => none) = some d := e
      split at e'
      · rename_i xs e0
        split at e'
        · rename_i ds e1
          cases e'
          obtain ⟨vs, q0, t⟩ := lstAt_sq r (show lstAt st k = some xs from e0) h
          obtain ⟨q1, q2⟩ := allSome_ok (fun v x d p q => pd_ok r n v x d p q) t e1
          exact ⟨.lst q0 q1, canAll fun d hd => (q2 d hd).1, Nat.succ_le_succ (depthAll_le fun d hd => (q2 d hd).2)⟩
        · cases e'
      · cases e'
theorem PdOk.shaped {x : V} {d : PyData} {n : Nat} (h : PdOk K H n x d) (hn : n ≤ 64) : SeqAt.shaped d = true := by
  unfold SeqAt.shaped
  rw [h.can, Bool.true_and]
  have := h.dep
  exact decide_eq_true (by omega)
end
/-- == -/
def eqI (st : Sto) (a b : IV) : Option Bool :=
  match a, b with
  | .int i, .int j => some (decide (i = j))
  | .str s, .str t => some (s == t)
  | a, b => match pd st.os 63 a with
    | some d => match pd st.os 63 b with
      | some e => some (PyData.eqv d e)
      | none => none
    | none => none
theorem str_beq (s t : List Nat) : ((⟨s.toArray⟩ : Str) == ⟨t.toArray⟩) = (s == t) := by
  rw [Bool.eq_iff_iff]
  simp
theorem eqI_pd {st : Sto} {a b : IV} {r : Bool} (h : eqI st a b = some r) : ∃ d e, pd st.os 63 a = some d ∧ pd st.os 63 b = some e ∧ PyData.eqv d e = r := by
  unfold eqI at h
  split at h
  · rename_i i j
    cases h
    exact ⟨_, _, rfl, rfl, by rw [PyData.eqv]; rfl⟩
  · rename_i s t
    cases h
    refine ⟨_, _, rfl, rfl, ?_⟩
    show ((⟨s.toArray⟩ : Str) == ⟨t.toArray⟩) = (s == t)
    exact str_beq s t
  · split at h
    · rename_i d e1
      split at h
      · rename_i e e2
        cases h
        exact ⟨d, e, e1, e2, rfl⟩
      · cases h
    · cases h
def blO (o : Option Bool) (st : Sto) : RO := match o with
  | some b => some (.bl b, st)
  | none => none
def blN (o : Option Bool) (st : Sto) : RO := match o with
  | some b => some (.bl (!b), st)
  | none => none
/-- x in a list or tuple: each item must be comparable -/
def anyEq (st : Sto) (x : IV) : List IV → Option Bool
  | [] => some false
  | y :: ys => match eqI st y x with
    | some b => match anyEq st x ys with
      | some c => some (b || c)
      | none => none
    | none => none
def inI (st : Sto) (x : IV) : IV → Option Bool
  | .str s => match x with
    | .str [c] => some (s.contains c)
    | _ => none
  | .tup xs => match pd st.os 63 x with
    | some _ => anyEq st x xs
    | none => none
  | .ref n => match lstAt st n with
    | some xs => match pd st.os 63 x with
      | some _ => anyEq st x xs
      | none => none
    | none => none
  | _ => none
def isNI : IV → IV → Option Bool
  | .non, .non => some true
  | _, .non => some false
  | _, _ => none
def ltI : IV → IV → Option Bool
  | .int i, .int j => some (decide (i < j))
  | _, _ => none
def leI : IV → IV → Option Bool
  | .int i, .int j => some (decide (i ≤ j))
  | _, _ => none
section
variable {X : Cx} {K : PySem.W.Frag} {H : Hp} {ρ : List Addr} {st : Sto} {Q : VK}
theorem blO_some {o : Option Bool} (h : PostO K ρ H Q (blO o st)) : ∃ b, o = some b ∧ PostO K ρ H Q (some (.bl b, st)) := by
  cases o with
  | some b => exact ⟨b, rfl, h⟩
  | none => exact h.elim
theorem blN_some {o : Option Bool} (h : PostO K ρ H Q (blN o st)) : ∃ b, o = some b ∧ PostO K ρ H Q (some (.bl (!b), st)) := by
  cases o with
  | some b => exact ⟨b, rfl, h⟩
  | none => exact h.elim
theorem op_eqI (hu : X.A.units + 64 < cLine) : OpR X (compareOp .Eq) (rB X.K fun a b st => blO (eqI st a b) st) := by
  rintro pins s σ H x y v u Q I rx ry ⟨ρ, st, va, vb, r, pa, pb, h⟩
  obtain ⟨b, e, h⟩ := blO_some h
  obtain ⟨d1, d2, e1, e2, e3⟩ := eqI_pd e
  have o1 := pd_ok r 63 _ _ _ pa e1
  have o2 := pd_ok r 63 _ _ _ pb e2
  exact op_eqD hu pins s σ H _ _ v u Q I rx ry ⟨d1, d2, o1.dp, o2.dp, o1.shaped (by decide), o2.shaped (by decide), by rw [e3]; exact h.here r (.bl _)⟩
theorem op_neI (hu : X.A.units + 64 < cLine) : OpR X (compareOp .NotEq) (rB X.K fun a b st => blN (eqI st a b) st) := by
  rintro pins s σ H x y v u Q I rx ry ⟨ρ, st, va, vb, r, pa, pb, h⟩
  obtain ⟨b, e, h⟩ := blN_some h
  obtain ⟨d1, d2, e1, e2, e3⟩ := eqI_pd e
  have o1 := pd_ok r 63 _ _ _ pa e1
  have o2 := pd_ok r 63 _ _ _ pb e2
  exact op_neD hu pins s σ H _ _ v u Q I rx ry ⟨d1, d2, o1.dp, o2.dp, o1.shaped (by decide), o2.shaped (by decide), by rw [e3]; exact h.here r (.bl _)⟩
theorem anyEq_pd {x : IV} {d : PyData} (hx : pd st.os 63 x = some d) : ∀ {xs : List IV} {b : Bool}, anyEq st x xs = some b → ∃ ds, allSome (pd st.os 63) xs = some ds ∧ (ds.any fun z => PyData.eqv z d) = b
  | [], b, h => by
    cases h
    exact ⟨[], rfl, rfl⟩
  | y :: ys, b, h => by
    unfold anyEq at h
    split at h
    · rename_i c1 e1
      split at h
      · rename_i c2 e2
        cases h
        obtain ⟨d1, d2, q1, q2, q3⟩ := eqI_pd e1
        rw [hx] at q2
        cases q2
        obtain ⟨ds, q4, q5⟩ := anyEq_pd hx e2
        refine ⟨d1 :: ds, ?_, ?_⟩
        · unfold allSome
          rw [q1]
          simp only []
          rw [q4]
        · rw [List.any_cons, q3, q5]
      · cases h
    · cases h
theorem in_seqI {x : V} {va : IV} {xs : List IV} {vs : List V} {a : Addr} {b : Bool} {d : PyData} {pins : List (Addr × Obj)} {s : Shared} {σ : L2.St} {v u : Value} (hu : X.A.units + 64 < cLine) (I : Inv X pins σ H s) (rx : RelV x v) (ry : RelV (.ref a) u) (r : Rel X.K H ρ st) (pa : RepV X.K H ρ va x)
    (hq : SqL X.K H a vs ∨ SqT X.K H a vs) (t : RepVs X.K H ρ xs vs) (hd : pd st.os 63 va = some d) (e : anyEq st va xs = some b) : ∃ (ds : List PyData), (SqL X.K H a vs → Dp X.K H (.ref a) (.list ds)) ∧ (SqT X.K H a vs → Dp X.K H (.ref a) (.tuple ds)) ∧
      SeqAt.shaped (.list ds) = true ∧ SeqAt.shaped (.tuple ds) = true ∧ Dp X.K H x d ∧ SeqAt.shaped d = true ∧ (ds.any fun z => PyData.eqv z d) = b := by
  obtain ⟨ds, q1, q2⟩ := anyEq_pd hd e
  have o := pd_ok r 63 _ _ _ pa hd
  obtain ⟨q3, q4⟩ := allSome_ok (fun v x d p q => pd_ok r 63 v x d p q) t q1
  have hc : PyData.canLayAll0 ds = true := canAll fun d hd => (q4 d hd).1
  have hdp : PyData.depthAll ds ≤ 63 := depthAll_le fun d hd => (q4 d hd).2
  refine ⟨ds, fun z => .lst z q3, fun z => .tup z q3, ?_, ?_, o.dp, o.shaped (by decide), q2⟩
  · unfold SeqAt.shaped
    rw [show PyData.canLay0 (.list ds) = true from hc, Bool.true_and]
    exact decide_eq_true (Nat.succ_le_succ hdp)
  · unfold SeqAt.shaped
    rw [show PyData.canLay0 (.tuple ds) = true from hc, Bool.true_and]
    exact decide_eq_true (Nat.succ_le_succ hdp)

theorem op_inI (hu : X.A.units + 65 < cLine) : OpR X (compareOp .In) (rB X.K fun a b st => blO (inI st a b) st) := by
  rintro pins s σ H x y v u Q I rx ry ⟨ρ, st, va, vb, r, pa, pb, h⟩
  obtain ⟨b, e, hp⟩ := blO_some h
  cases pb with
  | @str s2 h2 =>
    cases pa with
    | @str s1 h1 =>
      have e' : (match (IV.str s1) with
        | .str [c] => some (s2.contains c)
        | _ => none) = some b := e
      split at e'
      · rename_i c ec
        cases e'
        cases ec
        refine op_in_sign pins s σ H _ _ v u Q I rx ry ⟨c, _, rfl, rfl, ?_⟩
        have : decide (c ∈ (⟨s2.toArray⟩ : Str).cps.toList) = s2.contains c := by
          rw [Bool.eq_iff_iff]
          simp
        rw [this]
        exact hp.here r (.bl _)
      · cases e'
    | _ => cases e
  | @tup xs vs a ha t =>
    have e' : (match pd st.os 63 va with
      | some _ => anyEq st va xs
      | none => none) = some b := e
    split at e'
    · rename_i d hd
      obtain ⟨ds, q1, q2, q3, q4, q5, q6, q7⟩ := in_seqI (by omega) I rx ry r pa (.inr ha) t hd e'
      obtain ⟨as, r1⟩ := Dp.reads I _ _ _ q5 rx
      obtain ⟨bs, r2⟩ := Dp.reads I _ _ _ (q2 ha) ry
      exact SeqAt.in_tuple_reads r2 r1 (SeqAt.canLay_of_shaped q4) (SeqAt.canLay_of_shaped q6) (room_in_shaped q6 hu) ⟨.bl _, H, I, rfl, by rw [q7]; exact hp.here r (.bl _)⟩
    · cases e'
  | @ref n a ha =>
    have e' : (match lstAt st n with
      | some xs => match pd st.os 63 va with
        | some _ => anyEq st va xs
        | none => none
      | none => none) = some b := e
    split at e'
    · rename_i xs e0
      split at e'
      · rename_i d hd
        obtain ⟨vs, q0, t⟩ := lstAt_sq r e0 ha
        obtain ⟨ds, q1, q2, q3, q4, q5, q6, q7⟩ := in_seqI (by omega) I rx ry r pa (.inl q0) t hd e'
        obtain ⟨as, r1⟩ := Dp.reads I _ _ _ q5 rx
        obtain ⟨bs, r2⟩ := Dp.reads I _ _ _ (q1 q0) ry
        exact SeqAt.in_list_reads r2 r1 (SeqAt.canLay_of_shaped q3) (SeqAt.canLay_of_shaped q6) (room_in_shaped q6 hu) ⟨.bl _, H, I, rfl, by rw [q7]; exact hp.here r (.bl _)⟩
      · cases e'
    · cases e'
  | _ => cases e
theorem op_notInI (hu : X.A.units + 65 < cLine) : OpR X (compareOp .NotIn) (rB X.K fun a b st => blN (inI st a b) st) := by
  rintro pins s σ H x y v u Q I rx ry ⟨ρ, st, va, vb, r, pa, pb, h⟩
  obtain ⟨b, e, hp⟩ := blN_some h
  cases pb with
  | @str s2 h2 =>
    cases pa with
    | @str s1 h1 =>
      have e' : (match (IV.str s1) with
        | .str [c] => some (s2.contains c)
        | _ => none) = some b := e
      split at e'
      · rename_i c ec
        cases e'
        cases ec
        refine op_notIn_sign pins s σ H _ _ v u Q I rx ry ⟨c, _, rfl, rfl, ?_⟩
        have : decide (c ∈ (⟨s2.toArray⟩ : Str).cps.toList) = s2.contains c := by
          rw [Bool.eq_iff_iff]
          simp
        rw [this]
        exact hp.here r (.bl _)
      · cases e'
    | _ => cases e
  | @tup xs vs a ha t =>
    have e' : (match pd st.os 63 va with
      | some _ => anyEq st va xs
      | none => none) = some b := e
    split at e'
    · rename_i d hd
      obtain ⟨ds, q1, q2, q3, q4, q5, q6, q7⟩ := in_seqI (by omega) I rx ry r pa (.inr ha) t hd e'
      obtain ⟨as, r1⟩ := Dp.reads I _ _ _ q5 rx
      obtain ⟨bs, r2⟩ := Dp.reads I _ _ _ (q2 ha) ry
      exact SeqAt.notIn_tuple_reads r2 r1 (SeqAt.canLay_of_shaped q4) (SeqAt.canLay_of_shaped q6) (room_in_shaped q6 hu) ⟨.bl _, H, I, rfl, by rw [q7]; exact hp.here r (.bl _)⟩
    · cases e'
  | @ref n a ha =>
    have e' : (match lstAt st n with
      | some xs => match pd st.os 63 va with
        | some _ => anyEq st va xs
        | none => none
      | none => none) = some b := e
    split at e'
    · rename_i xs e0
      split at e'
      · rename_i d hd
        obtain ⟨vs, q0, t⟩ := lstAt_sq r e0 ha
        obtain ⟨ds, q1, q2, q3, q4, q5, q6, q7⟩ := in_seqI (by omega) I rx ry r pa (.inl q0) t hd e'
        obtain ⟨as, r1⟩ := Dp.reads I _ _ _ q5 rx
        obtain ⟨bs, r2⟩ := Dp.reads I _ _ _ (q1 q0) ry
        exact SeqAt.notIn_list_reads r2 r1 (SeqAt.canLay_of_shaped q3) (SeqAt.canLay_of_shaped q6) (room_in_shaped q6 hu) ⟨.bl _, H, I, rfl, by rw [q7]; exact hp.here r (.bl _)⟩
      · cases e'
    · cases e'
  | _ => cases e
theorem isN_some {a b : IV} {k : Bool} {x y : V} (pa : RepV K H ρ a x) (pb : RepV K H ρ b y) (e : isNI a b = some k) : y = .non ∧ decide (x = .non) = k := by
  cases pb with
  | non =>
    cases pa with
    | non => cases e; exact ⟨rfl, rfl⟩
    | _ => cases e; exact ⟨rfl, rfl⟩
  | _ => cases pa <;> cases e
theorem op_isI : OpR X (compareOp .Is) (rB X.K fun a b st => blO (isNI a b) st) := by
  rintro pins s σ H x y v u Q I rx ry ⟨ρ, st, va, vb, r, pa, pb, h⟩
  obtain ⟨b, e, h⟩ := blO_some h
  obtain ⟨e1, e2⟩ := isN_some pa pb e
  exact op_isN pins s σ H _ _ v u Q I rx ry ⟨e1, by rw [e2]; exact h.here r (.bl _)⟩
theorem op_isnotI : OpR X (compareOp .IsNot) (rB X.K fun a b st => blN (isNI a b) st) := by
  rintro pins s σ H x y v u Q I rx ry ⟨ρ, st, va, vb, r, pa, pb, h⟩
  obtain ⟨b, e, h⟩ := blN_some h
  obtain ⟨e1, e2⟩ := isN_some pa pb e
  exact op_notN pins s σ H _ _ v u Q I rx ry ⟨e1, by rw [e2]; exact h.here r (.bl _)⟩
theorem op_ltI : OpR X (compareOp .Lt) (rB X.K fun a b st => blO (ltI a b) st) := by
  rintro pins s σ H x y v u Q I rx ry ⟨ρ, st, va, vb, r, pa, pb, h⟩
  obtain ⟨b, e, h⟩ := blO_some h
  cases pa with
  | int i =>
    cases pb with
    | int j => cases e; exact op_lt pins s σ H _ _ v u Q I rx ry ⟨i, j, rfl, rfl, h.here r (.bl _)⟩
    | _ => cases e
  | _ => cases e
theorem op_leI : OpR X (compareOp .LtE) (rB X.K fun a b st => blO (leI a b) st) := by
  rintro pins s σ H x y v u Q I rx ry ⟨ρ, st, va, vb, r, pa, pb, h⟩
  obtain ⟨b, e, h⟩ := blO_some h
  cases pa with
  | int i =>
    cases pb with
    | int j => cases e; exact op_le pins s σ H _ _ v u Q I rx ry ⟨i, j, rfl, rfl, h.here r (.bl _)⟩
    | _ => cases e
  | _ => cases e
theorem op_gtI : OpR X (compareOp .Gt) (rB X.K fun a b st => blO (ltI b a) st) := by
  rintro pins s σ H x y v u Q I rx ry ⟨ρ, st, va, vb, r, pa, pb, h⟩
  obtain ⟨b, e, h⟩ := blO_some h
  cases pa with
  | int i =>
    cases pb with
    | int j => cases e; exact op_gt pins s σ H _ _ v u Q I rx ry ⟨i, j, rfl, rfl, h.here r (.bl _)⟩
    | _ => cases e
  | _ => cases pb <;> cases e
theorem op_geI : OpR X (compareOp .GtE) (rB X.K fun a b st => blO (leI b a) st) := by
  rintro pins s σ H x y v u Q I rx ry ⟨ρ, st, va, vb, r, pa, pb, h⟩
  obtain ⟨b, e, h⟩ := blO_some h
  cases pa with
  | int i =>
    cases pb with
    | int j => cases e; exact op_ge pins s σ H _ _ v u Q I rx ry ⟨i, j, rfl, rfl, h.here r (.bl _)⟩
    | _ => cases e
  | _ => cases pb <;> cases e
end
end PI

set_option Elab.async false
set_option linter.all false
set_option maxRecDepth 100000
/-! PI4: places, slices, builtins by values, methods. -/
namespace PI
open PySem PySem.Spec PyProof.Rows L2

section
variable {K : PySem.W.Frag} {H : Hp} {ρ : List Addr} {st : Sto} {Q : VK}
theorem RepVs.atI : ∀ {xs : List IV} {vs : List V} {i : Int} {x : IV}, RepVs K H ρ xs vs → L2.atI xs i = some x → ∃ v, L2.atI vs i = some v ∧ RepV K H ρ x v := by
  intro xs vs i x t e
  unfold L2.atI at e ⊢
  rw [← t.length]
  cases q : ixN xs.length i with
  | none => rw [q] at e; cases e
  | some j =>
    rw [q] at e
    exact t.get e
end
def idxI : IV → IV → Sto → RO
  | .tup xs, .int i, st => match L2.atI xs i with
    | some v => some (v, st)
    | none => none
  | .ref n, .int i, st => match lstAt st n with
    | some xs => match L2.atI xs i with
      | some v => some (v, st)
      | none => none
    | none => none
  | .str s, .int i, st => bif Nat.ble s.length lineI then (match L2.atI s i with
    | some c => some (.str [c], st)
    | none => none) else none
  | _, _, _ => none
theorem ix_I {X : Cx} : IxR X (rB X.K idxI) := by
  rintro value slice pins s σ H x y v u Q I rx ry ⟨ρ, st, va, vb, r, pa, pb, h⟩ hs
  cases pb with
  | int i =>
    cases pa with
    | @tup xs vs a ha t =>
      have h' : PostO X.K ρ H Q (match L2.atI xs i with
        | some v => some (v, st)
        | none => none) := h
      split at h'
      · rename_i w e
        obtain ⟨z, e1, p⟩ := t.atI e
        exact ix_tup value slice pins s σ H _ _ v u Q I rx ry ⟨a, vs, i, z, rfl, rfl, ha, e1, h'.here r p⟩ hs
      · exact h'.elim
    | @ref n a ha =>
      have h' : PostO X.K ρ H Q (match lstAt st n with
        | some xs => match L2.atI xs i with
          | some v => some (v, st)
          | none => none
        | none => none) := h
      split at h'
      · rename_i xs e0
        split at h'
        · rename_i w e
          obtain ⟨vs, q, t⟩ := lstAt_sq r e0 ha
          obtain ⟨z, e1, p⟩ := t.atI e
          exact ix_list value slice pins s σ H _ _ v u Q I rx ry ⟨a, vs, i, z, rfl, rfl, q, e1, h'.here r p⟩ hs
        · exact h'.elim
      · exact h'.elim
    | @str s1 h1 =>
      obtain ⟨e0, h'⟩ := bif_some (P := PostO X.K ρ H Q) h post_none
      split at h'
      · rename_i c e
        refine ix_str value slice pins s σ H _ _ v u Q I rx ry ⟨_, i, c, rfl, rfl, line_ok (by rw [cps_len]; exact Nat.le_of_ble_eq_true e0), ?_, h'.here r ?_⟩ hs
        · simpa using e
        · obtain ⟨j, _, hj, _⟩ := atI_get e
          have hm : c ∈ s1 := List.mem_of_getElem? hj
          have hc := List.all_eq_true.mp h1 c hm
          exact RepV.str (s := [c]) (by rw [List.all_cons, hc]; rfl)
      · exact h'.elim
    | _ => exact (post_none h).elim
  | _ => exfalso; cases pa <;> exact post_none h

/-! ### slices -/
def cutI {α : Type} (xs : List α) (lo hi : Option Int) : List α := (xs.drop (HT.sIx xs.length 0 lo)).take (HT.sIx xs.length xs.length hi - HT.sIx xs.length 0 lo)
def slcI (v : IV) (lo hi : Option Int) (st : Sto) : RO :=
  match v with
  | .tup xs => some (.tup (cutI xs lo hi), st)
  | .ref n => match lstAt st n with
    | some xs => st.allocO (.lst (cutI xs lo hi))
    | none => none
  | _ => none
def rS (K : PySem.W.Frag) : V → Option Int → Option Int → Hp → VK → Prop := fun x lo hi H Q => ∃ ρ st va, Rel K H ρ st ∧ RepV K H ρ va x ∧ PostO K ρ H Q (slcI va lo hi st)
theorem RepVs.cut {K : PySem.W.Frag} {H : Hp} {ρ : List Addr} {xs : List IV} {vs : List V} (t : RepVs K H ρ xs vs) (lo hi : Option Int) : RepVs K H ρ (cutI xs lo hi) (cutV vs lo hi) := by
  unfold cutI cutV
  rw [t.length]
  exact (t.drop _).take _
theorem cut_whole {α : Type} {xs : List α} {lo hi : Option Int} (h : HT.sIx xs.length 0 lo = 0 ∧ HT.sIx xs.length xs.length hi = xs.length) : cutI xs lo hi = xs := by
  unfold cutI
  rw [h.1, h.2]
  simp
theorem sl_I {X : Cx} : SlR X (rS X.K) := by
  rintro pins s σ H x v vl vu lo hi sl Q I rx hs pl pu ⟨ρ, st, va, r, pa, h⟩
  cases pa with
  | @tup xs vs a ha t =>
    have h' : PostO X.K ρ H Q (some (.tup (cutI xs lo hi), st)) := h
    refine sl_tupA pins s σ H _ v vl vu lo hi sl Q I rx hs pl pu ⟨a, vs, rfl, ha, fun z => ?_, fun z => h'.newTup r (t.cut lo hi)⟩
    rw [← t.length] at z
    rw [cut_whole z] at h'
    exact h'.here r (.tup ha t)
  | @ref n a ha =>
    have h' : PostO X.K ρ H Q (match lstAt st n with
      | some xs => st.allocO (.lst (cutI xs lo hi))
      | none => none) := h
    split at h'
    · rename_i xs e0
      obtain ⟨vs, q, t⟩ := lstAt_sq r e0 ha
      exact sl_list pins s σ H _ v vl vu lo hi sl Q I rx hs pl pu ⟨a, vs, rfl, q, h'.newLst r (t.cut lo hi)⟩
    · exact h'.elim
  | _ => exact (post_none h).elim

/-! ### truth -/
def truI (st : Sto) : IV → Option Bool
  | .non => some false
  | .bl b => some b
  | .int i => some (i != 0)
  | .str s => bif Nat.ble s.length lineI then some (!s.isEmpty) else none
  | .tup xs => some (!xs.isEmpty)
  | .ref n => match lstAt st n with
    | some xs => some (!xs.isEmpty)
    | none => none
theorem isEmpty_len {α β : Type} {xs : List α} {ys : List β} (h : xs.length = ys.length) : xs.isEmpty = ys.isEmpty := by
  cases xs <;> cases ys <;> simp_all
theorem truI_ok {K : PySem.W.Frag} {H : Hp} {ρ : List Addr} {st : Sto} {v : IV} {x : V} {k : Bool} (r : Rel K H ρ st) (p : RepV K H ρ v x) (e : truI st v = some k) : TruV K x H k := by
  cases p with
  | non => cases e; exact rfl
  | bl b => cases e; exact rfl
  | int i => cases e; exact rfl
  | @str s h =>
    have e' : (bif Nat.ble s.length lineI then some (!s.isEmpty) else none) = some k := e
    cases hb : Nat.ble s.length lineI with
    | false => rw [hb] at e'; cases e'
    | true =>
      rw [hb] at e'
      cases e'
      refine ⟨line_ok (by rw [cps_len]; exact Nat.le_of_ble_eq_true hb), ?_⟩
      rw [cps_len]
      cases s with
      | nil => rfl
      | cons c r =>
        rw [List.length_cons]
        have : (((r.length + 1 : Nat) : Int) != 0) = true := by simp; omega
        rw [this]; rfl
  | @tup xs vs a ha t => cases e; exact .inr (.inl ⟨vs, ha, by rw [isEmpty_len t.length]⟩)
  | @ref n a ha =>
    have e' : (match lstAt st n with
      | some xs => some (!xs.isEmpty)
      | none => none) = some k := e
    split at e'
    · rename_i xs e0
      obtain ⟨vs, q, t⟩ := lstAt_sq r e0 ha
      cases e'
      exact .inl ⟨vs, q, by rw [isEmpty_len t.length]⟩
    · cases e'

/-! ### builtins -/
def lenI : List IV → Sto → RO
  | [.str s], st => bif Nat.ble s.length lineI then some (.int s.length, st) else none
  | [v], st => match seqOf st v with
    | some xs => some (.int xs.length, st)
    | none => none
  | _, _ => none
def absI : List IV → Sto → RO
  | [.int i], st => some (.int (if i < 0 then -i else i), st)
  | _, _ => none
def intI : List IV → Sto → RO
  | [.int i], st => some (.int i, st)
  | [.bl b], st => some (.int (if b then 1 else 0), st)
  | _, _ => none
def tupleI : List IV → Sto → RO
  | [.tup xs], st => some (.tup xs, st)
  | [.ref n], st => match lstAt st n with
    | some xs => some (.tup xs, st)
    | none => none
  | _, _ => none
def listI : List IV → Sto → RO
  | [v], st => match seqOf st v with
    | some xs => st.allocO (.lst xs)
    | none => none
  | _, _ => none
def bools : List IV → Option (List Bool)
  | [] => some []
  | .bl b :: r => match bools r with
    | some bs => some (b :: bs)
    | none => none
  | _ :: _ => none
def intsOf : List IV → Option (List Int)
  | [] => some []
  | .int b :: r => match intsOf r with
    | some bs => some (b :: bs)
    | none => none
  | _ :: _ => none
def allI : List IV → Sto → RO
  | [.ref n], st => match lstAt st n with
    | some xs => match bools xs with
      | some bs => some (.bl (bs.all id), st)
      | none => none
    | none => none
  | _, _ => none
def anyI : List IV → Sto → RO
  | [.ref n], st => match lstAt st n with
    | some xs => match bools xs with
      | some bs => some (.bl (bs.any id), st)
      | none => none
    | none => none
  | _, _ => none
def sumI : List IV → Sto → RO
  | [.ref n], st => match lstAt st n with
    | some xs => match intsOf xs with
      | some ns => some (.int ns.sum, st)
      | none => none
    | none => none
  | _, _ => none
def maxL : Int → List Int → Int
  | m, [] => m
  | m, x :: r => maxL (if m < x then x else m) r
def minL : Int → List Int → Int
  | m, [] => m
  | m, x :: r => minL (if x < m then x else m) r
def maxI : List IV → Sto → RO
  | [.ref n], st => match lstAt st n with
    | some xs => match intsOf xs with
      | some (m :: ns) => some (.int (maxL m ns), st)
      | _ => none
    | none => none
  | _, _ => none
def minI : List IV → Sto → RO
  | [.ref n], st => match lstAt st n with
    | some xs => match intsOf xs with
      | some (m :: ns) => some (.int (minL m ns), st)
      | _ => none
    | none => none
  | _, _ => none
section
variable {K : PySem.W.Frag} {H : Hp} {ρ : List Addr} {st : Sto} {Q : VK}
theorem bools_ok : ∀ {xs : List IV} {vs : List V} {bs : List Bool}, RepVs K H ρ xs vs → bools xs = some bs → vs = bs.map V.bl
  | _, _, _, .nil, e => by cases e; rfl
  | _, _, _, .cons (x := x) (xs := xs) h t, e => by
    cases h with
    | bl b =>
      have e' : (match bools xs with
        | some bs => some (b :: bs)
        | none => none) = some _ := e
      split at e'
      · rename_i cs e1
        cases e'
        rw [bools_ok t e1]
        rfl
      · cases e'
    | _ => cases e
theorem ints_ok : ∀ {xs : List IV} {vs : List V} {bs : List Int}, RepVs K H ρ xs vs → intsOf xs = some bs → vs = bs.map V.int
  | _, _, _, .nil, e => by cases e; rfl
  | _, _, _, .cons (x := x) (xs := xs) h t, e => by
    cases h with
    | int b =>
      have e' : (match intsOf xs with
        | some bs => some (b :: bs)
        | none => none) = some _ := e
      split at e'
      · rename_i cs e1
        cases e'
        rw [ints_ok t e1]
        rfl
      · cases e'
    | _ => cases e
theorem maxL_mem : ∀ (m : Int) (ns : List Int), maxL m ns ∈ m :: ns ∧ ∀ y ∈ m :: ns, y ≤ maxL m ns
  | m, [] => ⟨by simp [maxL], fun y hy => by have : y = m := by simpa using hy
                                             rw [this]; exact Int.le_refl _⟩
  | m, x :: r => by
    obtain ⟨h1, h2⟩ := maxL_mem (if m < x then x else m) r
    have e : maxL m (x :: r) = maxL (if m < x then x else m) r := rfl
    rw [e]
    refine ⟨?_, fun y hy => ?_⟩
    · rcases List.mem_cons.mp h1 with q | q
      · rw [q]
        split
        · exact List.mem_cons_of_mem _ List.mem_cons_self
        · exact List.mem_cons_self
      · exact List.mem_cons_of_mem _ (List.mem_cons_of_mem _ q)
    · have hm := h2 _ List.mem_cons_self
      rcases List.mem_cons.mp hy with q | q
      · rw [q]; by_cases h : m < x
        · simp only [if_pos h] at hm ⊢; omega
        · simp only [if_neg h] at hm ⊢; omega
      · rcases List.mem_cons.mp q with q | q
        · rw [q]; by_cases h : m < x
          · simp only [if_pos h] at hm ⊢; omega
          · simp only [if_neg h] at hm ⊢; omega
        · exact h2 y (List.mem_cons_of_mem _ q)
theorem minL_mem : ∀ (m : Int) (ns : List Int), minL m ns ∈ m :: ns ∧ ∀ y ∈ m :: ns, minL m ns ≤ y
  | m, [] => ⟨by simp [minL], fun y hy => by have : y = m := by simpa using hy
                                             rw [this]; exact Int.le_refl _⟩
  | m, x :: r => by
    obtain ⟨h1, h2⟩ := minL_mem (if x < m then x else m) r
    have e : minL m (x :: r) = minL (if x < m then x else m) r := rfl
    rw [e]
    refine ⟨?_, fun y hy => ?_⟩
    · rcases List.mem_cons.mp h1 with q | q
      · rw [q]
        split
        · exact List.mem_cons_of_mem _ List.mem_cons_self
        · exact List.mem_cons_self
      · exact List.mem_cons_of_mem _ (List.mem_cons_of_mem _ q)
    · have hm := h2 _ List.mem_cons_self
      rcases List.mem_cons.mp hy with q | q
      · rw [q]; by_cases h : x < m
        · simp only [if_pos h] at hm ⊢; omega
        · simp only [if_neg h] at hm ⊢; omega
      · rcases List.mem_cons.mp q with q | q
        · rw [q]; by_cases h : x < m
          · simp only [if_pos h] at hm ⊢; omega
          · simp only [if_neg h] at hm ⊢; omega
        · exact h2 y (List.mem_cons_of_mem _ q)
/-- the argument is one list of the store that may be read -/
theorem one_lst {xs : List IV} {vs : List V} {n : Nat} {ys : List IV} (r : Rel K H ρ st) (t : RepVs K H ρ [.ref n] vs) (e : lstAt st n = some ys) : ∃ a ws, vs = [.ref a] ∧ SqL K H a ws ∧ RepVs K H ρ ys ws := by
  obtain ⟨v, rfl, p⟩ := t.one
  cases p with
  | ref h =>
    obtain ⟨ws, q, t⟩ := lstAt_sq r e h
    exact ⟨_, ws, rfl, q, t⟩
end
section
variable {X : Cx}
theorem call_lenI : CallR X (.builtin "len") (rCl X.K lenI) := by
  rintro pins s σ H vs us Q I rv ⟨ρ, st, xs, r, t, h⟩
  unfold lenI at h
  split at h
  · rename_i st s1
    obtain ⟨v, rfl, p⟩ := t.one
    cases p with
    | str hs =>
      obtain ⟨e, h⟩ := bif_some (P := PostO X.K ρ H Q) h post_none
      refine call_len_str pins s σ H _ us Q I rv ⟨_, rfl, line_ok (by rw [cps_len]; exact Nat.le_of_ble_eq_true e), ?_⟩
      rw [cps_len]
      exact h.here r (.int _)
  · rename_i st v hv
    split at h
    · rename_i ys e
      obtain ⟨x, rfl, p⟩ := t.one
      obtain ⟨a, ws, rfl, q, t'⟩ := seqOf_sq r p e
      exact call_len_seq pins s σ H _ us Q I rv ⟨a, ws, rfl, q, by rw [← t'.length]; exact h.here r (.int _)⟩
    · exact h.elim
  · exact h.elim
theorem call_absI : CallR X (.builtin "abs") (rCl X.K absI) := by
  rintro pins s σ H vs us Q I rv ⟨ρ, st, xs, r, t, h⟩
  unfold absI at h
  split at h
  · obtain ⟨v, rfl, p⟩ := t.one
    cases p
    exact call_abs pins s σ H _ us Q I rv ⟨_, rfl, h.here r (.int _)⟩
  · exact h.elim
theorem call_intI : CallR X (.type "int") (rCl X.K intI) := by
  rintro pins s σ H vs us Q I rv ⟨ρ, st, xs, r, t, h⟩
  unfold intI at h
  split at h
  · obtain ⟨v, rfl, p⟩ := t.one
    cases p
    exact call_int1 pins s σ H _ us Q I rv (.inl ⟨_, rfl, h.here r (.int _)⟩)
  · obtain ⟨v, rfl, p⟩ := t.one
    cases p
    exact call_int1 pins s σ H _ us Q I rv (.inr ⟨_, rfl, h.here r (.int _)⟩)
  · exact h.elim
theorem call_tupleI : CallR X (.type "tuple") (rCl X.K tupleI) := by
  rintro pins s σ H vs us Q I rv ⟨ρ, st, xs, r, t, h⟩
  unfold tupleI at h
  split at h
  · obtain ⟨v, rfl, p⟩ := t.one
    cases p with
    | tup ha t' => exact call_tuple_of pins s σ H _ us Q I rv ⟨_, _, rfl, .inr ⟨ha, h.here r (.tup ha t')⟩⟩
  · split at h
    · rename_i ys e
      obtain ⟨a, ws, rfl, q, t'⟩ := one_lst (xs := []) r t e
      exact call_tuple_of pins s σ H _ us Q I rv ⟨a, ws, rfl, .inl ⟨q, h.newTup r t'⟩⟩
    · exact h.elim
  · exact h.elim
theorem call_listI : CallR X (.type "list") (rCl X.K listI) := by
  rintro pins s σ H vs us Q I rv ⟨ρ, st, xs, r, t, h⟩
  unfold listI at h
  split at h
  · split at h
    · rename_i ys e
      obtain ⟨x, rfl, p⟩ := t.one
      obtain ⟨a, ws, rfl, q, t'⟩ := seqOf_sq r p e
      exact call_list_of pins s σ H _ us Q I rv ⟨a, ws, rfl, q, h.newLst r t'⟩
    · exact h.elim
  · exact h.elim
theorem call_allI (hc : X.calm = true) : CallR X (.builtin "all") (rCl X.K allI) := by
  rintro pins s σ H vs us Q I rv ⟨ρ, st, xs, r, t, h⟩
  unfold allI at h
  split at h
  · split at h
    · rename_i ys e
      obtain ⟨a, ws, rfl, q, t'⟩ := one_lst (xs := []) r t e
      split at h
      · rename_i bs e2
        rw [bools_ok t' e2] at q
        exact cr_all hc pins s σ H _ us Q I rv ⟨a, bs, rfl, q, h.here r (.bl _)⟩
      · exact h.elim
    · exact h.elim
  · exact h.elim
theorem call_anyI (hc : X.calm = true) : CallR X (.builtin "any") (rCl X.K anyI) := by
  rintro pins s σ H vs us Q I rv ⟨ρ, st, xs, r, t, h⟩
  unfold anyI at h
  split at h
  · split at h
    · rename_i ys e
      obtain ⟨a, ws, rfl, q, t'⟩ := one_lst (xs := []) r t e
      split at h
      · rename_i bs e2
        rw [bools_ok t' e2] at q
        exact cr_any hc pins s σ H _ us Q I rv ⟨a, bs, rfl, q, h.here r (.bl _)⟩
      · exact h.elim
    · exact h.elim
  · exact h.elim
theorem call_sumI (hc : X.calm = true) : CallR X (.builtin "sum") (rCl X.K sumI) := by
  rintro pins s σ H vs us Q I rv ⟨ρ, st, xs, r, t, h⟩
  unfold sumI at h
  split at h
  · split at h
    · rename_i ys e
      obtain ⟨a, ws, rfl, q, t'⟩ := one_lst (xs := []) r t e
      split at h
      · rename_i bs e2
        rw [ints_ok t' e2] at q
        exact cr_sum hc pins s σ H _ us Q I rv ⟨a, bs, rfl, q, h.here r (.int _)⟩
      · exact h.elim
    · exact h.elim
  · exact h.elim
theorem call_maxI (hc : X.calm = true) : CallR X (.builtin "max") (rCl X.K maxI) := by
  rintro pins s σ H vs us Q I rv ⟨ρ, st, xs, r, t, h⟩
  unfold maxI at h
  split at h
  · split at h
    · rename_i ys e
      obtain ⟨a, ws, rfl, q, t'⟩ := one_lst (xs := []) r t e
      split at h
      · rename_i m ns e2
        rw [ints_ok t' e2] at q
        obtain ⟨h1, h2⟩ := maxL_mem m ns
        refine cr_max hc pins s σ H _ us Q I rv ⟨a, m :: ns, rfl, q, by simp, fun z hz hle => ?_⟩
        have : z = maxL m ns := by
          have a1 := hle _ h1
          have a2 := h2 _ hz
          omega
        rw [this]
        exact h.here r (.int _)
      · exact h.elim
    · exact h.elim
  · exact h.elim
theorem call_minI (hc : X.calm = true) : CallR X (.builtin "min") (rCl X.K minI) := by
  rintro pins s σ H vs us Q I rv ⟨ρ, st, xs, r, t, h⟩
  unfold minI at h
  split at h
  · split at h
    · rename_i ys e
      obtain ⟨a, ws, rfl, q, t'⟩ := one_lst (xs := []) r t e
      split at h
      · rename_i m ns e2
        rw [ints_ok t' e2] at q
        obtain ⟨h1, h2⟩ := minL_mem m ns
        refine cr_min hc pins s σ H _ us Q I rv ⟨a, m :: ns, rfl, q, by simp, fun z hz hle => ?_⟩
        have : z = minL m ns := by
          have a1 := hle _ h1
          have a2 := h2 _ hz
          omega
        rw [this]
        exact h.here r (.int _)
      · exact h.elim
    · exact h.elim
  · exact h.elim
end
end PI

set_option Elab.async false
set_option linter.all false
set_option maxRecDepth 100000
/-! PI5: readings by the interpreter's answers; expressions. -/
namespace PI
open PySem PySem.Spec PyProof.Rows L2
open LamX (Tabs TabS CodeO ExtN)

/-! ### the heap goes on, tables may grow -/
structure ExtX (ρ : List Addr) (H : Hp) (ρ' : List Addr) (H' : Hp) : Prop where
  pre : ρ <+: ρ'
  keep : ∀ (a : Addr) (o : HO), H a = some o → a ∉ ρ → (∀ ps, o ≠ .tbl ps) → H' a = some o
  new : ∀ a ∈ ρ', a ∈ ρ ∨ H a = none ∨ ∃ ps, H a = some (.tbl ps)
theorem Ext.x {ρ ρ' : List Addr} {H H' : Hp} (e : Ext ρ H ρ' H') : ExtX ρ H ρ' H' := ⟨e.pre, fun a o h n _ => e.keep a o h n, fun a h => (e.new a h).imp id .inl⟩
theorem ExtX.refl (ρ : List Addr) (H : Hp) : ExtX ρ H ρ H := (Ext.refl ρ H).x
theorem ExtX.trans {ρ ρ1 ρ2 : List Addr} {H H1 H2 : Hp} (a : ExtX ρ H ρ1 H1) (b : ExtX ρ1 H1 ρ2 H2) : ExtX ρ H ρ2 H2 where
  pre := a.pre.trans b.pre
  keep := fun c o h n ht => b.keep c o (a.keep c o h n ht) (fun z => by
    rcases a.new c z with z | z | ⟨ps, z⟩
    · exact n z
    · rw [h] at z; cases z
    · rw [h] at z; cases z; exact ht ps rfl) ht
  new := fun c h => by
    by_cases hc : c ∈ ρ
    · exact .inl hc
    right
    cases q : H c with
    | none => exact .inl rfl
    | some o =>
      by_cases ht : ∃ ps, o = .tbl ps
      · obtain ⟨ps, rfl⟩ := ht
        exact .inr ⟨ps, rfl⟩
      · have ht' : ∀ ps, o ≠ .tbl ps := fun ps z => ht ⟨ps, z⟩
        have k := a.keep c o q hc ht'
        rcases b.new c h with h | h | ⟨ps, h⟩
        · rcases a.new c h with z | z | ⟨ps, z⟩
          · exact absurd z hc
          · rw [q] at z; cases z
          · rw [q] at z; cases z; exact absurd rfl (ht' ps)
        · rw [k] at h; cases h
        · rw [k] at h; cases h; exact absurd rfl (ht' ps)
section
variable {K : PySem.W.Frag} {H H' : Hp} {ρ ρ' : List Addr} {st : Sto}
theorem sqT_X (r : Rel K H ρ st) (e : ExtX ρ H ρ' H') {a : Addr} {vs : List V} (h : SqT K H a vs) : SqT K H' a vs := by
  rcases h with h | h
  · have hn : a ∉ ρ := fun z => by
      obtain ⟨_, _, _, _, q⟩ := r.at' z
      exact q.ne_tup vs h
    left
    rcases h with h | ⟨ob, h⟩
    · exact .inl (e.keep a _ h hn fun ps z => nomatch z)
    · exact .inr ⟨ob, e.keep a _ h hn fun ps z => nomatch z⟩
  · exact .inr h
mutual
theorem RepV.monoX (r : Rel K H ρ st) (e : ExtX ρ H ρ' H') : ∀ {v : IV} {x : V}, RepV K H ρ v x → RepV K H' ρ' v x
  | _, _, .non => .non
  | _, _, .bl b => .bl b
  | _, _, .int i => .int i
  | _, _, .str h => .str h
  | _, _, .tup h t => .tup (sqT_X r e h) (RepVs.monoX r e t)
  | _, _, .ref h => .ref (pre_get e.pre h)
theorem RepVs.monoX (r : Rel K H ρ st) (e : ExtX ρ H ρ' H') : ∀ {v : List IV} {x : List V}, RepVs K H ρ v x → RepVs K H' ρ' v x
  | _, _, .nil => .nil
  | _, _, .cons h t => .cons (RepV.monoX r e h) (RepVs.monoX r e t)
end
theorem RelEnv.monoX (r : Rel K H ρ st) (e : ExtX ρ H ρ' H') {env : IEnv} {σ : L2.St} (h : RelEnv K H ρ env σ) : RelEnv K H' ρ' env σ :=
  ⟨h.len, fun i v q => let ⟨x, a, b⟩ := h.get i v q; ⟨x, a, b.monoX r e⟩⟩
end

/-! ### the parameters of a reading: the tables of lambdas' code, what else is known of the heap -/
structure Par (K : PySem.W.Frag) where
  T : List (Addr × Str)
  cm : Nat → Addr
  sd : List Addr → Hp → Prop
  mono : ∀ {ρ : List Addr} {H : Hp} {ρ' : List Addr} {H' : Hp} {st : Sto}, Rel K H ρ st → ExtX ρ H ρ' H' → sd ρ H → sd ρ' H'
structure RelX {K : PySem.W.Frag} (P : Par K) (H : Hp) (ρ : List Addr) (st : Sto) : Prop where
  r : Rel K H ρ st
  tabs : Tabs P.T H
  sd : P.sd ρ H
theorem Tabs.ext' {K : PySem.W.Frag} {T : List (Addr × Str)} {H H' : Hp} {ρ ρ' : List Addr} {st : Sto} (t : Tabs T H) (r : Rel K H ρ st) (e : Ext ρ H ρ' H') : Tabs T H' := by
  have nf : ∀ (a : Addr) (o : HO), H a = some o → (∀ xs, o ≠ .lst xs) → (∀ ob xs, o ≠ .frz ob (.lst xs)) → a ∉ ρ := fun a o h h1 h2 z => by
    obtain ⟨_, ob, _, _, q⟩ := r.at' z
    cases ob with
    | lst xs => obtain ⟨vs, e, _⟩ := q; rw [h] at e; cases e; exact h1 _ rfl
    | frl xs =>
      obtain ⟨vs, e | ⟨ob, e⟩, _⟩ := q
      · rw [h] at e; cases e; exact h1 _ rfl
      · rw [h] at e; cases e; exact h2 _ _ rfl
  intro p hp
  obtain ⟨ps, h1, h2, h3⟩ := t p hp
  refine ⟨ps, e.keep _ _ h1 (nf _ _ h1 (fun _ z => nomatch z) fun _ _ z => nomatch z), h2, fun pos cv hc => ?_⟩
  obtain ⟨c, e1, e2⟩ := h3 pos cv hc
  refine ⟨c, e1, e.keep _ _ e2 (nf _ _ e2 (fun _ z => ?_) fun _ _ z => ?_)⟩
  · unfold CodeO at z; cases z
  · unfold CodeO at z; cases z
theorem RelX.ext {K : PySem.W.Frag} {P : Par K} {H H' : Hp} {ρ ρ' : List Addr} {st st' : Sto} (h : RelX P H ρ st) (e : Ext ρ H ρ' H') (r : Rel K H' ρ' st') : RelX P H' ρ' st' := ⟨r, Tabs.ext' h.tabs h.r e, P.mono h.r e.x h.sd⟩

/-! ### readings -/
section
variable {α β γ δ : Type}
/-- what an exception is: its class, its own dict -/
abbrev RepX := IX → Value → Option Addr → List Addr → Hp → Prop
/-- attributes by name -/
inductive RepF (K : PySem.W.Frag) (H : Hp) (ρ : List Addr) : List (Str × IV) → List (Str × V) → Prop
  | nil : RepF K H ρ [] []
  | cons {n : Str} {x : IV} {v : V} {fs : List (Str × IV)} {vs : List (Str × V)} (h : RepV K H ρ x v) (t : RepF K H ρ fs vs) : RepF K H ρ ((n, x) :: fs) ((n, v) :: vs)
def RXc {K : PySem.W.Frag} (P : Par K) : RepX := fun x c d ρ H => c = .ref (P.cm x.cls) ∧ ∃ (dd : Addr) (vs : List (Str × V)), d = some dd ∧ H dd = some (.xd vs) ∧ RepF K H ρ x.fs vs
variable {K : PySem.W.Frag}
def Post (P : Par K) (W : WX) (Rp : Hp → List Addr → α → β → Prop) (ρ : List Addr) (H : Hp) (σ : L2.St) (Q : β → Hp → Prop) : RE α → Prop
  | .ok v st => ∀ (ρ' : List Addr) (H' : Hp) (x : β), ExtX ρ H ρ' H' → RelX P H' ρ' st → Rp H' ρ' v x → Q x H'
  | .exc e st => ∀ (ρ' : List Addr) (H' : Hp) (c : Value) (d : Option Addr), ExtX ρ H ρ' H' → RelX P H' ρ' st → RXc P e c d ρ' H' → W c d σ H'
  | .bad => False
variable {P : Par K} {W : WX} {Rp : Hp → List Addr → α → β → Prop} {Rq : Hp → List Addr → γ → δ → Prop} {ρ ρ1 : List Addr} {H H1 : Hp} {σ : L2.St}
theorem Post.ext {Q : β → Hp → Prop} {m : RE α} (e : ExtX ρ H ρ1 H1) (h : Post P W Rp ρ H σ Q m) : Post P W Rp ρ1 H1 σ Q m := by
  cases m with
  | ok v st => exact fun ρ' H' x e' => h ρ' H' x (e.trans e')
  | exc x st => exact fun ρ' H' c d e' => h ρ' H' c d (e.trans e')
  | bad => exact h
theorem Post.bind {Q : δ → Hp → Prop} {m : RE α} {k : α → Sto → RE γ} (h : Post P W Rq ρ H σ Q (m.bind k)) :
    Post P W Rp ρ H σ (fun x H1 => ∃ (ρ1 : List Addr) (st1 : Sto) (v : α), ExtX ρ H ρ1 H1 ∧ RelX P H1 ρ1 st1 ∧ Rp H1 ρ1 v x ∧ Post P W Rq ρ1 H1 σ Q (k v st1)) m := by
  cases m with
  | ok v st => exact fun ρ' H' x e r p => ⟨ρ', st, v, e, r, p, Post.ext e h⟩
  | exc x st => exact h
  | bad => exact h
theorem Post.mono {Q Q' : β → Hp → Prop} {m : RE α} (h : Post P W Rp ρ H σ Q m) (f : ∀ x H', Q x H' → Q' x H') : Post P W Rp ρ H σ Q' m := by
  cases m with
  | ok v st => exact fun ρ' H' x e r p => f _ _ (h ρ' H' x e r p)
  | exc x st => exact h
  | bad => exact h
theorem Post.here {Q : β → Hp → Prop} {v : α} {st : Sto} {x : β} (h : Post P W Rp ρ H σ Q (.ok v st)) (r : RelX P H ρ st) (p : Rp H ρ v x) : Q x H := h ρ H x (ExtX.refl _ _) r p
theorem Post.noBad {Q : β → Hp → Prop} (h : Post P W Rp ρ H σ Q .bad) : False := h
abbrev RpV (K : PySem.W.Frag) : Hp → List Addr → IV → V → Prop := fun H ρ v x => RepV K H ρ v x
abbrev RpVs (K : PySem.W.Frag) : Hp → List Addr → List IV → List V → Prop := fun H ρ v x => RepVs K H ρ v x
abbrev RpB : Hp → List Addr → Bool → Bool → Prop := fun _ _ v x => v = x
theorem Post.ofO {Q : VK} {st : Sto} {o : RO} (h : Post P W (RpV K) ρ H σ Q (RE.ofO o)) (r : RelX P H ρ st) : PostO K ρ H Q o := by
  cases o with
  | none => exact h
  | some p =>
    obtain ⟨v, s⟩ := p
    exact fun ρ' H' x e r' q => h ρ' H' x e.x (r.ext e r') q
end
abbrev SemE := IEnv → Sto → RE IV
abbrev SemT := IEnv → Sto → RE Bool
abbrev SemA := IEnv → Sto → RE (List IV)
def tE {K : PySem.W.Frag} (P : Par K) (W : WX) (r : SemE) : TE := fun σ H Q => ∃ ρ env st, RelX P H ρ st ∧ RelEnv K H ρ env σ ∧ Post P W (RpV K) ρ H σ Q (r env st)
def tT {K : PySem.W.Frag} (P : Par K) (W : WX) (r : SemT) : TT := fun σ H Q => ∃ ρ env st, RelX P H ρ st ∧ RelEnv K H ρ env σ ∧ Post P W RpB ρ H σ Q (r env st)
def tA {K : PySem.W.Frag} (P : Par K) (W : WX) (r : SemA) : TA := fun σ H Q => ∃ ρ env st, RelX P H ρ st ∧ RelEnv K H ρ env σ ∧ Post P W (RpVs K) ρ H σ Q (r env st)

/-! ### what expressions give -/
def rVar (i : Nat) : SemE := fun env st => match env[i]? with
  | some (some v) => .ok v st
  | _ => .bad
def rC (v : IV) : SemE := fun _ st => .ok v st
def rBin (f : IV → IV → Sto → RO) (a b : SemE) : SemE := fun env st => (a env st).bind fun x st1 => (b env st1).bind fun y st2 => RE.ofO (f x y st2)
def rUn (f : IV → Sto → RO) (a : SemE) : SemE := fun env st => (a env st).bind fun x st1 => RE.ofO (f x st1)
def rCall (f : List IV → Sto → RO) (a : SemA) : SemE := fun env st => (a env st).bind fun x st1 => RE.ofO (f x st1)
def rDef (f : List IV → Sto → RE IV) (a : SemA) : SemE := fun env st => (a env st).bind fun x st1 => f x st1
def rNil : SemA := fun _ st => .ok [] st
def rCons (a : SemE) (b : SemA) : SemA := fun env st => (a env st).bind fun x st1 => (b env st1).bind fun xs st2 => .ok (x :: xs) st2
def rTup (a : SemA) : SemE := fun env st => (a env st).bind fun xs st1 => bif Nat.ble xs.length lineI then .ok (.tup xs) st1 else .bad
def rLst (a : SemA) : SemE := fun env st => (a env st).bind fun xs st1 => bif Nat.ble xs.length lineI then RE.ofO (st1.allocO (.lst xs)) else .bad
def rTru (a : SemE) : SemT := fun env st => (a env st).bind fun x st1 => match truI st1 x with
  | some b => .ok b st1
  | none => .bad
def rAnd (a b : SemE) : SemE := fun env st => (a env st).bind fun x st1 => match truI st1 x with
  | some true => b env st1
  | some false => .ok x st1
  | none => .bad
def rOr (a b : SemE) : SemE := fun env st => (a env st).bind fun x st1 => match truI st1 x with
  | some true => .ok x st1
  | some false => b env st1
  | none => .bad
def rNot (a : SemE) : SemE := fun env st => (a env st).bind fun x st1 => match truI st1 x with
  | some b => .ok (.bl (!b)) st1
  | none => .bad
def rIfE (c : SemT) (a b : SemE) : SemE := fun env st => (c env st).bind fun k st1 => bif k then a env st1 else b env st1
def rTAnd (a b : SemT) : SemT := fun env st => (a env st).bind fun k st1 => bif k then b env st1 else .ok false st1
def rTOr (a b : SemT) : SemT := fun env st => (a env st).bind fun k st1 => bif k then .ok true st1 else b env st1
def rTNot (a : SemT) : SemT := fun env st => (a env st).bind fun k st1 => .ok (!k) st1
def rTBl (a : SemE) : SemT := fun env st => (a env st).bind fun x st1 => match x with
  | .bl b => .ok b st1
  | _ => .bad
/-- a op b op' c -/
def rChain (f g : IV → IV → Sto → RO) (a b c : SemE) : SemE := fun env st => (a env st).bind fun x st1 => (b env st1).bind fun y st2 => (RE.ofO (f x y st2)).bind fun z st3 => match z with
  | .bl true => (c env st3).bind fun u st4 => RE.ofO (g y u st4)
  | .bl false => .ok (.bl false) st3
  | _ => .bad
def rPart (a : SemE) : IEnv → Sto → RE (Option Int) := fun env st => (a env st).bind fun x st1 => match x with
  | .int i => .ok (some i) st1
  | _ => .bad
def rNoPart : IEnv → Sto → RE (Option Int) := fun _ st => .ok none st
def rSl (a : SemE) (lo hi : IEnv → Sto → RE (Option Int)) : SemE := fun env st => (a env st).bind fun x st1 => (lo env st1).bind fun l st2 => (hi env st2).bind fun h st3 => RE.ofO (slcI x l h st3)

/-! ### they are sound -/
section
variable {X : Cx} {P : Par X.K} {W : WX} {a b c : Expr} {ra rb rc : SemE} {es : List Expr} {rs : SemA} {pos : Pos} {σ : L2.St} {H : Hp}
abbrev SE (X : Cx) (P : Par X.K) (W : WX) (e : Expr) (r : SemE) : Prop := PE X e (tE P W r)
abbrev SC (X : Cx) (P : Par X.K) (W : WX) (e : Expr) (r : SemT) : Prop := PT X e (tT P W r)
abbrev SW (X : Cx) (P : Par X.K) (W : WX) (e : Expr) (r : SemT) : Prop := PW X e (tT P W r)
abbrev SA (X : Cx) (P : Par X.K) (W : WX) (e : List Expr) (r : SemA) : Prop := PA X e (tA P W r)
theorem _root_.L2.PW.of {X : Cx} {e : Expr} {t t' : TT} (h : PW X e t) (f : ∀ σ H Q, t' σ H Q → t σ H Q) : PW X e t' := ⟨fun w pins s σ H Q I q => h.run w pins s σ H Q I (f σ H Q q)⟩
theorem se_var {i : Nat} {x : Str} (hN : X.N[i]? = some x) (hv : Vis X.env.scope x) (hd : (x == ("__debug__" : Str)) = false := by decide) (hcd : (x == ("__classdict__" : Str)) = false := by decide) : SE X P W (.Name x pos) (rVar i) :=
  (pe_var hN hv hd hcd).of fun σ H Q ⟨ρ, env, st, r, re, h⟩ => by
    unfold rVar at h
    split at h
    · rename_i v e
      obtain ⟨x, e1, p⟩ := re.get _ _ e
      exact ⟨x, e1, h.here r p⟩
    · exact h.elim
theorem tC_of {v : IV} {x : V} (hg : ∀ H ρ, RepV X.K H ρ v x) {Q : VK} (h : tE P W (rC v) σ H Q) : tC x σ H Q := by
  obtain ⟨ρ, env, st, r, re, h⟩ := h
  exact h.here r (hg _ _)
theorem se_int {i : Int} {j} : SE X P W (.Constant (.int i) j pos) (rC (.int i)) := pe_int.of fun _ _ _ => tC_of fun _ _ => .int i
theorem se_bl {i : Bool} {j} : SE X P W (.Constant (.bool i) j pos) (rC (.bl i)) := pe_bl.of fun _ _ _ => tC_of fun _ _ => .bl i
theorem se_non {j} : SE X P W (.Constant .none j pos) (rC .non) := pe_non.of fun _ _ _ => tC_of fun _ _ => .non
theorem se_str {s : List Nat} {x : Str} {j} (hx : x = ⟨s.toArray⟩) (h : s.all (fun c => decide (c < 0x110000)) = true) : SE X P W (.Constant (.str x) j pos) (rC (.str s)) := by
  subst hx
  exact pe_str.of fun _ _ _ => tC_of fun _ _ => .str h
theorem se_glob {x : Str} {v : V} {c : IV} {u : Value} (hg : Gl X x) (hm : X.mg x = some u) (r : RelV v u) (hc : ∀ H ρ, RepV X.K H ρ c v) (hd : (x == ("__debug__" : Str)) = false := by decide) : SE X P W (.Name x pos) (rC c) :=
  (pe_glob hg hm r hd).of fun _ _ _ => tC_of hc
theorem tOp_of {f : IV → IV → Sto → RO} {Q : VK} (h : tE P W (rBin f ra rb) σ H Q) : tOp (rB X.K f) (tE P W ra) (tE P W rb) σ H Q := by
  obtain ⟨ρ, env, st, r, re, h⟩ := h
  refine ⟨ρ, env, st, r, re, h.bind.mono fun x H1 ⟨ρ1, st1, v, e1, r1, p1, h1⟩ => ?_⟩
  refine ⟨ρ1, env, st1, r1, re.monoX r.r e1, h1.bind.mono fun y H2 ⟨ρ2, st2, w, e2, r2, p2, h2⟩ => ?_⟩
  exact ⟨ρ2, st2, v, w, r2.r, p1.monoX r1.r e2, p2, h2.ofO r2⟩
theorem se_bin {op : Operator} {f : IV → IV → Sto → RO} (ho : OpR X (binaryOp op) (rB X.K f)) (ha : SE X P W a ra) (hb : SE X P W b rb) : SE X P W (.BinOp a op b pos) (rBin f ra rb) := (pe_op ho ha hb).of fun _ _ _ => tOp_of
theorem se_cmp {op : CmpOp} {f : IV → IV → Sto → RO} (ho : OpR X (compareOp op) (rB X.K f)) (ha : SE X P W a ra) (hb : SE X P W b rb) (hm : behindInMarks op b = false) : SE X P W (.Compare a [op] [b] pos) (rBin f ra rb) := (pe_cmpR ho ha hb hm).of fun _ _ _ => tOp_of
theorem tUn_of {f : IV → Sto → RO} {Q : VK} (h : tE P W (rUn f ra) σ H Q) : tUn (rU1 X.K f) (tE P W ra) σ H Q := by
  obtain ⟨ρ, env, st, r, re, h⟩ := h
  refine ⟨ρ, env, st, r, re, h.bind.mono fun x H1 ⟨ρ1, st1, v, e1, r1, p1, h1⟩ => ?_⟩
  exact ⟨ρ1, st1, v, r1.r, p1, h1.ofO r1⟩
theorem se_un {op : UnaryOp} {f : IV → Sto → RO} (ho : UnR X (unaryOp op) (rU1 X.K f)) (ha : SE X P W a ra) : SE X P W (.UnaryOp op a pos) (rUn f ra) := (pe_un ho ha).of fun _ _ _ => tUn_of
theorem se_ix (ha : SE X P W a ra) (hb : SE X P W b rb) (hs : PlainIx b) : SE X P W (.Subscript a b pos) (rBin idxI ra rb) := (pe_ix ix_I ha hb hs).of fun _ _ _ => tOp_of
theorem sa_nil : SA X P W [] rNil := pa_nil.of fun σ H Q ⟨ρ, env, st, r, re, h⟩ => h.here r .nil
theorem sa_cons (ha : SE X P W a ra) (hr : SA X P W es rs) (hs : starEach (a :: es) X.env = (false, eval a X.env) :: starEach es X.env := by rfl) : SA X P W (a :: es) (rCons ra rs) :=
  (pa_cons ha hr hs).of fun σ H Q ⟨ρ, env, st, r, re, h⟩ => by
    refine ⟨ρ, env, st, r, re, h.bind.mono fun x H1 ⟨ρ1, st1, v, e1, r1, p1, h1⟩ => ?_⟩
    refine ⟨ρ1, env, st1, r1, re.monoX r.r e1, h1.bind.mono fun y H2 ⟨ρ2, st2, w, e2, r2, p2, h2⟩ => ?_⟩
    exact h2.here r2 (.cons (p1.monoX r1.r e2) p2)
theorem bif_bad {α β : Type} {K : PySem.W.Frag} {P : Par K} {W : WX} {Rp : Hp → List Addr → α → β → Prop} {ρ : List Addr} {H : Hp} {σ : L2.St} {Q : β → Hp → Prop} {k : Bool} {m : RE α} (h : Post P W Rp ρ H σ Q (bif k then m else .bad)) : k = true ∧ Post P W Rp ρ H σ Q m := by
  cases k with
  | true => exact ⟨rfl, h⟩
  | false => exact h.elim
theorem se_tup {x1} (h : SA X P W es rs) : SE X P W (.Tuple es x1 pos) (rTup rs) :=
  (pe_tup h).of fun σ H Q ⟨ρ, env, st, r, re, h⟩ => by
    refine ⟨ρ, env, st, r, re, h.bind.mono fun x H1 ⟨ρ1, st1, v, e1, r1, p1, h1⟩ => ?_⟩
    obtain ⟨e, h1⟩ := bif_bad h1
    have q : PostO X.K ρ1 H1 Q (some (.tup v, st1)) := Post.ofO (o := some (.tup v, st1)) h1 r1
    exact ⟨line_ok (by rw [← p1.length]; exact Nat.le_of_ble_eq_true e), q.newTup r1.r p1⟩
theorem se_lst (h : SA X P W es rs) : SE X P W (.List es pos) (rLst rs) :=
  (pe_lst h).of fun σ H Q ⟨ρ, env, st, r, re, h⟩ => by
    refine ⟨ρ, env, st, r, re, h.bind.mono fun x H1 ⟨ρ1, st1, v, e1, r1, p1, h1⟩ => ?_⟩
    obtain ⟨e, h1⟩ := bif_bad h1
    exact ⟨line_ok (by rw [← p1.length]; exact Nat.le_of_ble_eq_true e), (h1.ofO r1).newLst r1.r p1⟩
theorem tCB_of {f : List IV → Sto → RO} {Q : VK} (h : tE P W (rCall f rs) σ H Q) : tCB (rCl X.K f) (tA P W rs) σ H Q := by
  obtain ⟨ρ, env, st, r, re, h⟩ := h
  refine ⟨ρ, env, st, r, re, h.bind.mono fun x H1 ⟨ρ1, st1, v, e1, r1, p1, h1⟩ => ?_⟩
  exact ⟨ρ1, st1, v, r1.r, p1, h1.ofO r1⟩
end
end PI

set_option Elab.async false
set_option linter.all false
set_option maxRecDepth 100000
/-! PI6: calls, tests, and, or, slices. -/
namespace PI
open PySem PySem.Spec PyProof.Rows L2
open LamX (Tabs TabS CodeO ExtN)
section
variable {X : Cx} {P : Par X.K} {W : WX} {a b c : Expr} {ra rb rc : SemE} {ta tb : SemT} {es rest : List Expr} {rs : SemA} {pos p : Pos} {σ : L2.St} {H : Hp} {x : Str}
theorem se_callB {id : String} {f : List IV → Sto → RO} (hc : CallR X (.builtin id) (rCl X.K f)) (hg : Gl X x) (hm : X.mg x = none) (hv : bootBuiltins x = some (.builtin id)) (ha : SA X P W (a :: es) rs) (hn : x ≠ "__name__" := by decide) (hdb : (x == ("__debug__" : Str)) = false := by decide)
    (he : starEach (a :: es) X.env = (false, eval a X.env) :: starEach es X.env := by rfl) (hpl : (backTo pos (starEach es X.env)).any (·.1) = false := by rfl) : SE X P W (.Call (.Name x p) (a :: es) [] pos) (rCall f rs) :=
  (pe_callB hc hg hm hv ha hn hdb he hpl).of fun _ _ _ => tCB_of
theorem se_callTy {id : String} {f : List IV → Sto → RO} (hc : CallR X (.type id) (rCl X.K f)) (hg : Gl X x) (hm : X.mg x = none) (hv : bootBuiltins x = some (.type id)) (ha : SA X P W (a :: es) rs) (hn : x ≠ "__name__" := by decide) (hdb : (x == ("__debug__" : Str)) = false := by decide)
    (he : starEach (a :: es) X.env = (false, eval a X.env) :: starEach es X.env := by rfl) (hpl : (backTo pos (starEach es X.env)).any (·.1) = false := by rfl) : SE X P W (.Call (.Name x p) (a :: es) [] pos) (rCall f rs) :=
  (pe_callTy hc hg hm hv ha hn hdb he hpl).of fun _ _ _ => tCB_of

/-! ### the text's own defs -/
/-- a def's promise by what it gives -/
def spI (K : PySem.W.Frag) (T : List (Addr × Str) × (Nat → Addr)) (n : Nat) (f : List IV → Sto → RE IV) : Sp := fun vs H Q E =>
  vs.length = n ∧ ∃ (P : Par K) (ρ : List Addr) (st : Sto) (xs : List IV), (P.T, P.cm) = T ∧ RelX P H ρ st ∧ RepVs K H ρ xs vs ∧ Post P (fun c d _ H' => E c d H') (RpV K) ρ H [] Q (f xs st)
theorem Post.wx {α β : Type} {K : PySem.W.Frag} {P : Par K} {W W' : WX} {Rp : Hp → List Addr → α → β → Prop} {ρ : List Addr} {H : Hp} {σ σ' : L2.St} {Q : β → Hp → Prop} {m : RE α} (h : Post P W Rp ρ H σ Q m) (f : ∀ c d H', W c d σ H' → W' c d σ' H') : Post P W' Rp ρ H σ' Q m := by
  cases m with
  | ok v st => exact h
  | exc x st => exact fun ρ' H' c d e r q => f _ _ _ (h ρ' H' c d e r q)
  | bad => exact h
theorem se_def {f : Addr} {fd : FuncData} {ps : List Str} {g : List IV → Sto → RE IV} {k : Nat} (F : FnOk X.prog X.w X.K X.mg X.base (L2.CX X.prog X.w) k f fd ps (spI X.K (P.T, P.cm) ps.length g)) (tk : Takes X W) (hr : Room k X.A) (hg : Gl X x) (hm : X.mg x = some (.ref f)) (hk : PySem.W.keepIn X.K (.ref f) = true) (hb : Binds X.K fd ps [])
    {n : Nat} (hl : ps.length = n) (ha : SA X P W (a :: es) rs) (hlen : ∀ σ H Q, tA P W rs σ H Q → tA P W rs σ H fun vs H1 => vs.length = ps.length ∧ Q vs H1) (hdb : (x == ("__debug__" : Str)) = false := by decide) (he : starEach (a :: es) X.env = (false, eval a X.env) :: starEach es X.env := by rfl) (hpl : (backTo pos (starEach es X.env)).any (·.1) = false := by rfl) :
    SE X P W (.Call (.Name x p) (a :: es) [] pos) (rDef g rs) :=
  (pe_callS F hr hg hm hk hb (fun σ => passAt tk σ) ha hdb he hpl).of fun σ H Q h => by
    have h' : tA P W rs σ H fun vs H1 => ∃ (ρ1 : List Addr) (st1 : Sto) (v : List IV), RelX P H1 ρ1 st1 ∧ RepVs X.K H1 ρ1 v vs ∧ Post P W (RpV X.K) ρ1 H1 σ Q (g v st1) := by
      obtain ⟨ρ, env, st, r, re, h⟩ := h
      exact ⟨ρ, env, st, r, re, h.bind.mono fun x H1 ⟨ρ1, st1, v, e1, r1, p1, h1⟩ => ⟨ρ1, st1, v, r1, p1, h1⟩⟩
    obtain ⟨ρ, env, st, r, re, h2⟩ := hlen σ H _ h'
    refine ⟨ρ, env, st, r, re, h2.mono fun vs H1 ⟨hl, ρ1, st1, v, r1, p1, h1⟩ => ?_⟩
    exact ⟨hl, P, ρ1, st1, v, rfl, r1, p1, h1.wx fun c d H' w => w⟩
/-- how many arguments -/
def Many (P : Par X.K) (W : WX) (n : Nat) (rs : SemA) : Prop := ∀ σ H Q, tA P W rs σ H Q → tA P W rs σ H fun vs H1 => vs.length = n ∧ Q vs H1
theorem many_nil : Many (X := X) P W 0 rNil := fun σ H Q ⟨ρ, env, st, r, re, h⟩ => ⟨ρ, env, st, r, re, fun ρ' H' x e r' p => by
  cases p
  exact ⟨rfl, h ρ' H' [] e r' .nil⟩⟩
theorem RE.bind_ok {α β : Type} {m : RE α} {k : α → Sto → RE β} {v : β} {st : Sto} (h : m.bind k = .ok v st) : ∃ x st1, m = .ok x st1 ∧ k x st1 = .ok v st := by
  cases m with
  | ok x s => exact ⟨x, s, rfl, h⟩
  | exc x s => cases h
  | bad => cases h
/-- each answer of rs has n items -/
def LenN (n : Nat) (rs : SemA) : Prop := ∀ env st v st', rs env st = .ok v st' → v.length = n
theorem len_nil : LenN 0 rNil := fun env st v st' h => by cases h; rfl
theorem len_cons {n : Nat} (h : LenN n rs) : LenN (n + 1) (rCons ra rs) := fun env st v st' e => by
  obtain ⟨x, s1, _, e⟩ := RE.bind_ok e
  obtain ⟨xs, s2, e2, e⟩ := RE.bind_ok e
  cases e
  rw [List.length_cons, h _ _ _ _ e2]
theorem LenN.many {n : Nat} (h : LenN n rs) : Many (X := X) P W n rs := fun σ H Q ⟨ρ, env, st, r, re, q⟩ => by
  refine ⟨ρ, env, st, r, re, ?_⟩
  cases e : rs env st with
  | ok v s =>
    rw [e] at q
    exact fun ρ' H' x e' r' p => ⟨by rw [← RepVs.length p]; exact h _ _ _ _ e, q ρ' H' x e' r' p⟩
  | exc x s => rw [e] at q; exact q
  | bad => rw [e] at q; exact q

/-! ### tests -/
theorem sc_truth (ha : SE X P W a ra) (he : ∀ whole, isTrue a X.env whole = (do let v ← whole; standAt a.pos; holding [v] (truthy v))) : SC X P W a (rTru ra) :=
  (pt_truth ha he).of fun σ H Q ⟨ρ, env, st, r, re, h⟩ => by
    refine ⟨ρ, env, st, r, re, h.bind.mono fun x H1 ⟨ρ1, st1, v, e1, r1, p1, h1⟩ => ?_⟩
    split at h1
    · rename_i b e
      exact ⟨b, truI_ok r1.r p1 e, h1.here r1 rfl⟩
    · exact h1.elim
theorem sc_cmp {op : CmpOp} {f : IV → IV → Sto → RO} (ho : OpR X (compareOp op) (rB X.K f)) (ha : SE X P W a ra) (hb : SE X P W b rb) (hm : behindInMarks op b = false) : SC X P W (.Compare a [op] [b] pos) (rTBl (rBin f ra rb)) :=
  (pt_cmpR ho ha hb hm).of fun σ H Q ⟨ρ, env, st, r, re, h⟩ => by
    refine tOp_of ⟨ρ, env, st, r, re, h.bind.mono fun x H1 ⟨ρ1, st1, v, e1, r1, p1, h1⟩ => ?_⟩
    cases p1 with
    | bl k => exact ⟨k, rfl, h1.here r1 rfl⟩
    | _ => exact h1.elim
theorem sw_and1 (ha : SC X P W a ta) : SW X P W (.BoolOp .And [a] pos) ta := pw_and1 ha
theorem sw_or1 (ha : SC X P W a ta) : SW X P W (.BoolOp .Or [a] pos) ta := pw_or1 ha
theorem sw_and (ha : SC X P W a ta) (hb : SW X P W (.BoolOp .And (b :: rest) pos) tb) : SW X P W (.BoolOp .And (a :: b :: rest) pos) (rTAnd ta tb) :=
  (pw_and ha hb).of fun σ H Q ⟨ρ, env, st, r, re, h⟩ => by
    refine ⟨ρ, env, st, r, re, h.bind.mono fun x H1 ⟨ρ1, st1, v, e1, r1, p1, h1⟩ => ?_⟩
    obtain rfl : v = x := p1
    cases v with
    | true => exact ⟨ρ1, env, st1, r1, re.monoX r.r e1, h1⟩
    | false => exact h1.here r1 rfl
theorem sw_or (ha : SC X P W a ta) (hb : SW X P W (.BoolOp .Or (b :: rest) pos) tb) : SW X P W (.BoolOp .Or (a :: b :: rest) pos) (rTOr ta tb) :=
  (pw_or ha hb).of fun σ H Q ⟨ρ, env, st, r, re, h⟩ => by
    refine ⟨ρ, env, st, r, re, h.bind.mono fun x H1 ⟨ρ1, st1, v, e1, r1, p1, h1⟩ => ?_⟩
    obtain rfl : v = x := p1
    cases v with
    | true => exact h1.here r1 rfl
    | false => exact ⟨ρ1, env, st1, r1, re.monoX r.r e1, h1⟩
theorem sc_not (ha : SC X P W a ta) : SC X P W (.UnaryOp .Not a pos) (rTNot ta) :=
  (pt_not ha).of fun σ H Q ⟨ρ, env, st, r, re, h⟩ => by
    refine ⟨ρ, env, st, r, re, h.bind.mono fun x H1 ⟨ρ1, st1, v, e1, r1, p1, h1⟩ => ?_⟩
    obtain rfl : v = x := p1
    exact h1.here r1 rfl
theorem se_ifE (hc : SC X P W c tb) (ha : SE X P W a ra) (hb : SE X P W b rb) : SE X P W (.IfExp c a b pos) (rIfE tb ra rb) :=
  (pe_ifExp hc ha hb).of fun σ H Q ⟨ρ, env, st, r, re, h⟩ => by
    refine ⟨ρ, env, st, r, re, h.bind.mono fun x H1 ⟨ρ1, st1, v, e1, r1, p1, h1⟩ => ?_⟩
    obtain rfl : v = x := p1
    cases v with
    | true => exact ⟨ρ1, env, st1, r1, re.monoX r.r e1, h1⟩
    | false => exact ⟨ρ1, env, st1, r1, re.monoX r.r e1, h1⟩
theorem se_one {op} (h : SE X P W a ra) : SE X P W (.BoolOp op [a] pos) ra := pe_one h
theorem se_and (ha : SE X P W a ra) (hb : SE X P W (.BoolOp .And (b :: rest) pos) rb) : SE X P W (.BoolOp .And (a :: b :: rest) pos) (rAnd ra rb) :=
  (pe_andT ha hb).of fun σ H Q ⟨ρ, env, st, r, re, h⟩ => by
    refine ⟨ρ, env, st, r, re, h.bind.mono fun x H1 ⟨ρ1, st1, v, e1, r1, p1, h1⟩ => ?_⟩
    split at h1
    · rename_i e
      exact ⟨true, truI_ok r1.r p1 e, ⟨ρ1, env, st1, r1, re.monoX r.r e1, h1⟩⟩
    · rename_i e
      exact ⟨false, truI_ok r1.r p1 e, h1.here r1 p1⟩
    · exact h1.elim
theorem se_or (ha : SE X P W a ra) (hb : SE X P W (.BoolOp .Or (b :: rest) pos) rb) : SE X P W (.BoolOp .Or (a :: b :: rest) pos) (rOr ra rb) :=
  (pe_orT ha hb).of fun σ H Q ⟨ρ, env, st, r, re, h⟩ => by
    refine ⟨ρ, env, st, r, re, h.bind.mono fun x H1 ⟨ρ1, st1, v, e1, r1, p1, h1⟩ => ?_⟩
    split at h1
    · rename_i e
      exact ⟨true, truI_ok r1.r p1 e, h1.here r1 p1⟩
    · rename_i e
      exact ⟨false, truI_ok r1.r p1 e, ⟨ρ1, env, st1, r1, re.monoX r.r e1, h1⟩⟩
    · exact h1.elim
theorem se_not (ha : SE X P W a ra) : SE X P W (.UnaryOp .Not a pos) (rNot ra) :=
  (pe_notT ha).of fun σ H Q ⟨ρ, env, st, r, re, h⟩ => by
    refine ⟨ρ, env, st, r, re, h.bind.mono fun x H1 ⟨ρ1, st1, v, e1, r1, p1, h1⟩ => ?_⟩
    split at h1
    · rename_i k e
      exact ⟨k, truI_ok r1.r p1 e, h1.here r1 (.bl _)⟩
    · exact h1.elim
/-! ### chains, slices -/
theorem PostO.mono {K : PySem.W.Frag} {ρ : List Addr} {H : Hp} {Q Q' : VK} {o : RO} (h : PostO K ρ H Q o) (f : ∀ x H', Q x H' → Q' x H') : PostO K ρ H Q' o := by
  cases o with
  | none => exact h
  | some p => exact fun ρ' H' x e r q => f _ _ (h ρ' H' x e r q)
theorem tChain_of {f g : IV → IV → Sto → RO} {Q : VK} (h : tE P W (rChain f g ra rb rc) σ H Q) : tChain (rB X.K f) (rB X.K g) (tE P W ra) (tE P W rb) (tE P W rc) σ H Q := by
  obtain ⟨ρ, env, st, r, re, h⟩ := h
  refine ⟨ρ, env, st, r, re, h.bind.mono fun x H1 ⟨ρ1, st1, v, e1, r1, p1, h1⟩ => ?_⟩
  refine ⟨ρ1, env, st1, r1, re.monoX r.r e1, h1.bind.mono fun y H2 ⟨ρ2, st2, w, e2, r2, p2, h2⟩ => ?_⟩
  refine ⟨ρ2, st2, v, w, r2.r, p1.monoX r1.r e2, p2, ((Post.bind (Rp := RpV X.K) h2).ofO r2).mono fun z H3 ⟨ρ3, st3, u, e3, r3, p3, h3⟩ => ?_⟩
  split at h3
  · cases p3
    refine ⟨true, rfl, ?_⟩
    rw [if_pos rfl]
    refine ⟨ρ3, env, st3, r3, re.monoX r.r (e1.trans (e2.trans e3)), h3.bind.mono fun z' H4 ⟨ρ4, st4, t, e4, r4, p4, h4⟩ => ?_⟩
    exact ⟨ρ4, st4, w, t, r4.r, p2.monoX r2.r (e3.trans e4), p4, h4.ofO r4⟩
  · cases p3
    refine ⟨false, rfl, ?_⟩
    rw [if_neg Bool.false_ne_true]
    exact h3.here r3 (.bl false)
  · exact h3.elim
theorem se_chain {op op' : CmpOp} {f g : IV → IV → Sto → RO} (ho : OpR X (compareOp op) (rB X.K f)) (ho' : OpR X (compareOp op') (rB X.K g)) (ha : SE X P W a ra) (hb : SE X P W b rb) (hc : SE X P W c rc)
    (hm : lastMarks [op, op'] [b, c] = false := by with_unfolding_all rfl) : SE X P W (.Compare a [op, op'] [b, c] pos) (rChain f g ra rb rc) := (pe_chain ho ho' ha hb hc hm).of fun _ _ _ => tChain_of
theorem sc_chain {op op' : CmpOp} {f g : IV → IV → Sto → RO} (ho : OpR X (compareOp op) (rB X.K f)) (ho' : OpR X (compareOp op') (rB X.K g)) (ha : SE X P W a ra) (hb : SE X P W b rb) (hc : SE X P W c rc)
    (hm : lastMarks [op, op'] [b, c] = false := by with_unfolding_all rfl) : SC X P W (.Compare a [op, op'] [b, c] pos) (rTBl (rChain f g ra rb rc)) :=
  (pt_chain ho ho' ha hb hc hm).of fun σ H Q ⟨ρ, env, st, r, re, h⟩ => by
    refine tChain_of ⟨ρ, env, st, r, re, h.bind.mono fun x H1 ⟨ρ1, st1, v, e1, r1, p1, h1⟩ => ?_⟩
    cases p1 with
    | bl k => exact ⟨k, rfl, h1.here r1 rfl⟩
    | _ => exact h1.elim
abbrev SPt (X : Cx) (P : Par X.K) (W : WX) (e : Option Expr) (r : IEnv → Sto → RE (Option Int)) : Prop :=
  PO X e fun σ H Q => ∃ ρ env st, RelX P H ρ st ∧ RelEnv X.K H ρ env σ ∧ Post P W (fun _ _ v x => v = x) ρ H σ Q (r env st)
theorem _root_.L2.PO.of {X : Cx} {e : Option Expr} {t t' : TO} (h : PO X e t) (f : ∀ σ H Q, t' σ H Q → t σ H Q) : PO X e t' := ⟨fun pins s σ H Q I q => h.run pins s σ H Q I (f σ H Q q)⟩
theorem sp_none : SPt X P W none rNoPart := po_none.of fun σ H Q ⟨ρ, env, st, r, re, h⟩ => h.here r rfl
theorem sp_some (ha : SE X P W a ra) : SPt X P W (some a) (rPart ra) := (po_some ha).of fun σ H Q ⟨ρ, env, st, r, re, h⟩ => by
  refine ⟨ρ, env, st, r, re, h.bind.mono fun x H1 ⟨ρ1, st1, v, e1, r1, p1, h1⟩ => ?_⟩
  cases p1 with
  | int i => exact ⟨i, rfl, h1.here r1 rfl⟩
  | _ => exact h1.elim
theorem se_slice {lo hi : Option Expr} {rl rh : IEnv → Sto → RE (Option Int)} {p2 : Pos} (ha : SE X P W a ra) (hl : SPt X P W lo rl) (hu : SPt X P W hi rh) : SE X P W (.Subscript a (.Slice lo hi none p2) pos) (rSl ra rl rh) :=
  (pe_slice sl_I ha hl hu).of fun σ H Q ⟨ρ, env, st, r, re, h⟩ => by
    refine ⟨ρ, env, st, r, re, h.bind.mono fun x H1 ⟨ρ1, st1, v, e1, r1, p1, h1⟩ => ?_⟩
    refine ⟨ρ1, env, st1, r1, re.monoX r.r e1, h1.bind.mono fun l H2 ⟨ρ2, st2, l', e2, r2, p2, h2⟩ => ?_⟩
    obtain rfl : l' = l := p2
    refine ⟨ρ2, env, st2, r2, re.monoX r.r (e1.trans e2), h2.bind.mono fun u H3 ⟨ρ3, st3, u', e3, r3, p3, h3⟩ => ?_⟩
    obtain rfl : u' = u := p3
    exact ⟨ρ3, st3, v, r3.r, p1.monoX r1.r (e2.trans e3), h3.ofO r3⟩
end
end PI

set_option Elab.async false
set_option linter.all false
set_option maxRecDepth 100000
/-! PI7: statements. -/
namespace PI
open PySem PySem.Spec PyProof.Rows L2
open LamX (Tabs TabS CodeO ExtN)

inductive RS where
  | nx (env : IEnv) (st : Sto)
  | rt (v : IV) (st : Sto)
  | bk (env : IEnv) (st : Sto)
  | ct (env : IEnv) (st : Sto)
  | exc (x : IX) (env : IEnv) (st : Sto)
  | bad
abbrev SemS := IEnv → Sto → RS
def RS.ofE {α : Type} (m : RE α) (env : IEnv) (k : α → Sto → RS) : RS :=
  match m with
  | .ok v st => k v st
  | .exc x st => .exc x env st
  | .bad => .bad
def RS.seq (m : RS) (k : SemS) : RS :=
  match m with
  | .nx env st => k env st
  | .rt v st => .rt v st
  | .bk env st => .bk env st
  | .ct env st => .ct env st
  | .exc x env st => .exc x env st
  | .bad => .bad
/-- behind a loop's body -/
def RS.loop (m : RS) (k : SemS) : RS :=
  match m with
  | .nx env st => k env st
  | .rt v st => .rt v st
  | .bk env st => .nx env st
  | .ct env st => k env st
  | .exc x env st => .exc x env st
  | .bad => .bad
def PostS {K : PySem.W.Frag} (P : Par K) (W : WX) (ρ : List Addr) (H : Hp) (D : Ends) : RS → Prop
  | .nx env st => ∀ (ρ' : List Addr) (H' : Hp) (σ' : L2.St), ExtX ρ H ρ' H' → RelX P H' ρ' st → RelEnv K H' ρ' env σ' → D.nx σ' H'
  | .rt v st => ∀ (ρ' : List Addr) (H' : Hp) (x : V), ExtX ρ H ρ' H' → RelX P H' ρ' st → RepV K H' ρ' v x → D.rt x H'
  | .bk env st => ∀ (ρ' : List Addr) (H' : Hp) (σ' : L2.St), ExtX ρ H ρ' H' → RelX P H' ρ' st → RelEnv K H' ρ' env σ' → D.bk σ' H'
  | .ct env st => ∀ (ρ' : List Addr) (H' : Hp) (σ' : L2.St), ExtX ρ H ρ' H' → RelX P H' ρ' st → RelEnv K H' ρ' env σ' → D.ct σ' H'
  | .exc e env st => ∀ (ρ' : List Addr) (H' : Hp) (c : Value) (d : Option Addr) (σ' : L2.St), ExtX ρ H ρ' H' → RelX P H' ρ' st → RelEnv K H' ρ' env σ' → RXc P e c d ρ' H' → W c d σ' H'
  | .bad => False
def tS {K : PySem.W.Frag} (P : Par K) (W : WX) (r : SemS) : TS := fun D σ H => ∃ ρ env st, RelX P H ρ st ∧ RelEnv K H ρ env σ ∧ PostS P W ρ H D (r env st)
section
variable {α β : Type} {K : PySem.W.Frag} {P : Par K} {W : WX} {ρ ρ1 : List Addr} {H H1 : Hp} {D : Ends} {σ : L2.St}
theorem PostS.ext {m : RS} (e : ExtX ρ H ρ1 H1) (h : PostS P W ρ H D m) : PostS P W ρ1 H1 D m := by
  cases m with
  | nx v st => exact fun ρ' H' x e' => h ρ' H' x (e.trans e')
  | rt v st => exact fun ρ' H' x e' => h ρ' H' x (e.trans e')
  | bk v st => exact fun ρ' H' x e' => h ρ' H' x (e.trans e')
  | ct v st => exact fun ρ' H' x e' => h ρ' H' x (e.trans e')
  | exc x env st => exact fun ρ' H' c d σ' e' => h ρ' H' c d σ' (e.trans e')
  | bad => exact h
theorem PostS.ofE {Rp : Hp → List Addr → α → β → Prop} {m : RE α} {env : IEnv} {st : Sto} {k : α → Sto → RS} (r : Rel K H ρ st) (re : RelEnv K H ρ env σ) (h : PostS P W ρ H D (RS.ofE m env k)) :
    Post P W Rp ρ H σ (fun x H1 => ∃ (ρ1 : List Addr) (st1 : Sto) (v : α), ExtX ρ H ρ1 H1 ∧ RelX P H1 ρ1 st1 ∧ RelEnv K H1 ρ1 env σ ∧ Rp H1 ρ1 v x ∧ PostS P W ρ1 H1 D (k v st1)) m := by
  cases m with
  | ok v s => exact fun ρ' H' x e r' p => ⟨ρ', s, v, e, r', re.monoX r e, p, PostS.ext e h⟩
  | exc x s => exact fun ρ' H' c d e r' q => h ρ' H' c d σ e r' (re.monoX r e) q
  | bad => exact h
theorem PostS.hereN {env : IEnv} {st : Sto} (h : PostS P W ρ H D (.nx env st)) (r : RelX P H ρ st) (re : RelEnv K H ρ env σ) : D.nx σ H := h ρ H σ (ExtX.refl _ _) r re
theorem PostS.seq {m : RS} {k : SemS} (h : PostS P W ρ H D (m.seq k)) : PostS P W ρ H { D with nx := tS P W k D } m := by
  cases m with
  | nx env st => exact fun ρ' H' σ' e r re => ⟨ρ', env, st, r, re, PostS.ext e h⟩
  | rt v st => exact h
  | bk v st => exact h
  | ct v st => exact h
  | exc x env st => exact h
  | bad => exact h
theorem PostS.loop {m : RS} {k : SemS} {N : L2.St → Hp → Prop} (h : PostS P W ρ H D (m.loop k))
    (hN : ∀ (ρ' : List Addr) (H' : Hp) (σ' : L2.St) (env : IEnv) (st : Sto), ExtX ρ H ρ' H' → RelX P H' ρ' st → RelEnv K H' ρ' env σ' → PostS P W ρ' H' D (k env st) → N σ' H') : PostS P W ρ H { D with nx := N, ct := N, bk := D.nx } m := by
  cases m with
  | nx env st => exact fun ρ' H' σ' e r re => hN ρ' H' σ' env st e r re (PostS.ext e h)
  | rt v st => exact h
  | bk v st => exact h
  | ct env st => exact fun ρ' H' σ' e r re => hN ρ' H' σ' env st e r re (PostS.ext e h)
  | exc x env st => exact h
  | bad => exact h
theorem RelEnv.set {env : IEnv} {v : IV} {x : V} (re : RelEnv K H ρ env σ) (p : RepV K H ρ v x) (i : Nat) : RelEnv K H ρ (env.set i (some v)) (σ.set i (some x)) := by
  refine ⟨by simp [re.len], fun j w e => ?_⟩
  by_cases h : i = j
  · subst h
    have hl : i < env.length := by
      have := (List.getElem?_eq_some_iff.mp e).1
      simpa using this
    rw [List.getElem?_set_self hl] at e
    cases e
    exact ⟨x, by rw [List.getElem?_set_self (by rw [← re.len]; exact hl)], p⟩
  · rw [List.getElem?_set_ne h] at e ⊢
    exact re.get j w e
end

/-! ### what statements give -/
def sPass : SemS := fun env st => .nx env st
def sBreak : SemS := fun env st => .bk env st
def sCont : SemS := fun env st => .ct env st
def sSeq (a b : SemS) : SemS := fun env st => (a env st).seq b
def sExpr (e : SemE) : SemS := fun env st => RS.ofE (e env st) env fun _ st1 => .nx env st1
def sRet (e : SemE) : SemS := fun env st => RS.ofE (e env st) env fun v st1 => .rt v st1
def sRetN : SemS := fun _ st => .rt .non st
def sIf (c : SemT) (a b : SemS) : SemS := fun env st => RS.ofE (c env st) env fun k st1 => bif k then a env st1 else b env st1
/-- a target: the value, the names, the store -/
abbrev SemG := IV → IEnv → Sto → Option (IEnv × Sto)
abbrev SemGs := List IV → IEnv → Sto → Option (IEnv × Sto)
def gN (i : Nat) : SemG := fun v env st => some (env.set i (some v), st)
def gsNil : SemGs := fun vs env st => match vs with
  | [] => some (env, st)
  | _ :: _ => none
def gsCons (g : SemG) (gs : SemGs) : SemGs := fun vs env st => match vs with
  | [] => none
  | v :: r => match g v env st with
    | some (env1, st1) => gs r env1 st1
    | none => none
def gT (n : Nat) (gs : SemGs) : SemG := fun v env st => match v with
  | .tup xs => bif Nat.beq xs.length n then gs xs env st else none
  | _ => none
/-- o[i] = v -/
def setI : IV → IV → IV → Sto → Option Sto
  | .ref n, .int i, v, st => match st.os[n]? with
    | some (.lst xs) => match ixN xs.length i with
      | some j => some { os := st.os.set n (.lst (xs.set j v)), low := st.low }
      | none => none
    | _ => none
  | _, _, _, _ => none
def gSubI (o i : SemE) : SemG := fun v env st => match o env st with
  | .ok ov st1 => match i env st1 with
    | .ok iv st2 => match setI ov iv v st2 with
      | some st3 => some (env, st3)
      | none => none
    | _ => none
  | _ => none
def RS.ofG (m : Option (IEnv × Sto)) (k : SemS) : RS := match m with
  | some (env, st) => k env st
  | none => .bad
def sAsg (e : SemE) (g : SemG) : SemS := fun env st => RS.ofE (e env st) env fun v st1 => RS.ofG (g v env st1) fun env2 st2 => .nx env2 st2
def sPar (i j : Nat) (es : SemA) : SemS := fun env st => RS.ofE (es env st) env fun vs st1 => match vs with
  | [v, w] => .nx ((env.set i (some v)).set j (some w)) st1
  | _ => .bad
/-- name op= e -/
def sAug (i : Nat) (f : IV → IV → Sto → RO) (e : SemE) : SemS := fun env st => match env[i]? with
  | some (some x) => RS.ofE (e env st) env fun y st1 => RS.ofE (RE.ofO (f x y st1)) env fun z st2 => .nx (env.set i (some z)) st2
  | _ => .bad
def sWhile (c : SemT) (b : SemS) : Nat → SemS
  | 0 => fun _ _ => .bad
  | n + 1 => fun env st => RS.ofE (c env st) env fun k st1 => bif k then (b env st1).loop (sWhile c b n) else .nx env st1
/-- while, with so many turns -/
def sWhileF (fuel : IEnv → Sto → Nat) (c : SemT) (b : SemS) : SemS := fun env st => sWhile c b (fuel env st) env st
/-- for over items that don't change -/
def loopT (g : SemG) (b : SemS) : List IV → SemS
  | [] => fun env st => .nx env st
  | x :: xs => fun env st => RS.ofG (g x env st) fun env1 st1 => (b env1 st1).loop (loopT g b xs)
/-- for over a list of the store, from the place i on, with so many turns -/
def loopL (g : SemG) (b : SemS) (n : Nat) : Nat → Nat → SemS
  | 0, _ => fun _ _ => .bad
  | m + 1, i => fun env st => match lstAt st n with
    | some xs => match xs[i]? with
      | some x => RS.ofG (g x env st) fun env1 st1 => (b env1 st1).loop (loopL g b n m (i + 1))
      | none => .nx env st
    | none => .bad
def intsI (lo : Int) : Nat → List IV
  | 0 => []
  | n + 1 => .int lo :: intsI (lo + 1) n
def chrs (s : List Nat) : List IV := s.map fun c => .str [c]
/-- what a for walks -/
inductive FI where
  | items (xs : List IV)
  | list (n : Nat)
  | walk (n : Nat) (len : Sto → Option Nat) (row : Sto → Nat → Option IV)
/-- for over rows that are read off the store at each turn, their number as it was -/
def loopW (g : SemG) (b : SemS) (n : Nat) (len : Sto → Option Nat) (row : Sto → Nat → Option IV) : Nat → Nat → SemS
  | 0, _ => fun _ _ => .bad
  | m + 1, i => fun env st => match len st with
    | some k => bif Nat.beq k n then (bif Nat.blt i n then (match row st i with
      | some x => RS.ofG (g x env st) fun env1 st1 => (b env1 st1).loop (loopW g b n len row m (i + 1))
      | none => .bad) else .nx env st) else .bad
    | none => .bad
def seqFI (v : IV) : Option FI := match v with
  | .tup xs => some (.items xs)
  | .ref n => some (.list n)
  | _ => none
def sFor (it : IEnv → Sto → RE FI) (g : SemG) (b : SemS) : SemS := fun env st => RS.ofE (it env st) env fun f st1 => match f with
  | .items xs => loopT g b xs env st1
  | .list n => match lstAt st1 n with
    | some xs => loopL g b n (xs.length + 1) 0 env st1
    | none => .bad
  | .walk n len row => loopW g b n len row (n + 1) 0 env st1
def fSeq (e : SemE) : IEnv → Sto → RE FI := fun env st => (e env st).bind fun v st1 => match seqFI v with
  | some f => .ok f st1
  | none => .bad
def fStr (e : SemE) : IEnv → Sto → RE FI := fun env st => (e env st).bind fun v st1 => match v with
  | .str s => .ok (.items (chrs s)) st1
  | _ => .bad
def rngOk (i : Int) : Bool := decide (-(2 ^ 62) ≤ i) && decide (i < 2 ^ 62)
def fRng1 (a : SemA) : IEnv → Sto → RE FI := fun env st => (a env st).bind fun v st1 => match v with
  | [.int j] => bif rngOk j then .ok (.items (intsI 0 j.toNat)) st1 else .bad
  | _ => .bad
def fRng2 (a : SemA) : IEnv → Sto → RE FI := fun env st => (a env st).bind fun v st1 => match v with
  | [.int i, .int j] => bif rngOk i && rngOk j then .ok (.items (intsI i (j - i).toNat)) st1 else .bad
  | _ => .bad

/-! ### they are sound -/
abbrev SS (X : Cx) (P : Par X.K) (W : WX) (s : Stmt) (r : SemS) : Prop := PS X s (tS P W r)
abbrev SSs (X : Cx) (P : Par X.K) (W : WX) (s : List Stmt) (r : SemS) : Prop := PSs X s (tS P W r)
def tG {K : PySem.W.Frag} (P : Par K) (g : SemG) : TG := fun x σ H Q => ∃ ρ env st v env' st', RelX P H ρ st ∧ RelEnv K H ρ env σ ∧ RepV K H ρ v x ∧ g v env st = some (env', st') ∧
  ∀ (ρ' : List Addr) (H' : Hp) (σ' : L2.St), ExtX ρ H ρ' H' → RelX P H' ρ' st' → RelEnv K H' ρ' env' σ' → Q σ' H'
def tGs {K : PySem.W.Frag} (P : Par K) (g : SemGs) : TGs := fun x σ H Q => ∃ ρ env st v env' st', RelX P H ρ st ∧ RelEnv K H ρ env σ ∧ RepVs K H ρ v x ∧ g v env st = some (env', st') ∧
  ∀ (ρ' : List Addr) (H' : Hp) (σ' : L2.St), ExtX ρ H ρ' H' → RelX P H' ρ' st' → RelEnv K H' ρ' env' σ' → Q σ' H'
abbrev SG (X : Cx) (P : Par X.K) (e : Expr) (g : SemG) : Prop := PG X e (tG P g)
abbrev SGs (X : Cx) (P : Par X.K) (e : List Expr) (g : SemGs) : Prop := PGs X e (tGs P g)
theorem _root_.L2.PG.of {X : Cx} {e : Expr} {t t' : TG} (h : PG X e t) (f : ∀ v σ H Q, t' v σ H Q → t v σ H Q) : PG X e t' := ⟨fun pins s σ H v u Q I r q => h.run pins s σ H v u Q I r (f v σ H Q q)⟩
theorem _root_.L2.PGs.of {X : Cx} {e : List Expr} {t t' : TGs} (h : PGs X e t) (f : ∀ v σ H Q, t' v σ H Q → t v σ H Q) : PGs X e t' := ⟨fun pins s σ H v u Q I r q => h.run pins s σ H v u Q I r (f v σ H Q q)⟩
section
variable {X : Cx} {P : Par X.K} {W : WX} {a b c e tg : Expr} {ra rb rc re_ : SemE} {tc : SemT} {es : List Expr} {rs : SemA} {pos p : Pos} {σ : L2.St} {H : Hp} {x : Str} {s : Stmt} {ss s1 s2 : List Stmt} {r r1 r2 : SemS} {g : SemG} {gs : SemGs}
theorem ss_pass : SS X P W (.Pass pos) sPass := ps_pass.of fun D σ H ⟨ρ, env, st, r, re, h⟩ => h.hereN r re
theorem ss_break : SS X P W (.Break pos) sBreak := ps_break.of fun D σ H ⟨ρ, env, st, r, re, h⟩ => h ρ H σ (ExtX.refl _ _) r re
theorem ss_cont : SS X P W (.Continue pos) sCont := ps_continue.of fun D σ H ⟨ρ, env, st, r, re, h⟩ => h ρ H σ (ExtX.refl _ _) r re
theorem sss_nil : SSs X P W [] sPass := pss_nil.of fun D σ H ⟨ρ, env, st, r, re, h⟩ => h.hereN r re
theorem sss_one (h : SS X P W s r) : SSs X P W [s] r := pss_one h
theorem sss_cons (h : SS X P W s r) (h2 : SSs X P W ss r2) : SSs X P W (s :: ss) (sSeq r r2) := (pss_cons h h2).of fun D σ H ⟨ρ, env, st, r, re, h⟩ => ⟨ρ, env, st, r, re, h.seq⟩
theorem ss_expr (he : SE X P W e ra) (hs : swapsWith e none pos.line X.env = pure false := by rfl) : SS X P W (.Expr e pos) (sExpr ra) :=
  (ps_expr he hs).of fun D σ H ⟨ρ, env, st, r, re, h⟩ => ⟨ρ, env, st, r, re, (PostS.ofE r.r re h).mono fun x H1 ⟨ρ1, st1, v, e1, r1, re1, p1, h1⟩ => h1.hereN r1 re1⟩
theorem ss_ret (he : SE X P W e ra) : SS X P W (.Return (some e) pos) (sRet ra) :=
  (ps_ret he).of fun D σ H ⟨ρ, env, st, r, re, h⟩ => ⟨ρ, env, st, r, re, (PostS.ofE r.r re h).mono fun x H1 ⟨ρ1, st1, v, e1, r1, re1, p1, h1⟩ => h1 ρ1 H1 x (ExtX.refl _ _) r1 p1⟩
theorem ss_retN : SS X P W (.Return none pos) sRetN := ps_retN.of fun D σ H ⟨ρ, env, st, r, re, h⟩ => h ρ H .non (ExtX.refl _ _) r .non
theorem ss_if (hc : SC X P W c tc) (ha : SSs X P W s1 r1) (hb : SSs X P W s2 r2) : SS X P W (.If c s1 s2 pos) (sIf tc r1 r2) :=
  (ps_if hc ha hb).of fun D σ H ⟨ρ, env, st, r, re, h⟩ => by
    refine ⟨ρ, env, st, r, re, (PostS.ofE r.r re h).mono fun x H1 ⟨ρ1, st1, v, e1, r1, re1, p1, h1⟩ => ?_⟩
    obtain rfl : v = x := p1
    cases v with
    | true => exact ⟨ρ1, env, st1, r1, re1, h1⟩
    | false => exact ⟨ρ1, env, st1, r1, re1, h1⟩
theorem sg_name {i : Nat} (hN : X.N.Nodup) (hi : X.N[i]? = some x) (hx : Loc X.env.scope x) (hf : X.fn x = true ∨ X.env.scope.names.lookup x = some .local := by first | exact .inl rfl | exact .inr rfl | assumption) : SG X P (.Name x pos) (gN i) :=
  (pg_name hN hi hx hf).of fun v σ H Q ⟨ρ, env, st, w, env', st', r, re, p, e, h⟩ => by
    cases e
    exact h ρ H _ (ExtX.refl _ _) r (re.set p i)
theorem sgs_nil : SGs X P [] gsNil := pgs_nil.of fun v σ H Q ⟨ρ, env, st, w, env', st', r, re, p, e, h⟩ => by
  cases p with
  | nil => cases e; exact ⟨rfl, h ρ H σ (ExtX.refl _ _) r re⟩
  | cons => cases e
theorem sgs_cons (h1 : SG X P e g) (h2 : SGs X P es gs) (hs : (assignEach (e :: es) X.env).map (·.2) = assign e X.env :: (assignEach es X.env).map (·.2) := by rfl) : SGs X P (e :: es) (gsCons g gs) :=
  (pgs_cons h1 h2 hs).of fun v σ H Q ⟨ρ, env, st, w, env', st', r, re, p, e, h⟩ => by
    cases p with
    | nil => cases e
    | cons p t =>
      unfold gsCons at e
      dsimp only at e
      split at e
      · rename_i env1 st1 e1
        refine ⟨_, _, rfl, ρ, env, st, _, env1, st1, r, re, p, e1, fun ρ1 H1 σ1 x1 r1 re1 => ?_⟩
        exact ⟨ρ1, env1, st1, _, env', st', r1, re1, t.monoX r.r x1, e, fun ρ2 H2 σ2 x2 r2 re2 => h ρ2 H2 σ2 (x1.trans x2) r2 re2⟩
      · cases e
theorem sg_tup {k n : Nat} (hc : X.calm = true) (h : SGs X P es gs) (hn : (assignEach es X.env).length = n := by rfl) (hst : (assignEach es X.env).findIdx? (·.1) = none := by rfl) : SG X P (.Tuple es k pos) (gT n gs) :=
  (pg_tup hc h hn hst).of fun v σ H Q ⟨ρ, env, st, w, env', st', r, re, p, e, h⟩ => by
    cases p with
    | tup hq t =>
      unfold gT at e
      dsimp only at e
      cases hb : Nat.beq _ n with
      | false => rw [hb] at e; cases e
      | true =>
        rw [hb] at e
        exact ⟨_, _, rfl, hq, by rw [← t.length]; exact Nat.eq_of_beq_eq_true hb, ρ, env, st, _, env', st', r, re, t, e, h⟩
    | _ => cases e
theorem ss_asg (he : SE X P W e ra) (hg : SG X P tg g) (hs : swapsWithSole [tg] e pos.line X.env = pure false := by rfl) (hw : swappedStores [tg] e X.env = pure none := by rfl) (h1 : (assignEach [tg] X.env).map (·.2) = [assign tg X.env] := by rfl) : SS X P W (.Assign [tg] e pos) (sAsg ra g) :=
  (ps_asg he hg hs hw h1).of fun D σ H ⟨ρ, env, st, r, re, h⟩ => by
    refine ⟨ρ, env, st, r, re, (PostS.ofE r.r re h).mono fun x H1 ⟨ρ1, st1, v, e1, r1, re1, p1, h1⟩ => ?_⟩
    cases eg : g v env st1 with
    | none => rw [eg] at h1; exact h1.elim
    | some q =>
      obtain ⟨env2, st2⟩ := q
      rw [eg] at h1
      exact ⟨ρ1, env, st1, v, env2, st2, r1, re1, p1, eg, h1⟩
theorem ss_set {i : Nat} {p' : Pos} (hN : X.N.Nodup) (hi : X.N[i]? = some x) (hx : Loc X.env.scope x) (he : SE X P W e ra) (hs : swapsWith e (some (.Name x p')) pos.line X.env = pure false := by rfl) (hf : X.fn x = true ∨ X.env.scope.names.lookup x = some .local := by first | exact .inl rfl | exact .inr rfl | assumption) :
    SS X P W (.Assign [.Name x p'] e pos) (sAsg ra (gN i)) :=
  (ps_set hN hi hx he hs hf).of fun D σ H ⟨ρ, env, st, r, re, h⟩ => ⟨ρ, env, st, r, re, (PostS.ofE r.r re h).mono fun x H1 ⟨ρ1, st1, v, e1, r1, re1, p1, h1⟩ => h1.hereN r1 (re1.set p1 i)⟩
theorem ss_par {i j : Nat} {x y : Str} {a b : Expr} {px py pt : Pos} {kt k2 pt2} (hc : X.calm = true) (hN : X.N.Nodup) (hi : X.N[i]? = some x) (hj : X.N[j]? = some y) (hij : i ≠ j)
    (hx : X.env.scope.names.lookup x = some .local) (hy : X.env.scope.names.lookup y = some .local) (ha : SA X P W [a, b] rs)
    (hw : swappedStores [.Tuple [.Name x px, .Name y py] kt pt] (.Tuple [a, b] k2 pt2) X.env = pure (some [x, y]))
    (hs : swapsWithSole [.Tuple [.Name x px, .Name y py] kt pt] (.Tuple [a, b] k2 pt2) pos.line X.env = pure false := by rfl) :
    SS X P W (.Assign [.Tuple [.Name x px, .Name y py] kt pt] (.Tuple [a, b] k2 pt2) pos) (sPar i j rs) :=
  (ps_par hc hN hi hj hij hx hy ha hw hs).of fun D σ H ⟨ρ, env, st, r, re, h⟩ => by
    refine ⟨ρ, env, st, r, re, (PostS.ofE r.r re h).mono fun x H1 ⟨ρ1, st1, v, e1, r1, re1, p1, h1⟩ => ?_⟩
    split at h1
    · obtain ⟨v', w', e', pv, pw⟩ := RepVs.two p1
      exact ⟨v', w', e', h1.hereN r1 ((re1.set pv i).set pw j)⟩
    · exact h1.elim
theorem ss_while {fuel : IEnv → Sto → Nat} (hp : PassesOwn (model X.prog X.w) X.A X.env X.xe) (hc : SC X P W c tc) (hb : SSs X P W ss r) : SS X P W (.While c ss [] pos) (sWhileF fuel tc r) :=
  (ps_while hp hc hb).of fun D σ H ⟨ρ, env, st, rl, re, h⟩ => by
    refine ⟨fun m σ H => ∃ ρ env st, RelX P H ρ st ∧ RelEnv X.K H ρ env σ ∧ PostS P W ρ H D (sWhile tc r m env st), ⟨fuel env st, ρ, env, st, rl, re, h⟩, ?_⟩
    rintro m σ H ⟨ρ, env, st, rl, re, h⟩
    cases m with
    | zero => exact h.elim
    | succ m =>
      refine ⟨ρ, env, st, rl, re, (PostS.ofE rl.r re h).mono fun x H1 ⟨ρ1, st1, v, e1, r1, re1, p1, h1⟩ => ?_⟩
      obtain rfl : v = x := p1
      cases v with
      | false => exact h1.hereN r1 re1
      | true =>
        rw [if_pos rfl]
        refine ⟨fun σ' H' => ∃ ρ env st, RelX P H' ρ st ∧ RelEnv X.K H' ρ env σ' ∧ PostS P W ρ H' D (sWhile tc r m env st), fun σ' H' q => ⟨m, Nat.lt_succ_self m, q⟩, ?_⟩
        exact ⟨ρ1, env, st1, r1, re1, PostS.loop h1 fun ρ2 H2 σ2 env2 st2 e2 r2 re2 h2 => ⟨ρ2, env2, st2, r2, re2, h2⟩⟩
end
end PI

set_option Elab.async false
set_option linter.all false
set_option maxRecDepth 100000
/-! PI8: for, comprehensions. -/
namespace PI
open PySem PySem.Spec PyProof.Rows L2
open LamX (Tabs TabS CodeO ExtN)

/-! ### what is walked -/
/-- the iterator gives the items, whatever happens to the store -/
structure Gives (K : PySem.W.Frag) (xs : List IV) (J : It) (Iv : List Addr → Hp → Prop) : Prop where
  mono : ∀ {ρ : List Addr} {H : Hp} {ρ' : List Addr} {H' : Hp} {st : Sto}, Rel K H ρ st → ExtX ρ H ρ' H' → Iv ρ H → Iv ρ' H'
  stop : ∀ {ρ : List Addr} {H : Hp}, Iv ρ H → J.stop xs.length H
  go : ∀ {ρ : List Addr} {H : Hp} {i : Nat} {x : IV}, Iv ρ H → xs[i]? = some x → J.go i H ∧ ∀ y H', J.yld i H y H' → ∀ st, Rel K H ρ st → Ext ρ H ρ H' ∧ Rel K H' ρ st ∧ RepV K H' ρ x y
/-- the iterator gives the rows, read off the store at each turn -/
structure GivesW (K : PySem.W.Frag) (n : Nat) (len : Sto → Option Nat) (row : Sto → Nat → Option IV) (J : It) (Iv : List Addr → Hp → Prop) : Prop where
  mono : ∀ {ρ : List Addr} {H : Hp} {ρ' : List Addr} {H' : Hp} {st : Sto}, Rel K H ρ st → ExtX ρ H ρ' H' → Iv ρ H → Iv ρ' H'
  stop : ∀ {ρ : List Addr} {H : Hp} {st : Sto}, Iv ρ H → Rel K H ρ st → len st = some n → J.stop n H
  go : ∀ {ρ : List Addr} {H : Hp} {st : Sto} {i : Nat} {x : IV}, Iv ρ H → Rel K H ρ st → len st = some n → i < n → row st i = some x → J.go i H ∧ ∀ y H', J.yld i H y H' → Ext ρ H ρ H' ∧ Rel K H' ρ st ∧ RepV K H' ρ x y
def RpI (K : PySem.W.Frag) : Hp → List Addr → FI → It → Prop := fun H ρ f J => match f with
  | .items xs => ∃ Iv, Gives K xs J Iv ∧ Iv ρ H
  | .list n => ∃ a, ρ[n]? = some a ∧ J = Itl K a
  | .walk n len row => ∃ Iv, GivesW K n len row J Iv ∧ Iv ρ H
def tI {K : PySem.W.Frag} (P : Par K) (W : WX) (it : IEnv → Sto → RE FI) : TI := fun σ H R => ∃ ρ env st, RelX P H ρ st ∧ RelEnv K H ρ env σ ∧ Post P W (RpI K) ρ H σ R (it env st)
abbrev SI (X : Cx) (P : Par X.K) (W : WX) (tg e : Expr) (it : IEnv → Sto → RE FI) : Prop := PI X tg e (tI P W it)
theorem _root_.L2.PI.of {X : Cx} {tg e : Expr} {t t' : TI} (h : PI X tg e t) (f : ∀ σ H Q, t' σ H Q → t σ H Q) : PI X tg e t' := ⟨fun pins s σ H R I q => h.run pins s σ H R I (f σ H R q)⟩
section
variable {K : PySem.W.Frag}
theorem gives_int (lo : Int) (n : Nat) : Gives K (intsI lo n) (Itr lo n) fun _ _ => True := by
  have hl : ∀ (n : Nat) (lo : Int), (intsI lo n).length = n := fun n => by
    induction n with
    | zero => exact fun _ => rfl
    | succ n ih => exact fun lo => by show (intsI (lo + 1) n).length + 1 = n + 1; rw [ih]
  have hg : ∀ (n : Nat) (lo : Int) (i : Nat) (x : IV), (intsI lo n)[i]? = some x → i < n ∧ x = .int (lo + i) := fun n => by
    induction n with
    | zero => intro lo i x h; simp [intsI] at h
    | succ n ih =>
      intro lo i x h
      cases i with
      | zero =>
        have h' : some (IV.int lo) = some x := h
        cases h'
        exact ⟨by omega, by congr 1; omega⟩
      | succ i =>
        obtain ⟨h1, h2⟩ := ih (lo + 1) i x h
        exact ⟨by omega, by rw [h2]; congr 1; omega⟩
  refine ⟨fun _ _ _ => trivial, fun {ρ H} _ => ?_, fun {ρ H i x} _ e => ?_⟩
  · show n ≤ _
    rw [hl]
    exact Nat.le_refl _
  · obtain ⟨h1, h2⟩ := hg n lo i x e
    refine ⟨h1, fun y H' h st r => ?_⟩
    obtain ⟨e1, e2⟩ := h
    subst e1 e2
    rw [h2]
    exact ⟨Ext.refl _ _, r, .int _⟩
theorem gives_str {s : List Nat} (h : s.all (fun c => decide (c < 0x110000)) = true) : Gives K (chrs s) (Its ⟨s.toArray⟩) fun _ _ => True := by
  refine ⟨fun _ _ _ => trivial, fun {ρ H} _ => ?_, fun {ρ H i x} _ e => ?_⟩
  · show (⟨s.toArray⟩ : Str).cps.size ≤ _
    simp [chrs]
  · have e' : (s.map fun c => IV.str [c])[i]? = some x := e
    rw [List.getElem?_map] at e'
    cases q : s[i]? with
    | none => rw [q] at e'; cases e'
    | some c =>
      rw [q] at e'
      cases e'
      have hm := List.mem_of_getElem? q
      have hc := List.all_eq_true.mp h c hm
      refine ⟨?_, fun y H' hy st r => ?_⟩
      · show i < (⟨s.toArray⟩ : Str).cps.size
        have := (List.getElem?_eq_some_iff.mp q).1
        simpa using this
      · obtain ⟨e1, d, hd, e2⟩ := hy
        have : d = c := by
          have hd' : s.toArray[i]? = some d := hd
          rw [List.getElem?_toArray, q] at hd'
          exact (Option.some.inj hd').symm
        subst this
        subst e2
        subst e1
        exact ⟨Ext.refl _ _, r, RepV.str (s := [d]) (by rw [List.all_cons, hc]; rfl)⟩
end
section
variable {X : Cx} {P : Par X.K} {W : WX} {a b c e tg iter : Expr} {ra rb rc : SemE} {tc : SemT} {es : List Expr} {rs : SemA} {pos p : Pos} {σ : L2.St} {H : Hp} {x : Str} {ss : List Stmt} {r : SemS} {g : SemG} {it : IEnv → Sto → RE FI}
theorem pi_seqI (hl : SE X P W e ra) : SI X P W tg e (fSeq ra) := by
  refine ⟨fun pins s σ H R I h => ?_⟩
  obtain ⟨ρ, env, st, r, re, h⟩ := h
  have hp : Post P W (RpV X.K) ρ H σ (fun x H1 => ∃ (ρ1 : List Addr) (st1 : Sto) (v : IV), ExtX ρ H ρ1 H1 ∧ RelX P H1 ρ1 st1 ∧ RepV X.K H1 ρ1 v x ∧ Post P W (RpI X.K) ρ1 H1 σ R (match seqFI v with | some f => .ok f st1 | none => .bad)) (ra env st) := h.bind
  refine thn (hl.run pins s σ H _ I ⟨ρ, env, st, r, re, hp⟩) fun v s1 ⟨x, H1, I1, r1, ρ1, st1, v', e1, rx1, p1, h1⟩ => ?_
  cases p1 with
  | @tup xs vs a hq t =>
    obtain rfl : v = .ref a := r1
    obtain ⟨its, rv, p, hz⟩ := I1.tuple hq
    refine wpAny_pyIter_tuple (show s1.heap.IsTuple a its.toArray from p) ?_
    refine ⟨s1.heap.objs.size, [s1.heap.objs.size], _, _, H1, rfl, I1.kept (t' := s1.toks) fun b o e => Heap.get?_push_of_some _ e, turn_tuple a _, ⟨_, Heap.get?_push_size _ rfl, rfl, rfl⟩, fun b hb => ?_, ?_⟩
    · have e : b = s1.heap.objs.size := by simpa using hb
      subst e
      exact I1.fpOk (Nat.le_refl _) (I1.hok.fresh (Nat.le_refl _))
    · refine h1.here (x := Itt X.K a) rx1 ⟨fun ρ H => SqT X.K H a vs ∧ RepVs X.K H ρ xs vs, ?_, hq, t⟩
      refine ⟨fun {ρ H ρ' H' st} r e ⟨q1, q2⟩ => ⟨sqT_X r e q1, q2.monoX r e⟩, fun {ρ H} ⟨q1, q2⟩ => ⟨vs, q1, by rw [q2.length]; exact Nat.le_refl _⟩, fun {ρ H i x} ⟨q1, q2⟩ ex => ?_⟩
      obtain ⟨y, hy, ry⟩ := q2.get ex
      refine ⟨⟨vs, y, q1, hy⟩, fun z H' ⟨h1, h2⟩ st r => ?_⟩
      subst h1
      refine ⟨Ext.refl _ _, r, ?_⟩
      have := h2 vs q1
      rw [hy] at this
      cases this
      exact ry
  | @ref n a hn =>
    obtain rfl : v = .ref a := r1
    have h1' := h1.here (x := Itl X.K a) rx1 ⟨a, hn, rfl⟩
    have hl : ∃ xs, SqL X.K H1 a xs := by
      obtain ⟨m, o, e1, e2, q⟩ := rx1.r.at' (List.mem_of_getElem? hn)
      cases o with
      | lst xs => obtain ⟨vs, q, _⟩ := q; exact ⟨vs, .inl (.inl q)⟩
      | frl xs => obtain ⟨vs, q, _⟩ := q; exact ⟨vs, .inl q⟩
    obtain ⟨xs, hq⟩ := hl
    obtain ⟨its, rv, p, hz⟩ := I1.list hq
    refine wpAny_pyIter_list p.isList ?_
    refine ⟨s1.heap.objs.size, [s1.heap.objs.size], _, _, H1, rfl, I1.kept (t' := s1.toks) fun b o e => Heap.get?_push_of_some _ e, turn_list a _, ⟨_, Heap.get?_push_size _ rfl, rfl, rfl⟩, fun b hb => ?_, h1'⟩
    have e : b = s1.heap.objs.size := by simpa using hb
    subst e
    exact I1.fpOk (Nat.le_refl _) (I1.hok.fresh (Nat.le_refl _))
  | _ => exact h1.elim
theorem pi_strI (hl : SE X P W e ra) : SI X P W tg e (fStr ra) :=
  (pi_str hl).of fun σ H R ⟨ρ, env, st, r, re, h⟩ => by
    refine ⟨ρ, env, st, r, re, h.bind.mono fun x H1 ⟨ρ1, st1, v, e1, r1, p1, h1⟩ => ?_⟩
    cases p1 with
    | str hs => exact ⟨_, rfl, h1.here r1 ⟨_, gives_str hs, trivial⟩⟩
    | _ => exact h1.elim
theorem rngOk_ok {i : Int} (h : rngOk i = true) : -(2 ^ 62) ≤ i ∧ i < 2 ^ 62 := by
  unfold rngOk at h
  simp only [Bool.and_eq_true, decide_eq_true_eq] at h
  exact h
theorem pi_rng1 (hg : Gl X "range") (hm : X.mg "range" = none) (ha : SA X P W [a] rs) (hs : starEach [a] X.env = [(false, eval a X.env)] := by rfl) : SI X P W tg (.Call (.Name "range" p) [a] [] pos) (fRng1 rs) :=
  (pi_range1 hg hm ha hs).of fun σ H R ⟨ρ, env, st, r, re, h⟩ => by
    refine ⟨ρ, env, st, r, re, h.bind.mono fun x H1 ⟨ρ1, st1, v, e1, r1, p1, h1⟩ => ?_⟩
    split at h1
    · rename_i j
      obtain ⟨v', rfl, q⟩ := RepVs.one p1
      cases q
      obtain ⟨e, h1⟩ := bif_bad h1
      obtain ⟨b1, b2⟩ := rngOk_ok e
      exact ⟨j, rfl, b1, b2, h1.here r1 ⟨_, gives_int 0 j.toNat, trivial⟩⟩
    · exact h1.elim
theorem pi_rng2 (hg : Gl X "range") (hm : X.mg "range" = none) (ha : SA X P W [a, b] rs) (hs : starEach [a, b] X.env = [(false, eval a X.env), (false, eval b X.env)] := by rfl) (hs2 : starEach [b] X.env = [(false, eval b X.env)] := by rfl) : SI X P W tg (.Call (.Name "range" p) [a, b] [] pos) (fRng2 rs) :=
  (pi_range2 hg hm ha hs hs2).of fun σ H R ⟨ρ, env, st, r, re, h⟩ => by
    refine ⟨ρ, env, st, r, re, h.bind.mono fun x H1 ⟨ρ1, st1, v, e1, r1, p1, h1⟩ => ?_⟩
    split at h1
    · rename_i i j
      obtain ⟨v', w', rfl, q, q'⟩ := RepVs.two p1
      cases q
      cases q'
      obtain ⟨e, h1⟩ := bif_bad h1
      obtain ⟨e1, e2⟩ := Bool.and_eq_true_iff.mp e
      obtain ⟨b1, b2⟩ := rngOk_ok e1
      obtain ⟨b3, b4⟩ := rngOk_ok e2
      exact ⟨i, j, rfl, ⟨b1, b2, b3, b4⟩, h1.here r1 ⟨_, gives_int i (j - i).toNat, trivial⟩⟩
    · exact h1.elim
theorem ofG_some {K : PySem.W.Frag} {P : Par K} {W : WX} {ρ : List Addr} {H : Hp} {D : Ends} {m : Option (IEnv × Sto)} {k : SemS} (h : PostS P W ρ H D (RS.ofG m k)) : ∃ env st, m = some (env, st) ∧ PostS P W ρ H D (k env st) := by
  cases m with
  | none => exact h.elim
  | some q => obtain ⟨env, st⟩ := q; exact ⟨env, st, rfl, h⟩
theorem ss_for (hp : PassesOwn (model X.prog X.w) X.A X.env X.xe) (hc : X.calm = true) (hi : SI X P W tg iter it) (hg : SG X P tg g) (hb : SSs X P W ss r)
    (hs : ∀ x, foldedSetIterable iter X.env x = pure x := by intro _; rfl) : SS X P W (.For tg iter ss [] pos) (sFor it g r) :=
  (ps_for hp hc hi hg hb hs).of fun D σ H ⟨ρ, env, st, rl, re, h⟩ => by
    refine ⟨ρ, env, st, rl, re, (PostS.ofE rl.r re h).mono fun J H1 ⟨ρ1, st1, f, e1, r1, re1, p1, h1⟩ => ?_⟩
    cases f with
    | items xs =>
      obtain ⟨Iv, gv, iv⟩ := p1
      have h1' : PostS P W ρ1 H1 D (loopT g r xs env st1) := h1
      refine ⟨fun i m σ H => i ≤ xs.length ∧ m = xs.length - i ∧ ∃ ρ env st, RelX P H ρ st ∧ RelEnv X.K H ρ env σ ∧ Iv ρ H ∧ PostS P W ρ H D (loopT g r (xs.drop i) env st), ⟨xs.length, Nat.zero_le _, by simp, ρ1, env, st1, r1, re1, iv, h1'⟩, ?_⟩
      rintro i m σ H ⟨hi, rfl, ρ, env, st, rl, re, iv, h⟩
      by_cases hlt : i < xs.length
      · right
        have ex : xs[i]? = some xs[i] := List.getElem?_eq_getElem hlt
        obtain ⟨go, yd⟩ := gv.go iv ex
        rw [List.drop_eq_getElem_cons hlt] at h
        obtain ⟨env1, st2, eg, h⟩ := ofG_some h
        refine ⟨go, fun σ' H' => i + 1 ≤ xs.length ∧ ∃ ρ env st, RelX P H' ρ st ∧ RelEnv X.K H' ρ env σ' ∧ Iv ρ H' ∧ PostS P W ρ H' D (loopT g r (xs.drop (i + 1)) env st), fun σ' H' ⟨l, q⟩ => ⟨xs.length - (i + 1), by omega, l, rfl, q⟩, fun y H' hy => ?_⟩
        obtain ⟨xe, r', ry⟩ := yd y H' hy st rl.r
        refine ⟨ρ, env, st, xs[i], env1, st2, rl.ext xe r', re.mono rl.r xe, ry, eg, fun ρ2 H2 σ2 x2 r2 re2 => ?_⟩
        exact ⟨ρ2, env1, st2, r2, re2, PostS.loop (PostS.ext (xe.x.trans x2) h) fun ρ3 H3 σ3 env3 st3 x3 r3 re3 h3 => ⟨hlt, ρ3, env3, st3, r3, re3, gv.mono rl.r (xe.x.trans (x2.trans x3)) iv, h3⟩⟩
      · left
        have : i = xs.length := by omega
        subst this
        rw [List.drop_length] at h
        exact ⟨gv.stop iv, h.hereN rl re⟩
    | walk n len row =>
      obtain ⟨Iv, gv, iv⟩ := p1
      have h1' : PostS P W ρ1 H1 D (loopW g r n len row (n + 1) 0 env st1) := h1
      refine ⟨fun i m σ H => i ≤ n ∧ i + m = n + 1 ∧ ∃ ρ env st, RelX P H ρ st ∧ RelEnv X.K H ρ env σ ∧ Iv ρ H ∧ PostS P W ρ H D (loopW g r n len row m i env st), ⟨n + 1, Nat.zero_le _, by omega, ρ1, env, st1, r1, re1, iv, h1'⟩, ?_⟩
      rintro i m σ H ⟨hi, him, ρ, env, st, rl, re, iv, h⟩
      cases m with
      | zero => exact h.elim
      | succ m =>
        unfold loopW at h
        split at h
        · rename_i k ek
          cases hb : Nat.beq k n with
          | false => rw [hb] at h; exact h.elim
          | true =>
            rw [hb] at h
            obtain rfl := Nat.eq_of_beq_eq_true hb
            by_cases hlt : i < k
            · have hl : Nat.blt i k = true := Nat.ble_eq_true_of_le hlt
              rw [hl] at h
              simp only [cond_true] at h
              split at h
              · rename_i x ex
                obtain ⟨go, yd⟩ := gv.go iv rl.r ek hlt ex
                obtain ⟨env1, st2, eg, h⟩ := ofG_some h
                refine .inr ⟨go, fun σ' H' => i + 1 ≤ k ∧ (i + 1) + m = k + 1 ∧ ∃ ρ env st, RelX P H' ρ st ∧ RelEnv X.K H' ρ env σ' ∧ Iv ρ H' ∧ PostS P W ρ H' D (loopW g r k len row m (i + 1) env st), fun σ' H' ⟨l, l2, q⟩ => ⟨m, Nat.lt_succ_self m, l, l2, q⟩, fun y H' hy => ?_⟩
                obtain ⟨xe, r', ry⟩ := yd y H' hy
                refine ⟨ρ, env, st, x, env1, st2, rl.ext xe r', re.mono rl.r xe, ry, eg, fun ρ2 H2 σ2 x2 r2 re2 => ?_⟩
                exact ⟨ρ2, env1, st2, r2, re2, PostS.loop (PostS.ext (xe.x.trans x2) h) fun ρ3 H3 σ3 env3 st3 x3 r3 re3 h3 => ⟨hlt, by omega, ρ3, env3, st3, r3, re3, gv.mono rl.r (xe.x.trans (x2.trans x3)) iv, h3⟩⟩
              · exact h.elim
            · have hl : Nat.blt i k = false := by
                cases hq : Nat.blt i k with
                | false => rfl
                | true => exact absurd (Nat.le_of_ble_eq_true hq) hlt
              rw [hl] at h
              have : i = k := by omega
              subst this
              exact .inl ⟨gv.stop iv rl.r ek, h.hereN rl re⟩
        · exact h.elim
    | list n =>
      obtain ⟨a, ha, rfl⟩ := p1
      dsimp only at h1
      split at h1
      · rename_i xs0 e0
        refine ⟨fun i m σ H => ∃ ρ env st, RelX P H ρ st ∧ RelEnv X.K H ρ env σ ∧ ρ[n]? = some a ∧ PostS P W ρ H D (loopL g r n m i env st), ⟨xs0.length + 1, ρ1, env, st1, r1, re1, ha, h1⟩, ?_⟩
        rintro i m σ H ⟨ρ, env, st, rl, re, ha, h⟩
        cases m with
        | zero => exact h.elim
        | succ m =>
          unfold loopL at h
          split at h
          · rename_i xs e2
            obtain ⟨vs, hq, t⟩ := lstAt_sq rl.r e2 ha
            split at h
            · rename_i x ex
              obtain ⟨y, hy, ry⟩ := t.get ex
              obtain ⟨env1, st2, eg, h⟩ := ofG_some h
              refine .inr ⟨⟨vs, y, hq, hy⟩, fun σ' H' => ∃ ρ env st, RelX P H' ρ st ∧ RelEnv X.K H' ρ env σ' ∧ ρ[n]? = some a ∧ PostS P W ρ H' D (loopL g r n m (i + 1) env st), fun σ' H' q => ⟨m, Nat.lt_succ_self m, q⟩, fun z H' ⟨e, hz⟩ => ?_⟩
              subst e
              have hz' := hz vs hq
              rw [hy] at hz'
              cases hz'
              refine ⟨ρ, env, st, x, env1, st2, rl, re, ry, eg, fun ρ2 H2 σ2 x2 r2 re2 => ?_⟩
              exact ⟨ρ2, env1, st2, r2, re2, PostS.loop (PostS.ext x2 h) fun ρ3 H3 σ3 env3 st3 x3 r3 re3 h3 => ⟨ρ3, env3, st3, r3, re3, pre_get (x2.trans x3).pre ha, h3⟩⟩
            · rename_i ex
              refine .inl ⟨⟨vs, hq, ?_⟩, h.hereN rl re⟩
              rw [← t.length]
              exact List.getElem?_eq_none_iff.mp ex
          · exact h.elim
      · exact h1.elim
end
end PI

set_option Elab.async false
set_option linter.all false
set_option maxRecDepth 100000
/-! PI9: comprehensions. -/
namespace PI
open PySem PySem.Spec PyProof.Rows L2
open LamX (Tabs TabS CodeO ExtN)

/-- a comprehension's target: a name, names -/
inductive CT where
  | one (i : Nat)
  | tup (is : List Nat)
def setsI {α : Type} : List Nat → List α → List (Option α) → List (Option α)
  | i :: is, v :: vs, env => setsI is vs (env.set i (some v))
  | _, _, env => env
def CT.put (t : CT) (v : IV) (env : IEnv) : Option IEnv := match t with
  | .one i => some (env.set i (some v))
  | .tup is => match v with
    | .tup xs => bif Nat.beq xs.length is.length then some (setsI is xs env) else none
    | _ => none
def CT.slots : CT → List Nat
  | .one i => [i]
  | .tup is => is
def CT.tg (K : PySem.W.Frag) : CT → TG
  | .one i => gName i
  | .tup is => gTup K is.length fun vs σ H Q => vs.length = is.length ∧ Q (setsI is vs σ) H
def wipeI (env : IEnv) : List Nat → IEnv
  | [] => env
  | v :: vs => (wipeI env vs).set v none
def loopC (tg : CT) (env0 : IEnv) (tt : SemT) (te : SemE) : List IV → List IV → Sto → RE (List IV)
  | [], acc, st => .ok acc.reverse st
  | x :: xs, acc, st => match tg.put x env0 with
    | none => .bad
    | some env1 => match tt env1 st with
      | .ok true st1 => match te env1 st1 with
        | .ok y st2 => loopC tg env0 tt te xs (y :: acc) st2
        | _ => .bad
      | .ok false st1 => loopC tg env0 tt te xs acc st1
      | _ => .bad
def loopCL (tg : CT) (env0 : IEnv) (tt : SemT) (te : SemE) (n : Nat) : Nat → Nat → List IV → Sto → RE (List IV)
  | 0, _, _, _ => .bad
  | m + 1, i, acc, st => match lstAt st n with
    | some xs => match xs[i]? with
      | some x => match tg.put x env0 with
        | none => .bad
        | some env1 => match tt env1 st with
          | .ok true st1 => match te env1 st1 with
            | .ok y st2 => loopCL tg env0 tt te n m (i + 1) (y :: acc) st2
            | _ => .bad
          | .ok false st1 => loopCL tg env0 tt te n m (i + 1) acc st1
          | _ => .bad
      | none => .ok acc.reverse st
    | none => .bad
def loopCW (tg : CT) (env0 : IEnv) (tt : SemT) (te : SemE) (n : Nat) (len : Sto → Option Nat) (row : Sto → Nat → Option IV) : Nat → Nat → List IV → Sto → RE (List IV)
  | 0, _, _, _ => .bad
  | m + 1, i, acc, st => match len st with
    | some k => bif Nat.beq k n then (bif Nat.blt i n then (match row st i with
      | some x => match tg.put x env0 with
        | none => .bad
        | some env1 => match tt env1 st with
          | .ok true st1 => match te env1 st1 with
            | .ok y st2 => loopCW tg env0 tt te n len row m (i + 1) (y :: acc) st2
            | _ => .bad
          | .ok false st1 => loopCW tg env0 tt te n len row m (i + 1) acc st1
          | _ => .bad
      | none => .bad) else .ok acc.reverse st) else .bad
    | none => .bad
def rLc (it : IEnv → Sto → RE FI) (tg : CT) (vs : List Nat) (tt : SemT) (te : SemE) : SemE := fun env st => (it env st).bind fun f st1 =>
  RE.bind (match f with
  | .items xs => bif Nat.ble xs.length lineI then loopC tg (wipeI env vs) tt te xs [] st1 else .bad
  | .list n => match lstAt st1 n with
    | some xs => bif Nat.ble xs.length lineI then loopCL tg (wipeI env vs) tt te n (xs.length + 1) 0 [] st1 else .bad
    | none => .bad
  | .walk n len row => bif Nat.ble n lineI then loopCW tg (wipeI env vs) tt te n len row (n + 1) 0 [] st1 else .bad) fun ys st2 => RE.ofO (st2.allocO (.lst ys))
def rYes : SemT := fun _ st => .ok true st

section
variable {K : PySem.W.Frag} {H H' : Hp} {ρ : List Addr} {st : Sto}
mutual
theorem RepV.byTup (h : ∀ (a : Addr) (vs : List V), SqT K H a vs → SqT K H' a vs) : ∀ {v : IV} {x : V}, RepV K H ρ v x → RepV K H' ρ v x
  | _, _, .non => .non
  | _, _, .bl b => .bl b
  | _, _, .int i => .int i
  | _, _, .str q => .str q
  | _, _, .tup q t => .tup (h _ _ q) (RepVs.byTup h t)
  | _, _, .ref q => .ref q
theorem RepVs.byTup (h : ∀ (a : Addr) (vs : List V), SqT K H a vs → SqT K H' a vs) : ∀ {v : List IV} {x : List V}, RepVs K H ρ v x → RepVs K H' ρ v x
  | _, _, .nil => .nil
  | _, _, .cons q t => .cons (RepV.byTup h q) (RepVs.byTup h t)
end
theorem sqT_upd {D : Addr} {xs ys : List V} (hD : H D = some (.lst xs)) (a : Addr) (vs : List V) (h : SqT K H a vs) : SqT K (upd H D (.lst ys)) a vs := by
  rcases h with (h | ⟨o, h⟩) | h
  · exact .inl (.inl (by rw [upd_ne (ne_of h hD (fun z => nomatch z))]; exact h))
  · exact .inl (.inr ⟨o, by rw [upd_ne (ne_of h hD (fun z => nomatch z))]; exact h⟩)
  · exact .inr h
/-- a list that is not in the store is changed -/
theorem Rel.side (r : Rel K H ρ st) {D : Addr} {xs ys : List V} (hD : H D = some (.lst xs)) (hn : D ∉ ρ) : Rel K (upd H D (.lst ys)) ρ st := by
  refine ⟨r.len, r.nd, fun n o a e1 e2 => ?_⟩
  have hne : a ≠ D := fun z => hn (z ▸ List.mem_of_getElem? e2)
  have q := r.obj n o a e1 e2
  cases o with
  | lst zs => obtain ⟨vs, q, t⟩ := q; exact ⟨vs, by rw [upd_ne hne]; exact q, RepVs.byTup (sqT_upd hD) t⟩
  | frl zs => obtain ⟨vs, q, t⟩ := q; exact ⟨vs, by unfold Rd; rw [upd_ne hne]; exact q, RepVs.byTup (sqT_upd hD) t⟩
theorem Tabs.side {T : List (Addr × Str)} (t : Tabs T H) {D : Addr} {xs ys : List V} (hD : H D = some (.lst xs)) : Tabs T (upd H D (.lst ys)) := by
  intro p hp
  obtain ⟨ps, h1, h2, h3⟩ := t p hp
  refine ⟨ps, by rw [upd_ne (ne_of h1 hD (fun z => nomatch z))]; exact h1, h2, fun pos cv hc => ?_⟩
  obtain ⟨c, e1, e2⟩ := h3 pos cv hc
  exact ⟨c, e1, by rw [upd_ne (ne_of e2 hD (fun z => by unfold CodeO at z; cases z))]; exact e2⟩
/-- a list comes into the store -/
theorem Rel.adopt (r : Rel K H ρ st) {D : Addr} {xs : List V} {ys : List IV} (hD : H D = some (.lst xs)) (hn : D ∉ ρ) (t : RepVs K H ρ ys xs) : Rel K H (ρ ++ [D]) { st with os := st.os ++ [.lst ys] } := by
  have pre : ExtX ρ H (ρ ++ [D]) H → True := fun _ => trivial
  have mv : ∀ {v : List IV} {x : List V}, RepVs K H ρ v x → RepVs K H (ρ ++ [D]) v x := by
    intro v x q
    induction q using RepVs.rec (motive_1 := fun v x _ => RepV K H (ρ ++ [D]) v x) with
    | non => exact .non
    | bl b => exact .bl b
    | int i => exact .int i
    | str h => exact .str h
    | tup h _ t => exact .tup h t
    | ref h => exact .ref (pre_get (List.prefix_append ρ [D]) h)
    | nil => exact .nil
    | cons _ _ h t => exact .cons h t
  have hl := r.len
  refine ⟨by simp [r.len], ?_, fun n o a e1 e2 => ?_⟩
  · rw [List.nodup_append]
    refine ⟨r.nd, by simp, fun a ha b hb => ?_⟩
    have : b = D := by simpa using hb
    subst this
    exact fun z => hn (z ▸ ha)
  · by_cases hlt : n < st.os.length
    · have e1' : st.os[n]? = some o := by
        have e1'' : (st.os ++ [IO.lst ys])[n]? = some o := e1
        rwa [List.getElem?_append_left hlt] at e1''
      have e2' : ρ[n]? = some a := by rwa [List.getElem?_append_left (by omega)] at e2
      have q := r.obj n o a e1' e2'
      cases o with
      | lst zs => obtain ⟨vs, q, t⟩ := q; exact ⟨vs, q, mv t⟩
      | frl zs => obtain ⟨vs, q, t⟩ := q; exact ⟨vs, q, mv t⟩
    · have hn1 : n < (st.os ++ [IO.lst ys]).length := (List.getElem?_eq_some_iff.mp (show (st.os ++ [IO.lst ys])[n]? = some o from e1)).1
      have en : n = st.os.length := by
        rw [List.length_append, List.length_cons, List.length_nil] at hn1
        omega
      subst en
      have e1'' : (st.os ++ [IO.lst ys])[st.os.length]? = some o := e1
      have e2'' : (ρ ++ [D])[st.os.length]? = some a := e2
      rw [List.getElem?_append_right (Nat.le_refl _)] at e1''
      rw [← hl, List.getElem?_append_right (Nat.le_refl _)] at e2''
      simp at e1'' e2''
      subst e1'' e2''
      exact ⟨xs, hD, mv t⟩
theorem RelEnv.wipe {env : IEnv} {σ : L2.St} (h : RelEnv K H ρ env σ) : ∀ vs : List Nat, RelEnv K H ρ (wipeI env vs) (L2.wipe σ vs)
  | [] => h
  | v :: vs => by
    have ih := RelEnv.wipe h vs
    show RelEnv K H ρ ((wipeI env vs).set v none) ((L2.wipe σ vs).set v none)
    refine ⟨by simp [ih.len], fun j w e => ?_⟩
    by_cases hj : v = j
    · subst hj
      have hl : v < (wipeI env vs).length := by
        have := (List.getElem?_eq_some_iff.mp e).1
        simpa using this
      rw [List.getElem?_set_self hl] at e
      cases e
    · rw [List.getElem?_set_ne hj] at e ⊢
      exact ih.get j w e
theorem setsI_len {α : Type} : ∀ (is : List Nat) (vs : List α) (env : List (Option α)), (setsI is vs env).length = env.length
  | [], _, _ => rfl
  | _ :: _, [], _ => rfl
  | i :: is, v :: vs, env => by show (setsI is vs (env.set i (some v))).length = _; rw [setsI_len is vs, List.length_set]
theorem RelEnv.sets : ∀ {is : List Nat} {xs : List IV} {vs : List V} {env : IEnv} {σ : L2.St}, RelEnv K H ρ env σ → RepVs K H ρ xs vs → RelEnv K H ρ (setsI is xs env) (setsI is vs σ)
  | [], _, _, _, _, h, _ => h
  | _ :: _, _, _, _, _, h, .nil => h
  | i :: is, _, _, _, _, h, .cons q t => RelEnv.sets (is := is) (h.set q i) t
theorem wipe_set {σ : L2.St} {x : V} {i : Nat} : ∀ {vs : List Nat}, i ∈ vs → L2.wipe (σ.set i (some x)) vs = L2.wipe σ vs
  | v :: vs, h => by
    show (L2.wipe (σ.set i (some x)) vs).set v none = (L2.wipe σ vs).set v none
    by_cases hi : i ∈ vs
    · rw [wipe_set hi]
    · have hv : i = v := by
        rcases List.mem_cons.mp h with h | h
        · exact h
        · exact absurd h hi
      subst hv
      have key : ∀ (vs : List Nat) (σ : L2.St), i ∉ vs → L2.wipe (σ.set i (some x)) vs = (L2.wipe σ vs).set i (some x) := fun vs => by
        induction vs with
        | nil => exact fun _ _ => rfl
        | cons u us ih =>
          intro σ hu
          simp only [List.mem_cons, not_or] at hu
          show (L2.wipe (σ.set i (some x)) us).set u none = ((L2.wipe σ us).set u none).set i (some x)
          rw [ih σ hu.2, List.set_comm _ _ hu.1]
      rw [key vs σ hi, List.set_set]
theorem wipe_sets {vs : List Nat} : ∀ {is : List Nat} {xs : List V} {σ : L2.St}, (∀ i ∈ is, i ∈ vs) → L2.wipe (setsI is xs σ) vs = L2.wipe σ vs
  | [], _, _, _ => rfl
  | _ :: _, [], _, _ => rfl
  | i :: is, x :: xs, σ, h => by
    show L2.wipe (setsI is xs (σ.set i (some x))) vs = _
    rw [wipe_sets fun j hj => h j (List.mem_cons_of_mem _ hj), wipe_set (h i List.mem_cons_self)]
theorem wipe_wipe {σ : L2.St} {vs : List Nat} : L2.wipe (L2.wipe σ vs) vs = L2.wipe σ vs := by
  have key : ∀ (us : List Nat) (σ : L2.St), (∀ u ∈ us, σ[u]? = some none ∨ σ.length ≤ u) → L2.wipe σ us = σ := fun us => by
    induction us with
    | nil => exact fun _ _ => rfl
    | cons u us ih =>
      intro σ h
      show (L2.wipe σ us).set u none = σ
      rw [ih σ fun w hw => h w (List.mem_cons_of_mem _ hw)]
      rcases h u List.mem_cons_self with e | e
      · obtain ⟨hl, e2⟩ := List.getElem?_eq_some_iff.mp e
        apply List.ext_getElem?
        intro j
        by_cases hj : u = j
        · subst hj; rw [List.getElem?_set_self hl, e]
        · rw [List.getElem?_set_ne hj]
      · exact List.set_eq_of_length_le e
  refine key vs _ fun u hu => ?_
  by_cases hl : u < σ.length
  · left
    have : ∀ (us : List Nat), u ∈ us → (L2.wipe σ us)[u]? = some none := fun us => by
      induction us with
      | nil => exact fun z => nomatch z
      | cons w us ih =>
        intro hm
        show ((L2.wipe σ us).set w none)[u]? = some none
        by_cases hw : w = u
        · subst hw
          rw [List.getElem?_set_self (by rw [wipe_length]; exact hl)]
        · rw [List.getElem?_set_ne hw]
          rcases List.mem_cons.mp hm with z | z
          · exact absurd z.symm hw
          · exact ih z
    exact this vs hu
  · right
    rw [wipe_length]
    omega
end

section
variable {K : PySem.W.Frag} {H : Hp} {ρ : List Addr}
theorem put_ok {ct : CT} {x : IV} {y : V} {env0 env1 : IEnv} {σ0 : L2.St} {vs : List Nat} (e : ct.put x env0 = some env1) (p : RepV K H ρ x y) (re : RelEnv K H ρ env0 σ0) (hsl : ∀ i ∈ ct.slots, i ∈ vs) {Q : L2.St → Hp → Prop}
    (h : ∀ σ2, RelEnv K H ρ env1 σ2 → L2.wipe σ2 vs = L2.wipe σ0 vs → Q σ2 H) : ct.tg K y σ0 H Q := by
  cases ct with
  | one i =>
    cases e
    exact h _ (re.set p i) (wipe_set (hsl i (by simp [CT.slots])))
  | tup is =>
    cases p with
    | @tup xs ws a hq t =>
      have e' : (bif Nat.beq xs.length is.length then some (setsI is xs env0) else none) = some env1 := e
      cases hb : Nat.beq xs.length is.length with
      | false => rw [hb] at e'; cases e'
      | true =>
        rw [hb] at e'
        cases e'
        have hl : ws.length = is.length := by rw [← t.length]; exact Nat.eq_of_beq_eq_true hb
        exact ⟨a, ws, rfl, hq, hl, hl, h _ (re.sets t) (wipe_sets hsl)⟩
    | _ => cases e
end
abbrev WF : WX := fun _ _ _ _ => False
section
variable {X : Cx} {P : Par X.K} {W : WX} {elt tg iter : Expr} {ifs : List Expr} {scope : Scope} {own : List (Str × Nat)} {pos : Pos} {it : IEnv → Sto → RE FI} {ct : CT} {tt : SemT} {te : SemE}
/-- one turn -/
theorem turn_ok {K : PySem.W.Frag} {P : Par K} {σ : L2.St} {H : Hp} {ρ : List Addr} {st : Sto} {env0 env1 : IEnv} {x : IV} {y : V} {vs : List Nat} {D : Addr} {Nx : Hp → Prop} (rx : RelX P H ρ st) (re : RelEnv K H ρ env0 (L2.wipe σ vs)) (hsl : ∀ i ∈ ct.slots, i ∈ vs) (p : RepV K H ρ x y) (e : ct.put x env0 = some env1)
    {accV : List V} (hD : H D = some (.lst accV)) (hDn : D ∉ ρ) (hz : accV.length < sizeLine) (nx : ∃ b st1, tt env1 st = .ok b st1 ∧ (b = true → ∃ z st2, te env1 st1 = .ok z st2 ∧ ∀ ρ' H' v, ExtX ρ H ρ' H' → RelX P H' ρ' st2 → RepV K H' ρ' z v → Nx (upd H' D (.lst (accV ++ [v])))) ∧
      (b = false → ∀ ρ' H', ExtX ρ H ρ' H' → RelX P H' ρ' st1 → Nx H')) :
    ct.tg K y (L2.wipe σ vs) H fun σ2 H2 => L2.wipe σ2 vs = L2.wipe σ vs ∧ tT P WF tt σ2 H2 fun b H3 => if b = true then tE P WF te σ2 H3 fun y H4 => ∃ acc, H4 D = some (.lst acc) ∧ acc.length < sizeLine ∧ Nx (upd H4 D (.lst (acc ++ [y]))) else Nx H3 := by
  refine put_ok e p re hsl fun σ2 re2 hw => ⟨hw.trans wipe_wipe, ρ, env1, st, rx, re2, ?_⟩
  obtain ⟨b, st1, e1, h1, h2⟩ := nx
  rw [e1]
  intro ρ' H' k x1 r1 hk
  obtain rfl : b = k := hk
  cases b with
  | false =>
    rw [if_neg Bool.false_ne_true]
    exact h2 rfl ρ' H' x1 r1
  | true =>
    rw [if_pos rfl]
    obtain ⟨z, st2, e2, h3⟩ := h1 rfl
    refine ⟨ρ', env1, st1, r1, re2.monoX rx.r x1, ?_⟩
    rw [e2]
    intro ρ2 H2 v x2 r2 pv
    exact ⟨accV, (x1.trans x2).keep D _ hD hDn (fun ps z => nomatch z), hz, h3 ρ2 H2 v (x1.trans x2) r2 pv⟩
theorem ExtX.updNew {ρ ρ' : List Addr} {H H' : Hp} (e : ExtX ρ H ρ' H') {D : Addr} (hD : H D = none) (u : HO) : ExtX ρ H ρ' (upd H' D u) :=
  ⟨e.pre, fun a o h n ht => by rw [upd_ne (ne_of_none h hD)]; exact e.keep a o h n ht, e.new⟩
theorem ExtX.push {ρ ρ' : List Addr} {H H' : Hp} (e : ExtX ρ H ρ' H') {D : Addr} (hD : H D = none) : ExtX ρ H (ρ' ++ [D]) H' :=
  ⟨e.pre.trans (List.prefix_append _ _), e.keep, fun a h => by
    rcases List.mem_append.mp h with h | h
    · exact e.new a h
    · have : a = D := by simpa using h
      subst this
      exact .inr (.inl hD)⟩
/-- the list so far -/
structure Acc {K : PySem.W.Frag} (P : Par K) (ρ1 : List Addr) (H1 : Hp) (D : Addr) (i : Nat) (ρ : List Addr) (H : Hp) (st : Sto) (acc : List IV) (accV : List V) : Prop where
  ext : ExtX ρ1 H1 ρ H
  rel : RelX P H ρ st
  out : D ∉ ρ
  at' : H D = some (.lst accV)
  rep : RepVs K H ρ acc.reverse accV
  len : accV.length ≤ i
theorem Acc.push {K : PySem.W.Frag} {P : Par K} {ρ1 ρ ρ' : List Addr} {H1 H H' : Hp} {D : Addr} {i : Nat} {st st0 st2 : Sto} {acc : List IV} {accV : List V} {z : IV} {v : V} (h : Acc P ρ1 H1 D i ρ H st acc accV) (r1 : RelX P H1 ρ1 st0) (hD : H1 D = none)
    (x : ExtX ρ H ρ' H') (r : RelX P H' ρ' st2) (p : RepV K H' ρ' z v) : Acc P ρ1 H1 D (i + 1) ρ' (upd H' D (.lst (accV ++ [v]))) st2 (z :: acc) (accV ++ [v]) := by
  have hD' : H' D = some (.lst accV) := x.keep D _ h.at' h.out (fun ps z => nomatch z)
  have out : D ∉ ρ' := fun q => by
    rcases x.new D q with q | q | ⟨ps, q⟩
    · exact h.out q
    · rw [h.at'] at q; cases q
    · rw [h.at'] at q; cases q
  have ext : ExtX ρ1 H1 ρ' (upd H' D (.lst (accV ++ [v]))) := (h.ext.trans x).updNew hD _
  refine ⟨ext, ⟨Rel.side r.r hD' out, Tabs.side r.tabs hD', P.mono r1.r ext r1.sd⟩, out, upd_same, ?_, by rw [List.length_append]; have := h.len; simp; omega⟩
  rw [List.reverse_cons]
  exact RepVs.byTup (sqT_upd hD') ((h.rep.monoX h.rel.r x).append (.cons p .nil))
theorem Acc.stay {K : PySem.W.Frag} {P : Par K} {ρ1 ρ ρ' : List Addr} {H1 H H' : Hp} {D : Addr} {i : Nat} {st st2 : Sto} {acc : List IV} {accV : List V} (h : Acc P ρ1 H1 D i ρ H st acc accV)
    (x : ExtX ρ H ρ' H') (r : RelX P H' ρ' st2) : Acc P ρ1 H1 D (i + 1) ρ' H' st2 acc accV := by
  refine ⟨h.ext.trans x, r, fun q => ?_, x.keep D _ h.at' h.out (fun ps z => nomatch z), h.rep.monoX h.rel.r x, Nat.le_succ_of_le h.len⟩
  rcases x.new D q with q | q | ⟨ps, q⟩
  · exact h.out q
  · rw [h.at'] at q; cases q
  · rw [h.at'] at q; cases q
theorem Acc.move {K : PySem.W.Frag} {P : Par K} {ρ1 ρ ρ' : List Addr} {H1 H H' : Hp} {D : Addr} {i : Nat} {st st2 : Sto} {acc : List IV} {accV : List V} (h : Acc P ρ1 H1 D i ρ H st acc accV)
    (x : ExtX ρ H ρ' H') (r : RelX P H' ρ' st2) : Acc P ρ1 H1 D i ρ' H' st2 acc accV :=
  let s := h.stay x r
  ⟨s.ext, s.rel, s.out, s.at', s.rep, h.len⟩
theorem Acc.fin {K : PySem.W.Frag} {P : Par K} {W : WX} {ρ1 ρ : List Addr} {H1 H : Hp} {σ : L2.St} {D : Addr} {i : Nat} {st st0 : Sto} {acc : List IV} {accV : List V} {Q : VK} (h : Acc P ρ1 H1 D i ρ H st acc accV) (r1 : RelX P H1 ρ1 st0) (hD : H1 D = none)
    (q : Post P W (RpV K) ρ1 H1 σ Q ((RE.ok acc.reverse st).bind fun ys st2 => RE.ofO (st2.allocO (.lst ys)))) : Q (.ref D) H := by
  have q' : Post P W (RpV K) ρ1 H1 σ Q (.ok (.ref st.os.length) { st with os := st.os ++ [.lst acc.reverse] }) := q
  have e := h.ext.push hD
  exact q' (ρ ++ [D]) H (.ref D) e ⟨Rel.adopt h.rel.r h.at' h.out h.rep, h.rel.tabs, P.mono r1.r e r1.sd⟩ (.ref (rep_last h.rel.r D))
/-- what a comprehension asks once its iterator has come -/
def LcGoal (K : PySem.W.Frag) (ct : CT) (tt : TT) (te : TE) (vs : List Nat) (σ : L2.St) (Q : VK) (J : It) (H1 : Hp) : Prop := ∀ D, H1 D = none → ∃ W : Nat → Nat → Hp → Prop, (∃ m, W 0 m (upd H1 D (.lst []))) ∧ ∀ i m H, W i m H →
  (J.stop i H ∧ Q (.ref D) H) ∨ (J.go i H ∧ ∃ Nx : Hp → Prop, (∀ H', Nx H' → ∃ m', m' < m ∧ W (i + 1) m' H') ∧ ∀ x H', J.yld i H x H' → ct.tg K x (L2.wipe σ vs) H' fun σ2 H2 => L2.wipe σ2 vs = L2.wipe σ vs ∧ tt σ2 H2 fun b H3 =>
    if b = true then te σ2 H3 fun y H4 => ∃ acc, H4 D = some (.lst acc) ∧ acc.length < sizeLine ∧ Nx (upd H4 D (.lst (acc ++ [y]))) else Nx H3)
theorem lc_ok (hsl : ∀ i ∈ ct.slots, i ∈ own.map (·.2)) {σ : L2.St} {H1 : Hp} {Q : VK} {ρ1 : List Addr} {env : IEnv} {st1 : Sto} {f : FI} {J : It} (r1 : RelX P H1 ρ1 st1) (re1 : RelEnv X.K H1 ρ1 env σ) (p1 : RpI X.K H1 ρ1 f J)
    (h1 : Post P W (RpV X.K) ρ1 H1 σ Q (RE.bind (match f with
      | .items xs => bif Nat.ble xs.length lineI then loopC ct (wipeI env (own.map (·.2))) tt te xs [] st1 else .bad
      | .list n => match lstAt st1 n with
        | some xs => bif Nat.ble xs.length lineI then loopCL ct (wipeI env (own.map (·.2))) tt te n (xs.length + 1) 0 [] st1 else .bad
        | none => .bad
      | .walk n len row => bif Nat.ble n lineI then loopCW ct (wipeI env (own.map (·.2))) tt te n len row (n + 1) 0 [] st1 else .bad) fun ys st2 => RE.ofO (st2.allocO (.lst ys)))) :
    LcGoal X.K ct (tT P WF tt) (tE P WF te) (own.map (·.2)) σ Q J H1 := by
  intro D hD
  have A0 : Acc P ρ1 H1 D 0 ρ1 (upd H1 D (.lst [])) st1 [] [] :=
    ⟨(Ext.fresh r1.r hD _).x, r1.ext (Ext.fresh r1.r hD _) (r1.r.fresh hD _), fresh_not r1.r hD, upd_same, .nil, Nat.le_refl _⟩
  cases f with
  | items xs =>
    obtain ⟨Iv, gv, iv⟩ := p1
    obtain ⟨hz, h1⟩ : Nat.ble xs.length lineI = true ∧ Post P W (RpV X.K) ρ1 H1 σ Q ((loopC ct (wipeI env (own.map (·.2))) tt te xs [] st1).bind fun ys st2 => RE.ofO (st2.allocO (.lst ys))) := by
      cases hb : Nat.ble xs.length lineI with
      | false => simp only [hb] at h1; exact h1.elim
      | true => simp only [hb] at h1; exact ⟨rfl, h1⟩
    have hz' := Nat.le_of_ble_eq_true hz
    refine ⟨fun i m H => i ≤ xs.length ∧ m = xs.length - i ∧ ∃ ρ acc accV st, Acc P ρ1 H1 D i ρ H st acc accV ∧ Post P W (RpV X.K) ρ1 H1 σ Q ((loopC ct (wipeI env (own.map (·.2))) tt te (xs.drop i) acc st).bind fun ys st2 => RE.ofO (st2.allocO (.lst ys))), ⟨xs.length, Nat.zero_le _, by simp, ρ1, [], [], st1, A0, h1⟩, ?_⟩
    rintro i m H ⟨hi, rfl, ρ, acc, accV, st, A, h⟩
    have ivn := gv.mono r1.r A.ext iv
    by_cases hlt : i < xs.length
    · right
      have ex : xs[i]? = some xs[i] := List.getElem?_eq_getElem hlt
      obtain ⟨go, yd⟩ := gv.go ivn ex
      rw [List.drop_eq_getElem_cons hlt] at h
      unfold loopC at h
      refine ⟨go, fun H => i + 1 ≤ xs.length ∧ ∃ ρ acc accV st, Acc P ρ1 H1 D (i + 1) ρ H st acc accV ∧ Post P W (RpV X.K) ρ1 H1 σ Q ((loopC ct (wipeI env (own.map (·.2))) tt te (xs.drop (i + 1)) acc st).bind fun ys st2 => RE.ofO (st2.allocO (.lst ys))), fun H' ⟨l, q⟩ => ⟨xs.length - (i + 1), by omega, l, rfl, q⟩, fun y H' hy => ?_⟩
      obtain ⟨xe, r', ry⟩ := yd y H' hy st A.rel.r
      replace A := A.move xe.x (A.rel.ext xe r')
      cases ep : ct.put xs[i] (wipeI env (own.map (·.2))) with
      | none => rw [ep] at h; exact h.elim
      | some env1 =>
        rw [ep] at h
        dsimp only at h
        refine turn_ok A.rel ((re1.monoX r1.r A.ext).wipe _) hsl ry ep A.at' A.out (line_lt (Nat.lt_of_lt_of_le (Nat.lt_of_le_of_lt A.len hlt) hz')) ?_
        cases et : tt env1 st with
        | ok b st2 =>
          rw [et] at h
          refine ⟨b, st2, rfl, fun hb => ?_, fun hb ρ' H' x' r' => ?_⟩
          · subst hb
            dsimp only at h
            cases ee : te env1 st2 with
            | ok z st3 =>
              rw [ee] at h
              exact ⟨z, st3, rfl, fun ρ' H' v x' r' pv => ⟨hlt, ρ', _, _, st3, A.push r1 hD x' r' pv, h⟩⟩
            | exc => rw [ee] at h; exact h.elim
            | bad => rw [ee] at h; exact h.elim
          · subst hb
            exact ⟨hlt, ρ', _, _, st2, A.stay x' r', h⟩
        | exc => rw [et] at h; exact h.elim
        | bad => rw [et] at h; exact h.elim
    · left
      have : i = xs.length := by omega
      subst this
      rw [List.drop_length] at h
      exact ⟨gv.stop ivn, A.fin r1 hD h⟩
  | walk n len row =>
    obtain ⟨Iv, gv, iv⟩ := p1
    obtain ⟨hz, h1⟩ : Nat.ble n lineI = true ∧ Post P W (RpV X.K) ρ1 H1 σ Q ((loopCW ct (wipeI env (own.map (·.2))) tt te n len row (n + 1) 0 [] st1).bind fun ys st2 => RE.ofO (st2.allocO (.lst ys))) := by
      cases hb : Nat.ble n lineI with
      | false => simp only [hb] at h1; exact h1.elim
      | true => simp only [hb] at h1; exact ⟨rfl, h1⟩
    have hz' := Nat.le_of_ble_eq_true hz
    refine ⟨fun i m H => i ≤ n ∧ i + m = n + 1 ∧ ∃ ρ acc accV st, Acc P ρ1 H1 D i ρ H st acc accV ∧ Post P W (RpV X.K) ρ1 H1 σ Q ((loopCW ct (wipeI env (own.map (·.2))) tt te n len row m i acc st).bind fun ys st2 => RE.ofO (st2.allocO (.lst ys))), ⟨n + 1, Nat.zero_le _, by omega, ρ1, [], [], st1, A0, h1⟩, ?_⟩
    rintro i m H ⟨hi, him, ρ, acc, accV, st, A, h⟩
    have ivn := gv.mono r1.r A.ext iv
    cases m with
    | zero => exact h.elim
    | succ m =>
      unfold loopCW at h
      split at h
      · rename_i k ek
        cases hb : Nat.beq k n with
        | false => rw [hb] at h; exact h.elim
        | true =>
          rw [hb] at h
          obtain rfl := Nat.eq_of_beq_eq_true hb
          by_cases hlt : i < k
          · have hl : Nat.blt i k = true := Nat.ble_eq_true_of_le hlt
            rw [hl] at h
            simp only [cond_true] at h
            split at h
            · rename_i x ex
              obtain ⟨go, yd⟩ := gv.go ivn A.rel.r ek hlt ex
              refine .inr ⟨go, fun H => i + 1 ≤ k ∧ (i + 1) + m = k + 1 ∧ ∃ ρ acc accV st, Acc P ρ1 H1 D (i + 1) ρ H st acc accV ∧ Post P W (RpV X.K) ρ1 H1 σ Q ((loopCW ct (wipeI env (own.map (·.2))) tt te k len row m (i + 1) acc st).bind fun ys st2 => RE.ofO (st2.allocO (.lst ys))), fun H' ⟨l, l2, q⟩ => ⟨m, Nat.lt_succ_self m, l, l2, q⟩, fun y H' hy => ?_⟩
              obtain ⟨xe, r', ry⟩ := yd y H' hy
              replace A := A.move xe.x (A.rel.ext xe r')
              cases ep : ct.put x (wipeI env (own.map (·.2))) with
              | none => rw [ep] at h; exact h.elim
              | some env1 =>
                rw [ep] at h
                dsimp only at h
                refine turn_ok A.rel ((re1.monoX r1.r A.ext).wipe _) hsl ry ep A.at' A.out (line_lt (Nat.lt_of_lt_of_le (Nat.lt_of_le_of_lt A.len hlt) hz')) ?_
                cases et : tt env1 st with
                | ok b st2 =>
                  rw [et] at h
                  refine ⟨b, st2, rfl, fun hb => ?_, fun hb ρ' H' x' r' => ?_⟩
                  · subst hb
                    dsimp only at h
                    cases ee : te env1 st2 with
                    | ok z st3 =>
                      rw [ee] at h
                      exact ⟨z, st3, rfl, fun ρ' H' v x' r' pv => ⟨hlt, by omega, ρ', _, _, st3, A.push r1 hD x' r' pv, h⟩⟩
                    | exc => rw [ee] at h; exact h.elim
                    | bad => rw [ee] at h; exact h.elim
                  · subst hb
                    exact ⟨hlt, by omega, ρ', _, _, st2, A.stay x' r', h⟩
                | exc => rw [et] at h; exact h.elim
                | bad => rw [et] at h; exact h.elim
            · exact h.elim
          · have hl : Nat.blt i k = false := by
              cases hq : Nat.blt i k with
              | false => rfl
              | true => exact absurd (Nat.le_of_ble_eq_true hq) hlt
            rw [hl] at h
            have : i = k := by omega
            subst this
            exact .inl ⟨gv.stop ivn A.rel.r ek, A.fin r1 hD h⟩
      · exact h.elim
  | list n =>
    obtain ⟨a, ha, rfl⟩ := p1
    dsimp only at h1
    split at h1
    · rename_i xs0 e0
      obtain ⟨hz, h1⟩ : Nat.ble xs0.length lineI = true ∧ Post P W (RpV X.K) ρ1 H1 σ Q ((loopCL ct (wipeI env (own.map (·.2))) tt te n (xs0.length + 1) 0 [] st1).bind fun ys st2 => RE.ofO (st2.allocO (.lst ys))) := by
        cases hb : Nat.ble xs0.length lineI with
        | false => simp only [hb] at h1; exact h1.elim
        | true => simp only [hb] at h1; exact ⟨rfl, h1⟩
      have hz' := Nat.le_of_ble_eq_true hz
      refine ⟨fun i m H => i + m = xs0.length + 1 ∧ ∃ ρ acc accV st, Acc P ρ1 H1 D i ρ H st acc accV ∧ Post P W (RpV X.K) ρ1 H1 σ Q ((loopCL ct (wipeI env (own.map (·.2))) tt te n m i acc st).bind fun ys st2 => RE.ofO (st2.allocO (.lst ys))), ⟨xs0.length + 1, by omega, ρ1, [], [], st1, A0, h1⟩, ?_⟩
      rintro i m H ⟨him, ρ, acc, accV, st, A, h⟩
      cases m with
      | zero => exact h.elim
      | succ m =>
        unfold loopCL at h
        split at h
        · rename_i xs e2
          obtain ⟨vs, hq, t⟩ := lstAt_sq A.rel.r e2 (pre_get A.ext.pre ha)
          split at h
          · rename_i x ex
            obtain ⟨y, hy, ry⟩ := t.get ex
            refine .inr ⟨⟨vs, y, hq, hy⟩, fun H => (i + 1) + m = xs0.length + 1 ∧ ∃ ρ acc accV st, Acc P ρ1 H1 D (i + 1) ρ H st acc accV ∧ Post P W (RpV X.K) ρ1 H1 σ Q ((loopCL ct (wipeI env (own.map (·.2))) tt te n m (i + 1) acc st).bind fun ys st2 => RE.ofO (st2.allocO (.lst ys))), fun H' q => ⟨m, Nat.lt_succ_self m, q⟩, fun z H' ⟨e, hz2⟩ => ?_⟩
            subst e
            have hz3 := hz2 vs hq
            rw [hy] at hz3
            cases hz3
            cases ep : ct.put x (wipeI env (own.map (·.2))) with
            | none => rw [ep] at h; exact h.elim
            | some env1 =>
              rw [ep] at h
              dsimp only at h
              refine turn_ok A.rel ((re1.monoX r1.r A.ext).wipe _) hsl ry ep A.at' A.out (Nat.lt_of_le_of_lt A.len (Nat.lt_of_lt_of_le (Nat.lt_succ_self i) ?_)) ?_
              · have : sizeLine ≥ lineI + 1 := by decide
                omega
              cases et : tt env1 st with
              | ok b st2 =>
                rw [et] at h
                refine ⟨b, st2, rfl, fun hb => ?_, fun hb ρ' H' x' r' => ?_⟩
                · subst hb
                  dsimp only at h
                  cases ee : te env1 st2 with
                  | ok z st3 =>
                    rw [ee] at h
                    exact ⟨z, st3, rfl, fun ρ' H' v x' r' pv => ⟨by omega, ρ', _, _, st3, A.push r1 hD x' r' pv, h⟩⟩
                  | exc => rw [ee] at h; exact h.elim
                  | bad => rw [ee] at h; exact h.elim
                · subst hb
                  exact ⟨by omega, ρ', _, _, st2, A.stay x' r', h⟩
              | exc => rw [et] at h; exact h.elim
              | bad => rw [et] at h; exact h.elim
          · rename_i ex
            refine .inl ⟨⟨vs, hq, ?_⟩, A.fin r1 hD h⟩
            rw [← t.length]
            exact List.getElem?_eq_none_iff.mp ex
        · exact h.elim
    · exact h1.elim
theorem se_lc (hc : X.calm = true) (hN : X.N.Nodup) (hi : SI X P W tg iter it) (ok : BlkOk X.N X.env.scope scope own) (hsl : ∀ i ∈ ct.slots, i ∈ own.map (·.2))
    (hg : ∀ (s : Shared) (H : Hp) (C : Addr) (cl : List (Str × Addr)) (fp : List Addr), PG (X.blk s H scope (compEnvC scope cl C X.env) fp) tg (ct.tg X.K)) (ht : ∀ (s : Shared) (H : Hp) (C : Addr) (cl : List (Str × Addr)) (fp : List Addr), PTs (X.blk s H scope (compEnvC scope cl C X.env) fp) ifs (tT P WF tt))
    (he : ∀ (s : Shared) (H : Hp) (C : Addr) (cl : List (Str × Addr)) (fp : List Addr), PE (X.blk s H scope (compEnvC scope cl C X.env) fp) elt (tE P WF te)) (hs : ∀ x, foldedSetIterable iter X.env x = pure x := by intro _; rfl) :
    SE X P W (.ListComp elt [⟨tg, iter, ifs, 0⟩] scope pos) (rLc it ct (own.map (·.2)) tt te) :=
  (pe_lc hc hN hi ok hg ht he hs).of fun σ H Q ⟨ρ, env, st, r, re, h⟩ => by
    refine ⟨ρ, env, st, r, re, h.bind.mono fun J H1 ⟨ρ1, st1, f, e1, r1, p1, h1⟩ => ?_⟩
    exact lc_ok hsl r1 (re.monoX r.r e1) p1 h1
end
end PI

set_option Elab.async false
set_option linter.all false
set_option maxRecDepth 100000
set_option maxHeartbeats 2000000
/-! PI10: an own exception whose __init__ says super().__init__('..') and keeps what it was given. -/
namespace PI
open PySem PySem.Spec PyProof.Rows L2
open LamX (Tabs TabS CodeO ExtN)
section
variable {P : Program} {w : World} {K : PySem.W.Frag} {mg : Str → Option Value} {base : Heap} {CX : CXT}
/-- what stands behind the making: the frame's objects are new, the exception has its dict -/
theorem init_end {outer : List Env} {s : Shared} {H : Hp} {Q : VK} {a C dx : Addr} {fs : List (Str × V)} {h' : Heap} {t' : Nat} {t1 : Addr} (hok : HOk P w H s.heap) (hb : AllBare s.gens) (e : H a = some (exo a C none)) (hnd : H dx = none) (dne : dx ≠ a) (dn : s.heap.objs.size ≤ dx)
    (k : ∀ b o, b ≠ a → s.heap.get? b = some o → h'.get? b = some o) (hx : h'.get? a = some ({ cls := .ref C, dict := some dx, data := .fields #[.ref t1, .none, .none, .none, .bool false, .none] } : Obj)) {mA : Str → Option Value} (hn : h'.Ns1 dx mA) (hr : ∀ g, RelO (fs.lookup g) (mA g))
    (q : Q .non (upd (upd H dx (exd dx fs)) a (exo a C (some dx)))) : CE outer P w H s Q .none { s with heap := h', toks := t' } := by
  have nd : ∀ {b : Addr} {o : Obj}, s.heap.get? b = some o → b ≠ dx := fun {b o} q => Nat.ne_of_lt (Nat.lt_of_lt_of_le (Heap.lt_size q) dn)
  have na : ∀ {b : Addr}, H b = none → b ≠ a := fun {b} n z => by
    rw [z, e] at n
    cases n
  refine ⟨.non, _, rfl, hb, ?_, fun b o q => ?_, rfl, q⟩
  · exact {
      keep := fun b o q n _ _ => k b o (na n) q
      slot := fun b o q n _ _ => ⟨o.slots, k b o (na n) q⟩
      free := fun b o q n _ => by rw [upd_ne (na n), upd_ne (nd q)]; exact n
      there := fun b o q _ => by
        by_cases hb : b = a
        · exact ⟨_, by rw [hb]; exact hx⟩
        · exact ⟨o, k b o hb q⟩
      tups := fun b xs q => by rw [upd_ne (at_ne e q exo_tup), upd_ne (ne_of_none q hnd)]; exact q
      frzs := fun b o v q => by rw [upd_ne (at_ne e q exo_frz), upd_ne (ne_of_none q hnd)]; exact q
      tbls := fun b ps q => ⟨#[], by rw [upd_ne (at_ne e q exo_tbl), upd_ne (ne_of_none q hnd), q]; simp⟩ }
  · by_cases hb : b = a
    · subst hb
      rw [upd_same] at q
      cases q
      exact exo_ok hx
    · rw [upd_ne hb] at q
      by_cases hd : b = dx
      · subst hd
        rw [upd_same] at q
        cases q
        exact exd_ok hn hr
      · rw [upd_ne hd] at q
        exact (hok b o q).stay (fun c v hc z => k c v (by
            rcases hc with hc | hc
            · rw [hc]
              exact hb
            · exact at_ne e hc exo_own) z)
          (fun c hc => by rw [upd_ne (at_ne e hc exo_own), upd_ne (ne_of_none hc hnd)]; exact hc) (fun c xs hc => by rw [upd_ne (at_ne e hc exo_tup), upd_ne (ne_of_none hc hnd)]; exact hc)
/-- what the row says of such a def -/
structure SupI (P : Program) (K : PySem.W.Frag) (mg : Str → Option Value) (f cc cda C D : Addr) (scope : Scope) (par fld : Str) : Prop where
  oex : OexC K C
  ini : PySem.W.excInitIn K C PySem.HandSPX.veTail "ValueError.__new__" = true
  sup : PySem.W.ks_superIn K C D "__init__" = some (some (.builtin "ValueError.__init__"))
  subB : PySem.W.subIn K (.ref C) (.type "ValueError") = some true
  opq : PySem.W.nsIn K cStatics "thirdparty.any" = some none
  noF : PySem.W.findIn K (.ref C) fld = some none
  code : ∃ ccl cdd vs ccs file tf, K.lookup cda = some ⟨ccl, cdd, .fields vs, ccs⟩ ∧ vs[2]? = some (.str file tf) ∧ ((P.main.file : Str) == file) = true
  cell : ∃ cl cld csl, K.lookup cc = some ⟨cl, cld, .cell (some (.ref D)), csl⟩
  cD : ∃ cd, PySem.W.clsIn K D = some cd
  sub : PySem.W.mroIn K C (.ref D) = some true
  top : (P.main.scope.names.lookup ("super" : Str)).isSome = false
  mgS : mg "super" = none
  kS : scope.names.lookup ("super" : Str) = some .globalImplicit
  kC : scope.names.lookup ("__class__" : Str) = some .free
  kSelf : scope.names.lookup ("self" : Str) = some .local
  kPar : scope.names.lookup par = some .local
  kind : scope.kind = .function
  co : scope.isCoroutine = false
  gen : scope.isGenerator = false
  noCell : ∀ x ∈ scope.names, x.2 ≠ .cell
  ne : par ≠ "self"
  nd : (par == ("__debug__" : Str)) = false
def spSup (C : Addr) (fld : Str) : Sp := fun vs H Q _ => ∃ (a : Addr) (y : V), vs = [.ref a, y] ∧ H a = some (exo a C none) ∧ ∀ dx, H dx = none → dx ≠ a → Q .non (upd (upd H dx (exd dx [(fld, y)])) a (exo a C (some dx)))
theorem sup_init {f cc cda C D : Addr} {k : Nat} {name qual par fld msg : Str} {params : Arguments} {scope : Scope} {dV kV doc pm ct oc : Value} {an od : Option Addr} {osl : Array (Option Value)} {j : Nat} {q0 q1 q2 q3 q4 q5 q6 q7 q8 q9 : Pos} {body : List Stmt}
    (hbo : body = [.Expr (.Call (.Attribute (.Call (.Name "super" q0) [] [] q1) "__init__" q2) [.Constant (.str msg) j q3] [] q4) q5, .Assign [.Attribute (.Name "self" q6) fld q7] (.Name par q8) q9])
    (lk : K.lookup f = some ⟨oc, od, .func (PySem.W.ksFn name qual params body scope dV kV doc pm an (.ref cda) ct cc), osl⟩) (hcd : PySem.W.codeIn K (.ref cda) qual = true) (S : SupI P K mg f cc cda C D scope par fld)
    (hp : ∃ ar, (params.posonlyargs ++ params.args).head? = some ar ∧ ar.arg = "self") {pl : Sem Bool}
    (he : ∀ env, eval (.Call (.Attribute (.Call (.Name "super" q0) [] [] q1) "__init__" q2) [.Constant (.str msg) j q3] [] q4) env = (do
      let ov ← attributeBase (.Call (.Name "super" q0) [] [] q1) "__init__" env (eval (.Call (.Name "super" q0) [] [] q1) env)
      standAt q2.atName
      let (f, first) ← holding [ov] (getMethod ov "__init__" pl)
      callWith q4 f first (backTo q4 (starEach [.Constant (.str msg) j q3] env)) []))
    (hs : ∀ env, swapsWith (.Name par q8) (some (.Attribute (.Name "self" q6) fld q7)) q9.line env = pure false) (hs0 : ∀ env, swapsWith (.Call (.Attribute (.Call (.Name "super" q0) [] [] q1) "__init__" q2) [.Constant (.str msg) j q3] [] q4) none q5.line env = pure false) :
    FnOk P w K mg base CX (k + 1) f (PySem.W.ksFn name qual params body scope dV kV doc pm an (.ref cda) ct cc) ["self", par] (spSup C fld) := by
  subst hbo
  refine ⟨fun vs H Q E ⟨a, y, e, _⟩ => by rw [e]; rfl, fun A outer s H args us vs Q E hr e0 hb rv hsp => ?_⟩
  obtain ⟨a, y, rfl, e, hq⟩ := hsp
  obtain ⟨u1, u, rfl, ra, ry⟩ := vals2 rv
  obtain rfl : u1 = Value.ref a := ra
  have KX : K.In s.heap := e0.mod.kin.keeps fun b o e => (e0.bs b o e).1
  have lim : s.heap.NoLimit := e0.mod.nolimit.keeps fun b o e => (e0.bs b o e).1
  obtain ⟨t1, ho⟩ := exo_at e0.hok e
  refine PySem.ks_codeAny_call_defAt (binds := [("self", .ref a), (par, u)]) hr.depth (KX _ _ lk) rfl lim (PySem.W.codeRec_of KX hcd) rfl hb S.noCell (fun z hz => ?_) (fun h₁ hns hk => ?_) S.co S.gen S.kind
  · rcases List.mem_cons.mp hz with rfl | hz
    · exact S.kSelf
    · obtain rfl := List.mem_singleton.mp hz
      exact S.kPar
  have hKa : ∀ b o, K.lookup b = some o → b ∉ [a] := fun b o q z => by
    obtain rfl := List.mem_singleton.mp z
    have := (e0.bs b o (e0.mod.kin b o q)).2
    rw [e] at this
    cases this
  have X₀ : K.In (PySem.W.hideAll s.heap [a]) := fun b o q => PySem.W.hideAll_get _ (KX b o q) (hKa b o q)
  have F : Fr (PySem.W.hideAll s.heap [a]) s.heap.objs.size h₁ (fun x => ([("self", Value.ref a), (par, u)] : List (Str × Value)).reverse.lookup x) := ⟨hns, fun b o q => hk b o (PySem.W.of_hideAll _ q), Nat.le_of_eq (PySem.W.hideAll_size _ _)⟩
  have N : News (PySem.W.hideAll s.heap [a]) s.heap.objs.size h₁ [(a, PySem.W.excObj C t1 none .none)] := fun p hp => by
    obtain rfl := List.mem_singleton.mp hp
    exact ⟨hk _ _ ho, Nat.ne_of_lt (Heap.lt_size ho), PySem.W.hideAll_none _ List.mem_cons_self⟩
  have msl : (fun x => ([("self", Value.ref a), (par, u)] : List (Str × Value)).reverse.lookup x) "self" = some (.ref a) := by
    have : (("self" : Str) == par) = false := by simpa using fun z => S.ne z.symm
    simp [List.lookup, this]
  have mpa : (fun x => ([("self", Value.ref a), (par, u)] : List (Str × Value)).reverse.lookup x) par = some u := by simp [List.lookup]
  obtain ⟨ccl, cdd, fvs, ccs, file, tf, hcode, hvs, hfile⟩ := S.code
  obtain ⟨ccT, ccd, csl, hcell⟩ := S.cell
  obtain ⟨cdD, hD⟩ := S.cD
  obtain ⟨ar, hp1, hp2⟩ := hp
  have K1 : K.In h₁ := X₀.keeps F.keep
  have bk : ∀ b o, base.get? b = some o → h₁.get? b = some o := fun b o q => hk b o (e0.bs b o q).1
  obtain ⟨mb, hmb1, hmb2⟩ := e0.mod.blt
  obtain ⟨oD, hD1, hD2⟩ : ∃ oD, h₁.get? D = some oD ∧ oD.data = .cls cdD := by
    have hD' := hD
    unfold PySem.W.clsIn at hD'
    split at hD'
    · rename_i c d cd' sl ho
      cases hD'
      exact ⟨_, K1 _ _ ho, rfl⟩
    · cases hD'
  have I1 : PySem.W.InstAt h₁ a (PySem.W.excObj C t1 none .none) C none := ⟨hk _ _ ho, rfl, rfl, trivial⟩
  refine PySem.ks_wpAt_execs_cons (PySem.ks_wpAt_Expr_any (PySem.ks_wpAt_MethodCall (pl := pl) ?_ (he _)) (by show (_ && _) = false; simp [callEnv, newEnv, S.kind]) (hs0 _))
  refine PySem.ks_wpAt_super_base S.kS S.kC rfl rfl (K1 _ _ lk) rfl hp1 rfl (K1 _ _ hcode) rfl hvs hfile S.top ?_
  rw [hp2]
  refine PySem.W.ks_loadName_global S.kind S.kS (Calls.loadGlobal_builtin (e0.mod.glob.keeps bk) S.mgS (hmb1.keeps bk) ((hmb2 _ (by decide)).trans (by rfl)) ⟨rfl, ?_⟩)
  refine wpAny_loadName_free S.kind S.kC rfl ⟨_, K1 _ _ hcell, rfl⟩ ?_
  refine wpAny_loadName_local S.kind S.kSelf F.ns msl ?_
  refine PySem.ks_wpAny_isType_cls hD1 hD2 ⟨rfl, ?_⟩
  refine PySem.ks_wpAny_call_super hD1 hD2 I1.at_ I1.cls (fun c q => nomatch q) (PySem.W.looks_mroIn K1 S.sub) (fun h2 hso k2 => ?_)
  obtain ⟨F2, N2, _⟩ := PySem.W.ks_newsPush (s := { s with heap := h₁ }) F N rfl hso k2
  have I2 : PySem.W.InstAt h2 a (PySem.W.excObj C t1 none .none) C none := ⟨k2 _ _ I1.at_, rfl, rfl, trivial⟩
  refine PySem.W.kxs_method (B := "ValueError") (i := "ValueError.__init__") PySem.W.kxs_ValueError F2 X₀ N2 List.mem_cons_self I2 S.opq S.sup S.subB (by decide) (fun u3 h3 F3 N3 l3 => ?_)
  refine PySem.W.kxs_callWith1 N3 List.mem_cons_self ?_
  show wpAny _ _ (spliced ((false, eval (.Constant (.str msg) j q3) _) :: backTo q4 (starEach [] _))) _ _ _
  refine Calls.spliced_cons (Calls.Constant_str (Calls.spliced_nil ⟨(N3 _ List.mem_cons_self).1, ?_⟩))
  have us : u3 ≠ a := fun z => by
    have := l3 (a, _) (List.mem_cons_of_mem _ List.mem_cons_self)
    rw [z] at this
    exact Nat.lt_irrefl _ this
  have ss : h₁.objs.size ≠ a := Nat.ne_of_gt (Heap.lt_size I1.at_)
  refine PySem.W.kxs_call F3 X₀ N3 PySem.F.excBase_ValueError S.ini List.mem_cons_self (.tail us (.tail ss (.head fun p hp => nomatch hp))) (by show 1 ≤ sizeLine; rw [sizeLine_eq]; omega) (fun t4 h4 F4 N4 l4 => ?_)
  have ha4 : h4.get? a = some (PySem.W.excObj C t4 none .none) := (N4 _ (List.mem_cons_of_mem _ (List.mem_cons_of_mem _ (List.mem_cons_of_mem _ List.mem_cons_self)))).1
  have K4 : K.In h4 := X₀.keeps F4.keep
  refine PySem.ks_wpAt_execs_cons (wpAt_of_wpAny (plainObj_wpAny_Assign_Attribute ?_ (hs _)))
  refine wpAny_Name (wpAny_loadName_local S.kind S.kPar F4.ns mpa ?_) S.nd
  refine wpAny_Name (wpAny_loadName_local S.kind S.kSelf F4.ns msl ?_) (by decide)
  obtain ⟨nm, qq, NN, bs, bm, sn, sub, ab, col, dd, k0, k1, k2', k3, k5, hC, hbm⟩ := S.oex.cls
  have hcl : PySem.W.clsIn K C = some { name := nm, bases := bs, mro := .ref C :: bm, ns := NN, qualname := qq, hasDict := true, slotNames := sn, subclasses := sub, abstract := ab, collection := col, hasDel := false } := by unfold PySem.W.clsIn; rw [hC] <;> rfl
  refine PySem.W.set_plain K4 (ox := PySem.W.excObj C t4 none .none) (od := none) ⟨ha4, rfl, rfl, trivial⟩ S.oex.sa ?_
  refine PySem.HandSPX.exc_osa K4 ha4 hcl (show PySem.HandSPX.refsVE (.ref C :: bm) = true from hbm) rfl S.noF (fun h5 tk' dx k5' dn dne hx hn => ?_)
  refine wpAt_of_wpAny (wpAny_execs_nil ?_)
  have hsz : s.heap.objs.size ≤ h4.objs.size := by
    obtain ⟨oL, _, _, hL, _⟩ := F4.ns
    exact Nat.le_of_lt (Heap.lt_size hL)
  have hnd : H dx = none := e0.hok.fresh (Nat.le_trans hsz dn)
  exact init_end (mA := fun y => if y = fld then some u else none) e0.hok e0.bare e hnd dne (Nat.le_trans hsz dn) (fun b o hb q => k5' b o hb (F4.keep b o (PySem.W.hideAll_get _ q fun z => hb (List.mem_singleton.mp z)))) hx hn (relO_put (fs := []) ry fun g => True.intro) (hq dx hnd dne)
end
end PI

set_option Elab.async false
set_option linter.all false
set_option maxRecDepth 100000
set_option maxHeartbeats 2000000
/-! PI11: raise, defs, methods of lists, a list's place stored, isinstance. -/
namespace PI
open PySem PySem.Spec PyProof.Rows L2
open LamX (Tabs TabS CodeO ExtN)

/-! ### raise C(e), C an own exception with one field -/
def sRaise (C : Nat) (fld : Str) (e : SemE) : SemS := fun env st => RS.ofE (e env st) env fun v st1 => .exc ⟨C, [(fld, v)]⟩ env st1
section
variable {X : Cx} {P : Par X.K} {W : WX} {a b c e tg : Expr} {ra rb rc : SemE} {es : List Expr} {rs : SemA} {pos p p1 p2 : Pos} {σ : L2.St} {H : Hp} {x fld : Str}
theorem ss_raise {C fI : Addr} {lb : Nat} {k : Nat} {fd : FuncData} {ps : List Str} (hcm : P.cm lb = C) (hc : X.calm = true) (tk : Takes X W) (T : OexC X.K C) (iC : PySem.W.findIn X.K (.ref C) "__init__" = some (some (.ref fI))) (tI : PySem.W.typeIn X.K (.ref fI) = some (.type "function"))
    (F1 : FnOk X.prog X.w X.K X.mg X.base (L2.CX X.prog X.w) k fI fd ps (spSup C fld)) (hr : Room (k + 1) X.A) (hb : Binds X.K fd ps []) (hg : Gl X x) (hm : X.mg x = some (.ref C)) (he : SE X P W e ra)
    (hdb : (x == ("__debug__" : Str)) = false := by decide) (hst : starEach [e] X.env = (false, eval e X.env) :: starEach [] X.env := by rfl) (hpl : (backTo p2 (starEach [] X.env)).any (·.1) = false := by rfl) : SS X P W (.Raise (some (.Call (.Name x p) [e] [] p2)) none pos) (sRaise lb fld ra) :=
  (ps_raise hc tk (pmk_oex (dvs := []) (ds := []) T iC tI F1 hr hb .nil (passes_call (W := fun _ _ _ _ => False) LamX.takes0 (fun _ _ _ _ h => h)) hg hm (pa_cons he pa_nil hst) hdb hst hpl)).of fun D σ H ⟨ρ, env, st, r, re, h⟩ => by
    refine ⟨ρ, env, st, r, re, (PostS.ofE r.r re h).mono fun v H1 ⟨ρ1, st1, iv, e1, r1, re1, p1, h1⟩ => ?_⟩
    refine ⟨by simp, fun a0 ha0 => ⟨a0, v, rfl, upd_same, fun dx hdx hne => ?_⟩⟩
    have hd1 : H1 dx = none := by rw [upd_ne hne] at hdx; exact hdx
    refine ⟨rfl, dx, [(fld, v)], upd_same, by rw [upd_ne hne, upd_same], hd1, ?_⟩
    have eqH : upd (del (upd (upd (upd H1 a0 (exo a0 C none)) dx (exd dx [(fld, v)])) a0 (exo a0 C (some dx))) a0) dx (.xd [(fld, v)]) = upd H1 dx (.xd [(fld, v)]) := by
      funext z
      by_cases hz : z = dx
      · subst hz; rw [upd_same, upd_same]
      · rw [upd_ne hz, upd_ne hz]
        by_cases ha : z = a0
        · subst ha; rw [del_same, ha0]
        · rw [del_ne ha, upd_ne ha, upd_ne hz, upd_ne ha]
    rw [eqH]
    have ex := Ext.fresh r1.r hd1 (.xd [(fld, v)])
    exact h1 ρ1 _ _ _ σ ex.x (r1.ext ex (r1.r.fresh hd1 _)) (re1.mono r1.r ex) ⟨by rw [hcm], dx, [(fld, v)], rfl, upd_same, .cons (p1.mono r1.r ex) .nil⟩
end

/-! ### a def by its body -/
def startI (n : Nat) (xs : List IV) : IEnv := xs.map some ++ List.replicate (n - xs.length) none
def callI (n : Nat) (r : SemS) : List IV → Sto → RE IV := fun xs st => match r (startI n xs) st with
  | .nx _ st1 => .ok .non st1
  | .rt v st1 => .ok v st1
  | .exc x _ st1 => .exc x st1
  | _ => .bad
theorem relEnv_start {K : PySem.W.Frag} {H : Hp} {ρ : List Addr} {N : List Str} {xs : List IV} {vs : List V} (t : RepVs K H ρ xs vs) : RelEnv K H ρ (startI N.length xs) (L2.start N vs) := by
  refine ⟨by simp [startI, L2.start, t.length], fun i v e => ?_⟩
  unfold startI at e
  unfold L2.start
  by_cases hi : i < xs.length
  · rw [List.getElem?_append_left (by simpa using hi), List.getElem?_map] at e
    rw [List.getElem?_append_left (by rw [List.length_map, ← t.length]; exact hi), List.getElem?_map]
    cases q : xs[i]? with
    | none => rw [q] at e; cases e
    | some y =>
      rw [q] at e
      cases e
      obtain ⟨w, hw, rw'⟩ := t.get q
      exact ⟨w, by rw [hw]; rfl, rw'⟩
  · rw [List.getElem?_append_right (by simpa using hi), List.getElem?_replicate] at e
    split at e <;> cases e
theorem fn_I {P : Program} {w : World} {K : PySem.W.Frag} {mg : Str → Option Value} {base : Heap} {T : List (Addr × Str) × (Nat → Addr)} {k : Nat} {f : Addr} {name qual : Str} {params : Arguments} {body : List Stmt} {scope : Scope} {dV kV doc pm cdv ct oc : Value} {an od : Option Addr}
    {osl : Array (Option Value)} {N ps : List Str} {r : SemS} (lk : K.lookup f = some ⟨oc, od, .func (PySem.W.fnOf name qual params body scope dV kV doc pm an cdv ct), osl⟩) (hcd : PySem.W.codeIn K cdv qual = true) (S : FnScope N ps scope)
    (hbody : ∀ (A : Around) (outer : List Env) (s : Shared) (H : Hp) (E : XK) (Pr : Par K), Room k (A.deeper (envOfC qual scope s.heap.objs.size f cdv)) → (Pr.T, Pr.cm) = T →
      PSs (cxOf (L2.CX P w) P w K mg base N qual scope f cdv A outer s H E) body (tS Pr (fun c d _ H' => E c d H') r)) :
    FnOk P w K mg base (L2.CX P w) (k + 1) f (PySem.W.fnOf name qual params body scope dV kV doc pm an cdv ct) ps (spI K T ps.length (callI N.length r)) := by
  refine fn_of lk hcd S (fun vs H Q E h => h.1) fun A outer s H vs Q E hr h => ?_
  obtain ⟨hl, Pr, ρ, st, xs, hT, rx, t, hp⟩ := h
  refine ⟨_, hbody A outer s H E Pr hr hT, ρ, startI N.length xs, st, rx, relEnv_start t, ?_⟩
  unfold callI at hp
  split at hp
  · rename_i e1 st1 e
    rw [e]
    exact fun ρ' H' σ' x r' re => hp ρ' H' .non x r' .non
  · rename_i v st1 e
    rw [e]
    exact fun ρ' H' y x r' p => hp ρ' H' y x r' p
  · rename_i x e1 st1 e
    rw [e]
    exact fun ρ' H' c d σ' x r' re q => hp ρ' H' c d x r' q
  · exact hp.elim
/-- the body's wish about exceptions -/
theorem takes_fn {P : Program} {w : World} {K : PySem.W.Frag} {mg : Str → Option Value} {base : Heap} {N : List Str} {qual : Str} {scope : Scope} {f : Addr} {cd : Value} {A : Around} {outer : List Env} {s : Shared} {H : Hp} {E : XK} :
    Takes (cxOf (L2.CX P w) P w K mg base N qual scope f cd A outer s H E) (fun c d _ H' => E c d H') := takes_of rfl rfl rfl rfl
theorem passes_fn {P : Program} {w : World} {K : PySem.W.Frag} {mg : Str → Option Value} {base : Heap} {N : List Str} {qual : Str} {scope : Scope} {f : Addr} {cd : Value} {A : Around} {outer : List Env} {s : Shared} {H : Hp} {E : XK} :
    PassesOwn (model P w) (cxOf (L2.CX P w) P w K mg base N qual scope f cd A outer s H E).A (cxOf (L2.CX P w) P w K mg base N qual scope f cd A outer s H E).env (cxOf (L2.CX P w) P w K mg base N qual scope f cd A outer s H E).xe := passes_of rfl
end PI

set_option Elab.async false
set_option linter.all false
set_option maxRecDepth 100000
set_option maxHeartbeats 2000000
/-! PI12: isinstance, methods of lists, a list's place stored. -/
namespace PI
open PySem PySem.Spec PyProof.Rows L2
open LamX (Tabs TabS CodeO ExtN)

/-! ### isinstance -/
inductive TY where
  | non | bl | int | str | tup | lst | dct
  deriving DecidableEq
def TY.name : TY → String
  | .non => "NoneType"
  | .bl => "bool"
  | .int => "int"
  | .str => "str"
  | .tup => "tuple"
  | .lst => "list"
  | .dct => "dict"
def tyI (st : Sto) : IV → Option TY
  | .non => some .non
  | .bl _ => some .bl
  | .int _ => some .int
  | .str _ => some .str
  | .tup _ => some .tup
  | .ref n => match st.os[n]? with
    | some (.lst _) => some .lst
    | some (.frl _) => some .lst
    | _ => none
def TY.sub : TY → TY → Bool
  | .bl, .int => true
  | .non, .non => true
  | .bl, .bl => true
  | .int, .int => true
  | .str, .str => true
  | .tup, .tup => true
  | .lst, .lst => true
  | .dct, .dct => true
  | _, _ => false
theorem kit_TY : ∀ a b : TY, b ≠ .non → kitB a.name b.name = some (a.sub b) := by
  intro a b hb
  cases b <;> first
    | exact absurd rfl hb
    | (cases a <;> decide +kernel)
def rIsT (T : TY) (e : SemE) : SemE := fun env st => (e env st).bind fun v st1 => match tyI st1 v with
  | some t => .ok (.bl (t.sub T)) st1
  | none => .bad
section
variable {K : PySem.W.Frag} {H : Hp} {ρ : List Addr} {st : Sto}
theorem tyI_ok {v : IV} {x : V} {t : TY} (r : Rel K H ρ st) (p : RepV K H ρ v x) (e : tyI st v = some t) : TyX K H x (.type t.name) := by
  cases p with
  | non => cases e; exact .base .non
  | bl b => cases e; exact .base (.bl b)
  | int b => cases e; exact .base (.int b)
  | str b => cases e; exact .base (.str _)
  | tup h t =>
    cases e
    rcases h with (h | ⟨o, h⟩) | ⟨o, its, n, hk, hc, _⟩
    · exact .base (.tup h)
    · exact .fTuple h
    · exact .kTuple hk hc
  | @ref n a h =>
    have e' : (match st.os[n]? with
      | some (.lst _) => some TY.lst
      | some (.frl _) => some TY.lst
      | _ => none) = some t := e
    split at e'
    · rename_i h1
      cases e'
      obtain ⟨vs, q, _⟩ := r.obj n _ a h1 h
      exact .base (.lst q)
    · rename_i h1
      cases e'
      obtain ⟨vs, q, _⟩ := r.obj n _ a h1 h
      rcases q with q | ⟨o, q⟩
      · exact .base (.lst q)
      · exact .base (.frz q)
    · cases e'
end
section
variable {X : Cx} {P : Par X.K} {W : WX} {a b c e tg : Expr} {ra rb rc : SemE} {es : List Expr} {rs : SemA} {pos p p1 p2 q : Pos} {σ : L2.St} {H : Hp} {x : Str}
theorem se_isT {T : TY} {n : Str} (hT : T ≠ .non) (hg : Gl X "isinstance") (hm : X.mg "isinstance" = none) (hgT : Gl X n) (hmT : X.mg n = none) (hvT : bootBuiltins n = some (.type T.name)) (he : SE X P W e ra) (hnn : n ≠ "__name__" := by decide) (hdd : (n == ("__debug__" : Str)) = false := by decide)
    (h1 : starEach [e, .Name n q] X.env = (false, eval e X.env) :: starEach [.Name n q] X.env := by rfl) (h2 : starEach [.Name n q] X.env = (false, eval (.Name n q) X.env) :: starEach [] X.env := by rfl) (hpl : (backTo pos (starEach [.Name n q] X.env)).any (·.1) = false := by rfl) :
    SE X P W (.Call (.Name "isinstance" p) [e, .Name n q] [] pos) (rIsT T ra) :=
  (pe_callB call_isi hg hm (by rfl) (pa_cons he (pa_cons (pe_bltn hgT hmT hvT (v := .ty T.name) rfl hnn hdd) pa_nil h2) h1) (by decide) (by decide) h1 hpl).of fun σ H Q ⟨ρ, env, st, r, re, h⟩ => by
    refine ⟨ρ, env, st, r, re, h.bind.mono fun x H1 ⟨ρ1, st1, v, e1, r1, p1, h1⟩ => ?_⟩
    show rIsi X.K [x, .ty T.name] H1 Q
    split at h1
    · rename_i t et
      exact ⟨x, .ty T.name, .type t.name, .type T.name, t.sub T, rfl, .ty _, tyI_ok r1.r p1 et, kit_ty (kit_TY t T hT), h1.here r1 (.bl _)⟩
    · exact h1.elim

/-! ### methods of lists -/
def appI : Nat → List IV → Sto → RO
  | n, [v], st => match st.os[n]? with
    | some (.lst xs) => bif Nat.blt xs.length lineI then some (.non, { os := st.os.set n (.lst (xs ++ [v])), low := st.low }) else none
    | _ => none
  | _, _, _ => none
def extI : Nat → List IV → Sto → RO
  | n, [.ref m], st => match st.os[n]?, st.os[m]? with
    | some (.lst xs), some (.lst ys) => bif Nat.ble (xs.length + ys.length) lineI then some (.non, { os := st.os.set n (.lst (xs ++ ys)), low := st.low }) else none
    | _, _ => none
  | _, _, _ => none
def rMethL (f : Nat → List IV → Sto → RO) (o : SemE) (as : SemA) : SemE := fun env st => (o env st).bind fun v st1 => match v with
  | .ref n => match lstAt st1 n with
    | some _ => (as env st1).bind fun xs st2 => RE.ofO (f n xs st2)
    | none => .bad
  | _ => .bad
def rM (K : PySem.W.Frag) (f : Nat → List IV → Sto → RO) : V → List V → Hp → VK → Prop := fun x vs H Q => ∃ ρ st n xs, Rel K H ρ st ∧ RepV K H ρ (.ref n) x ∧ RepVs K H ρ xs vs ∧ PostO K ρ H Q (f n xs st)
theorem mt_appI : MtR X "list.append" (rM X.K appI) := by
  rintro pins s σ H x vs v us Q I rx rv ⟨ρ, st, n, xs, r, p, t, h⟩
  cases p with
  | @ref _ a ha =>
    unfold appI at h
    split at h
    · rename_i v' st' zz
      split at h
      · rename_i ys e
        obtain ⟨k, h⟩ := bif_some (P := PostO X.K ρ H Q) h post_none
        obtain ⟨y, rfl, py⟩ := t.one
        obtain ⟨ws, q, tw⟩ := r.obj _ (.lst _) a e ha
        have hl : ys.length < lineI := by simp [Nat.blt] at k; omega
        refine mt_append pins s σ H _ _ v us Q I rx rv ⟨a, ws, y, rfl, rfl, q, line_lt (by rw [← tw.length]; exact hl), ?_⟩
        have ex := Ext.write r ha (.lst (ws ++ [y]))
        have tv := (tw.append (.cons py .nil)).mono r ex
        exact h ρ _ .non ex (r.write ha _ (.lst _) ⟨_, upd_same, tv⟩ _) .non
      · exact h.elim
    · exact h.elim
theorem mt_extI : MtR X "list.extend" (rM X.K extI) := by
  rintro pins s σ H x vs v us Q I rx rv ⟨ρ, st, n, xs, r, p, t, h⟩
  cases p with
  | @ref _ a ha =>
    unfold extI at h
    split at h
    · rename_i n' m' st'
      split at h
      · rename_i xs0 ys e em
        obtain ⟨k, h⟩ := bif_some (P := PostO X.K ρ H Q) h post_none
        obtain ⟨y, rfl, py⟩ := t.one
        cases py with
        | @ref _ b hb =>
          obtain ⟨ws, q, tw⟩ := r.obj _ (.lst _) a e ha
          obtain ⟨zs, q2, tz⟩ := r.obj _ (.lst _) b em hb
          have hl := Nat.le_of_ble_eq_true k
          refine mt_extend pins s σ H _ _ v us Q I rx rv ⟨a, b, ws, zs, rfl, rfl, q, q2, line_ok (by rw [← tw.length, ← tz.length]; exact hl), ?_⟩
          have ex := Ext.write r ha (.lst (ws ++ zs))
          exact h ρ _ .non ex (r.write ha _ (.lst _) ⟨_, upd_same, (tw.append tz).mono r ex⟩ _) .non
      · exact h.elim
    · exact h.elim
theorem tBM_of {f : Nat → List IV → Sto → RO} {Q : VK} (h : tE P W (rMethL f ra rs) σ H Q) : tBM X.K "list" (rM X.K f) (tE P W ra) (tA P W rs) σ H Q := by
  obtain ⟨ρ, env, st, r, re, h⟩ := h
  refine ⟨ρ, env, st, r, re, h.bind.mono fun x H1 ⟨ρ1, st1, v, e1, r1, p1, h1⟩ => ?_⟩
  cases p1 with
  | @ref n a ha =>
    dsimp only at h1
    split at h1
    · rename_i ys el
      obtain ⟨vs, q, _⟩ := lstAt_sq r1.r el ha
      refine ⟨.inl ⟨rfl, vs, q⟩, ρ1, env, st1, r1, re.monoX r.r e1, h1.bind.mono fun xs H2 ⟨ρ2, st2, w, e2, r2, p2, h2⟩ => ?_⟩
      exact ⟨ρ2, st2, n, w, r2.r, .ref (pre_get e2.pre ha), p2, h2.ofO r2⟩
    · exact h1.elim
  | _ => exact h1.elim
theorem se_methL {id : String} {name : Str} {f : Nat → List IV → Sto → RO} (pa : PlainAttrs "list") (slot : Slot "list" name id) (hty : typeOf (.builtin id) = pure (.type "method_descriptor")) (hm : MtR X id (rM X.K f)) (ho : SE X P W a ra) (ha : SA X P W (e :: es) rs)
    (hbase : attributeBase a name X.env (eval a X.env) = eval a X.env := by rfl)
    (hfew : ((backTo pos (starEach (e :: es) X.env)).all (fun x => !x.1) && (backToKw pos (keywordEach [] X.env)).all (fun x => x.1.isSome)
      && decide ((e :: es).length + ([] : List Keyword).length + (if ([] : List Keyword).isEmpty then 0 else 1) < 30)) = true := by rfl)
    (hline : (p.endLine == pos.line) = true := by rfl) (hs : starEach (e :: es) X.env = (false, eval e X.env) :: starEach es X.env := by rfl) (hplain : (backTo pos (starEach es X.env)).any (·.1) = false := by rfl) :
    SE X P W (.Call (.Attribute a name p) (e :: es) [] pos) (rMethL f ra rs) := (pe_bm pa slot hty hm ho ha hbase hfew hline hs hplain).of fun _ _ _ => tBM_of

/-! ### o[i] = v -/
theorem set_I {st st' : Sto} {ρ : List Addr} {vo vi vv : IV} {o i v : V} {Q : Hp → Prop} (r : Rel X.K H ρ st) (po : RepV X.K H ρ vo o) (pi : RepV X.K H ρ vi i) (pv : RepV X.K H ρ vv v) (e : setI vo vi vv st = some st')
    (h : ∀ (ρ' : List Addr) (H' : Hp), Ext ρ H ρ' H' → Rel X.K H' ρ' st' → Q H') : rSetL o i v H Q := by
  unfold setI at e
  split at e
  · split at e
    · rename_i xs e1
      split at e
      · rename_i j ej
        cases e
        cases po with
        | ref ha =>
          cases pi
          obtain ⟨ws, q, tw⟩ := r.obj _ _ _ e1 ha
          have ex := Ext.write r ha (.lst (ws.set j v))
          exact ⟨_, ws, _, j, rfl, rfl, q, by rw [← tw.length]; exact ej, h ρ _ ex (r.write ha _ (.lst _) ⟨_, upd_same, (tw.set pv j).mono r ex⟩ st.low)⟩
      · cases e
    · cases e
  · cases e
theorem sg_sub (ho : SE X P W a ra) (hi : SE X P W b rb)
    (hasg : ∀ v, assign (.Subscript a b pos) X.env v = (do
      let ov ← holding [v] (eval a X.env)
      let iv ← holding [v, ov] (eval b X.env)
      standAt pos
      holding [v, ov, iv] (setItem ov iv v)
      release [v, ov, iv] []) := by intro _; rfl) : SG X P (.Subscript a b pos) (gSubI ra rb) :=
  (pg_sub ho hi set_list hasg).of fun v σ H Q ⟨ρ, env, st, w, env', st', r, re, p, e, h⟩ => by
    unfold gSubI at e
    split at e
    · rename_i ov st1 e1
      split at e
      · rename_i iv st2 e2
        split at e
        · rename_i st3 e3
          cases e
          refine ⟨ρ, env, st, r, re, ?_⟩
          rw [e1]
          intro ρ1 H1 x x1 r1 px
          refine ⟨ρ1, env, st1, r1, re.monoX r.r x1, ?_⟩
          rw [e2]
          intro ρ2 H2 y x2 r2 py
          refine set_I r2.r (px.monoX r1.r x2) py (p.monoX r.r (x1.trans x2)) e3 fun ρ3 H3 ex r3 => ?_
          exact h ρ3 H3 σ (x1.trans (x2.trans ex.x)) (r2.ext ex r3) (re.monoX r.r (x1.trans (x2.trans ex.x)))
        · cases e
      · cases e
    · cases e
end
end PI

set_option Elab.async false
set_option linter.all false
set_option maxRecDepth 100000
set_option maxHeartbeats 2000000
/-! PI13: repr of data. -/
namespace PI
open PySem PySem.Spec PyProof.Rows L2
open LamX (Tabs TabS CodeO ExtN)
def txtOf (d : PyData) : List Nat := d.shown.cps.toList
def reprI : List IV → Sto → RO
  | [v], st => match pd st.os 63 v with
    | some d => bif d.showable && (Nat.ble d.shown.length lineI && (txtOf d).all fun c => decide (c < 0x110000)) then some (.str (txtOf d), st) else none
    | none => none
  | _, _ => none
theorem str_eta (x : Str) : (⟨x.cps.toList.toArray⟩ : Str) = x := by
  cases x
  simp
section
variable {X : Cx}
theorem call_reprI (hg : X.A.guards = some []) (hu : X.A.units + 65 < cLine) : CallR X (.builtin "repr") (rCl X.K reprI) := by
  rintro pins s σ H vs us Q I rv ⟨ρ, st, xs, r, t, h⟩
  unfold reprI at h
  split at h
  · split at h
    · rename_i d ed
      obtain ⟨k, h⟩ := bif_some (P := PostO X.K ρ H Q) h post_none
      simp only [Bool.and_eq_true] at k
      obtain ⟨k1, k2, k3⟩ := k
      obtain ⟨v, rfl, p⟩ := t.one
      have ok := pd_ok r 63 _ v d p ed
      obtain ⟨u, rfl, ru⟩ := vals1 rv
      obtain ⟨as, rd⟩ := Dp.reads I d v u ok.dp ru
      have hz : d.shown.length ≤ sizeLine := line_ok (Nat.le_of_ble_eq_true k2)
      have hq : Q (.str d.shown) H := by
        have q := h.here (x := .str ⟨(txtOf d).toArray⟩) r (.str k3)
        rwa [txtOf, str_eta] at q
      have fin : ∀ tk, EP X pins σ Q (.str d.shown tk) { s with toks := s.toks + 1 } := fun tk => ⟨.str d.shown, H, I.tok _, ⟨_, rfl⟩, hq⟩
      cases u with
      | ref a =>
        have hd := ok.dep
        refine PySem.repr_of_reads' rd k1 (fun z => by rw [PyData.hasDict_of_canLay d ok.can] at z; cases z) hg (by omega) (fun _ _ e => e) (fun h' u tk hk => ?_) hz
        exact ⟨.str d.shown, H, I.kept hk, ⟨_, rfl⟩, hq⟩
      | _ =>
        cases rd <;> first
          | exact P.repr_of_none (by have := fin s.toks; rwa [PyData.shown_none] at this)
          | exact P.repr_of_bool (by have := fin s.toks; rwa [PyData.shown_bool] at this)
          | exact P.repr_of_int (of_decide_eq_true k1) (by have := fin s.toks; rwa [PyData.shown_int] at this)
          | exact P.repr_of_str (by have := fin s.toks; rwa [PyData.shown_str] at this) (by rwa [PyData.shown_str] at hz)
    · exact h.elim
  · exact h.elim
end
end PI

set_option Elab.async false
set_option linter.all false
set_option maxRecDepth 100000
set_option maxHeartbeats 2000000
/-! PI14: told(lambda: .., due): what the lambda raises is compared by its repr. -/
namespace PI
open PySem PySem.Spec PyProof.Rows L2
open LamX (Tabs TabS CodeO ExtN TabB LamS lamEnv lamCx)
theorem RelX.extN {K : PySem.W.Frag} {P : Par K} {H H1 : Hp} {ρ : List Addr} {st : Sto} (r : RelX P H ρ st) (e : ExtN H H1) (t : Tabs P.T H1) : ExtX ρ H ρ H1 ∧ RelX P H1 ρ st := by
  have ex : ExtX ρ H ρ H1 := ⟨List.prefix_refl _, fun a o h _ ht => e a o h ht, fun a h => .inl h⟩
  refine ⟨ex, ⟨r.r.len, r.r.nd, fun n o a e1 e2 => ?_⟩, t, P.mono r.r ex r.sd⟩
  have q := r.r.obj n o a e1 e2
  cases o with
  | lst xs => obtain ⟨vs, q, t⟩ := q; exact ⟨vs, e a _ q (fun _ z => nomatch z), t.monoX r.r ex⟩
  | frl xs =>
    obtain ⟨vs, q, t⟩ := q
    refine ⟨vs, ?_, t.monoX r.r ex⟩
    rcases q with q | ⟨ob, q⟩
    · exact .inl (e a _ q (fun _ z => nomatch z))
    · exact .inr ⟨ob, e a _ q (fun _ z => nomatch z)⟩
section
variable {X : Cx} {pins : List (Addr × Obj)} {σ : L2.St} {H HZ : Hp} {s s1 : Shared}
/-- x(), in the def that got the lambda; what it lets out may lean on the def's slots -/
theorem pe_act2 {CXg : CXT} {Eg : XK} {Ng : List Str} {qg : Str} {sg : Scope} {g f c' : Addr} {cdg pm ctv : Value} {params : Arguments} {body : Expr} {scope : Scope} {k i : Nat} {a : Str} {pn : List (Addr × Obj)} {xe : Value → Shared → Prop} {W : WX} {tb : XK → TE} {p1 p2 : Pos}
    (I : Inv X pins σ H s) (L : LamS X.env.scope scope) (hf : s.heap.get? f = some (PySem.W.kla_obj "<lambda>" (X.env.qual ++ "<lambda>") params body scope (cloFrom X.env.cells scope.names []) pm c' ctv)) (hfn : H f = none) (hfr : f ∉ frs X.stack)
    (hbind : bindArgs (PySem.W.kla_fn "<lambda>" (X.env.qual ++ "<lambda>") params body scope (cloFrom X.env.cells scope.names []) pm (.ref c') ctv) ⟨[], []⟩ = pure [])
    (tk : Takes ((cxOf CXg X.prog X.w X.K X.mg X.base Ng qg sg g cdg X.A X.stack s H Eg).tr pn xe) W) (hr : Room (k + 1) (X.A.deeper (envOfC qg sg s.heap.objs.size g cdg)))
    (hbody : ∀ (A : Around) (outer : List Env) (s : Shared) (H : Hp) (E : XK), Room k (A.deeper (lamEnv X scope s.heap.objs.size f c')) → PE (lamCx X A outer s H E scope f c') body (tb E))
    (hN : Ng[i]? = some a) (hv : Vis sg a) (hd : (a == ("__debug__" : Str)) = false := by decide) (hcd : (a == ("__classdict__" : Str)) = false := by decide) :
    PE ((cxOf CXg X.prog X.w X.K X.mg X.base Ng qg sg g cdg X.A X.stack s H Eg).tr pn xe) (.Call (.Name a p1) [] [] p2)
      (fun σZ HZ Q => σZ[i]? = some (some (.ref f)) ∧ HZ c' = some (CodeO c' (X.env.qual ++ "<lambda>")) ∧ tb (WE W σZ) σ HZ Q) := by
  refine ⟨fun pinsZ sZ σZ HZ Q IZ h => ?_⟩
  obtain ⟨hs, hc, ht⟩ := h
  refine wpAny_Call_Name_kw (thn ((pe_var (pos := p1) (i := i) hN hv hd hcd).run pinsZ sZ σZ HZ (fun v H1 => v = .ref f ∧ H1 = HZ) IZ ⟨.ref f, hs, rfl, rfl⟩) fun u s1 ⟨v, H1, I1, r1, q1⟩ => ?_)
  obtain ⟨ev, eH⟩ := q1
  subst ev
  rw [eH] at I1
  obtain rfl : u = Value.ref f := r1
  have of1 : s1.heap.get? f = some (PySem.W.kla_obj "<lambda>" (X.env.qual ++ "<lambda>") params body scope (cloFrom X.env.cells scope.names []) pm c' ctv) := I1.base.keep f _ hf hfn hfr (fun z => nomatch (show f ∈ ([] : List Addr) from z))
  refine PySem.W.callWith_F0 ⟨_, _, _, _, of1⟩ ?_
  have un : Un (frs X.stack) [] H HZ s.heap s1.heap := I1.base
  obtain ⟨⟨oc, vs, t, hoc, hdc, hvc⟩, _, _⟩ := I1.hok c' _ hc
  have rc : codeAny (model X.prog X.w) (X.A.deeper (envOfC qg sg s.heap.objs.size g cdg)) (.call (.ref f) ⟨[], []⟩) (CR (L2.CX X.prog X.w) (envOfC qg sg s.heap.objs.size g cdg :: X.stack) X.prog X.w HZ s1 Q (WE W σZ)) s1 := by
    refine PySem.W.kla_callFunE hr.depth of1 rfl L.co L.gen rfl ⟨c', oc, vs, t, rfl, hoc, hdc, hvc⟩ ?_
    rw [hbind]
    refine wpAny_pure (wpAny_newFunctionEnv (fun y hy => (L.own y hy).2) (fun y hy => absurd hy (by simp)) (fun h₁ hns hsb => ⟨I1.nolimit.fresh _ hsb, ?_⟩) L.kind)
    show codeAny _ _ (.expr body (lamEnv X scope s1.heap.objs.size f c')) _ _
    have kp : ∀ b o, s1.heap.get? b = some o → h₁.get? b = some o := fun b o e => hsb.extBut b o (Nat.ne_of_lt (Heap.lt_size e)) (Heap.get?_push_of_some _ e)
    have J : Inv (lamCx X (X.A.deeper (envOfC qg sg s.heap.objs.size g cdg)) (envOfC qg sg s.heap.objs.size g cdg :: X.stack) s1 HZ (WE W σZ) scope f c') [] σ HZ { s1 with heap := h₁, toks := s1.toks + ([] : List (Str × Value)).length } :=
      LamX.lam_start2 I L I1.env0 hr.hd un hns kp
    refine PySem.W.kla_codeExpr (wpAny_mono ((hbody _ _ s1 HZ (WE W σZ) (hr.deeper _)).run [] _ _ HZ Q J ht) (fun v s' hq => ?_) fun e s' hq => hq)
    obtain ⟨w', H', J', rv, q⟩ := hq
    exact ⟨w', H', J'.os, J'.bare, J'.base, J'.hok, rv, q⟩
  have hx : PassesAt (L2.CX X.prog X.w) ((cxOf CXg X.prog X.w X.K X.mg X.base Ng qg sg g cdg X.A X.stack s H Eg).tr pn xe) σZ (WE W σZ) := passAt tk σZ
  refine wpAny_call (codeAny_mono rc fun r s' hq => ?_)
  cases r with
  | error e => exact hx pinsZ HZ s1 e s' I1 hq
  | ok fl =>
    cases fl with
    | ret u => exact I1.after hq
    | next => exact False.elim hq
    | brk => exact False.elim hq
    | cont => exact False.elim hq
end
/-- what told(lambda: body, due) gives; C the class that is caught, fld its field -/
def rRefuses (C : Nat) (fld : Str) (body due : SemE) : SemE := fun env st => (due env st).bind fun vd st1 => match body env st1 with
  | .ok _ st2 => .ok (.bl false) st2
  | .exc x st2 => bif Nat.beq x.cls C then (match x.fs with
    | [(n, v)] => bif decide (n = fld) then RE.ofO ((reprI [v] st2).bind fun (a, st3) => (reprI [vd] st3).bind fun (b, st4) => blO (eqI st4 a b) st4) else .bad
    | _ => .bad) else .bad
  | .bad => .bad

structure ToldS (X : Cx) (Ng : List Str) (sg : Scope) (C : Addr) (a due e cn fld : Str) : Prop where
  N0 : Ng[0]? = some a
  N1 : Ng[1]? = some due
  N2 : Ng[2]? = some e
  nd : Ng.Nodup
  l0 : sg.names.lookup a = some .local
  l1 : sg.names.lookup due = some .local
  l2 : sg.names.lookup e = some .local
  gC : sg.names.lookup cn = some .globalImplicit
  gR : sg.names.lookup ("repr" : Str) = some .globalImplicit
  mC : X.mg cn = some (.ref C)
  mR : X.mg ("repr" : Str) = none
  xf : XfC X.K C
  no : PySem.W.findIn X.K (.ref C) fld = some none
  ex : PySem.W.exmOne X.K (.ref C) (.ref C) = some true
  dC : (cn == ("__debug__" : Str)) = false
  d0 : (a == ("__debug__" : Str)) = false
  c0 : (a == ("__classdict__" : Str)) = false
  d1 : (due == ("__debug__" : Str)) = false
  c1 : (due == ("__classdict__" : Str)) = false
  d2 : (e == ("__debug__" : Str)) = false
  c2 : (e == ("__classdict__" : Str)) = false
section
variable {X : Cx} {P : Par X.K} {W : WX}
/-- the try of told -/
theorem told_ok {Ng : List Str} {x a due e cn fld : Str} {sg : Scope} {g C f c' : Addr} {cdg : Value} {j : Nat} {p1 p2 p3 p4 p5 p6 p7 p8 p9 q1 q2 q3 q4 q5 q6 r1 r2 : Pos} {s : Shared} {H : Hp} {tl : XK → Hp → VK → Prop} (S : ToldS X Ng sg C a due e cn fld) (hgd : X.A.guards = some []) (hu : X.A.units + 100 < cLine)
    (act : ∀ (W : WX) (pn : List (Addr × Obj)) (xe : Value → Shared → Prop), Takes ((cxOf C8.CX0 X.prog X.w X.K X.mg X.base Ng x sg g cdg X.A X.stack s H C8.E0).tr pn xe) W →
      PE ((cxOf C8.CX0 X.prog X.w X.K X.mg X.base Ng x sg g cdg X.A X.stack s H C8.E0).tr pn xe) (.Call (.Name a p1) [] [] p2) (fun σZ HZ Q => σZ[0]? = some (some (.ref f)) ∧ HZ c' = some (CodeO c' (X.env.qual ++ "<lambda>")) ∧ tl (WE W σZ) HZ Q))
    (hsw : ∀ env, swapsWith (.Call (.Name a p1) [] [] p2) none p3.line env = pure false) (hat : ∀ env, attributeBase (.Name e q2) fld env (eval (.Name e q2) env) = eval (.Name e q2) env) (mono : ∀ (E E' : XK) (H : Hp) (Q : VK), (∀ c d H, E c d H → E' c d H) → tl E H Q → tl E' H Q) :
    PSs (cxOf C8.CX0 X.prog X.w X.K X.mg X.base Ng x sg g cdg X.A X.stack s H C8.E0).nox
      [.Try [.Expr (.Call (.Name a p1) [] [] p2) p3, .Return (some (.Constant (.bool false) j p4)) p5]
        [.ExceptHandler (some (.Name cn p6)) (some e) [.Return (some (.Compare (.Call (.Name "repr" q1) [.Attribute (.Name e q2) fld q3] [] q4) [.Eq] [.Call (.Name "repr" q5) [.Name due q6] [] p7] p8)) p9] r1] [] [] r2]
      (fun D σ H1 => σ[0]? = some (some (.ref f)) ∧ H1 c' = some (CodeO c' (X.env.qual ++ "<lambda>")) ∧ tl (fun c d H2 => c = .ref C ∧ ∀ a0, H2 a0 = none →
          (tOp (rB X.K fun a b st => blO (eqI st a b) st) (tCB (rCl X.K reprI) (tCons (tXf a0 c d C fld (tVar 2)) tNil)) (tCB (rCl X.K reprI) (tCons (tVar 1) tNil))) (σ.set 2 (some (.ref a0))) H2 D.rt) H1 fun _ H2 => D.rt (.bl false) H2) := by
  have hv : ∀ {y : Str}, sg.names.lookup y = some .local → Vis sg y := fun h => .inl h
  refine pss_one ((ps_try_as (X := (cxOf C8.CX0 X.prog X.w X.K X.mg X.base Ng x sg g cdg X.A X.stack s H C8.E0).nox) (c := .ref C) (i := 2) (n := e) (Wout := fun _ _ _ _ => False)
    (tb := fun W D σ H1 => σ[0]? = some (some (.ref f)) ∧ H1 c' = some (CodeO c' (X.env.qual ++ "<lambda>")) ∧ tl (WE W σ) H1 fun _ H2 => D.rt (.bl false) H2)
    (ts := fun a0 cls d => tRet (tOp (rB X.K fun a b st => blO (eqI st a b) st) (tCB (rCl X.K reprI) (tCons (tXf a0 cls d C fld (tVar 2)) tNil)) (tCB (rCl X.K reprI) (tCons (tVar 1) tNil))))
    rfl rfl S.nd S.N2 S.l2 ⟨S.gC, S.dC, .inl S.mC⟩ LamX.takes0 (fun W pn xe tk _ => ?_) (fun a0 oe cls d pn hz hvs => ?_)).of ?_)
  · have hp := act W pn xe tk
    exact (pss_cons (ps_expr hp (hsw _)) (pss_one (ps_ret pe_bl))).of fun D σ H1 ⟨h1, h2, h3⟩ => ⟨h1, h2, h3⟩
  · refine pss_one (ps_ret (pe_cmpR (op_eqI (by show X.A.units + 3 + 64 < cLine; omega)) (pe_callB (call_reprI hgd (by show X.A.units + 3 + 65 < cLine; omega)) S.gR S.mR (by rfl) (pa_cons (pe_xf S.xf S.no hz hvs (pe_var S.N2 (hv S.l2) S.d2 S.c2) (hat _)) pa_nil) (by decide) (by decide))
      (pe_callB (call_reprI hgd (by show X.A.units + 3 + 65 < cLine; omega)) S.gR S.mR (by rfl) (pa_cons (pe_var S.N1 (hv S.l1) S.d1 S.c1) pa_nil) (by decide) (by decide)) (nomark _)))
  · intro D σ H1 ⟨h1, h2, h3⟩
    refine ⟨h1, h2, mono _ _ _ _ (fun c d H2 ⟨hc, hq⟩ => ?_) h3⟩
    subst hc
    exact ⟨true, S.ex, fun _ a0 ha0 => hq a0 ha0, fun z => nomatch z⟩
end
end PI

set_option Elab.async false
set_option linter.all false
set_option maxRecDepth 100000
set_option maxHeartbeats 2000000
/-! PI15: told(lambda: .., due), called. -/
namespace PI
open PySem PySem.Spec PyProof.Rows L2
open LamX (Tabs TabS CodeO ExtN TabB LamS lamEnv lamCx)
section
variable {X : Cx} {P : Par X.K} {W : WX}
theorem se_refuses {x a due e cn fld : Str} {g c PP C : Addr} {lb : Nat} {k : Nat} {pg : Arguments} {sg : Scope} {dV kV doc pm cdv ct oc : Value} {an od : Option Addr} {osl : Array (Option Value)} {Ng : List Str}
    {params : Arguments} {body de : Expr} {scope : Scope} {rb rd : SemE} {p lpos pos : Pos} {j : Nat} {p1 p2 p3 p4 p5 p6 p7 p8 p9 q1 q2 q3 q4 q5 q6 r1 r2 : Pos} {bg : List Stmt}
    (hbg : bg = [.Try [.Expr (.Call (.Name a p1) [] [] p2) p3, .Return (some (.Constant (.bool false) j p4)) p5]
        [.ExceptHandler (some (.Name cn p6)) (some e) [.Return (some (.Compare (.Call (.Name "repr" q1) [.Attribute (.Name e q2) fld q3] [] q4) [.Eq] [.Call (.Name "repr" q5) [.Name due q6] [] p7] p8)) p9] r1] [] [] r2])
    (hcm : P.cm lb = C) (hs0 : X.stack = X.env :: X.outer) (hgd : X.A.guards = some []) (hun : X.A.units + 100 < cLine) (hg : Gl X x) (hm : X.mg x = some (.ref g)) (hk : PySem.W.keepIn X.K (.ref g) = true)
    (lk : X.K.lookup g = some ⟨oc, od, .func (PySem.W.fnOf x x pg bg sg dV kV doc pm an cdv ct), osl⟩) (hcg : PySem.W.codeIn X.K cdv x = true) (hb : L2.Binds X.K (PySem.W.fnOf x x pg bg sg dV kV doc pm an cdv ct) [a, due] []) (Sg : FnScope Ng [a, due] sg) (S : ToldS X Ng sg C a due e cn fld) (hNg : Ng.length = 3)
    (TB : TabB X.base X.mg c PP) (hcode : X.env.code = .ref c) (hmT : (PP, X.env.qual ++ "<lambda>") ∈ P.T) (hu : ∀ p ∈ P.T, p.1 = PP → p.2 = X.env.qual ++ "<lambda>") (hr : Room (k + 2) X.A) (L : LamS X.env.scope scope) (hdef : defaultsOf params X.env = ([], []))
    (hbind : ∀ (q : Str) (cl : List (Str × Addr)) (pm cv ctv : Value), bindArgs (PySem.W.kla_fn "<lambda>" q params body scope cl pm cv ctv) ⟨[], []⟩ = pure [])
    (hbody : ∀ (A : Around) (outer : List Env) (s : Shared) (H : Hp) (E : XK) (f c' : Addr), Room k (A.deeper (lamEnv X scope s.heap.objs.size f c')) → PE (lamCx X A outer s H E scope f c') body (tE P (fun c d _ H' => E c d H') rb))
    (hd : SA X P W [de] (rCons rd rNil))
    (hsw : ∀ env, swapsWith (.Call (.Name a p1) [] [] p2) none p3.line env = pure false) (hat : ∀ env, attributeBase (.Name e q2) fld env (eval (.Name e q2) env) = eval (.Name e q2) env)
    (hdb : (x == ("__debug__" : Str)) = false := by decide) (hst : starEach [.Lambda params body scope lpos, de] X.env = (false, eval (.Lambda params body scope lpos) X.env) :: starEach [de] X.env := by rfl) (hpl : (backTo pos (starEach [de] X.env)).any (·.1) = false := by rfl) :
    SE X P W (.Call (.Name x p) [.Lambda params body scope lpos, de] [] pos) (rRefuses lb fld rb rd) := by
  subst hbg
  refine ⟨fun pins s σ H Q I h => ?_⟩
  obtain ⟨ρ, env, st, rx, re, h⟩ := h
  refine wpAny_Call_Name_kw (ld_glob I hg hm ?_ hdb)
  refine PySem.W.callWith_K (h₀ := X.base) I.ok.mod.kin hk ?_ hst hpl
  rw [hst]
  show wpAny _ _ (spliced ((false, eval (.Lambda params body scope lpos) X.env) :: backTo pos (starEach [de] X.env))) _ _ s
  refine Calls.spliced_cons (LamX.lam_make2 I TB hcode hmT hu rx.tabs hdef (L.has I.ok) fun f c' pm' ctv H1 s' I1 eN T1 hf hfn hfr hco => ?_)
  obtain ⟨ex1, rx1⟩ := rx.extN eN T1
  have h1 : Post P W (RpV X.K) ρ H1 σ Q (rRefuses lb fld rb rd env st) := Post.ext ex1 h
  have re1 := re.monoX rx.r ex1
  have fL : f ≠ X.env.locals := fun z => by
    obtain ⟨m, ⟨o, es, ep, ho, hd, _⟩, _⟩ := I1.loc
    rw [← z, hf] at ho
    cases ho
    cases hd
  have fX : f ∉ X.fs := fun z => hfr (by rw [hs0]; unfold frs; exact List.mem_filterMap.mpr (by obtain ⟨y, h1, h2⟩ := List.mem_filterMap.mp z; exact ⟨y, List.mem_cons_of_mem _ h1, h2⟩))
  obtain ⟨fo, hfo⟩ : ∃ fo, fo = PySem.W.kla_obj "<lambda>" (X.env.qual ++ "<lambda>") params body scope (cloFrom X.env.cells scope.names []) pm' c' ctv := ⟨_, rfl⟩
  have I1p : Inv X (pins ++ [(f, fo)]) σ H1 s' := I1.pins_of fun q hq => by
    rcases List.mem_append.mp hq with hq | hq
    · exact I1.pin q (List.mem_append_right _ hq)
    · obtain rfl := List.mem_singleton.mp hq
      exact ⟨by rw [hfo]; exact hf, hfn, fL, fX, fun v z => by rw [hfo] at z; cases z⟩
  have hdue : tA P W (rCons rd rNil) σ H1 fun vs H2 => ∃ (ρ2 : List Addr) (st2 : Sto) (v : IV) (vv : V), vs = [vv] ∧ ExtX ρ H1 ρ2 H2 ∧ RelX P H2 ρ2 st2 ∧ RepV X.K H2 ρ2 v vv ∧ Post P W (RpV X.K) ρ2 H2 σ Q (match rb env st2 with
      | .ok _ st2 => .ok (.bl false) st2
      | .exc x st2 => bif Nat.beq x.cls lb then (match x.fs with
        | [(n, v')] => bif decide (n = fld) then RE.ofO ((reprI [v'] st2).bind fun (a, st3) => (reprI [v] st3).bind fun (b, st4) => blO (eqI st4 a b) st4) else .bad
        | _ => .bad) else .bad
      | .bad => .bad) := by
    refine ⟨ρ, env, st, rx1, re1, ?_⟩
    unfold rRefuses at h1
    unfold rCons rNil
    have h1' := h1
    cases hrd : rd env st with
    | ok v st2 =>
      rw [hrd] at h1'
      show Post P W (RpVs X.K) ρ H1 σ _ (.ok [v] st2)
      intro ρ2 H2 vs e2 r2 pv1
      obtain ⟨vv, rfl, pv2⟩ := RepVs.one pv1
      exact ⟨ρ2, st2, v, vv, rfl, e2, r2, pv2, Post.ext e2 h1'⟩
    | exc x st2 => rw [hrd] at h1'; exact h1'
    | bad => rw [hrd] at h1'; exact h1'
  refine thn (hd.run pos (pins ++ [(f, fo)]) s' σ H1 _ I1p hdue) fun us s2 ⟨vs, H2, I2, rv, ρ2, st2, v, vv, evs, ex2, rx2, pv, hp⟩ => ?_
  subst evs
  obtain ⟨u, rfl, ru⟩ := vals1 rv
  have hp2 := I2.pin (f, fo) (List.mem_append_right _ (List.mem_append_right _ List.mem_cons_self))
  have hf2 : s2.heap.get? f = some (PySem.W.kla_obj "<lambda>" (X.env.qual ++ "<lambda>") params body scope (cloFrom X.env.cells scope.names []) pm' c' ctv) := by rw [← hfo]; exact hp2.1
  have cn : c' ∉ ρ := fun z => by
    obtain ⟨_, ob, _, _, q⟩ := rx1.r.at' z
    cases ob with
    | lst xs => obtain ⟨vs, e, _⟩ := q; rw [hco] at e; unfold CodeO at e; cases e
    | frl xs => obtain ⟨vs, e | ⟨ob, e⟩, _⟩ := q <;> (rw [hco] at e; unfold CodeO at e; cases e)
  have hco2 : H2 c' = some (CodeO c' (X.env.qual ++ "<lambda>")) := ex2.keep c' _ hco cn (fun ps z => by unfold CodeO at z; cases z)
  have re2 := re1.monoX rx1.r ex2
  have rc : codeAny (model X.prog X.w) X.A (.call (.ref g) ⟨[.ref f, u], []⟩) (CR C8.CX0 X.stack X.prog X.w H2 s2 Q C8.E0) s2 := by
    refine LamX.run_ofS (N := Ng) (ps := [a, due]) (us := [.ref f, u]) (vs := [.ref f, vv]) lk hcg Sg hr I2.env0 (hb s2 [.ref f, u] I2.kIn rfl) (.cons rfl (.cons ru .nil)) rfl fun hr' => ?_
    refine ⟨_, (told_ok (tl := fun E H Q => tE P (fun c d _ H' => E c d H') rb σ H Q) S hgd hun (fun W pn xe tk => pe_act2 (i := 0) I2 L hf2 hp2.2.1 hfr (hbind _ _ _ _ _) tk hr' (fun A outer s H E hr2 => hbody A outer s H E f c' hr2) S.N0 (.inl S.l0) S.d0 S.c0) hsw hat (fun E E' H Q hE ⟨ρ, env, st, r, re, h⟩ => ⟨ρ, env, st, r, re, h.wx fun c d H' w => hE c d H' w⟩)).nox, ?_⟩
    have hst0 : L2.start Ng [V.ref f, vv] = [some (.ref f), some vv, none] := by simp [L2.start, hNg]
    refine ⟨by rw [hst0]; rfl, hco2, ρ2, env, st2, rx2, re2, ?_⟩
    cases hrb : rb env st2 with
    | ok v' st3 =>
      rw [hrb] at hp
      exact fun ρ' H' x' e r _ => hp ρ' H' (.bl false) e r (.bl false)
    | bad => rw [hrb] at hp; exact hp
    | exc xx st3 =>
      rw [hrb] at hp
      dsimp only at hp
      intro ρ3 H3 cc dd e3 r3 rxc
      obtain ⟨k1, hp⟩ := bif_bad hp
      have hcl := Nat.eq_of_beq_eq_true k1
      obtain ⟨rfl, dd', ws, rfl, hxd, rf⟩ := rxc
      rw [hcl, hcm]
      refine ⟨rfl, fun a0 ha0 => ?_⟩
      split at hp
      · rename_i n v' efs
        obtain ⟨k2, hp⟩ := bif_bad hp
        have hn := of_decide_eq_true k2
        rw [efs] at rf
        cases rf with
        | @cons _ _ w _ ws' pw tw =>
          cases tw
          cases e4 : reprI [v'] st3 with
          | none => rw [e4] at hp; exact hp.elim
          | some q4 =>
            obtain ⟨av, st4⟩ := q4
            rw [e4] at hp
            cases e5 : reprI [v] st4 with
            | none => simp only [Option.bind_some] at hp; rw [e5] at hp; exact hp.elim
            | some q5 =>
              obtain ⟨bv, st5⟩ := q5
              simp only [Option.bind_some] at hp
              rw [e5] at hp
              simp only [Option.bind_some] at hp
              refine ⟨.ref a0, by rw [hst0]; rfl, rfl, rfl, dd', _, w, rfl, hxd, by rw [hn]; simp [List.lookup], ?_⟩
              refine ⟨ρ3, st3, [v'], r3.r, .cons pw .nil, ?_⟩
              rw [e4]
              intro ρ4 H4 y x4 r4 py
              refine ⟨vv, by rw [hst0]; rfl, ρ4, st4, [v], r4, .cons ((pv.monoX rx2.r e3).mono r3.r x4) .nil, ?_⟩
              rw [e5]
              intro ρ5 H5 z x5 r5 pz
              have rx4 := r3.ext x4 r4
              have rx5 := rx4.ext x5 r5
              exact ⟨ρ5, st5, av, bv, r5, py.mono r4 x5, pz, Post.ofO (Post.ext (e3.trans (x4.x.trans x5.x)) hp) rx5⟩
      · exact hp.elim
  refine ⟨I2.kIn, wpAny_call (codeAny_mono rc fun r s3 hq => ?_)⟩
  cases r with
  | error e => exact (show False from hq).elim
  | ok fl =>
    cases fl with
    | ret u =>
      obtain ⟨v3, H3, J, rv3, q3⟩ := I2.after hq
      exact ⟨v3, H3, J.pins_of fun p hp => J.pin p (List.mem_append_right _ (List.mem_append_left _ hp)), rv3, q3⟩
    | next => exact False.elim hq
    | brk => exact False.elim hq
    | cont => exact False.elim hq
end
end PI

set_option Elab.async false
set_option linter.all false
set_option maxRecDepth 100000
set_option maxHeartbeats 2000000
/-! PI16: what the printed texts use. -/
namespace PI
open PySem PySem.Spec PyProof.Rows L2
open LamX (Tabs TabS CodeO ExtN TabB LamS lamEnv lamCx)
abbrev cEq : IV → IV → Sto → RO := fun a b st => blO (eqI st a b) st
abbrev cNe : IV → IV → Sto → RO := fun a b st => blN (eqI st a b) st
abbrev cIn : IV → IV → Sto → RO := fun a b st => blO (inI st a b) st
abbrev cNotIn : IV → IV → Sto → RO := fun a b st => blN (inI st a b) st
abbrev cIs : IV → IV → Sto → RO := fun a b st => blO (isNI a b) st
abbrev cIsNot : IV → IV → Sto → RO := fun a b st => blN (isNI a b) st
abbrev cLt : IV → IV → Sto → RO := fun a b st => blO (ltI a b) st
abbrev cLe : IV → IV → Sto → RO := fun a b st => blO (leI a b) st
abbrev cGt : IV → IV → Sto → RO := fun a b st => blO (ltI b a) st
abbrev cGe : IV → IV → Sto → RO := fun a b st => blO (leI b a) st
theorem ru4 {k : Nat} {A : Around} (r : Room k A) : A.units + 64 < cLine := by have := r.un; omega
theorem ru5 {k : Nat} {A : Around} (r : Room k A) : A.units + 65 < cLine := by have := r.un; omega
/-- a constant of the module -/
structure Gc (K : PySem.W.Frag) (mg : Str → Option Value) (x : Str) (c : IV) : Prop where
  ex : ∃ (v : V) (u : Value), mg x = some u ∧ RelV v u ∧ ∀ H ρ, RepV K H ρ c v
/-- a def that gives what g says -/
structure Dn (P : Program) (w : World) (K : PySem.W.Frag) (mg : Str → Option Value) (base : Heap) (T : List (Addr × Str) × (Nat → Addr)) (k : Nat) (x : Str) (n : Nat) (g : List IV → Sto → RE IV) : Prop where
  ex : ∃ (f : Addr) (fd : FuncData) (ps : List Str), ps.length = n ∧ mg x = some (.ref f) ∧ PySem.W.keepIn K (.ref f) = true ∧ L2.Binds K fd ps [] ∧ FnOk P w K mg base (L2.CX P w) k f fd ps (spI K T n g)
/-- an exception class of one field -/
structure Xn (P : Program) (w : World) (K : PySem.W.Frag) (mg : Str → Option Value) (base : Heap) (cm : Nat → Addr) (lb : Nat) (x fld : Str) : Prop where
  ex : ∃ (C fI : Addr) (fd : FuncData) (ps : List Str), cm lb = C ∧ mg x = some (.ref C) ∧ OexC K C ∧ PySem.W.findIn K (.ref C) "__init__" = some (some (.ref fI)) ∧ PySem.W.typeIn K (.ref fI) = some (.type "function") ∧ L2.Binds K fd ps [] ∧ FnOk P w K mg base (L2.CX P w) 1 fI fd ps (spSup C fld)
section
variable {X : Cx} {P : Par X.K} {W : WX} {a e : Expr} {es : List Expr} {ra : SemE} {rs : SemA} {pos p p2 : Pos} {x fld : Str}
theorem se_gc {c : IV} (G : Gc X.K X.mg x c) (hg : Gl X x) (hd : (x == ("__debug__" : Str)) = false := by decide) : SE X P W (.Name x pos) (rC c) := by
  obtain ⟨v, u, h1, h2, h3⟩ := G.ex
  exact se_glob hg h1 h2 h3 hd
theorem se_dn {g : List IV → Sto → RE IV} {k n : Nat} (D : Dn X.prog X.w X.K X.mg X.base (P.T, P.cm) k x n g) (tk : Takes X W) (hr : Room k X.A) (hg : Gl X x) (ha : SA X P W (a :: es) rs) (hl : LenN n rs)
    (hdb : (x == ("__debug__" : Str)) = false := by decide) (he : starEach (a :: es) X.env = (false, eval a X.env) :: starEach es X.env := by rfl) (hpl : (backTo pos (starEach es X.env)).any (·.1) = false := by rfl) : SE X P W (.Call (.Name x p) (a :: es) [] pos) (rDef g rs) := by
  obtain ⟨f, fd, ps, rfl, h1, h2, h3, F⟩ := D.ex
  exact se_def F tk hr hg h1 h2 h3 rfl ha (fun σ H Q h => hl.many σ H Q h) hdb he hpl
theorem ss_rs {lb : Nat} (D : Xn X.prog X.w X.K X.mg X.base P.cm lb x fld) (hc : X.calm = true) (tk : Takes X W) (hr : Room 2 X.A) (hg : Gl X x) (he : SE X P W e ra)
    (hdb : (x == ("__debug__" : Str)) = false := by decide) (hst : starEach [e] X.env = (false, eval e X.env) :: starEach [] X.env := by rfl) (hpl : (backTo p2 (starEach [] X.env)).any (·.1) = false := by rfl) : SS X P W (.Raise (some (.Call (.Name x p) [e] [] p2)) none pos) (sRaise lb fld ra) := by
  obtain ⟨C, fI, fd, ps, hcm, h1, T, iC, tI, hb, F⟩ := D.ex
  exact ss_raise hcm hc tk T iC tI F hr hb hg h1 he hdb hst hpl
theorem pts_yes : PTs X [] (tT P W rYes) := ⟨fun pins s σ H Q I ⟨ρ, env, st, r, re, h⟩ => pts_nil.run pins s σ H Q I (h.here r rfl)⟩
end
/-- a def by its printed body -/
theorem dn_mk {P : Program} {w : World} {K : PySem.W.Frag} {mg : Str → Option Value} {base : Heap} {T : List (Addr × Str) × (Nat → Addr)} {k : Nat} {x : Str} {st : Stmt} {N ps : List Str} {r : SemS} {n m : Nat}
    (hF : ∃ f fd, mg x = some (.ref f) ∧ Fun K x x st f fd) (S : FnScope N ps (defScope st)) (hn : ps.length = n) (hm : N.length = m)
    (hb : ∀ (kV doc pm : Value) (an : Option Addr) (cdv ct : Value) (us : List Value), us.length = ps.length → bindArgs (PySem.W.fnOf x x (defArgs st) (defBody st) (defScope st) .none kV doc pm an cdv ct) ⟨us, []⟩ = pure (ps.zip us))
    (hbody : ∀ (f : Addr) (cdv : Value) (A : Around) (outer : List Env) (s : Shared) (H : Hp) (E : XK) (Pr : Par K), Room k (A.deeper (envOfC x (defScope st) s.heap.objs.size f cdv)) → (Pr.T, Pr.cm) = T →
      PSs (cxOf (L2.CX P w) P w K mg base N x (defScope st) f cdv A outer s H E) (defBody st) (tS Pr (fun c d _ H' => E c d H') r)) : Dn P w K mg base T (k + 1) x n (callI m r) := by
  obtain ⟨f, fd, h1, F⟩ := hF
  have hbi := F.binds hb
  have kp := F.kp
  obtain ⟨oc, od, kV, doc, pm, an, cdv, ct, osl, rfl, lk, hcd⟩ := F.ex
  subst hn hm
  exact ⟨f, _, ps, rfl, h1, kp, hbi, fn_I lk hcd S fun A outer s H E Pr hr hT => hbody f cdv A outer s H E Pr hr hT⟩
end PI

set_option Elab.async false
set_option linter.all false
set_option maxRecDepth 100000
set_option maxHeartbeats 2000000
/-! PI17: try: .. except C as e: if e.f != k: return False. -/
namespace PI
open PySem PySem.Spec PyProof.Rows L2
def sTryNe (lb : Nat) (fld : Str) (k : Int) (ie : Nat) (rb : SemS) : SemS := fun env st => match rb env st with
  | .exc x env1 st1 => bif Nat.beq x.cls lb && Nat.blt ie env1.length then (match x.fs with
    | [(n, .int i)] => bif decide (n = fld) then (bif decide (i = k) then .nx (env1.set ie none) st1 else .rt (.bl false) st1) else .bad
    | _ => .bad) else .bad
  | .nx e s => .nx e s
  | .rt v s => .rt v s
  | .bk e s => .bk e s
  | .ct e s => .ct e s
  | .bad => .bad
section
variable {X : Cx} {P : Par X.K} {W : WX} {body : List Stmt} {rb : SemS} {cn e fld : Str} {C : Addr} {lb ie j1 j2 : Nat} {k : Int} {p0 p1 p2 p3 p4 p5 p6 p7 p8 p9 : Pos}
theorem RelEnv.unset {K : PySem.W.Frag} {H : Hp} {ρ : List Addr} {env : IEnv} {σ : L2.St} (h : RelEnv K H ρ env σ) (i : Nat) : RelEnv K H ρ (env.set i none) (σ.set i none) := by
  refine ⟨by simp [h.len], fun m w q => ?_⟩
  by_cases hj : i = m
  · subst hj
    have hl : i < env.length := by
      have := (List.getElem?_eq_some_iff.mp q).1
      simpa using this
    rw [List.getElem?_set_self hl] at q
    cases q
  · rw [List.getElem?_set_ne hj] at q ⊢
    exact h.get m w q
theorem ss_tryNe (hcm : P.cm lb = C) (hs : X.stack = X.env :: X.outer) (hf : X.env.frame = some X.env.locals) (hN : X.N.Nodup) (hi : X.N[ie]? = some e) (hln : X.env.kindOf e = some .local) (hc : Names X cn (.ref C)) (T : XfC X.K C) (hno : PySem.W.findIn X.K (.ref C) fld = some none)
    (hex : PySem.W.exmOne X.K (.ref C) (.ref C) = some true) (hd : (e == ("__debug__" : Str)) = false) (hcd : (e == ("__classdict__" : Str)) = false)
    (hb : ∀ (W : WX) (pn : List (Addr × Obj)) (xe : Value → Shared → Prop), Takes (X.tr pn xe) W → PassesOwn (model X.prog X.w) X.A X.env xe → PSs (X.tr pn xe) body (tS P W rb))
    (hat : ∀ env, attributeBase (.Name e p3) fld env (eval (.Name e p3) env) = eval (.Name e p3) env) :
    SS X P W (.Try body [.ExceptHandler (some (.Name cn p0)) (some e) [.If (.Compare (.Attribute (.Name e p3) fld p4) [.NotEq] [.Constant (.int k) j1 p5] p6) [.Return (some (.Constant (.bool false) j2 p7)) p8] [] p9] p1] [] [] p2) (sTryNe lb fld k ie rb) :=
  (ps_try_as (c := .ref C) (i := ie) (n := e) (Wout := fun _ _ _ _ => False) (tb := fun W => tS P W rb)
    (ts := fun a cls d => tIfS (tTest (tOp rNe (tXf a cls d C fld (tVar ie)) (tC (.int k)))) (tRet (tC (.bl false))) tNext)
    hs hf hN hi hln hc LamX.takes0 hb (fun a oe cls d pn hz hvs => pss_one (ps_if (pt_cmpR op_ne (pe_xf T hno hz hvs (pe_var hi (.inl hln) hd hcd) (hat _)) pe_int (nomark _)) (pss_one (ps_ret pe_bl)) pss_nil))).of fun D σ H ⟨ρ, env, st, rx, re, h⟩ => by
    refine ⟨ρ, env, st, rx, re, ?_⟩
    unfold sTryNe at h
    cases hr : rb env st with
    | exc x env1 st1 =>
      rw [hr] at h
      dsimp only at h
      cases hk : (Nat.beq x.cls lb && Nat.blt ie env1.length) with
      | false => rw [hk] at h; exact h.elim
      | true =>
        rw [hk] at h
        obtain ⟨k1, k2⟩ := Bool.and_eq_true_iff.mp hk
        have hcl := Nat.eq_of_beq_eq_true k1
        have hlt : ie < env1.length := by simp [Nat.blt] at k2; omega
        intro ρ' H' c d σ' ex r' re' rxc
        obtain ⟨rfl, dd, vs, rfl, hxd, rf⟩ := rxc
        rw [hcl, hcm]
        refine ⟨true, hex, fun _ a ha => ?_, fun z => nomatch z⟩
        simp only [cond_true] at h
        split at h
        · rename_i n i efs
          cases hn : decide (n = fld) with
          | false => rw [hn] at h; exact h.elim
          | true =>
            rw [hn] at h
            simp only [cond_true] at h
            have hn' := of_decide_eq_true hn
            rw [efs] at rf
            cases rf with
            | @cons _ _ w _ ws' pw tw =>
              cases tw
              cases pw
              have hlt' : ie < σ'.length := by rw [← re'.len]; exact hlt
              refine ⟨.ref a, by rw [List.getElem?_set_self hlt'], rfl, rfl, dd, _, .int i, rfl, hxd, by rw [hn']; simp [List.lookup], rfl, _, rfl, ?_⟩
              by_cases hik : i = k
              · subst hik
                rw [decide_eq_true rfl] at h
                rw [decide_eq_true rfl]
                show (if (!true) = true then _ else _)
                rw [if_neg (by decide)]
                show D.nx ((σ'.set ie (some (V.ref a))).set ie none) H'
                rw [List.set_set]
                exact h ρ' H' _ ex r' (re'.unset ie)
              · rw [decide_eq_false hik] at h
                have : decide (V.int i = V.int k) = false := decide_eq_false fun z => hik (V.int.inj z)
                rw [this]
                show (if (!false) = true then _ else _)
                rw [if_pos (by decide)]
                exact h ρ' H' (.bl false) ex r' (.bl false)
        · exact h.elim
    | nx => rw [hr] at h; exact h
    | rt => rw [hr] at h; exact h
    | bk => rw [hr] at h; exact h
    | ct => rw [hr] at h; exact h
    | bad => rw [hr] at h; exact h
end
end PI

set_option Elab.async false
set_option linter.all false
set_option maxRecDepth 100000
set_option maxHeartbeats 2000000
/-! PI18: defs that want to know that no guard runs; told as a record. -/
namespace PI
open PySem PySem.Spec PyProof.Rows L2
open LamX (Tabs TabS CodeO ExtN TabB LamS lamEnv lamCx)
structure FnOkG (P : Program) (w : World) (K : PySem.W.Frag) (mg : Str → Option Value) (base : Heap) (CX : CXT) (k : Nat) (f : Addr) (fd : FuncData) (ps : List Str) (sp : Sp) : Prop where
  len : ∀ vs H Q E, sp vs H Q E → vs.length = ps.length
  run : ∀ (A : Around) (outer : List Env) (s : Shared) (H : Hp) (args : Args) (us : List Value) (vs : List V) (Q : VK) (E : XK), A.guards = some [] → Room k A → Env0 P w K mg base A outer s H → BindsTo s fd args (ps.zip us) → Vals vs us → sp vs H Q E →
    codeAny (model P w) A (.call (.ref f) args) (CR CX outer P w H s Q E) s
structure DnG (P : Program) (w : World) (K : PySem.W.Frag) (mg : Str → Option Value) (base : Heap) (T : List (Addr × Str) × (Nat → Addr)) (k : Nat) (x : Str) (n : Nat) (g : List IV → Sto → RE IV) : Prop where
  ex : ∃ (f : Addr) (fd : FuncData) (ps : List Str), ps.length = n ∧ mg x = some (.ref f) ∧ PySem.W.keepIn K (.ref f) = true ∧ L2.Binds K fd ps [] ∧ FnOkG P w K mg base (L2.CX P w) k f fd ps (spI K T n g)
theorem fn_IG {P : Program} {w : World} {K : PySem.W.Frag} {mg : Str → Option Value} {base : Heap} {T : List (Addr × Str) × (Nat → Addr)} {k : Nat} {f : Addr} {name qual : Str} {params : Arguments} {body : List Stmt} {scope : Scope} {dV kV doc pm cdv ct oc : Value} {an od : Option Addr}
    {osl : Array (Option Value)} {N ps : List Str} {r : SemS} (lk : K.lookup f = some ⟨oc, od, .func (PySem.W.fnOf name qual params body scope dV kV doc pm an cdv ct), osl⟩) (hcd : PySem.W.codeIn K cdv qual = true) (S : FnScope N ps scope)
    (hbody : ∀ (A : Around) (outer : List Env) (s : Shared) (H : Hp) (E : XK) (Pr : Par K), A.guards = some [] → Room k (A.deeper (envOfC qual scope s.heap.objs.size f cdv)) → (Pr.T, Pr.cm) = T →
      PSs (cxOf (L2.CX P w) P w K mg base N qual scope f cdv A outer s H E) body (tS Pr (fun c d _ H' => E c d H') r)) :
    FnOkG P w K mg base (L2.CX P w) (k + 1) f (PySem.W.fnOf name qual params body scope dV kV doc pm an cdv ct) ps (spI K T ps.length (callI N.length r)) := by
  refine ⟨fun vs H Q E h => h.1, fun A outer s H args us vs Q E hg hr e0 hb rv h => ?_⟩
  have hl := h.1
  refine LamX.run_ofS lk hcd S hr e0 hb rv hl fun hr' => ?_
  obtain ⟨hl, Pr, ρ, st, xs, hT, rx, t, hp⟩ := h
  refine ⟨_, hbody A outer s H E Pr hg hr' hT, ρ, startI N.length xs, st, rx, relEnv_start t, ?_⟩
  unfold callI at hp
  split at hp
  · rename_i e1 st1 e
    rw [e]
    exact fun ρ' H' σ' x r' re => hp ρ' H' .non x r' .non
  · rename_i v st1 e
    rw [e]
    exact fun ρ' H' y x r' p => hp ρ' H' y x r' p
  · rename_i x e1 st1 e
    rw [e]
    exact fun ρ' H' c d σ' x r' re q => hp ρ' H' c d x r' q
  · exact hp.elim
/-- a def by its printed body, guards known; cd the def's code -/
theorem dn_mkG {P : Program} {w : World} {K : PySem.W.Frag} {mg : Str → Option Value} {base : Heap} {T : List (Addr × Str) × (Nat → Addr)} {k : Nat} {x : Str} {st : Stmt} {N ps : List Str} {r : SemS} {n m : Nat} {c : Addr}
    (hF : ∃ f fd, mg x = some (.ref f) ∧ Fun K x x st f fd ∧ fd.code = .ref c) (S : FnScope N ps (defScope st)) (hn : ps.length = n) (hm : N.length = m)
    (hb : ∀ (kV doc pm : Value) (an : Option Addr) (cdv ct : Value) (us : List Value), us.length = ps.length → bindArgs (PySem.W.fnOf x x (defArgs st) (defBody st) (defScope st) .none kV doc pm an cdv ct) ⟨us, []⟩ = pure (ps.zip us))
    (hbody : ∀ (f : Addr) (A : Around) (outer : List Env) (s : Shared) (H : Hp) (E : XK) (Pr : Par K), A.guards = some [] → Room k (A.deeper (envOfC x (defScope st) s.heap.objs.size f (.ref c))) → (Pr.T, Pr.cm) = T →
      PSs (cxOf (L2.CX P w) P w K mg base N x (defScope st) f (.ref c) A outer s H E) (defBody st) (tS Pr (fun c d _ H' => E c d H') r)) : DnG P w K mg base T (k + 1) x n (callI m r) := by
  obtain ⟨f, fd, h1, F, hc⟩ := hF
  have hbi := F.binds hb
  have kp := F.kp
  obtain ⟨oc, od, kV, doc, pm, an, cdv, ct, osl, rfl, lk, hcd⟩ := F.ex
  obtain rfl : cdv = .ref c := hc
  subst hn hm
  exact ⟨f, _, ps, rfl, h1, kp, hbi, fn_IG lk hcd S fun A outer s H E Pr hg hr hT => hbody f A outer s H E Pr hg hr hT⟩
section
variable {X : Cx} {P : Par X.K} {W : WX} {a e : Expr} {es : List Expr} {ra : SemE} {rs : SemA} {pos p p2 : Pos} {x fld : Str}
/-- x(), x such a def -/
theorem se_dnG0 {g : List IV → Sto → RE IV} {k : Nat} (D : DnG X.prog X.w X.K X.mg X.base (P.T, P.cm) k x 0 g) (tk : Takes X W) (hgd : X.A.guards = some []) (hr : Room k X.A) (hg : Gl X x)
    (hdb : (x == ("__debug__" : Str)) = false := by decide) : SE X P W (.Call (.Name x p) [] [] pos) (fun _ st => g [] st) := by
  obtain ⟨f, fd, ps, hps, h1, h2, hb, F⟩ := D.ex
  refine ⟨fun pins s σ H Q I ⟨ρ, env, st, r, re, h⟩ => ?_⟩
  refine wpAny_Call_Name_kw (ld_glob I hg h1 ?_ hdb)
  refine PySem.W.callWith_K0 I.kIn h2 ?_
  have b := hb s [] I.kIn (by simp [hps])
  refine wpAny_call (codeAny_mono (F.run X.A X.stack s H ⟨[], []⟩ [] [] Q (WE W σ) hgd hr I.env0 b .nil ⟨rfl, P, ρ, st, [], rfl, r, .nil, h.wx fun c d H' w => w⟩) fun r s' hq => ?_)
  cases r with
  | error e => exact passAt tk σ pins H s e s' I hq
  | ok fl =>
    cases fl with
    | ret u => exact I.after hq
    | next => exact False.elim hq
    | brk => exact False.elim hq
    | cont => exact False.elim hq
end
/-- told(lambda, due), what the row says of it -/
structure Tn (P : Program) (K : PySem.W.Frag) (mg : Str → Option Value) (cm : Nat → Addr) (lb : Nat) (x cn fld : Str) (st : Stmt) (a due e : Str) : Prop where
  F : ∃ g fd, mg x = some (.ref g) ∧ Fun K x x st g fd
  C : ∃ C, cm lb = C ∧ mg cn = some (.ref C) ∧ XfC K C ∧ PySem.W.findIn K (.ref C) fld = some none ∧ PySem.W.exmOne K (.ref C) (.ref C) = some true
  mR : mg ("repr" : Str) = none
/-- the tables of the lambdas of the def whose code is at c -/
structure Tb (base : Heap) (mg : Str → Option Value) (T : List (Addr × Str)) (c : Addr) (q : Str) : Prop where
  ex : ∃ PP, TabB base mg c PP ∧ (PP, q) ∈ T ∧ ∀ p ∈ T, p.1 = PP → p.2 = q
end PI

set_option Elab.async false
set_option linter.all false
set_option maxRecDepth 100000
set_option maxHeartbeats 2000000
/-! PI19: told(lambda: .., due) by records. -/
namespace PI
open PySem PySem.Spec PyProof.Rows L2
open LamX (Tabs TabS CodeO ExtN TabB LamS lamEnv lamCx)
structure ToldT (st : Stmt) (a due e cn fld : Str) : Prop where
  ex : ∃ (p1 p2 p3 p4 p5 p6 p7 p8 p9 q1 q2 q3 q4 q5 q6 r1 r2 : Pos) (j : Nat), defBody st = [.Try [.Expr (.Call (.Name a p1) [] [] p2) p3, .Return (some (.Constant (.bool false) j p4)) p5]
        [.ExceptHandler (some (.Name cn p6)) (some e) [.Return (some (.Compare (.Call (.Name "repr" q1) [.Attribute (.Name e q2) fld q3] [] q4) [.Eq] [.Call (.Name "repr" q5) [.Name due q6] [] p7] p8)) p9] r1] [] [] r2] ∧
      (∀ env, swapsWith (.Call (.Name a p1) [] [] p2) none p3.line env = pure false) ∧ (∀ env, attributeBase (.Name e q2) fld env (eval (.Name e q2) env) = eval (.Name e q2) env)
  Sg : FnScope [a, due, e] [a, due] (defScope st)
  l0 : (defScope st).names.lookup a = some .local
  l1 : (defScope st).names.lookup due = some .local
  l2 : (defScope st).names.lookup e = some .local
  gC : (defScope st).names.lookup cn = some .globalImplicit
  gR : (defScope st).names.lookup ("repr" : Str) = some .globalImplicit
  nm : (cn == ("__debug__" : Str)) = false ∧ (a == ("__debug__" : Str)) = false ∧ (a == ("__classdict__" : Str)) = false ∧ (due == ("__debug__" : Str)) = false ∧ (due == ("__classdict__" : Str)) = false ∧ (e == ("__debug__" : Str)) = false ∧ (e == ("__classdict__" : Str)) = false
section
variable {X : Cx} {P : Par X.K} {W : WX}
theorem se_told {x a due e cn fld : Str} {c : Addr} {lb k : Nat} {st : Stmt} {params : Arguments} {body de : Expr} {scope : Scope} {rb rd : SemE} {p lpos pos : Pos} (D : Tn X.prog X.K X.mg P.cm lb x cn fld st a due e) (TT : ToldT st a due e cn fld) (TB : Tb X.base X.mg P.T c (X.env.qual ++ "<lambda>"))
    (hbi : ∀ (kV doc pm : Value) (an : Option Addr) (cdv ct : Value) (us : List Value), us.length = [a, due].length → bindArgs (PySem.W.fnOf x x (defArgs st) (defBody st) (defScope st) .none kV doc pm an cdv ct) ⟨us, []⟩ = pure ([a, due].zip us))
    (hcode : X.env.code = .ref c) (hs0 : X.stack = X.env :: X.outer) (hgd : X.A.guards = some []) (hr : Room (k + 2) X.A) (hg : Gl X x) (L : LamS X.env.scope scope) (hdef : defaultsOf params X.env = ([], []))
    (hbind : ∀ (q : Str) (cl : List (Str × Addr)) (pm cv ctv : Value), bindArgs (PySem.W.kla_fn "<lambda>" q params body scope cl pm cv ctv) ⟨[], []⟩ = pure [])
    (hbody : ∀ (A : Around) (outer : List Env) (s : Shared) (H : Hp) (E : XK) (f c' : Addr), Room k (A.deeper (lamEnv X scope s.heap.objs.size f c')) → PE (lamCx X A outer s H E scope f c') body (tE P (fun c d _ H' => E c d H') rb))
    (hd : SE X P W de rd)
    (hdb : (x == ("__debug__" : Str)) = false := by decide) (hst2 : starEach [de] X.env = (false, eval de X.env) :: starEach [] X.env := by rfl) (hst : starEach [.Lambda params body scope lpos, de] X.env = (false, eval (.Lambda params body scope lpos) X.env) :: starEach [de] X.env := by rfl) (hpl : (backTo pos (starEach [de] X.env)).any (·.1) = false := by rfl) :
    SE X P W (.Call (.Name x p) [.Lambda params body scope lpos, de] [] pos) (rRefuses lb fld rb rd) := by
  obtain ⟨g, fd, hm, F⟩ := D.F
  obtain ⟨C, hcm, hmC, xf, hno, hex⟩ := D.C
  have hb := F.binds hbi
  have kp := F.kp
  obtain ⟨oc, od, kV, doc, pm, an, cdv, ct, osl, rfl, lk, hcg⟩ := F.ex
  obtain ⟨p1, p2, p3, p4, p5, p6, p7, p8, p9, q1, q2, q3, q4, q5, q6, r1, r2, j, hbo, hsw, hat⟩ := TT.ex
  obtain ⟨PP, tb, hT, hu⟩ := TB.ex
  obtain ⟨n1, n2, n3, n4, n5, n6, n7⟩ := TT.nm
  exact se_refuses hbo hcm hs0 hgd (by have := hr.un; omega) hg hm kp lk hcg hb TT.Sg ⟨rfl, rfl, rfl, TT.Sg.nd, TT.l0, TT.l1, TT.l2, TT.gC, TT.gR, hmC, D.mR, xf, hno, hex, n1, n2, n3, n4, n5, n6, n7⟩ rfl tb hcode hT hu hr L hdef hbind hbody (sa_cons hd sa_nil hst2) hsw hat hdb hst hpl
end
end PI

set_option Elab.async false
set_option linter.all false
set_option maxRecDepth 100000
set_option maxHeartbeats 2000000
/-! PI20: caught classes as records. -/
namespace PI
open PySem PySem.Spec PyProof.Rows L2
structure Xc (K : PySem.W.Frag) (mg : Str → Option Value) (cm : Nat → Addr) (lb : Nat) (x fld : Str) : Prop where
  ex : ∃ C, cm lb = C ∧ mg x = some (.ref C) ∧ XfC K C ∧ PySem.W.findIn K (.ref C) fld = some none ∧ PySem.W.exmOne K (.ref C) (.ref C) = some true
section
variable {X : Cx} {P : Par X.K} {W : WX} {body : List Stmt} {rb : SemS} {cn e fld : Str} {lb ie j1 j2 : Nat} {k : Int} {p0 p1 p2 p3 p4 p5 p6 p7 p8 p9 : Pos}
theorem ss_tryX (D : Xc X.K X.mg P.cm lb cn fld) (hs : X.stack = X.env :: X.outer) (hf : X.env.frame = some X.env.locals) (hN : X.N.Nodup) (hi : X.N[ie]? = some e) (hln : X.env.kindOf e = some .local) (hg : Gl X cn)
    (hb : ∀ (W : WX) (pn : List (Addr × Obj)) (xe : Value → Shared → Prop), Takes (X.tr pn xe) W → PassesOwn (model X.prog X.w) X.A X.env xe → PSs (X.tr pn xe) body (tS P W rb))
    (hat : ∀ env, attributeBase (.Name e p3) fld env (eval (.Name e p3) env) = eval (.Name e p3) env) (hdc : (cn == ("__debug__" : Str)) = false := by decide) (hd : (e == ("__debug__" : Str)) = false := by decide) (hcd : (e == ("__classdict__" : Str)) = false := by decide) :
    SS X P W (.Try body [.ExceptHandler (some (.Name cn p0)) (some e) [.If (.Compare (.Attribute (.Name e p3) fld p4) [.NotEq] [.Constant (.int k) j1 p5] p6) [.Return (some (.Constant (.bool false) j2 p7)) p8] [] p9] p1] [] [] p2) (sTryNe lb fld k ie rb) := by
  obtain ⟨C, h1, h2, h3, h4, h5⟩ := D.ex
  exact ss_tryNe h1 hs hf hN hi hln ⟨hg, hdc, .inl h2⟩ h3 h4 h5 hd hcd hb hat
end
end PI

set_option Elab.async false
set_option linter.all false
set_option maxRecDepth 100000
set_option maxHeartbeats 4000000
/-! PI21: tuple * int for every int; name op= int; range with a step. -/
namespace PI
open PySem PySem.Spec PyProof.Rows L2
/-! ### tuple * int: one time, no time -/
theorem tmul_same (l : Addr) (items : Array Value) (n : Nat) (dd : Option Addr) (sl : Array (Option Value)) (x : Int) (u : Tok) (h0 : (decide (x < -(2 ^ 63)) || decide (x ≥ 2 ^ 63)) = false) (h1 : (items.isEmpty || x == 1) = true) :
    Meets (Builtin.«tuple.__mul__» ⟨[.ref l, .int x u], []⟩) (fun _ R s => s.heap.get? l = some { cls := .type "tuple", dict := dd, data := .seq items n, slots := sl } ∧ R (.ok (.ret (Value.ref l))) s) :=
  .of_wp fun prog w A R s h => by
    obtain ⟨hp, g, d, tk, os⟩ := s
    obtain ⟨hl, h⟩ := h
    have f1 := AutoSeq1.idx_int
    wp_walk using wpAny_loadPart' hl
    repeat (first
      | (refine wpAny_ite_false (decide_eq_false (by rw [h0]; exact Bool.false_ne_true)) ?_; wp_walk using wpAny_loadPart' hl)
      | (refine wpAny_ite_true (decide_eq_true (by rw [h1])) ?_; wp_walk using wpAny_loadPart' hl))
    exact ⟨_, rfl, h⟩
theorem tmul_none (l : Addr) (items : Array Value) (n : Nat) (dd : Option Addr) (sl : Array (Option Value)) (x : Int) (u : Tok) (h0 : (decide (x < -(2 ^ 63)) || decide (x ≥ 2 ^ 63)) = false) (h1 : (items.isEmpty || x == 1) = false) (h2 : (decide (x ≤ 0) || items.isEmpty) = true) :
    Meets (Builtin.«tuple.__mul__» ⟨[.ref l, .int x u], []⟩) (fun _ R s => s.heap.get? l = some { cls := .type "tuple", dict := dd, data := .seq items n, slots := sl } ∧ R (.ok (.ret (Value.ref s.heap.objs.size))) { s with heap := s.heap.push { cls := Value.type "tuple", data := Data.seq #[] }, toks := s.toks }) :=
  .of_wp fun prog w A R s h => by
    obtain ⟨hp, g, d, tk, os⟩ := s
    obtain ⟨hl, h⟩ := h
    have f1 := AutoSeq1.idx_int
    wp_walk using wpAny_loadPart' hl
    repeat (first
      | (refine wpAny_ite_false (decide_eq_false (by rw [h0]; exact Bool.false_ne_true)) ?_; wp_walk using wpAny_loadPart' hl)
      | (refine wpAny_ite_false (decide_eq_false (by rw [h1]; exact Bool.false_ne_true)) ?_; wp_walk using wpAny_loadPart' hl)
      | (refine wpAny_ite_true (decide_eq_true (by rw [h2])) ?_; wp_walk using wpAny_loadPart' hl))
    exact ⟨_, rfl, h⟩
section
variable {X : Cx}
theorem flat_rep_nil (k : Nat) : (List.replicate k ([] : List IV)).flatten = [] := by
  induction k with
  | zero => rfl
  | succ k ih => rw [List.replicate_succ, List.flatten_cons, ih]; rfl
def mulT : IV → IV → Sto → RO
  | .tup xs, .int k, st => bif decide (-1000000 < k) && decide (k ≤ 1000) && Nat.ble xs.length 1000 then some (.tup (List.replicate k.toNat xs).flatten, st) else none
  | a, b, st => mulI a b st
theorem op_mulT : OpR X (binaryOp .Mult) (rB X.K mulT) := by
  rintro pins s σ H x y v u Q I rx ry ⟨ρ, st, va, vb, r, pa, pb, h⟩
  by_cases hv : ∃ xs, va = .tup xs
  case neg =>
    have e : mulT va vb st = mulI va vb st := by
      cases va with
      | tup xs => exact absurd ⟨xs, rfl⟩ hv
      | _ => rfl
    rw [e] at h
    exact op_mulI pins s σ H x y v u Q I rx ry ⟨ρ, st, va, vb, r, pa, pb, h⟩
  obtain ⟨xs, rfl⟩ := hv
  cases pa with
  | tup ha ta =>
    rename_i vs l
    cases pb with
    | int k =>
      obtain ⟨e, h⟩ := bif_some (P := PostO X.K ρ H Q) h post_none
      simp only [Bool.and_eq_true, decide_eq_true_eq] at e
      obtain ⟨⟨e1, e2⟩, e3⟩ := e
      have e3' := Nat.le_of_ble_eq_true e3
      have hl := ta.length
      by_cases big : vs ≠ [] ∧ 2 ≤ k
      · exact op_repT pins s σ H _ _ v u Q I rx ry ⟨_, k, _, rfl, rfl, ha, big.1, big.2, e2, by rw [← hl]; exact e3', h.newTup r (ta.flatten _)⟩
      cases rx
      obtain ⟨t, rfl⟩ := ry
      obtain ⟨its, rv, ⟨⟨cls, dd, data, sl⟩, ho, hc, n, hd⟩, hs⟩ := I.tuple ha
      simp only at hc hd
      subst hc hd
      have hle : its.length = vs.length := rv.length.symm
      have c0 : (decide (k < -(2 ^ 63)) || decide (k ≥ 2 ^ 63)) = false := by
        rw [decide_eq_false (by omega), decide_eq_false (by omega)] <;> rfl
      by_cases same : vs = [] ∨ k = 1
      · have c1 : (its.toArray.isEmpty || k == 1) = true := by
          rcases same with z | z
          · subst z
            have : its = [] := List.eq_nil_of_length_eq_zero (by rw [hle]; rfl)
            subst this
            rfl
          · subst z
            simp
        refine wpAny_binaryOp_repeat_ref (T := "tuple") (U := "int") (by decide) ⟨_, ho, rfl⟩ (fun s' => typeIs_int s' k t) noFill_tuple_mul F.fills_int_mul F.slot_int_rmul repeat_tuple F.slot_int_index.lookup
          (call_meets F.slot_int_rmul (typeIs_int s k t) F.entry_int_rmul (F.args_int_rmul_2 _ _) (int_rmul_tuple k t l its.toArray n dd sl)
            ⟨ho, rfl, ⟨_, ho, rfl⟩, call_meets F.slot_tuple_mul ⟨_, ho, rfl⟩ F.entry_tuple_mul (F.args_tuple_mul_2 _ _) (tmul_same l its.toArray n dd sl k t c0 c1) ⟨ho, ?_⟩⟩)
        refine ⟨.ref l, H, I, rfl, ?_⟩
        have eq : (List.replicate k.toNat xs).flatten = xs := by
          rcases same with z | z
          · subst z
            cases ta
            exact flat_rep_nil _
          · subst z
            show (List.replicate 1 xs).flatten = xs
            simp
        rw [eq] at h
        exact h.here r (.tup ha ta)
      · have hne : vs ≠ [] := fun z => same (.inl z)
        have hk1 : k ≠ 1 := fun z => same (.inr z)
        have hk0 : k ≤ 0 := by
          have : ¬ 2 ≤ k := fun z => big ⟨hne, z⟩
          omega
        have hi : its.toArray.isEmpty = false := by
          cases its with
          | nil => exact absurd (List.eq_nil_of_length_eq_zero (by rw [← hle]; rfl)) hne
          | cons a b => rfl
        have c1 : (its.toArray.isEmpty || k == 1) = false := by
          rw [hi, Bool.false_or]
          exact beq_eq_false_iff_ne.mpr hk1
        have c2 : (decide (k ≤ 0) || its.toArray.isEmpty) = true := by
          rw [decide_eq_true hk0] <;> rfl
        refine wpAny_binaryOp_repeat_ref (T := "tuple") (U := "int") (by decide) ⟨_, ho, rfl⟩ (fun s' => typeIs_int s' k t) noFill_tuple_mul F.fills_int_mul F.slot_int_rmul repeat_tuple F.slot_int_index.lookup
          (call_meets F.slot_int_rmul (typeIs_int s k t) F.entry_int_rmul (F.args_int_rmul_2 _ _) (int_rmul_tuple k t l its.toArray n dd sl)
            ⟨ho, rfl, ⟨_, ho, rfl⟩, call_meets F.slot_tuple_mul ⟨_, ho, rfl⟩ F.entry_tuple_mul (F.args_tuple_mul_2 _ _) (tmul_none l its.toArray n dd sl k t c0 c1 c2) ⟨ho, ?_⟩⟩)
        have hz : k.toNat = 0 := by omega
        rw [hz] at h
        have hfr := I.hok.fresh (Nat.le_refl s.heap.objs.size)
        refine ⟨.ref s.heap.objs.size, _, I.laid (t' := s.toks) (o := .tup []) (fun b ob q => Heap.get?_push_of_some _ q) (Nat.le_refl _) ?_, rfl, h.newTup r .nil _ hfr⟩
        exact ⟨Nat.zero_le _, [], .nil, IsTup.new _ _⟩
    | _ => exact (post_none h).elim
/-! ### name op= int -/
def augI (g : Int → Int → Int) : IV → IV → Sto → RO
  | .int i, .int j, st => some (.int (g i j), st)
  | _, _, _ => none
variable {P : Par X.K} {W : WX} {a b c e : Expr} {ra : SemE} {rs : SemA} {pos p : Pos} {x : Str} {tg : Expr}
theorem ss_aug {i : Nat} {op : Operator} {g : Int → Int → Int} {pos' : Pos} (hN : X.N.Nodup) (hi : X.N[i]? = some x) (hx : Loc X.env.scope x) (he : SE X P W e ra) (ho : PIp X op (ipI g)) (hf : X.fn x = true ∨ X.env.scope.names.lookup x = some .local := by first | exact .inl rfl | exact .inr rfl | assumption) :
    SS X P W (.AugAssign (.Name x pos') op e pos) (sAug i (augI g) ra) :=
  (ps_aug hN hi hx he ho hf).of fun D σ H ⟨ρ, env, st, r, re, h⟩ => by
    unfold sAug at h
    split at h
    · rename_i v ev
      obtain ⟨y, e1, p1⟩ := re.get _ _ ev
      refine ⟨y, e1, ρ, env, st, r, re, (PostS.ofE r.r re h).mono fun z H1 ⟨ρ1, st1, w, e2, r1, re1, p2, h1⟩ => ?_⟩
      have p1' := p1.monoX r.r e2
      cases p1' with
      | int m =>
        cases p2 with
        | int n =>
          have h1' : PostS P W ρ1 H1 D (.nx (env.set i (some (.int (g m n)))) st1) := h1
          exact ⟨m, n, rfl, rfl, h1'.hereN r1 (re1.set (.int _) i)⟩
        | _ => exact h1.elim
      | _ => cases p2 <;> exact h1.elim
    · exact h.elim
/-! ### range with a step -/
def intsS (lo c : Int) : Nat → List IV
  | 0 => []
  | n + 1 => .int lo :: intsS (lo + c) c n
def rg3Ok (i j c : Int) : Bool := decide (c ≠ 0) && (Nat.blt c.natAbs 1073741824 && (Builtin.Range.small i j c && decide (0 ≤ Builtin.Range.rangeSize i j c)))
def fRng3 (a : SemA) : IEnv → Sto → RE FI := fun env st => (a env st).bind fun v st1 => match v with
  | [.int i, .int j, .int c] => bif rg3Ok i j c then .ok (.items (intsS i c (Builtin.Range.rangeSize i j c).toNat)) st1 else .bad
  | _ => .bad
theorem gives_intS {K : PySem.W.Frag} (c : Int) (n : Nat) (lo : Int) : Gives K (intsS lo c n) (Itc lo c n) fun _ _ => True := by
  have hl : ∀ (n : Nat) (lo : Int), (intsS lo c n).length = n := fun n => by
    induction n with
    | zero => exact fun _ => rfl
    | succ n ih => exact fun lo => by show (intsS (lo + c) c n).length + 1 = n + 1; rw [ih]
  have hg : ∀ (n : Nat) (lo : Int) (i : Nat) (x : IV), (intsS lo c n)[i]? = some x → i < n ∧ x = .int (lo + i * c) := fun n => by
    induction n with
    | zero => intro lo i x h; simp [intsS] at h
    | succ n ih =>
      intro lo i x h
      cases i with
      | zero =>
        have h' : some (IV.int lo) = some x := h
        cases h'
        exact ⟨by omega, by congr 1; simp⟩
      | succ i =>
        obtain ⟨h1, h2⟩ := ih (lo + c) i x h
        refine ⟨by omega, ?_⟩
        rw [h2]
        congr 1
        have : ((i + 1 : Nat) : Int) * c = c + (i : Int) * c := by
          rw [show ((i + 1 : Nat) : Int) = (i : Int) + 1 by omega, Int.add_mul, Int.one_mul, Int.add_comm]
        rw [this, Int.add_assoc]
  refine ⟨fun _ _ _ => trivial, fun {ρ H} _ => ?_, fun {ρ H i x} _ e => ?_⟩
  · show n ≤ _
    rw [hl]
    exact Nat.le_refl _
  · obtain ⟨h1, h2⟩ := hg n lo i x e
    refine ⟨h1, fun y H' h st r => ?_⟩
    obtain ⟨e1, e2⟩ := h
    subst e1 e2
    rw [h2]
    exact ⟨Ext.refl _ _, r, .int _⟩
theorem RepVs.three {K : PySem.W.Frag} {H : Hp} {ρ : List Addr} {x y z : IV} {vs : List V} (h : RepVs K H ρ [x, y, z] vs) : ∃ v w u, vs = [v, w, u] ∧ RepV K H ρ x v ∧ RepV K H ρ y w ∧ RepV K H ρ z u := by
  cases h with
  | cons h t => obtain ⟨w, u, rfl, h2, h3⟩ := t.two; exact ⟨_, _, _, rfl, h, h2, h3⟩
theorem pi_rng3 (hg : Gl X "range") (hm : X.mg "range" = none) (ha : SA X P W [a, b, c] rs) (hs : starEach [a, b, c] X.env = (false, eval a X.env) :: starEach [b, c] X.env := by rfl) (hpl : (backTo pos (starEach [b, c] X.env)).any (·.1) = false := by rfl) :
    SI X P W tg (.Call (.Name "range" p) [a, b, c] [] pos) (fRng3 rs) :=
  (pi_range3 hg hm ha hs hpl).of fun σ H R ⟨ρ, env, st, r, re, h⟩ => by
    refine ⟨ρ, env, st, r, re, h.bind.mono fun x H1 ⟨ρ1, st1, v, e1, r1, p1, h1⟩ => ?_⟩
    split at h1
    · rename_i i j k
      obtain ⟨v', w', u', rfl, q, q', q''⟩ := RepVs.three p1
      cases q
      cases q'
      cases q''
      obtain ⟨e, h1⟩ := bif_bad h1
      unfold rg3Ok at e
      simp only [Bool.and_eq_true, decide_eq_true_eq] at e
      obtain ⟨e2, e3, e4, e5⟩ := e
      exact ⟨i, j, k, _, rfl, ⟨e2, by simp [Nat.blt] at e3; omega, e4, (Int.toNat_of_nonneg e5).symm⟩, h1.here r1 ⟨_, gives_intS k _ i, trivial⟩⟩
    · exact h1.elim
end
end PI

set_option Elab.async false
set_option linter.all false
set_option maxRecDepth 100000
set_option maxHeartbeats 4000000
/-! PI22: enumerate and zip over lists and tuples. -/
namespace PI
open PySem PySem.Spec PyProof.Rows L2
/-! ### a walk that hands out new tuples, by the library's own walks -/
def JN {C : Type} (n : Nat) (Has : Hp → C → Prop) (row : C → Nat → Option (List V)) : It :=
  ⟨fun i H => i < n ∧ ∃ c, Has H c, fun i H x H' => ∃ T zs, x = .ref T ∧ H T = none ∧ H' = upd H T (.tup zs) ∧ ∀ c, Has H c → row c i = some zs, fun i H => n ≤ i ∧ ∃ c, Has H c⟩
theorem turn_N {P : Program} {w : World} {K : PySem.W.Frag} {elts : List Expr} {kk : Nat} {tpos : Pos} {C U : Type} {I : Addr} {wr fp : List Addr} {n : Nat} {Has : Hp → C → Prop} {row : C → Nat → Option (List V)}
    {fpA : U → List Addr} {Y : U → Nat → Heap → Value → Heap → Prop} {Sn : U → Nat → Heap → Prop} {core : Nat → Heap → Prop} {good : C → U → Prop} {Ro : U → Heap → Prop}
    (W : ∀ c π, good c π → ∀ A : Around, A.handled = none → GoesN P w A (.Tuple elts kk tpos) I (fpA π) wr n (Y π) (Sn π))
    (hI : I ∈ fp) (hwr : ∀ b ∈ wr, b ∈ fp) (hobj : ∀ i h, core i h → ∀ b ∈ fp, ∃ o, h.get? b = some o ∧ ∀ v, o.data ≠ .cell v) (hkeep : ∀ i h h', core i h → (∀ b ∈ fp, ∀ o, h.get? b = some o → h'.get? b = some o) → core i h')
    (hin : ∀ π i h, core i h → Ro π h → Sn π i h) (hout : ∀ π i h, Sn π i h → core i h)
    (hself : ∀ (A : Around) (i : Nat) (s : Shared) (Q : Value → Shared → Prop) (E : Value → Shared → Prop), core i s.heap → Q (.ref I) s → wpAny (model P w) A (pyIter (.ref I)) Q E s)
    (hro : ∀ (X : Cx) (pins : List (Addr × Obj)) (σ : L2.St) (H : Hp) (s : Shared) (c : C), X.prog = P → X.w = w → X.K = K → Inv X pins σ H s → Has H c → ∃ π, good c π ∧ Ro π s.heap)
    (hinj : ∀ (X : Cx) (pins : List (Addr × Obj)) (σ : L2.St) (H : Hp) (s : Shared) (c c' : C), X.prog = P → X.w = w → X.K = K → Inv X pins σ H s → Has H c → Has H c' → c' = c)
    (hY : ∀ c π i h0 v h', good c π → i < n → Y π i h0 v h' → ∃ T us zs, v = .ref T ∧ h0.objs.size ≤ T ∧ h'.IsTuple T us.toArray ∧ Vals zs us ∧ zs.length ≤ 1000 ∧ row c i = some zs) :
    Turn P w K (.Tuple elts kk tpos) (JN n Has row) fp I (fun i h => i ≤ n ∧ core i h) where
  mem := hI
  obj := fun i h st => hobj i h st.2
  keep := fun i h h' st k => ⟨st.1, hkeep i h h' st.2 k⟩
  item := by
    intro X hP hw hK hc i pins s σ H E I0 hf st hg
    obtain ⟨hle, cr⟩ := st
    obtain ⟨hlt, c, hs⟩ := hg
    obtain ⟨π, g, ro⟩ := hro X pins σ H s c hP hw hK I0 hs
    subst hP hw hK
    refine (W c π g X.A (I0.ok.hd hc)).goes i s _ _ hlt (hin π i _ cr ro) fun v h' tk y st' hk htk => ?_
    obtain ⟨T, us, zs, rfl, hT, isT, rv, hz, er⟩ := hY c π i s.heap v h' g hlt y
    have new : ObjOk X.prog X.w (upd H T (.tup zs)) h' T (.tup zs) := ⟨Nat.le_of_lt (small1000 hz), us, rv, isT⟩
    have I1 : Inv X pins σ (upd H T (.tup zs)) { s with heap := h', toks := tk } := I0.turnedNew (ch := fp) (fun b o hb q => hk b o (fun z => hb (hwr b z)) q) hf hT new
    refine ⟨.ref T, _, I1, rfl, ⟨T, zs, rfl, I0.hok.fresh hT, rfl, fun c' hc' => ?_⟩, ⟨hlt, hout π _ _ st'⟩, fun b hb => ?_⟩
    · rw [hinj X pins σ H s c c' rfl rfl rfl I0 hs hc']
      exact er
    · obtain ⟨o, ho, _⟩ := hobj i _ cr b hb
      rw [upd_ne (Nat.ne_of_lt (Nat.lt_of_lt_of_le (Heap.lt_size ho) hT))]
      exact (hf b hb).1
  done := by
    intro X hP hw hK hc i pins s σ H E I0 hf st hg
    obtain ⟨hle, cr⟩ := st
    obtain ⟨hge, c, hs⟩ := hg
    obtain ⟨π, g, ro⟩ := hro X pins σ H s c hP hw hK I0 hs
    subst hP hw hK
    have : i = n := by omega
    subst this
    refine (W c π g X.A (I0.ok.hd hc)).stops s _ _ (hin π i _ cr ro) fun h' tk hk htk => ?_
    have hk' : ∀ b o, b ∉ fp → s.heap.get? b = some o → h'.get? b = some o := fun b o hb q => hk b o (fun z => hb (hwr b z)) q
    have nit : ∀ b u, H b = some u → b ∉ fp := fun b u e z => by
      rw [(hf b z).1] at e
      cases e
    refine I0.step (g' := s.gens) (d' := s.drawn) (ch := fp) (fun b hb => ⟨(hf b hb).2.2.2.1, (hf b hb).2.1, (hf b hb).2.2.2.2.1, (hf b hb).2.2.2.2.2⟩) (fun b o _ _ n q _ => hk' b o n q) (fun b o _ _ n q _ => ⟨o.slots, hk' b o n q⟩) (fun _ _ _ _ q => q) (fun b o n q => ⟨o, hk' b o n q⟩)
      (fun _ _ q => q) (fun _ _ _ q => q) (fun b ps q => ⟨#[], by rw [q]; simp⟩) (fun m hm => ?_) (fun b u q => ?_) I0.bare
    · obtain ⟨o, es, ep, ho, rest⟩ := hm
      exact ⟨o, es, ep, hk' _ o (fun z => (hf _ z).2.1 rfl) ho, rest⟩
    · refine (I0.hok b u q).stay (fun c v hc z => hk' c v ?_ z) (fun _ z => z) fun _ _ z => z
      rcases hc with z | z
      · rw [z]
        exact nit b u q
      · exact nit c _ z
  self := fun A i s Q E st h => hself A i s Q E st.2 h
/-! ### lists and tuples as sources -/
def IsSeq (k : Bool) (h : Heap) (a : Addr) (items : Array Value) : Prop := match k with
  | true => h.IsList a items
  | false => h.IsTuple a items
def IsIt (k : Bool) (h : Heap) (it a : Addr) (i : Nat) : Prop := match k with
  | true => h.IsListIter it a i
  | false => h.IsTupleIter it a i
def itObj (k : Bool) (a : Addr) : Obj := match k with
  | true => { cls := .type "list_iterator", data := .fields #[.ref a, .int 0 0] }
  | false => { cls := .type "tuple_iterator", data := .fields #[.ref a, .int 0 0] }
def HasK (K : PySem.W.Frag) (k : Bool) (a : Addr) (H : Hp) (vs : List V) : Prop := match k with
  | true => SqL K H a vs
  | false => SqT K H a vs
section
variable {P : Program} {w : World} {k : Bool} {a it : Addr}
theorem drawsK {A : Around} (hh : A.handled = none) (hne : a ≠ it) (items : Array Value) : Draws P w A it [it, a] items.size (fun i v => items[i]? = some v) (fun i h => IsIt k h it a i ∧ IsSeq k h a items) := by
  cases k with
  | true => exact Draws.list hh it a hne items
  | false => exact Draws.tuple hh it a hne items
theorem beginsK (items : Array Value) : Begins (.ref a) (itObj k a) fun h => IsSeq k h a items := by
  cases k with
  | true => exact begins_list a items
  | false => exact begins_tuple a items
theorem isIt_new {h : Heap} (e : h.get? it = some (itObj k a)) : IsIt k h it a 0 := by
  cases k with
  | true => exact ⟨_, e, rfl, rfl⟩
  | false => exact ⟨_, e, rfl, rfl⟩
theorem isIt_obj {h : Heap} {i : Nat} (e : IsIt k h it a i) : ∃ o, h.get? it = some o ∧ ∀ v, o.data ≠ .cell v := by
  cases k with
  | true =>
    obtain ⟨o, ho, _, hd⟩ := e
    exact ⟨o, ho, fun v z => by rw [hd] at z; cases z⟩
  | false =>
    obtain ⟨o, ho, _, hd⟩ := e
    exact ⟨o, ho, fun v z => by rw [hd] at z; cases z⟩
theorem isIt_keep {h h' : Heap} {i : Nat} (e : IsIt k h it a i) (hk : ∀ o, h.get? it = some o → h'.get? it = some o) : IsIt k h' it a i := by
  cases k with
  | true => exact e.at hk
  | false => exact e.at hk
theorem hasK_now {X : Cx} {pins : List (Addr × Obj)} {σ : L2.St} {H : Hp} {s : Shared} {vs : List V} (I : Inv X pins σ H s) (h : HasK X.K k a H vs) : ∃ its : List Value, Vals vs its ∧ IsSeq k s.heap a its.toArray := by
  cases k with
  | true =>
    obtain ⟨its, rv, p, _⟩ := I.list h
    exact ⟨its, rv, p.isList⟩
  | false =>
    obtain ⟨its, rv, p, _⟩ := I.tuple h
    exact ⟨its, rv, p⟩
theorem hasK_inj {X : Cx} {pins : List (Addr × Obj)} {σ : L2.St} {H : Hp} {s : Shared} {vs vs' : List V} (I : Inv X pins σ H s) (h : HasK X.K k a H vs) (h' : HasK X.K k a H vs') : vs' = vs := by
  cases k with
  | true => exact I.list_inj h' h
  | false => exact I.tuple_inj h' h
end
/-- the source x stands at a: a tuple for good, a list by its number -/
def SrcAt (K : PySem.W.Frag) (k : Bool) (a : Addr) (x : IV) (ρ : List Addr) (H : Hp) : Prop := match x with
  | .tup xs => k = false ∧ ∃ vs, SqT K H a vs ∧ RepVs K H ρ xs vs
  | .ref n => k = true ∧ ρ[n]? = some a
  | _ => False
theorem SrcAt.mono {K : PySem.W.Frag} {k : Bool} {a : Addr} {x : IV} {ρ ρ' : List Addr} {H H' : Hp} {st : Sto} (r : Rel K H ρ st) (e : ExtX ρ H ρ' H') (h : SrcAt K k a x ρ H) : SrcAt K k a x ρ' H' := by
  cases x with
  | tup xs =>
    obtain ⟨h1, vs, h2, h3⟩ := h
    exact ⟨h1, vs, sqT_X r e h2, h3.monoX r e⟩
  | ref n => exact ⟨h.1, pre_get e.pre h.2⟩
  | _ => exact h
theorem SrcAt.now {K : PySem.W.Frag} {k : Bool} {a : Addr} {x : IV} {ρ : List Addr} {H : Hp} {st : Sto} {xs : List IV} (r : Rel K H ρ st) (h : SrcAt K k a x ρ H) (e : seqOf st x = some xs) : ∃ vs, HasK K k a H vs ∧ RepVs K H ρ xs vs := by
  cases x with
  | tup ys =>
    obtain ⟨rfl, vs, h2, h3⟩ := h
    cases e
    exact ⟨vs, h2, h3⟩
  | ref n =>
    obtain ⟨rfl, h2⟩ := h
    obtain ⟨vs, q, t⟩ := lstAt_sq r e h2
    exact ⟨vs, q, t⟩
  | _ => exact h.elim
theorem SrcAt.of {K : PySem.W.Frag} {x : IV} {ρ : List Addr} {H : Hp} {st : Sto} {xs : List IV} {v : V} (p : RepV K H ρ x v) (e : seqOf st x = some xs) : ∃ k a, v = .ref a ∧ SrcAt K k a x ρ H := by
  cases p with
  | tup h t => exact ⟨false, _, rfl, rfl, _, h, t⟩
  | ref h => exact ⟨true, _, rfl, rfl, h⟩
  | _ => cases e
def lenOf (x : IV) (st : Sto) : Option Nat := (seqOf st x).map (·.length)

/-! ### enumerate -/
theorem meets_enum1 {v : Value} {o : Obj} {H : Heap → Prop} (B : Begins v o H) :
    Meets (Builtin.«enumerate.__new__» ⟨[.type "enumerate", v], []⟩) (fun _ R s => H s.heap ∧
      R (.ok (.ret (.ref (s.heap.push o).objs.size))) { s with heap := (s.heap.push o).push { cls := .type "enumerate", data := .fields #[.none, .bool false, .ref s.heap.objs.size, rawInt 0, .none, .none] } }) :=
  .of_wp fun prog w A R s h => by
    obtain ⟨hp, g, d, tk, os⟩ := s
    obtain ⟨h1, h⟩ := h
    have hsub := sub_enumerate
    have q1 : ∀ {A' : Around} {E : Value → Shared → Prop} {Q : Value → Shared → Prop}, Q (.ref hp.objs.size) ⟨hp.push o, g, d, tk, os⟩ → wpAny (model prog w) A' (pyIter v) Q E ⟨hp, g, d, tk, os⟩ :=
      fun q => B.iter prog w _ _ ⟨hp, g, d, tk, os⟩ _ h1 q
    wp_walk using q1
    refine wpAny_stack_any fun st => wpAny_pure ?_
    split
    · rename_i c _ _ _ _ _
      cases (c == Value.type "enumerate")
      · wp_walk using q1
        exact ⟨_, rfl, h⟩
      · wp_walk using q1
        exact ⟨_, rfl, h⟩
    · wp_walk using q1
      exact ⟨_, rfl, h⟩
theorem enum_begin1 {prog : Program} {w : World} {A : Around} {E : Value → Shared → Prop} {s : Shared} {v : Value} {o : Obj} {H : Heap → Prop} {Q : Value → Shared → Prop} (B : Begins v o H) (h1 : H s.heap)
    (h : ∀ h', IsEnum h' (s.heap.objs.size + 1) s.heap.objs.size 0 .none → h'.get? s.heap.objs.size = some o → (∀ b u, s.heap.get? b = some u → h'.get? b = some u) → Q (.ref (s.heap.objs.size + 1)) { s with heap := h' }) :
    wpAny (model prog w) A (call (.type "enumerate") [v]) Q E s := by
  refine callType_new F.called_enumerate (by decide) (F.typeCall_enumerate_1 _) (F.newCall_enumerate_1 _) (fun obj => F.args_object_init_2 obj _) F.entry_enumerate_new (meets_enum1 B) ⟨h1, ?_⟩
  have hz : (s.heap.push o).objs.size = s.heap.objs.size + 1 := Heap.size_push ..
  show _ ∧ _
  rw [hz]
  have he : IsEnum ((s.heap.push o).push { cls := .type "enumerate", data := .fields #[.none, .bool false, .ref s.heap.objs.size, rawInt 0, .none, .none] }) (s.heap.objs.size + 1) s.heap.objs.size 0 .none := by
    have q := Heap.get?_push_size (s.heap.push o) (o := { cls := .type "enumerate", data := .fields #[.none, .bool false, .ref s.heap.objs.size, rawInt 0, .none, .none] }) rfl
    rw [hz] at q
    exact q
  exact ⟨⟨_, he, rfl⟩, h _ he (Heap.get?_push_of_some _ (Heap.get?_push_size _ B.free)) fun b u x => Heap.get?_push_of_some _ (Heap.get?_push_of_some _ x)⟩
def rowV (c : List V) (i : Nat) : Option (List V) := (c[i]?).map fun x => [.int (i : Nat), x]
def HasE (K : PySem.W.Frag) (k : Bool) (a : Addr) (n : Nat) (H : Hp) (c : List V) : Prop := HasK K k a H c ∧ c.length = n
theorem turn_enumK {P : Program} {w : World} {K : PySem.W.Frag} {elts : List Expr} {kk : Nat} {tpos : Pos} {k : Bool} {a e it : Addr} {n : Nat} (hei : e ≠ it) (hea : a ≠ e) (hia : a ≠ it) :
    Turn P w K (.Tuple elts kk tpos) (JN n (HasE K k a n) rowV) [e, it] e (fun i h => i ≤ n ∧ ((∃ old, IsEnum h e it ((i : Nat) : Int) old) ∧ IsIt k h it a i)) := by
  refine turn_N (C := List V) (U := List Value) (wr := [e, it]) (fpA := fun _ => e :: [it, a]) (good := fun c π => Vals c π ∧ c.length = n) (Ro := fun π h => IsSeq k h a π.toArray)
    (Y := fun π i h₀ v h => ∃ T t x, v = .ref T ∧ h₀.objs.size ≤ T ∧ π.toArray[i]? = some x ∧ h.IsTuple T #[.int ((0 : Int) + (i : Int)) t, x]) (Sn := fun π i h => (∃ old, IsEnum h e it ((0 : Int) + (i : Int)) old) ∧ (IsIt k h it a i ∧ IsSeq k h a π.toArray))
    (fun c π g A hA => ?_) (by simp) (fun b hb => hb) (fun i h cr b hb => ?_) (fun i h h' cr hk => ?_) (fun π i h cr ro => ?_) (fun π i h sn => ?_) (fun A i s Q E cr h => ?_) (fun X pins σ H s c hP hw hK I hs => ?_) (fun X pins σ H s c c' hP hw hK I hs hs' => ?_) (fun c π i h0 v h' g hlt y => ?_)
  · have hz : π.toArray.size = n := by rw [List.size_toArray, ← g.1.length, g.2]
    have := GoesN.enumFrom (prog := P) (w := w) (A := A) (elts := elts) (x1 := kk) (pos := tpos) 0 (drawsK (P := P) (w := w) (A := A.in1) (k := k) (a := a) (it := it) hA hia π.toArray) e hei (by simp [hei, Ne.symm hea]) (by simp)
    rw [hz] at this
    exact this
  · obtain ⟨⟨old, he⟩, hi⟩ := cr
    have e' : b = e ∨ b = it := by simpa using hb
    rcases e' with rfl | rfl
    · exact ⟨_, he, fun v q => nomatch q⟩
    · exact isIt_obj hi
  · obtain ⟨⟨old, he⟩, hi⟩ := cr
    exact ⟨⟨old, hk e (by simp) _ he⟩, isIt_keep hi fun o q => hk it (by simp) o q⟩
  · obtain ⟨⟨old, he⟩, hi⟩ := cr
    exact ⟨⟨old, by rw [Int.zero_add]; exact he⟩, hi, ro⟩
  · obtain ⟨⟨old, he⟩, hi, _⟩ := sn
    exact ⟨⟨old, by rw [Int.zero_add] at he; exact he⟩, hi⟩
  · obtain ⟨⟨old, he⟩, hi⟩ := cr
    exact wpAny_pyIter_enum he h
  · subst hK
    obtain ⟨its, rv, p⟩ := hasK_now I hs.1
    exact ⟨its, ⟨rv, hs.2⟩, p⟩
  · subst hK
    exact hasK_inj I hs.1 hs'.1
  · obtain ⟨T, t, x, rfl, hT, hx, isT⟩ := y
    have hi : i < c.length := by rw [g.2]; exact hlt
    have ex : c[i]? = some c[i] := List.getElem?_eq_getElem hi
    obtain ⟨u, hu, ru⟩ := g.1.get ex
    have : x = u := by
      rw [List.getElem?_toArray, hu] at hx
      exact (Option.some.inj hx).symm
    subst this
    exact ⟨T, [.int ((0 : Int) + (i : Int)) t, x], [.int (i : Nat), c[i]], rfl, hT, isT, .cons ⟨t, by rw [Int.zero_add]⟩ (.cons ru .nil), by simp, by unfold rowV; rw [ex]; rfl⟩
def rowE (x : IV) (st : Sto) (i : Nat) : Option IV := match seqOf st x with
  | some xs => (xs[i]?).map fun y => .tup [.int (i : Nat), y]
  | none => none
theorem givesE {K : PySem.W.Frag} {k : Bool} {a : Addr} {x : IV} {n : Nat} : GivesW K n (lenOf x) (rowE x) (JN n (HasE K k a n) rowV) (SrcAt K k a x) where
  mono := fun r e h => h.mono r e
  stop := fun {ρ H st} h r hl => by
    unfold lenOf at hl
    cases e : seqOf st x with
    | none => rw [e] at hl; cases hl
    | some xs =>
      rw [e] at hl
      obtain ⟨vs, hv, rv⟩ := h.now r e
      exact ⟨Nat.le_refl _, vs, hv, by rw [← rv.length]; exact Option.some.inj hl⟩
  go := fun {ρ H st i y} h r hl hlt hr => by
    unfold lenOf at hl
    unfold rowE at hr
    cases e : seqOf st x with
    | none => rw [e] at hl; cases hl
    | some xs =>
      rw [e] at hl hr
      obtain ⟨vs, hv, rv⟩ := h.now r e
      have hl' : xs.length = n := Option.some.inj hl
      have has : HasE K k a n H vs := ⟨hv, by rw [← rv.length]; exact hl'⟩
      refine ⟨⟨hlt, vs, has⟩, fun z H' hz => ?_⟩
      obtain ⟨T, zs, rfl, hT, rfl, hrow⟩ := hz
      have er := hrow vs has
      cases ex : xs[i]? with
      | none => simp only [ex] at hr; cases hr
      | some u =>
        simp only [ex] at hr
        cases hr
        obtain ⟨v, ev, pv⟩ := rv.get ex
        unfold rowV at er
        rw [ev] at er
        cases er
        have rp : RepVs K H ρ [.int (i : Nat), u] [.int (i : Nat), v] := .cons (.int _) (.cons pv .nil)
        exact ⟨Ext.fresh r hT _, r.fresh hT _, .tup (SqT.of upd_same) (rp.mono r (Ext.fresh r hT _))⟩
def fEnum (rs : SemA) : IEnv → Sto → RE FI := fun env st => (rs env st).bind fun v st1 => match v with
  | [x] => match seqOf st1 x with
    | some xs => .ok (.walk xs.length (lenOf x) (rowE x)) st1
    | none => .bad
  | _ => .bad
section
variable {X : Cx} {P : Par X.K} {W : WX} {a b c e : Expr} {ra : SemE} {rs : SemA} {pos p tpos : Pos} {elts : List Expr} {kk : Nat}
theorem pi_enumS (hg : Gl X "enumerate") (hm : X.mg "enumerate" = none) (ha : SA X P W [a] rs) (hs : starEach [a] X.env = [(false, eval a X.env)] := by rfl) :
    SI X P W (.Tuple elts kk tpos) (.Call (.Name "enumerate" p) [a] [] pos) (fEnum rs) := by
  refine ⟨fun pins s σ H R I h => ?_⟩
  obtain ⟨ρ, env, st, r, re, h⟩ := h
  have hp : Post P W (RpVs X.K) ρ H σ (fun vs H1 => ∃ (ρ1 : List Addr) (st1 : Sto) (v : List IV), ExtX ρ H ρ1 H1 ∧ RelX P H1 ρ1 st1 ∧ RepVs X.K H1 ρ1 v vs ∧ Post P W (RpI X.K) ρ1 H1 σ R (match v with
    | [x] => match seqOf st1 x with
      | some xs => .ok (.walk xs.length (lenOf x) (rowE x)) st1
      | none => .bad
    | _ => .bad)) (rs env st) := h.bind
  refine Call_ (ld_blt I hg hm boot_enumerate (PyProof.Rows.callWith_type1 (thn (ha.run pos pins s σ H _ I ⟨ρ, env, st, r, re, hp⟩) fun us s1 ⟨vs, H1, I1, r1, ρ1, st1, v, e1, rx1, p1, h1⟩ => ?_) hs rfl))
  split at h1
  · rename_i x
    split at h1
    · rename_i xs ex
      obtain ⟨v', rfl, pv⟩ := RepVs.one p1
      obtain ⟨k, ad, rfl, sa⟩ := SrcAt.of pv ex
      obtain ⟨u, rfl, ru⟩ := vals1 r1
      obtain rfl : u = Value.ref ad := ru
      obtain ⟨ws, hv, rv⟩ := sa.now rx1.r ex
      obtain ⟨its, rvi, isq⟩ := hasK_now I1 hv
      have hlt : ad < s1.heap.objs.size := by
        cases k with
        | true => obtain ⟨o, ho, _⟩ := isq; exact Heap.lt_size ho
        | false => obtain ⟨o, ho, _⟩ := isq; exact Heap.lt_size ho
      refine enum_begin1 (beginsK (k := k) its.toArray) isq fun h' he hit hk => wpAny_pyIter_enum he ?_
      have I2 : Inv X pins σ H1 { s1 with heap := h' } := I1.kept (t' := s1.toks) hk
      refine ⟨s1.heap.objs.size + 1, [s1.heap.objs.size + 1, s1.heap.objs.size], _, _, H1, rfl, I2, turn_enumK (k := k) (a := ad) (n := xs.length) (Nat.succ_ne_self _) (Nat.ne_of_lt (Nat.lt_succ_of_lt hlt)) (Nat.ne_of_lt hlt), ⟨Nat.zero_le _, ⟨.none, he⟩, isIt_new hit⟩, fun b hb => ?_, h1.here rx1 ⟨SrcAt X.K k ad x, givesE, sa⟩⟩
      have hle : s1.heap.objs.size ≤ b := by
        have e' : b = s1.heap.objs.size + 1 ∨ b = s1.heap.objs.size := by simpa using hb
        rcases e' with z | z
        · rw [z]; exact Nat.le_succ _
        · rw [z]; exact Nat.le_refl _
      exact I1.fpOk hle (I1.hok.fresh hle)
    · exact h1.elim
  · exact h1.elim
end
end PI

set_option Elab.async false
set_option linter.all false
set_option maxRecDepth 100000
set_option maxHeartbeats 4000000
/-! PI23: zip of two, of three lists and tuples. -/
namespace PI
open PySem PySem.Spec PyProof.Rows L2
/-! ### zip of two -/
def row2V (c : List V × List V) (i : Nat) : Option (List V) := match c.1[i]?, c.2[i]? with
  | some x, some y => some [x, y]
  | _, _ => none
def Has2 (K : PySem.W.Frag) (k1 k2 : Bool) (a b : Addr) (n1 n2 : Nat) (H : Hp) (c : List V × List V) : Prop := (HasK K k1 a H c.1 ∧ c.1.length = n1) ∧ HasK K k2 b H c.2 ∧ c.2.length = n2
def core2 (k1 k2 : Bool) (a b z TI TO i1 i2 : Addr) (i : Nat) (h : Heap) : Prop := IsZip h z TI TO .none ∧ IsTupOf2 h TI (.ref i1) (.ref i2) ∧ (∃ a1 a2, IsTupOf2 h TO a1 a2) ∧ IsIt k1 h i1 a i ∧ IsIt k2 h i2 b i
theorem turn_zip2K {P : Program} {w : World} {K : PySem.W.Frag} {elts : List Expr} {kk : Nat} {tpos : Pos} {k1 k2 : Bool} {a b : Addr} {N n1 n2 : Nat} (ha : a < N) (hb : b < N) :
    Turn P w K (.Tuple elts kk tpos) (JN (min n1 n2) (Has2 K k1 k2 a b n1 n2) row2V) [N + 4, N + 2, N + 3, N, N + 1] (N + 4) (fun i h => i ≤ min n1 n2 ∧ core2 k1 k2 a b (N + 4) (N + 2) (N + 3) N (N + 1) i h) := by
  refine turn_N (C := List V × List V) (U := List Value × List Value) (wr := [N + 4, N + 3, N, N + 1]) (fpA := fun _ => (N + 4) :: (N + 2) :: (N + 3) :: ([N, a] ++ [N + 1, b])) (good := fun c π => (Vals c.1 π.1 ∧ c.1.length = n1) ∧ Vals c.2 π.2 ∧ c.2.length = n2)
    (Ro := fun π h => IsSeq k1 h a π.1.toArray ∧ IsSeq k2 h b π.2.toArray)
    (Y := fun π i h₀ v h => ∃ T x y, v = .ref T ∧ h₀.objs.size ≤ T ∧ π.1.toArray[i]? = some x ∧ π.2.toArray[i]? = some y ∧ h.IsTuple T #[x, y])
    (Sn := fun π i h => IsZip h (N + 4) (N + 2) (N + 3) .none ∧ IsTupOf2 h (N + 2) (.ref N) (.ref (N + 1)) ∧ (∃ a1 a2, IsTupOf2 h (N + 3) a1 a2) ∧ (IsIt k1 h N a i ∧ IsSeq k1 h a π.1.toArray) ∧ (IsIt k2 h (N + 1) b i ∧ IsSeq k2 h b π.2.toArray))
    (fun c π g A hA => ?_) (by simp) (fun b hb => ?_) (fun i h cr b hb => ?_) (fun i h h' cr hk => ?_) (fun π i h cr ro => ?_) (fun π i h sn => ?_) (fun A i s Q E cr h => ?_) (fun X pins σ H s c hP hw hK I hs => ?_) (fun X pins σ H s c c' hP hw hK I hs hs' => ?_) (fun c π i h0 v h' g hlt y => ?_)
  · have hz1 : π.1.toArray.size = n1 := by rw [List.size_toArray, ← g.1.1.length, g.1.2]
    have hz2 : π.2.toArray.size = n2 := by rw [List.size_toArray, ← g.2.1.length, g.2.2]
    have D1 := drawsK (P := P) (w := w) (A := A.in1) (k := k1) (a := a) (it := N) hA (Nat.ne_of_lt ha) π.1.toArray
    have D2 := drawsK (P := P) (w := w) (A := A.in1) (k := k2) (a := b) (it := N + 1) hA (Nat.ne_of_lt (Nat.lt_succ_of_lt hb)) π.2.toArray
    rw [hz1] at D1
    rw [hz2] at D2
    exact GoesN.zip2 (zip_sep2 (N := N) (fp1 := [a]) (fp2 := [b]) (by simpa using ha) (by simpa using hb)) D1 D2
  · simp only [List.mem_cons, List.not_mem_nil, or_false] at hb ⊢
    rcases hb with q | q | q | q
    · exact .inl q
    · exact .inr (.inr (.inl q))
    · exact .inr (.inr (.inr (.inl q)))
    · exact .inr (.inr (.inr (.inr q)))
  · obtain ⟨hz, hTI, ⟨x, y, hTO⟩, h1, h2⟩ := cr
    simp only [List.mem_cons, List.not_mem_nil, or_false] at hb
    rcases hb with q | q | q | q | q
    · rw [q]; exact ⟨_, hz, fun v q => nomatch q⟩
    · rw [q]; exact ⟨_, hTI, fun v q => nomatch q⟩
    · rw [q]; exact ⟨_, hTO, fun v q => nomatch q⟩
    · rw [q]; exact isIt_obj h1
    · rw [q]; exact isIt_obj h2
  · obtain ⟨hz, hTI, ⟨x, y, hTO⟩, h1, h2⟩ := cr
    exact ⟨hk _ (by simp) _ hz, hk _ (by simp) _ hTI, ⟨x, y, hk _ (by simp) _ hTO⟩, isIt_keep h1 fun o q => hk _ (by simp) o q, isIt_keep h2 fun o q => hk _ (by simp) o q⟩
  · obtain ⟨hz, hTI, hTO, h1, h2⟩ := cr
    exact ⟨hz, hTI, hTO, ⟨h1, ro.1⟩, h2, ro.2⟩
  · obtain ⟨hz, hTI, hTO, h1, h2⟩ := sn
    exact ⟨hz, hTI, hTO, h1.1, h2.1⟩
  · exact wpAny_pyIter_zip cr.1 h
  · subst hK
    obtain ⟨its, rv, p⟩ := hasK_now I hs.1.1
    obtain ⟨its2, rv2, p2⟩ := hasK_now I hs.2.1
    exact ⟨(its, its2), ⟨⟨rv, hs.1.2⟩, rv2, hs.2.2⟩, p, p2⟩
  · subst hK
    exact Prod.ext (hasK_inj I hs.1.1 hs'.1.1) (hasK_inj I hs.2.1 hs'.2.1)
  · obtain ⟨T, x, y, rfl, hT, hx, hy, isT⟩ := y
    have hi1 : i < c.1.length := by rw [g.1.2]; omega
    have hi2 : i < c.2.length := by rw [g.2.2]; omega
    have ex : c.1[i]? = some c.1[i] := List.getElem?_eq_getElem hi1
    have ey : c.2[i]? = some c.2[i] := List.getElem?_eq_getElem hi2
    obtain ⟨u, hu, ru⟩ := g.1.1.get ex
    obtain ⟨u2, hu2, ru2⟩ := g.2.1.get ey
    rw [List.getElem?_toArray, hu] at hx
    rw [List.getElem?_toArray, hu2] at hy
    cases hx
    cases hy
    exact ⟨T, [_, _], [c.1[i], c.2[i]], rfl, hT, isT, .cons ru (.cons ru2 .nil), by simp, by unfold row2V; rw [ex, ey]⟩
def lenZ2 (x y : IV) (n1 n2 : Nat) (st : Sto) : Option Nat := match seqOf st x, seqOf st y with
  | some xs, some ys => bif Nat.beq xs.length n1 && Nat.beq ys.length n2 then some (min n1 n2) else none
  | _, _ => none
def rowZ2 (x y : IV) (st : Sto) (i : Nat) : Option IV := match seqOf st x, seqOf st y with
  | some xs, some ys => (match xs[i]?, ys[i]? with
    | some u, some v => some (.tup [u, v])
    | _, _ => none)
  | _, _ => none
theorem givesZ2 {K : PySem.W.Frag} {k1 k2 : Bool} {a b : Addr} {x y : IV} {n1 n2 : Nat} : GivesW K (min n1 n2) (lenZ2 x y n1 n2) (rowZ2 x y) (JN (min n1 n2) (Has2 K k1 k2 a b n1 n2) row2V) (fun ρ H => SrcAt K k1 a x ρ H ∧ SrcAt K k2 b y ρ H) := by
  have has : ∀ {ρ : List Addr} {H : Hp} {st : Sto} {m : Nat}, SrcAt K k1 a x ρ H ∧ SrcAt K k2 b y ρ H → Rel K H ρ st → lenZ2 x y n1 n2 st = some m → ∃ xs ys vs ws, seqOf st x = some xs ∧ seqOf st y = some ys ∧ Has2 K k1 k2 a b n1 n2 H (vs, ws) ∧ RepVs K H ρ xs vs ∧ RepVs K H ρ ys ws := fun {ρ H st m} h r hl => by
    unfold lenZ2 at hl
    split at hl
    · rename_i xs ys e1 e2
      obtain ⟨vs, hv, rv⟩ := h.1.now r e1
      obtain ⟨ws, hw, rw'⟩ := h.2.now r e2
      cases hb : (Nat.beq xs.length n1 && Nat.beq ys.length n2) with
      | false => rw [hb] at hl; cases hl
      | true =>
        obtain ⟨b1, b2⟩ := Bool.and_eq_true_iff.mp hb
        exact ⟨xs, ys, vs, ws, e1, e2, ⟨⟨hv, by rw [← rv.length]; exact Nat.eq_of_beq_eq_true b1⟩, hw, by rw [← rw'.length]; exact Nat.eq_of_beq_eq_true b2⟩, rv, rw'⟩
    · cases hl
  refine ⟨fun r e h => ⟨h.1.mono r e, h.2.mono r e⟩, fun {ρ H st} h r hl => ?_, fun {ρ H st i z} h r hl hlt hr => ?_⟩
  · obtain ⟨xs, ys, vs, ws, e1, e2, hs, rv, rw'⟩ := has h r hl
    exact ⟨Nat.le_refl _, (vs, ws), hs⟩
  · obtain ⟨xs, ys, vs, ws, e1, e2, hs, rv, rw'⟩ := has h r hl
    refine ⟨⟨hlt, (vs, ws), hs⟩, fun u H' hz => ?_⟩
    obtain ⟨T, zs, rfl, hT, rfl, hrow⟩ := hz
    have er := hrow (vs, ws) hs
    unfold rowZ2 at hr
    simp only [e1, e2] at hr
    split at hr
    · rename_i p q ep eq'
      cases hr
      obtain ⟨v, ev, pv⟩ := rv.get ep
      obtain ⟨v2, ev2, pv2⟩ := rw'.get eq'
      unfold row2V at er
      simp only [ev, ev2] at er
      cases er
      have rp : RepVs K H ρ [p, q] [v, v2] := .cons pv (.cons pv2 .nil)
      exact ⟨Ext.fresh r hT _, r.fresh hT _, .tup (SqT.of upd_same) (rp.mono r (Ext.fresh r hT _))⟩
    · cases hr
def fZip2 (rs : SemA) : IEnv → Sto → RE FI := fun env st => (rs env st).bind fun v st1 => match v with
  | [x, y] => match seqOf st1 x, seqOf st1 y with
    | some xs, some ys => .ok (.walk (min xs.length ys.length) (lenZ2 x y xs.length ys.length) (rowZ2 x y)) st1
    | _, _ => .bad
  | _ => .bad
theorem isSeq_lt {k : Bool} {h : Heap} {a : Addr} {items : Array Value} (e : IsSeq k h a items) : a < h.objs.size := by
  cases k with
  | true => obtain ⟨o, ho, _⟩ := e; exact Heap.lt_size ho
  | false => obtain ⟨o, ho, _⟩ := e; exact Heap.lt_size ho
section
variable {X : Cx} {P : Par X.K} {W : WX} {a b c e : Expr} {ra : SemE} {rs : SemA} {pos p tpos : Pos} {elts : List Expr} {kk : Nat}
theorem pi_zip2S (hg : Gl X "zip") (hm : X.mg "zip" = none) (ha : SA X P W [a, b] rs) (hs : starEach [a, b] X.env = (false, eval a X.env) :: starEach [b] X.env := by rfl) (hpl : (backTo pos (starEach [b] X.env)).any (·.1) = false := by rfl) :
    SI X P W (.Tuple elts kk tpos) (.Call (.Name "zip" p) [a, b] [] pos) (fZip2 rs) := by
  refine ⟨fun pins s σ H R I h => ?_⟩
  obtain ⟨ρ, env, st, r, re, h⟩ := h
  have hp : Post P W (RpVs X.K) ρ H σ (fun vs H1 => ∃ (ρ1 : List Addr) (st1 : Sto) (v : List IV), ExtX ρ H ρ1 H1 ∧ RelX P H1 ρ1 st1 ∧ RepVs X.K H1 ρ1 v vs ∧ Post P W (RpI X.K) ρ1 H1 σ R (match v with
    | [x, y] => match seqOf st1 x, seqOf st1 y with
      | some xs, some ys => .ok (.walk (min xs.length ys.length) (lenZ2 x y xs.length ys.length) (rowZ2 x y)) st1
      | _, _ => .bad
    | _ => .bad)) (rs env st) := h.bind
  refine Call_ (ld_blt I hg hm PyProof.Rows.boot_zip (PyProof.Rows.callWith_type1 (thn (ha.run pos pins s σ H _ I ⟨ρ, env, st, r, re, hp⟩) fun us s1 ⟨vs, H1, I1, r1, ρ1, st1, v, e1, rx1, p1, h1⟩ => ?_) hs hpl))
  split at h1
  · rename_i x y
    split at h1
    · rename_i xs ys ex ey
      obtain ⟨v', w', rfl, pv, pw⟩ := RepVs.two p1
      obtain ⟨k1, a1, rfl, sa⟩ := SrcAt.of pv ex
      obtain ⟨k2, a2, rfl, sb⟩ := SrcAt.of pw ey
      obtain ⟨u, u2, rfl, ru, ru2⟩ := vals2 r1
      obtain rfl : u = Value.ref a1 := ru
      obtain rfl : u2 = Value.ref a2 := ru2
      obtain ⟨ws, hv, rv⟩ := sa.now rx1.r ex
      obtain ⟨ws2, hv2, rv2⟩ := sb.now rx1.r ey
      obtain ⟨its, rvi, isq⟩ := hasK_now I1 hv
      obtain ⟨its2, rvi2, isq2⟩ := hasK_now I1 hv2
      refine zip_begins2 (beginsK (k := k1) its.toArray) (beginsK (k := k2) its2.toArray) isq isq2 fun h' hz hTI hTO g1 g2 _ hk => wpAny_pyIter_zip hz ?_
      have I2 : Inv X pins σ H1 { s1 with heap := h' } := I1.kept (t' := s1.toks) hk
      refine ⟨s1.heap.objs.size + 4, [s1.heap.objs.size + 4, s1.heap.objs.size + 2, s1.heap.objs.size + 3, s1.heap.objs.size, s1.heap.objs.size + 1], _, _, H1, rfl, I2, turn_zip2K (k1 := k1) (k2 := k2) (n1 := xs.length) (n2 := ys.length) (isSeq_lt isq) (isSeq_lt isq2), ⟨Nat.zero_le _, hz, hTI, ⟨_, _, hTO⟩, isIt_new g1, isIt_new g2⟩, fun b hb => ?_, h1.here rx1 ⟨_, givesZ2, sa, sb⟩⟩
      have hle : s1.heap.objs.size ≤ b := by
        simp only [List.mem_cons, List.not_mem_nil, or_false] at hb
        rcases hb with z | z | z | z | z <;> rw [z]
        · exact Nat.le_add_right _ _
        · exact Nat.le_add_right _ _
        · exact Nat.le_add_right _ _
        · exact Nat.le_refl _
        · exact Nat.le_add_right _ _
      exact I1.fpOk hle (I1.hok.fresh hle)
    · exact h1.elim
  · exact h1.elim
end
end PI

set_option Elab.async false
set_option linter.all false
set_option maxRecDepth 100000
set_option maxHeartbeats 4000000
/-! PI24: rows = zip(a, b, c) of three tuples, kept in a name; return max([.. for .. in rows]). -/
namespace PI
open PySem PySem.Spec PyProof.Rows L2
/-! ### new objects known exactly for a while -/
def addX (H : Hp) (zs : List (Addr × Obj)) : Hp := fun b => match zs.lookup b with
  | some o => some (.ext fun h => h.get? b = some o)
  | none => H b
theorem lookup_mem {zs : List (Addr × Obj)} {b : Addr} {o : Obj} (e : zs.lookup b = some o) : (b, o) ∈ zs := by
  induction zs with
  | nil => cases e
  | cons p r ih =>
    obtain ⟨c, oc⟩ := p
    by_cases hb : b = c
    · subst hb
      have e' : some oc = some o := by simpa [List.lookup] using e
      cases e'
      exact List.mem_cons_self
    · have hb' : (b == c) = false := by simpa using hb
      have e' : r.lookup b = some o := by simpa [List.lookup, hb'] using e
      exact List.mem_cons_of_mem _ (ih e')
theorem addX_in {H : Hp} {zs : List (Addr × Obj)} {b : Addr} {o : Obj} (e : zs.lookup b = some o) : addX H zs b = some (.ext fun h => h.get? b = some o) := by unfold addX; rw [e]
theorem addX_out {H : Hp} {zs : List (Addr × Obj)} {b : Addr} (e : zs.lookup b = none) : addX H zs b = H b := by unfold addX; rw [e]
theorem addX_non {H : Hp} {zs : List (Addr × Obj)} {b : Addr} (h : addX H zs b = none) : zs.lookup b = none ∧ H b = none := by
  cases e : zs.lookup b with
  | none => rw [addX_out e] at h; exact ⟨rfl, h⟩
  | some o => rw [addX_in e] at h; cases h
theorem addX_old {H : Hp} {zs : List (Addr × Obj)} {b : Addr} {u : HO} (h : addX H zs b = some u) (hu : ∀ φ, u ≠ .ext φ) : H b = some u := by
  cases e : zs.lookup b with
  | none => rw [addX_out e] at h; exact h
  | some o => rw [addX_in e] at h; exact absurd (Option.some.inj h).symm (hu _)
theorem ext_ok {P : Program} {w : World} {H : Hp} {h : Heap} {a : Addr} {o : Obj} (e : h.get? a = some o) : ObjOk P w H h a (.ext fun h => h.get? a = some o) :=
  ⟨e, ⟨o, e⟩, fun h1 h2 e1 k => k _ e1⟩
section
variable {X : Cx} {pins : List (Addr × Obj)} {σ : L2.St} {H : Hp} {s : Shared} {zs : List (Addr × Obj)}
theorem inv_adopt {h' : Heap} (I : Inv X pins σ H s) (k : ∀ b o, s.heap.get? b = some o → h'.get? b = some o) (hn : ∀ b o, zs.lookup b = some o → s.heap.objs.size ≤ b ∧ h'.get? b = some o) : Inv X pins σ (addX H zs) { s with heap := h' } := by
  have out : ∀ b u, s.heap.get? b = some u → zs.lookup b = none := fun b u e => by
    cases q : zs.lookup b with
    | none => rfl
    | some o => exact absurd (Nat.lt_of_lt_of_le (Heap.lt_size e) (hn b o q).1) (Nat.lt_irrefl _)
  have outH : ∀ b u, H b = some u → zs.lookup b = none := fun b u e => by
    cases q : zs.lookup b with
    | none => rfl
    | some o =>
      have := I.hok.fresh (hn b o q).1
      rw [this] at e
      cases e
  have toH : ∀ b u, H b = some u → addX H zs b = some u := fun b u e => by rw [addX_out (outH b u e)]; exact e
  refine I.step (g' := s.gens) (d' := s.drawn) (t' := s.toks) (ch := []) (fun _ z => nomatch z) (fun b o _ _ _ q _ => k b o q) (fun b o _ _ _ q _ => ⟨o.slots, k b o q⟩) (fun b o _ q n => by rw [addX_out (out b o q)]; exact n) (fun b o _ q => ⟨o, k b o q⟩)
    (fun b xs q => toH _ _ q) (fun b o u q => toH _ _ q) (fun b ps q => ⟨#[], by rw [toH _ _ q]; simp⟩) (fun m hm => ?_) (fun b u q => ?_) I.bare
  · obtain ⟨o, es, ep, ho, rest⟩ := hm
    exact ⟨o, es, ep, k _ o ho, rest⟩
  · cases e : zs.lookup b with
    | some o =>
      rw [addX_in e] at q
      cases q
      exact ext_ok (hn b o e).2
    | none =>
      rw [addX_out e] at q
      exact (I.hok b u q).stay (fun c v _ z => k c v z) (fun c z => toH _ _ z) fun c xs z => toH _ _ z
theorem inv_drop (I : Inv X pins σ (addX H zs) s) (hH : ∀ b o, zs.lookup b = some o → H b = none) : Inv X pins σ H s := by
  have noE : ∀ b u, H b = some u → addX H zs b = some u := fun b u e => by
    cases q : zs.lookup b with
    | none => rw [addX_out q]; exact e
    | some o => rw [hH b o q] at e; cases e
  have := I.step (H' := H) (h' := s.heap) (g' := s.gens) (d' := s.drawn) (t' := s.toks) (ch := []) (fun _ z => nomatch z) (fun b o _ _ _ q _ => q) (fun b o _ _ _ q _ => ⟨o.slots, q⟩) (fun b o _ q n => (addX_non n).2) (fun b o _ q => ⟨o, q⟩)
    (fun b xs q => addX_old q fun φ z => nomatch z) (fun b o u q => addX_old q fun φ z => nomatch z) (fun b ps q => ⟨#[], by rw [addX_old q fun φ z => nomatch z]; simp⟩) (fun m hm => hm) (fun b u q => ?_) I.bare
  · exact this
  · exact (I.hok b u (noE b u q)).stay (fun c v _ z => z) (fun c z => addX_old z fun φ z => nomatch z) fun c xs z => addX_old z fun φ z => nomatch z
theorem inv_known (I : Inv X pins σ (addX H zs) s) {b : Addr} {o : Obj} (e : zs.lookup b = some o) : s.heap.get? b = some o := by
  have h := I.hok b _ (addX_in (H := H) e)
  exact h.1
theorem inv_fp (I : Inv X pins σ (addX H zs) s) {b : Addr} {o : Obj} (e : zs.lookup b = some o) (hb : H b = none) (hs : X.s_0.heap.objs.size ≤ b) : FpOk X pins H b := by
  have hz : addX H zs b ≠ none := by rw [addX_in e]; simp
  refine ⟨hb, fun z => hz (by rw [z]; exact I.free), fun z => hz ?_, .inr hs, fun x c q z => hz (by rw [← z]; exact I.freeC x c q), fun p hp z => hz (by rw [← z]; exact (I.pin p hp).2.1)⟩
  obtain ⟨_, o', ho, _⟩ := I.ok.funs.mem z
  exact I.base.free b o' ho (I.ok.frf b z) fun q => I.ok.exfs b q z
end
/-! ### zip of three tuples -/
def row3V (c : List V × List V × List V) (i : Nat) : Option (List V) := match c.1[i]?, c.2.1[i]?, c.2.2[i]? with
  | some x, some y, some u => some [x, y, u]
  | _, _, _ => none
def Has3 (K : PySem.W.Frag) (a b c : Addr) (n1 n2 n3 : Nat) (H : Hp) (z : List V × List V × List V) : Prop := (SqT K H a z.1 ∧ z.1.length = n1) ∧ (SqT K H b z.2.1 ∧ z.2.1.length = n2) ∧ SqT K H c z.2.2 ∧ z.2.2.length = n3
def core3 (a b c z TI TO i1 i2 i3 : Addr) (i : Nat) (h : Heap) : Prop := IsZip h z TI TO .none ∧ IsTupOf3 h TI (.ref i1) (.ref i2) (.ref i3) ∧ (∃ a1 a2 a3, IsTupOf3 h TO a1 a2 a3) ∧ IsIt false h i1 a i ∧ IsIt false h i2 b i ∧ IsIt false h i3 c i
theorem turn_zip3T {P : Program} {w : World} {K : PySem.W.Frag} {elts : List Expr} {kk : Nat} {tpos : Pos} {a b c : Addr} {N n1 n2 n3 : Nat} (ha : a < N) (hb : b < N) (hc : c < N) :
    Turn P w K (.Tuple elts kk tpos) (JN (min (min n1 n2) n3) (Has3 K a b c n1 n2 n3) row3V) [N + 5, N + 3, N + 4, N, N + 1, N + 2] (N + 5) (fun i h => i ≤ min (min n1 n2) n3 ∧ core3 a b c (N + 5) (N + 3) (N + 4) N (N + 1) (N + 2) i h) := by
  refine turn_N (C := List V × List V × List V) (U := List Value × List Value × List Value) (wr := [N + 5, N + 4, N, N + 1, N + 2]) (fpA := fun _ => (N + 5) :: (N + 3) :: (N + 4) :: ([N, a] ++ [N + 1, b] ++ [N + 2, c])) (good := fun z π => (Vals z.1 π.1 ∧ z.1.length = n1) ∧ (Vals z.2.1 π.2.1 ∧ z.2.1.length = n2) ∧ Vals z.2.2 π.2.2 ∧ z.2.2.length = n3)
    (Ro := fun π h => IsSeq false h a π.1.toArray ∧ IsSeq false h b π.2.1.toArray ∧ IsSeq false h c π.2.2.toArray)
    (Y := fun π i h₀ v h => ∃ T x y u, v = .ref T ∧ h₀.objs.size ≤ T ∧ π.1.toArray[i]? = some x ∧ π.2.1.toArray[i]? = some y ∧ π.2.2.toArray[i]? = some u ∧ h.IsTuple T #[x, y, u])
    (Sn := fun π i h => IsZip h (N + 5) (N + 3) (N + 4) .none ∧ IsTupOf3 h (N + 3) (.ref N) (.ref (N + 1)) (.ref (N + 2)) ∧ (∃ a1 a2 a3, IsTupOf3 h (N + 4) a1 a2 a3) ∧ (IsIt false h N a i ∧ IsSeq false h a π.1.toArray) ∧ (IsIt false h (N + 1) b i ∧ IsSeq false h b π.2.1.toArray) ∧ (IsIt false h (N + 2) c i ∧ IsSeq false h c π.2.2.toArray))
    (fun z π g A hA => ?_) (by simp) (fun b hb => ?_) (fun i h cr b hb => ?_) (fun i h h' cr hk => ?_) (fun π i h cr ro => ?_) (fun π i h sn => ?_) (fun A i s Q E cr h => ?_) (fun X pins σ H s z hP hw hK I hs => ?_) (fun X pins σ H s z z' hP hw hK I hs hs' => ?_) (fun z π i h0 v h' g hlt y => ?_)
  · have hz1 : π.1.toArray.size = n1 := by rw [List.size_toArray, ← g.1.1.length, g.1.2]
    have hz2 : π.2.1.toArray.size = n2 := by rw [List.size_toArray, ← g.2.1.1.length, g.2.1.2]
    have hz3 : π.2.2.toArray.size = n3 := by rw [List.size_toArray, ← g.2.2.1.length, g.2.2.2]
    have D1 := drawsK (P := P) (w := w) (A := A.in1) (k := false) (a := a) (it := N) hA (Nat.ne_of_lt ha) π.1.toArray
    have D2 := drawsK (P := P) (w := w) (A := A.in1) (k := false) (a := b) (it := N + 1) hA (Nat.ne_of_lt (Nat.lt_succ_of_lt hb)) π.2.1.toArray
    have D3 := drawsK (P := P) (w := w) (A := A.in1) (k := false) (a := c) (it := N + 2) hA (Nat.ne_of_lt (Nat.lt_succ_of_lt (Nat.lt_succ_of_lt hc))) π.2.2.toArray
    rw [hz1] at D1
    rw [hz2] at D2
    rw [hz3] at D3
    exact GoesN.zip3 (zip_sep3 (N := N) (fp1 := [a]) (fp2 := [b]) (fp3 := [c]) (by simpa using ha) (by simpa using hb) (by simpa using hc)) D1 D2 D3
  · simp only [List.mem_cons, List.not_mem_nil, or_false] at hb ⊢
    rcases hb with q | q | q | q | q
    · exact .inl q
    · exact .inr (.inr (.inl q))
    · exact .inr (.inr (.inr (.inl q)))
    · exact .inr (.inr (.inr (.inr (.inl q))))
    · exact .inr (.inr (.inr (.inr (.inr q))))
  · obtain ⟨hz, hTI, ⟨x, y, u, hTO⟩, h1, h2, h3⟩ := cr
    simp only [List.mem_cons, List.not_mem_nil, or_false] at hb
    rcases hb with q | q | q | q | q | q
    · rw [q]; exact ⟨_, hz, fun v q => nomatch q⟩
    · rw [q]; exact ⟨_, hTI, fun v q => nomatch q⟩
    · rw [q]; exact ⟨_, hTO, fun v q => nomatch q⟩
    · rw [q]; exact isIt_obj h1
    · rw [q]; exact isIt_obj h2
    · rw [q]; exact isIt_obj h3
  · obtain ⟨hz, hTI, ⟨x, y, u, hTO⟩, h1, h2, h3⟩ := cr
    exact ⟨hk _ (by simp) _ hz, hk _ (by simp) _ hTI, ⟨x, y, u, hk _ (by simp) _ hTO⟩, isIt_keep h1 fun o q => hk _ (by simp) o q, isIt_keep h2 fun o q => hk _ (by simp) o q, isIt_keep h3 fun o q => hk _ (by simp) o q⟩
  · obtain ⟨hz, hTI, hTO, h1, h2, h3⟩ := cr
    exact ⟨hz, hTI, hTO, ⟨h1, ro.1⟩, ⟨h2, ro.2.1⟩, h3, ro.2.2⟩
  · obtain ⟨hz, hTI, hTO, h1, h2, h3⟩ := sn
    exact ⟨hz, hTI, hTO, h1.1, h2.1, h3.1⟩
  · exact wpAny_pyIter_zip cr.1 h
  · subst hK
    obtain ⟨its, rv, p⟩ := hasK_now (k := false) I hs.1.1
    obtain ⟨its2, rv2, p2⟩ := hasK_now (k := false) I hs.2.1.1
    obtain ⟨its3, rv3, p3⟩ := hasK_now (k := false) I hs.2.2.1
    exact ⟨(its, its2, its3), ⟨⟨rv, hs.1.2⟩, ⟨rv2, hs.2.1.2⟩, rv3, hs.2.2.2⟩, p, p2, p3⟩
  · subst hK
    exact Prod.ext (I.tuple_inj hs'.1.1 hs.1.1) (Prod.ext (I.tuple_inj hs'.2.1.1 hs.2.1.1) (I.tuple_inj hs'.2.2.1 hs.2.2.1))
  · obtain ⟨T, x, y, u, rfl, hT, hx, hy, hu, isT⟩ := y
    have hi1 : i < z.1.length := by rw [g.1.2]; omega
    have hi2 : i < z.2.1.length := by rw [g.2.1.2]; omega
    have hi3 : i < z.2.2.length := by rw [g.2.2.2]; omega
    have ex : z.1[i]? = some z.1[i] := List.getElem?_eq_getElem hi1
    have ey : z.2.1[i]? = some z.2.1[i] := List.getElem?_eq_getElem hi2
    have eu : z.2.2[i]? = some z.2.2[i] := List.getElem?_eq_getElem hi3
    obtain ⟨u1, hu1, ru1⟩ := g.1.1.get ex
    obtain ⟨u2, hu2, ru2⟩ := g.2.1.1.get ey
    obtain ⟨u3, hu3, ru3⟩ := g.2.2.1.get eu
    rw [List.getElem?_toArray, hu1] at hx
    rw [List.getElem?_toArray, hu2] at hy
    rw [List.getElem?_toArray, hu3] at hu
    cases hx
    cases hy
    cases hu
    exact ⟨T, [_, _, _], [z.1[i], z.2.1[i], z.2.2[i]], rfl, hT, isT, .cons ru1 (.cons ru2 (.cons ru3 .nil)), by simp, by unfold row3V; rw [ex, ey, eu]⟩
def zip3I : List IV → List IV → List IV → List IV
  | x :: xs, y :: ys, z :: zs => .tup [x, y, z] :: zip3I xs ys zs
  | _, _, _ => []
theorem zip3I_len : ∀ (xs ys zs : List IV), (zip3I xs ys zs).length = min (min xs.length ys.length) zs.length
  | x :: xs, y :: ys, z :: zs => by show (zip3I xs ys zs).length + 1 = _; rw [zip3I_len xs ys zs]; simp only [List.length_cons]; omega
  | [], _, _ => by simp [zip3I]
  | _ :: _, [], _ => by simp [zip3I]
  | _ :: _, _ :: _, [] => by simp [zip3I]
theorem zip3I_get : ∀ (xs ys zs : List IV) (i : Nat) (v : IV), (zip3I xs ys zs)[i]? = some v → ∃ x y z, xs[i]? = some x ∧ ys[i]? = some y ∧ zs[i]? = some z ∧ v = .tup [x, y, z]
  | x :: xs, y :: ys, z :: zs, 0, v, e => by
    have e' : some (IV.tup [x, y, z]) = some v := e
    cases e'
    exact ⟨x, y, z, rfl, rfl, rfl, rfl⟩
  | x :: xs, y :: ys, z :: zs, i + 1, v, e => by
    obtain ⟨a, b, c, h1, h2, h3, h4⟩ := zip3I_get xs ys zs i v e
    exact ⟨a, b, c, h1, h2, h3, h4⟩
  | [], _, _, _, _, e => by simp [zip3I] at e
  | _ :: _, [], _, _, _, e => by simp [zip3I] at e
  | _ :: _, _ :: _, [], _, _, e => by simp [zip3I] at e
theorem gives3 {K : PySem.W.Frag} {a b c : Addr} {xs ys zs : List IV} : Gives K (zip3I xs ys zs) (JN (min (min xs.length ys.length) zs.length) (Has3 K a b c xs.length ys.length zs.length) row3V)
    (fun ρ H => (∃ vs, SqT K H a vs ∧ RepVs K H ρ xs vs) ∧ (∃ vs, SqT K H b vs ∧ RepVs K H ρ ys vs) ∧ ∃ vs, SqT K H c vs ∧ RepVs K H ρ zs vs) where
  mono := fun r e h => by
    obtain ⟨⟨v1, a1, b1⟩, ⟨v2, a2, b2⟩, v3, a3, b3⟩ := h
    exact ⟨⟨v1, sqT_X r e a1, b1.monoX r e⟩, ⟨v2, sqT_X r e a2, b2.monoX r e⟩, v3, sqT_X r e a3, b3.monoX r e⟩
  stop := fun {ρ H} h => by
    obtain ⟨⟨v1, a1, b1⟩, ⟨v2, a2, b2⟩, v3, a3, b3⟩ := h
    exact ⟨by rw [zip3I_len]; exact Nat.le_refl _, (v1, v2, v3), ⟨a1, b1.length.symm⟩, ⟨a2, b2.length.symm⟩, a3, b3.length.symm⟩
  go := fun {ρ H i x} h e => by
    obtain ⟨⟨v1, a1, b1⟩, ⟨v2, a2, b2⟩, v3, a3, b3⟩ := h
    have hs : Has3 K a b c xs.length ys.length zs.length H (v1, v2, v3) := ⟨⟨a1, b1.length.symm⟩, ⟨a2, b2.length.symm⟩, a3, b3.length.symm⟩
    have hlt : i < min (min xs.length ys.length) zs.length := by
      rw [← zip3I_len]
      exact (List.getElem?_eq_some_iff.mp e).1
    refine ⟨⟨hlt, _, hs⟩, fun u H' hz st r => ?_⟩
    obtain ⟨T, ws, rfl, hT, rfl, hrow⟩ := hz
    have er := hrow _ hs
    obtain ⟨p, q, s, e1, e2, e3, rfl⟩ := zip3I_get _ _ _ _ _ e
    obtain ⟨u1, f1, p1⟩ := b1.get e1
    obtain ⟨u2, f2, p2⟩ := b2.get e2
    obtain ⟨u3, f3, p3⟩ := b3.get e3
    unfold row3V at er
    simp only [f1, f2, f3] at er
    cases er
    have rp : RepVs K H ρ [p, q, s] [u1, u2, u3] := .cons p1 (.cons p2 (.cons p3 .nil))
    exact ⟨Ext.fresh r hT _, r.fresh hT _, .tup (SqT.of upd_same) (rp.mono r (Ext.fresh r hT _))⟩
/-! ### the zip object in a name -/
def zObjs (N a b c : Addr) : List (Addr × Obj) :=
  [(N + 5, { cls := .type "zip", dict := none, data := .fields #[.none, .bool false, .bool false, .ref (N + 3), .ref (N + 4)], slots := #[] }), (N + 3, { cls := .type "tuple", data := .seq #[.ref N, .ref (N + 1), .ref (N + 2)] }),
    (N + 4, { cls := .type "tuple", data := .seq #[.none, .none, .none] }), (N, itObj false a), (N + 1, itObj false b), (N + 2, itObj false c)]
theorem mem_lookup {zs : List (Addr × Obj)} {b : Addr} {o : Obj} (nd : (zs.map (·.1)).Nodup) (m : (b, o) ∈ zs) : zs.lookup b = some o := by
  induction zs with
  | nil => cases m
  | cons p r ih =>
    obtain ⟨c, oc⟩ := p
    have nd' : (c :: r.map (·.1)).Nodup := nd
    obtain ⟨h1, h2⟩ := List.nodup_cons.mp nd'
    rcases List.mem_cons.mp m with q | q
    · cases q
      simp [List.lookup]
    · have hb : b ≠ c := fun z => h1 (by rw [← z]; exact List.mem_map.mpr ⟨(b, o), q, rfl⟩)
      have hb' : (b == c) = false := by simpa using hb
      simp only [List.lookup, hb']
      exact ih h2 q
theorem zObjs_nd (N a b c : Addr) : ((zObjs N a b c).map (·.1)).Nodup := by
  have : ∀ N : Nat, [N + 5, N + 3, N + 4, N, N + 1, N + 2].Nodup := fun N => by
    simp
  exact this N
section
variable {X : Cx} {P : Par X.K} {W : WX} {a b c e : Expr} {ra : SemE} {rs : SemA} {pos p tpos : Pos} {elts : List Expr} {kk : Nat} {x : Str}
/-- its six objects are new -/
def ZNew (X : Cx) (H : Hp) (N a b c : Addr) : Prop := (∀ d o, (zObjs N a b c).lookup d = some o → H d = none ∧ X.s_0.heap.objs.size ≤ d) ∧ a < N ∧ b < N ∧ c < N
def tZip3 (X : Cx) (ta : TA) : TE := fun σ H Q => ta σ H fun vs H1 => ∃ (a b c : Addr) (xs ys zs : List V), vs = [.ref a, .ref b, .ref c] ∧ SqT X.K H1 a xs ∧ SqT X.K H1 b ys ∧ SqT X.K H1 c zs ∧ ∀ N : Addr, ZNew X H1 N a b c → Q (.ref (N + 5)) (addX H1 (zObjs N a b c))
theorem pe_zip3 {ta : TA} (hg : Gl X "zip") (hm : X.mg "zip" = none) (ha : PA X [a, b, c] ta) (hs : starEach [a, b, c] X.env = (false, eval a X.env) :: starEach [b, c] X.env := by rfl) (hpl : (backTo pos (starEach [b, c] X.env)).any (·.1) = false := by rfl) :
    PE X (.Call (.Name "zip" p) [a, b, c] [] pos) (tZip3 X ta) := by
  refine ⟨fun pins s σ H Q I h => ?_⟩
  refine Call_ (ld_blt I hg hm PyProof.Rows.boot_zip (PyProof.Rows.callWith_type1 (thn (ha.run pos pins s σ H _ I h) fun us s1 ⟨vs, H1, I1, r1, q1⟩ => ?_) hs hpl))
  obtain ⟨a1, a2, a3, xs, ys, zs, rfl, h1, h2, h3, hq⟩ := q1
  cases r1 with
  | cons r r1 =>
    cases r1 with
    | cons r' r1 =>
      cases r1 with
      | cons r'' r1 =>
        cases r1
        cases r
        cases r'
        cases r''
        obtain ⟨its, rvi, isq⟩ := hasK_now (k := false) I1 h1
        obtain ⟨its2, rvi2, isq2⟩ := hasK_now (k := false) I1 h2
        obtain ⟨its3, rvi3, isq3⟩ := hasK_now (k := false) I1 h3
        refine zip_begins3 (beginsK (k := false) its.toArray) (beginsK (k := false) its2.toArray) (beginsK (k := false) its3.toArray) isq isq2 isq3 fun h' hz hTI hTO g1 g2 g3 _ hk => ?_
        have hn : ∀ d o, (zObjs s1.heap.objs.size a1 a2 a3).lookup d = some o → s1.heap.objs.size ≤ d ∧ h'.get? d = some o := fun d o e => by
          have m := lookup_mem e
          simp only [zObjs, List.mem_cons, List.not_mem_nil, or_false, Prod.mk.injEq] at m
          rcases m with ⟨rfl, rfl⟩ | ⟨rfl, rfl⟩ | ⟨rfl, rfl⟩ | ⟨rfl, rfl⟩ | ⟨rfl, rfl⟩ | ⟨rfl, rfl⟩
          · exact ⟨Nat.le_add_right _ _, hz⟩
          · exact ⟨Nat.le_add_right _ _, hTI⟩
          · exact ⟨Nat.le_add_right _ _, hTO⟩
          · exact ⟨Nat.le_refl _, g1⟩
          · exact ⟨Nat.le_add_right _ _, g2⟩
          · exact ⟨Nat.le_add_right _ _, g3⟩
        refine ⟨.ref (s1.heap.objs.size + 5), _, inv_adopt I1 hk hn, rfl, hq s1.heap.objs.size ⟨fun d o e => ?_, isSeq_lt isq, isSeq_lt isq2, isSeq_lt isq3⟩⟩
        exact ⟨I1.hok.fresh (hn d o e).1, Nat.le_trans I1.sz (hn d o e).1⟩
def wiZ (X : Cx) (i : Nat) : TI := fun σ H R => ∃ (H1 : Hp) (N a b c : Addr) (n1 n2 n3 : Nat), σ[i]? = some (some (.ref (N + 5))) ∧ H = addX H1 (zObjs N a b c) ∧ ZNew X H1 N a b c ∧ R (JN (min (min n1 n2) n3) (Has3 X.K a b c n1 n2 n3) row3V) H1
theorem pi_nameZ {i : Nat} (hN : X.N[i]? = some x) (hv : Vis X.env.scope x) (hd : (x == ("__debug__" : Str)) = false := by decide) (hcd : (x == ("__classdict__" : Str)) = false := by decide) : PI X (.Tuple elts kk tpos) (.Name x pos) (wiZ X i) := by
  refine ⟨fun pins s σ H R I h => ?_⟩
  obtain ⟨H1, N, a1, a2, a3, n1, n2, n3, hσ, rfl, hz, hR⟩ := h
  refine thn ((pe_var hN hv hd hcd).run pins s σ _ (fun y H' => y = .ref (N + 5) ∧ H' = addX H1 (zObjs N a1 a2 a3)) I ⟨_, hσ, rfl, rfl⟩) fun v s1 ⟨y, H', I1, rv, ey, eH⟩ => ?_
  subst ey eH
  obtain rfl : v = Value.ref (N + 5) := rv
  have lk : ∀ d o, (d, o) ∈ zObjs N a1 a2 a3 → (zObjs N a1 a2 a3).lookup d = some o := fun d o m => mem_lookup (zObjs_nd N a1 a2 a3) m
  have kn : ∀ d o, (d, o) ∈ zObjs N a1 a2 a3 → s1.heap.get? d = some o := fun d o m => inv_known I1 (lk d o m)
  have k1 := kn _ _ (List.Mem.head _)
  have k2 := kn _ _ (.tail _ (.head _))
  have k3 := kn _ _ (.tail _ (.tail _ (.head _)))
  have k4 := kn N (itObj false a1) (.tail _ (.tail _ (.tail _ (.head _))))
  have k5 := kn (N + 1) (itObj false a2) (.tail _ (.tail _ (.tail _ (.tail _ (.head _)))))
  have k6 := kn (N + 2) (itObj false a3) (.tail _ (.tail _ (.tail _ (.tail _ (.tail _ (.head _))))))
  refine wpAny_pyIter_zip (TI := N + 3) (TO := N + 4) (f0 := .none) k1 ?_
  refine ⟨N + 5, [N + 5, N + 3, N + 4, N, N + 1, N + 2], _, _, H1, rfl, inv_drop I1 fun d o e => (hz.1 d o e).1, turn_zip3T (a := a1) (b := a2) (c := a3) (n1 := n1) (n2 := n2) (n3 := n3) hz.2.1 hz.2.2.1 hz.2.2.2, ⟨Nat.zero_le _, k1, k2, ⟨_, _, _, k3⟩, isIt_new k4, isIt_new k5, isIt_new k6⟩, fun d hd => ?_, hR⟩
  have hl : ∃ o, (zObjs N a1 a2 a3).lookup d = some o := by
    obtain ⟨⟨d', o⟩, hm, rfl⟩ := List.mem_map.mp (show d ∈ (zObjs N a1 a2 a3).map (·.1) from hd)
    exact ⟨o, lk _ _ hm⟩
  obtain ⟨o, ho⟩ := hl
  exact inv_fp I1 ho (hz.1 d o ho).1 (hz.1 d o ho).2
/-- rows = zip(a, b, c); return f([elt for .. in rows]) -/
def sZip3 (f : List IV → Sto → RO) (i : Nat) (rs : SemA) (ct : CT) (vs : List Nat) (te : SemE) : SemS := fun env st => RS.ofE (rs env st) env fun v st1 => match v with
  | [.tup xs, .tup ys, .tup zs] => bif Nat.blt i env.length then RS.ofE ((RE.bind (bif Nat.ble (zip3I xs ys zs).length lineI then loopC ct (wipeI (env.set i none) vs) rYes te (zip3I xs ys zs) [] st1 else .bad) fun l st2 => RE.ofO (st2.allocO (.lst l))).bind fun r st3 => RE.ofO (f [r] st3)) (env.set i none) fun r st4 => .rt r st4 else .bad
  | _ => .bad
theorem RelEnv.lose {K : PySem.W.Frag} {H : Hp} {ρ : List Addr} {env : IEnv} {σ : L2.St} (h : RelEnv K H ρ env σ) (i : Nat) (y : Option V) : RelEnv K H ρ (env.set i none) (σ.set i y) := by
  refine ⟨by simp [h.len], fun m w q => ?_⟩
  by_cases hj : i = m
  · subst hj
    have hl : i < env.length := by
      have := (List.getElem?_eq_some_iff.mp q).1
      simpa using this
    rw [List.getElem?_set_self hl] at q
    cases q
  · rw [List.getElem?_set_ne hj] at q ⊢
    exact h.get m w q
theorem sss_zip3 {f : List IV → Sto → RO} {id : String} {fn : Str} {i : Nat} {p' pz pc p1 pn pm pl pq p2 : Pos} {elt : Expr} {scope : Scope} {own : List (Str × Nat)} {ct : CT} {te : SemE} (hc : X.calm = true) (hN : X.N.Nodup) (hi : X.N[i]? = some x) (hx : Loc X.env.scope x)
    (hgz : Gl X "zip") (hmz : X.mg "zip" = none) (ha : SA X P W [a, b, c] rs) (hcall : CallR X (.builtin id) (rCl X.K f)) (hgf : Gl X fn) (hmf : X.mg fn = none) (hvf : bootBuiltins fn = some (.builtin id))
    (hsl : ∀ j ∈ ct.slots, j ∈ own.map (·.2)) (ok : BlkOk X.N X.env.scope scope own) (hv : Vis X.env.scope x)
    (hg : ∀ (s : Shared) (H : Hp) (C : Addr) (cl : List (Str × Addr)) (fp : List Addr), PG (X.blk s H scope (compEnvC scope cl C X.env) fp) (.Tuple elts kk tpos) (ct.tg X.K))
    (he : ∀ (s : Shared) (H : Hp) (C : Addr) (cl : List (Str × Addr)) (fp : List Addr), PE (X.blk s H scope (compEnvC scope cl C X.env) fp) elt (tE P WF te))
    (hs : starEach [a, b, c] X.env = (false, eval a X.env) :: starEach [b, c] X.env := by rfl) (hpl : (backTo pc (starEach [b, c] X.env)).any (·.1) = false := by rfl) (hsw : swapsWith (.Call (.Name "zip" pz) [a, b, c] [] pc) (some (.Name x p')) p1.line X.env = pure false := by rfl)
    (hf : X.fn x = true ∨ X.env.scope.names.lookup x = some .local := by first | exact .inl rfl | exact .inr rfl | assumption)
    (hn : fn ≠ "__name__" := by decide) (hdb : (fn == ("__debug__" : Str)) = false := by decide) (hst : starEach [.ListComp elt [⟨.Tuple elts kk tpos, .Name x pn, [], 0⟩] scope pl] X.env = (false, eval (.ListComp elt [⟨.Tuple elts kk tpos, .Name x pn, [], 0⟩] scope pl) X.env) :: starEach [] X.env := by rfl)
    (hpl2 : (backTo pq (starEach [] X.env)).any (·.1) = false := by rfl) (hd : (x == ("__debug__" : Str)) = false := by decide) (hcd : (x == ("__classdict__" : Str)) = false := by decide) (hfs : ∀ y, foldedSetIterable (.Name x pn) X.env y = pure y := by intro _; rfl) :
    SSs X P W [.Assign [.Name x p'] (.Call (.Name "zip" pz) [a, b, c] [] pc) p1, .Return (some (.Call (.Name fn pm) [.ListComp elt [⟨.Tuple elts kk tpos, .Name x pn, [], 0⟩] scope pl] [] pq)) p2] (sZip3 f i rs ct (own.map (·.2)) te) :=
  (pss_cons (ps_set hN hi hx (pe_zip3 hgz hmz ha hs hpl) hsw hf) (pss_one (ps_ret (pe_callB hcall hgf hmf hvf (pa_cons (pe_lc (tt := tT P WF rYes) (te := tE P WF te) hc hN (pi_nameZ hi hv hd hcd) ok hg (fun _ _ _ _ _ => pts_yes) he hfs) pa_nil hst) hn hdb hst hpl2)))).of fun D σ H ⟨ρ, env, st, r, re, h⟩ => by
    refine ⟨ρ, env, st, r, re, (PostS.ofE r.r re h).mono fun vs H1 ⟨ρ1, st1, v, e1, r1, re1, p1, h1⟩ => ?_⟩
    split at h1
    · rename_i xs ys zs
      obtain ⟨v1, v2, v3, rfl, q1, q2, q3⟩ := RepVs.three p1
      cases q1 with
      | tup ha1 ta1 =>
      cases q2 with
      | tup ha2 ta2 =>
      cases q3 with
      | tup ha3 ta3 =>
      cases hb : Nat.blt i env.length with
      | false => rw [hb] at h1; exact h1.elim
      | true =>
      rw [hb] at h1
      simp only [cond_true] at h1
      have hlt : i < σ.length := by rw [← re1.len]; exact Nat.le_of_ble_eq_true hb
      refine ⟨_, _, _, _, _, _, rfl, ha1, ha2, ha3, fun N hz => ?_⟩
      refine ⟨H1, N, _, _, _, xs.length, ys.length, zs.length, by rw [List.getElem?_set_self hlt], rfl, hz, ?_⟩
      show LcGoal X.K ct (tT P WF rYes) (tE P WF te) (own.map (·.2)) (σ.set i (some (.ref (N + 5)))) (fun z H3 => rCl X.K f [z] H3 D.rt) (JN _ (Has3 X.K _ _ _ xs.length ys.length zs.length) row3V) H1
      refine lc_ok (W := W) (f := .items (zip3I xs ys zs)) (own := own) hsl r1 (re1.lose i _) ⟨_, gives3, ⟨_, ha1, ta1⟩, ⟨_, ha2, ta2⟩, _, ha3, ta3⟩ ?_
      have hp := Post.bind (Rp := RpV X.K) (PostS.ofE (Rp := RpV X.K) (σ := σ.set i (some (.ref (N + 5)))) r1.r (re1.lose i _) h1)
      refine hp.mono fun z H2 ⟨ρ2, st2, w, e2, r2, pw, h2⟩ => ?_
      refine ⟨ρ2, st2, [w], r2.r, .cons pw .nil, (h2.ofO r2).mono fun y H3 ⟨ρ3, st3, w3, e3, r3, _, p3, h3⟩ => ?_⟩
      exact h3 ρ3 H3 y (ExtX.refl _ _) r3 p3
    · exact h1.elim
end
end PI

set_option Elab.async false
set_option linter.all false
set_option maxRecDepth 100000
set_option maxHeartbeats 4000000
/-! PI25: a def that wants the guards known, called with arguments. -/
namespace PI
open PySem PySem.Spec PyProof.Rows L2
section
variable {X : Cx} {P : Par X.K} {W : WX} {a b c e : Expr} {es : List Expr} {ra : SemE} {rs : SemA} {pos p : Pos} {x : Str}
theorem se_dnG {g : List IV → Sto → RE IV} {k n : Nat} (D : DnG X.prog X.w X.K X.mg X.base (P.T, P.cm) k x n g) (tk : Takes X W) (hgd : X.A.guards = some []) (hr : Room k X.A) (hg : Gl X x) (ha : SA X P W (a :: es) rs) (hl : LenN n rs)
    (hdb : (x == ("__debug__" : Str)) = false := by decide) (he : starEach (a :: es) X.env = (false, eval a X.env) :: starEach es X.env := by rfl) (hpl : (backTo pos (starEach es X.env)).any (·.1) = false := by rfl) : SE X P W (.Call (.Name x p) (a :: es) [] pos) (rDef g rs) := by
  obtain ⟨f, fd, ps, hps, h1, h2, hb, F⟩ := D.ex
  refine ⟨fun pins s σ H Q I h => ?_⟩
  have h' : tA P W rs σ H fun vs H1 => ∃ (ρ1 : List Addr) (st1 : Sto) (v : List IV), RelX P H1 ρ1 st1 ∧ RepVs X.K H1 ρ1 v vs ∧ Post P W (RpV X.K) ρ1 H1 σ Q (g v st1) := by
    obtain ⟨ρ, env, st, r, re, h⟩ := h
    exact ⟨ρ, env, st, r, re, h.bind.mono fun x H1 ⟨ρ1, st1, v, e1, r1, p1, h1⟩ => ⟨ρ1, st1, v, r1, p1, h1⟩⟩
  have h2' := hl.many σ H _ h'
  refine wpAny_Call_Name_kw (ld_glob I hg h1 ?_ hdb)
  refine PySem.W.callWith_K (h₀ := X.base) I.ok.mod.kin h2 ?_ he hpl
  refine thn (ha.run pos pins s σ H _ I h2') fun us s1 ⟨vs, H1, I1, r1, hlen, ρ1, st1, v, rx1, p1, hp⟩ => ?_
  have lu : us.length = ps.length := by rw [hps, ← hlen]; exact r1.length.symm
  have bt := hb s1 us I1.kIn (by rw [List.append_nil]; exact lu)
  rw [List.append_nil] at bt
  refine ⟨I1.kIn, wpAny_call (codeAny_mono (F.run X.A X.stack s1 H1 ⟨us, []⟩ us vs Q (WE W σ) hgd hr I1.env0 bt r1 ⟨hlen, P, ρ1, st1, v, rfl, rx1, p1, hp.wx fun c d H' w => w⟩) fun r s' hq => ?_)⟩
  cases r with
  | error e => exact passAt tk σ pins H1 s1 e s' I1 hq
  | ok fl =>
    cases fl with
    | ret u => exact I1.after hq
    | next => exact False.elim hq
    | brk => exact False.elim hq
    | cont => exact False.elim hq
end
end PI
namespace PI
open PySem PySem.Spec PyProof.Rows L2
def ctGs (is : List Nat) : TGs := fun vs σ H Q => vs.length = is.length ∧ Q (setsI is vs σ) H
section
variable {X : Cx} {P : Par X.K} {W : WX} {e : Expr} {es : List Expr} {pos : Pos} {kk i : Nat} {is : List Nat}
theorem pgs_ctn : PGs X [] (ctGs []) := pgs_nil.of fun vs σ H Q ⟨hl, q⟩ => by
  cases vs with
  | nil => exact ⟨rfl, q⟩
  | cons v r => cases hl
theorem pgs_ctc (h1 : PG X e (gName i)) (h2 : PGs X es (ctGs is)) (hs : (assignEach (e :: es) X.env).map (·.2) = assign e X.env :: (assignEach es X.env).map (·.2) := by rfl) : PGs X (e :: es) (ctGs (i :: is)) := (pgs_cons h1 h2 hs).of fun vs σ H Q ⟨hl, q⟩ => by
  cases vs with
  | nil => cases hl
  | cons v r => exact ⟨v, r, rfl, Nat.succ.inj hl, q⟩
theorem pg_ct (hc : X.calm = true) (h : PGs X es (ctGs is)) (hn : (assignEach es X.env).length = is.length := by rfl) (hst : (assignEach es X.env).findIdx? (·.1) = none := by rfl) : PG X (.Tuple es kk pos) ((CT.tup is).tg X.K) := pg_tup hc h hn hst
variable {elt tg iter : Expr} {ifs : List Expr} {scope : Scope} {own : List (Str × Nat)} {it : IEnv → Sto → RE FI} {ct : CT} {tt : SemT} {te : SemE}
theorem lc_conv (hsl : ∀ i ∈ ct.slots, i ∈ own.map (·.2)) {σ : L2.St} {H : Hp} {Q : VK} (h : tE P W (rLc it ct (own.map (·.2)) tt te) σ H Q) : tLc (tI P W it) (ct.tg X.K) (tT P WF tt) (tE P WF te) (own.map (·.2)) σ H Q := by
  obtain ⟨ρ, env, st, r, re, h⟩ := h
  exact ⟨ρ, env, st, r, re, h.bind.mono fun J H1 ⟨ρ1, st1, f, e1, r1, p1, h1⟩ => lc_ok hsl r1 (re.monoX r.r e1) p1 h1⟩
theorem ss_setLc {y : Str} {py spos : Pos} (hc : X.calm = true) (hN : X.N.Nodup) (hy : X.N[i]? = some y) (hyl : X.env.scope.names.lookup y = some .local) (hsw : swapsWith (.ListComp elt [⟨tg, iter, ifs, 0⟩] scope pos) (some (.Name y py)) spos.line X.env = pure true)
    (hi : SI X P W tg iter it) (ok : BlkOk X.N X.env.scope scope own) (hsl : ∀ i ∈ ct.slots, i ∈ own.map (·.2))
    (hg : ∀ (s : Shared) (H : Hp) (C : Addr) (cl : List (Str × Addr)) (fp : List Addr), PG (X.blk s H scope (compEnvC scope cl C X.env) fp) tg (ct.tg X.K)) (ht : ∀ (s : Shared) (H : Hp) (C : Addr) (cl : List (Str × Addr)) (fp : List Addr), PTs (X.blk s H scope (compEnvC scope cl C X.env) fp) ifs (tT P WF tt))
    (he : ∀ (s : Shared) (H : Hp) (C : Addr) (cl : List (Str × Addr)) (fp : List Addr), PE (X.blk s H scope (compEnvC scope cl C X.env) fp) elt (tE P WF te)) (hs : ∀ x, foldedSetIterable iter X.env x = pure x := by intro _; rfl) :
    SS X P W (.Assign [.Name y py] (.ListComp elt [⟨tg, iter, ifs, 0⟩] scope pos) spos) (sAsg (rLc it ct (own.map (·.2)) tt te) (gN i)) :=
  (ps_setLc hc hN hy hyl hsw hi ok hg ht he hs).of fun D σ H ⟨ρ, env, st, r, re, h⟩ =>
    lc_conv (W := W) hsl ⟨ρ, env, st, r, re, (PostS.ofE r.r re h).mono fun x H1 ⟨ρ1, st1, v, e1, r1, re1, p1, h1⟩ => h1.hereN r1 (re1.set p1 i)⟩
end
end PI

set_option Elab.async false
set_option linter.all false
set_option maxRecDepth 100000
set_option maxHeartbeats 4000000
/-! PI26: sum of a tuple of ints. -/
namespace PI
open PySem PySem.Spec PyProof.Rows L2
section
variable {prog : Program} {w : World} {A : Around} {E : Value → Shared → Prop} {s : Shared} {l : Addr}
theorem sum_tupG {xs : Array (Int × Tok)} {Q : Value → Shared → Prop} (hh : A.handled = none) (hl : s.heap.IsTuple l (intItems xs))
    (h : ∀ h' tk t', (∀ b o, s.heap.get? b = some o → h'.get? b = some o) → Q (.int (preSum (numAt xs) xs.size) t') { s with heap := h', toks := tk }) : wpAny (model prog w) A (call (.builtin "sum") [.ref l]) Q E s := by
  have hlt : l < s.heap.objs.size := by obtain ⟨o, ho, _⟩ := hl; exact Heap.lt_size ho
  have keepT : ∀ h' : Heap, (∀ b o, s.heap.get? b = some o → h'.get? b = some o) → h'.IsTuple l (intItems xs) := fun h' k => hl.at fun o e => k l o e
  refine call_sum_walkG (wpAny_pyIter_tuple hl ?_)
  refine ⟨_, _, _, _, _, _, numAt xs, rfl, Walks.tuple (A := A.in1) hh s.heap.objs.size l (Nat.ne_of_lt hlt) (intItems xs), ⟨⟨_, Heap.get?_push_size _ rfl, rfl, rfl⟩, keepT _ fun b o e => Heap.get?_push_of_some _ e⟩, fun b hb => ?_, fun _ _ => intItems_at, fun h' tk t' hk => ?_⟩
  · rw [Heap.size_push]
    have e : b = s.heap.objs.size ∨ b = l := by simpa using hb
    rcases e with z | z
    · rw [z]; exact Nat.lt_succ_self _
    · rw [z]; exact Nat.lt_succ_of_lt hlt
  · have q := h h' tk t' fun b o e => hk b o (fun z => by
      have z' : b = s.heap.objs.size := by simpa using z
      exact Nat.ne_of_lt (Heap.lt_size e) z') (Heap.get?_push_of_some _ e)
    simpa [intItems] using q
theorem sum_tup {its : List Value} {ns : List Int} {Q : Value → Shared → Prop} (hh : A.handled = none) (hl : s.heap.IsTuple l its.toArray) (hi : IntsAre its ns)
    (h : ∀ h' tk t', (∀ b o, s.heap.get? b = some o → h'.get? b = some o) → Q (.int ns.sum t') { s with heap := h', toks := tk }) : wpAny (model prog w) A (call (.builtin "sum") [.ref l]) Q E s := by
  obtain ⟨xs, e⟩ := hi.allInts.items
  have hn : numsOf (intItems xs).toList = ns := by rw [← e]; exact hi.numsOf
  rw [nums_intItems] at hn
  rw [e] at hl
  refine sum_tupG hh hl fun h' tk t' hk => ?_
  have q := h h' tk t' hk
  rw [preSum_eq, List.take_of_length_le (by simp), hn]
  exact q
end
def sumT : List IV → Sto → RO
  | [.tup xs], st => match intsOf xs with
    | some ns => some (.int ns.sum, st)
    | none => none
  | xs, st => sumI xs st
theorem call_sumT {X : Cx} (hc : X.calm = true) : CallR X (.builtin "sum") (rCl X.K sumT) := by
  rintro pins s σ H vs us Q I rv ⟨ρ, st, xs, r, t, h⟩
  by_cases ht : ∃ ys, xs = [.tup ys]
  · obtain ⟨ys, rfl⟩ := ht
    obtain ⟨v, rfl, pv⟩ := RepVs.one t
    cases pv with
    | tup hq tq =>
      unfold sumT at h
      cases e : intsOf ys with
      | none => simp only [e] at h; exact h.elim
      | some ns =>
        simp only [e] at h
        rw [ints_ok tq e] at hq
        obtain ⟨its, rvi, p, _⟩ := I.tuple hq
        obtain ⟨u, rfl, ru⟩ := vals1 rv
        cases ru
        exact sum_tup (I.ok.hd hc) p rvi.ints fun h' tk t' hk => ⟨.int _, H, I.kept hk, ⟨_, rfl⟩, h.here r (.int _)⟩
  · have e : sumT xs st = sumI xs st := by
      unfold sumT
      split
      · rename_i ys
        exact absurd ⟨ys, rfl⟩ ht
      · rfl
    rw [e] at h
    exact call_sumI hc pins s σ H vs us Q I rv ⟨ρ, st, xs, r, t, h⟩
end PI

set_option Elab.async false
set_option linter.all false
set_option maxRecDepth 100000
set_option maxHeartbeats 4000000
/-! PI27: slices of tuples with a step. -/
namespace PI
open PySem PySem.Spec PyProof.Rows L2
open HT (sIx)
/-- every k-th item -/
def everyI {α : Type} (k : Nat) (ys : List α) : List α := (List.range ((ys.length + k - 1) / k)).filterMap fun m => ys[m * k]?
theorem everyI_map {α β : Type} (f : α → β) (k : Nat) (ys : List α) : everyI k (ys.map f) = (everyI k ys).map f := by
  unfold everyI
  rw [List.length_map, List.map_filterMap]
  congr 1
  funext m
  rw [List.getElem?_map]
theorem adjust_step (lo hi : Option Int) (n : Nat) {k : Int} (hk : 0 < k) : Builtin.Slice.sliceAdjust lo hi k (n : Int) = (((sIx n 0 lo : Nat) : Int), ((sIx n n hi : Nat) : Int)) := by
  have h1 : ¬ (k < 0) := by omega
  have := HT.adjust_gen lo hi n
  unfold Builtin.Slice.sliceAdjust at this ⊢
  simp only [h1, if_false]
  simpa using this
theorem places_step (i j k : Nat) (hk : 0 < k) : Builtin.Slice.slicePlaces (i : Int) (j : Int) (k : Int) = (j - i + k - 1) / k := by
  unfold Builtin.Slice.slicePlaces
  rw [if_pos (show (k : Int) > 0 by omega)]
  by_cases h : i < j
  · rw [if_pos (by omega)]
    have e : (j : Int) - (i : Int) - 1 = ((j - i - 1 : Nat) : Int) := by omega
    have e3 : (((j - i - 1 : Nat) : Int) / (k : Int)) = (((j - i - 1) / k : Nat) : Int) := (Int.natCast_ediv _ _).symm
    have e2 : (j - i + k - 1) = (j - i - 1) + k := by omega
    rw [e, e2, Nat.add_div_right _ hk, e3]
    exact Int.toNat_natCast _
  · rw [if_neg (by omega)]
    have e2 : j - i + k - 1 = k - 1 := by omega
    rw [e2, Nat.div_eq_of_lt (by omega)]; rfl
theorem fm_congr {α β : Type} {f g : α → Option β} : ∀ {l : List α}, (∀ x ∈ l, f x = g x) → l.filterMap f = l.filterMap g
  | [], _ => rfl
  | x :: l, h => by
    rw [List.filterMap_cons, List.filterMap_cons, h x List.mem_cons_self, fm_congr fun y hy => h y (List.mem_cons_of_mem _ hy)]
theorem pick_step (xs : Array Value) (i j k : Nat) (hk : 0 < k) (hj : j ≤ xs.size) : ((List.range ((j - i + k - 1) / k)).filterMap fun (m : Nat) => xs[((i : Int) + (m : Int) * (k : Int)).toNat]?).toArray = (everyI k ((xs.toList.drop i).take (j - i))).toArray := by
  unfold everyI
  have hl : ((xs.toList.drop i).take (j - i)).length = j - i := by
    rw [List.length_take, List.length_drop, Array.length_toList]
    omega
  rw [hl]
  congr 1
  refine fm_congr fun m hm => ?_
  have hm := List.mem_range.mp hm
  have e : ((i : Int) + (m : Int) * (k : Int)).toNat = i + m * k := by
    rw [← Int.natCast_mul, ← Int.natCast_add, Int.toNat_natCast]
  rw [e, List.getElem?_take, List.getElem?_drop, Array.getElem?_toList]
  have : m * k < j - i := by
    have h1 : (m + 1) * k ≤ j - i + k - 1 := Nat.le_trans (Nat.mul_le_mul_right k hm) (Nat.div_mul_le_self _ _)
    rw [Nat.add_mul, Nat.one_mul] at h1
    omega
  rw [if_pos this]
theorem everyI_len {α : Type} {k : Nat} (hk : 0 < k) (ys : List α) : (everyI k ys).length ≤ ys.length := by
  unfold everyI
  refine Nat.le_trans (List.length_filterMap_le _ _) ?_
  rw [List.length_range]
  rcases Nat.eq_zero_or_pos ys.length with h | h
  · rw [h, Nat.div_eq_of_lt (by omega)]; omega
  · refine Nat.le_of_lt_succ ((Nat.div_lt_iff_lt_mul hk).mpr ?_)
    have : ys.length * 1 ≤ ys.length * k := Nat.mul_le_mul_left _ hk
    rw [Nat.succ_mul]
    omega
theorem fm_range {α : Type} : ∀ ys : List α, ((List.range ys.length).filterMap fun m => ys[m]?) = ys
  | [] => rfl
  | y :: ys => by
    rw [List.length_cons, List.range_succ_eq_map, List.filterMap_cons]
    show y :: _ = _
    rw [List.filterMap_map]
    congr 1
    exact fm_range ys
theorem everyI_one {α : Type} (ys : List α) : everyI 1 ys = ys := by
  unfold everyI
  rw [Nat.div_one, Nat.add_sub_cancel]
  simp only [Nat.mul_one]
  exact fm_range ys
section
variable {prog : Program} {w : World} {A : Around} {E : Value → Shared → Prop} {s : Shared}
theorem sliceApplied_step {sl : Addr} {vl vu vk : Value} {lo hi : Option Int} {n k : Nat} {Q : Int × Int × Nat → Shared → Prop} (hs : s.heap.IsSliceOf sl vl vu vk) (pl : IsPart vl lo) (pu : IsPart vu hi) (pk : IsPart vk (some (k : Int))) (hk : 0 < k)
    (h : Q (((sIx n 0 lo : Nat) : Int), (k : Int), (sIx n n hi - sIx n 0 lo + k - 1) / k) s) : wpAny (model prog w) A (Builtin.Slice.sliceApplied (.ref sl) (pure (n : Int))) Q E s := by
  obtain ⟨os, hos, hcs, hds⟩ := id hs
  unfold Builtin.Slice.sliceApplied Builtin.Slice.sliceFields
  refine wpAny_bind (wpAny_bind (wpAny_field hos hds (x := vl) rfl (wpAny_bind (wpAny_field hos hds (x := vu) rfl (wpAny_bind (wpAny_field hos hds (x := vk) rfl (wpAny_pure ?_)))))))
  refine wpAny_bind (HT.slicePart_ pk ?_)
  show wpAny _ _ (if ((k : Int) == 0) = true then _ else _) _ _ s
  have hk0 : ((k : Int) == 0) = false := by
    rw [beq_eq_false_iff_ne]; omega
  rw [hk0, if_neg (by decide)]
  refine wpAny_bind (HT.slicePart_ pl (wpAny_bind (HT.slicePart_ pu (wpAny_bind (wpAny_pure ?_)))))
  show wpAny _ _ (match Builtin.Slice.sliceAdjust lo hi (k : Int) (n : Int) with | (lo, hi) => pure (lo, (k : Int), Builtin.Slice.slicePlaces lo hi (k : Int))) _ _ s
  rw [adjust_step lo hi n (show (0 : Int) < (k : Int) by omega)]
  show wpAny _ _ (pure (((sIx n 0 lo : Nat) : Int), (k : Int), Builtin.Slice.slicePlaces ((sIx n 0 lo : Nat) : Int) ((sIx n n hi : Nat) : Int) (k : Int))) _ _ s
  rw [places_step _ _ _ hk]
  exact wpAny_pure h
theorem getItem_tuple_step {t sl : Addr} {items : Array Value} {vl vu vk : Value} {lo hi : Option Int} {k : Nat} {Q : Value → Shared → Prop} (ht : IsTup s.heap t items) (hs : s.heap.IsSliceOf sl vl vu vk) (pl : IsPart vl lo) (pu : IsPart vu hi) (pk : IsPart vk (some (k : Int))) (hk : 0 < k)
    (h1 : sIx items.size 0 lo = 0 → k = 1 → sIx items.size items.size hi = items.size → Q (.ref t) s)
    (h : Q (.ref s.heap.objs.size) { s with heap := s.heap.push { cls := .type "tuple", data := .seq (everyI k ((items.toList.drop (sIx items.size 0 lo)).take (sIx items.size items.size hi - sIx items.size 0 lo))).toArray } })
    (hsz : items.size ≤ sizeLine) : wpAny (model prog w) A (getItem (.ref t) (.ref sl)) Q E s := by
  have htake : sizeOk (.seq (everyI k ((items.toList.drop (sIx items.size 0 lo)).take (sIx items.size items.size hi - sIx items.size 0 lo))).toArray) := by
    show (everyI k ((items.toList.drop (sIx items.size 0 lo)).take (sIx items.size items.size hi - sIx items.size 0 lo))).toArray.size ≤ sizeLine
    rw [List.size_toArray]
    refine Nat.le_trans (everyI_len hk _) ?_
    rw [List.length_take, List.length_drop, Array.length_toList]
    omega
  have hj : sIx items.size items.size hi ≤ items.size := HT.sIx_le _ _ (Nat.le_refl _) hi
  obtain ⟨os, hos, hcs, hds⟩ := id hs
  have hTs : s.TypeIs (.ref sl) "slice" := ⟨os, hos, hcs⟩
  unfold getItem
  try with_reducible refine wpAny_holding ?_
  first | refine wpAny_bind (wpAny_pure ?_) | skip
  refine wpAny_bind (wpAny_sequenceKey ht.typeIs (by decide) ?_)
  refine wpAny_bind (wpAny_callSpecial?_slot (name := Str.ofString "__getitem__") ht.typeIs PyProof.Rows.slot_tuple_getitem
    (wpAny_call_entry PyProof.Rows.slot_tuple_getitem ht.typeIs PyProof.Rows.entry_tuple_getitem ?_ (PyProof.Rows.args_tuple_getitem _ _)))
  show wpAny _ _ (Builtin.Tuple.tupleItemsOf (.ref t) >>= _) _ _ s
  refine wpAny_bind (tupleItemsOf_ ht ?_)
  refine wpAny_bind (wpAny_typeOf hTs ?_)
  rw [if_pos (by decide)]
  refine wpAny_bind (sliceApplied_step hs pl pu pk hk ?_)
  show wpAny _ _ (if (((sIx items.size 0 lo : Nat) : Int) == 0 && (k : Int) == 1 && ((sIx items.size items.size hi - sIx items.size 0 lo + k - 1) / k) == items.size) = true then _ else _) _ _ s
  by_cases hw : (((sIx items.size 0 lo : Nat) : Int) == 0 && (k : Int) == 1 && ((sIx items.size items.size hi - sIx items.size 0 lo + k - 1) / k) == items.size) = true
  · rw [if_pos hw]
    rw [Bool.and_eq_true, Bool.and_eq_true] at hw
    have q1 : ((sIx items.size 0 lo : Nat) : Int) = 0 := eq_of_beq hw.1.1
    have q2 : (k : Int) = 1 := eq_of_beq hw.1.2
    have q3 : (sIx items.size items.size hi - sIx items.size 0 lo + k - 1) / k = items.size := eq_of_beq hw.2
    have hk1 : k = 1 := by omega
    subst hk1
    rw [Nat.div_one] at q3
    have hh := h1 (by omega) rfl (by omega)
    refine wpAny_bind ?_
    show wpAny _ _ (typeOf (.ref t) >>= fun T => pure (T == .type "tuple")) _ _ s
    refine wpAny_bind (wpAny_typeOf ht.typeIs (wpAny_pure ?_))
    first
      | rw [if_pos (by decide)]
      | simp only [beq_self_eq_true, if_true]
    first
      | exact wpAny_bind (wpAny_rule (wpAny_pure ⟨_, rfl, wpAny_pure hh⟩))
      | exact wpAny_bind (wpAny_rule (wpAny_bind (wpAny_pure (wpAny_pure ⟨_, rfl, wpAny_pure hh⟩))))
  · rw [if_neg hw, pick_step _ _ _ _ hk hj]
    first
      | exact wpAny_bind (m := Builtin.Tuple.tupleExact _) (wpAny_newObj_type (wpAny_pure ⟨_, rfl, wpAny_pure h⟩) htake)
      | exact wpAny_bind (m := Builtin.Tuple.tupleExact _) (wpAny_newObj_type (wpAny_bind (wpAny_pure (wpAny_pure ⟨_, rfl, wpAny_pure h⟩))) htake)
      | exact wpAny_bind (wpAny_bind (m := Builtin.Tuple.tupleExact _) (wpAny_newObj_type (wpAny_pure (wpAny_pure ⟨_, rfl, wpAny_pure h⟩)) htake))
      | exact wpAny_bind (wpAny_bind (m := Builtin.Tuple.tupleExact _) (wpAny_newObj_type (wpAny_pure ⟨_, rfl, wpAny_pure h⟩) htake))
end
theorem vals_fm {f : Nat → Option V} {g : Nat → Option Value} (h : ∀ m, (f m = none ∧ g m = none) ∨ ∃ x u, f m = some x ∧ g m = some u ∧ RelV x u) : ∀ ms : List Nat, Vals (ms.filterMap f) (ms.filterMap g)
  | [] => .nil
  | m :: ms => by
    rw [List.filterMap_cons, List.filterMap_cons]
    rcases h m with ⟨e1, e2⟩ | ⟨x, u, e1, e2, r⟩
    · rw [e1, e2]; exact vals_fm h ms
    · rw [e1, e2]; exact .cons r (vals_fm h ms)
theorem repvs_fm {K : PySem.W.Frag} {H : Hp} {ρ : List Addr} {f : Nat → Option IV} {g : Nat → Option V} (h : ∀ m, (f m = none ∧ g m = none) ∨ ∃ x u, f m = some x ∧ g m = some u ∧ RepV K H ρ x u) : ∀ ms : List Nat, RepVs K H ρ (ms.filterMap f) (ms.filterMap g)
  | [] => .nil
  | m :: ms => by
    rw [List.filterMap_cons, List.filterMap_cons]
    rcases h m with ⟨e1, e2⟩ | ⟨x, u, e1, e2, r⟩
    · rw [e1, e2]; exact repvs_fm h ms
    · rw [e1, e2]; exact .cons r (repvs_fm h ms)
theorem vals_every {xs : List V} {us : List Value} (r : Vals xs us) (k : Nat) : Vals (everyI k xs) (everyI k us) := by
  unfold everyI
  rw [r.length]
  refine vals_fm (fun m => ?_) _
  cases e : xs[m * k]? with
  | none => exact .inl ⟨rfl, r.none_of e⟩
  | some x =>
    obtain ⟨u, e2, ru⟩ := r.get e
    exact .inr ⟨x, u, rfl, e2, ru⟩
theorem repvs_every {K : PySem.W.Frag} {H : Hp} {ρ : List Addr} {xs : List IV} {vs : List V} (r : RepVs K H ρ xs vs) (k : Nat) : RepVs K H ρ (everyI k xs) (everyI k vs) := by
  unfold everyI
  rw [r.length]
  refine repvs_fm (fun m => ?_) _
  cases e : xs[m * k]? with
  | none =>
    refine .inl ⟨rfl, ?_⟩
    have h1 := List.getElem?_eq_none_iff.mp e
    exact List.getElem?_eq_none_iff.mpr (by rw [← r.length]; exact h1)
  | some x =>
    obtain ⟨u, e2, ru⟩ := r.get e
    exact .inr ⟨x, u, rfl, e2, ru⟩
/-- t[lo:hi:k] of a tuple -/
def slc3I (v : IV) (lo hi : Option Int) (k : Int) (st : Sto) : RO :=
  match v with
  | .tup xs => bif decide (0 < k) then some (.tup (everyI k.toNat (cutI xs lo hi)), st) else none
  | _ => none
section
variable {X : Cx}
theorem sl3_I (pins : List (Addr × Obj)) (s : Shared) (σ : L2.St) (H : Hp) (x : V) (v vl vu vk : Value) (lo hi : Option Int) (k : Int) (sl : Addr) (Q : VK) (I : Inv X pins σ H s) (rx : RelV x v) (hs : s.heap.IsSliceOf sl vl vu vk) (pl : IsPart vl lo) (pu : IsPart vu hi) (pk : IsPart vk (some k))
    (h : ∃ ρ st va, Rel X.K H ρ st ∧ RepV X.K H ρ va x ∧ PostO X.K ρ H Q (slc3I va lo hi k st)) :
    ∃ T id, typeLookup (.type T) "__getitem__" = pure (some (.builtin id)) ∧ s.TypeIs v T ∧ wpAny (model X.prog X.w) X.A (getItem v (.ref sl)) (EP X pins σ Q) X.xe s := by
  obtain ⟨ρ, st, va, r, pa, h⟩ := h
  cases pa with
  | @tup xs vs a ha t =>
    have h' : PostO X.K ρ H Q (bif decide (0 < k) then some (.tup (everyI k.toNat (cutI xs lo hi)), st) else none) := h
    by_cases hk : 0 < k
    case neg => rw [decide_eq_false hk] at h'; exact h'.elim
    rw [decide_eq_true hk, cond_true] at h'
    obtain ⟨n, rfl⟩ := Int.eq_ofNat_of_zero_le (Int.le_of_lt hk)
    rw [Int.toNat_natCast] at h'
    have hn : 0 < n := by omega
    cases rx
    obtain ⟨its, rv, ht, hz⟩ := I.tuple ha
    have hlen : its.toArray.size = vs.length := by rw [List.size_toArray]; exact rv.length.symm
    refine ⟨"tuple", _, PyProof.Rows.slot_tuple_getitem.lookup, ht.typeIs, ?_⟩
    refine getItem_tuple_step ht hs pl pu pk hn (fun z1 z2 z3 => ?_) ?_ (by rw [hlen]; exact hz)
    · subst z2
      refine ⟨.ref a, H, I, rfl, ?_⟩
      rw [everyI_one, cut_whole (by rw [t.length, ← hlen]; exact ⟨z1, z3⟩)] at h'
      exact h'.here r (.tup ha t)
    · rw [hlen]
      have tc : RepVs X.K H ρ (everyI n (cutI xs lo hi)) (everyI n (cutV vs lo hi)) := repvs_every (t.cut lo hi) n
      refine ⟨.ref s.heap.objs.size, _, I.laid (t' := s.toks) (o := .tup (everyI n (cutV vs lo hi))) (fun b ob q => Heap.get?_push_of_some _ q) (Nat.le_refl _) ?_, rfl, h'.newTup r tc _ (I.hok.fresh (Nat.le_refl _))⟩
      exact ⟨Nat.le_trans (everyI_len hn _) (Nat.le_trans (cutV_length vs lo hi) hz), _, vals_every ((rv.drop (HT.sIx vs.length 0 lo)).take (HT.sIx vs.length vs.length hi - HT.sIx vs.length 0 lo)) n, IsTup.new _ _⟩
  | _ => exact (post_none h).elim
variable {P : Par X.K} {W : WX} {e ke : Expr} {te tk : TE} {ra rk : SemE} {lo hi : Option Expr} {tl th : TO} {pos p2 : Pos}
def tSl3 (K : PySem.W.Frag) (te : TE) (tl th : TO) (tk : TE) : TE := fun σ H Q => te σ H fun x H1 => tl σ H1 fun l H2 => th σ H2 fun u H3 => tk σ H3 fun y H4 => ∃ k : Int, y = .int k ∧ ∃ ρ st va, Rel K H4 ρ st ∧ RepV K H4 ρ va x ∧ PostO K ρ H4 Q (slc3I va l u k st)
theorem pe_slice3 (he : PE X e te) (hl : PO X lo tl) (hu : PO X hi th) (hk : PE X ke tk) (hsub : ∀ v r : Value, subscripted (.Slice lo hi (some ke) p2) false v r = operate [v, r] (getItem v r) := by (intro _ _; with_unfolding_all rfl)) : PE X (.Subscript e (.Slice lo hi (some ke) p2) pos) (tSl3 X.K te tl th tk) := by
  refine ⟨fun pins s σ H Q I h => ?_⟩
  refine Subscript_ (thn (he.run pins s σ H _ I h) fun v s1 ⟨x, H1, I1, r1, q1⟩ => ?_)
  refine wpAny_Slice (thn (hl.run pins s1 σ H1 _ I1 q1) fun vl s2 ⟨l, H2, I2, pl, q2⟩ => thn (hu.run pins s2 σ H2 _ I2 q2) fun vu s3 ⟨u, H3, I3, pu, q3⟩ => ?_)
  rw [evalPart_some]
  refine thn (hk.run pins s3 σ H3 _ I3 q3) fun vk s4 ⟨y, H4, I4, r4, q4⟩ => ?_
  obtain ⟨k, rfl, q⟩ := q4
  obtain ⟨tk, rfl⟩ := r4
  have I5 : Inv X pins σ H4 { s4 with heap := s4.heap.push { cls := .type "slice", data := .fields #[vl, vu, .int k tk] } } := I4.kept (t' := s4.toks) fun b ob q => Heap.get?_push_of_some _ q
  obtain ⟨T, id, hT, ht, hg⟩ := sl3_I pins { s4 with heap := s4.heap.push { cls := .type "slice", data := .fields #[vl, vu, .int k tk] } } σ H4 x v vl vu (.int k tk) l u k s4.heap.objs.size Q I5 r1 (Heap.IsSliceOf.new ..) pl pu (.int k tk) q
  show wpAny (model X.prog X.w) X.A (subscriptTail e (.Slice lo hi (some ke) p2) v (.ref s4.heap.objs.size)) (EP X pins σ Q) X.xe { s4 with heap := s4.heap.push { cls := .type "slice", data := .fields #[vl, vu, .int k tk] } }
  exact tail_any (ops := [v, .ref s4.heap.objs.size]) ht hT hg (hsub _ _)
def rSl3 (a : SemE) (lo hi : IEnv → Sto → RE (Option Int)) (b : SemE) : SemE := fun env st => (a env st).bind fun x st1 => (lo env st1).bind fun l st2 => (hi env st2).bind fun h st3 => (b env st3).bind fun y st4 => match y with
  | .int k => RE.ofO (slc3I x l h k st4)
  | _ => .bad
theorem se_slice3 {rl rh : IEnv → Sto → RE (Option Int)} (ha : SE X P W e ra) (hl : SPt X P W lo rl) (hu : SPt X P W hi rh) (hk : SE X P W ke rk) (hsub : ∀ v r : Value, subscripted (.Slice lo hi (some ke) p2) false v r = operate [v, r] (getItem v r) := by (intro _ _; with_unfolding_all rfl)) : SE X P W (.Subscript e (.Slice lo hi (some ke) p2) pos) (rSl3 ra rl rh rk) :=
  (pe_slice3 ha hl hu hk hsub).of fun σ H Q ⟨ρ, env, st, r, re, h⟩ => by
    refine ⟨ρ, env, st, r, re, h.bind.mono fun x H1 ⟨ρ1, st1, v, e1, r1, p1, h1⟩ => ?_⟩
    refine ⟨ρ1, env, st1, r1, re.monoX r.r e1, h1.bind.mono fun l H2 ⟨ρ2, st2, l', e2, r2, p2, h2⟩ => ?_⟩
    obtain rfl : l' = l := p2
    refine ⟨ρ2, env, st2, r2, re.monoX r.r (e1.trans e2), h2.bind.mono fun u H3 ⟨ρ3, st3, u', e3, r3, p3, h3⟩ => ?_⟩
    obtain rfl : u' = u := p3
    refine ⟨ρ3, env, st3, r3, re.monoX r.r ((e1.trans e2).trans e3), h3.bind.mono fun y H4 ⟨ρ4, st4, y', e4, r4, p4, h4⟩ => ?_⟩
    cases p4 with
    | int k => exact ⟨k, rfl, ρ4, st4, v, r4.r, p1.monoX r1.r ((e2.trans e3).trans e4), h4.ofO r4⟩
    | _ => exact h4.elim
end
end PI

set_option Elab.async false
set_option linter.all false
set_option maxRecDepth 100000
set_option maxHeartbeats 4000000
/-! PI28: starred parts of lists. -/
namespace PI
open PySem PySem.Spec PyProof.Rows L2
def rStar (a : SemE) (b : SemA) : SemA := fun env st => (a env st).bind fun v st1 => match seqOf st1 v with
  | some xs => (b env st1).bind fun ys st2 => .ok (xs ++ ys) st2
  | none => .bad
section
variable {X : Cx} {P : Par X.K} {W : WX} {a : Expr} {es : List Expr} {ra : SemE} {rs : SemA} {p : Pos}
theorem sa_star (ha : SE X P W a ra) (hr : SA X P W es rs) (hs : starEach (.Starred a p :: es) X.env = (true, eval a X.env) :: starEach es X.env := by rfl) : SA X P W (.Starred a p :: es) (rStar ra rs) :=
  (StX.pa_star ha hr hs).of fun σ H Q ⟨ρ, env, st, r, re, h⟩ => by
    refine ⟨ρ, env, st, r, re, h.bind.mono fun x H1 ⟨ρ1, st1, v, e1, r1, p1, h1⟩ => ?_⟩
    cases e : seqOf st1 v with
    | none => simp only [e] at h1; exact h1.elim
    | some xs =>
      simp only [e] at h1
      obtain ⟨q, vs, rfl, hq, rv⟩ := seqOf_sq r1.r p1 e
      refine ⟨q, vs, rfl, hq.symm, ρ1, env, st1, r1, re.monoX r.r e1, h1.bind.mono fun y H2 ⟨ρ2, st2, w, e2, r2, p2, h2⟩ => ?_⟩
      exact h2.here r2 ((rv.monoX r1.r e2).append p2)
end
end PI

set_option Elab.async false
set_option linter.all false
set_option maxRecDepth 100000
set_option maxHeartbeats 4000000
/-! PI29: list + list. -/
namespace PI
open PySem PySem.Spec PyProof.Rows L2
def addT : IV → IV → Sto → RO
  | .ref a, .ref b, st => match st.os[a]?, st.os[b]? with
    | some (.lst xs), some (.lst ys) => bif Nat.ble (xs.length + ys.length) lineI then st.allocO (.lst (xs ++ ys)) else none
    | _, _ => none
  | x, y, st => addI x y st
theorem op_addT {X : Cx} : OpR X (binaryOp .Add) (rB X.K addT) := by
  rintro pins s σ H x y v u Q I rx ry ⟨ρ, st, va, vb, r, pa, pb, h⟩
  by_cases hv : ∃ a b, va = .ref a ∧ vb = .ref b
  case neg =>
    have e : addT va vb st = addI va vb st := by
      cases va with
      | ref a => cases vb with
        | ref b => exact absurd ⟨a, b, rfl, rfl⟩ hv
        | _ => rfl
      | _ => rfl
    rw [e] at h
    exact op_addI pins s σ H x y v u Q I rx ry ⟨ρ, st, va, vb, r, pa, pb, h⟩
  obtain ⟨a, b, rfl, rfl⟩ := hv
  cases pa with
  | ref ha =>
    cases pb with
    | ref hb =>
      have h' : PostO X.K ρ H Q (match st.os[a]?, st.os[b]? with
        | some (.lst xs), some (.lst ys) => bif Nat.ble (xs.length + ys.length) lineI then st.allocO (.lst (xs ++ ys)) else none
        | _, _ => none) := h
      split at h'
      · rename_i xs ys e1 e2
        obtain ⟨e, h⟩ := bif_some (P := PostO X.K ρ H Q) h' post_none
        obtain ⟨vs, q1, t1⟩ := r.obj _ _ _ e1 ha
        obtain ⟨ws, q2, t2⟩ := r.obj _ _ _ e2 hb
        exact op_cat pins s σ H _ _ v u Q I rx ry ⟨_, _, _, _, rfl, rfl, q1, q2, line_ok (by rw [← t1.length, ← t2.length]; exact Nat.le_of_ble_eq_true e), h.newLst r (t1.append t2)⟩
      · exact h'.elim
end PI

set_option Elab.async false
set_option linter.all false
set_option maxRecDepth 100000
set_option maxHeartbeats 4000000
/-! PI30: comprehensions of two fors, the inner one over a tuple. -/
namespace PI
open PySem PySem.Spec PyProof.Rows L2
theorem sw_cell {elt : Expr} {gs : List Comprehension} {scope : Scope} {pos py : Pos} {y : Str} {l : Nat} {env : Env} (hy : env.scope.names.lookup y = some .cell) : swapsWith (.ListComp elt gs scope pos) (some (.Name y py)) l env = pure false := by
  have ky : env.kindOf y = some .cell := hy
  unfold swapsWith
  have e : (some NameKind.cell == some NameKind.local) = false := rfl
  simp only [ky, e, Bool.and_false, Bool.false_and]
def loopC2 (ct : CT) (env0 : IEnv) (ra : SemE) (ct1 : CT) (vs1 : List Nat) (tt1 : SemT) (te : SemE) : List IV → List IV → Sto → RE (List IV)
  | [], acc, st => .ok acc.reverse st
  | x :: xs, acc, st => match ct.put x env0 with
    | none => .bad
    | some env1 => match ra env1 st with
      | .ok (.tup ys) st1 => bif Nat.ble (acc.length + ys.length) lineI then (match loopC ct1 (wipeI env1 vs1) tt1 te ys acc st1 with
        | .ok zs st2 => loopC2 ct env0 ra ct1 vs1 tt1 te xs zs.reverse st2
        | _ => .bad) else .bad
      | _ => .bad
def rLc2 (it : IEnv → Sto → RE FI) (ct : CT) (vs : List Nat) (ra : SemE) (ct1 : CT) (vs1 : List Nat) (tt1 : SemT) (te : SemE) : SemE := fun env st => (it env st).bind fun f st1 =>
  RE.bind (match f with
  | .items xs => loopC2 ct (wipeI env vs) ra ct1 vs1 tt1 te xs [] st1
  | _ => .bad) fun ys st2 => RE.ofO (st2.allocO (.lst ys))
def tSq (K : PySem.W.Frag) (te : TE) : TI := fun σ H R => te σ H fun x H1 => ∃ a vs, x = .ref a ∧ SqT K H1 a vs ∧ R (Itt K a) H1
theorem pi_sq {X : Cx} {tg e : Expr} {te : TE} (he : PE X e te) : PI X tg e (tSq X.K te) := by
  refine ⟨fun pins s σ H R I h => ?_⟩
  refine thn (he.run pins s σ H _ I h) fun v s1 ⟨x, H1, I1, r1, a, vs, hx, hq, h1⟩ => ?_
  subst hx
  obtain rfl : v = .ref a := r1
  obtain ⟨its, rv, p, hz⟩ := I1.tuple hq
  refine wpAny_pyIter_tuple (show s1.heap.IsTuple a its.toArray from p) ?_
  refine ⟨s1.heap.objs.size, [s1.heap.objs.size], _, _, H1, rfl, I1.kept (t' := s1.toks) fun b o e => Heap.get?_push_of_some _ e, turn_tuple a _, ⟨_, Heap.get?_push_size _ rfl, rfl, rfl⟩, fun b hb => ?_, h1⟩
  have e : b = s1.heap.objs.size := by simpa using hb
  subst e
  exact I1.fpOk (Nat.le_refl _) (I1.hok.fresh (Nat.le_refl _))
section
variable {X : Cx} {P : Par X.K} {W : WX} {elt tg iter tg1 iter1 : Expr} {ifs1 : List Expr} {scope : Scope} {own : List (Str × Nat)} {vs1 : List Nat} {pos : Pos} {it : IEnv → Sto → RE FI} {ct ct1 : CT} {ra : SemE} {tt1 : SemT} {te : SemE}
theorem lc2_ok (hsl : ∀ i ∈ ct.slots, i ∈ own.map (·.2)) (hsl1 : ∀ i ∈ ct1.slots, i ∈ vs1) {σ : L2.St} {H1 : Hp} {Q : VK} {ρ1 : List Addr} {env : IEnv} {st1 : Sto} {xs : List IV} {J : It} {Iv : List Addr → Hp → Prop} (r1 : RelX P H1 ρ1 st1) (re1 : RelEnv X.K H1 ρ1 env σ) (gv : Gives X.K xs J Iv) (iv : Iv ρ1 H1)
    (h1 : Post P W (RpV X.K) ρ1 H1 σ Q (RE.bind (loopC2 ct (wipeI env (own.map (·.2))) ra ct1 vs1 tt1 te xs [] st1) fun ys st2 => RE.ofO (st2.allocO (.lst ys)))) :
    ∀ D, H1 D = none → ∃ W : Nat → Nat → Hp → Prop, (∃ m, W 0 m (upd H1 D (.lst []))) ∧ ∀ i m H, W i m H →
  (J.stop i H ∧ Q (.ref D) H) ∨ (J.go i H ∧ ∃ Nx : Hp → Prop, (∀ H', Nx H' → ∃ m', m' < m ∧ W (i + 1) m' H') ∧ ∀ x H', J.yld i H x H' → ct.tg X.K x (wipe σ (own.map (·.2))) H' fun σ2 H2 => wipe σ2 (own.map (·.2)) = wipe σ (own.map (·.2)) ∧ tT P WF rYes σ2 H2 fun b H3 =>
    if b = true then tSq X.K (tE P WF ra) σ2 H3 fun J1 H4 => ∃ W1 : Nat → Nat → Hp → Prop, (∃ m, W1 0 m H4) ∧ ∀ j k H, W1 j k H →
      (J1.stop j H ∧ Nx H) ∨ (J1.go j H ∧ ∃ Nx1 : Hp → Prop, (∀ H', Nx1 H' → ∃ k', k' < k ∧ W1 (j + 1) k' H') ∧ ∀ x H', J1.yld j H x H' → ct1.tg X.K x (wipe σ2 vs1) H' fun σ3 H5 => wipe σ3 vs1 = wipe σ2 vs1 ∧ tT P WF tt1 σ3 H5 fun b H6 =>
        if b = true then tE P WF te σ3 H6 fun y H7 => ∃ acc, H7 D = some (.lst acc) ∧ acc.length < sizeLine ∧ Nx1 (upd H7 D (.lst (acc ++ [y]))) else Nx1 H6)
    else Nx H3) := by
  intro D hD
  have A0 : Acc P ρ1 H1 D 0 ρ1 (upd H1 D (.lst [])) st1 [] [] :=
    ⟨(Ext.fresh r1.r hD _).x, r1.ext (Ext.fresh r1.r hD _) (r1.r.fresh hD _), fresh_not r1.r hD, upd_same, .nil, Nat.le_refl _⟩
  refine ⟨fun i m H => i ≤ xs.length ∧ m = xs.length - i ∧ ∃ ρ acc accV st, Acc P ρ1 H1 D acc.length ρ H st acc accV ∧ Post P W (RpV X.K) ρ1 H1 σ Q ((loopC2 ct (wipeI env (own.map fun p : Str × Nat => p.2)) ra ct1 vs1 tt1 te (xs.drop i) acc st).bind fun ys st2 => RE.ofO (st2.allocO (.lst ys))), ⟨xs.length, Nat.zero_le _, by simp, ρ1, [], [], st1, A0, h1⟩, ?_⟩
  rintro i m H ⟨hi, rfl, ρ, acc, accV, st, A, h⟩
  have ivn := gv.mono r1.r A.ext iv
  by_cases hlt : i < xs.length
  · right
    have ex : xs[i]? = some xs[i] := List.getElem?_eq_getElem hlt
    obtain ⟨go, yd⟩ := gv.go ivn ex
    rw [List.drop_eq_getElem_cons hlt] at h
    unfold loopC2 at h
    refine ⟨go, fun H => i + 1 ≤ xs.length ∧ ∃ ρ acc accV st, Acc P ρ1 H1 D acc.length ρ H st acc accV ∧ Post P W (RpV X.K) ρ1 H1 σ Q ((loopC2 ct (wipeI env (own.map fun p : Str × Nat => p.2)) ra ct1 vs1 tt1 te (xs.drop (i + 1)) acc st).bind fun ys st2 => RE.ofO (st2.allocO (.lst ys))), fun H' ⟨l, q⟩ => ⟨xs.length - (i + 1), by omega, l, rfl, q⟩, fun y H' hy => ?_⟩
    obtain ⟨xe, r', ry⟩ := yd y H' hy st A.rel.r
    replace A := A.move xe.x (A.rel.ext xe r')
    cases ep : ct.put xs[i] (wipeI env (own.map fun p : Str × Nat => p.2)) with
    | none => rw [ep] at h; exact h.elim
    | some env1 =>
      rw [ep] at h
      dsimp only at h
      refine put_ok ep ry ((re1.monoX r1.r A.ext).wipe _) hsl fun σ2 re2 hw => ⟨hw.trans wipe_wipe, ρ, env1, st, A.rel, re2, ?_⟩
      intro ρ' H2 k x1 rx1 hk
      obtain rfl : true = k := hk
      rw [if_pos rfl]
      refine ⟨ρ', env1, st, rx1, re2.monoX A.rel.r x1, ?_⟩
      replace A := A.move x1 rx1
      cases ea : ra env1 st with
      | ok w st2 =>
        rw [ea] at h
        cases w with
        | tup ys =>
          dsimp only at h
          intro ρ2 H3 v x2 rx2 pv
          obtain ⟨hz, h⟩ : Nat.ble (acc.length + ys.length) lineI = true ∧ Post P W (RpV X.K) ρ1 H1 σ Q ((match loopC ct1 (wipeI env1 vs1) tt1 te ys acc st2 with
            | .ok zs st2 => loopC2 ct (wipeI env (own.map fun p : Str × Nat => p.2)) ra ct1 vs1 tt1 te (xs.drop (i + 1)) zs.reverse st2
            | _ => .bad).bind fun ys st2 => RE.ofO (st2.allocO (.lst ys))) := by
            cases hb : Nat.ble (acc.length + ys.length) lineI with
            | false => rw [hb] at h; exact h.elim
            | true => rw [hb] at h; exact ⟨rfl, h⟩
          have hz' := Nat.le_of_ble_eq_true hz
          cases pv with
          | @tup _ ws a hq t =>
            refine ⟨a, ws, rfl, hq, ?_⟩
            replace A := A.move x2 rx2
            have re3 : RelEnv X.K H3 ρ2 env1 σ2 := re2.monoX r' (x1.trans x2)
            refine ⟨fun j k H => j ≤ ys.length ∧ k = ys.length - j ∧ SqT X.K H a ws ∧ ∃ ρ acc' accV st3, Acc P ρ1 H1 D acc'.length ρ H st3 acc' accV ∧ acc'.length ≤ acc.length + j ∧ RepVs X.K H ρ ys ws ∧ RelEnv X.K H ρ env1 σ2 ∧ Post P W (RpV X.K) ρ1 H1 σ Q ((match loopC ct1 (wipeI env1 vs1) tt1 te (ys.drop j) acc' st3 with
              | .ok zs st2 => loopC2 ct (wipeI env (own.map fun p : Str × Nat => p.2)) ra ct1 vs1 tt1 te (xs.drop (i + 1)) zs.reverse st2
              | _ => .bad).bind fun ys st2 => RE.ofO (st2.allocO (.lst ys))), ⟨ys.length, Nat.zero_le _, by simp, hq, ρ2, acc, accV, st2, A, Nat.le_refl _, t, re3, h⟩, ?_⟩
            rintro j k H ⟨hj, rfl, hq, ρ, acc', accV, st3, A, hle, t, re4, h⟩
            by_cases hlt2 : j < ys.length
            · right
              have ey : ys[j]? = some ys[j] := List.getElem?_eq_getElem hlt2
              obtain ⟨y, hy, ry⟩ := t.get ey
              rw [List.drop_eq_getElem_cons hlt2] at h
              unfold loopC at h
              refine ⟨⟨ws, y, hq, hy⟩, fun H => j + 1 ≤ ys.length ∧ SqT X.K H a ws ∧ ∃ ρ acc' accV st3, Acc P ρ1 H1 D acc'.length ρ H st3 acc' accV ∧ acc'.length ≤ acc.length + (j + 1) ∧ RepVs X.K H ρ ys ws ∧ RelEnv X.K H ρ env1 σ2 ∧ Post P W (RpV X.K) ρ1 H1 σ Q ((match loopC ct1 (wipeI env1 vs1) tt1 te (ys.drop (j + 1)) acc' st3 with
              | .ok zs st2 => loopC2 ct (wipeI env (own.map fun p : Str × Nat => p.2)) ra ct1 vs1 tt1 te (xs.drop (i + 1)) zs.reverse st2
              | _ => .bad).bind fun ys st2 => RE.ofO (st2.allocO (.lst ys))), fun H' ⟨l, q⟩ => ⟨ys.length - (j + 1), by omega, l, rfl, q⟩, fun z H' ⟨z1, z2⟩ => ?_⟩
              subst z1
              have := z2 ws hq
              rw [hy] at this
              cases this
              cases ep1 : ct1.put ys[j] (wipeI env1 vs1) with
              | none => rw [ep1] at h; exact h.elim
              | some env2 =>
                rw [ep1] at h
                dsimp only at h
                have side : ∀ {ρ' : List Addr} {H' : Hp} {u : List V}, ExtX ρ H ρ' H' → D ∉ ρ' → H' D = some (.lst accV) → RelX P H' ρ' st3 → True := fun _ _ _ _ => trivial
                refine turn_ok A.rel (re4.wipe _) hsl1 ry ep1 A.at' A.out (line_lt (Nat.lt_of_le_of_lt A.len (by omega))) ?_
                cases et : tt1 env2 st3 with
                | ok b st4 =>
                  rw [et] at h
                  refine ⟨b, st4, rfl, fun hb => ?_, fun hb ρ' H' x' r' => ?_⟩
                  · subst hb
                    dsimp only at h
                    cases ee : te env2 st4 with
                    | ok z st5 =>
                      rw [ee] at h
                      refine ⟨z, st5, rfl, fun ρ' H' v x' r' pv => ?_⟩
                      have A' := A.push r1 hD x' r' pv
                      have hDl : H' D = some (.lst accV) := x'.keep D _ A.at' A.out (fun ps z => nomatch z)
                      refine ⟨hlt2, sqT_upd hDl _ _ (sqT_X A.rel.r x' hq), ρ', z :: acc', _, st5, A', by rw [List.length_cons]; omega, RepVs.byTup (sqT_upd hDl) (t.monoX A.rel.r x'), ?_, h⟩
                      have q := re4.monoX A.rel.r x'
                      exact ⟨q.len, fun j w e => by obtain ⟨y, e1, p1⟩ := q.get j w e; exact ⟨y, e1, RepV.byTup (sqT_upd hDl) p1⟩⟩
                    | exc => rw [ee] at h; exact h.elim
                    | bad => rw [ee] at h; exact h.elim
                  · subst hb
                    exact ⟨hlt2, sqT_X A.rel.r x' hq, ρ', _, _, st4, A.move x' r', by omega, t.monoX A.rel.r x', re4.monoX A.rel.r x', h⟩
                | exc => rw [et] at h; exact h.elim
                | bad => rw [et] at h; exact h.elim
            · left
              have : j = ys.length := by omega
              subst this
              rw [List.drop_length] at h
              unfold loopC at h
              dsimp only at h
              rw [List.reverse_reverse] at h
              exact ⟨⟨ws, hq, by rw [t.length]; exact Nat.le_refl _⟩, hlt, ρ, acc', accV, st3, A, h⟩
        | _ => exact h.elim
      | exc => rw [ea] at h; exact h.elim
      | bad => rw [ea] at h; exact h.elim
  · left
    have : i = xs.length := by omega
    subst this
    rw [List.drop_length] at h
    exact ⟨gv.stop ivn, A.fin r1 hD h⟩
theorem se_lc2 (hc : X.calm = true) (hN : X.N.Nodup) (hi : SI X P W tg iter it) (ok : BlkOk X.N X.env.scope scope own) (hsl : ∀ i ∈ ct.slots, i ∈ own.map (·.2)) (hv : ∀ i ∈ vs1, i ∈ own.map (·.2)) (hsl1 : ∀ i ∈ ct1.slots, i ∈ vs1)
    (hg : ∀ (s : Shared) (H : Hp) (C : Addr) (cl : List (Str × Addr)) (fp : List Addr), PG (X.blk s H scope (compEnvC scope cl C X.env) fp) tg (ct.tg X.K))
    (hi1 : ∀ (s : Shared) (H : Hp) (C : Addr) (cl : List (Str × Addr)) (fp : List Addr), PE (X.blk s H scope (compEnvC scope cl C X.env) fp) iter1 (tE P WF ra))
    (hg1 : ∀ (s : Shared) (H : Hp) (C : Addr) (cl : List (Str × Addr)) (fp : List Addr), PG (X.blk s H scope (compEnvC scope cl C X.env) fp) tg1 (ct1.tg X.K))
    (ht1 : ∀ (s : Shared) (H : Hp) (C : Addr) (cl : List (Str × Addr)) (fp : List Addr), PTs (X.blk s H scope (compEnvC scope cl C X.env) fp) ifs1 (tT P WF tt1))
    (he : ∀ (s : Shared) (H : Hp) (C : Addr) (cl : List (Str × Addr)) (fp : List Addr), PE (X.blk s H scope (compEnvC scope cl C X.env) fp) elt (tE P WF te)) (hs : ∀ x, foldedSetIterable iter X.env x = pure x := by intro _; rfl) (hs1 : ∀ env x, foldedSetIterable iter1 env x = pure x := by intro _ _; rfl) :
    SE X P W (.ListComp elt [⟨tg, iter, [], 0⟩, ⟨tg1, iter1, ifs1, 0⟩] scope pos) (rLc2 it ct (own.map (·.2)) ra ct1 vs1 tt1 te) :=
  (pe_lc2 hc hN hi ok hv hg (fun _ _ _ _ _ => pts_yes) (fun s H C cl fp => pi_sq (hi1 s H C cl fp)) hg1 ht1 he hs hs1).of fun σ H Q ⟨ρ, env, st, r, re, h⟩ => by
    refine ⟨ρ, env, st, r, re, h.bind.mono fun J H1 ⟨ρ1, st1, f, e1, r1, p1, h1⟩ => ?_⟩
    cases f with
    | items xs =>
      obtain ⟨Iv, gv, iv⟩ := p1
      exact lc2_ok hsl hsl1 r1 (re.monoX r.r e1) gv iv h1
    | list n => exact h1.elim
    | walk n len row => exact h1.elim
end
end PI

set_option Elab.async false
set_option linter.all false
set_option maxRecDepth 100000
set_option maxHeartbeats 2000000
namespace law_k17
open PySem PySem.Spec PyProof.Rows L2 PI
def topS (i : Nat) : Stmt := PySem.Challenge.pw_noclicks_k17_whole_rates.main.body.getD i (.Pass ⟨0, 0, 0, 0⟩)
def g_MOST : IV := .int (10 ^ 60)
def g_MOST_FACTORS : IV := .int 60
def g_MOST_ROW : IV := .int 300
def g_NONE : IV := .tup [.int 0, .int 1]
abbrev s_is_whole : Stmt := topS 6
abbrev s_is_from : Stmt := topS 7
abbrev s_is_many : Stmt := topS 8
abbrev s_common : Stmt := topS 9
abbrev s_is_fraction : Stmt := topS 10
abbrev s_lean : Stmt := topS 13
abbrev s_plus : Stmt := topS 14
abbrev s_times : Stmt := topS 15
abbrev s_trimmed : Stmt := topS 18
abbrev s_is_poly : Stmt := topS 19
abbrev s_product_in : Stmt := topS 20
abbrev s_check_rate_row : Stmt := topS 23
abbrev s_check_step : Stmt := topS 24
abbrev s_check_filter : Stmt := topS 25
abbrev s_every : Stmt := topS 26
abbrev s_between : Stmt := topS 27
abbrev s_filtered : Stmt := topS 29
abbrev s_held : Stmt := topS 28
abbrev s_spread_filter : Stmt := topS 30
abbrev s_phases_of : Stmt := topS 31
abbrev s_from_phases : Stmt := topS 32
abbrev s_filtered_every : Stmt := topS 33
abbrev s_products_needed : Stmt := topS 34
abbrev s_can_go_first : Stmt := topS 35
abbrev s_can_go_behind : Stmt := topS 36
abbrev s_in_one : Stmt := topS 37
abbrev s__law_cell_at : Stmt := topS 39
abbrev s__law_draw : Stmt := topS 40
abbrev s__law_number : Stmt := topS 41
abbrev s__law_next : Stmt := topS 42
abbrev s__law_pick : Stmt := topS 43
abbrev s__law_common : Stmt := topS 45
abbrev s__law_lean : Stmt := topS 46
abbrev s__law_plus : Stmt := topS 47
abbrev s__law_times : Stmt := topS 48
abbrev s__law_total : Stmt := topS 49
abbrev s__law_fraction : Stmt := topS 50
abbrev s__law_row : Stmt := topS 51
abbrev s__law_trim : Stmt := topS 52
abbrev s__law_product : Stmt := topS 53
abbrev s__law_poly : Stmt := topS 54
abbrev s__law_filtered : Stmt := topS 55
abbrev s__law_refused_right : Stmt := topS 56
abbrev s_law : Stmt := topS 57
abbrev s__law_refuses : Stmt := topS 44
def r_is_whole : SemS :=
  (sRet (rAnd (rIsT .int (rVar 0)) (rNot (rIsT .bl (rVar 0)))))
def d_is_whole : List IV → Sto → RE IV := callI 1 r_is_whole

def r_is_from : SemS :=
  (sRet (rAnd (rDef d_is_whole (rCons (rVar 0) rNil)) (rChain cLe cLe (rVar 1) (rVar 0) (rVar 2))))
def d_is_from : List IV → Sto → RE IV := callI 3 r_is_from

def r_is_many : SemS :=
  (sRet (rAnd (rIsT .tup (rVar 0)) (rBin cEq (rCall lenI (rCons (rVar 0) rNil)) (rVar 1))))
def d_is_many : List IV → Sto → RE IV := callI 2 r_is_many

def r_common : SemS :=
  (sSeq (sWhileF (fun (env : IEnv) (_ : Sto) => match env[1]? with | some (some (IV.int b)) => b.toNat + 1 | _ => 0) (rTBl (rBin cGt (rVar 1) (rC (.int (0))))) (sPar 0 1 (rCons (rVar 1) (rCons (rBin subI (rVar 0) (rBin mulT (rVar 1) (rBin divI (rVar 0) (rVar 1)))) rNil))))
    (sRet (rVar 0)))
def d_common : List IV → Sto → RE IV := callI 2 r_common

def r_is_fraction : SemS :=
  (sSeq (sIf (rTOr (rTNot (rTru (rDef d_is_many (rCons (rVar 0) (rCons (rC (.int (2))) rNil))))) (rTOr (rTNot (rTru (rDef d_is_from (rCons (rBin idxI (rVar 0) (rC (.int (0)))) (rCons (rUn negI (rC g_MOST)) (rCons (rC g_MOST) rNil)))))) (rTNot (rTru (rDef d_is_from (rCons (rBin idxI (rVar 0) (rC (.int (1)))) (rCons (rC (.int (1))) (rCons (rC g_MOST) rNil)))))))) (sRet (rC (.bl false))) sPass)
    (sRet (rBin cEq (rDef d_common (rCons (rCall absI (rCons (rBin idxI (rVar 0) (rC (.int (0)))) rNil)) (rCons (rBin idxI (rVar 0) (rC (.int (1)))) rNil))) (rC (.int (1))))))
def d_is_fraction : List IV → Sto → RE IV := callI 1 r_is_fraction

def r_lean : SemS :=
  (sSeq (sAsg (rDef d_common (rCons (rCall absI (rCons (rVar 0) rNil)) (rCons (rVar 1) rNil))) (gN 2))
    (sSeq (sPar 0 1 (rCons (rBin divI (rVar 0) (rVar 2)) (rCons (rBin divI (rVar 1) (rVar 2)) rNil)))
    (sSeq (sIf (rTOr (rTBl (rBin cGt (rCall absI (rCons (rVar 0) rNil)) (rC g_MOST))) (rTBl (rBin cGt (rVar 1) (rC g_MOST)))) (sRaise 2 "most" (rC (.int (60)))) sPass)
    (sRet (rTup (rCons (rVar 0) (rCons (rVar 1) rNil)))))))
def d_lean : List IV → Sto → RE IV := callI 3 r_lean

def r_plus : SemS :=
  (sRet (rDef d_lean (rCons (rBin addI (rBin mulT (rBin idxI (rVar 0) (rC (.int (0)))) (rBin idxI (rVar 1) (rC (.int (1))))) (rBin mulT (rBin idxI (rVar 1) (rC (.int (0)))) (rBin idxI (rVar 0) (rC (.int (1)))))) (rCons (rBin mulT (rBin idxI (rVar 0) (rC (.int (1)))) (rBin idxI (rVar 1) (rC (.int (1))))) rNil))))
def d_plus : List IV → Sto → RE IV := callI 2 r_plus

def r_times : SemS :=
  (sRet (rDef d_lean (rCons (rBin mulT (rBin idxI (rVar 0) (rC (.int (0)))) (rBin idxI (rVar 1) (rC (.int (0))))) (rCons (rBin mulT (rBin idxI (rVar 0) (rC (.int (1)))) (rBin idxI (rVar 1) (rC (.int (1))))) rNil))))
def d_times : List IV → Sto → RE IV := callI 2 r_times

def r_trimmed : SemS :=
  (sSeq (sAsg (rCall lenI (rCons (rVar 0) rNil)) (gN 1))
    (sSeq (sWhileF (fun _ _ => 1000000) (rTAnd (rTBl (rBin cGt (rVar 1) (rC (.int (0))))) (rTBl (rBin cEq (rBin idxI (rVar 0) (rBin subI (rVar 1) (rC (.int (1))))) (rC g_NONE)))) (sAug 1 (augI fun i j => i - j) (rC (.int (1)))))
    (sRet (rCall tupleI (rCons (rSl (rVar 0) rNoPart (rPart (rVar 1))) rNil)))))
def d_trimmed : List IV → Sto → RE IV := callI 2 r_trimmed

def r_is_poly : SemS :=
  (sSeq (sIf (rTOr (rTNot (rTru (rIsT .tup (rVar 0)))) (rTOr (rTBl (rBin cGt (rCall lenI (rCons (rVar 0) rNil)) (rC g_MOST_FACTORS))) (rTNot (rTru (rCall allI (rCons (rLc (fSeq (rVar 0)) (.one 1) [1] rYes (rDef d_is_fraction (rCons (rVar 1) rNil))) rNil)))))) (sRet (rC (.bl false))) sPass)
    (sRet (rOr (rBin cEq (rVar 0) (rTup rNil)) (rBin cNe (rBin idxI (rVar 0) (rUn negI (rC (.int (1))))) (rC g_NONE)))))
def d_is_poly : List IV → Sto → RE IV := callI 2 r_is_poly

def r_product_in : SemS :=
  (sSeq (sIf (rTOr (rTBl (rBin cEq (rVar 0) (rTup rNil))) (rTBl (rBin cEq (rVar 1) (rTup rNil)))) (sRet (rTup rNil)) sPass)
    (sSeq (sAsg (rBin mulT (rLst (rCons (rC g_NONE) rNil)) (rBin subI (rBin addI (rCall lenI (rCons (rVar 0) rNil)) (rCall lenI (rCons (rVar 1) rNil))) (rC (.int (1))))) (gN 2))
    (sSeq (sFor (fEnum (rCons (rVar 0) rNil)) (gT 2 (gsCons (gN 3) (gsCons (gN 4) gsNil))) (sFor (fEnum (rCons (rVar 1) rNil)) (gT 2 (gsCons (gN 5) (gsCons (gN 6) gsNil))) (sAsg (rDef d_plus (rCons (rBin idxI (rVar 2) (rBin addI (rVar 3) (rVar 5))) (rCons (rDef d_times (rCons (rVar 4) (rCons (rVar 6) rNil))) rNil))) (gSubI (rVar 2) (rBin addI (rVar 3) (rVar 5))))))
    (sRet (rDef d_trimmed (rCons (rVar 2) rNil))))))
def d_product_in : List IV → Sto → RE IV := callI 7 r_product_in

def r_check_rate_row : SemS :=
  (sIf (rTOr (rTNot (rTru (rIsT .tup (rVar 0)))) (rTOr (rTBl (rBin cGt (rCall lenI (rCons (rVar 0) rNil)) (rC g_MOST_ROW))) (rTNot (rTru (rCall allI (rCons (rLc (fSeq (rVar 0)) (.one 1) [1] rYes (rDef d_is_fraction (rCons (rVar 1) rNil))) rNil)))))) (sRaise 1 "thing" (rVar 0)) sPass)
def d_check_rate_row : List IV → Sto → RE IV := callI 2 r_check_rate_row

def r_check_step : SemS :=
  (sIf (rTNot (rTru (rDef d_is_from (rCons (rVar 0) (rCons (rC (.int (1))) (rCons (rC (.int (12))) rNil)))))) (sRaise 1 "thing" (rVar 0)) sPass)
def d_check_step : List IV → Sto → RE IV := callI 1 r_check_step

def r_check_filter : SemS :=
  (sIf (rTNot (rTru (rDef d_is_poly (rCons (rVar 0) rNil)))) (sRaise 1 "thing" (rVar 0)) sPass)
def d_check_filter : List IV → Sto → RE IV := callI 1 r_check_filter

def r_every : SemS :=
  (sSeq (sExpr (rDef d_check_rate_row (rCons (rVar 0) rNil)))
    (sSeq (sExpr (rDef d_check_step (rCons (rVar 1) rNil)))
    (sRet (rSl3 (rVar 0) rNoPart rNoPart (rVar 1)))))
def d_every : List IV → Sto → RE IV := callI 2 r_every

def r_between : SemS :=
  (sSeq (sExpr (rDef d_check_rate_row (rCons (rVar 0) rNil)))
    (sSeq (sExpr (rDef d_check_step (rCons (rVar 1) rNil)))
    (sSeq (sIf (rTBl (rBin cGt (rBin mulT (rCall lenI (rCons (rVar 0) rNil)) (rVar 1)) (rC g_MOST_ROW))) (sRaise 1 "thing" (rVar 0)) sPass)
    (sSeq (sAsg (rLst rNil) (gN 2))
    (sSeq (sFor (fSeq (rVar 0)) (gN 3) (sExpr (rMethL extI (rVar 2) (rCons (rLst (rCons (rVar 3) (rStar (rBin mulT (rLst (rCons (rC g_NONE) rNil)) (rBin subI (rVar 1) (rC (.int (1))))) rNil))) rNil))))
    (sRet (rCall tupleI (rCons (rVar 2) rNil))))))))
def d_between : List IV → Sto → RE IV := callI 4 r_between

def r_filtered : SemS :=
  (sSeq (sExpr (rDef d_check_filter (rCons (rVar 0) rNil)))
    (sSeq (sExpr (rDef d_check_rate_row (rCons (rVar 1) rNil)))
    (sSeq (sAsg (rLst rNil) (gN 2))
    (sSeq (sFor (fRng1 (rCons (rCall lenI (rCons (rVar 1) rNil)) rNil)) (gN 3) (sSeq (sAsg (rC g_NONE) (gN 4))
    (sSeq (sFor (fRng1 (rCons (rCall minI (rCons (rLst (rCons (rBin addI (rVar 3) (rC (.int (1)))) (rCons (rCall lenI (rCons (rVar 0) rNil)) rNil))) rNil)) rNil)) (gN 5) (sAsg (rDef d_plus (rCons (rVar 4) (rCons (rDef d_times (rCons (rBin idxI (rVar 0) (rVar 5)) (rCons (rBin idxI (rVar 1) (rBin subI (rVar 3) (rVar 5))) rNil))) rNil))) (gN 4)))
    (sExpr (rMethL appI (rVar 2) (rCons (rVar 4) rNil))))))
    (sRet (rCall tupleI (rCons (rVar 2) rNil)))))))
def d_filtered : List IV → Sto → RE IV := callI 6 r_filtered

def r_held : SemS :=
  (sSeq (sAsg (rDef d_between (rCons (rVar 0) (rCons (rVar 1) rNil))) (gN 2))
    (sRet (rDef d_filtered (rCons (rBin mulT (rTup (rCons (rTup (rCons (rC (.int (1))) (rCons (rC (.int (1))) rNil))) rNil)) (rVar 1)) (rCons (rVar 2) rNil)))))
def d_held : List IV → Sto → RE IV := callI 3 r_held

def r_spread_filter : SemS :=
  (sSeq (sExpr (rDef d_check_filter (rCons (rVar 0) rNil)))
    (sSeq (sExpr (rDef d_check_step (rCons (rVar 1) rNil)))
    (sSeq (sIf (rTBl (rBin cGt (rBin addI (rBin mulT (rBin subI (rCall lenI (rCons (rVar 0) rNil)) (rC (.int (1)))) (rVar 1)) (rC (.int (1)))) (rC (.int (60))))) (sRaise 1 "thing" (rVar 0)) sPass)
    (sSeq (sAsg (rLst rNil) (gN 2))
    (sSeq (sFor (fEnum (rCons (rVar 0) rNil)) (gT 2 (gsCons (gN 3) (gsCons (gN 4) gsNil))) (sExpr (rMethL extI (rVar 2) (rCons (rIfE (rTBl (rBin cEq (rVar 3) (rBin subI (rCall lenI (rCons (rVar 0) rNil)) (rC (.int (1)))))) (rLst (rCons (rVar 4) rNil)) (rLst (rCons (rVar 4) (rStar (rBin mulT (rLst (rCons (rC g_NONE) rNil)) (rBin subI (rVar 1) (rC (.int (1))))) rNil)))) rNil))))
    (sRet (rDef d_trimmed (rCons (rVar 2) rNil))))))))
def d_spread_filter : List IV → Sto → RE IV := callI 5 r_spread_filter

def r_phases_of : SemS :=
  (sSeq (sExpr (rDef d_check_filter (rCons (rVar 0) rNil)))
    (sSeq (sExpr (rDef d_check_step (rCons (rVar 1) rNil)))
    (sRet (rCall tupleI (rCons (rLc (fRng1 (rCons (rVar 1) rNil)) (.one 2) [2] rYes (rDef d_trimmed (rCons (rSl3 (rVar 0) (rPart (rVar 2)) rNoPart (rVar 1)) rNil))) rNil)))))
def d_phases_of : List IV → Sto → RE IV := callI 3 r_phases_of

def r_from_phases : SemS :=
  (sSeq (sIf (rTOr (rTNot (rTru (rIsT .tup (rVar 0)))) (rTOr (rTNot (rTBl (rChain cLe cLe (rC (.int (1))) (rCall lenI (rCons (rVar 0) rNil)) (rC (.int (12)))))) (rTNot (rTru (rCall allI (rCons (rLc (fSeq (rVar 0)) (.one 3) [3] rYes (rDef d_is_poly (rCons (rVar 3) rNil))) rNil)))))) (sRaise 1 "thing" (rVar 0)) sPass)
    (sSeq (sAsg (rCall maxI (rCons (rLc (fSeq (rVar 0)) (.one 3) [3] rYes (rCall lenI (rCons (rVar 3) rNil))) rNil)) (gN 1))
    (sSeq (sIf (rTBl (rBin cGt (rBin mulT (rVar 1) (rCall lenI (rCons (rVar 0) rNil))) (rBin addI (rC (.int (60))) (rCall lenI (rCons (rVar 0) rNil))))) (sRaise 1 "thing" (rVar 0)) sPass)
    (sSeq (sAsg (rDef d_trimmed (rCons (rLc2 (fRng1 (rCons (rVar 1) rNil)) (.one 4) [4, 5] (rVar 0) (.one 5) [5] rYes (rIfE (rTBl (rBin cLt (rVar 4) (rCall lenI (rCons (rVar 5) rNil)))) (rBin idxI (rVar 5) (rVar 4)) (rC g_NONE))) rNil)) (gN 2))
    (sSeq (sIf (rTBl (rBin cGt (rCall lenI (rCons (rVar 2) rNil)) (rC (.int (60))))) (sRaise 1 "thing" (rVar 0)) sPass)
    (sRet (rVar 2)))))))
def d_from_phases : List IV → Sto → RE IV := callI 6 r_from_phases

def r_filtered_every : SemS :=
  (sSeq (sExpr (rDef d_check_filter (rCons (rVar 0) rNil)))
    (sSeq (sExpr (rDef d_check_rate_row (rCons (rVar 1) rNil)))
    (sSeq (sExpr (rDef d_check_step (rCons (rVar 2) rNil)))
    (sSeq (sAsg (rBin mulT (rLst (rCons (rC g_NONE) rNil)) (rCall lenI (rCons (rSl3 (rVar 1) rNoPart rNoPart (rVar 2)) rNil))) (gN 3))
    (sSeq (sFor (fEnum (rCons (rDef d_phases_of (rCons (rVar 0) (rCons (rVar 2) rNil))) rNil)) (gT 2 (gsCons (gN 4) (gsCons (gN 5) gsNil))) (sSeq (sAsg (rSl (rSl3 (rBin addI (rBin mulT (rTup (rCons (rC g_NONE) rNil)) (rVar 4)) (rVar 1)) rNoPart rNoPart (rVar 2)) rNoPart (rPart (rCall lenI (rCons (rVar 3) rNil)))) (gN 6))
    (sAsg (rLc (fZip2 (rCons (rVar 3) (rCons (rDef d_filtered (rCons (rVar 5) (rCons (rVar 6) rNil))) rNil))) (.tup [7, 8]) [7, 8] rYes (rDef d_plus (rCons (rVar 7) (rCons (rVar 8) rNil)))) (gN 3))))
    (sRet (rCall tupleI (rCons (rVar 3) rNil))))))))
def d_filtered_every : List IV → Sto → RE IV := callI 9 r_filtered_every

def r_products_needed : SemS :=
  (sSeq (sExpr (rDef d_check_filter (rCons (rVar 0) rNil)))
    (sSeq (sIf (rTNot (rTru (rDef d_is_from (rCons (rVar 1) (rCons (rC (.int (0))) (rCons (rC g_MOST_ROW) rNil)))))) (sRaise 1 "thing" (rVar 1)) sPass)
    (sSeq (sExpr (rDef d_check_step (rCons (rVar 2) rNil)))
    (sSeq (sAsg (rLc (fEnum (rCons (rVar 0) rNil)) (.tup [5, 6]) [5, 6] (rTBl (rBin cNe (rVar 6) (rC g_NONE))) (rVar 5)) (gN 3))
    (sSeq (sAsg (rCall sumT (rCons (rLc (fRng1 (rCons (rVar 1) rNil)) (.one 7) [7] rYes (rCall lenI (rCons (rLc (fSeq (rVar 3)) (.one 5) [5] (rTBl (rBin cLe (rVar 5) (rVar 7))) (rVar 5)) rNil))) rNil)) (gN 4))
    (sRet (rTup (rCons (rVar 4) (rCons (rCall sumT (rCons (rLc (fRng3 (rCons (rC (.int (0))) (rCons (rVar 1) (rCons (rVar 2) rNil)))) (.one 7) [7] rYes (rCall lenI (rCons (rLc (fSeq (rVar 3)) (.one 5) [5] (rTBl (rBin cLe (rVar 5) (rVar 7))) (rVar 5)) rNil))) rNil)) rNil)))))))))
def d_products_needed : List IV → Sto → RE IV := callI 8 r_products_needed

def r_can_go_first : SemS :=
  (sSeq (sExpr (rDef d_check_filter (rCons (rVar 0) rNil)))
    (sSeq (sExpr (rDef d_check_step (rCons (rVar 1) rNil)))
    (sRet (rIfE (rTBl (rBin cLe (rBin addI (rBin mulT (rBin subI (rCall lenI (rCons (rVar 0) rNil)) (rC (.int (1)))) (rVar 1)) (rC (.int (1)))) (rC (.int (60))))) (rDef d_spread_filter (rCons (rVar 0) (rCons (rVar 1) rNil))) (rC .non)))))
def d_can_go_first : List IV → Sto → RE IV := callI 2 r_can_go_first

def r_can_go_behind : SemS :=
  (sSeq (sAsg (rDef d_phases_of (rCons (rVar 0) (rCons (rVar 1) rNil))) (gN 2))
    (sRet (rIfE (rTru (rCall allI (rCons (rLc (fSeq (rSl (rVar 2) (rPart (rC (.int (1)))) rNoPart)) (.one 3) [3] rYes (rBin cEq (rVar 3) (rTup rNil))) rNil))) (rBin idxI (rVar 2) (rC (.int (0)))) (rC .non))))
def d_can_go_behind : List IV → Sto → RE IV := callI 4 r_can_go_behind

def r_in_one : SemS :=
  (sSeq (sExpr (rDef d_check_filter (rCons (rVar 0) rNil)))
    (sSeq (sExpr (rDef d_check_filter (rCons (rVar 1) rNil)))
    (sSeq (sAsg (rDef d_product_in (rCons (rVar 0) (rCons (rVar 1) rNil))) (gN 2))
    (sSeq (sIf (rTBl (rBin cGt (rCall lenI (rCons (rVar 2) rNil)) (rC (.int (60))))) (sRaise 1 "thing" (rVar 1)) sPass)
    (sRet (rVar 2))))))
def d_in_one : List IV → Sto → RE IV := callI 3 r_in_one

def r__law_cell_at : SemS :=
  (sSeq (sIf (rTBl (rBin cLt (rVar 1) (rCall lenI (rCons (rVar 0) rNil)))) (sRet (rBin idxI (rVar 0) (rVar 1))) sPass)
    (sRet (rC (.int (0)))))
def d__law_cell_at : List IV → Sto → RE IV := callI 2 r__law_cell_at

def r__law_draw : SemS :=
  (sSeq (sAsg (rTup (rCons (rC (.int (1000003))) (rCons (rC (.int (1000033))) (rCons (rC (.int (1000037))) (rCons (rC (.int (1000039))) (rCons (rC (.int (1000081))) (rCons (rC (.int (1000099))) (rCons (rC (.int (1000117))) (rCons (rC (.int (1000121))) (rCons (rC (.int (1000133))) (rCons (rC (.int (1000151))) (rCons (rC (.int (1000159))) (rCons (rC (.int (1000171))) (rCons (rC (.int (1000183))) (rCons (rC (.int (1000187))) (rCons (rC (.int (1000193))) (rCons (rC (.int (1000199))) rNil))))))))))))))))) (gN 3))
    (sRet (rBin modI (rBin modI (rCall intI (rCons (rBin addI (rBin mulT (rVar 0) (rC (.int (48271)))) (rBin mulT (rVar 1) (rC (.int (69621))))) rNil)) (rBin idxI (rVar 3) (rBin modI (rCall intI (rCons (rVar 1) rNil)) (rC (.int (16)))))) (rVar 2))))
def d__law_draw : List IV → Sto → RE IV := callI 4 r__law_draw

def r__law_number : SemS :=
  (sSeq (sAsg (rC (.int (1))) (gN 3))
    (sSeq (sFor (fRng1 (rCons (rBin modI (rCall intI (rCons (rVar 1) rNil)) (rC (.int (24)))) rNil)) (gN 4) (sAsg (rBin mulT (rVar 3) (rC (.int (1009)))) (gN 3)))
    (sSeq (sAsg (rBin divI (rBin subI (rVar 0) (rBin powI (rC (.int (10))) (rC (.int (18))))) (rVar 3)) (gN 5))
    (sSeq (sIf (rTBl (rBin cGt (rVar 5) (rC (.int (0))))) (sRet (rBin modI (rBin modI (rCall intI (rCons (rVar 5) rNil)) (rC (.int (1009)))) (rVar 2))) sPass)
    (sSeq (sAsg (rBin modI (rCall intI (rCons (rVar 0) rNil)) (rC (.int (1000003)))) (gN 6))
    (sRet (rBin modI (rDef d__law_draw (rCons (rBin mulT (rBin addI (rVar 6) (rBin mulT (rC (.int (977))) (rVar 1))) (rBin addI (rBin addI (rVar 6) (rBin mulT (rC (.int (31))) (rVar 1))) (rC (.int (5))))) (rCons (rBin addI (rBin modI (rCall intI (rCons (rVar 1) rNil)) (rC (.int (9)))) (rC (.int (1)))) (rCons (rC (.int (999983))) rNil)))) (rVar 2))))))))
def d__law_number : List IV → Sto → RE IV := callI 7 r__law_number

def r__law_next : SemS :=
  (sSeq (sAsg (rBin addI (rBin idxI (rVar 0) (rC (.int (2)))) (rC (.int (1)))) (gSubI (rVar 0) (rC (.int (2)))))
    (sSeq (sAsg (rBin divI (rBin idxI (rVar 0) (rC (.int (2)))) (rC (.int (12)))) (gN 2))
    (sSeq (sAsg (rBin addI (rDef d__law_cell_at (rCons (rBin idxI (rVar 0) (rC (.int (0)))) (rCons (rBin addI (rBin idxI (rVar 0) (rC (.int (1)))) (rVar 2)) rNil))) (rBin mulT (rC (.int (31))) (rVar 2))) (gN 3))
    (sRet (rDef d__law_number (rCons (rVar 3) (rCons (rBin addI (rBin modI (rCall intI (rCons (rBin idxI (rVar 0) (rC (.int (2)))) rNil)) (rC (.int (12)))) (rC (.int (1)))) (rCons (rVar 1) rNil))))))))
def d__law_next : List IV → Sto → RE IV := callI 4 r__law_next

def r__law_pick : SemS :=
  (sRet (rBin idxI (rVar 1) (rDef d__law_next (rCons (rVar 0) (rCons (rCall lenI (rCons (rVar 1) rNil)) rNil)))))
def d__law_pick : List IV → Sto → RE IV := callI 2 r__law_pick

def r__law_common : SemS :=
  (sSeq (sWhileF (fun (env : IEnv) (_ : Sto) => match env[1]? with | some (some (IV.int b)) => b.toNat + 1 | _ => 0) (rTBl (rBin cGt (rVar 1) (rC (.int (0))))) (sPar 0 1 (rCons (rVar 1) (rCons (rBin subI (rVar 0) (rBin mulT (rVar 1) (rBin divI (rVar 0) (rVar 1)))) rNil))))
    (sRet (rVar 0)))
def d__law_common : List IV → Sto → RE IV := callI 2 r__law_common

def r__law_lean : SemS :=
  (sSeq (sAsg (rDef d__law_common (rCons (rCall absI (rCons (rVar 0) rNil)) (rCons (rCall absI (rCons (rVar 1) rNil)) rNil))) (gN 2))
    (sRet (rIfE (rTBl (rBin cGt (rVar 1) (rC (.int (0))))) (rTup (rCons (rBin divI (rVar 0) (rVar 2)) (rCons (rBin divI (rVar 1) (rVar 2)) rNil))) (rTup (rCons (rBin divI (rUn negI (rVar 0)) (rVar 2)) (rCons (rBin divI (rUn negI (rVar 1)) (rVar 2)) rNil))))))
def d__law_lean : List IV → Sto → RE IV := callI 3 r__law_lean

def r__law_plus : SemS :=
  (sRet (rDef d__law_lean (rCons (rBin addI (rBin mulT (rBin idxI (rVar 0) (rC (.int (0)))) (rBin idxI (rVar 1) (rC (.int (1))))) (rBin mulT (rBin idxI (rVar 1) (rC (.int (0)))) (rBin idxI (rVar 0) (rC (.int (1)))))) (rCons (rBin mulT (rBin idxI (rVar 0) (rC (.int (1)))) (rBin idxI (rVar 1) (rC (.int (1))))) rNil))))
def d__law_plus : List IV → Sto → RE IV := callI 2 r__law_plus

def r__law_times : SemS :=
  (sRet (rDef d__law_lean (rCons (rBin mulT (rBin idxI (rVar 0) (rC (.int (0)))) (rBin idxI (rVar 1) (rC (.int (0))))) (rCons (rBin mulT (rBin idxI (rVar 0) (rC (.int (1)))) (rBin idxI (rVar 1) (rC (.int (1))))) rNil))))
def d__law_times : List IV → Sto → RE IV := callI 2 r__law_times

def r__law_total : SemS :=
  (sSeq (sAsg (rTup (rCons (rC (.int (0))) (rCons (rC (.int (1))) rNil))) (gN 1))
    (sSeq (sFor (fSeq (rVar 0)) (gN 2) (sAsg (rDef d__law_plus (rCons (rVar 1) (rCons (rVar 2) rNil))) (gN 1)))
    (sRet (rVar 1))))
def d__law_total : List IV → Sto → RE IV := callI 3 r__law_total

def r__law_fraction : SemS :=
  (sRet (rDef d__law_pick (rCons (rVar 0) (rCons (rLst (rCons (rTup (rCons (rC (.int (0))) (rCons (rC (.int (1))) rNil))) (rCons (rTup (rCons (rC (.int (1))) (rCons (rC (.int (1))) rNil))) (rCons (rTup (rCons (rUn negI (rC (.int (1)))) (rCons (rC (.int (1))) rNil))) (rCons (rTup (rCons (rC (.int (1))) (rCons (rC (.int (2))) rNil))) (rCons (rTup (rCons (rUn negI (rC (.int (1)))) (rCons (rC (.int (2))) rNil))) (rCons (rTup (rCons (rC (.int (2))) (rCons (rC (.int (1))) rNil))) (rCons (rTup (rCons (rC (.int (3))) (rCons (rC (.int (2))) rNil))) (rCons (rTup (rCons (rC (.int (1))) (rCons (rC (.int (4))) rNil))) rNil))))))))) rNil))))
def d__law_fraction : List IV → Sto → RE IV := callI 1 r__law_fraction

def r__law_row : SemS :=
  (sRet (rCall tupleI (rCons (rLc (fRng1 (rCons (rVar 1) rNil)) (.one 2) [2] rYes (rDef d__law_fraction (rCons (rVar 0) rNil))) rNil)))
def d__law_row : List IV → Sto → RE IV := callI 3 r__law_row

def r__law_trim : SemS :=
  (sSeq (sAsg (rCall listI (rCons (rVar 0) rNil)) (gN 0))
    (sSeq (sWhileF (fun _ _ => 1000000) (rTAnd (rTBl (rBin cNe (rVar 0) (rLst rNil))) (rTBl (rBin cEq (rBin idxI (rVar 0) (rUn negI (rC (.int (1))))) (rTup (rCons (rC (.int (0))) (rCons (rC (.int (1))) rNil)))))) (sAsg (rSl (rVar 0) rNoPart (rPart (rUn negI (rC (.int (1)))))) (gN 0)))
    (sRet (rCall tupleI (rCons (rVar 0) rNil)))))
def d__law_trim : List IV → Sto → RE IV := callI 1 r__law_trim

def r__law_product : SemS :=
  (sSeq (sIf (rTOr (rTBl (rBin cEq (rVar 0) (rTup rNil))) (rTBl (rBin cEq (rVar 1) (rTup rNil)))) (sRet (rTup rNil)) sPass)
    (sSeq (sAsg (rLst rNil) (gN 2))
    (sSeq (sFor (fRng1 (rCons (rBin subI (rBin addI (rCall lenI (rCons (rVar 0) rNil)) (rCall lenI (rCons (rVar 1) rNil))) (rC (.int (1)))) rNil)) (gN 3) (sExpr (rMethL appI (rVar 2) (rCons (rDef d__law_total (rCons (rLc (fRng1 (rCons (rCall lenI (rCons (rVar 0) rNil)) rNil)) (.one 4) [4] (rTBl (rChain cLe cLt (rC (.int (0))) (rBin subI (rVar 3) (rVar 4)) (rCall lenI (rCons (rVar 1) rNil)))) (rDef d__law_times (rCons (rBin idxI (rVar 0) (rVar 4)) (rCons (rBin idxI (rVar 1) (rBin subI (rVar 3) (rVar 4))) rNil)))) rNil)) rNil))))
    (sRet (rDef d__law_trim (rCons (rVar 2) rNil))))))
def d__law_product : List IV → Sto → RE IV := callI 5 r__law_product

def r__law_poly : SemS :=
  (sRet (rDef d__law_trim (rCons (rLc (fRng1 (rCons (rDef d__law_next (rCons (rVar 0) (rCons (rBin addI (rVar 1) (rC (.int (1)))) rNil))) rNil)) (.one 2) [2] rYes (rDef d__law_fraction (rCons (rVar 0) rNil))) rNil)))
def d__law_poly : List IV → Sto → RE IV := callI 3 r__law_poly

def r__law_filtered : SemS :=
  (sRet (rCall tupleI (rCons (rLc (fRng1 (rCons (rCall lenI (rCons (rVar 1) rNil)) rNil)) (.one 2) [2] rYes (rDef d__law_total (rCons (rLc (fRng1 (rCons (rCall minI (rCons (rLst (rCons (rBin addI (rVar 2) (rC (.int (1)))) (rCons (rCall lenI (rCons (rVar 0) rNil)) rNil))) rNil)) rNil)) (.one 3) [3] rYes (rDef d__law_times (rCons (rBin idxI (rVar 0) (rVar 3)) (rCons (rBin idxI (rVar 1) (rBin subI (rVar 2) (rVar 3))) rNil)))) rNil))) rNil)))
def d__law_filtered : List IV → Sto → RE IV := callI 4 r__law_filtered

def r__law_refused_right : SemS :=
  (sSeq (sAsg (rTup (rCons (rTup (rCons (rC (.int (1))) (rCons (rC (.int (1))) rNil))) rNil)) (gN 1))
    (sSeq (sFor (fSeq (rTup (rCons (rC .non) (rCons (rLst (rCons (rTup (rCons (rC (.int (1))) (rCons (rC (.int (1))) rNil))) rNil)) (rCons (rTup (rCons (rTup (rCons (rC (.int (2))) (rCons (rC (.int (4))) rNil))) rNil)) (rCons (rBin mulT (rVar 1) (rC (.int (301)))) rNil)))))) (gN 0) (sSeq (sIf (rTNot (rTru (rRefuses 1 "thing" (rDef d_every (rCons (rVar 0) (rCons (rC .non) rNil))) (rVar 0)))) (sRet (rC (.bl false))) sPass)
    (sSeq (sIf (rTNot (rTru (rRefuses 1 "thing" (rDef d_between (rCons (rVar 0) (rCons (rC .non) rNil))) (rVar 0)))) (sRet (rC (.bl false))) sPass)
    (sSeq (sIf (rTNot (rTru (rRefuses 1 "thing" (rDef d_filtered (rCons (rVar 1) (rCons (rVar 0) rNil))) (rVar 0)))) (sRet (rC (.bl false))) sPass)
    (sIf (rTNot (rTru (rRefuses 1 "thing" (rDef d_filtered_every (rCons (rVar 1) (rCons (rVar 0) (rCons (rC .non) rNil)))) (rVar 0)))) (sRet (rC (.bl false))) sPass)))))
    (sSeq (sFor (fSeq (rTup (rCons (rC (.int (0))) (rCons (rC (.int (13))) (rCons (rC .non) (rCons (rC (.bl true)) (rCons (rC (.str [120])) rNil))))))) (gN 0) (sSeq (sIf (rTNot (rTru (rRefuses 1 "thing" (rDef d_every (rCons (rVar 1) (rCons (rVar 0) rNil))) (rVar 0)))) (sRet (rC (.bl false))) sPass)
    (sSeq (sIf (rTNot (rTru (rRefuses 1 "thing" (rDef d_held (rCons (rVar 1) (rCons (rVar 0) rNil))) (rVar 0)))) (sRet (rC (.bl false))) sPass)
    (sSeq (sIf (rTNot (rTru (rRefuses 1 "thing" (rDef d_phases_of (rCons (rVar 1) (rCons (rVar 0) rNil))) (rVar 0)))) (sRet (rC (.bl false))) sPass)
    (sSeq (sIf (rTNot (rTru (rRefuses 1 "thing" (rDef d_can_go_first (rCons (rVar 1) (rCons (rVar 0) rNil))) (rVar 0)))) (sRet (rC (.bl false))) sPass)
    (sIf (rTNot (rTru (rRefuses 1 "thing" (rDef d_products_needed (rCons (rVar 1) (rCons (rC (.int (3))) (rCons (rVar 0) rNil)))) (rVar 0)))) (sRet (rC (.bl false))) sPass))))))
    (sSeq (sFor (fSeq (rTup (rCons (rC .non) (rCons (rLst (rCons (rTup (rCons (rC (.int (1))) (rCons (rC (.int (1))) rNil))) rNil)) (rCons (rTup (rCons (rTup (rCons (rC (.int (0))) (rCons (rC (.int (1))) rNil))) rNil)) (rCons (rTup (rCons (rTup (rCons (rC (.int (2))) (rCons (rC (.int (4))) rNil))) rNil)) (rCons (rBin mulT (rVar 1) (rC (.int (61)))) rNil))))))) (gN 0) (sSeq (sIf (rTNot (rTru (rRefuses 1 "thing" (rDef d_filtered (rCons (rVar 0) (rCons (rC .non) rNil))) (rVar 0)))) (sRet (rC (.bl false))) sPass)
    (sSeq (sIf (rTNot (rTru (rRefuses 1 "thing" (rDef d_spread_filter (rCons (rVar 0) (rCons (rC .non) rNil))) (rVar 0)))) (sRet (rC (.bl false))) sPass)
    (sSeq (sIf (rTNot (rTru (rRefuses 1 "thing" (rDef d_can_go_behind (rCons (rVar 0) (rCons (rC .non) rNil))) (rVar 0)))) (sRet (rC (.bl false))) sPass)
    (sIf (rTNot (rTru (rRefuses 1 "thing" (rDef d_in_one (rCons (rVar 1) (rCons (rVar 0) rNil))) (rVar 0)))) (sRet (rC (.bl false))) sPass)))))
    (sSeq (sFor (fSeq (rTup (rCons (rC .non) (rCons (rTup rNil) (rCons (rLst (rCons (rVar 1) rNil)) (rCons (rBin mulT (rTup (rCons (rVar 1) rNil)) (rC (.int (13)))) (rCons (rTup (rCons (rTup (rCons (rTup (rCons (rC (.int (0))) (rCons (rC (.int (1))) rNil))) rNil)) rNil)) (rCons (rTup (rCons (rBin mulT (rVar 1) (rC (.int (31)))) (rCons (rBin mulT (rVar 1) (rC (.int (31)))) rNil))) rNil)))))))) (gN 0) (sIf (rTNot (rTru (rRefuses 1 "thing" (rDef d_from_phases (rCons (rVar 0) rNil)) (rVar 0)))) (sRet (rC (.bl false))) sPass))
    (sSeq (sFor (fSeq (rTup (rCons (rUn negI (rC (.int (1)))) (rCons (rC (.int (301))) (rCons (rC .non) rNil))))) (gN 0) (sIf (rTNot (rTru (rRefuses 1 "thing" (rDef d_products_needed (rCons (rVar 1) (rCons (rVar 0) (rCons (rC .non) rNil)))) (rVar 0)))) (sRet (rC (.bl false))) sPass))
    (sSeq (sIf (rTNot (rTru (rRefuses 1 "thing" (rDef d_between (rCons (rBin mulT (rVar 1) (rC (.int (151)))) (rCons (rC (.int (2))) rNil))) (rBin mulT (rVar 1) (rC (.int (151))))))) (sRet (rC (.bl false))) sPass)
    (sSeq (sIf (rTNot (rTru (rRefuses 1 "thing" (rDef d_spread_filter (rCons (rBin mulT (rVar 1) (rC (.int (31)))) (rCons (rC (.int (2))) rNil))) (rBin mulT (rVar 1) (rC (.int (31))))))) (sRet (rC (.bl false))) sPass)
    (sRet (rAnd (rRefuses 1 "thing" (rDef d_in_one (rCons (rBin mulT (rVar 1) (rC (.int (31)))) (rCons (rBin mulT (rVar 1) (rC (.int (31)))) rNil))) (rBin mulT (rVar 1) (rC (.int (31))))) (rAnd (rBin cIs (rDef d_can_go_first (rCons (rBin mulT (rVar 1) (rC (.int (31)))) (rCons (rC (.int (2))) rNil))) (rC .non)) (rBin cEq (rDef d_can_go_first (rCons (rTup rNil) (rCons (rC (.int (12))) rNil))) (rTup rNil)))))))))))))
def d__law_refused_right : List IV → Sto → RE IV := callI 2 r__law_refused_right

def r_law : SemS :=
  (sSeq (sAsg (rLst (rCons (rSl (rVar 0) rNoPart (rPart (rC (.int (63))))) (rCons (rC (.int (0))) (rCons (rC (.int (0))) rNil)))) (gN 1))
    (sSeq (sAsg (rTup (rCons (rDef d__law_row (rCons (rVar 1) (rCons (rDef d__law_next (rCons (rVar 1) (rCons (rC (.int (14))) rNil))) rNil))) (rCons (rDef d__law_poly (rCons (rVar 1) (rCons (rC (.int (6))) rNil))) (rCons (rDef d__law_poly (rCons (rVar 1) (rCons (rC (.int (5))) rNil))) rNil)))) (gT 3 (gsCons (gN 2) (gsCons (gN 3) (gsCons (gN 4) gsNil)))))
    (sSeq (sAsg (rBin addI (rC (.int (1))) (rDef d__law_next (rCons (rVar 1) (rCons (rC (.int (4))) rNil)))) (gN 5))
    (sSeq (sAsg (rCall tupleI (rCons (rLc (fRng1 (rCons (rCall lenI (rCons (rVar 2) rNil)) rNil)) (.one 6) [6] (rTBl (rBin cEq (rVar 6) (rBin mulT (rVar 5) (rBin divI (rVar 6) (rVar 5))))) (rBin idxI (rVar 2) (rVar 6))) rNil)) (gN 7))
    (sSeq (sAsg (rCall tupleI (rCons (rLc (fRng1 (rCons (rBin mulT (rCall lenI (rCons (rVar 2) rNil)) (rVar 5)) rNil)) (.one 6) [6] rYes (rIfE (rTBl (rBin cEq (rVar 6) (rBin mulT (rVar 5) (rBin divI (rVar 6) (rVar 5))))) (rBin idxI (rVar 2) (rBin divI (rVar 6) (rVar 5))) (rTup (rCons (rC (.int (0))) (rCons (rC (.int (1))) rNil))))) rNil)) (gN 8))
    (sSeq (sIf (rTOr (rTBl (rBin cNe (rDef d_every (rCons (rVar 2) (rCons (rVar 5) rNil))) (rVar 7))) (rTOr (rTBl (rBin cNe (rDef d_between (rCons (rVar 2) (rCons (rVar 5) rNil))) (rVar 8))) (rTOr (rTBl (rBin cNe (rDef d_held (rCons (rVar 2) (rCons (rVar 5) rNil))) (rCall tupleI (rCons (rLc (fRng1 (rCons (rBin mulT (rCall lenI (rCons (rVar 2) rNil)) (rVar 5)) rNil)) (.one 6) [6] rYes (rBin idxI (rVar 2) (rBin divI (rVar 6) (rVar 5)))) rNil)))) (rTBl (rBin cNe (rDef d_every (rCons (rVar 8) (rCons (rVar 5) rNil))) (rVar 2)))))) (sRet (rC (.bl false))) sPass)
    (sSeq (sAsg (rDef d__law_filtered (rCons (rVar 3) (rCons (rVar 2) rNil))) (gN 9))
    (sSeq (sIf (rTOr (rTBl (rBin cNe (rDef d_filtered (rCons (rVar 3) (rCons (rVar 2) rNil))) (rVar 9))) (rTBl (rBin cNe (rDef d_filtered_every (rCons (rVar 3) (rCons (rVar 2) (rCons (rVar 5) rNil)))) (rCall tupleI (rCons (rLc (fRng1 (rCons (rCall lenI (rCons (rVar 2) rNil)) rNil)) (.one 6) [6] (rTBl (rBin cEq (rVar 6) (rBin mulT (rVar 5) (rBin divI (rVar 6) (rVar 5))))) (rBin idxI (rVar 9) (rVar 6))) rNil))))) (sRet (rC (.bl false))) sPass)
    (sSeq (sAsg (rDef d_phases_of (rCons (rVar 3) (rCons (rVar 5) rNil))) (gN 10))
    (sSeq (sIf (rTOr (rTBl (rBin cNe (rVar 10) (rCall tupleI (rCons (rLc (fRng1 (rCons (rVar 5) rNil)) (.one 19) [19] rYes (rDef d__law_trim (rCons (rLc (fRng3 (rCons (rVar 19) (rCons (rCall lenI (rCons (rVar 3) rNil)) (rCons (rVar 5) rNil)))) (.one 6) [6] rYes (rBin idxI (rVar 3) (rVar 6))) rNil))) rNil)))) (rTBl (rBin cNe (rDef d_from_phases (rCons (rVar 10) rNil)) (rVar 3)))) (sRet (rC (.bl false))) sPass)
    (sSeq (sAsg (rCall tupleI (rCons (rLc (fRng1 (rCons (rVar 5) rNil)) (.one 20) [20] rYes (rDef d__law_poly (rCons (rVar 1) (rCons (rC (.int (3))) rNil)))) rNil)) (gN 11))
    (sSeq (sAsg (rLst rNil) (gN 12))
    (sSeq (sFor (fRng1 (rCons (rC (.int (3))) rNil)) (gN 6) (sAsg (rBin addT (rVar 12) (rLc (fSeq (rVar 11)) (.one 21) [21] rYes (rIfE (rTBl (rBin cLt (rVar 6) (rCall lenI (rCons (rVar 21) rNil)))) (rBin idxI (rVar 21) (rVar 6)) (rTup (rCons (rC (.int (0))) (rCons (rC (.int (1))) rNil)))))) (gN 12)))
    (sSeq (sIf (rTOr (rTBl (rBin cNe (rDef d_from_phases (rCons (rVar 11) rNil)) (rDef d__law_trim (rCons (rVar 12) rNil)))) (rTBl (rBin cNe (rDef d_phases_of (rCons (rDef d_from_phases (rCons (rVar 11) rNil)) (rCons (rVar 5) rNil))) (rVar 11)))) (sRet (rC (.bl false))) sPass)
    (sSeq (sAsg (rDef d_spread_filter (rCons (rVar 3) (rCons (rVar 5) rNil))) (gN 13))
    (sSeq (sIf (rTOr (rTBl (rBin cNe (rVar 13) (rDef d__law_trim (rCons (rLc (fRng1 (rCons (rBin mulT (rCall lenI (rCons (rVar 3) rNil)) (rVar 5)) rNil)) (.one 6) [6] rYes (rIfE (rTBl (rBin cEq (rVar 6) (rBin mulT (rVar 5) (rBin divI (rVar 6) (rVar 5))))) (rBin idxI (rVar 3) (rBin divI (rVar 6) (rVar 5))) (rTup (rCons (rC (.int (0))) (rCons (rC (.int (1))) rNil))))) rNil)))) (rTBl (rBin cNe (rDef d_can_go_first (rCons (rVar 3) (rCons (rVar 5) rNil))) (rVar 13)))) (sRet (rC (.bl false))) sPass)
    (sSeq (sIf (rTOr (rTBl (rBin cNe (rDef d_every (rCons (rDef d__law_filtered (rCons (rVar 13) (rCons (rVar 2) rNil))) (rCons (rVar 5) rNil))) (rDef d__law_filtered (rCons (rVar 3) (rCons (rVar 7) rNil))))) (rTBl (rBin cNe (rDef d_between (rCons (rDef d__law_filtered (rCons (rVar 3) (rCons (rVar 2) rNil))) (rCons (rVar 5) rNil))) (rDef d__law_filtered (rCons (rVar 13) (rCons (rVar 8) rNil)))))) (sRet (rC (.bl false))) sPass)
    (sSeq (sAsg (rDef d_can_go_behind (rCons (rVar 3) (rCons (rVar 5) rNil))) (gN 14))
    (sSeq (sAsg (rCall allI (rCons (rLc (fRng1 (rCons (rCall lenI (rCons (rVar 3) rNil)) rNil)) (.one 6) [6] (rTBl (rBin cNe (rVar 6) (rBin mulT (rVar 5) (rBin divI (rVar 6) (rVar 5))))) (rBin cEq (rBin idxI (rVar 3) (rVar 6)) (rTup (rCons (rC (.int (0))) (rCons (rC (.int (1))) rNil))))) rNil)) (gN 15))
    (sSeq (sIf (rTOr (rTBl (rBin cNe (rBin cIsNot (rVar 14) (rC .non)) (rVar 15))) (rTAnd (rTru (rVar 15)) (rTOr (rTBl (rBin cNe (rVar 14) (rBin idxI (rVar 10) (rC (.int (0)))))) (rTBl (rBin cNe (rDef d__law_filtered (rCons (rVar 14) (rCons (rVar 7) rNil))) (rDef d_every (rCons (rVar 9) (rCons (rVar 5) rNil)))))))) (sRet (rC (.bl false))) sPass)
    (sSeq (sIf (rTOr (rTBl (rBin cNe (rDef d_can_go_behind (rCons (rVar 13) (rCons (rVar 5) rNil))) (rVar 3))) (rTBl (rBin cNe (rDef d_spread_filter (rCons (rDef d_can_go_behind (rCons (rVar 13) (rCons (rVar 5) rNil))) (rCons (rVar 5) rNil))) (rVar 13)))) (sRet (rC (.bl false))) sPass)
    (sSeq (sIf (rTOr (rTBl (rBin cNe (rDef d_in_one (rCons (rVar 3) (rCons (rVar 4) rNil))) (rDef d__law_product (rCons (rVar 3) (rCons (rVar 4) rNil))))) (rTBl (rBin cNe (rDef d__law_filtered (rCons (rDef d_in_one (rCons (rVar 3) (rCons (rVar 4) rNil))) (rCons (rVar 2) rNil))) (rDef d__law_filtered (rCons (rVar 4) (rCons (rVar 9) rNil)))))) (sRet (rC (.bl false))) sPass)
    (sSeq (sAsg (rDef d__law_next (rCons (rVar 1) (rCons (rC (.int (12))) rNil))) (gN 16))
    (sSeq (sAsg (rCall sumT (rCons (rLc (fRng1 (rCons (rVar 16) rNil)) (.one 22) [22] rYes (rCall lenI (rCons (rLc (fRng1 (rCons (rCall lenI (rCons (rVar 3) rNil)) rNil)) (.one 6) [6] (rTAnd (rTBl (rBin cLe (rVar 6) (rVar 22))) (rTBl (rBin cNe (rBin idxI (rVar 3) (rVar 6)) (rTup (rCons (rC (.int (0))) (rCons (rC (.int (1))) rNil)))))) (rC (.int (1)))) rNil))) rNil)) (gN 17))
    (sSeq (sAsg (rCall sumT (rCons (rLc (fRng1 (rCons (rVar 16) rNil)) (.one 22) [22] (rTBl (rBin cEq (rVar 22) (rBin mulT (rVar 5) (rBin divI (rVar 22) (rVar 5))))) (rCall lenI (rCons (rLc (fRng1 (rCons (rCall lenI (rCons (rVar 3) rNil)) rNil)) (.one 6) [6] (rTAnd (rTBl (rBin cLe (rVar 6) (rVar 22))) (rTBl (rBin cNe (rBin idxI (rVar 3) (rVar 6)) (rTup (rCons (rC (.int (0))) (rCons (rC (.int (1))) rNil)))))) (rC (.int (1)))) rNil))) rNil)) (gN 18))
    (sRet (rAnd (rBin cEq (rDef d_products_needed (rCons (rVar 3) (rCons (rVar 16) (rCons (rVar 5) rNil)))) (rTup (rCons (rVar 17) (rCons (rVar 18) rNil)))) (fun _ st => d__law_refused_right [] st))))))))))))))))))))))))))))
def d_law : List IV → Sto → RE IV := callI 23 r_law

structure Hd (P : Program) (w : World) (K : PySem.W.Frag) (mg : Str → Option Value) (base : Heap) (T : List (Addr × Str) × (Nat → Addr)) (co : Nat → Addr) : Prop where
  b_abs : mg "abs" = none
  b_all : mg "all" = none
  b_bool : mg "bool" = none
  b_enumerate : mg "enumerate" = none
  b_int : mg "int" = none
  b_isinstance : mg "isinstance" = none
  b_len : mg "len" = none
  b_list : mg "list" = none
  b_max : mg "max" = none
  b_min : mg "min" = none
  b_range : mg "range" = none
  b_repr : mg "repr" = none
  b_sum : mg "sum" = none
  b_tuple : mg "tuple" = none
  b_zip : mg "zip" = none
  c_MOST : Gc K mg "MOST" g_MOST
  c_MOST_FACTORS : Gc K mg "MOST_FACTORS" g_MOST_FACTORS
  c_MOST_ROW : Gc K mg "MOST_ROW" g_MOST_ROW
  c_NONE : Gc K mg "NONE" g_NONE
  x_BadThing : Xn P w K mg base T.2 1 "BadThing" "thing"
  x_TooGreat : Xn P w K mg base T.2 2 "TooGreat" "most"
  f_is_whole : ∃ f fd, mg "is_whole" = some (.ref f) ∧ Fun K "is_whole" "is_whole" s_is_whole f fd
  f_is_from : ∃ f fd, mg "is_from" = some (.ref f) ∧ Fun K "is_from" "is_from" s_is_from f fd
  f_is_many : ∃ f fd, mg "is_many" = some (.ref f) ∧ Fun K "is_many" "is_many" s_is_many f fd
  f_common : ∃ f fd, mg "common" = some (.ref f) ∧ Fun K "common" "common" s_common f fd
  f_is_fraction : ∃ f fd, mg "is_fraction" = some (.ref f) ∧ Fun K "is_fraction" "is_fraction" s_is_fraction f fd
  f_lean : ∃ f fd, mg "lean" = some (.ref f) ∧ Fun K "lean" "lean" s_lean f fd
  f_plus : ∃ f fd, mg "plus" = some (.ref f) ∧ Fun K "plus" "plus" s_plus f fd
  f_times : ∃ f fd, mg "times" = some (.ref f) ∧ Fun K "times" "times" s_times f fd
  f_trimmed : ∃ f fd, mg "trimmed" = some (.ref f) ∧ Fun K "trimmed" "trimmed" s_trimmed f fd
  f_is_poly : ∃ f fd, mg "is_poly" = some (.ref f) ∧ Fun K "is_poly" "is_poly" s_is_poly f fd
  f_product_in : ∃ f fd, mg "product_in" = some (.ref f) ∧ Fun K "product_in" "product_in" s_product_in f fd
  f_check_rate_row : ∃ f fd, mg "check_rate_row" = some (.ref f) ∧ Fun K "check_rate_row" "check_rate_row" s_check_rate_row f fd
  f_check_step : ∃ f fd, mg "check_step" = some (.ref f) ∧ Fun K "check_step" "check_step" s_check_step f fd
  f_check_filter : ∃ f fd, mg "check_filter" = some (.ref f) ∧ Fun K "check_filter" "check_filter" s_check_filter f fd
  f_every : ∃ f fd, mg "every" = some (.ref f) ∧ Fun K "every" "every" s_every f fd
  f_between : ∃ f fd, mg "between" = some (.ref f) ∧ Fun K "between" "between" s_between f fd
  f_filtered : ∃ f fd, mg "filtered" = some (.ref f) ∧ Fun K "filtered" "filtered" s_filtered f fd
  f_held : ∃ f fd, mg "held" = some (.ref f) ∧ Fun K "held" "held" s_held f fd
  f_spread_filter : ∃ f fd, mg "spread_filter" = some (.ref f) ∧ Fun K "spread_filter" "spread_filter" s_spread_filter f fd
  f_phases_of : ∃ f fd, mg "phases_of" = some (.ref f) ∧ Fun K "phases_of" "phases_of" s_phases_of f fd
  f_from_phases : ∃ f fd, mg "from_phases" = some (.ref f) ∧ Fun K "from_phases" "from_phases" s_from_phases f fd
  f_filtered_every : ∃ f fd, mg "filtered_every" = some (.ref f) ∧ Fun K "filtered_every" "filtered_every" s_filtered_every f fd
  f_products_needed : ∃ f fd, mg "products_needed" = some (.ref f) ∧ Fun K "products_needed" "products_needed" s_products_needed f fd
  f_can_go_first : ∃ f fd, mg "can_go_first" = some (.ref f) ∧ Fun K "can_go_first" "can_go_first" s_can_go_first f fd
  f_can_go_behind : ∃ f fd, mg "can_go_behind" = some (.ref f) ∧ Fun K "can_go_behind" "can_go_behind" s_can_go_behind f fd
  f_in_one : ∃ f fd, mg "in_one" = some (.ref f) ∧ Fun K "in_one" "in_one" s_in_one f fd
  f__law_cell_at : ∃ f fd, mg "_law_cell_at" = some (.ref f) ∧ Fun K "_law_cell_at" "_law_cell_at" s__law_cell_at f fd
  f__law_draw : ∃ f fd, mg "_law_draw" = some (.ref f) ∧ Fun K "_law_draw" "_law_draw" s__law_draw f fd
  f__law_number : ∃ f fd, mg "_law_number" = some (.ref f) ∧ Fun K "_law_number" "_law_number" s__law_number f fd
  f__law_next : ∃ f fd, mg "_law_next" = some (.ref f) ∧ Fun K "_law_next" "_law_next" s__law_next f fd
  f__law_pick : ∃ f fd, mg "_law_pick" = some (.ref f) ∧ Fun K "_law_pick" "_law_pick" s__law_pick f fd
  f__law_common : ∃ f fd, mg "_law_common" = some (.ref f) ∧ Fun K "_law_common" "_law_common" s__law_common f fd
  f__law_lean : ∃ f fd, mg "_law_lean" = some (.ref f) ∧ Fun K "_law_lean" "_law_lean" s__law_lean f fd
  f__law_plus : ∃ f fd, mg "_law_plus" = some (.ref f) ∧ Fun K "_law_plus" "_law_plus" s__law_plus f fd
  f__law_times : ∃ f fd, mg "_law_times" = some (.ref f) ∧ Fun K "_law_times" "_law_times" s__law_times f fd
  f__law_total : ∃ f fd, mg "_law_total" = some (.ref f) ∧ Fun K "_law_total" "_law_total" s__law_total f fd
  f__law_fraction : ∃ f fd, mg "_law_fraction" = some (.ref f) ∧ Fun K "_law_fraction" "_law_fraction" s__law_fraction f fd
  f__law_row : ∃ f fd, mg "_law_row" = some (.ref f) ∧ Fun K "_law_row" "_law_row" s__law_row f fd
  f__law_trim : ∃ f fd, mg "_law_trim" = some (.ref f) ∧ Fun K "_law_trim" "_law_trim" s__law_trim f fd
  f__law_product : ∃ f fd, mg "_law_product" = some (.ref f) ∧ Fun K "_law_product" "_law_product" s__law_product f fd
  f__law_poly : ∃ f fd, mg "_law_poly" = some (.ref f) ∧ Fun K "_law_poly" "_law_poly" s__law_poly f fd
  f__law_filtered : ∃ f fd, mg "_law_filtered" = some (.ref f) ∧ Fun K "_law_filtered" "_law_filtered" s__law_filtered f fd
  f__law_refused_right : ∃ f fd, mg "_law_refused_right" = some (.ref f) ∧ Fun K "_law_refused_right" "_law_refused_right" s__law_refused_right f fd ∧ fd.code = .ref (co 56)
  f_law : ∃ f fd, mg "law" = some (.ref f) ∧ Fun K "law" "law" s_law f fd ∧ fd.code = .ref (co 57)
  t__law_refused_right : Tb base mg T.1 (co 56) (((("_law_refused_right" : Str) ++ ".<locals>.") : Str) ++ "<lambda>")
  o__law_refuses : Tn P K mg T.2 1 "_law_refuses" "BadThing" "thing" s__law_refuses "work" "due" "e"
theorem tt__law_refuses : ToldT s__law_refuses "work" "due" "e" "BadThing" "thing" := ⟨⟨_, _, _, _, _, _, _, _, _, _, _, _, _, _, _, _, _, _, rfl, fun _ => rfl, fun _ => rfl⟩, ⟨rfl, rfl, rfl, by decide +kernel, rfl, by decide +kernel, by decide +kernel⟩, rfl, rfl, rfl, rfl, rfl, by decide⟩
theorem sc_is_whole : FnScope ["thing"] ["thing"] (defScope s_is_whole) := ⟨rfl, rfl, rfl, by decide +kernel, rfl, by decide +kernel, by decide +kernel⟩
theorem dn_is_whole {P : Program} {w : World} {K : PySem.W.Frag} {mg : Str → Option Value} {base : Heap} {T : List (Addr × Str) × (Nat → Addr)} {co : Nat → Addr} (B : Hd P w K mg base T co) : Dn P w K mg base T 1 "is_whole" 1 d_is_whole :=
  dn_mk (k := 0) (r := r_is_whole) B.f_is_whole sc_is_whole rfl rfl (fun _ _ _ _ _ _ us hl => match us, hl with | [_], _ => rfl) fun f cdv A outer s H E Pr hr hT => by
    subst hT
    exact (sss_one (ss_ret (se_and (se_isT (by decide) (by rfl) B.b_isinstance (by rfl) B.b_int (by rfl) (se_var (i := 0) rfl (.inl rfl))) (se_one (se_not (se_isT (by decide) (by rfl) B.b_isinstance (by rfl) B.b_bool (by rfl) (se_var (i := 0) rfl (.inl rfl))))))))

theorem sc_is_from : FnScope ["thing", "least", "most"] ["thing", "least", "most"] (defScope s_is_from) := ⟨rfl, rfl, rfl, by decide +kernel, rfl, by decide +kernel, by decide +kernel⟩
theorem dn_is_from {P : Program} {w : World} {K : PySem.W.Frag} {mg : Str → Option Value} {base : Heap} {T : List (Addr × Str) × (Nat → Addr)} {co : Nat → Addr} (B : Hd P w K mg base T co) : Dn P w K mg base T 2 "is_from" 3 d_is_from :=
  dn_mk (k := 1) (r := r_is_from) B.f_is_from sc_is_from rfl rfl (fun _ _ _ _ _ _ us hl => match us, hl with | [_, _, _], _ => rfl) fun f cdv A outer s H E Pr hr hT => by
    subst hT
    exact (sss_one (ss_ret (se_and (se_dn (dn_is_whole B) takes_fn (hr.mono (by decide)) (by rfl) (sa_cons (se_var (i := 0) rfl (.inl rfl)) sa_nil) (len_cons len_nil)) (se_one (se_chain op_leI op_leI (se_var (i := 1) rfl (.inl rfl)) (se_var (i := 0) rfl (.inl rfl)) (se_var (i := 2) rfl (.inl rfl)))))))

theorem sc_is_many : FnScope ["thing", "many"] ["thing", "many"] (defScope s_is_many) := ⟨rfl, rfl, rfl, by decide +kernel, rfl, by decide +kernel, by decide +kernel⟩
theorem dn_is_many {P : Program} {w : World} {K : PySem.W.Frag} {mg : Str → Option Value} {base : Heap} {T : List (Addr × Str) × (Nat → Addr)} {co : Nat → Addr} (B : Hd P w K mg base T co) : Dn P w K mg base T 1 "is_many" 2 d_is_many :=
  dn_mk (k := 0) (r := r_is_many) B.f_is_many sc_is_many rfl rfl (fun _ _ _ _ _ _ us hl => match us, hl with | [_, _], _ => rfl) fun f cdv A outer s H E Pr hr hT => by
    subst hT
    exact (sss_one (ss_ret (se_and (se_isT (by decide) (by rfl) B.b_isinstance (by rfl) B.b_tuple (by rfl) (se_var (i := 0) rfl (.inl rfl))) (se_one (se_cmp (op_eqI (ru4 hr)) (se_callB call_lenI (by rfl) B.b_len (by rfl) (sa_cons (se_var (i := 0) rfl (.inl rfl)) sa_nil)) (se_var (i := 1) rfl (.inl rfl)) (nomark _))))))

theorem sc_common : FnScope ["one", "other"] ["one", "other"] (defScope s_common) := ⟨rfl, rfl, rfl, by decide +kernel, rfl, by decide +kernel, by decide +kernel⟩
theorem dn_common {P : Program} {w : World} {K : PySem.W.Frag} {mg : Str → Option Value} {base : Heap} {T : List (Addr × Str) × (Nat → Addr)} {co : Nat → Addr} (B : Hd P w K mg base T co) : Dn P w K mg base T 1 "common" 2 d_common :=
  dn_mk (k := 0) (r := r_common) B.f_common sc_common rfl rfl (fun _ _ _ _ _ _ us hl => match us, hl with | [_, _], _ => rfl) fun f cdv A outer s H E Pr hr hT => by
    subst hT
    exact (sss_cons (ss_while passes_fn (sc_cmp op_gtI (se_var (i := 1) rfl (.inl rfl)) se_int (nomark _)) (sss_one (ss_par (i := 0) (j := 1) rfl sc_common.nd rfl rfl (by decide) rfl rfl (sa_cons (se_var (i := 1) rfl (.inl rfl)) (sa_cons (se_bin op_subI (se_var (i := 0) rfl (.inl rfl)) (se_bin op_mulT (se_var (i := 1) rfl (.inl rfl)) (se_bin op_divI (se_var (i := 0) rfl (.inl rfl)) (se_var (i := 1) rfl (.inl rfl))))) sa_nil)) (by rfl))))
    (sss_one (ss_ret (se_var (i := 0) rfl (.inl rfl)))))

theorem sc_is_fraction : FnScope ["thing"] ["thing"] (defScope s_is_fraction) := ⟨rfl, rfl, rfl, by decide +kernel, rfl, by decide +kernel, by decide +kernel⟩
theorem dn_is_fraction {P : Program} {w : World} {K : PySem.W.Frag} {mg : Str → Option Value} {base : Heap} {T : List (Addr × Str) × (Nat → Addr)} {co : Nat → Addr} (B : Hd P w K mg base T co) : Dn P w K mg base T 3 "is_fraction" 1 d_is_fraction :=
  dn_mk (k := 2) (r := r_is_fraction) B.f_is_fraction sc_is_fraction rfl rfl (fun _ _ _ _ _ _ us hl => match us, hl with | [_], _ => rfl) fun f cdv A outer s H E Pr hr hT => by
    subst hT
    exact (sss_cons (ss_if (sw_or (sc_not (sc_truth (se_dn (dn_is_many B) takes_fn (hr.mono (by decide)) (by rfl) (sa_cons (se_var (i := 0) rfl (.inl rfl)) (sa_cons se_int sa_nil)) (len_cons (len_cons len_nil))) (fun _ => rfl))) (sw_or (sc_not (sc_truth (se_dn (dn_is_from B) takes_fn (hr.mono (by decide)) (by rfl) (sa_cons (se_ix (se_var (i := 0) rfl (.inl rfl)) se_int (fun _ _ => rfl)) (sa_cons (se_un un_negI (se_gc B.c_MOST (by rfl))) (sa_cons (se_gc B.c_MOST (by rfl)) sa_nil))) (len_cons (len_cons (len_cons len_nil)))) (fun _ => rfl))) (sw_or1 (sc_not (sc_truth (se_dn (dn_is_from B) takes_fn (hr.mono (by decide)) (by rfl) (sa_cons (se_ix (se_var (i := 0) rfl (.inl rfl)) se_int (fun _ _ => rfl)) (sa_cons se_int (sa_cons (se_gc B.c_MOST (by rfl)) sa_nil))) (len_cons (len_cons (len_cons len_nil)))) (fun _ => rfl)))))).pt (sss_one (ss_ret se_bl)) sss_nil)
    (sss_one (ss_ret (se_cmp (op_eqI (ru4 hr)) (se_dn (dn_common B) takes_fn (hr.mono (by decide)) (by rfl) (sa_cons (se_callB call_absI (by rfl) B.b_abs (by rfl) (sa_cons (se_ix (se_var (i := 0) rfl (.inl rfl)) se_int (fun _ _ => rfl)) sa_nil)) (sa_cons (se_ix (se_var (i := 0) rfl (.inl rfl)) se_int (fun _ _ => rfl)) sa_nil)) (len_cons (len_cons len_nil))) se_int (nomark _)))))

theorem sc_lean : FnScope ["top", "below", "divisor"] ["top", "below"] (defScope s_lean) := ⟨rfl, rfl, rfl, by decide +kernel, rfl, by decide +kernel, by decide +kernel⟩
theorem dn_lean {P : Program} {w : World} {K : PySem.W.Frag} {mg : Str → Option Value} {base : Heap} {T : List (Addr × Str) × (Nat → Addr)} {co : Nat → Addr} (B : Hd P w K mg base T co) : Dn P w K mg base T 3 "lean" 2 d_lean :=
  dn_mk (k := 2) (r := r_lean) B.f_lean sc_lean rfl rfl (fun _ _ _ _ _ _ us hl => match us, hl with | [_, _], _ => rfl) fun f cdv A outer s H E Pr hr hT => by
    subst hT
    exact (sss_cons (ss_set (i := 2) sc_lean.nd rfl (.inl rfl) (se_dn (dn_common B) takes_fn (hr.mono (by decide)) (by rfl) (sa_cons (se_callB call_absI (by rfl) B.b_abs (by rfl) (sa_cons (se_var (i := 0) rfl (.inl rfl)) sa_nil)) (sa_cons (se_var (i := 1) rfl (.inl rfl)) sa_nil)) (len_cons (len_cons len_nil))))
    (sss_cons (ss_par (i := 0) (j := 1) rfl sc_lean.nd rfl rfl (by decide) rfl rfl (sa_cons (se_bin op_divI (se_var (i := 0) rfl (.inl rfl)) (se_var (i := 2) rfl (.inl rfl))) (sa_cons (se_bin op_divI (se_var (i := 1) rfl (.inl rfl)) (se_var (i := 2) rfl (.inl rfl))) sa_nil)) (by rfl))
    (sss_cons (ss_if (sw_or (sc_cmp op_gtI (se_callB call_absI (by rfl) B.b_abs (by rfl) (sa_cons (se_var (i := 0) rfl (.inl rfl)) sa_nil)) (se_gc B.c_MOST (by rfl)) (nomark _)) (sw_or1 (sc_cmp op_gtI (se_var (i := 1) rfl (.inl rfl)) (se_gc B.c_MOST (by rfl)) (nomark _)))).pt (sss_one (ss_rs B.x_TooGreat rfl takes_fn (hr.mono (by decide)) (by rfl) se_int)) sss_nil)
    (sss_one (ss_ret (se_tup (sa_cons (se_var (i := 0) rfl (.inl rfl)) (sa_cons (se_var (i := 1) rfl (.inl rfl)) sa_nil))))))))

theorem sc_plus : FnScope ["one", "other"] ["one", "other"] (defScope s_plus) := ⟨rfl, rfl, rfl, by decide +kernel, rfl, by decide +kernel, by decide +kernel⟩
theorem dn_plus {P : Program} {w : World} {K : PySem.W.Frag} {mg : Str → Option Value} {base : Heap} {T : List (Addr × Str) × (Nat → Addr)} {co : Nat → Addr} (B : Hd P w K mg base T co) : Dn P w K mg base T 4 "plus" 2 d_plus :=
  dn_mk (k := 3) (r := r_plus) B.f_plus sc_plus rfl rfl (fun _ _ _ _ _ _ us hl => match us, hl with | [_, _], _ => rfl) fun f cdv A outer s H E Pr hr hT => by
    subst hT
    exact (sss_one (ss_ret (se_dn (dn_lean B) takes_fn (hr.mono (by decide)) (by rfl) (sa_cons (se_bin op_addI (se_bin op_mulT (se_ix (se_var (i := 0) rfl (.inl rfl)) se_int (fun _ _ => rfl)) (se_ix (se_var (i := 1) rfl (.inl rfl)) se_int (fun _ _ => rfl))) (se_bin op_mulT (se_ix (se_var (i := 1) rfl (.inl rfl)) se_int (fun _ _ => rfl)) (se_ix (se_var (i := 0) rfl (.inl rfl)) se_int (fun _ _ => rfl)))) (sa_cons (se_bin op_mulT (se_ix (se_var (i := 0) rfl (.inl rfl)) se_int (fun _ _ => rfl)) (se_ix (se_var (i := 1) rfl (.inl rfl)) se_int (fun _ _ => rfl))) sa_nil)) (len_cons (len_cons len_nil)))))

theorem sc_times : FnScope ["one", "other"] ["one", "other"] (defScope s_times) := ⟨rfl, rfl, rfl, by decide +kernel, rfl, by decide +kernel, by decide +kernel⟩
theorem dn_times {P : Program} {w : World} {K : PySem.W.Frag} {mg : Str → Option Value} {base : Heap} {T : List (Addr × Str) × (Nat → Addr)} {co : Nat → Addr} (B : Hd P w K mg base T co) : Dn P w K mg base T 4 "times" 2 d_times :=
  dn_mk (k := 3) (r := r_times) B.f_times sc_times rfl rfl (fun _ _ _ _ _ _ us hl => match us, hl with | [_, _], _ => rfl) fun f cdv A outer s H E Pr hr hT => by
    subst hT
    exact (sss_one (ss_ret (se_dn (dn_lean B) takes_fn (hr.mono (by decide)) (by rfl) (sa_cons (se_bin op_mulT (se_ix (se_var (i := 0) rfl (.inl rfl)) se_int (fun _ _ => rfl)) (se_ix (se_var (i := 1) rfl (.inl rfl)) se_int (fun _ _ => rfl))) (sa_cons (se_bin op_mulT (se_ix (se_var (i := 0) rfl (.inl rfl)) se_int (fun _ _ => rfl)) (se_ix (se_var (i := 1) rfl (.inl rfl)) se_int (fun _ _ => rfl))) sa_nil)) (len_cons (len_cons len_nil)))))

theorem sc_trimmed : FnScope ["row", "many"] ["row"] (defScope s_trimmed) := ⟨rfl, rfl, rfl, by decide +kernel, rfl, by decide +kernel, by decide +kernel⟩
theorem dn_trimmed {P : Program} {w : World} {K : PySem.W.Frag} {mg : Str → Option Value} {base : Heap} {T : List (Addr × Str) × (Nat → Addr)} {co : Nat → Addr} (B : Hd P w K mg base T co) : Dn P w K mg base T 1 "trimmed" 1 d_trimmed :=
  dn_mk (k := 0) (r := r_trimmed) B.f_trimmed sc_trimmed rfl rfl (fun _ _ _ _ _ _ us hl => match us, hl with | [_], _ => rfl) fun f cdv A outer s H E Pr hr hT => by
    subst hT
    exact (sss_cons (ss_set (i := 1) sc_trimmed.nd rfl (.inl rfl) (se_callB call_lenI (by rfl) B.b_len (by rfl) (sa_cons (se_var (i := 0) rfl (.inl rfl)) sa_nil)))
    (sss_cons (ss_while passes_fn (sw_and (sc_cmp op_gtI (se_var (i := 1) rfl (.inl rfl)) se_int (nomark _)) (sw_and1 (sc_cmp (op_eqI (ru4 hr)) (se_ix (se_var (i := 0) rfl (.inl rfl)) (se_bin op_subI (se_var (i := 1) rfl (.inl rfl)) se_int) (fun _ _ => rfl)) (se_gc B.c_NONE (by rfl)) (nomark _)))).pt (sss_one (ss_aug (i := 1) sc_trimmed.nd rfl (.inl rfl) se_int ip_sub)))
    (sss_one (ss_ret (se_callTy call_tupleI (by rfl) B.b_tuple (by rfl) (sa_cons (se_slice (se_var (i := 0) rfl (.inl rfl)) sp_none (sp_some (se_var (i := 1) rfl (.inl rfl)))) sa_nil))))))

theorem sc_is_poly : FnScope ["thing", "one"] ["thing"] (defScope s_is_poly) := ⟨rfl, rfl, rfl, by decide +kernel, rfl, by decide +kernel, by decide +kernel⟩
theorem dn_is_poly {P : Program} {w : World} {K : PySem.W.Frag} {mg : Str → Option Value} {base : Heap} {T : List (Addr × Str) × (Nat → Addr)} {co : Nat → Addr} (B : Hd P w K mg base T co) : Dn P w K mg base T 4 "is_poly" 1 d_is_poly :=
  dn_mk (k := 3) (r := r_is_poly) B.f_is_poly sc_is_poly rfl rfl (fun _ _ _ _ _ _ us hl => match us, hl with | [_], _ => rfl) fun f cdv A outer s H E Pr hr hT => by
    subst hT
    exact (sss_cons (ss_if (sw_or (sc_not (sc_truth (se_isT (by decide) (by rfl) B.b_isinstance (by rfl) B.b_tuple (by rfl) (se_var (i := 0) rfl (.inl rfl))) (fun _ => rfl))) (sw_or (sc_cmp op_gtI (se_callB call_lenI (by rfl) B.b_len (by rfl) (sa_cons (se_var (i := 0) rfl (.inl rfl)) sa_nil)) (se_gc B.c_MOST_FACTORS (by rfl)) (nomark _)) (sw_or1 (sc_not (sc_truth (se_callB (call_allI rfl) (by rfl) B.b_all (by rfl) (sa_cons (se_lc (own := [("one", 1)]) (ct := (.one 1)) rfl sc_is_poly.nd (pi_seqI (se_var (i := 0) rfl (.inl rfl))) (blkOk_by (by rfl)) (by decide) (fun _ _ _ _ _ => (pg_name (i := 1) sc_is_poly.nd rfl (.inl rfl))) (fun _ _ _ _ _ => pts_yes) (fun _ _ _ _ _ => (se_dn (dn_is_fraction B) LamX.takes0 (hr.mono (by decide)) (by rfl) (sa_cons (se_var (i := 1) rfl (.inl rfl)) sa_nil) (len_cons len_nil)))) sa_nil)) (fun _ => rfl)))))).pt (sss_one (ss_ret se_bl)) sss_nil)
    (sss_one (ss_ret (se_or (se_cmp (op_eqI (ru4 hr)) (se_var (i := 0) rfl (.inl rfl)) (se_tup sa_nil) (nomark _)) (se_one (se_cmp (op_neI (ru4 hr)) (se_ix (se_var (i := 0) rfl (.inl rfl)) (se_un un_negI se_int) (fun _ _ => rfl)) (se_gc B.c_NONE (by rfl)) (nomark _)))))))

theorem sc_product_in : FnScope ["one", "other", "found", "at", "a", "place", "b"] ["one", "other"] (defScope s_product_in) := ⟨rfl, rfl, rfl, by decide +kernel, rfl, by decide +kernel, by decide +kernel⟩
theorem dn_product_in {P : Program} {w : World} {K : PySem.W.Frag} {mg : Str → Option Value} {base : Heap} {T : List (Addr × Str) × (Nat → Addr)} {co : Nat → Addr} (B : Hd P w K mg base T co) : Dn P w K mg base T 5 "product_in" 2 d_product_in :=
  dn_mk (k := 4) (r := r_product_in) B.f_product_in sc_product_in rfl rfl (fun _ _ _ _ _ _ us hl => match us, hl with | [_, _], _ => rfl) fun f cdv A outer s H E Pr hr hT => by
    subst hT
    exact (sss_cons (ss_if (sw_or (sc_cmp (op_eqI (ru4 hr)) (se_var (i := 0) rfl (.inl rfl)) (se_tup sa_nil) (nomark _)) (sw_or1 (sc_cmp (op_eqI (ru4 hr)) (se_var (i := 1) rfl (.inl rfl)) (se_tup sa_nil) (nomark _)))).pt (sss_one (ss_ret (se_tup sa_nil))) sss_nil)
    (sss_cons (ss_set (i := 2) sc_product_in.nd rfl (.inl rfl) (se_bin op_mulT (se_lst (sa_cons (se_gc B.c_NONE (by rfl)) sa_nil)) (se_bin op_subI (se_bin op_addI (se_callB call_lenI (by rfl) B.b_len (by rfl) (sa_cons (se_var (i := 0) rfl (.inl rfl)) sa_nil)) (se_callB call_lenI (by rfl) B.b_len (by rfl) (sa_cons (se_var (i := 1) rfl (.inl rfl)) sa_nil))) se_int)))
    (sss_cons (ss_for passes_fn rfl (pi_enumS (by rfl) B.b_enumerate (sa_cons (se_var (i := 0) rfl (.inl rfl)) sa_nil)) (sg_tup rfl (sgs_cons (sg_name (i := 3) sc_product_in.nd rfl (.inl rfl)) (sgs_cons (sg_name (i := 4) sc_product_in.nd rfl (.inl rfl)) sgs_nil))) (sss_one (ss_for passes_fn rfl (pi_enumS (by rfl) B.b_enumerate (sa_cons (se_var (i := 1) rfl (.inl rfl)) sa_nil)) (sg_tup rfl (sgs_cons (sg_name (i := 5) sc_product_in.nd rfl (.inl rfl)) (sgs_cons (sg_name (i := 6) sc_product_in.nd rfl (.inl rfl)) sgs_nil))) (sss_one (ss_asg (se_dn (dn_plus B) takes_fn (hr.mono (by decide)) (by rfl) (sa_cons (se_ix (se_var (i := 2) rfl (.inl rfl)) (se_bin op_addI (se_var (i := 3) rfl (.inl rfl)) (se_var (i := 5) rfl (.inl rfl))) (fun _ _ => rfl)) (sa_cons (se_dn (dn_times B) takes_fn (hr.mono (by decide)) (by rfl) (sa_cons (se_var (i := 4) rfl (.inl rfl)) (sa_cons (se_var (i := 6) rfl (.inl rfl)) sa_nil)) (len_cons (len_cons len_nil))) sa_nil)) (len_cons (len_cons len_nil))) (sg_sub (W := WF) (se_var (i := 2) rfl (.inl rfl)) (se_bin op_addI (se_var (i := 3) rfl (.inl rfl)) (se_var (i := 5) rfl (.inl rfl)))))))))
    (sss_one (ss_ret (se_dn (dn_trimmed B) takes_fn (hr.mono (by decide)) (by rfl) (sa_cons (se_var (i := 2) rfl (.inl rfl)) sa_nil) (len_cons len_nil)))))))

theorem sc_check_rate_row : FnScope ["row", "one"] ["row"] (defScope s_check_rate_row) := ⟨rfl, rfl, rfl, by decide +kernel, rfl, by decide +kernel, by decide +kernel⟩
theorem dn_check_rate_row {P : Program} {w : World} {K : PySem.W.Frag} {mg : Str → Option Value} {base : Heap} {T : List (Addr × Str) × (Nat → Addr)} {co : Nat → Addr} (B : Hd P w K mg base T co) : Dn P w K mg base T 4 "check_rate_row" 1 d_check_rate_row :=
  dn_mk (k := 3) (r := r_check_rate_row) B.f_check_rate_row sc_check_rate_row rfl rfl (fun _ _ _ _ _ _ us hl => match us, hl with | [_], _ => rfl) fun f cdv A outer s H E Pr hr hT => by
    subst hT
    exact (sss_one (ss_if (sw_or (sc_not (sc_truth (se_isT (by decide) (by rfl) B.b_isinstance (by rfl) B.b_tuple (by rfl) (se_var (i := 0) rfl (.inl rfl))) (fun _ => rfl))) (sw_or (sc_cmp op_gtI (se_callB call_lenI (by rfl) B.b_len (by rfl) (sa_cons (se_var (i := 0) rfl (.inl rfl)) sa_nil)) (se_gc B.c_MOST_ROW (by rfl)) (nomark _)) (sw_or1 (sc_not (sc_truth (se_callB (call_allI rfl) (by rfl) B.b_all (by rfl) (sa_cons (se_lc (own := [("one", 1)]) (ct := (.one 1)) rfl sc_check_rate_row.nd (pi_seqI (se_var (i := 0) rfl (.inl rfl))) (blkOk_by (by rfl)) (by decide) (fun _ _ _ _ _ => (pg_name (i := 1) sc_check_rate_row.nd rfl (.inl rfl))) (fun _ _ _ _ _ => pts_yes) (fun _ _ _ _ _ => (se_dn (dn_is_fraction B) LamX.takes0 (hr.mono (by decide)) (by rfl) (sa_cons (se_var (i := 1) rfl (.inl rfl)) sa_nil) (len_cons len_nil)))) sa_nil)) (fun _ => rfl)))))).pt (sss_one (ss_rs B.x_BadThing rfl takes_fn (hr.mono (by decide)) (by rfl) (se_var (i := 0) rfl (.inl rfl)))) sss_nil))

theorem sc_check_step : FnScope ["step"] ["step"] (defScope s_check_step) := ⟨rfl, rfl, rfl, by decide +kernel, rfl, by decide +kernel, by decide +kernel⟩
theorem dn_check_step {P : Program} {w : World} {K : PySem.W.Frag} {mg : Str → Option Value} {base : Heap} {T : List (Addr × Str) × (Nat → Addr)} {co : Nat → Addr} (B : Hd P w K mg base T co) : Dn P w K mg base T 3 "check_step" 1 d_check_step :=
  dn_mk (k := 2) (r := r_check_step) B.f_check_step sc_check_step rfl rfl (fun _ _ _ _ _ _ us hl => match us, hl with | [_], _ => rfl) fun f cdv A outer s H E Pr hr hT => by
    subst hT
    exact (sss_one (ss_if (sc_not (sc_truth (se_dn (dn_is_from B) takes_fn (hr.mono (by decide)) (by rfl) (sa_cons (se_var (i := 0) rfl (.inl rfl)) (sa_cons se_int (sa_cons se_int sa_nil))) (len_cons (len_cons (len_cons len_nil)))) (fun _ => rfl))) (sss_one (ss_rs B.x_BadThing rfl takes_fn (hr.mono (by decide)) (by rfl) (se_var (i := 0) rfl (.inl rfl)))) sss_nil))

theorem sc_check_filter : FnScope ["thing"] ["thing"] (defScope s_check_filter) := ⟨rfl, rfl, rfl, by decide +kernel, rfl, by decide +kernel, by decide +kernel⟩
theorem dn_check_filter {P : Program} {w : World} {K : PySem.W.Frag} {mg : Str → Option Value} {base : Heap} {T : List (Addr × Str) × (Nat → Addr)} {co : Nat → Addr} (B : Hd P w K mg base T co) : Dn P w K mg base T 5 "check_filter" 1 d_check_filter :=
  dn_mk (k := 4) (r := r_check_filter) B.f_check_filter sc_check_filter rfl rfl (fun _ _ _ _ _ _ us hl => match us, hl with | [_], _ => rfl) fun f cdv A outer s H E Pr hr hT => by
    subst hT
    exact (sss_one (ss_if (sc_not (sc_truth (se_dn (dn_is_poly B) takes_fn (hr.mono (by decide)) (by rfl) (sa_cons (se_var (i := 0) rfl (.inl rfl)) sa_nil) (len_cons len_nil)) (fun _ => rfl))) (sss_one (ss_rs B.x_BadThing rfl takes_fn (hr.mono (by decide)) (by rfl) (se_var (i := 0) rfl (.inl rfl)))) sss_nil))

theorem sc_every : FnScope ["row", "step"] ["row", "step"] (defScope s_every) := ⟨rfl, rfl, rfl, by decide +kernel, rfl, by decide +kernel, by decide +kernel⟩
theorem dn_every {P : Program} {w : World} {K : PySem.W.Frag} {mg : Str → Option Value} {base : Heap} {T : List (Addr × Str) × (Nat → Addr)} {co : Nat → Addr} (B : Hd P w K mg base T co) : Dn P w K mg base T 5 "every" 2 d_every :=
  dn_mk (k := 4) (r := r_every) B.f_every sc_every rfl rfl (fun _ _ _ _ _ _ us hl => match us, hl with | [_, _], _ => rfl) fun f cdv A outer s H E Pr hr hT => by
    subst hT
    exact (sss_cons (ss_expr (se_dn (dn_check_rate_row B) takes_fn (hr.mono (by decide)) (by rfl) (sa_cons (se_var (i := 0) rfl (.inl rfl)) sa_nil) (len_cons len_nil)))
    (sss_cons (ss_expr (se_dn (dn_check_step B) takes_fn (hr.mono (by decide)) (by rfl) (sa_cons (se_var (i := 1) rfl (.inl rfl)) sa_nil) (len_cons len_nil)))
    (sss_one (ss_ret (se_slice3 (se_var (i := 0) rfl (.inl rfl)) sp_none sp_none (se_var (i := 1) rfl (.inl rfl)))))))

theorem sc_between : FnScope ["row", "step", "found", "one"] ["row", "step"] (defScope s_between) := ⟨rfl, rfl, rfl, by decide +kernel, rfl, by decide +kernel, by decide +kernel⟩
theorem dn_between {P : Program} {w : World} {K : PySem.W.Frag} {mg : Str → Option Value} {base : Heap} {T : List (Addr × Str) × (Nat → Addr)} {co : Nat → Addr} (B : Hd P w K mg base T co) : Dn P w K mg base T 5 "between" 2 d_between :=
  dn_mk (k := 4) (r := r_between) B.f_between sc_between rfl rfl (fun _ _ _ _ _ _ us hl => match us, hl with | [_, _], _ => rfl) fun f cdv A outer s H E Pr hr hT => by
    subst hT
    exact (sss_cons (ss_expr (se_dn (dn_check_rate_row B) takes_fn (hr.mono (by decide)) (by rfl) (sa_cons (se_var (i := 0) rfl (.inl rfl)) sa_nil) (len_cons len_nil)))
    (sss_cons (ss_expr (se_dn (dn_check_step B) takes_fn (hr.mono (by decide)) (by rfl) (sa_cons (se_var (i := 1) rfl (.inl rfl)) sa_nil) (len_cons len_nil)))
    (sss_cons (ss_if (sc_cmp op_gtI (se_bin op_mulT (se_callB call_lenI (by rfl) B.b_len (by rfl) (sa_cons (se_var (i := 0) rfl (.inl rfl)) sa_nil)) (se_var (i := 1) rfl (.inl rfl))) (se_gc B.c_MOST_ROW (by rfl)) (nomark _)) (sss_one (ss_rs B.x_BadThing rfl takes_fn (hr.mono (by decide)) (by rfl) (se_var (i := 0) rfl (.inl rfl)))) sss_nil)
    (sss_cons (ss_set (i := 2) sc_between.nd rfl (.inl rfl) (se_lst sa_nil))
    (sss_cons (ss_for passes_fn rfl (pi_seqI (se_var (i := 0) rfl (.inl rfl))) (sg_name (i := 3) sc_between.nd rfl (.inl rfl)) (sss_one (ss_expr (se_methL PySem.F.plainAttrs_list PySem.F.slot_list_extend PySem.F.type_list_extend mt_extI (se_var (i := 2) rfl (.inl rfl)) (sa_cons (se_lst (sa_cons (se_var (i := 3) rfl (.inl rfl)) (sa_star (se_bin op_mulT (se_lst (sa_cons (se_gc B.c_NONE (by rfl)) sa_nil)) (se_bin op_subI (se_var (i := 1) rfl (.inl rfl)) se_int)) sa_nil))) sa_nil)))))
    (sss_one (ss_ret (se_callTy call_tupleI (by rfl) B.b_tuple (by rfl) (sa_cons (se_var (i := 2) rfl (.inl rfl)) sa_nil)))))))))

theorem sc_filtered : FnScope ["poly", "row", "found", "at", "value", "step"] ["poly", "row"] (defScope s_filtered) := ⟨rfl, rfl, rfl, by decide +kernel, rfl, by decide +kernel, by decide +kernel⟩
theorem dn_filtered {P : Program} {w : World} {K : PySem.W.Frag} {mg : Str → Option Value} {base : Heap} {T : List (Addr × Str) × (Nat → Addr)} {co : Nat → Addr} (B : Hd P w K mg base T co) : Dn P w K mg base T 6 "filtered" 2 d_filtered :=
  dn_mk (k := 5) (r := r_filtered) B.f_filtered sc_filtered rfl rfl (fun _ _ _ _ _ _ us hl => match us, hl with | [_, _], _ => rfl) fun f cdv A outer s H E Pr hr hT => by
    subst hT
    exact (sss_cons (ss_expr (se_dn (dn_check_filter B) takes_fn (hr.mono (by decide)) (by rfl) (sa_cons (se_var (i := 0) rfl (.inl rfl)) sa_nil) (len_cons len_nil)))
    (sss_cons (ss_expr (se_dn (dn_check_rate_row B) takes_fn (hr.mono (by decide)) (by rfl) (sa_cons (se_var (i := 1) rfl (.inl rfl)) sa_nil) (len_cons len_nil)))
    (sss_cons (ss_set (i := 2) sc_filtered.nd rfl (.inl rfl) (se_lst sa_nil))
    (sss_cons (ss_for passes_fn rfl (pi_rng1 (by rfl) B.b_range (sa_cons (se_callB call_lenI (by rfl) B.b_len (by rfl) (sa_cons (se_var (i := 1) rfl (.inl rfl)) sa_nil)) sa_nil)) (sg_name (i := 3) sc_filtered.nd rfl (.inl rfl)) (sss_cons (ss_set (i := 4) sc_filtered.nd rfl (.inl rfl) (se_gc B.c_NONE (by rfl)))
    (sss_cons (ss_for passes_fn rfl (pi_rng1 (by rfl) B.b_range (sa_cons (se_callB (call_minI rfl) (by rfl) B.b_min (by rfl) (sa_cons (se_lst (sa_cons (se_bin op_addI (se_var (i := 3) rfl (.inl rfl)) se_int) (sa_cons (se_callB call_lenI (by rfl) B.b_len (by rfl) (sa_cons (se_var (i := 0) rfl (.inl rfl)) sa_nil)) sa_nil))) sa_nil)) sa_nil)) (sg_name (i := 5) sc_filtered.nd rfl (.inl rfl)) (sss_one (ss_set (i := 4) sc_filtered.nd rfl (.inl rfl) (se_dn (dn_plus B) takes_fn (hr.mono (by decide)) (by rfl) (sa_cons (se_var (i := 4) rfl (.inl rfl)) (sa_cons (se_dn (dn_times B) takes_fn (hr.mono (by decide)) (by rfl) (sa_cons (se_ix (se_var (i := 0) rfl (.inl rfl)) (se_var (i := 5) rfl (.inl rfl)) (fun _ _ => rfl)) (sa_cons (se_ix (se_var (i := 1) rfl (.inl rfl)) (se_bin op_subI (se_var (i := 3) rfl (.inl rfl)) (se_var (i := 5) rfl (.inl rfl))) (fun _ _ => rfl)) sa_nil)) (len_cons (len_cons len_nil))) sa_nil)) (len_cons (len_cons len_nil))))))
    (sss_one (ss_expr (se_methL PySem.F.plainAttrs_list PySem.F.slot_list_append PySem.F.type_list_append mt_appI (se_var (i := 2) rfl (.inl rfl)) (sa_cons (se_var (i := 4) rfl (.inl rfl)) sa_nil)))))))
    (sss_one (ss_ret (se_callTy call_tupleI (by rfl) B.b_tuple (by rfl) (sa_cons (se_var (i := 2) rfl (.inl rfl)) sa_nil))))))))

theorem sc_held : FnScope ["row", "step", "late"] ["row", "step"] (defScope s_held) := ⟨rfl, rfl, rfl, by decide +kernel, rfl, by decide +kernel, by decide +kernel⟩
theorem dn_held {P : Program} {w : World} {K : PySem.W.Frag} {mg : Str → Option Value} {base : Heap} {T : List (Addr × Str) × (Nat → Addr)} {co : Nat → Addr} (B : Hd P w K mg base T co) : Dn P w K mg base T 7 "held" 2 d_held :=
  dn_mk (k := 6) (r := r_held) B.f_held sc_held rfl rfl (fun _ _ _ _ _ _ us hl => match us, hl with | [_, _], _ => rfl) fun f cdv A outer s H E Pr hr hT => by
    subst hT
    exact (sss_cons (ss_set (i := 2) sc_held.nd rfl (.inl rfl) (se_dn (dn_between B) takes_fn (hr.mono (by decide)) (by rfl) (sa_cons (se_var (i := 0) rfl (.inl rfl)) (sa_cons (se_var (i := 1) rfl (.inl rfl)) sa_nil)) (len_cons (len_cons len_nil))))
    (sss_one (ss_ret (se_dn (dn_filtered B) takes_fn (hr.mono (by decide)) (by rfl) (sa_cons (se_bin op_mulT (se_tup (sa_cons (se_tup (sa_cons se_int (sa_cons se_int sa_nil))) sa_nil)) (se_var (i := 1) rfl (.inl rfl))) (sa_cons (se_var (i := 2) rfl (.inl rfl)) sa_nil)) (len_cons (len_cons len_nil))))))

theorem sc_spread_filter : FnScope ["poly", "step", "found", "at", "one"] ["poly", "step"] (defScope s_spread_filter) := ⟨rfl, rfl, rfl, by decide +kernel, rfl, by decide +kernel, by decide +kernel⟩
theorem dn_spread_filter {P : Program} {w : World} {K : PySem.W.Frag} {mg : Str → Option Value} {base : Heap} {T : List (Addr × Str) × (Nat → Addr)} {co : Nat → Addr} (B : Hd P w K mg base T co) : Dn P w K mg base T 6 "spread_filter" 2 d_spread_filter :=
  dn_mk (k := 5) (r := r_spread_filter) B.f_spread_filter sc_spread_filter rfl rfl (fun _ _ _ _ _ _ us hl => match us, hl with | [_, _], _ => rfl) fun f cdv A outer s H E Pr hr hT => by
    subst hT
    exact (sss_cons (ss_expr (se_dn (dn_check_filter B) takes_fn (hr.mono (by decide)) (by rfl) (sa_cons (se_var (i := 0) rfl (.inl rfl)) sa_nil) (len_cons len_nil)))
    (sss_cons (ss_expr (se_dn (dn_check_step B) takes_fn (hr.mono (by decide)) (by rfl) (sa_cons (se_var (i := 1) rfl (.inl rfl)) sa_nil) (len_cons len_nil)))
    (sss_cons (ss_if (sc_cmp op_gtI (se_bin op_addI (se_bin op_mulT (se_bin op_subI (se_callB call_lenI (by rfl) B.b_len (by rfl) (sa_cons (se_var (i := 0) rfl (.inl rfl)) sa_nil)) se_int) (se_var (i := 1) rfl (.inl rfl))) se_int) se_int (nomark _)) (sss_one (ss_rs B.x_BadThing rfl takes_fn (hr.mono (by decide)) (by rfl) (se_var (i := 0) rfl (.inl rfl)))) sss_nil)
    (sss_cons (ss_set (i := 2) sc_spread_filter.nd rfl (.inl rfl) (se_lst sa_nil))
    (sss_cons (ss_for passes_fn rfl (pi_enumS (by rfl) B.b_enumerate (sa_cons (se_var (i := 0) rfl (.inl rfl)) sa_nil)) (sg_tup rfl (sgs_cons (sg_name (i := 3) sc_spread_filter.nd rfl (.inl rfl)) (sgs_cons (sg_name (i := 4) sc_spread_filter.nd rfl (.inl rfl)) sgs_nil))) (sss_one (ss_expr (se_methL PySem.F.plainAttrs_list PySem.F.slot_list_extend PySem.F.type_list_extend mt_extI (se_var (i := 2) rfl (.inl rfl)) (sa_cons (se_ifE (sc_cmp (op_eqI (ru4 hr)) (se_var (i := 3) rfl (.inl rfl)) (se_bin op_subI (se_callB call_lenI (by rfl) B.b_len (by rfl) (sa_cons (se_var (i := 0) rfl (.inl rfl)) sa_nil)) se_int) (nomark _)) (se_lst (sa_cons (se_var (i := 4) rfl (.inl rfl)) sa_nil)) (se_lst (sa_cons (se_var (i := 4) rfl (.inl rfl)) (sa_star (se_bin op_mulT (se_lst (sa_cons (se_gc B.c_NONE (by rfl)) sa_nil)) (se_bin op_subI (se_var (i := 1) rfl (.inl rfl)) se_int)) sa_nil)))) sa_nil)))))
    (sss_one (ss_ret (se_dn (dn_trimmed B) takes_fn (hr.mono (by decide)) (by rfl) (sa_cons (se_var (i := 2) rfl (.inl rfl)) sa_nil) (len_cons len_nil)))))))))

theorem sc_phases_of : FnScope ["poly", "step", "at"] ["poly", "step"] (defScope s_phases_of) := ⟨rfl, rfl, rfl, by decide +kernel, rfl, by decide +kernel, by decide +kernel⟩
theorem dn_phases_of {P : Program} {w : World} {K : PySem.W.Frag} {mg : Str → Option Value} {base : Heap} {T : List (Addr × Str) × (Nat → Addr)} {co : Nat → Addr} (B : Hd P w K mg base T co) : Dn P w K mg base T 6 "phases_of" 2 d_phases_of :=
  dn_mk (k := 5) (r := r_phases_of) B.f_phases_of sc_phases_of rfl rfl (fun _ _ _ _ _ _ us hl => match us, hl with | [_, _], _ => rfl) fun f cdv A outer s H E Pr hr hT => by
    subst hT
    exact (sss_cons (ss_expr (se_dn (dn_check_filter B) takes_fn (hr.mono (by decide)) (by rfl) (sa_cons (se_var (i := 0) rfl (.inr (.inl rfl))) sa_nil) (len_cons len_nil)))
    (sss_cons (ss_expr (se_dn (dn_check_step B) takes_fn (hr.mono (by decide)) (by rfl) (sa_cons (se_var (i := 1) rfl (.inr (.inl rfl))) sa_nil) (len_cons len_nil)))
    (sss_one (ss_ret (se_callTy call_tupleI (by rfl) B.b_tuple (by rfl) (sa_cons (se_lc (own := [("at", 2)]) (ct := (.one 2)) rfl sc_phases_of.nd (pi_rng1 (by rfl) B.b_range (sa_cons (se_var (i := 1) rfl (.inr (.inl rfl))) sa_nil)) (blkOk_by (by rfl)) (by decide) (fun _ _ _ _ _ => (pg_name (i := 2) sc_phases_of.nd rfl (.inl rfl))) (fun _ _ _ _ _ => pts_yes) (fun _ _ _ _ _ => (se_dn (dn_trimmed B) LamX.takes0 (hr.mono (by decide)) (by rfl) (sa_cons (se_slice3 (se_var (i := 0) rfl (.inr (.inl rfl))) (sp_some (se_var (i := 2) rfl (.inl rfl))) sp_none (se_var (i := 1) rfl (.inr (.inl rfl)))) sa_nil) (len_cons len_nil)))) sa_nil))))))

theorem sc_from_phases : FnScope ["phases", "many", "found", "one", "at", "phase"] ["phases"] (defScope s_from_phases) := ⟨rfl, rfl, rfl, by decide +kernel, rfl, by decide +kernel, by decide +kernel⟩
theorem dn_from_phases {P : Program} {w : World} {K : PySem.W.Frag} {mg : Str → Option Value} {base : Heap} {T : List (Addr × Str) × (Nat → Addr)} {co : Nat → Addr} (B : Hd P w K mg base T co) : Dn P w K mg base T 5 "from_phases" 1 d_from_phases :=
  dn_mk (k := 4) (r := r_from_phases) B.f_from_phases sc_from_phases rfl rfl (fun _ _ _ _ _ _ us hl => match us, hl with | [_], _ => rfl) fun f cdv A outer s H E Pr hr hT => by
    subst hT
    exact (sss_cons (ss_if (sw_or (sc_not (sc_truth (se_isT (by decide) (by rfl) B.b_isinstance (by rfl) B.b_tuple (by rfl) (se_var (i := 0) rfl (.inr (.inl rfl)))) (fun _ => rfl))) (sw_or (sc_not (sc_chain op_leI op_leI se_int (se_callB call_lenI (by rfl) B.b_len (by rfl) (sa_cons (se_var (i := 0) rfl (.inr (.inl rfl))) sa_nil)) se_int)) (sw_or1 (sc_not (sc_truth (se_callB (call_allI rfl) (by rfl) B.b_all (by rfl) (sa_cons (se_lc (own := [("one", 3)]) (ct := (.one 3)) rfl sc_from_phases.nd (pi_seqI (se_var (i := 0) rfl (.inr (.inl rfl)))) (blkOk_by (by rfl)) (by decide) (fun _ _ _ _ _ => (pg_name (i := 3) sc_from_phases.nd rfl (.inl rfl))) (fun _ _ _ _ _ => pts_yes) (fun _ _ _ _ _ => (se_dn (dn_is_poly B) LamX.takes0 (hr.mono (by decide)) (by rfl) (sa_cons (se_var (i := 3) rfl (.inl rfl)) sa_nil) (len_cons len_nil)))) sa_nil)) (fun _ => rfl)))))).pt (sss_one (ss_rs B.x_BadThing rfl takes_fn (hr.mono (by decide)) (by rfl) (se_var (i := 0) rfl (.inr (.inl rfl))))) sss_nil)
    (sss_cons (ss_set (i := 1) sc_from_phases.nd rfl (.inl rfl) (se_callB (call_maxI rfl) (by rfl) B.b_max (by rfl) (sa_cons (se_lc (own := [("one", 3)]) (ct := (.one 3)) rfl sc_from_phases.nd (pi_seqI (se_var (i := 0) rfl (.inr (.inl rfl)))) (blkOk_by (by rfl)) (by decide) (fun _ _ _ _ _ => (pg_name (i := 3) sc_from_phases.nd rfl (.inl rfl))) (fun _ _ _ _ _ => pts_yes) (fun _ _ _ _ _ => (se_callB call_lenI (by rfl) B.b_len (by rfl) (sa_cons (se_var (i := 3) rfl (.inl rfl)) sa_nil)))) sa_nil)))
    (sss_cons (ss_if (sc_cmp op_gtI (se_bin op_mulT (se_var (i := 1) rfl (.inl rfl)) (se_callB call_lenI (by rfl) B.b_len (by rfl) (sa_cons (se_var (i := 0) rfl (.inr (.inl rfl))) sa_nil))) (se_bin op_addI se_int (se_callB call_lenI (by rfl) B.b_len (by rfl) (sa_cons (se_var (i := 0) rfl (.inr (.inl rfl))) sa_nil))) (nomark _)) (sss_one (ss_rs B.x_BadThing rfl takes_fn (hr.mono (by decide)) (by rfl) (se_var (i := 0) rfl (.inr (.inl rfl))))) sss_nil)
    (sss_cons (ss_set (i := 2) sc_from_phases.nd rfl (.inl rfl) (se_dn (dn_trimmed B) takes_fn (hr.mono (by decide)) (by rfl) (sa_cons (se_lc2 (own := [("at", 4), ("phase", 5)]) (ct := (.one 4)) (ct1 := (.one 5)) (vs1 := [5]) rfl sc_from_phases.nd (pi_rng1 (by rfl) B.b_range (sa_cons (se_var (i := 1) rfl (.inl rfl)) sa_nil)) (blkOk_by (by rfl)) (by decide) (by decide) (by decide) (fun _ _ _ _ _ => (pg_name (i := 4) sc_from_phases.nd rfl (.inl rfl))) (fun _ _ _ _ _ => (se_var (i := 0) rfl (.inr (.inl rfl)))) (fun _ _ _ _ _ => (pg_name (i := 5) sc_from_phases.nd rfl (.inl rfl))) (fun _ _ _ _ _ => pts_yes) (fun _ _ _ _ _ => (se_ifE (sc_cmp op_ltI (se_var (i := 4) rfl (.inl rfl)) (se_callB call_lenI (by rfl) B.b_len (by rfl) (sa_cons (se_var (i := 5) rfl (.inl rfl)) sa_nil)) (nomark _)) (se_ix (se_var (i := 5) rfl (.inl rfl)) (se_var (i := 4) rfl (.inl rfl)) (fun _ _ => rfl)) (se_gc B.c_NONE (by rfl))))) sa_nil) (len_cons len_nil)))
    (sss_cons (ss_if (sc_cmp op_gtI (se_callB call_lenI (by rfl) B.b_len (by rfl) (sa_cons (se_var (i := 2) rfl (.inl rfl)) sa_nil)) se_int (nomark _)) (sss_one (ss_rs B.x_BadThing rfl takes_fn (hr.mono (by decide)) (by rfl) (se_var (i := 0) rfl (.inr (.inl rfl))))) sss_nil)
    (sss_one (ss_ret (se_var (i := 2) rfl (.inl rfl)))))))))

theorem sc_filtered_every : FnScope ["poly", "row", "step", "found", "at", "phase", "heard", "one", "other"] ["poly", "row", "step"] (defScope s_filtered_every) := ⟨rfl, rfl, rfl, by decide +kernel, rfl, by decide +kernel, by decide +kernel⟩
theorem dn_filtered_every {P : Program} {w : World} {K : PySem.W.Frag} {mg : Str → Option Value} {base : Heap} {T : List (Addr × Str) × (Nat → Addr)} {co : Nat → Addr} (B : Hd P w K mg base T co) : Dn P w K mg base T 7 "filtered_every" 3 d_filtered_every :=
  dn_mk (k := 6) (r := r_filtered_every) B.f_filtered_every sc_filtered_every rfl rfl (fun _ _ _ _ _ _ us hl => match us, hl with | [_, _, _], _ => rfl) fun f cdv A outer s H E Pr hr hT => by
    subst hT
    exact (sss_cons (ss_expr (se_dn (dn_check_filter B) takes_fn (hr.mono (by decide)) (by rfl) (sa_cons (se_var (i := 0) rfl (.inl rfl)) sa_nil) (len_cons len_nil)))
    (sss_cons (ss_expr (se_dn (dn_check_rate_row B) takes_fn (hr.mono (by decide)) (by rfl) (sa_cons (se_var (i := 1) rfl (.inl rfl)) sa_nil) (len_cons len_nil)))
    (sss_cons (ss_expr (se_dn (dn_check_step B) takes_fn (hr.mono (by decide)) (by rfl) (sa_cons (se_var (i := 2) rfl (.inl rfl)) sa_nil) (len_cons len_nil)))
    (sss_cons (ss_set (i := 3) sc_filtered_every.nd rfl (.inl rfl) (se_bin op_mulT (se_lst (sa_cons (se_gc B.c_NONE (by rfl)) sa_nil)) (se_callB call_lenI (by rfl) B.b_len (by rfl) (sa_cons (se_slice3 (se_var (i := 1) rfl (.inl rfl)) sp_none sp_none (se_var (i := 2) rfl (.inl rfl))) sa_nil))))
    (sss_cons (ss_for passes_fn rfl (pi_enumS (by rfl) B.b_enumerate (sa_cons (se_dn (dn_phases_of B) takes_fn (hr.mono (by decide)) (by rfl) (sa_cons (se_var (i := 0) rfl (.inl rfl)) (sa_cons (se_var (i := 2) rfl (.inl rfl)) sa_nil)) (len_cons (len_cons len_nil))) sa_nil)) (sg_tup rfl (sgs_cons (sg_name (i := 4) sc_filtered_every.nd rfl (.inl rfl)) (sgs_cons (sg_name (i := 5) sc_filtered_every.nd rfl (.inl rfl)) sgs_nil))) (sss_cons (ss_set (i := 6) sc_filtered_every.nd rfl (.inl rfl) (se_slice (se_slice3 (se_bin op_addI (se_bin op_mulT (se_tup (sa_cons (se_gc B.c_NONE (by rfl)) sa_nil)) (se_var (i := 4) rfl (.inl rfl))) (se_var (i := 1) rfl (.inl rfl))) sp_none sp_none (se_var (i := 2) rfl (.inl rfl))) sp_none (sp_some (se_callB call_lenI (by rfl) B.b_len (by rfl) (sa_cons (se_var (i := 3) rfl (.inl rfl)) sa_nil)))))
    (sss_one (ss_setLc (own := [("one", 7), ("other", 8)]) (ct := (.tup [7, 8])) (i := 3) rfl sc_filtered_every.nd rfl rfl (sw_true rfl rfl rfl (by decide +kernel)) (pi_zip2S (by rfl) B.b_zip (sa_cons (se_var (i := 3) rfl (.inl rfl)) (sa_cons (se_dn (dn_filtered B) takes_fn (hr.mono (by decide)) (by rfl) (sa_cons (se_var (i := 5) rfl (.inl rfl)) (sa_cons (se_var (i := 6) rfl (.inl rfl)) sa_nil)) (len_cons (len_cons len_nil))) sa_nil))) (blkOk_by (by rfl)) (by decide) (fun _ _ _ _ _ => (pg_ct rfl (pgs_ctc (pg_name (i := 7) sc_filtered_every.nd rfl (.inl rfl)) (pgs_ctc (pg_name (i := 8) sc_filtered_every.nd rfl (.inl rfl)) pgs_ctn)))) (fun _ _ _ _ _ => pts_yes) (fun _ _ _ _ _ => (se_dn (dn_plus B) LamX.takes0 (hr.mono (by decide)) (by rfl) (sa_cons (se_var (i := 7) rfl (.inl rfl)) (sa_cons (se_var (i := 8) rfl (.inl rfl)) sa_nil)) (len_cons (len_cons len_nil))))))))
    (sss_one (ss_ret (se_callTy call_tupleI (by rfl) B.b_tuple (by rfl) (sa_cons (se_var (i := 3) rfl (.inl rfl)) sa_nil)))))))))

theorem sc_products_needed : FnScope ["poly", "many", "step", "factors", "plain", "at", "one", "place"] ["poly", "many", "step"] (defScope s_products_needed) := ⟨rfl, rfl, rfl, by decide +kernel, rfl, by decide +kernel, by decide +kernel⟩
theorem dn_products_needed {P : Program} {w : World} {K : PySem.W.Frag} {mg : Str → Option Value} {base : Heap} {T : List (Addr × Str) × (Nat → Addr)} {co : Nat → Addr} (B : Hd P w K mg base T co) : Dn P w K mg base T 6 "products_needed" 3 d_products_needed :=
  dn_mk (k := 5) (r := r_products_needed) B.f_products_needed sc_products_needed rfl rfl (fun _ _ _ _ _ _ us hl => match us, hl with | [_, _, _], _ => rfl) fun f cdv A outer s H E Pr hr hT => by
    subst hT
    exact (sss_cons (ss_expr (se_dn (dn_check_filter B) takes_fn (hr.mono (by decide)) (by rfl) (sa_cons (se_var (i := 0) rfl (.inl rfl)) sa_nil) (len_cons len_nil)))
    (sss_cons (ss_if (sc_not (sc_truth (se_dn (dn_is_from B) takes_fn (hr.mono (by decide)) (by rfl) (sa_cons (se_var (i := 1) rfl (.inl rfl)) (sa_cons se_int (sa_cons (se_gc B.c_MOST_ROW (by rfl)) sa_nil))) (len_cons (len_cons (len_cons len_nil)))) (fun _ => rfl))) (sss_one (ss_rs B.x_BadThing rfl takes_fn (hr.mono (by decide)) (by rfl) (se_var (i := 1) rfl (.inl rfl)))) sss_nil)
    (sss_cons (ss_expr (se_dn (dn_check_step B) takes_fn (hr.mono (by decide)) (by rfl) (sa_cons (se_var (i := 2) rfl (.inl rfl)) sa_nil) (len_cons len_nil)))
    (sss_cons (ss_set (i := 3) sc_products_needed.nd rfl (.inr rfl) (se_lc (own := [("at", 5), ("one", 6)]) (ct := (.tup [5, 6])) rfl sc_products_needed.nd (pi_enumS (by rfl) B.b_enumerate (sa_cons (se_var (i := 0) rfl (.inl rfl)) sa_nil)) (blkOk_by (by rfl)) (by decide) (fun _ _ _ _ _ => (pg_ct rfl (pgs_ctc (pg_name (i := 5) sc_products_needed.nd rfl (.inl rfl)) (pgs_ctc (pg_name (i := 6) sc_products_needed.nd rfl (.inl rfl)) pgs_ctn)))) (fun _ _ _ _ _ => (pts_one (sc_cmp (op_neI (ru4 hr)) (se_var (i := 6) rfl (.inl rfl)) (se_gc B.c_NONE (by rfl)) (nomark _)))) (fun _ _ _ _ _ => (se_var (i := 5) rfl (.inl rfl)))) (sw_cell rfl))
    (sss_cons (ss_set (i := 4) sc_products_needed.nd rfl (.inl rfl) (se_callB (call_sumT rfl) (by rfl) B.b_sum (by rfl) (sa_cons (se_lc (own := [("place", 7)]) (ct := (.one 7)) rfl sc_products_needed.nd (pi_rng1 (by rfl) B.b_range (sa_cons (se_var (i := 1) rfl (.inl rfl)) sa_nil)) (blkOk_by (by rfl)) (by decide) (fun _ _ _ _ _ => (pg_name (i := 7) sc_products_needed.nd rfl (.inr rfl))) (fun _ _ _ _ _ => pts_yes) (fun _ _ _ _ _ => (se_callB call_lenI (by rfl) B.b_len (by rfl) (sa_cons (se_lc (own := [("at", 5)]) (ct := (.one 5)) rfl sc_products_needed.nd (pi_seqI (se_var (i := 3) rfl (.inr (.inl rfl)))) (blkOk_by (by rfl)) (by decide) (fun _ _ _ _ _ => (pg_name (i := 5) sc_products_needed.nd rfl (.inl rfl))) (fun _ _ _ _ _ => (pts_one (sc_cmp op_leI (se_var (i := 5) rfl (.inl rfl)) (se_var (i := 7) rfl (.inr (.inl rfl))) (nomark _)))) (fun _ _ _ _ _ => (se_var (i := 5) rfl (.inl rfl)))) sa_nil)))) sa_nil)))
    (sss_one (ss_ret (se_tup (sa_cons (se_var (i := 4) rfl (.inl rfl)) (sa_cons (se_callB (call_sumT rfl) (by rfl) B.b_sum (by rfl) (sa_cons (se_lc (own := [("place", 7)]) (ct := (.one 7)) rfl sc_products_needed.nd (pi_rng3 (by rfl) B.b_range (sa_cons se_int (sa_cons (se_var (i := 1) rfl (.inl rfl)) (sa_cons (se_var (i := 2) rfl (.inl rfl)) sa_nil)))) (blkOk_by (by rfl)) (by decide) (fun _ _ _ _ _ => (pg_name (i := 7) sc_products_needed.nd rfl (.inr rfl))) (fun _ _ _ _ _ => pts_yes) (fun _ _ _ _ _ => (se_callB call_lenI (by rfl) B.b_len (by rfl) (sa_cons (se_lc (own := [("at", 5)]) (ct := (.one 5)) rfl sc_products_needed.nd (pi_seqI (se_var (i := 3) rfl (.inr (.inl rfl)))) (blkOk_by (by rfl)) (by decide) (fun _ _ _ _ _ => (pg_name (i := 5) sc_products_needed.nd rfl (.inl rfl))) (fun _ _ _ _ _ => (pts_one (sc_cmp op_leI (se_var (i := 5) rfl (.inl rfl)) (se_var (i := 7) rfl (.inr (.inl rfl))) (nomark _)))) (fun _ _ _ _ _ => (se_var (i := 5) rfl (.inl rfl)))) sa_nil)))) sa_nil)) sa_nil))))))))))

theorem sc_can_go_first : FnScope ["poly", "step"] ["poly", "step"] (defScope s_can_go_first) := ⟨rfl, rfl, rfl, by decide +kernel, rfl, by decide +kernel, by decide +kernel⟩
theorem dn_can_go_first {P : Program} {w : World} {K : PySem.W.Frag} {mg : Str → Option Value} {base : Heap} {T : List (Addr × Str) × (Nat → Addr)} {co : Nat → Addr} (B : Hd P w K mg base T co) : Dn P w K mg base T 7 "can_go_first" 2 d_can_go_first :=
  dn_mk (k := 6) (r := r_can_go_first) B.f_can_go_first sc_can_go_first rfl rfl (fun _ _ _ _ _ _ us hl => match us, hl with | [_, _], _ => rfl) fun f cdv A outer s H E Pr hr hT => by
    subst hT
    exact (sss_cons (ss_expr (se_dn (dn_check_filter B) takes_fn (hr.mono (by decide)) (by rfl) (sa_cons (se_var (i := 0) rfl (.inl rfl)) sa_nil) (len_cons len_nil)))
    (sss_cons (ss_expr (se_dn (dn_check_step B) takes_fn (hr.mono (by decide)) (by rfl) (sa_cons (se_var (i := 1) rfl (.inl rfl)) sa_nil) (len_cons len_nil)))
    (sss_one (ss_ret (se_ifE (sc_cmp op_leI (se_bin op_addI (se_bin op_mulT (se_bin op_subI (se_callB call_lenI (by rfl) B.b_len (by rfl) (sa_cons (se_var (i := 0) rfl (.inl rfl)) sa_nil)) se_int) (se_var (i := 1) rfl (.inl rfl))) se_int) se_int (nomark _)) (se_dn (dn_spread_filter B) takes_fn (hr.mono (by decide)) (by rfl) (sa_cons (se_var (i := 0) rfl (.inl rfl)) (sa_cons (se_var (i := 1) rfl (.inl rfl)) sa_nil)) (len_cons (len_cons len_nil))) se_non)))))

theorem sc_can_go_behind : FnScope ["poly", "step", "phases", "phase"] ["poly", "step"] (defScope s_can_go_behind) := ⟨rfl, rfl, rfl, by decide +kernel, rfl, by decide +kernel, by decide +kernel⟩
theorem dn_can_go_behind {P : Program} {w : World} {K : PySem.W.Frag} {mg : Str → Option Value} {base : Heap} {T : List (Addr × Str) × (Nat → Addr)} {co : Nat → Addr} (B : Hd P w K mg base T co) : Dn P w K mg base T 7 "can_go_behind" 2 d_can_go_behind :=
  dn_mk (k := 6) (r := r_can_go_behind) B.f_can_go_behind sc_can_go_behind rfl rfl (fun _ _ _ _ _ _ us hl => match us, hl with | [_, _], _ => rfl) fun f cdv A outer s H E Pr hr hT => by
    subst hT
    exact (sss_cons (ss_set (i := 2) sc_can_go_behind.nd rfl (.inl rfl) (se_dn (dn_phases_of B) takes_fn (hr.mono (by decide)) (by rfl) (sa_cons (se_var (i := 0) rfl (.inl rfl)) (sa_cons (se_var (i := 1) rfl (.inl rfl)) sa_nil)) (len_cons (len_cons len_nil))))
    (sss_one (ss_ret (se_ifE (sc_truth (se_callB (call_allI rfl) (by rfl) B.b_all (by rfl) (sa_cons (se_lc (own := [("phase", 3)]) (ct := (.one 3)) rfl sc_can_go_behind.nd (pi_seqI (se_slice (se_var (i := 2) rfl (.inl rfl)) (sp_some se_int) sp_none)) (blkOk_by (by rfl)) (by decide) (fun _ _ _ _ _ => (pg_name (i := 3) sc_can_go_behind.nd rfl (.inl rfl))) (fun _ _ _ _ _ => pts_yes) (fun _ _ _ _ _ => (se_cmp (op_eqI (ru4 hr)) (se_var (i := 3) rfl (.inl rfl)) (se_tup sa_nil) (nomark _)))) sa_nil)) (fun _ => rfl)) (se_ix (se_var (i := 2) rfl (.inl rfl)) se_int (fun _ _ => rfl)) se_non))))

theorem sc_in_one : FnScope ["poly", "other", "found"] ["poly", "other"] (defScope s_in_one) := ⟨rfl, rfl, rfl, by decide +kernel, rfl, by decide +kernel, by decide +kernel⟩
theorem dn_in_one {P : Program} {w : World} {K : PySem.W.Frag} {mg : Str → Option Value} {base : Heap} {T : List (Addr × Str) × (Nat → Addr)} {co : Nat → Addr} (B : Hd P w K mg base T co) : Dn P w K mg base T 6 "in_one" 2 d_in_one :=
  dn_mk (k := 5) (r := r_in_one) B.f_in_one sc_in_one rfl rfl (fun _ _ _ _ _ _ us hl => match us, hl with | [_, _], _ => rfl) fun f cdv A outer s H E Pr hr hT => by
    subst hT
    exact (sss_cons (ss_expr (se_dn (dn_check_filter B) takes_fn (hr.mono (by decide)) (by rfl) (sa_cons (se_var (i := 0) rfl (.inl rfl)) sa_nil) (len_cons len_nil)))
    (sss_cons (ss_expr (se_dn (dn_check_filter B) takes_fn (hr.mono (by decide)) (by rfl) (sa_cons (se_var (i := 1) rfl (.inl rfl)) sa_nil) (len_cons len_nil)))
    (sss_cons (ss_set (i := 2) sc_in_one.nd rfl (.inl rfl) (se_dn (dn_product_in B) takes_fn (hr.mono (by decide)) (by rfl) (sa_cons (se_var (i := 0) rfl (.inl rfl)) (sa_cons (se_var (i := 1) rfl (.inl rfl)) sa_nil)) (len_cons (len_cons len_nil))))
    (sss_cons (ss_if (sc_cmp op_gtI (se_callB call_lenI (by rfl) B.b_len (by rfl) (sa_cons (se_var (i := 2) rfl (.inl rfl)) sa_nil)) se_int (nomark _)) (sss_one (ss_rs B.x_BadThing rfl takes_fn (hr.mono (by decide)) (by rfl) (se_var (i := 1) rfl (.inl rfl)))) sss_nil)
    (sss_one (ss_ret (se_var (i := 2) rfl (.inl rfl))))))))

theorem sc__law_cell_at : FnScope ["script", "k"] ["script", "k"] (defScope s__law_cell_at) := ⟨rfl, rfl, rfl, by decide +kernel, rfl, by decide +kernel, by decide +kernel⟩
theorem dn__law_cell_at {P : Program} {w : World} {K : PySem.W.Frag} {mg : Str → Option Value} {base : Heap} {T : List (Addr × Str) × (Nat → Addr)} {co : Nat → Addr} (B : Hd P w K mg base T co) : Dn P w K mg base T 1 "_law_cell_at" 2 d__law_cell_at :=
  dn_mk (k := 0) (r := r__law_cell_at) B.f__law_cell_at sc__law_cell_at rfl rfl (fun _ _ _ _ _ _ us hl => match us, hl with | [_, _], _ => rfl) fun f cdv A outer s H E Pr hr hT => by
    subst hT
    exact (sss_cons (ss_if (sc_cmp op_ltI (se_var (i := 1) rfl (.inl rfl)) (se_callB call_lenI (by rfl) B.b_len (by rfl) (sa_cons (se_var (i := 0) rfl (.inl rfl)) sa_nil)) (nomark _)) (sss_one (ss_ret (se_ix (se_var (i := 0) rfl (.inl rfl)) (se_var (i := 1) rfl (.inl rfl)) (fun _ _ => rfl)))) sss_nil)
    (sss_one (ss_ret se_int)))

theorem sc__law_draw : FnScope ["cell", "k", "bound", "primes"] ["cell", "k", "bound"] (defScope s__law_draw) := ⟨rfl, rfl, rfl, by decide +kernel, rfl, by decide +kernel, by decide +kernel⟩
theorem dn__law_draw {P : Program} {w : World} {K : PySem.W.Frag} {mg : Str → Option Value} {base : Heap} {T : List (Addr × Str) × (Nat → Addr)} {co : Nat → Addr} (B : Hd P w K mg base T co) : Dn P w K mg base T 1 "_law_draw" 3 d__law_draw :=
  dn_mk (k := 0) (r := r__law_draw) B.f__law_draw sc__law_draw rfl rfl (fun _ _ _ _ _ _ us hl => match us, hl with | [_, _, _], _ => rfl) fun f cdv A outer s H E Pr hr hT => by
    subst hT
    exact (sss_cons (ss_set (i := 3) sc__law_draw.nd rfl (.inl rfl) (se_tup (sa_cons se_int (sa_cons se_int (sa_cons se_int (sa_cons se_int (sa_cons se_int (sa_cons se_int (sa_cons se_int (sa_cons se_int (sa_cons se_int (sa_cons se_int (sa_cons se_int (sa_cons se_int (sa_cons se_int (sa_cons se_int (sa_cons se_int (sa_cons se_int sa_nil))))))))))))))))))
    (sss_one (ss_ret (se_bin op_modI (se_bin op_modI (se_callTy call_intI (by rfl) B.b_int (by rfl) (sa_cons (se_bin op_addI (se_bin op_mulT (se_var (i := 0) rfl (.inl rfl)) se_int) (se_bin op_mulT (se_var (i := 1) rfl (.inl rfl)) se_int)) sa_nil)) (se_ix (se_var (i := 3) rfl (.inl rfl)) (se_bin op_modI (se_callTy call_intI (by rfl) B.b_int (by rfl) (sa_cons (se_var (i := 1) rfl (.inl rfl)) sa_nil)) se_int) (fun _ _ => rfl))) (se_var (i := 2) rfl (.inl rfl))))))

theorem sc__law_number : FnScope ["cell", "k", "bound", "scale", "lap", "remains", "small"] ["cell", "k", "bound"] (defScope s__law_number) := ⟨rfl, rfl, rfl, by decide +kernel, rfl, by decide +kernel, by decide +kernel⟩
theorem dn__law_number {P : Program} {w : World} {K : PySem.W.Frag} {mg : Str → Option Value} {base : Heap} {T : List (Addr × Str) × (Nat → Addr)} {co : Nat → Addr} (B : Hd P w K mg base T co) : Dn P w K mg base T 2 "_law_number" 3 d__law_number :=
  dn_mk (k := 1) (r := r__law_number) B.f__law_number sc__law_number rfl rfl (fun _ _ _ _ _ _ us hl => match us, hl with | [_, _, _], _ => rfl) fun f cdv A outer s H E Pr hr hT => by
    subst hT
    exact (sss_cons (ss_set (i := 3) sc__law_number.nd rfl (.inl rfl) se_int)
    (sss_cons (ss_for passes_fn rfl (pi_rng1 (by rfl) B.b_range (sa_cons (se_bin op_modI (se_callTy call_intI (by rfl) B.b_int (by rfl) (sa_cons (se_var (i := 1) rfl (.inl rfl)) sa_nil)) se_int) sa_nil)) (sg_name (i := 4) sc__law_number.nd rfl (.inl rfl)) (sss_one (ss_set (i := 3) sc__law_number.nd rfl (.inl rfl) (se_bin op_mulT (se_var (i := 3) rfl (.inl rfl)) se_int))))
    (sss_cons (ss_set (i := 5) sc__law_number.nd rfl (.inl rfl) (se_bin op_divI (se_bin op_subI (se_var (i := 0) rfl (.inl rfl)) (se_bin op_powI se_int se_int)) (se_var (i := 3) rfl (.inl rfl))))
    (sss_cons (ss_if (sc_cmp op_gtI (se_var (i := 5) rfl (.inl rfl)) se_int (nomark _)) (sss_one (ss_ret (se_bin op_modI (se_bin op_modI (se_callTy call_intI (by rfl) B.b_int (by rfl) (sa_cons (se_var (i := 5) rfl (.inl rfl)) sa_nil)) se_int) (se_var (i := 2) rfl (.inl rfl))))) sss_nil)
    (sss_cons (ss_set (i := 6) sc__law_number.nd rfl (.inl rfl) (se_bin op_modI (se_callTy call_intI (by rfl) B.b_int (by rfl) (sa_cons (se_var (i := 0) rfl (.inl rfl)) sa_nil)) se_int))
    (sss_one (ss_ret (se_bin op_modI (se_dn (dn__law_draw B) takes_fn (hr.mono (by decide)) (by rfl) (sa_cons (se_bin op_mulT (se_bin op_addI (se_var (i := 6) rfl (.inl rfl)) (se_bin op_mulT se_int (se_var (i := 1) rfl (.inl rfl)))) (se_bin op_addI (se_bin op_addI (se_var (i := 6) rfl (.inl rfl)) (se_bin op_mulT se_int (se_var (i := 1) rfl (.inl rfl)))) se_int)) (sa_cons (se_bin op_addI (se_bin op_modI (se_callTy call_intI (by rfl) B.b_int (by rfl) (sa_cons (se_var (i := 1) rfl (.inl rfl)) sa_nil)) se_int) se_int) (sa_cons se_int sa_nil))) (len_cons (len_cons (len_cons len_nil)))) (se_var (i := 2) rfl (.inl rfl))))))))))

theorem sc__law_next : FnScope ["draw", "bound", "at", "cell"] ["draw", "bound"] (defScope s__law_next) := ⟨rfl, rfl, rfl, by decide +kernel, rfl, by decide +kernel, by decide +kernel⟩
theorem dn__law_next {P : Program} {w : World} {K : PySem.W.Frag} {mg : Str → Option Value} {base : Heap} {T : List (Addr × Str) × (Nat → Addr)} {co : Nat → Addr} (B : Hd P w K mg base T co) : Dn P w K mg base T 3 "_law_next" 2 d__law_next :=
  dn_mk (k := 2) (r := r__law_next) B.f__law_next sc__law_next rfl rfl (fun _ _ _ _ _ _ us hl => match us, hl with | [_, _], _ => rfl) fun f cdv A outer s H E Pr hr hT => by
    subst hT
    exact (sss_cons (ss_asg (se_bin op_addI (se_ix (se_var (i := 0) rfl (.inl rfl)) se_int (fun _ _ => rfl)) se_int) (sg_sub (W := WF) (se_var (i := 0) rfl (.inl rfl)) se_int))
    (sss_cons (ss_set (i := 2) sc__law_next.nd rfl (.inl rfl) (se_bin op_divI (se_ix (se_var (i := 0) rfl (.inl rfl)) se_int (fun _ _ => rfl)) se_int))
    (sss_cons (ss_set (i := 3) sc__law_next.nd rfl (.inl rfl) (se_bin op_addI (se_dn (dn__law_cell_at B) takes_fn (hr.mono (by decide)) (by rfl) (sa_cons (se_ix (se_var (i := 0) rfl (.inl rfl)) se_int (fun _ _ => rfl)) (sa_cons (se_bin op_addI (se_ix (se_var (i := 0) rfl (.inl rfl)) se_int (fun _ _ => rfl)) (se_var (i := 2) rfl (.inl rfl))) sa_nil)) (len_cons (len_cons len_nil))) (se_bin op_mulT se_int (se_var (i := 2) rfl (.inl rfl)))))
    (sss_one (ss_ret (se_dn (dn__law_number B) takes_fn (hr.mono (by decide)) (by rfl) (sa_cons (se_var (i := 3) rfl (.inl rfl)) (sa_cons (se_bin op_addI (se_bin op_modI (se_callTy call_intI (by rfl) B.b_int (by rfl) (sa_cons (se_ix (se_var (i := 0) rfl (.inl rfl)) se_int (fun _ _ => rfl)) sa_nil)) se_int) se_int) (sa_cons (se_var (i := 1) rfl (.inl rfl)) sa_nil))) (len_cons (len_cons (len_cons len_nil)))))))))

theorem sc__law_pick : FnScope ["draw", "things"] ["draw", "things"] (defScope s__law_pick) := ⟨rfl, rfl, rfl, by decide +kernel, rfl, by decide +kernel, by decide +kernel⟩
theorem dn__law_pick {P : Program} {w : World} {K : PySem.W.Frag} {mg : Str → Option Value} {base : Heap} {T : List (Addr × Str) × (Nat → Addr)} {co : Nat → Addr} (B : Hd P w K mg base T co) : Dn P w K mg base T 4 "_law_pick" 2 d__law_pick :=
  dn_mk (k := 3) (r := r__law_pick) B.f__law_pick sc__law_pick rfl rfl (fun _ _ _ _ _ _ us hl => match us, hl with | [_, _], _ => rfl) fun f cdv A outer s H E Pr hr hT => by
    subst hT
    exact (sss_one (ss_ret (se_ix (se_var (i := 1) rfl (.inl rfl)) (se_dn (dn__law_next B) takes_fn (hr.mono (by decide)) (by rfl) (sa_cons (se_var (i := 0) rfl (.inl rfl)) (sa_cons (se_callB call_lenI (by rfl) B.b_len (by rfl) (sa_cons (se_var (i := 1) rfl (.inl rfl)) sa_nil)) sa_nil)) (len_cons (len_cons len_nil))) (fun _ _ => rfl))))

theorem sc__law_common : FnScope ["one", "other"] ["one", "other"] (defScope s__law_common) := ⟨rfl, rfl, rfl, by decide +kernel, rfl, by decide +kernel, by decide +kernel⟩
theorem dn__law_common {P : Program} {w : World} {K : PySem.W.Frag} {mg : Str → Option Value} {base : Heap} {T : List (Addr × Str) × (Nat → Addr)} {co : Nat → Addr} (B : Hd P w K mg base T co) : Dn P w K mg base T 1 "_law_common" 2 d__law_common :=
  dn_mk (k := 0) (r := r__law_common) B.f__law_common sc__law_common rfl rfl (fun _ _ _ _ _ _ us hl => match us, hl with | [_, _], _ => rfl) fun f cdv A outer s H E Pr hr hT => by
    subst hT
    exact (sss_cons (ss_while passes_fn (sc_cmp op_gtI (se_var (i := 1) rfl (.inl rfl)) se_int (nomark _)) (sss_one (ss_par (i := 0) (j := 1) rfl sc__law_common.nd rfl rfl (by decide) rfl rfl (sa_cons (se_var (i := 1) rfl (.inl rfl)) (sa_cons (se_bin op_subI (se_var (i := 0) rfl (.inl rfl)) (se_bin op_mulT (se_var (i := 1) rfl (.inl rfl)) (se_bin op_divI (se_var (i := 0) rfl (.inl rfl)) (se_var (i := 1) rfl (.inl rfl))))) sa_nil)) (by rfl))))
    (sss_one (ss_ret (se_var (i := 0) rfl (.inl rfl)))))

theorem sc__law_lean : FnScope ["top", "below", "divisor"] ["top", "below"] (defScope s__law_lean) := ⟨rfl, rfl, rfl, by decide +kernel, rfl, by decide +kernel, by decide +kernel⟩
theorem dn__law_lean {P : Program} {w : World} {K : PySem.W.Frag} {mg : Str → Option Value} {base : Heap} {T : List (Addr × Str) × (Nat → Addr)} {co : Nat → Addr} (B : Hd P w K mg base T co) : Dn P w K mg base T 2 "_law_lean" 2 d__law_lean :=
  dn_mk (k := 1) (r := r__law_lean) B.f__law_lean sc__law_lean rfl rfl (fun _ _ _ _ _ _ us hl => match us, hl with | [_, _], _ => rfl) fun f cdv A outer s H E Pr hr hT => by
    subst hT
    exact (sss_cons (ss_set (i := 2) sc__law_lean.nd rfl (.inl rfl) (se_dn (dn__law_common B) takes_fn (hr.mono (by decide)) (by rfl) (sa_cons (se_callB call_absI (by rfl) B.b_abs (by rfl) (sa_cons (se_var (i := 0) rfl (.inl rfl)) sa_nil)) (sa_cons (se_callB call_absI (by rfl) B.b_abs (by rfl) (sa_cons (se_var (i := 1) rfl (.inl rfl)) sa_nil)) sa_nil)) (len_cons (len_cons len_nil))))
    (sss_one (ss_ret (se_ifE (sc_cmp op_gtI (se_var (i := 1) rfl (.inl rfl)) se_int (nomark _)) (se_tup (sa_cons (se_bin op_divI (se_var (i := 0) rfl (.inl rfl)) (se_var (i := 2) rfl (.inl rfl))) (sa_cons (se_bin op_divI (se_var (i := 1) rfl (.inl rfl)) (se_var (i := 2) rfl (.inl rfl))) sa_nil))) (se_tup (sa_cons (se_bin op_divI (se_un un_negI (se_var (i := 0) rfl (.inl rfl))) (se_var (i := 2) rfl (.inl rfl))) (sa_cons (se_bin op_divI (se_un un_negI (se_var (i := 1) rfl (.inl rfl))) (se_var (i := 2) rfl (.inl rfl))) sa_nil)))))))

theorem sc__law_plus : FnScope ["one", "other"] ["one", "other"] (defScope s__law_plus) := ⟨rfl, rfl, rfl, by decide +kernel, rfl, by decide +kernel, by decide +kernel⟩
theorem dn__law_plus {P : Program} {w : World} {K : PySem.W.Frag} {mg : Str → Option Value} {base : Heap} {T : List (Addr × Str) × (Nat → Addr)} {co : Nat → Addr} (B : Hd P w K mg base T co) : Dn P w K mg base T 3 "_law_plus" 2 d__law_plus :=
  dn_mk (k := 2) (r := r__law_plus) B.f__law_plus sc__law_plus rfl rfl (fun _ _ _ _ _ _ us hl => match us, hl with | [_, _], _ => rfl) fun f cdv A outer s H E Pr hr hT => by
    subst hT
    exact (sss_one (ss_ret (se_dn (dn__law_lean B) takes_fn (hr.mono (by decide)) (by rfl) (sa_cons (se_bin op_addI (se_bin op_mulT (se_ix (se_var (i := 0) rfl (.inl rfl)) se_int (fun _ _ => rfl)) (se_ix (se_var (i := 1) rfl (.inl rfl)) se_int (fun _ _ => rfl))) (se_bin op_mulT (se_ix (se_var (i := 1) rfl (.inl rfl)) se_int (fun _ _ => rfl)) (se_ix (se_var (i := 0) rfl (.inl rfl)) se_int (fun _ _ => rfl)))) (sa_cons (se_bin op_mulT (se_ix (se_var (i := 0) rfl (.inl rfl)) se_int (fun _ _ => rfl)) (se_ix (se_var (i := 1) rfl (.inl rfl)) se_int (fun _ _ => rfl))) sa_nil)) (len_cons (len_cons len_nil)))))

theorem sc__law_times : FnScope ["one", "other"] ["one", "other"] (defScope s__law_times) := ⟨rfl, rfl, rfl, by decide +kernel, rfl, by decide +kernel, by decide +kernel⟩
theorem dn__law_times {P : Program} {w : World} {K : PySem.W.Frag} {mg : Str → Option Value} {base : Heap} {T : List (Addr × Str) × (Nat → Addr)} {co : Nat → Addr} (B : Hd P w K mg base T co) : Dn P w K mg base T 3 "_law_times" 2 d__law_times :=
  dn_mk (k := 2) (r := r__law_times) B.f__law_times sc__law_times rfl rfl (fun _ _ _ _ _ _ us hl => match us, hl with | [_, _], _ => rfl) fun f cdv A outer s H E Pr hr hT => by
    subst hT
    exact (sss_one (ss_ret (se_dn (dn__law_lean B) takes_fn (hr.mono (by decide)) (by rfl) (sa_cons (se_bin op_mulT (se_ix (se_var (i := 0) rfl (.inl rfl)) se_int (fun _ _ => rfl)) (se_ix (se_var (i := 1) rfl (.inl rfl)) se_int (fun _ _ => rfl))) (sa_cons (se_bin op_mulT (se_ix (se_var (i := 0) rfl (.inl rfl)) se_int (fun _ _ => rfl)) (se_ix (se_var (i := 1) rfl (.inl rfl)) se_int (fun _ _ => rfl))) sa_nil)) (len_cons (len_cons len_nil)))))

theorem sc__law_total : FnScope ["things", "found", "thing"] ["things"] (defScope s__law_total) := ⟨rfl, rfl, rfl, by decide +kernel, rfl, by decide +kernel, by decide +kernel⟩
theorem dn__law_total {P : Program} {w : World} {K : PySem.W.Frag} {mg : Str → Option Value} {base : Heap} {T : List (Addr × Str) × (Nat → Addr)} {co : Nat → Addr} (B : Hd P w K mg base T co) : Dn P w K mg base T 4 "_law_total" 1 d__law_total :=
  dn_mk (k := 3) (r := r__law_total) B.f__law_total sc__law_total rfl rfl (fun _ _ _ _ _ _ us hl => match us, hl with | [_], _ => rfl) fun f cdv A outer s H E Pr hr hT => by
    subst hT
    exact (sss_cons (ss_set (i := 1) sc__law_total.nd rfl (.inl rfl) (se_tup (sa_cons se_int (sa_cons se_int sa_nil))))
    (sss_cons (ss_for passes_fn rfl (pi_seqI (se_var (i := 0) rfl (.inl rfl))) (sg_name (i := 2) sc__law_total.nd rfl (.inl rfl)) (sss_one (ss_set (i := 1) sc__law_total.nd rfl (.inl rfl) (se_dn (dn__law_plus B) takes_fn (hr.mono (by decide)) (by rfl) (sa_cons (se_var (i := 1) rfl (.inl rfl)) (sa_cons (se_var (i := 2) rfl (.inl rfl)) sa_nil)) (len_cons (len_cons len_nil))))))
    (sss_one (ss_ret (se_var (i := 1) rfl (.inl rfl))))))

theorem sc__law_fraction : FnScope ["draw"] ["draw"] (defScope s__law_fraction) := ⟨rfl, rfl, rfl, by decide +kernel, rfl, by decide +kernel, by decide +kernel⟩
theorem dn__law_fraction {P : Program} {w : World} {K : PySem.W.Frag} {mg : Str → Option Value} {base : Heap} {T : List (Addr × Str) × (Nat → Addr)} {co : Nat → Addr} (B : Hd P w K mg base T co) : Dn P w K mg base T 5 "_law_fraction" 1 d__law_fraction :=
  dn_mk (k := 4) (r := r__law_fraction) B.f__law_fraction sc__law_fraction rfl rfl (fun _ _ _ _ _ _ us hl => match us, hl with | [_], _ => rfl) fun f cdv A outer s H E Pr hr hT => by
    subst hT
    exact (sss_one (ss_ret (se_dn (dn__law_pick B) takes_fn (hr.mono (by decide)) (by rfl) (sa_cons (se_var (i := 0) rfl (.inl rfl)) (sa_cons (se_lst (sa_cons (se_tup (sa_cons se_int (sa_cons se_int sa_nil))) (sa_cons (se_tup (sa_cons se_int (sa_cons se_int sa_nil))) (sa_cons (se_tup (sa_cons (se_un un_negI se_int) (sa_cons se_int sa_nil))) (sa_cons (se_tup (sa_cons se_int (sa_cons se_int sa_nil))) (sa_cons (se_tup (sa_cons (se_un un_negI se_int) (sa_cons se_int sa_nil))) (sa_cons (se_tup (sa_cons se_int (sa_cons se_int sa_nil))) (sa_cons (se_tup (sa_cons se_int (sa_cons se_int sa_nil))) (sa_cons (se_tup (sa_cons se_int (sa_cons se_int sa_nil))) sa_nil))))))))) sa_nil)) (len_cons (len_cons len_nil)))))

theorem sc__law_row : FnScope ["draw", "many", "turn"] ["draw", "many"] (defScope s__law_row) := ⟨rfl, rfl, rfl, by decide +kernel, rfl, by decide +kernel, by decide +kernel⟩
theorem dn__law_row {P : Program} {w : World} {K : PySem.W.Frag} {mg : Str → Option Value} {base : Heap} {T : List (Addr × Str) × (Nat → Addr)} {co : Nat → Addr} (B : Hd P w K mg base T co) : Dn P w K mg base T 6 "_law_row" 2 d__law_row :=
  dn_mk (k := 5) (r := r__law_row) B.f__law_row sc__law_row rfl rfl (fun _ _ _ _ _ _ us hl => match us, hl with | [_, _], _ => rfl) fun f cdv A outer s H E Pr hr hT => by
    subst hT
    exact (sss_one (ss_ret (se_callTy call_tupleI (by rfl) B.b_tuple (by rfl) (sa_cons (se_lc (own := [("turn", 2)]) (ct := (.one 2)) rfl sc__law_row.nd (pi_rng1 (by rfl) B.b_range (sa_cons (se_var (i := 1) rfl (.inl rfl)) sa_nil)) (blkOk_by (by rfl)) (by decide) (fun _ _ _ _ _ => (pg_name (i := 2) sc__law_row.nd rfl (.inl rfl))) (fun _ _ _ _ _ => pts_yes) (fun _ _ _ _ _ => (se_dn (dn__law_fraction B) LamX.takes0 (hr.mono (by decide)) (by rfl) (sa_cons (se_var (i := 0) rfl (.inr (.inl rfl))) sa_nil) (len_cons len_nil)))) sa_nil))))

theorem sc__law_trim : FnScope ["row"] ["row"] (defScope s__law_trim) := ⟨rfl, rfl, rfl, by decide +kernel, rfl, by decide +kernel, by decide +kernel⟩
theorem dn__law_trim {P : Program} {w : World} {K : PySem.W.Frag} {mg : Str → Option Value} {base : Heap} {T : List (Addr × Str) × (Nat → Addr)} {co : Nat → Addr} (B : Hd P w K mg base T co) : Dn P w K mg base T 1 "_law_trim" 1 d__law_trim :=
  dn_mk (k := 0) (r := r__law_trim) B.f__law_trim sc__law_trim rfl rfl (fun _ _ _ _ _ _ us hl => match us, hl with | [_], _ => rfl) fun f cdv A outer s H E Pr hr hT => by
    subst hT
    exact (sss_cons (ss_set (i := 0) sc__law_trim.nd rfl (.inl rfl) (se_callTy call_listI (by rfl) B.b_list (by rfl) (sa_cons (se_var (i := 0) rfl (.inl rfl)) sa_nil)))
    (sss_cons (ss_while passes_fn (sw_and (sc_cmp (op_neI (ru4 hr)) (se_var (i := 0) rfl (.inl rfl)) (se_lst sa_nil) (nomark _)) (sw_and1 (sc_cmp (op_eqI (ru4 hr)) (se_ix (se_var (i := 0) rfl (.inl rfl)) (se_un un_negI se_int) (fun _ _ => rfl)) (se_tup (sa_cons se_int (sa_cons se_int sa_nil))) (nomark _)))).pt (sss_one (ss_set (i := 0) sc__law_trim.nd rfl (.inl rfl) (se_slice (se_var (i := 0) rfl (.inl rfl)) sp_none (sp_some (se_un un_negI se_int))))))
    (sss_one (ss_ret (se_callTy call_tupleI (by rfl) B.b_tuple (by rfl) (sa_cons (se_var (i := 0) rfl (.inl rfl)) sa_nil))))))

theorem sc__law_product : FnScope ["one", "other", "found", "at", "place"] ["one", "other"] (defScope s__law_product) := ⟨rfl, rfl, rfl, by decide +kernel, rfl, by decide +kernel, by decide +kernel⟩
theorem dn__law_product {P : Program} {w : World} {K : PySem.W.Frag} {mg : Str → Option Value} {base : Heap} {T : List (Addr × Str) × (Nat → Addr)} {co : Nat → Addr} (B : Hd P w K mg base T co) : Dn P w K mg base T 5 "_law_product" 2 d__law_product :=
  dn_mk (k := 4) (r := r__law_product) B.f__law_product sc__law_product rfl rfl (fun _ _ _ _ _ _ us hl => match us, hl with | [_, _], _ => rfl) fun f cdv A outer s H E Pr hr hT => by
    subst hT
    exact (sss_cons (ss_if (sw_or (sc_cmp (op_eqI (ru4 hr)) (se_var (i := 0) rfl (.inr (.inl rfl))) (se_tup sa_nil) (nomark _)) (sw_or1 (sc_cmp (op_eqI (ru4 hr)) (se_var (i := 1) rfl (.inr (.inl rfl))) (se_tup sa_nil) (nomark _)))).pt (sss_one (ss_ret (se_tup sa_nil))) sss_nil)
    (sss_cons (ss_set (i := 2) sc__law_product.nd rfl (.inl rfl) (se_lst sa_nil))
    (sss_cons (ss_for passes_fn rfl (pi_rng1 (by rfl) B.b_range (sa_cons (se_bin op_subI (se_bin op_addI (se_callB call_lenI (by rfl) B.b_len (by rfl) (sa_cons (se_var (i := 0) rfl (.inr (.inl rfl))) sa_nil)) (se_callB call_lenI (by rfl) B.b_len (by rfl) (sa_cons (se_var (i := 1) rfl (.inr (.inl rfl))) sa_nil))) se_int) sa_nil)) (sg_name (i := 3) sc__law_product.nd rfl (.inr rfl)) (sss_one (ss_expr (se_methL PySem.F.plainAttrs_list PySem.F.slot_list_append PySem.F.type_list_append mt_appI (se_var (i := 2) rfl (.inl rfl)) (sa_cons (se_dn (dn__law_total B) takes_fn (hr.mono (by decide)) (by rfl) (sa_cons (se_lc (own := [("place", 4)]) (ct := (.one 4)) rfl sc__law_product.nd (pi_rng1 (by rfl) B.b_range (sa_cons (se_callB call_lenI (by rfl) B.b_len (by rfl) (sa_cons (se_var (i := 0) rfl (.inr (.inl rfl))) sa_nil)) sa_nil)) (blkOk_by (by rfl)) (by decide) (fun _ _ _ _ _ => (pg_name (i := 4) sc__law_product.nd rfl (.inl rfl))) (fun _ _ _ _ _ => (pts_one (sc_chain op_leI op_ltI se_int (se_bin op_subI (se_var (i := 3) rfl (.inr (.inl rfl))) (se_var (i := 4) rfl (.inl rfl))) (se_callB call_lenI (by rfl) B.b_len (by rfl) (sa_cons (se_var (i := 1) rfl (.inr (.inl rfl))) sa_nil))))) (fun _ _ _ _ _ => (se_dn (dn__law_times B) LamX.takes0 (hr.mono (by decide)) (by rfl) (sa_cons (se_ix (se_var (i := 0) rfl (.inr (.inl rfl))) (se_var (i := 4) rfl (.inl rfl)) (fun _ _ => rfl)) (sa_cons (se_ix (se_var (i := 1) rfl (.inr (.inl rfl))) (se_bin op_subI (se_var (i := 3) rfl (.inr (.inl rfl))) (se_var (i := 4) rfl (.inl rfl))) (fun _ _ => rfl)) sa_nil)) (len_cons (len_cons len_nil))))) sa_nil) (len_cons len_nil)) sa_nil)))))
    (sss_one (ss_ret (se_dn (dn__law_trim B) takes_fn (hr.mono (by decide)) (by rfl) (sa_cons (se_var (i := 2) rfl (.inl rfl)) sa_nil) (len_cons len_nil)))))))

theorem sc__law_poly : FnScope ["draw", "most", "turn"] ["draw", "most"] (defScope s__law_poly) := ⟨rfl, rfl, rfl, by decide +kernel, rfl, by decide +kernel, by decide +kernel⟩
theorem dn__law_poly {P : Program} {w : World} {K : PySem.W.Frag} {mg : Str → Option Value} {base : Heap} {T : List (Addr × Str) × (Nat → Addr)} {co : Nat → Addr} (B : Hd P w K mg base T co) : Dn P w K mg base T 6 "_law_poly" 2 d__law_poly :=
  dn_mk (k := 5) (r := r__law_poly) B.f__law_poly sc__law_poly rfl rfl (fun _ _ _ _ _ _ us hl => match us, hl with | [_, _], _ => rfl) fun f cdv A outer s H E Pr hr hT => by
    subst hT
    exact (sss_one (ss_ret (se_dn (dn__law_trim B) takes_fn (hr.mono (by decide)) (by rfl) (sa_cons (se_lc (own := [("turn", 2)]) (ct := (.one 2)) rfl sc__law_poly.nd (pi_rng1 (by rfl) B.b_range (sa_cons (se_dn (dn__law_next B) takes_fn (hr.mono (by decide)) (by rfl) (sa_cons (se_var (i := 0) rfl (.inr (.inl rfl))) (sa_cons (se_bin op_addI (se_var (i := 1) rfl (.inl rfl)) se_int) sa_nil)) (len_cons (len_cons len_nil))) sa_nil)) (blkOk_by (by rfl)) (by decide) (fun _ _ _ _ _ => (pg_name (i := 2) sc__law_poly.nd rfl (.inl rfl))) (fun _ _ _ _ _ => pts_yes) (fun _ _ _ _ _ => (se_dn (dn__law_fraction B) LamX.takes0 (hr.mono (by decide)) (by rfl) (sa_cons (se_var (i := 0) rfl (.inr (.inl rfl))) sa_nil) (len_cons len_nil)))) sa_nil) (len_cons len_nil))))

theorem sc__law_filtered : FnScope ["poly", "row", "at", "step"] ["poly", "row"] (defScope s__law_filtered) := ⟨rfl, rfl, rfl, by decide +kernel, rfl, by decide +kernel, by decide +kernel⟩
theorem dn__law_filtered {P : Program} {w : World} {K : PySem.W.Frag} {mg : Str → Option Value} {base : Heap} {T : List (Addr × Str) × (Nat → Addr)} {co : Nat → Addr} (B : Hd P w K mg base T co) : Dn P w K mg base T 5 "_law_filtered" 2 d__law_filtered :=
  dn_mk (k := 4) (r := r__law_filtered) B.f__law_filtered sc__law_filtered rfl rfl (fun _ _ _ _ _ _ us hl => match us, hl with | [_, _], _ => rfl) fun f cdv A outer s H E Pr hr hT => by
    subst hT
    exact (sss_one (ss_ret (se_callTy call_tupleI (by rfl) B.b_tuple (by rfl) (sa_cons (se_lc (own := [("at", 2)]) (ct := (.one 2)) rfl sc__law_filtered.nd (pi_rng1 (by rfl) B.b_range (sa_cons (se_callB call_lenI (by rfl) B.b_len (by rfl) (sa_cons (se_var (i := 1) rfl (.inr (.inl rfl))) sa_nil)) sa_nil)) (blkOk_by (by rfl)) (by decide) (fun _ _ _ _ _ => (pg_name (i := 2) sc__law_filtered.nd rfl (.inr rfl))) (fun _ _ _ _ _ => pts_yes) (fun _ _ _ _ _ => (se_dn (dn__law_total B) LamX.takes0 (hr.mono (by decide)) (by rfl) (sa_cons (se_lc (own := [("step", 3)]) (ct := (.one 3)) rfl sc__law_filtered.nd (pi_rng1 (by rfl) B.b_range (sa_cons (se_callB (call_minI rfl) (by rfl) B.b_min (by rfl) (sa_cons (se_lst (sa_cons (se_bin op_addI (se_var (i := 2) rfl (.inr (.inl rfl))) se_int) (sa_cons (se_callB call_lenI (by rfl) B.b_len (by rfl) (sa_cons (se_var (i := 0) rfl (.inr (.inl rfl))) sa_nil)) sa_nil))) sa_nil)) sa_nil)) (blkOk_by (by rfl)) (by decide) (fun _ _ _ _ _ => (pg_name (i := 3) sc__law_filtered.nd rfl (.inl rfl))) (fun _ _ _ _ _ => pts_yes) (fun _ _ _ _ _ => (se_dn (dn__law_times B) LamX.takes0 (hr.mono (by decide)) (by rfl) (sa_cons (se_ix (se_var (i := 0) rfl (.inr (.inl rfl))) (se_var (i := 3) rfl (.inl rfl)) (fun _ _ => rfl)) (sa_cons (se_ix (se_var (i := 1) rfl (.inr (.inl rfl))) (se_bin op_subI (se_var (i := 2) rfl (.inr (.inl rfl))) (se_var (i := 3) rfl (.inl rfl))) (fun _ _ => rfl)) sa_nil)) (len_cons (len_cons len_nil))))) sa_nil) (len_cons len_nil)))) sa_nil))))

theorem sc__law_refused_right : FnScope ["bad", "one"] [] (defScope s__law_refused_right) := ⟨rfl, rfl, rfl, by decide +kernel, rfl, by decide +kernel, by decide +kernel⟩
theorem dn__law_refused_right {P : Program} {w : World} {K : PySem.W.Frag} {mg : Str → Option Value} {base : Heap} {T : List (Addr × Str) × (Nat → Addr)} {co : Nat → Addr} (B : Hd P w K mg base T co) : DnG P w K mg base T 10 "_law_refused_right" 0 d__law_refused_right :=
  dn_mkG (k := 9) (r := r__law_refused_right) B.f__law_refused_right sc__law_refused_right rfl rfl (fun _ _ _ _ _ _ us hl => match us, hl with | [], _ => rfl) fun f A outer s H E Pr hgd hr hT => by
    subst hT
    exact (sss_cons (ss_set (i := 1) sc__law_refused_right.nd rfl (.inr rfl) (se_tup (sa_cons (se_tup (sa_cons se_int (sa_cons se_int sa_nil))) sa_nil)))
    (sss_cons (ss_for passes_fn rfl (pi_seqI (se_tup (sa_cons se_non (sa_cons (se_lst (sa_cons (se_tup (sa_cons se_int (sa_cons se_int sa_nil))) sa_nil)) (sa_cons (se_tup (sa_cons (se_tup (sa_cons se_int (sa_cons se_int sa_nil))) sa_nil)) (sa_cons (se_bin op_mulT (se_var (i := 1) rfl (.inr (.inl rfl))) se_int) sa_nil)))))) (sg_name (i := 0) sc__law_refused_right.nd rfl (.inr rfl)) (sss_cons (ss_if (sc_not (sc_truth (se_told (k := 7) B.o__law_refuses tt__law_refuses B.t__law_refused_right (fun _ _ _ _ _ _ us hl => match us, hl with | [_, _], _ => rfl) rfl rfl hgd hr (by rfl) (LamX.lamS_by (by rfl)) (by rfl) (fun _ _ _ _ _ => rfl) (fun A outer s H E f c' hr => (se_dn (dn_every B) (takes_of rfl rfl rfl rfl) (hr.mono (by decide)) (by rfl) (sa_cons (se_var (i := 0) rfl (.inr (.inr rfl))) (sa_cons se_non sa_nil)) (len_cons (len_cons len_nil)))) (se_var (i := 0) rfl (.inr (.inl rfl)))) (fun _ => rfl))) (sss_one (ss_ret se_bl)) sss_nil)
    (sss_cons (ss_if (sc_not (sc_truth (se_told (k := 7) B.o__law_refuses tt__law_refuses B.t__law_refused_right (fun _ _ _ _ _ _ us hl => match us, hl with | [_, _], _ => rfl) rfl rfl hgd hr (by rfl) (LamX.lamS_by (by rfl)) (by rfl) (fun _ _ _ _ _ => rfl) (fun A outer s H E f c' hr => (se_dn (dn_between B) (takes_of rfl rfl rfl rfl) (hr.mono (by decide)) (by rfl) (sa_cons (se_var (i := 0) rfl (.inr (.inr rfl))) (sa_cons se_non sa_nil)) (len_cons (len_cons len_nil)))) (se_var (i := 0) rfl (.inr (.inl rfl)))) (fun _ => rfl))) (sss_one (ss_ret se_bl)) sss_nil)
    (sss_cons (ss_if (sc_not (sc_truth (se_told (k := 7) B.o__law_refuses tt__law_refuses B.t__law_refused_right (fun _ _ _ _ _ _ us hl => match us, hl with | [_, _], _ => rfl) rfl rfl hgd hr (by rfl) (LamX.lamS_by (by rfl)) (by rfl) (fun _ _ _ _ _ => rfl) (fun A outer s H E f c' hr => (se_dn (dn_filtered B) (takes_of rfl rfl rfl rfl) (hr.mono (by decide)) (by rfl) (sa_cons (se_var (i := 1) rfl (.inr (.inr rfl))) (sa_cons (se_var (i := 0) rfl (.inr (.inr rfl))) sa_nil)) (len_cons (len_cons len_nil)))) (se_var (i := 0) rfl (.inr (.inl rfl)))) (fun _ => rfl))) (sss_one (ss_ret se_bl)) sss_nil)
    (sss_one (ss_if (sc_not (sc_truth (se_told (k := 7) B.o__law_refuses tt__law_refuses B.t__law_refused_right (fun _ _ _ _ _ _ us hl => match us, hl with | [_, _], _ => rfl) rfl rfl hgd hr (by rfl) (LamX.lamS_by (by rfl)) (by rfl) (fun _ _ _ _ _ => rfl) (fun A outer s H E f c' hr => (se_dn (dn_filtered_every B) (takes_of rfl rfl rfl rfl) (hr.mono (by decide)) (by rfl) (sa_cons (se_var (i := 1) rfl (.inr (.inr rfl))) (sa_cons (se_var (i := 0) rfl (.inr (.inr rfl))) (sa_cons se_non sa_nil))) (len_cons (len_cons (len_cons len_nil))))) (se_var (i := 0) rfl (.inr (.inl rfl)))) (fun _ => rfl))) (sss_one (ss_ret se_bl)) sss_nil))))))
    (sss_cons (ss_for passes_fn rfl (pi_seqI (se_tup (sa_cons se_int (sa_cons se_int (sa_cons se_non (sa_cons se_bl (sa_cons (se_str (s := [120]) (by rfl) (by decide)) sa_nil))))))) (sg_name (i := 0) sc__law_refused_right.nd rfl (.inr rfl)) (sss_cons (ss_if (sc_not (sc_truth (se_told (k := 7) B.o__law_refuses tt__law_refuses B.t__law_refused_right (fun _ _ _ _ _ _ us hl => match us, hl with | [_, _], _ => rfl) rfl rfl hgd hr (by rfl) (LamX.lamS_by (by rfl)) (by rfl) (fun _ _ _ _ _ => rfl) (fun A outer s H E f c' hr => (se_dn (dn_every B) (takes_of rfl rfl rfl rfl) (hr.mono (by decide)) (by rfl) (sa_cons (se_var (i := 1) rfl (.inr (.inr rfl))) (sa_cons (se_var (i := 0) rfl (.inr (.inr rfl))) sa_nil)) (len_cons (len_cons len_nil)))) (se_var (i := 0) rfl (.inr (.inl rfl)))) (fun _ => rfl))) (sss_one (ss_ret se_bl)) sss_nil)
    (sss_cons (ss_if (sc_not (sc_truth (se_told (k := 7) B.o__law_refuses tt__law_refuses B.t__law_refused_right (fun _ _ _ _ _ _ us hl => match us, hl with | [_, _], _ => rfl) rfl rfl hgd hr (by rfl) (LamX.lamS_by (by rfl)) (by rfl) (fun _ _ _ _ _ => rfl) (fun A outer s H E f c' hr => (se_dn (dn_held B) (takes_of rfl rfl rfl rfl) (hr.mono (by decide)) (by rfl) (sa_cons (se_var (i := 1) rfl (.inr (.inr rfl))) (sa_cons (se_var (i := 0) rfl (.inr (.inr rfl))) sa_nil)) (len_cons (len_cons len_nil)))) (se_var (i := 0) rfl (.inr (.inl rfl)))) (fun _ => rfl))) (sss_one (ss_ret se_bl)) sss_nil)
    (sss_cons (ss_if (sc_not (sc_truth (se_told (k := 7) B.o__law_refuses tt__law_refuses B.t__law_refused_right (fun _ _ _ _ _ _ us hl => match us, hl with | [_, _], _ => rfl) rfl rfl hgd hr (by rfl) (LamX.lamS_by (by rfl)) (by rfl) (fun _ _ _ _ _ => rfl) (fun A outer s H E f c' hr => (se_dn (dn_phases_of B) (takes_of rfl rfl rfl rfl) (hr.mono (by decide)) (by rfl) (sa_cons (se_var (i := 1) rfl (.inr (.inr rfl))) (sa_cons (se_var (i := 0) rfl (.inr (.inr rfl))) sa_nil)) (len_cons (len_cons len_nil)))) (se_var (i := 0) rfl (.inr (.inl rfl)))) (fun _ => rfl))) (sss_one (ss_ret se_bl)) sss_nil)
    (sss_cons (ss_if (sc_not (sc_truth (se_told (k := 7) B.o__law_refuses tt__law_refuses B.t__law_refused_right (fun _ _ _ _ _ _ us hl => match us, hl with | [_, _], _ => rfl) rfl rfl hgd hr (by rfl) (LamX.lamS_by (by rfl)) (by rfl) (fun _ _ _ _ _ => rfl) (fun A outer s H E f c' hr => (se_dn (dn_can_go_first B) (takes_of rfl rfl rfl rfl) (hr.mono (by decide)) (by rfl) (sa_cons (se_var (i := 1) rfl (.inr (.inr rfl))) (sa_cons (se_var (i := 0) rfl (.inr (.inr rfl))) sa_nil)) (len_cons (len_cons len_nil)))) (se_var (i := 0) rfl (.inr (.inl rfl)))) (fun _ => rfl))) (sss_one (ss_ret se_bl)) sss_nil)
    (sss_one (ss_if (sc_not (sc_truth (se_told (k := 7) B.o__law_refuses tt__law_refuses B.t__law_refused_right (fun _ _ _ _ _ _ us hl => match us, hl with | [_, _], _ => rfl) rfl rfl hgd hr (by rfl) (LamX.lamS_by (by rfl)) (by rfl) (fun _ _ _ _ _ => rfl) (fun A outer s H E f c' hr => (se_dn (dn_products_needed B) (takes_of rfl rfl rfl rfl) (hr.mono (by decide)) (by rfl) (sa_cons (se_var (i := 1) rfl (.inr (.inr rfl))) (sa_cons se_int (sa_cons (se_var (i := 0) rfl (.inr (.inr rfl))) sa_nil))) (len_cons (len_cons (len_cons len_nil))))) (se_var (i := 0) rfl (.inr (.inl rfl)))) (fun _ => rfl))) (sss_one (ss_ret se_bl)) sss_nil)))))))
    (sss_cons (ss_for passes_fn rfl (pi_seqI (se_tup (sa_cons se_non (sa_cons (se_lst (sa_cons (se_tup (sa_cons se_int (sa_cons se_int sa_nil))) sa_nil)) (sa_cons (se_tup (sa_cons (se_tup (sa_cons se_int (sa_cons se_int sa_nil))) sa_nil)) (sa_cons (se_tup (sa_cons (se_tup (sa_cons se_int (sa_cons se_int sa_nil))) sa_nil)) (sa_cons (se_bin op_mulT (se_var (i := 1) rfl (.inr (.inl rfl))) se_int) sa_nil))))))) (sg_name (i := 0) sc__law_refused_right.nd rfl (.inr rfl)) (sss_cons (ss_if (sc_not (sc_truth (se_told (k := 7) B.o__law_refuses tt__law_refuses B.t__law_refused_right (fun _ _ _ _ _ _ us hl => match us, hl with | [_, _], _ => rfl) rfl rfl hgd hr (by rfl) (LamX.lamS_by (by rfl)) (by rfl) (fun _ _ _ _ _ => rfl) (fun A outer s H E f c' hr => (se_dn (dn_filtered B) (takes_of rfl rfl rfl rfl) (hr.mono (by decide)) (by rfl) (sa_cons (se_var (i := 0) rfl (.inr (.inr rfl))) (sa_cons se_non sa_nil)) (len_cons (len_cons len_nil)))) (se_var (i := 0) rfl (.inr (.inl rfl)))) (fun _ => rfl))) (sss_one (ss_ret se_bl)) sss_nil)
    (sss_cons (ss_if (sc_not (sc_truth (se_told (k := 7) B.o__law_refuses tt__law_refuses B.t__law_refused_right (fun _ _ _ _ _ _ us hl => match us, hl with | [_, _], _ => rfl) rfl rfl hgd hr (by rfl) (LamX.lamS_by (by rfl)) (by rfl) (fun _ _ _ _ _ => rfl) (fun A outer s H E f c' hr => (se_dn (dn_spread_filter B) (takes_of rfl rfl rfl rfl) (hr.mono (by decide)) (by rfl) (sa_cons (se_var (i := 0) rfl (.inr (.inr rfl))) (sa_cons se_non sa_nil)) (len_cons (len_cons len_nil)))) (se_var (i := 0) rfl (.inr (.inl rfl)))) (fun _ => rfl))) (sss_one (ss_ret se_bl)) sss_nil)
    (sss_cons (ss_if (sc_not (sc_truth (se_told (k := 7) B.o__law_refuses tt__law_refuses B.t__law_refused_right (fun _ _ _ _ _ _ us hl => match us, hl with | [_, _], _ => rfl) rfl rfl hgd hr (by rfl) (LamX.lamS_by (by rfl)) (by rfl) (fun _ _ _ _ _ => rfl) (fun A outer s H E f c' hr => (se_dn (dn_can_go_behind B) (takes_of rfl rfl rfl rfl) (hr.mono (by decide)) (by rfl) (sa_cons (se_var (i := 0) rfl (.inr (.inr rfl))) (sa_cons se_non sa_nil)) (len_cons (len_cons len_nil)))) (se_var (i := 0) rfl (.inr (.inl rfl)))) (fun _ => rfl))) (sss_one (ss_ret se_bl)) sss_nil)
    (sss_one (ss_if (sc_not (sc_truth (se_told (k := 7) B.o__law_refuses tt__law_refuses B.t__law_refused_right (fun _ _ _ _ _ _ us hl => match us, hl with | [_, _], _ => rfl) rfl rfl hgd hr (by rfl) (LamX.lamS_by (by rfl)) (by rfl) (fun _ _ _ _ _ => rfl) (fun A outer s H E f c' hr => (se_dn (dn_in_one B) (takes_of rfl rfl rfl rfl) (hr.mono (by decide)) (by rfl) (sa_cons (se_var (i := 1) rfl (.inr (.inr rfl))) (sa_cons (se_var (i := 0) rfl (.inr (.inr rfl))) sa_nil)) (len_cons (len_cons len_nil)))) (se_var (i := 0) rfl (.inr (.inl rfl)))) (fun _ => rfl))) (sss_one (ss_ret se_bl)) sss_nil))))))
    (sss_cons (ss_for passes_fn rfl (pi_seqI (se_tup (sa_cons se_non (sa_cons (se_tup sa_nil) (sa_cons (se_lst (sa_cons (se_var (i := 1) rfl (.inr (.inl rfl))) sa_nil)) (sa_cons (se_bin op_mulT (se_tup (sa_cons (se_var (i := 1) rfl (.inr (.inl rfl))) sa_nil)) se_int) (sa_cons (se_tup (sa_cons (se_tup (sa_cons (se_tup (sa_cons se_int (sa_cons se_int sa_nil))) sa_nil)) sa_nil)) (sa_cons (se_tup (sa_cons (se_bin op_mulT (se_var (i := 1) rfl (.inr (.inl rfl))) se_int) (sa_cons (se_bin op_mulT (se_var (i := 1) rfl (.inr (.inl rfl))) se_int) sa_nil))) sa_nil)))))))) (sg_name (i := 0) sc__law_refused_right.nd rfl (.inr rfl)) (sss_one (ss_if (sc_not (sc_truth (se_told (k := 7) B.o__law_refuses tt__law_refuses B.t__law_refused_right (fun _ _ _ _ _ _ us hl => match us, hl with | [_, _], _ => rfl) rfl rfl hgd hr (by rfl) (LamX.lamS_by (by rfl)) (by rfl) (fun _ _ _ _ _ => rfl) (fun A outer s H E f c' hr => (se_dn (dn_from_phases B) (takes_of rfl rfl rfl rfl) (hr.mono (by decide)) (by rfl) (sa_cons (se_var (i := 0) rfl (.inr (.inr rfl))) sa_nil) (len_cons len_nil))) (se_var (i := 0) rfl (.inr (.inl rfl)))) (fun _ => rfl))) (sss_one (ss_ret se_bl)) sss_nil)))
    (sss_cons (ss_for passes_fn rfl (pi_seqI (se_tup (sa_cons (se_un un_negI se_int) (sa_cons se_int (sa_cons se_non sa_nil))))) (sg_name (i := 0) sc__law_refused_right.nd rfl (.inr rfl)) (sss_one (ss_if (sc_not (sc_truth (se_told (k := 7) B.o__law_refuses tt__law_refuses B.t__law_refused_right (fun _ _ _ _ _ _ us hl => match us, hl with | [_, _], _ => rfl) rfl rfl hgd hr (by rfl) (LamX.lamS_by (by rfl)) (by rfl) (fun _ _ _ _ _ => rfl) (fun A outer s H E f c' hr => (se_dn (dn_products_needed B) (takes_of rfl rfl rfl rfl) (hr.mono (by decide)) (by rfl) (sa_cons (se_var (i := 1) rfl (.inr (.inr rfl))) (sa_cons (se_var (i := 0) rfl (.inr (.inr rfl))) (sa_cons se_non sa_nil))) (len_cons (len_cons (len_cons len_nil))))) (se_var (i := 0) rfl (.inr (.inl rfl)))) (fun _ => rfl))) (sss_one (ss_ret se_bl)) sss_nil)))
    (sss_cons (ss_if (sc_not (sc_truth (se_told (k := 7) B.o__law_refuses tt__law_refuses B.t__law_refused_right (fun _ _ _ _ _ _ us hl => match us, hl with | [_, _], _ => rfl) rfl rfl hgd hr (by rfl) (LamX.lamS_by (by rfl)) (by rfl) (fun _ _ _ _ _ => rfl) (fun A outer s H E f c' hr => (se_dn (dn_between B) (takes_of rfl rfl rfl rfl) (hr.mono (by decide)) (by rfl) (sa_cons (se_bin op_mulT (se_var (i := 1) rfl (.inr (.inr rfl))) se_int) (sa_cons se_int sa_nil)) (len_cons (len_cons len_nil)))) (se_bin op_mulT (se_var (i := 1) rfl (.inr (.inl rfl))) se_int)) (fun _ => rfl))) (sss_one (ss_ret se_bl)) sss_nil)
    (sss_cons (ss_if (sc_not (sc_truth (se_told (k := 7) B.o__law_refuses tt__law_refuses B.t__law_refused_right (fun _ _ _ _ _ _ us hl => match us, hl with | [_, _], _ => rfl) rfl rfl hgd hr (by rfl) (LamX.lamS_by (by rfl)) (by rfl) (fun _ _ _ _ _ => rfl) (fun A outer s H E f c' hr => (se_dn (dn_spread_filter B) (takes_of rfl rfl rfl rfl) (hr.mono (by decide)) (by rfl) (sa_cons (se_bin op_mulT (se_var (i := 1) rfl (.inr (.inr rfl))) se_int) (sa_cons se_int sa_nil)) (len_cons (len_cons len_nil)))) (se_bin op_mulT (se_var (i := 1) rfl (.inr (.inl rfl))) se_int)) (fun _ => rfl))) (sss_one (ss_ret se_bl)) sss_nil)
    (sss_one (ss_ret (se_and (se_told (k := 7) B.o__law_refuses tt__law_refuses B.t__law_refused_right (fun _ _ _ _ _ _ us hl => match us, hl with | [_, _], _ => rfl) rfl rfl hgd hr (by rfl) (LamX.lamS_by (by rfl)) (by rfl) (fun _ _ _ _ _ => rfl) (fun A outer s H E f c' hr => (se_dn (dn_in_one B) (takes_of rfl rfl rfl rfl) (hr.mono (by decide)) (by rfl) (sa_cons (se_bin op_mulT (se_var (i := 1) rfl (.inr (.inr rfl))) se_int) (sa_cons (se_bin op_mulT (se_var (i := 1) rfl (.inr (.inr rfl))) se_int) sa_nil)) (len_cons (len_cons len_nil)))) (se_bin op_mulT (se_var (i := 1) rfl (.inr (.inl rfl))) se_int)) (se_and (se_cmp op_isI (se_dn (dn_can_go_first B) takes_fn (hr.mono (by decide)) (by rfl) (sa_cons (se_bin op_mulT (se_var (i := 1) rfl (.inr (.inl rfl))) se_int) (sa_cons se_int sa_nil)) (len_cons (len_cons len_nil))) se_non (nomark _)) (se_one (se_cmp (op_eqI (ru4 hr)) (se_dn (dn_can_go_first B) takes_fn (hr.mono (by decide)) (by rfl) (sa_cons (se_tup sa_nil) (sa_cons se_int sa_nil)) (len_cons (len_cons len_nil))) (se_tup sa_nil) (nomark _)))))))))))))))

theorem sc_law : FnScope ["script", "draw", "row", "poly", "other", "step", "at", "due", "wide", "told", "phases", "some", "whole", "spread", "behind", "fine", "many", "plain", "less", "begin", "turn", "phase", "place"] ["script"] (defScope s_law) := ⟨rfl, rfl, rfl, by decide +kernel, rfl, by decide +kernel, by decide +kernel⟩
theorem dn_law {P : Program} {w : World} {K : PySem.W.Frag} {mg : Str → Option Value} {base : Heap} {T : List (Addr × Str) × (Nat → Addr)} {co : Nat → Addr} (B : Hd P w K mg base T co) : DnG P w K mg base T 11 "law" 1 d_law :=
  dn_mkG (k := 10) (r := r_law) B.f_law sc_law rfl rfl (fun _ _ _ _ _ _ us hl => match us, hl with | [_], _ => rfl) fun f A outer s H E Pr hgd hr hT => by
    subst hT
    exact (sss_cons (ss_set (i := 1) sc_law.nd rfl (.inr rfl) (se_lst (sa_cons (se_slice (se_var (i := 0) rfl (.inl rfl)) sp_none (sp_some se_int)) (sa_cons se_int (sa_cons se_int sa_nil)))))
    (sss_cons (ss_asg (se_tup (sa_cons (se_dn (dn__law_row B) takes_fn (hr.mono (by decide)) (by rfl) (sa_cons (se_var (i := 1) rfl (.inr (.inl rfl))) (sa_cons (se_dn (dn__law_next B) takes_fn (hr.mono (by decide)) (by rfl) (sa_cons (se_var (i := 1) rfl (.inr (.inl rfl))) (sa_cons se_int sa_nil)) (len_cons (len_cons len_nil))) sa_nil)) (len_cons (len_cons len_nil))) (sa_cons (se_dn (dn__law_poly B) takes_fn (hr.mono (by decide)) (by rfl) (sa_cons (se_var (i := 1) rfl (.inr (.inl rfl))) (sa_cons se_int sa_nil)) (len_cons (len_cons len_nil))) (sa_cons (se_dn (dn__law_poly B) takes_fn (hr.mono (by decide)) (by rfl) (sa_cons (se_var (i := 1) rfl (.inr (.inl rfl))) (sa_cons se_int sa_nil)) (len_cons (len_cons len_nil))) sa_nil)))) (sg_tup rfl (sgs_cons (sg_name (i := 2) sc_law.nd rfl (.inr rfl)) (sgs_cons (sg_name (i := 3) sc_law.nd rfl (.inr rfl)) (sgs_cons (sg_name (i := 4) sc_law.nd rfl (.inl rfl)) sgs_nil)))))
    (sss_cons (ss_set (i := 5) sc_law.nd rfl (.inr rfl) (se_bin op_addI se_int (se_dn (dn__law_next B) takes_fn (hr.mono (by decide)) (by rfl) (sa_cons (se_var (i := 1) rfl (.inr (.inl rfl))) (sa_cons se_int sa_nil)) (len_cons (len_cons len_nil)))))
    (sss_cons (ss_set (i := 7) sc_law.nd rfl (.inl rfl) (se_callTy call_tupleI (by rfl) B.b_tuple (by rfl) (sa_cons (se_lc (own := [("at", 6)]) (ct := (.one 6)) rfl sc_law.nd (pi_rng1 (by rfl) B.b_range (sa_cons (se_callB call_lenI (by rfl) B.b_len (by rfl) (sa_cons (se_var (i := 2) rfl (.inr (.inl rfl))) sa_nil)) sa_nil)) (blkOk_by (by rfl)) (by decide) (fun _ _ _ _ _ => (pg_name (i := 6) sc_law.nd rfl (.inl rfl))) (fun _ _ _ _ _ => (pts_one (sc_cmp (op_eqI (ru4 hr)) (se_var (i := 6) rfl (.inl rfl)) (se_bin op_mulT (se_var (i := 5) rfl (.inr (.inl rfl))) (se_bin op_divI (se_var (i := 6) rfl (.inl rfl)) (se_var (i := 5) rfl (.inr (.inl rfl))))) (nomark _)))) (fun _ _ _ _ _ => (se_ix (se_var (i := 2) rfl (.inr (.inl rfl))) (se_var (i := 6) rfl (.inl rfl)) (fun _ _ => rfl)))) sa_nil)))
    (sss_cons (ss_set (i := 8) sc_law.nd rfl (.inl rfl) (se_callTy call_tupleI (by rfl) B.b_tuple (by rfl) (sa_cons (se_lc (own := [("at", 6)]) (ct := (.one 6)) rfl sc_law.nd (pi_rng1 (by rfl) B.b_range (sa_cons (se_bin op_mulT (se_callB call_lenI (by rfl) B.b_len (by rfl) (sa_cons (se_var (i := 2) rfl (.inr (.inl rfl))) sa_nil)) (se_var (i := 5) rfl (.inr (.inl rfl)))) sa_nil)) (blkOk_by (by rfl)) (by decide) (fun _ _ _ _ _ => (pg_name (i := 6) sc_law.nd rfl (.inl rfl))) (fun _ _ _ _ _ => pts_yes) (fun _ _ _ _ _ => (se_ifE (sc_cmp (op_eqI (ru4 hr)) (se_var (i := 6) rfl (.inl rfl)) (se_bin op_mulT (se_var (i := 5) rfl (.inr (.inl rfl))) (se_bin op_divI (se_var (i := 6) rfl (.inl rfl)) (se_var (i := 5) rfl (.inr (.inl rfl))))) (nomark _)) (se_ix (se_var (i := 2) rfl (.inr (.inl rfl))) (se_bin op_divI (se_var (i := 6) rfl (.inl rfl)) (se_var (i := 5) rfl (.inr (.inl rfl)))) (fun _ _ => rfl)) (se_tup (sa_cons se_int (sa_cons se_int sa_nil)))))) sa_nil)))
    (sss_cons (ss_if (sw_or (sc_cmp (op_neI (ru4 hr)) (se_dn (dn_every B) takes_fn (hr.mono (by decide)) (by rfl) (sa_cons (se_var (i := 2) rfl (.inr (.inl rfl))) (sa_cons (se_var (i := 5) rfl (.inr (.inl rfl))) sa_nil)) (len_cons (len_cons len_nil))) (se_var (i := 7) rfl (.inl rfl)) (nomark _)) (sw_or (sc_cmp (op_neI (ru4 hr)) (se_dn (dn_between B) takes_fn (hr.mono (by decide)) (by rfl) (sa_cons (se_var (i := 2) rfl (.inr (.inl rfl))) (sa_cons (se_var (i := 5) rfl (.inr (.inl rfl))) sa_nil)) (len_cons (len_cons len_nil))) (se_var (i := 8) rfl (.inl rfl)) (nomark _)) (sw_or (sc_cmp (op_neI (ru4 hr)) (se_dn (dn_held B) takes_fn (hr.mono (by decide)) (by rfl) (sa_cons (se_var (i := 2) rfl (.inr (.inl rfl))) (sa_cons (se_var (i := 5) rfl (.inr (.inl rfl))) sa_nil)) (len_cons (len_cons len_nil))) (se_callTy call_tupleI (by rfl) B.b_tuple (by rfl) (sa_cons (se_lc (own := [("at", 6)]) (ct := (.one 6)) rfl sc_law.nd (pi_rng1 (by rfl) B.b_range (sa_cons (se_bin op_mulT (se_callB call_lenI (by rfl) B.b_len (by rfl) (sa_cons (se_var (i := 2) rfl (.inr (.inl rfl))) sa_nil)) (se_var (i := 5) rfl (.inr (.inl rfl)))) sa_nil)) (blkOk_by (by rfl)) (by decide) (fun _ _ _ _ _ => (pg_name (i := 6) sc_law.nd rfl (.inl rfl))) (fun _ _ _ _ _ => pts_yes) (fun _ _ _ _ _ => (se_ix (se_var (i := 2) rfl (.inr (.inl rfl))) (se_bin op_divI (se_var (i := 6) rfl (.inl rfl)) (se_var (i := 5) rfl (.inr (.inl rfl)))) (fun _ _ => rfl)))) sa_nil)) (nomark _)) (sw_or1 (sc_cmp (op_neI (ru4 hr)) (se_dn (dn_every B) takes_fn (hr.mono (by decide)) (by rfl) (sa_cons (se_var (i := 8) rfl (.inl rfl)) (sa_cons (se_var (i := 5) rfl (.inr (.inl rfl))) sa_nil)) (len_cons (len_cons len_nil))) (se_var (i := 2) rfl (.inr (.inl rfl))) (nomark _)))))).pt (sss_one (ss_ret se_bl)) sss_nil)
    (sss_cons (ss_set (i := 9) sc_law.nd rfl (.inr rfl) (se_dn (dn__law_filtered B) takes_fn (hr.mono (by decide)) (by rfl) (sa_cons (se_var (i := 3) rfl (.inr (.inl rfl))) (sa_cons (se_var (i := 2) rfl (.inr (.inl rfl))) sa_nil)) (len_cons (len_cons len_nil))))
    (sss_cons (ss_if (sw_or (sc_cmp (op_neI (ru4 hr)) (se_dn (dn_filtered B) takes_fn (hr.mono (by decide)) (by rfl) (sa_cons (se_var (i := 3) rfl (.inr (.inl rfl))) (sa_cons (se_var (i := 2) rfl (.inr (.inl rfl))) sa_nil)) (len_cons (len_cons len_nil))) (se_var (i := 9) rfl (.inr (.inl rfl))) (nomark _)) (sw_or1 (sc_cmp (op_neI (ru4 hr)) (se_dn (dn_filtered_every B) takes_fn (hr.mono (by decide)) (by rfl) (sa_cons (se_var (i := 3) rfl (.inr (.inl rfl))) (sa_cons (se_var (i := 2) rfl (.inr (.inl rfl))) (sa_cons (se_var (i := 5) rfl (.inr (.inl rfl))) sa_nil))) (len_cons (len_cons (len_cons len_nil)))) (se_callTy call_tupleI (by rfl) B.b_tuple (by rfl) (sa_cons (se_lc (own := [("at", 6)]) (ct := (.one 6)) rfl sc_law.nd (pi_rng1 (by rfl) B.b_range (sa_cons (se_callB call_lenI (by rfl) B.b_len (by rfl) (sa_cons (se_var (i := 2) rfl (.inr (.inl rfl))) sa_nil)) sa_nil)) (blkOk_by (by rfl)) (by decide) (fun _ _ _ _ _ => (pg_name (i := 6) sc_law.nd rfl (.inl rfl))) (fun _ _ _ _ _ => (pts_one (sc_cmp (op_eqI (ru4 hr)) (se_var (i := 6) rfl (.inl rfl)) (se_bin op_mulT (se_var (i := 5) rfl (.inr (.inl rfl))) (se_bin op_divI (se_var (i := 6) rfl (.inl rfl)) (se_var (i := 5) rfl (.inr (.inl rfl))))) (nomark _)))) (fun _ _ _ _ _ => (se_ix (se_var (i := 9) rfl (.inr (.inl rfl))) (se_var (i := 6) rfl (.inl rfl)) (fun _ _ => rfl)))) sa_nil)) (nomark _)))).pt (sss_one (ss_ret se_bl)) sss_nil)
    (sss_cons (ss_set (i := 10) sc_law.nd rfl (.inl rfl) (se_dn (dn_phases_of B) takes_fn (hr.mono (by decide)) (by rfl) (sa_cons (se_var (i := 3) rfl (.inr (.inl rfl))) (sa_cons (se_var (i := 5) rfl (.inr (.inl rfl))) sa_nil)) (len_cons (len_cons len_nil))))
    (sss_cons (ss_if (sw_or (sc_cmp (op_neI (ru4 hr)) (se_var (i := 10) rfl (.inl rfl)) (se_callTy call_tupleI (by rfl) B.b_tuple (by rfl) (sa_cons (se_lc (own := [("begin", 19)]) (ct := (.one 19)) rfl sc_law.nd (pi_rng1 (by rfl) B.b_range (sa_cons (se_var (i := 5) rfl (.inr (.inl rfl))) sa_nil)) (blkOk_by (by rfl)) (by decide) (fun _ _ _ _ _ => (pg_name (i := 19) sc_law.nd rfl (.inl rfl))) (fun _ _ _ _ _ => pts_yes) (fun _ _ _ _ _ => (se_dn (dn__law_trim B) LamX.takes0 (hr.mono (by decide)) (by rfl) (sa_cons (se_lc (own := [("at", 6)]) (ct := (.one 6)) rfl sc_law.nd (pi_rng3 (by rfl) B.b_range (sa_cons (se_var (i := 19) rfl (.inl rfl)) (sa_cons (se_callB call_lenI (by rfl) B.b_len (by rfl) (sa_cons (se_var (i := 3) rfl (.inr (.inl rfl))) sa_nil)) (sa_cons (se_var (i := 5) rfl (.inr (.inl rfl))) sa_nil)))) (blkOk_by (by rfl)) (by decide) (fun _ _ _ _ _ => (pg_name (i := 6) sc_law.nd rfl (.inl rfl))) (fun _ _ _ _ _ => pts_yes) (fun _ _ _ _ _ => (se_ix (se_var (i := 3) rfl (.inr (.inl rfl))) (se_var (i := 6) rfl (.inl rfl)) (fun _ _ => rfl)))) sa_nil) (len_cons len_nil)))) sa_nil)) (nomark _)) (sw_or1 (sc_cmp (op_neI (ru4 hr)) (se_dn (dn_from_phases B) takes_fn (hr.mono (by decide)) (by rfl) (sa_cons (se_var (i := 10) rfl (.inl rfl)) sa_nil) (len_cons len_nil)) (se_var (i := 3) rfl (.inr (.inl rfl))) (nomark _)))).pt (sss_one (ss_ret se_bl)) sss_nil)
    (sss_cons (ss_set (i := 11) sc_law.nd rfl (.inl rfl) (se_callTy call_tupleI (by rfl) B.b_tuple (by rfl) (sa_cons (se_lc (own := [("turn", 20)]) (ct := (.one 20)) rfl sc_law.nd (pi_rng1 (by rfl) B.b_range (sa_cons (se_var (i := 5) rfl (.inr (.inl rfl))) sa_nil)) (blkOk_by (by rfl)) (by decide) (fun _ _ _ _ _ => (pg_name (i := 20) sc_law.nd rfl (.inl rfl))) (fun _ _ _ _ _ => pts_yes) (fun _ _ _ _ _ => (se_dn (dn__law_poly B) LamX.takes0 (hr.mono (by decide)) (by rfl) (sa_cons (se_var (i := 1) rfl (.inr (.inl rfl))) (sa_cons se_int sa_nil)) (len_cons (len_cons len_nil))))) sa_nil)))
    (sss_cons (ss_set (i := 12) sc_law.nd rfl (.inl rfl) (se_lst sa_nil))
    (sss_cons (ss_for passes_fn rfl (pi_rng1 (by rfl) B.b_range (sa_cons se_int sa_nil)) (sg_name (i := 6) sc_law.nd rfl (.inr rfl)) (sss_one (ss_set (i := 12) sc_law.nd rfl (.inl rfl) (se_bin op_addT (se_var (i := 12) rfl (.inl rfl)) (se_lc (own := [("phase", 21)]) (ct := (.one 21)) rfl sc_law.nd (pi_seqI (se_var (i := 11) rfl (.inl rfl))) (blkOk_by (by rfl)) (by decide) (fun _ _ _ _ _ => (pg_name (i := 21) sc_law.nd rfl (.inl rfl))) (fun _ _ _ _ _ => pts_yes) (fun _ _ _ _ _ => (se_ifE (sc_cmp op_ltI (se_var (i := 6) rfl (.inr (.inl rfl))) (se_callB call_lenI (by rfl) B.b_len (by rfl) (sa_cons (se_var (i := 21) rfl (.inl rfl)) sa_nil)) (nomark _)) (se_ix (se_var (i := 21) rfl (.inl rfl)) (se_var (i := 6) rfl (.inr (.inl rfl))) (fun _ _ => rfl)) (se_tup (sa_cons se_int (sa_cons se_int sa_nil))))))))))
    (sss_cons (ss_if (sw_or (sc_cmp (op_neI (ru4 hr)) (se_dn (dn_from_phases B) takes_fn (hr.mono (by decide)) (by rfl) (sa_cons (se_var (i := 11) rfl (.inl rfl)) sa_nil) (len_cons len_nil)) (se_dn (dn__law_trim B) takes_fn (hr.mono (by decide)) (by rfl) (sa_cons (se_var (i := 12) rfl (.inl rfl)) sa_nil) (len_cons len_nil)) (nomark _)) (sw_or1 (sc_cmp (op_neI (ru4 hr)) (se_dn (dn_phases_of B) takes_fn (hr.mono (by decide)) (by rfl) (sa_cons (se_dn (dn_from_phases B) takes_fn (hr.mono (by decide)) (by rfl) (sa_cons (se_var (i := 11) rfl (.inl rfl)) sa_nil) (len_cons len_nil)) (sa_cons (se_var (i := 5) rfl (.inr (.inl rfl))) sa_nil)) (len_cons (len_cons len_nil))) (se_var (i := 11) rfl (.inl rfl)) (nomark _)))).pt (sss_one (ss_ret se_bl)) sss_nil)
    (sss_cons (ss_set (i := 13) sc_law.nd rfl (.inl rfl) (se_dn (dn_spread_filter B) takes_fn (hr.mono (by decide)) (by rfl) (sa_cons (se_var (i := 3) rfl (.inr (.inl rfl))) (sa_cons (se_var (i := 5) rfl (.inr (.inl rfl))) sa_nil)) (len_cons (len_cons len_nil))))
    (sss_cons (ss_if (sw_or (sc_cmp (op_neI (ru4 hr)) (se_var (i := 13) rfl (.inl rfl)) (se_dn (dn__law_trim B) takes_fn (hr.mono (by decide)) (by rfl) (sa_cons (se_lc (own := [("at", 6)]) (ct := (.one 6)) rfl sc_law.nd (pi_rng1 (by rfl) B.b_range (sa_cons (se_bin op_mulT (se_callB call_lenI (by rfl) B.b_len (by rfl) (sa_cons (se_var (i := 3) rfl (.inr (.inl rfl))) sa_nil)) (se_var (i := 5) rfl (.inr (.inl rfl)))) sa_nil)) (blkOk_by (by rfl)) (by decide) (fun _ _ _ _ _ => (pg_name (i := 6) sc_law.nd rfl (.inl rfl))) (fun _ _ _ _ _ => pts_yes) (fun _ _ _ _ _ => (se_ifE (sc_cmp (op_eqI (ru4 hr)) (se_var (i := 6) rfl (.inl rfl)) (se_bin op_mulT (se_var (i := 5) rfl (.inr (.inl rfl))) (se_bin op_divI (se_var (i := 6) rfl (.inl rfl)) (se_var (i := 5) rfl (.inr (.inl rfl))))) (nomark _)) (se_ix (se_var (i := 3) rfl (.inr (.inl rfl))) (se_bin op_divI (se_var (i := 6) rfl (.inl rfl)) (se_var (i := 5) rfl (.inr (.inl rfl)))) (fun _ _ => rfl)) (se_tup (sa_cons se_int (sa_cons se_int sa_nil)))))) sa_nil) (len_cons len_nil)) (nomark _)) (sw_or1 (sc_cmp (op_neI (ru4 hr)) (se_dn (dn_can_go_first B) takes_fn (hr.mono (by decide)) (by rfl) (sa_cons (se_var (i := 3) rfl (.inr (.inl rfl))) (sa_cons (se_var (i := 5) rfl (.inr (.inl rfl))) sa_nil)) (len_cons (len_cons len_nil))) (se_var (i := 13) rfl (.inl rfl)) (nomark _)))).pt (sss_one (ss_ret se_bl)) sss_nil)
    (sss_cons (ss_if (sw_or (sc_cmp (op_neI (ru4 hr)) (se_dn (dn_every B) takes_fn (hr.mono (by decide)) (by rfl) (sa_cons (se_dn (dn__law_filtered B) takes_fn (hr.mono (by decide)) (by rfl) (sa_cons (se_var (i := 13) rfl (.inl rfl)) (sa_cons (se_var (i := 2) rfl (.inr (.inl rfl))) sa_nil)) (len_cons (len_cons len_nil))) (sa_cons (se_var (i := 5) rfl (.inr (.inl rfl))) sa_nil)) (len_cons (len_cons len_nil))) (se_dn (dn__law_filtered B) takes_fn (hr.mono (by decide)) (by rfl) (sa_cons (se_var (i := 3) rfl (.inr (.inl rfl))) (sa_cons (se_var (i := 7) rfl (.inl rfl)) sa_nil)) (len_cons (len_cons len_nil))) (nomark _)) (sw_or1 (sc_cmp (op_neI (ru4 hr)) (se_dn (dn_between B) takes_fn (hr.mono (by decide)) (by rfl) (sa_cons (se_dn (dn__law_filtered B) takes_fn (hr.mono (by decide)) (by rfl) (sa_cons (se_var (i := 3) rfl (.inr (.inl rfl))) (sa_cons (se_var (i := 2) rfl (.inr (.inl rfl))) sa_nil)) (len_cons (len_cons len_nil))) (sa_cons (se_var (i := 5) rfl (.inr (.inl rfl))) sa_nil)) (len_cons (len_cons len_nil))) (se_dn (dn__law_filtered B) takes_fn (hr.mono (by decide)) (by rfl) (sa_cons (se_var (i := 13) rfl (.inl rfl)) (sa_cons (se_var (i := 8) rfl (.inl rfl)) sa_nil)) (len_cons (len_cons len_nil))) (nomark _)))).pt (sss_one (ss_ret se_bl)) sss_nil)
    (sss_cons (ss_set (i := 14) sc_law.nd rfl (.inl rfl) (se_dn (dn_can_go_behind B) takes_fn (hr.mono (by decide)) (by rfl) (sa_cons (se_var (i := 3) rfl (.inr (.inl rfl))) (sa_cons (se_var (i := 5) rfl (.inr (.inl rfl))) sa_nil)) (len_cons (len_cons len_nil))))
    (sss_cons (ss_set (i := 15) sc_law.nd rfl (.inl rfl) (se_callB (call_allI rfl) (by rfl) B.b_all (by rfl) (sa_cons (se_lc (own := [("at", 6)]) (ct := (.one 6)) rfl sc_law.nd (pi_rng1 (by rfl) B.b_range (sa_cons (se_callB call_lenI (by rfl) B.b_len (by rfl) (sa_cons (se_var (i := 3) rfl (.inr (.inl rfl))) sa_nil)) sa_nil)) (blkOk_by (by rfl)) (by decide) (fun _ _ _ _ _ => (pg_name (i := 6) sc_law.nd rfl (.inl rfl))) (fun _ _ _ _ _ => (pts_one (sc_cmp (op_neI (ru4 hr)) (se_var (i := 6) rfl (.inl rfl)) (se_bin op_mulT (se_var (i := 5) rfl (.inr (.inl rfl))) (se_bin op_divI (se_var (i := 6) rfl (.inl rfl)) (se_var (i := 5) rfl (.inr (.inl rfl))))) (nomark _)))) (fun _ _ _ _ _ => (se_cmp (op_eqI (ru4 hr)) (se_ix (se_var (i := 3) rfl (.inr (.inl rfl))) (se_var (i := 6) rfl (.inl rfl)) (fun _ _ => rfl)) (se_tup (sa_cons se_int (sa_cons se_int sa_nil))) (nomark _)))) sa_nil)))
    (sss_cons (ss_if (sw_or (sc_cmp (op_neI (ru4 hr)) (se_cmp op_isnotI (se_var (i := 14) rfl (.inl rfl)) se_non (nomark _)) (se_var (i := 15) rfl (.inl rfl)) (nomark _)) (sw_or1 (sw_and (sc_truth (se_var (i := 15) rfl (.inl rfl)) (fun _ => rfl)) (sw_and1 (sw_or (sc_cmp (op_neI (ru4 hr)) (se_var (i := 14) rfl (.inl rfl)) (se_ix (se_var (i := 10) rfl (.inl rfl)) se_int (fun _ _ => rfl)) (nomark _)) (sw_or1 (sc_cmp (op_neI (ru4 hr)) (se_dn (dn__law_filtered B) takes_fn (hr.mono (by decide)) (by rfl) (sa_cons (se_var (i := 14) rfl (.inl rfl)) (sa_cons (se_var (i := 7) rfl (.inl rfl)) sa_nil)) (len_cons (len_cons len_nil))) (se_dn (dn_every B) takes_fn (hr.mono (by decide)) (by rfl) (sa_cons (se_var (i := 9) rfl (.inr (.inl rfl))) (sa_cons (se_var (i := 5) rfl (.inr (.inl rfl))) sa_nil)) (len_cons (len_cons len_nil))) (nomark _)))).pt)).pt)).pt (sss_one (ss_ret se_bl)) sss_nil)
    (sss_cons (ss_if (sw_or (sc_cmp (op_neI (ru4 hr)) (se_dn (dn_can_go_behind B) takes_fn (hr.mono (by decide)) (by rfl) (sa_cons (se_var (i := 13) rfl (.inl rfl)) (sa_cons (se_var (i := 5) rfl (.inr (.inl rfl))) sa_nil)) (len_cons (len_cons len_nil))) (se_var (i := 3) rfl (.inr (.inl rfl))) (nomark _)) (sw_or1 (sc_cmp (op_neI (ru4 hr)) (se_dn (dn_spread_filter B) takes_fn (hr.mono (by decide)) (by rfl) (sa_cons (se_dn (dn_can_go_behind B) takes_fn (hr.mono (by decide)) (by rfl) (sa_cons (se_var (i := 13) rfl (.inl rfl)) (sa_cons (se_var (i := 5) rfl (.inr (.inl rfl))) sa_nil)) (len_cons (len_cons len_nil))) (sa_cons (se_var (i := 5) rfl (.inr (.inl rfl))) sa_nil)) (len_cons (len_cons len_nil))) (se_var (i := 13) rfl (.inl rfl)) (nomark _)))).pt (sss_one (ss_ret se_bl)) sss_nil)
    (sss_cons (ss_if (sw_or (sc_cmp (op_neI (ru4 hr)) (se_dn (dn_in_one B) takes_fn (hr.mono (by decide)) (by rfl) (sa_cons (se_var (i := 3) rfl (.inr (.inl rfl))) (sa_cons (se_var (i := 4) rfl (.inl rfl)) sa_nil)) (len_cons (len_cons len_nil))) (se_dn (dn__law_product B) takes_fn (hr.mono (by decide)) (by rfl) (sa_cons (se_var (i := 3) rfl (.inr (.inl rfl))) (sa_cons (se_var (i := 4) rfl (.inl rfl)) sa_nil)) (len_cons (len_cons len_nil))) (nomark _)) (sw_or1 (sc_cmp (op_neI (ru4 hr)) (se_dn (dn__law_filtered B) takes_fn (hr.mono (by decide)) (by rfl) (sa_cons (se_dn (dn_in_one B) takes_fn (hr.mono (by decide)) (by rfl) (sa_cons (se_var (i := 3) rfl (.inr (.inl rfl))) (sa_cons (se_var (i := 4) rfl (.inl rfl)) sa_nil)) (len_cons (len_cons len_nil))) (sa_cons (se_var (i := 2) rfl (.inr (.inl rfl))) sa_nil)) (len_cons (len_cons len_nil))) (se_dn (dn__law_filtered B) takes_fn (hr.mono (by decide)) (by rfl) (sa_cons (se_var (i := 4) rfl (.inl rfl)) (sa_cons (se_var (i := 9) rfl (.inr (.inl rfl))) sa_nil)) (len_cons (len_cons len_nil))) (nomark _)))).pt (sss_one (ss_ret se_bl)) sss_nil)
    (sss_cons (ss_set (i := 16) sc_law.nd rfl (.inl rfl) (se_dn (dn__law_next B) takes_fn (hr.mono (by decide)) (by rfl) (sa_cons (se_var (i := 1) rfl (.inr (.inl rfl))) (sa_cons se_int sa_nil)) (len_cons (len_cons len_nil))))
    (sss_cons (ss_set (i := 17) sc_law.nd rfl (.inl rfl) (se_callB (call_sumT rfl) (by rfl) B.b_sum (by rfl) (sa_cons (se_lc (own := [("place", 22)]) (ct := (.one 22)) rfl sc_law.nd (pi_rng1 (by rfl) B.b_range (sa_cons (se_var (i := 16) rfl (.inl rfl)) sa_nil)) (blkOk_by (by rfl)) (by decide) (fun _ _ _ _ _ => (pg_name (i := 22) sc_law.nd rfl (.inr rfl))) (fun _ _ _ _ _ => pts_yes) (fun _ _ _ _ _ => (se_callB call_lenI (by rfl) B.b_len (by rfl) (sa_cons (se_lc (own := [("at", 6)]) (ct := (.one 6)) rfl sc_law.nd (pi_rng1 (by rfl) B.b_range (sa_cons (se_callB call_lenI (by rfl) B.b_len (by rfl) (sa_cons (se_var (i := 3) rfl (.inr (.inl rfl))) sa_nil)) sa_nil)) (blkOk_by (by rfl)) (by decide) (fun _ _ _ _ _ => (pg_name (i := 6) sc_law.nd rfl (.inl rfl))) (fun _ _ _ _ _ => (pts_one (sw_and (sc_cmp op_leI (se_var (i := 6) rfl (.inl rfl)) (se_var (i := 22) rfl (.inr (.inl rfl))) (nomark _)) (sw_and1 (sc_cmp (op_neI (ru4 hr)) (se_ix (se_var (i := 3) rfl (.inr (.inl rfl))) (se_var (i := 6) rfl (.inl rfl)) (fun _ _ => rfl)) (se_tup (sa_cons se_int (sa_cons se_int sa_nil))) (nomark _)))).pt)) (fun _ _ _ _ _ => se_int)) sa_nil)))) sa_nil)))
    (sss_cons (ss_set (i := 18) sc_law.nd rfl (.inl rfl) (se_callB (call_sumT rfl) (by rfl) B.b_sum (by rfl) (sa_cons (se_lc (own := [("place", 22)]) (ct := (.one 22)) rfl sc_law.nd (pi_rng1 (by rfl) B.b_range (sa_cons (se_var (i := 16) rfl (.inl rfl)) sa_nil)) (blkOk_by (by rfl)) (by decide) (fun _ _ _ _ _ => (pg_name (i := 22) sc_law.nd rfl (.inr rfl))) (fun _ _ _ _ _ => (pts_one (sc_cmp (op_eqI (ru4 hr)) (se_var (i := 22) rfl (.inr (.inl rfl))) (se_bin op_mulT (se_var (i := 5) rfl (.inr (.inl rfl))) (se_bin op_divI (se_var (i := 22) rfl (.inr (.inl rfl))) (se_var (i := 5) rfl (.inr (.inl rfl))))) (nomark _)))) (fun _ _ _ _ _ => (se_callB call_lenI (by rfl) B.b_len (by rfl) (sa_cons (se_lc (own := [("at", 6)]) (ct := (.one 6)) rfl sc_law.nd (pi_rng1 (by rfl) B.b_range (sa_cons (se_callB call_lenI (by rfl) B.b_len (by rfl) (sa_cons (se_var (i := 3) rfl (.inr (.inl rfl))) sa_nil)) sa_nil)) (blkOk_by (by rfl)) (by decide) (fun _ _ _ _ _ => (pg_name (i := 6) sc_law.nd rfl (.inl rfl))) (fun _ _ _ _ _ => (pts_one (sw_and (sc_cmp op_leI (se_var (i := 6) rfl (.inl rfl)) (se_var (i := 22) rfl (.inr (.inl rfl))) (nomark _)) (sw_and1 (sc_cmp (op_neI (ru4 hr)) (se_ix (se_var (i := 3) rfl (.inr (.inl rfl))) (se_var (i := 6) rfl (.inl rfl)) (fun _ _ => rfl)) (se_tup (sa_cons se_int (sa_cons se_int sa_nil))) (nomark _)))).pt)) (fun _ _ _ _ _ => se_int)) sa_nil)))) sa_nil)))
    (sss_one (ss_ret (se_and (se_cmp (op_eqI (ru4 hr)) (se_dn (dn_products_needed B) takes_fn (hr.mono (by decide)) (by rfl) (sa_cons (se_var (i := 3) rfl (.inr (.inl rfl))) (sa_cons (se_var (i := 16) rfl (.inl rfl)) (sa_cons (se_var (i := 5) rfl (.inr (.inl rfl))) sa_nil))) (len_cons (len_cons (len_cons len_nil)))) (se_tup (sa_cons (se_var (i := 17) rfl (.inl rfl)) (sa_cons (se_var (i := 18) rfl (.inl rfl)) sa_nil))) (nomark _)) (se_one (se_dnG0 (dn__law_refused_right B) takes_fn hgd (hr.mono (by decide)) (by rfl)))))))))))))))))))))))))))))))

end law_k17

set_option Elab.async false
set_option linter.all false
set_option maxRecDepth 100000
set_option maxHeartbeats 4000000
/-! PL1: plain facts of readings that all laws share: ints, the draws. -/
namespace PL
open PySem PySem.Spec PyProof.Rows L2 PI
def r__law_cell_at : SemS :=
  (sSeq (sIf (rTBl (rBin cLt (rVar 1) (rCall lenI (rCons (rVar 0) rNil)))) (sRet (rBin idxI (rVar 0) (rVar 1))) sPass)
    (sRet (rC (.int (0)))))
def d__law_cell_at : List IV → Sto → RE IV := callI 2 r__law_cell_at
def r__law_draw : SemS :=
  (sSeq (sAsg (rTup (rCons (rC (.int (1000003))) (rCons (rC (.int (1000033))) (rCons (rC (.int (1000037))) (rCons (rC (.int (1000039))) (rCons (rC (.int (1000081))) (rCons (rC (.int (1000099))) (rCons (rC (.int (1000117))) (rCons (rC (.int (1000121))) (rCons (rC (.int (1000133))) (rCons (rC (.int (1000151))) (rCons (rC (.int (1000159))) (rCons (rC (.int (1000171))) (rCons (rC (.int (1000183))) (rCons (rC (.int (1000187))) (rCons (rC (.int (1000193))) (rCons (rC (.int (1000199))) rNil))))))))))))))))) (gN 3))
    (sRet (rBin modI (rBin modI (rCall intI (rCons (rBin addI (rBin mulT (rVar 0) (rC (.int (48271)))) (rBin mulT (rVar 1) (rC (.int (69621))))) rNil)) (rBin idxI (rVar 3) (rBin modI (rCall intI (rCons (rVar 1) rNil)) (rC (.int (16)))))) (rVar 2))))
def d__law_draw : List IV → Sto → RE IV := callI 4 r__law_draw
def r__law_number : SemS :=
  (sSeq (sAsg (rC (.int (1))) (gN 3))
    (sSeq (sFor (fRng1 (rCons (rBin modI (rCall intI (rCons (rVar 1) rNil)) (rC (.int (24)))) rNil)) (gN 4) (sAsg (rBin mulT (rVar 3) (rC (.int (1009)))) (gN 3)))
    (sSeq (sAsg (rBin divI (rBin subI (rVar 0) (rBin powI (rC (.int (10))) (rC (.int (18))))) (rVar 3)) (gN 5))
    (sSeq (sIf (rTBl (rBin cGt (rVar 5) (rC (.int (0))))) (sRet (rBin modI (rBin modI (rCall intI (rCons (rVar 5) rNil)) (rC (.int (1009)))) (rVar 2))) sPass)
    (sSeq (sAsg (rBin modI (rCall intI (rCons (rVar 0) rNil)) (rC (.int (1000003)))) (gN 6))
    (sRet (rBin modI (rDef d__law_draw (rCons (rBin mulT (rBin addI (rVar 6) (rBin mulT (rC (.int (977))) (rVar 1))) (rBin addI (rBin addI (rVar 6) (rBin mulT (rC (.int (31))) (rVar 1))) (rC (.int (5))))) (rCons (rBin addI (rBin modI (rCall intI (rCons (rVar 1) rNil)) (rC (.int (9)))) (rC (.int (1)))) (rCons (rC (.int (999983))) rNil)))) (rVar 2))))))))
def d__law_number : List IV → Sto → RE IV := callI 7 r__law_number
def r__law_next : SemS :=
  (sSeq (sAsg (rBin addI (rBin idxI (rVar 0) (rC (.int (2)))) (rC (.int (1)))) (gSubI (rVar 0) (rC (.int (2)))))
    (sSeq (sAsg (rBin divI (rBin idxI (rVar 0) (rC (.int (2)))) (rC (.int (12)))) (gN 2))
    (sSeq (sAsg (rBin addI (rDef d__law_cell_at (rCons (rBin idxI (rVar 0) (rC (.int (0)))) (rCons (rBin addI (rBin idxI (rVar 0) (rC (.int (1)))) (rVar 2)) rNil))) (rBin mulT (rC (.int (31))) (rVar 2))) (gN 3))
    (sRet (rDef d__law_number (rCons (rVar 3) (rCons (rBin addI (rBin modI (rCall intI (rCons (rBin idxI (rVar 0) (rC (.int (2)))) rNil)) (rC (.int (12)))) (rC (.int (1)))) (rCons (rVar 1) rNil))))))))
def d__law_next : List IV → Sto → RE IV := callI 4 r__law_next
/-- below the line up to which divisors are served -/
def Sm (i : Int) : Prop := i.natAbs < 2 ^ 9000
theorem log2_lt {n k : Nat} (h : n < 2 ^ k) (hk : 0 < k) : n.log2 < k := by
  by_cases h0 : n = 0
  · subst h0; simpa [Nat.log2_zero] using hk
  · exact (Nat.log2_lt h0).mpr h
theorem div_ok {a b : Int} (st : Sto) (hb : 0 < b) (h : Sm b) : divI (.int a) (.int b) st = some (.int (a / b), st) := by
  show (bif decide (0 < b) && Nat.blt b.natAbs.log2 9000 then _ else _) = _
  have h1 : Nat.blt b.natAbs.log2 9000 = true := by
    have := log2_lt h (by decide)
    simp [Nat.blt]; omega
  rw [decide_eq_true hb, h1]; rfl
theorem mul_ok {a b : Int} (st : Sto) (ha : Sm a) (hb : Sm b) : mulT (.int a) (.int b) st = some (.int (a * b), st) := by
  show (bif mulOk a b then _ else _) = _
  have : mulOk a b = true := by
    unfold mulOk
    have h1 := log2_lt ha (by decide)
    have h2 := log2_lt hb (by decide)
    apply Nat.ble_eq_true_of_le
    omega
  rw [this]; rfl
theorem gt_eq (i j : Int) (st : Sto) : cGt (.int i) (.int j) st = some (.bl (decide (j < i)), st) := rfl
theorem lt_eq (i j : Int) (st : Sto) : cLt (.int i) (.int j) st = some (.bl (decide (i < j)), st) := rfl
theorem le_eq (i j : Int) (st : Sto) : cLe (.int i) (.int j) st = some (.bl (decide (i ≤ j)), st) := rfl
theorem ge_eq (i j : Int) (st : Sto) : cGe (.int i) (.int j) st = some (.bl (decide (j ≤ i)), st) := rfl
theorem eq_eq (i j : Int) (st : Sto) : cEq (.int i) (.int j) st = some (.bl (decide (i = j)), st) := rfl
theorem ne_eq (i j : Int) (st : Sto) : cNe (.int i) (.int j) st = some (.bl (!decide (i = j)), st) := rfl
theorem add_ok (a b : Int) (st : Sto) : addI (.int a) (.int b) st = some (.int (a + b), st) := rfl
theorem sub_ok (a b : Int) (st : Sto) : subI (.int a) (.int b) st = some (.int (a - b), st) := rfl
theorem neg_ok (i : Int) (st : Sto) : negI (.int i) st = some (.int (-i), st) := rfl
theorem sm_le {a b : Int} (h : a.natAbs ≤ b.natAbs) (hb : Sm b) : Sm a := Nat.lt_of_le_of_lt h hb
theorem sm60 {i : Int} (h : i.natAbs ≤ 10 ^ 60) : Sm i := Nat.lt_of_le_of_lt h (by decide +kernel)
theorem mod_ok {a b : Int} (st : Sto) (hb : 0 < b) : modI (.int a) (.int b) st = some (.int (a % b), st) := by
  show (bif decide (0 < b) then _ else _) = _
  rw [decide_eq_true hb]; rfl
theorem sm_of {a : Int} (h : a.natAbs < 2 ^ 100) : Sm a := Nat.lt_of_lt_of_le h (by decide +kernel)
theorem int_ok (a : Int) (st : Sto) : intI [.int a] st = some (.int a, st) := rfl
theorem d__law_draw_ok (c k b : Int) (st : Sto) (hc : c.natAbs < 2 ^ 100) (hk0 : 0 ≤ k) (hk : k < 16) (hb : 0 < b) : ∃ v, 0 ≤ v ∧ v < b ∧ d__law_draw [.int c, .int k, .int b] st = .ok (.int v) st := by
  have hp : ∃ p : Int, 0 < p ∧ ∀ st, idxI (.tup [IV.int 1000003, .int 1000033, .int 1000037, .int 1000039, .int 1000081, .int 1000099, .int 1000117, .int 1000121, .int 1000133, .int 1000151, .int 1000159, .int 1000171, .int 1000183, .int 1000187, .int 1000193, .int 1000199]) (.int (k % 16)) st = some (.int p, st) := by
    have : k = 0 ∨ k = 1 ∨ k = 2 ∨ k = 3 ∨ k = 4 ∨ k = 5 ∨ k = 6 ∨ k = 7 ∨ k = 8 ∨ k = 9 ∨ k = 10 ∨ k = 11 ∨ k = 12 ∨ k = 13 ∨ k = 14 ∨ k = 15 := by omega
    rcases this with rfl | rfl | rfl | rfl | rfl | rfl | rfl | rfl | rfl | rfl | rfl | rfl | rfl | rfl | rfl | rfl <;> exact ⟨_, by decide, fun _ => rfl⟩
  obtain ⟨p, hp0, hp⟩ := hp
  refine ⟨(c * 48271 + k * 69621) % p % b, Int.emod_nonneg _ (Int.ne_of_gt hb), Int.emod_lt_of_pos _ hb, ?_⟩
  unfold d__law_draw r__law_draw
  have m1 : ∀ st, mulT (.int c) (.int 48271) st = some (.int (c * 48271), st) := fun st => mul_ok st (sm_of hc) (sm_of (by decide))
  have m2 : ∀ st, mulT (.int k) (.int 69621) st = some (.int (k * 69621), st) := fun st => mul_ok st (sm_of (by omega)) (sm_of (by decide))
  have m3 : ∀ (x : Int) st, modI (.int x) (.int 16) st = some (.int (x % 16), st) := fun x st => mod_ok st (by decide)
  have lt : Nat.ble 16 lineI = true := by decide
  simp only [callI, startI, List.map_cons, List.map_nil, List.length_cons, List.length_nil, Nat.reduceAdd, Nat.reduceSub, List.replicate_one, List.cons_append, List.nil_append, List.replicate, List.append_nil, sSeq, sAsg, rTup, rC, rCons, rNil, RE.bind, lt, cond_true, RS.ofE, gN, RS.ofG, List.set_cons_zero, List.set_cons_succ, RS.seq, sRet, rBin, rCall, rVar, List.getElem?_cons_zero, List.getElem?_cons_succ, RE.ofO, m1, m2, add_ok, int_ok, m3, hp, mod_ok _ hp0, mod_ok _ hb]
theorem d__law_number_ok (C k b : Int) (st : Sto) (hk0 : 1 ≤ k) (hk : k ≤ 12) (hb : 0 < b) : ∃ v, 0 ≤ v ∧ v < b ∧ d__law_number [.int C, .int k, .int b] st = .ok (.int v) st := by
  have hl : ∃ (z : Int) (e4 : Option IV), 0 < z ∧ Sm z ∧ sFor (fRng1 (rCons (rBin modI (rCall intI (rCons (rVar 1) rNil)) (rC (.int (24)))) rNil)) (gN 4) (sAsg (rBin mulT (rVar 3) (rC (.int (1009)))) (gN 3)) [some (.int C), some (.int k), some (.int b), some (.int 1), none, none, none] st = .nx [some (.int C), some (.int k), some (.int b), some (.int z), e4, none, none] st := by
    have : k = 1 ∨ k = 2 ∨ k = 3 ∨ k = 4 ∨ k = 5 ∨ k = 6 ∨ k = 7 ∨ k = 8 ∨ k = 9 ∨ k = 10 ∨ k = 11 ∨ k = 12 := by omega
    rcases this with rfl | rfl | rfl | rfl | rfl | rfl | rfl | rfl | rfl | rfl | rfl | rfl
    · exact ⟨1009 ^ 1, some (.int 0), by decide, sm60 (by decide), by kernel_rfl⟩
    · exact ⟨1009 ^ 2, some (.int 1), by decide, sm60 (by decide), by kernel_rfl⟩
    · exact ⟨1009 ^ 3, some (.int 2), by decide, sm60 (by decide), by kernel_rfl⟩
    · exact ⟨1009 ^ 4, some (.int 3), by decide, sm60 (by decide), by kernel_rfl⟩
    · exact ⟨1009 ^ 5, some (.int 4), by decide, sm60 (by decide), by kernel_rfl⟩
    · exact ⟨1009 ^ 6, some (.int 5), by decide, sm60 (by decide), by kernel_rfl⟩
    · exact ⟨1009 ^ 7, some (.int 6), by decide, sm60 (by decide), by kernel_rfl⟩
    · exact ⟨1009 ^ 8, some (.int 7), by decide, sm60 (by decide), by kernel_rfl⟩
    · exact ⟨1009 ^ 9, some (.int 8), by decide, sm60 (by decide), by kernel_rfl⟩
    · exact ⟨1009 ^ 10, some (.int 9), by decide, sm60 (by decide), by kernel_rfl⟩
    · exact ⟨1009 ^ 11, some (.int 10), by decide, sm60 (by decide), by kernel_rfl⟩
    · exact ⟨1009 ^ 12, some (.int 11), by decide, sm60 (by decide), by kernel_rfl⟩
  obtain ⟨z, e4, hz, sz, hl⟩ := hl
  have hs0 : 0 ≤ C % 1000003 := Int.emod_nonneg _ (by decide)
  have hs1 : C % 1000003 < 1000003 := Int.emod_lt_of_pos _ (by decide)
  have m1 : ∀ st, mulT (.int 977) (.int k) st = some (.int (977 * k), st) := fun st => mul_ok st (sm_of (by decide)) (sm_of (by omega))
  have m2 : ∀ st, mulT (.int 31) (.int k) st = some (.int (31 * k), st) := fun st => mul_ok st (sm_of (by decide)) (sm_of (by omega))
  have m3 : ∀ st, mulT (.int (C % 1000003 + 977 * k)) (.int (C % 1000003 + 31 * k + 5)) st = some (.int ((C % 1000003 + 977 * k) * (C % 1000003 + 31 * k + 5)), st) := fun st => mul_ok st (sm_of (by omega)) (sm_of (by omega))
  have big : ((C % 1000003 + 977 * k) * (C % 1000003 + 31 * k + 5)).natAbs < 2 ^ 100 := by
    rw [Int.natAbs_mul]
    have a1 : (C % 1000003 + 977 * k).natAbs ≤ 2 ^ 30 := by omega
    have a2 : (C % 1000003 + 31 * k + 5).natAbs ≤ 2 ^ 30 := by omega
    exact Nat.lt_of_le_of_lt (Nat.mul_le_mul a1 a2) (by decide)
  have k9 : 0 ≤ k % 9 ∧ k % 9 < 9 := ⟨Int.emod_nonneg _ (by decide), Int.emod_lt_of_pos _ (by decide)⟩
  obtain ⟨v, hv0, hv1, hv⟩ := d__law_draw_ok ((C % 1000003 + 977 * k) * (C % 1000003 + 31 * k + 5)) (k % 9 + 1) 999983 st big (by omega) (by omega) (by decide)
  have p1 : ∀ st, powI (.int 10) (.int 18) st = some (.int (10 ^ 18), st) := fun _ => rfl
  have s1 : ∀ (x y : Int) (st : Sto), subI (.int x) (.int y) st = some (.int (x - y), st) := fun _ _ _ => rfl
  by_cases h : 0 < (C - 10 ^ 18) / z
  · refine ⟨(C - 10 ^ 18) / z % 1009 % b, Int.emod_nonneg _ (Int.ne_of_gt hb), Int.emod_lt_of_pos _ hb, ?_⟩
    unfold d__law_number r__law_number
    simp only [callI, startI, List.map_cons, List.map_nil, List.length_cons, List.length_nil, Nat.reduceAdd, Nat.reduceSub, List.replicate_one, List.cons_append, List.nil_append, List.replicate, List.append_nil, sSeq]
    simp only [sAsg, rC, RS.ofE, gN, RS.ofG, List.set_cons_zero, List.set_cons_succ, RS.seq, sSeq]
    rw [hl]
    simp only [RS.seq, rBin, rVar, rCons, rNil, List.getElem?_cons_zero, List.getElem?_cons_succ, RE.bind, RE.ofO, p1, s1, div_ok _ hz sz, RS.ofE, RS.ofG, List.set_cons_zero, List.set_cons_succ, sIf, rTBl, gt_eq, rC, decide_eq_true h, cond_true, sRet, rCall, int_ok, mod_ok _ (show (0 : Int) < 1009 by decide), mod_ok _ hb]
  · refine ⟨v % b, Int.emod_nonneg _ (Int.ne_of_gt hb), Int.emod_lt_of_pos _ hb, ?_⟩
    unfold d__law_number r__law_number
    simp only [callI, startI, List.map_cons, List.map_nil, List.length_cons, List.length_nil, Nat.reduceAdd, Nat.reduceSub, List.replicate_one, List.cons_append, List.nil_append, List.replicate, List.append_nil, sSeq]
    simp only [sAsg, rC, RS.ofE, gN, RS.ofG, List.set_cons_zero, List.set_cons_succ, RS.seq, sSeq]
    rw [hl]
    simp only [RS.seq, rBin, rVar, rCons, rNil, List.getElem?_cons_zero, List.getElem?_cons_succ, RE.bind, RE.ofO, p1, s1, div_ok _ hz sz, RS.ofE, RS.ofG, List.set_cons_zero, List.set_cons_succ, sIf, rTBl, gt_eq, rC, decide_eq_false h, cond_false, sPass, sRet, rCall, int_ok, rDef, mod_ok _ (show (0 : Int) < 1000003 by decide), mod_ok _ (show (0 : Int) < 9 by decide), m1, m2, m3, add_ok, hv, mod_ok _ hb]
theorem d__law_cell_ok (m : Nat) (ns : List Int) (k : Int) (st : Sto) (hm : st.os[m]? = some (.lst (ns.map IV.int))) (hk : 0 ≤ k) : ∃ c, d__law_cell_at [.ref m, .int k] st = .ok (.int c) st := by
  have hl : lenI [.ref m] st = some (.int ns.length, st) := by
    show (match lstAt st m with | some xs => some (IV.int xs.length, st) | none => none) = _
    unfold lstAt
    rw [hm]
    simp
  have hlt : cLt (.int k) (.int ns.length) st = some (.bl (decide (k < ns.length)), st) := rfl
  unfold d__law_cell_at r__law_cell_at
  by_cases h : k < ns.length
  · have hi : ∃ c, idxI (.ref m) (.int k) st = some (.int c, st) := by
      have hlt2 : k.toNat < ns.length := by omega
      refine ⟨ns[k.toNat], ?_⟩
      show (match lstAt st m with | some xs => (match L2.atI xs k with | some v => some (v, st) | none => none) | none => none) = _
      unfold lstAt
      rw [hm]
      have ha : L2.atI (ns.map IV.int) k = some (.int ns[k.toNat]) := by
        obtain ⟨j, rfl⟩ := Int.eq_ofNat_of_zero_le hk
        refine L2.atI_nat (j := j) ?_
        rw [List.getElem?_map, List.getElem?_eq_getElem (by simpa using hlt2)]
        rfl
      simp only [ha]
    obtain ⟨c, hi⟩ := hi
    refine ⟨c, ?_⟩
    simp only [callI, startI, List.map_cons, List.map_nil, List.length_cons, List.length_nil, Nat.reduceAdd, Nat.reduceSub, List.replicate_one, List.cons_append, List.nil_append, List.replicate, List.append_nil, sSeq, sIf, rTBl, rBin, rVar, rCall, rCons, rNil, List.getElem?_cons_zero, List.getElem?_cons_succ, RE.bind, RE.ofO, hl, hlt, decide_eq_true h, RS.ofE, cond_true, sRet, hi, RS.seq]
  · refine ⟨0, ?_⟩
    simp only [callI, startI, List.map_cons, List.map_nil, List.length_cons, List.length_nil, Nat.reduceAdd, Nat.reduceSub, List.replicate_one, List.cons_append, List.nil_append, List.replicate, List.append_nil, sSeq, sIf, rTBl, rBin, rVar, rCall, rCons, rNil, rC, List.getElem?_cons_zero, List.getElem?_cons_succ, RE.bind, RE.ofO, hl, hlt, decide_eq_false h, RS.ofE, cond_false, sPass, sRet, RS.seq]
theorem d__law_next_ok (n m : Nat) (ns : List Int) (cnt b : Int) (st : Sto) (hn : st.os[n]? = some (.lst [.ref m, .int 0, .int cnt])) (hm : st.os[m]? = some (.lst (ns.map IV.int))) (hnm : n ≠ m) (hc : 0 ≤ cnt) (hc2 : cnt < 1000) (hb : 0 < b) :
    ∃ v, 0 ≤ v ∧ v < b ∧ d__law_next [.ref n, .int b] st = .ok (.int v) { os := st.os.set n (.lst [.ref m, .int 0, .int (cnt + 1)]), low := st.low } := by
  have hnl : n < st.os.length := (List.getElem?_eq_some_iff.mp hn).1
  have hq0 : 0 ≤ (cnt + 1) / 12 := Int.ediv_nonneg (by omega) (by decide)
  have hq1 : (cnt + 1) / 12 ≤ cnt + 1 := Int.ediv_le_self _ (by omega)
  have hm' : ({ os := st.os.set n (.lst [.ref m, .int 0, .int (cnt + 1)]), low := st.low } : Sto).os[m]? = some (.lst (ns.map IV.int)) := by
    show (st.os.set n _)[m]? = _
    rw [List.getElem?_set_ne hnm]; exact hm
  have hn' : (st.os.set n (IO.lst [.ref m, .int 0, .int (cnt + 1)]))[n]? = some (.lst [.ref m, .int 0, .int (cnt + 1)]) := List.getElem?_set_self hnl
  obtain ⟨c, hcell⟩ := d__law_cell_ok m ns (0 + (cnt + 1) / 12) { os := st.os.set n (.lst [.ref m, .int 0, .int (cnt + 1)]), low := st.low } hm' (by omega)
  have hk0 : 0 ≤ (cnt + 1) % 12 := Int.emod_nonneg _ (by decide)
  have hk1 : (cnt + 1) % 12 < 12 := Int.emod_lt_of_pos _ (by decide)
  obtain ⟨v, hv0, hv1, hv⟩ := d__law_number_ok (c + 31 * ((cnt + 1) / 12)) ((cnt + 1) % 12 + 1) b { os := st.os.set n (.lst [.ref m, .int 0, .int (cnt + 1)]), low := st.low } (by omega) (by omega) hb
  refine ⟨v, hv0, hv1, ?_⟩
  have g2 : idxI (.ref n) (.int 2) st = some (.int cnt, st) := by
    show (match lstAt st n with | some xs => (match L2.atI xs 2 with | some v => some (v, st) | none => none) | none => none) = _
    unfold lstAt; rw [hn]; rfl
  have s2 : setI (.ref n) (.int 2) (.int (cnt + 1)) st = some { os := st.os.set n (.lst [.ref m, .int 0, .int (cnt + 1)]), low := st.low } := by
    unfold setI; simp only [hn]; rfl
  have h2 : idxI (.ref n) (.int 2) { os := st.os.set n (.lst [.ref m, .int 0, .int (cnt + 1)]), low := st.low } = some (.int (cnt + 1), { os := st.os.set n (.lst [.ref m, .int 0, .int (cnt + 1)]), low := st.low }) := by
    show (match lstAt _ n with | some xs => (match L2.atI xs 2 with | some v => some (v, _) | none => none) | none => none) = _
    unfold lstAt; simp only [hn']; rfl
  have h1 : idxI (.ref n) (.int 1) { os := st.os.set n (.lst [.ref m, .int 0, .int (cnt + 1)]), low := st.low } = some (.int 0, { os := st.os.set n (.lst [.ref m, .int 0, .int (cnt + 1)]), low := st.low }) := by
    show (match lstAt _ n with | some xs => (match L2.atI xs 1 with | some v => some (v, _) | none => none) | none => none) = _
    unfold lstAt; simp only [hn']; rfl
  have h0 : idxI (.ref n) (.int 0) { os := st.os.set n (.lst [.ref m, .int 0, .int (cnt + 1)]), low := st.low } = some (.ref m, { os := st.os.set n (.lst [.ref m, .int 0, .int (cnt + 1)]), low := st.low }) := by
    show (match lstAt _ n with | some xs => (match L2.atI xs 0 with | some v => some (v, _) | none => none) | none => none) = _
    unfold lstAt; simp only [hn']; rfl
  have mm : ∀ st, mulT (.int 31) (.int ((cnt + 1) / 12)) st = some (.int (31 * ((cnt + 1) / 12)), st) := fun st => mul_ok st (sm_of (by decide)) (sm_of (by omega))
  have dv : ∀ (x : Int) st, divI (.int x) (.int 12) st = some (.int (x / 12), st) := fun x st => div_ok st (by decide) (sm_of (by decide))
  unfold d__law_next r__law_next
  simp only [callI, startI, List.map_cons, List.map_nil, List.length_cons, List.length_nil, Nat.reduceAdd, Nat.reduceSub, List.replicate_one, List.cons_append, List.nil_append, List.replicate, List.append_nil, sSeq, sAsg, rBin, rVar, rC, rCall, rCons, rNil, rDef, List.getElem?_cons_zero, List.getElem?_cons_succ, RE.bind, RE.ofO, g2, add_ok, RS.ofE, gSubI, s2, RS.ofG, RS.seq, h2, dv, gN, List.set_cons_zero, List.set_cons_succ, h0, h1, hcell, mm, int_ok, mod_ok _ (show (0 : Int) < 12 by decide), sRet, hv]
theorem atI_int {ns : List Int} {v : Int} (h0 : 0 ≤ v) (h : v < ns.length) : ∃ c, c ∈ ns ∧ L2.atI (ns.map IV.int) v = some (.int c) := by
  obtain ⟨j, rfl⟩ := Int.eq_ofNat_of_zero_le h0
  have hj : j < ns.length := by omega
  exact ⟨ns[j], List.getElem_mem hj, L2.atI_nat (j := j) (by rw [List.getElem?_map, List.getElem?_eq_getElem hj]; rfl)⟩
/-- a comprehension whose element changes nothing -/
theorem loopC_pure (i : Nat) (env0 : IEnv) (te : SemE) (st : Sto) (g : IV → IV) : ∀ (xs acc : List IV), (∀ x ∈ xs, te (env0.set i (some x)) st = .ok (g x) st) → loopC (.one i) env0 rYes te xs acc st = .ok (acc.reverse ++ xs.map g) st
  | [], acc, _ => by simp [loopC]
  | x :: xs, acc, h => by
    unfold loopC
    simp only [CT.put, rYes, h x List.mem_cons_self]
    rw [loopC_pure i env0 te st g xs (g x :: acc) fun y hy => h y (List.mem_cons_of_mem _ hy)]
    simp
theorem mem_intsI : ∀ (n : Nat) (lo : Int) (x : IV), x ∈ intsI lo n → ∃ i : Int, x = .int i ∧ lo ≤ i ∧ i < lo + n
  | 0, _, _, h => nomatch h
  | n + 1, lo, x, h => by
    rcases List.mem_cons.mp h with rfl | h
    · exact ⟨lo, rfl, Int.le_refl _, by omega⟩
    · obtain ⟨i, h1, h2, h3⟩ := mem_intsI n (lo + 1) x h
      exact ⟨i, h1, by omega, by omega⟩
theorem intsI_len : ∀ (n : Nat) (lo : Int), (intsI lo n).length = n
  | 0, _ => rfl
  | n + 1, lo => by show (intsI (lo + 1) n).length + 1 = n + 1; rw [intsI_len]
end PL

set_option Elab.async false
set_option linter.all false
set_option maxRecDepth 100000
set_option maxHeartbeats 4000000
/-! PL2: stores that only grow; comprehensions and loops whose turns are known. -/
namespace PL
open PySem PySem.Spec PyProof.Rows L2 PI
/-- the store only grew -/
structure Gw (st st' : Sto) : Prop where
  os : st.os <+: st'.os
  low : st'.low = st.low
theorem Gw.refl (st : Sto) : Gw st st := ⟨List.prefix_refl _, rfl⟩
theorem Gw.trans {a b c : Sto} (h : Gw a b) (h' : Gw b c) : Gw a c := ⟨h.os.trans h'.os, h'.low.trans h.low⟩
theorem Gw.get {st st' : Sto} {n : Nat} {o : IO} (g : Gw st st') (h : st.os[n]? = some o) : st'.os[n]? = some o := by
  obtain ⟨t, e⟩ := g.os
  rw [← e, List.getElem?_append_left (List.getElem?_eq_some_iff.mp h).1]; exact h
theorem lst_some {st : Sto} {n : Nat} {xs : List IV} (h : lstAt st n = some xs) : ∃ o, st.os[n]? = some o ∧ (o = .lst xs ∨ o = .frl xs) := by
  unfold lstAt at h
  split at h
  · cases h; exact ⟨_, by assumption, .inl rfl⟩
  · cases h; exact ⟨_, by assumption, .inr rfl⟩
  · cases h
theorem lst_of {st : Sto} {n : Nat} {xs : List IV} (h : st.os[n]? = some (.lst xs)) : lstAt st n = some xs := by
  unfold lstAt; rw [h]
theorem Gw.lst {st st' : Sto} {n : Nat} {xs : List IV} (g : Gw st st') (h : lstAt st n = some xs) : lstAt st' n = some xs := by
  obtain ⟨o, ho, hx⟩ := lst_some h
  have := g.get ho
  unfold lstAt; rw [this]
  rcases hx with rfl | rfl <;> rfl
theorem Gw.len {st st' : Sto} (g : Gw st st') : st.os.length ≤ st'.os.length := g.os.length_le
theorem Gw.alloc (st : Sto) (o : IO) : Gw st { os := st.os ++ [o], low := st.low } := ⟨List.prefix_append _ _, rfl⟩
theorem new_get (st : Sto) (o : IO) (l : Nat) : ({ os := st.os ++ [o], low := l } : Sto).os[st.os.length]? = some o := by simp
theorem new_lst (st : Sto) (xs : List IV) (l : Nat) : lstAt { os := st.os ++ [.lst xs], low := l } st.os.length = some xs := lst_of (new_get st _ l)
theorem Gw.set {st st' : Sto} (g : Gw st st') {n : Nat} (h : st.os.length ≤ n) (o : IO) : Gw st { os := st'.os.set n o, low := st'.low } := by
  refine ⟨?_, g.low⟩
  obtain ⟨t, e⟩ := g.os
  show st.os <+: st'.os.set n o
  rw [← e, List.set_append_right _ _ h]
  exact List.prefix_append _ _
/-- it gives v, and the store only grew -/
def Ok {α : Type} (m : RE α) (st : Sto) (v : α) : Prop := ∃ st', m = .ok v st' ∧ Gw st st'
/-- it gives a list of the store -/
def OkL (m : RE IV) (st : Sto) (xs : List IV) : Prop := ∃ n st', m = .ok (.ref n) st' ∧ Gw st st' ∧ lstAt st' n = some xs
theorem Ok.same {α : Type} {m : RE α} {st : Sto} {v : α} (h : m = .ok v st) : Ok m st v := ⟨st, h, .refl st⟩
theorem tup_lst {n : Nat} {st : Sto} {xs : List IV} (h : lstAt st n = some xs) : tupleI [.ref n] st = some (.tup xs, st) := by
  show (match lstAt st n with | some xs => some (IV.tup xs, st) | none => none) = _
  rw [h]
theorem bools_map {κ : Type} (f : κ → Bool) : ∀ ks : List κ, bools (ks.map fun k => .bl (f k)) = some (ks.map f)
  | [] => rfl
  | k :: ks => by
    show (match bools (ks.map fun k => IV.bl (f k)) with | some bs => some (f k :: bs) | none => none) = _
    rw [bools_map f ks]; rfl
theorem ints_map {κ : Type} (f : κ → Int) : ∀ ks : List κ, intsOf (ks.map fun k => .int (f k)) = some (ks.map f)
  | [] => rfl
  | k :: ks => by
    show (match intsOf (ks.map fun k => IV.int (f k)) with | some bs => some (f k :: bs) | none => none) = _
    rw [ints_map f ks]; rfl
theorem any_lst {κ : Type} {n : Nat} {st : Sto} {ks : List κ} {f : κ → Bool} (h : lstAt st n = some (ks.map fun k => .bl (f k))) : anyI [.ref n] st = some (.bl (ks.any f), st) := by
  show (match lstAt st n with | some xs => (match bools xs with | some bs => some (IV.bl (bs.any id), st) | none => none) | none => none) = _
  rw [h]; simp only [bools_map]
  simp [List.any_map]
theorem all_lst {κ : Type} {n : Nat} {st : Sto} {ks : List κ} {f : κ → Bool} (h : lstAt st n = some (ks.map fun k => .bl (f k))) : allI [.ref n] st = some (.bl (ks.all f), st) := by
  show (match lstAt st n with | some xs => (match bools xs with | some bs => some (IV.bl (bs.all id), st) | none => none) | none => none) = _
  rw [h]; simp only [bools_map]
  simp [List.all_map]
theorem sum_tup (xs : List Int) (st : Sto) : sumT [.tup (xs.map IV.int)] st = some (.int xs.sum, st) := by
  show (match intsOf (xs.map IV.int) with | some ns => some (IV.int ns.sum, st) | none => none) = _
  have := ints_map (fun k : Int => k) xs
  simp only [List.map_id'] at this
  rw [show (xs.map IV.int) = xs.map fun k => IV.int k from rfl, this]
theorem call_L {f : List IV → Sto → RO} {e : SemE} {env : IEnv} {st : Sto} {xs : List IV} {v : IV} (h : OkL (e env st) st xs) (hf : ∀ n st', lstAt st' n = some xs → f [.ref n] st' = some (v, st')) : Ok (rCall f (rCons e rNil) env st) st v := by
  obtain ⟨n, st', e1, g, hl⟩ := h
  refine ⟨st', ?_, g⟩
  simp only [rCall, rCons, rNil, e1, RE.bind, hf n st' hl, RE.ofO]
theorem lc_gen (ct : CT) (env0 : IEnv) (tt : SemT) (te : SemE) (base : Sto) {κ : Type} (f : κ → IV) (E : κ → IEnv) (p : κ → Bool) (g : κ → IV) : ∀ (ks : List κ) (acc : List IV) (st : Sto), Gw base st →
    (∀ k ∈ ks, ct.put (f k) env0 = some (E k)) → (∀ k ∈ ks, ∀ st1, Gw base st1 → Ok (tt (E k) st1) st1 (p k)) → (∀ k ∈ ks, p k = true → ∀ st1, Gw base st1 → Ok (te (E k) st1) st1 (g k)) →
    ∃ st2, loopC ct env0 tt te (ks.map f) acc st = .ok (acc.reverse ++ (ks.filter p).map g) st2 ∧ Gw st st2
  | [], acc, st, gb, h1, h2, h3 => ⟨st, by simp [loopC], .refl st⟩
  | k :: ks, acc, st, gb, h1, h2, h3 => by
    obtain ⟨s1, e1, g1⟩ := h2 k List.mem_cons_self st gb
    rw [List.map_cons]
    unfold loopC
    rw [h1 k List.mem_cons_self]
    simp only [e1]
    have r1 := fun k' hk => h1 k' (List.mem_cons_of_mem k hk)
    have r2 := fun k' hk => h2 k' (List.mem_cons_of_mem k hk)
    have r3 := fun k' hk => h3 k' (List.mem_cons_of_mem k hk)
    cases hp : p k with
    | true =>
      obtain ⟨s2, e2, g2⟩ := h3 k List.mem_cons_self hp s1 (gb.trans g1)
      obtain ⟨s3, e3, g3⟩ := lc_gen ct env0 tt te base f E p g ks (g k :: acc) s2 ((gb.trans g1).trans g2) r1 r2 r3
      refine ⟨s3, ?_, (g1.trans g2).trans g3⟩
      simp only [e2, e3, List.filter_cons, hp, if_true, List.map_cons, List.reverse_cons, List.append_assoc, List.singleton_append]
    | false =>
      obtain ⟨s3, e3, g3⟩ := lc_gen ct env0 tt te base f E p g ks acc s1 (gb.trans g1) r1 r2 r3
      refine ⟨s3, ?_, g1.trans g3⟩
      simp [e3, List.filter_cons, hp]
theorem lc_items {κ : Type} {it : IEnv → Sto → RE FI} {ct : CT} {vs : List Nat} {tt : SemT} {te : SemE} {env : IEnv} {st0 st : Sto} (f : κ → IV) (E : κ → IEnv) (p : κ → Bool) (g : κ → IV) (ks : List κ)
    (hi : it env st0 = .ok (.items (ks.map f)) st) (hg : Gw st0 st) (hl : ks.length ≤ 100000) (h1 : ∀ k ∈ ks, ct.put (f k) (wipeI env vs) = some (E k))
    (h2 : ∀ k ∈ ks, ∀ st1, Gw st st1 → Ok (tt (E k) st1) st1 (p k)) (h3 : ∀ k ∈ ks, p k = true → ∀ st1, Gw st st1 → Ok (te (E k) st1) st1 (g k)) :
    OkL (rLc it ct vs tt te env st0) st0 ((ks.filter p).map g) := by
  obtain ⟨s2, e2, g2⟩ := lc_gen ct (wipeI env vs) tt te st f E p g ks [] st (.refl st) h1 h2 h3
  refine ⟨s2.os.length, { os := s2.os ++ [.lst ((ks.filter p).map g)], low := s2.low }, ?_, (hg.trans g2).trans (.alloc _ _), new_lst _ _ _⟩
  have hb : Nat.ble (ks.map f).length lineI = true := by
    rw [List.length_map]; exact Nat.ble_eq_true_of_le hl
  unfold rLc
  simp only [hi, RE.bind, hb, cond_true, e2, List.reverse_nil, List.nil_append, Sto.allocO, RE.ofO]
theorem lc_yes {κ : Type} {it : IEnv → Sto → RE FI} {ct : CT} {vs : List Nat} {te : SemE} {env : IEnv} {st0 st : Sto} (f : κ → IV) (E : κ → IEnv) (g : κ → IV) (ks : List κ)
    (hi : it env st0 = .ok (.items (ks.map f)) st) (hg : Gw st0 st) (hl : ks.length ≤ 100000) (h1 : ∀ k ∈ ks, ct.put (f k) (wipeI env vs) = some (E k))
    (h3 : ∀ k ∈ ks, ∀ st1, Gw st st1 → Ok (te (E k) st1) st1 (g k)) :
    OkL (rLc it ct vs rYes te env st0) st0 (ks.map g) := by
  have := lc_items (tt := rYes) f E (fun _ => true) g ks hi hg hl h1 (fun _ _ st1 _ => ⟨st1, rfl, .refl _⟩) (fun k hk _ => h3 k hk)
  rwa [List.filter_eq_self.mpr (fun _ _ => rfl)] at this
theorem intsI_map : ∀ (n : Nat) (lo : Int), intsI lo n = (List.range n).map fun i => .int (lo + (i : Nat))
  | 0, _ => rfl
  | n + 1, lo => by
    rw [List.range_succ_eq_map, List.map_cons, List.map_map]
    show IV.int lo :: intsI (lo + 1) n = _
    rw [intsI_map n (lo + 1)]
    congr 1
    · simp
    · apply List.map_congr_left
      intro i _
      show IV.int _ = IV.int _
      congr 1
      show lo + 1 + (i : Int) = lo + ((i + 1 : Nat) : Int)
      omega
theorem intsI_0 (n : Nat) : intsI 0 n = (List.range n).map fun i => .int (i : Nat) := by
  rw [intsI_map]; apply List.map_congr_left; intro i _; simp
theorem rngOk_nat {i : Int} (h0 : -1000000 ≤ i) (h : i ≤ 1000000) : rngOk i = true := by
  unfold rngOk
  rw [decide_eq_true (show -(2 ^ 62) ≤ i by omega), decide_eq_true (show i < 2 ^ 62 by omega)]; rfl
theorem fRng1_eq {a : SemA} {env : IEnv} {st st' : Sto} (j : Int) (h : a env st = .ok [.int j] st') (h1 : rngOk j = true) : fRng1 a env st = .ok (.items (intsI 0 j.toNat)) st' := by
  have h2 : fRng1 a env st = (a env st).bind fun v st1 => match v with
    | [.int j] => bif rngOk j then .ok (.items (intsI 0 j.toNat)) st1 else .bad
    | _ => .bad := rfl
  rw [h2, h]
  simp only [RE.bind]
  rw [h1, cond_true]
theorem rng1 {a : SemA} {env : IEnv} {st st' : Sto} (n : Nat) (h : a env st = .ok [.int (n : Nat)] st') (hn : n ≤ 100000) : fRng1 a env st = .ok (.items ((List.range n).map fun i => .int (i : Nat))) st' := by
  have h1 : rngOk (n : Int) = true := rngOk_nat (by omega) (by omega)
  rw [fRng1_eq (n : Int) h h1, Int.toNat_natCast, intsI_0]
theorem rng2 {a : SemA} {env : IEnv} {st st' : Sto} (lo hi : Int) (n : Nat) (h : a env st = .ok [.int lo, .int hi] st') (e : hi = lo + n) (h0 : -100000 ≤ lo) (h1 : lo ≤ 100000) (hn : n ≤ 100000) : fRng2 a env st = .ok (.items ((List.range n).map fun i => .int (lo + (i : Nat)))) st' := by
  subst e
  have e : (lo + (n : Int) - lo).toNat = n := by omega
  have h3 : rngOk lo = true := rngOk_nat (by omega) (by omega)
  have h4 : rngOk (lo + (n : Int)) = true := rngOk_nat (by omega) (by omega)
  have h2 : fRng2 a env st = (a env st).bind fun v st1 => match v with
    | [.int i, .int j] => bif rngOk i && rngOk j then .ok (.items (intsI i (j - i).toNat)) st1 else .bad
    | _ => .bad := rfl
  rw [h2, h]
  simp only [RE.bind]
  rw [h3, h4, Bool.and_true, cond_true, e, intsI_map]
/-- rows of enumerate -/
def enumI (xs : List IV) : List IV := (List.range xs.length).map fun i => .tup [.int (i : Nat), (xs[i]?).getD .non]
theorem loopT_nil {g : SemG} {b : SemS} {env : IEnv} {st : Sto} : loopT g b [] env st = .nx env st := rfl
theorem walkT (g : SemG) (b : SemS) (xs : List IV) : ∀ (m i : Nat), m + i = xs.length + 1 → i ≤ xs.length → ∀ (env : IEnv) (st : Sto), loopW g b xs.length (lenOf (.tup xs)) (rowE (.tup xs)) m i env st = loopT g b ((enumI xs).drop i) env st := by
  intro m
  induction m with
  | zero =>
    intro i hi hi' env st
    exact absurd hi (by omega)
  | succ m ih =>
    intro i hi hi' env st
    have hl : lenOf (.tup xs) st = some xs.length := rfl
    unfold loopW
    simp only [hl]
    rw [Nat.beq_refl, cond_true]
    by_cases h : i < xs.length
    · have hb : Nat.blt i xs.length = true := by simp [Nat.blt]; omega
      have hr : rowE (.tup xs) st i = some (.tup [.int (i : Nat), xs[i]]) := by
        show (xs[i]?).map _ = _
        rw [List.getElem?_eq_getElem h]; rfl
      have hd : (enumI xs).drop i = .tup [.int (i : Nat), xs[i]] :: (enumI xs).drop (i + 1) := by
        have hi2 : i < (enumI xs).length := by simp [enumI, h]
        rw [List.drop_eq_getElem_cons hi2]
        congr 1
        simp [enumI, List.getElem?_eq_getElem h]
      rw [hb, cond_true, hr, hd]
      show RS.ofG _ _ = RS.ofG _ _
      congr 1
      funext env1 st1
      congr 1
      funext env2 st2
      exact ih (i + 1) (by omega) (by omega) env2 st2
    · have hb : Nat.blt i xs.length = false := Bool.eq_false_iff.mpr fun h' => absurd (Nat.le_of_ble_eq_true h') (by omega)
      have hd : (enumI xs).drop i = [] := List.drop_eq_nil_of_le (by have : (enumI xs).length = xs.length := by simp [enumI]
                                                                     omega)
      rw [hb, cond_false, hd, loopT_nil]
theorem walkC (ct : CT) (env0 : IEnv) (tt : SemT) (te : SemE) (xs : List IV) : ∀ (m i : Nat), m + i = xs.length + 1 → i ≤ xs.length → ∀ (acc : List IV) (st : Sto), loopCW ct env0 tt te xs.length (lenOf (.tup xs)) (rowE (.tup xs)) m i acc st = loopC ct env0 tt te ((enumI xs).drop i) acc st := by
  intro m
  induction m with
  | zero =>
    intro i hi hi' acc st
    exact absurd hi (by omega)
  | succ m ih =>
    intro i hi hi' acc st
    have hl : lenOf (.tup xs) st = some xs.length := rfl
    unfold loopCW
    simp only [hl]
    rw [Nat.beq_refl, cond_true]
    by_cases h : i < xs.length
    · have hb : Nat.blt i xs.length = true := by simp [Nat.blt]; omega
      have hr : rowE (.tup xs) st i = some (.tup [.int (i : Nat), xs[i]]) := by
        show (xs[i]?).map _ = _
        rw [List.getElem?_eq_getElem h]; rfl
      have hd : (enumI xs).drop i = .tup [.int (i : Nat), xs[i]] :: (enumI xs).drop (i + 1) := by
        have hi2 : i < (enumI xs).length := by simp [enumI, h]
        rw [List.drop_eq_getElem_cons hi2]
        congr 1
        simp [enumI, List.getElem?_eq_getElem h]
      rw [hb, cond_true, hr, hd]
      simp only [loopC, ih (i + 1) (by omega) (by omega)]
    · have hb : Nat.blt i xs.length = false := Bool.eq_false_iff.mpr fun h' => absurd (Nat.le_of_ble_eq_true h') (by omega)
      have hd : (enumI xs).drop i = [] := List.drop_eq_nil_of_le (by have : (enumI xs).length = xs.length := by simp [enumI]
                                                                     omega)
      rw [hb, cond_false, hd]; rfl
/-- for over items, by an invariant of what has been walked -/
theorem for_inv {κ : Type} (g : SemG) (b : SemS) (f : κ → IV) (I : List κ → IEnv → Sto → Prop) : ∀ (ks pre : List κ) (env : IEnv) (st : Sto), I pre env st →
    (∀ pre' k rest, pre ++ ks = pre' ++ k :: rest → ∀ env st, I pre' env st → ∃ env1 st1, g (f k) env st = some (env1, st1) ∧ ∃ env2 st2, b env1 st1 = .nx env2 st2 ∧ I (pre' ++ [k]) env2 st2) →
    ∃ env' st', loopT g b (ks.map f) env st = .nx env' st' ∧ I (pre ++ ks) env' st'
  | [], pre, env, st, h, _ => ⟨env, st, rfl, by simpa using h⟩
  | k :: ks, pre, env, st, h, hs => by
    obtain ⟨e1, s1, h1, e2, s2, h2, h3⟩ := hs pre k ks rfl env st h
    obtain ⟨e3, s3, h4, h5⟩ := for_inv g b f I ks (pre ++ [k]) e2 s2 h3 (fun pre' k' rest hq => hs pre' k' rest (by simpa using hq))
    refine ⟨e3, s3, ?_, by simpa using h5⟩
    show RS.ofG (g (f k) env st) (fun env1 st1 => (b env1 st1).loop (loopT g b (ks.map f))) = _
    rw [h1]
    show (b e1 s1).loop _ = _
    rw [h2]
    exact h4
end PL

set_option Elab.async false
set_option linter.all false
set_option maxRecDepth 100000
set_option maxHeartbeats 4000000
/-! PL3: readings that only let the store grow, rule by rule. -/
namespace PL
open PySem PySem.Spec PyProof.Rows L2 PI
/-- the statement ends and leaves these names -/
def OkS (m : RS) (st : Sto) (env : IEnv) : Prop := ∃ st', m = .nx env st' ∧ Gw st st'
/-- the statement gives this -/
def OkR (m : RS) (st : Sto) (v : IV) : Prop := ∃ st', m = .rt v st' ∧ Gw st st'
section
variable {α β : Type} {env env' env'' : IEnv} {st st1 : Sto} {a b c : SemE} {as : SemA} {ct dt : SemT} {x y z v w : IV} {xs ys : List IV} {f g : IV → IV → Sto → RO} {i j : Nat} {k l : Bool} {s t : SemS} {F : List IV → Sto → RO} {D : List IV → Sto → RE IV}
theorem Ok.bind {m : RE α} {q : α → Sto → RE β} {v : α} {w : β} (h : Ok m st v) (h2 : ∀ st1, Gw st st1 → Ok (q v st1) st1 w) : Ok (m.bind q) st w := by
  obtain ⟨s1, rfl, g1⟩ := h
  obtain ⟨s2, e2, g2⟩ := h2 s1 g1
  exact ⟨s2, e2, g1.trans g2⟩
theorem Ok.eq {m : RE α} {v w : α} (h : Ok m st v) (e : v = w) : Ok m st w := e ▸ h
theorem ok_ofO {o : RO} (h : o = some (v, st)) : Ok (RE.ofO o) st v := ⟨st, by rw [h]; rfl, .refl st⟩
theorem ok_var (h : env[i]? = some (some v)) : Ok (rVar i env st) st v := ⟨st, by unfold rVar; rw [h], .refl st⟩
theorem ok_c : Ok (rC v env st) st v := .same rfl
theorem ok_nil : Ok (rNil env st) st [] := .same rfl
theorem ok_cons (h : Ok (a env st) st v) (h2 : ∀ st1, Gw st st1 → Ok (as env st1) st1 xs) : Ok (rCons a as env st) st (v :: xs) := h.bind fun s1 g1 => (h2 s1 g1).bind fun s2 _ => .same rfl
theorem ok_bin (h : Ok (a env st) st x) (h2 : ∀ st1, Gw st st1 → Ok (b env st1) st1 y) (h3 : ∀ st1, Gw st st1 → Ok (RE.ofO (f x y st1)) st1 z) : Ok (rBin f a b env st) st z := h.bind fun s1 g1 => (h2 s1 g1).bind fun s2 g2 => h3 s2 (g1.trans g2)
theorem ok_un {f : IV → Sto → RO} (h : Ok (a env st) st x) (h3 : ∀ st1, Gw st st1 → Ok (RE.ofO (f x st1)) st1 z) : Ok (rUn f a env st) st z := h.bind fun s1 g1 => h3 s1 g1
theorem ok_call (h : Ok (as env st) st xs) (h2 : ∀ st1, Gw st st1 → Ok (RE.ofO (F xs st1)) st1 v) : Ok (rCall F as env st) st v := h.bind h2
theorem ok_def (h : Ok (as env st) st xs) (h2 : ∀ st1, Gw st st1 → Ok (D xs st1) st1 v) : Ok (rDef D as env st) st v := h.bind h2
theorem ok_tup (h : Ok (as env st) st xs) (hl : xs.length ≤ 100000) : Ok (rTup as env st) st (.tup xs) := h.bind fun s1 g1 => ⟨s1, by rw [show Nat.ble xs.length lineI = true from Nat.ble_eq_true_of_le hl]; rfl, .refl s1⟩
theorem ok_lst (h : Ok (as env st) st xs) (hl : xs.length ≤ 100000) : OkL (rLst as env st) st xs := by
  obtain ⟨s1, e1, g1⟩ := h
  refine ⟨s1.os.length, { os := s1.os ++ [.lst xs], low := s1.low }, ?_, g1.trans (.alloc _ _), new_lst _ _ _⟩
  unfold rLst
  rw [e1]
  show (bif Nat.ble xs.length lineI then RE.ofO (s1.allocO (.lst xs)) else .bad) = _
  rw [show Nat.ble xs.length lineI = true from Nat.ble_eq_true_of_le hl]; rfl
theorem ok_tru (h : Ok (a env st) st v) (h2 : ∀ st1, Gw st st1 → truI st1 v = some k) : Ok (rTru a env st) st k := h.bind fun s1 g1 => ⟨s1, by rw [h2 s1 g1], .refl s1⟩
theorem ok_trub (h : Ok (a env st) st (.bl k)) : Ok (rTru a env st) st k := ok_tru h fun _ _ => rfl
theorem ok_tbl (h : Ok (a env st) st (.bl k)) : Ok (rTBl a env st) st k := h.bind fun s1 g1 => ⟨s1, rfl, .refl s1⟩
theorem ok_tnot (h : Ok (ct env st) st k) : Ok (rTNot ct env st) st (!k) := h.bind fun s1 g1 => .same rfl
theorem ok_tor (h : Ok (ct env st) st k) (h2 : ∀ st1, Gw st st1 → k = false → Ok (dt env st1) st1 l) : Ok (rTOr ct dt env st) st (k || l) := h.bind fun s1 g1 => by
  cases k with
  | true => exact .same rfl
  | false => exact h2 s1 g1 rfl
theorem ok_tand (h : Ok (ct env st) st k) (h2 : ∀ st1, Gw st st1 → k = true → Ok (dt env st1) st1 l) : Ok (rTAnd ct dt env st) st (k && l) := h.bind fun s1 g1 => by
  cases k with
  | false => exact .same rfl
  | true => exact h2 s1 g1 rfl
theorem ok_and (h : Ok (a env st) st (.bl k)) (h2 : ∀ st1, Gw st st1 → k = true → Ok (b env st1) st1 (.bl l)) : Ok (rAnd a b env st) st (.bl (k && l)) := h.bind fun s1 g1 => by
  cases k with
  | false => exact .same rfl
  | true => exact h2 s1 g1 rfl
theorem ok_not (h : Ok (a env st) st (.bl k)) : Ok (rNot a env st) st (.bl (!k)) := h.bind fun s1 g1 => by
  cases k <;> exact .same rfl
theorem ok_ifT (h : Ok (ct env st) st true) (h2 : ∀ st1, Gw st st1 → Ok (a env st1) st1 v) : Ok (rIfE ct a b env st) st v := h.bind fun s1 g1 => h2 s1 g1
theorem ok_ifF (h : Ok (ct env st) st false) (h2 : ∀ st1, Gw st st1 → Ok (b env st1) st1 v) : Ok (rIfE ct a b env st) st v := h.bind fun s1 g1 => h2 s1 g1
theorem ok_chain {f g : IV → IV → Sto → RO} (h : Ok (a env st) st x) (h2 : ∀ st1, Gw st st1 → Ok (b env st1) st1 y) (h3 : ∀ st1, Gw st st1 → f x y st1 = some (.bl k, st1)) (h4 : ∀ st1, Gw st st1 → Ok (c env st1) st1 z) (h5 : ∀ st1, Gw st st1 → g y z st1 = some (.bl l, st1)) : Ok (rChain f g a b c env st) st (.bl (k && l)) :=
  h.bind fun s1 g1 => (h2 s1 g1).bind fun s2 g2 => (ok_ofO (h3 s2 (g1.trans g2))).bind fun s3 g3 => by
    cases k with
    | false => exact .same rfl
    | true => exact (h4 s3 ((g1.trans g2).trans g3)).bind fun s4 g4 => ok_ofO (h5 s4 (((g1.trans g2).trans g3).trans g4))
theorem ok_part {n : Int} (h : Ok (b env st) st (.int n)) : Ok (rPart b env st) st (some n) := h.bind fun s1 g1 => .same rfl
theorem ok_slTo {n : Int} (h : Ok (a env st) st (.tup xs)) (h2 : ∀ st1, Gw st st1 → Ok (b env st1) st1 (.int n)) : Ok (rSl a rNoPart (rPart b) env st) st (.tup (cutI xs none (some n))) := h.bind fun s1 g1 => (ok_part (h2 s1 g1)).bind fun s4 g4 => ok_ofO rfl
theorem ok_sl {m n : Int} (h : Ok (a env st) st (.tup xs)) (h1 : ∀ st1, Gw st st1 → Ok (b env st1) st1 (.int m)) (h2 : ∀ st1, Gw st st1 → Ok (c env st1) st1 (.int n)) : Ok (rSl a (rPart b) (rPart c) env st) st (.tup (cutI xs (some m) (some n))) := h.bind fun s1 g1 => (ok_part (h1 s1 g1)).bind fun s3 g3 => (ok_part (h2 s3 (g1.trans g3))).bind fun s5 g5 => ok_ofO rfl
theorem ok_isT {T : TY} {t : TY} (h : Ok (a env st) st v) (h2 : ∀ st1, Gw st st1 → tyI st1 v = some t) : Ok (rIsT T a env st) st (.bl (t.sub T)) := h.bind fun s1 g1 => ⟨s1, by rw [h2 s1 g1], .refl s1⟩
/-! statements -/
theorem oks_pass : OkS (sPass env st) st env := ⟨st, rfl, .refl st⟩
theorem oks_seq (h : OkS (s env st) st env') (h2 : ∀ st1, Gw st st1 → OkS (t env' st1) st1 env'') : OkS (sSeq s t env st) st env'' := by
  obtain ⟨s1, e1, g1⟩ := h
  obtain ⟨s2, e2, g2⟩ := h2 s1 g1
  exact ⟨s2, by unfold sSeq; rw [e1]; exact e2, g1.trans g2⟩
theorem okr_seq (h : OkS (s env st) st env') (h2 : ∀ st1, Gw st st1 → OkR (t env' st1) st1 v) : OkR (sSeq s t env st) st v := by
  obtain ⟨s1, e1, g1⟩ := h
  obtain ⟨s2, e2, g2⟩ := h2 s1 g1
  exact ⟨s2, by unfold sSeq; rw [e1]; exact e2, g1.trans g2⟩
theorem okr_now (h : OkR (s env st) st v) : OkR (sSeq s t env st) st v := by
  obtain ⟨s1, e1, g1⟩ := h
  exact ⟨s1, by unfold sSeq; rw [e1]; rfl, g1⟩
theorem okr_ret (h : Ok (a env st) st v) : OkR (sRet a env st) st v := by
  obtain ⟨s1, e1, g1⟩ := h
  exact ⟨s1, by unfold sRet; rw [e1]; rfl, g1⟩
theorem oks_expr (h : Ok (a env st) st v) : OkS (sExpr a env st) st env := by
  obtain ⟨s1, e1, g1⟩ := h
  exact ⟨s1, by unfold sExpr; rw [e1]; rfl, g1⟩
theorem oks_set (h : Ok (a env st) st v) : OkS (sAsg a (gN i) env st) st (env.set i (some v)) := by
  obtain ⟨s1, e1, g1⟩ := h
  exact ⟨s1, by unfold sAsg; rw [e1]; rfl, g1⟩
theorem oks_asg {G : SemG} (h : Ok (a env st) st v) (h2 : ∀ st1, Gw st st1 → G v env st1 = some (env', st1)) : OkS (sAsg a G env st) st env' := by
  obtain ⟨s1, e1, g1⟩ := h
  exact ⟨s1, by unfold sAsg; rw [e1]; show RS.ofG (G v env s1) _ = _; rw [h2 s1 g1]; rfl, g1⟩
theorem oks_ifT (h : Ok (ct env st) st true) (h2 : ∀ st1, Gw st st1 → OkS (s env st1) st1 env') : OkS (sIf ct s t env st) st env' := by
  obtain ⟨s1, e1, g1⟩ := h
  obtain ⟨s2, e2, g2⟩ := h2 s1 g1
  exact ⟨s2, by unfold sIf; rw [e1]; exact e2, g1.trans g2⟩
theorem oks_ifF (h : Ok (ct env st) st false) (h2 : ∀ st1, Gw st st1 → OkS (t env st1) st1 env') : OkS (sIf ct s t env st) st env' := by
  obtain ⟨s1, e1, g1⟩ := h
  obtain ⟨s2, e2, g2⟩ := h2 s1 g1
  exact ⟨s2, by unfold sIf; rw [e1]; exact e2, g1.trans g2⟩
theorem okr_ifT (h : Ok (ct env st) st true) (h2 : ∀ st1, Gw st st1 → OkR (s env st1) st1 v) : OkR (sIf ct s t env st) st v := by
  obtain ⟨s1, e1, g1⟩ := h
  obtain ⟨s2, e2, g2⟩ := h2 s1 g1
  exact ⟨s2, by unfold sIf; rw [e1]; exact e2, g1.trans g2⟩
/-- a check that does not fire -/
theorem oks_chk (h : Ok (ct env st) st false) : OkS (sIf ct s sPass env st) st env := oks_ifF h fun _ _ => oks_pass
theorem ok_fn {n : Nat} {r : SemS} {xs : List IV} (h : OkR (r (startI n xs) st) st v) : Ok (callI n r xs st) st v := by
  obtain ⟨s1, e1, g1⟩ := h
  exact ⟨s1, by unfold callI; rw [e1], g1⟩
theorem ok_fnN {n : Nat} {r : SemS} {xs : List IV} (h : OkS (r (startI n xs) st) st env) : Ok (callI n r xs st) st .non := by
  obtain ⟨s1, e1, g1⟩ := h
  exact ⟨s1, by unfold callI; rw [e1], g1⟩
theorem okl_fn {n : Nat} {r : SemS} {xs : List IV} {e : SemE} (h : OkL (e (startI n xs) st) st ys) (hr : r = sRet e) : OkL (callI n r xs st) st ys := by
  obtain ⟨m, s1, e1, g1, hl⟩ := h
  refine ⟨m, s1, ?_, g1, hl⟩
  subst hr
  unfold callI sRet
  rw [e1]; rfl
/-! leaves -/
theorem ok_add {p q : Int} : Ok (RE.ofO (addI (.int p) (.int q) st)) st (.int (p + q)) := ok_ofO rfl
theorem ok_sub {p q : Int} : Ok (RE.ofO (subI (.int p) (.int q) st)) st (.int (p - q)) := ok_ofO rfl
theorem ok_mul {p q : Int} (hp : Sm p) (hq : Sm q) : Ok (RE.ofO (mulT (.int p) (.int q) st)) st (.int (p * q)) := ok_ofO (mul_ok st hp hq)
theorem ok_div {p q : Int} (hq : 0 < q) (h : Sm q) : Ok (RE.ofO (divI (.int p) (.int q) st)) st (.int (p / q)) := ok_ofO (div_ok st hq h)
theorem ok_neg {p : Int} : Ok (RE.ofO (negI (.int p) st)) st (.int (-p)) := ok_ofO rfl
theorem ok_lt {p q : Int} : Ok (RE.ofO (cLt (.int p) (.int q) st)) st (.bl (decide (p < q))) := ok_ofO rfl
theorem ok_gt {p q : Int} : Ok (RE.ofO (cGt (.int p) (.int q) st)) st (.bl (decide (q < p))) := ok_ofO rfl
theorem ok_le {p q : Int} : Ok (RE.ofO (cLe (.int p) (.int q) st)) st (.bl (decide (p ≤ q))) := ok_ofO rfl
theorem ok_ge {p q : Int} : Ok (RE.ofO (cGe (.int p) (.int q) st)) st (.bl (decide (q ≤ p))) := ok_ofO rfl
theorem ok_eqi {p q : Int} : Ok (RE.ofO (cEq (.int p) (.int q) st)) st (.bl (decide (p = q))) := ok_ofO rfl
theorem ok_nei {p q : Int} : Ok (RE.ofO (cNe (.int p) (.int q) st)) st (.bl (!decide (p = q))) := ok_ofO rfl
theorem ok_idx {p : Int} (h : L2.atI xs p = some v) : Ok (RE.ofO (idxI (.tup xs) (.int p) st)) st v := ok_ofO (by
  show (match L2.atI xs p with | some v => some (v, st) | none => none) = _
  rw [h])
theorem ok_idxL {p : Int} {n : Nat} (hn : lstAt st n = some xs) (h : L2.atI xs p = some v) : Ok (RE.ofO (idxI (.ref n) (.int p) st)) st v := ok_ofO (by
  show (match lstAt st n with | some xs => (match L2.atI xs p with | some v => some (v, st) | none => none) | none => none) = _
  rw [hn]; simp only [h])
theorem ok_len : Ok (RE.ofO (lenI [.tup xs] st)) st (.int xs.length) := ok_ofO rfl
theorem ok_tupleT : Ok (RE.ofO (tupleI [.tup xs] st)) st (.tup xs) := ok_ofO rfl
theorem ok_sumT {ns : List Int} : Ok (RE.ofO (sumT [.tup (ns.map IV.int)] st)) st (.int ns.sum) := ok_ofO (sum_tup ns st)
theorem at_nat {xs : List IV} {j : Nat} {v : IV} (h : xs[j]? = some v) : L2.atI xs (j : Int) = some v := L2.atI_nat h
theorem pd_ints (os : List IO) (n : Nat) (xs : List Int) : pd os (n + 2) (.tup (xs.map IV.int)) = some (.tuple (xs.map PyData.int)) := by
  have h1 : ∀ xs : List Int, allSome (pd os (n + 1)) (xs.map IV.int) = some (xs.map PyData.int) := fun xs => by
    induction xs with
    | nil => rfl
    | cons p ps ih =>
      rw [List.map_cons]
      unfold allSome
      rw [show pd os (n + 1) (.int p) = some (.int p) from rfl, ih]; rfl
  show (match allSome (pd os (n + 1)) (xs.map IV.int) with
    | some ds => some (PyData.tuple ds)
    | none => none) = _
  rw [h1]
theorem eq_tup {xs : List IV} {d : PyData} (st : Sto) (h : pd st.os 63 (.tup xs) = some d) (hc : d.canLay0 = true) : eqI st (.tup xs) (.tup xs) = some true := by
  show (match pd st.os 63 (.tup xs) with
    | some d => match pd st.os 63 (.tup xs) with
      | some e => some (PyData.eqv d e)
      | none => none
    | none => none) = _
  rw [h]
  simp only
  rw [PySem.SeqAt.eqv_refl d hc]
theorem can_ints : ∀ xs : List Int, PyData.canLayAll0 (xs.map PyData.int) = true
  | [] => rfl
  | x :: xs => by
    rw [List.map_cons]
    simp only [PyData.canLayAll0, can_ints xs, PyData.canLay0, Bool.and_self]
theorem eq_ints (xs : List Int) (st : Sto) : eqI st (.tup (xs.map IV.int)) (.tup (xs.map IV.int)) = some true := eq_tup st (pd_ints st.os 61 xs) (by unfold PyData.canLay0; exact can_ints xs)
theorem eq_ints_nil (xs : List Int) (st : Sto) : eqI st (.tup (xs.map IV.int)) (.tup []) = some (xs.isEmpty) := by
  show (match pd st.os 63 (.tup (xs.map IV.int)) with
    | some d => match pd st.os 63 (.tup []) with
      | some e => some (PyData.eqv d e)
      | none => none
    | none => none) = _
  rw [pd_ints st.os 61 xs]
  cases xs with
  | nil => simp [pd, allSome, PyData.eqv, PyData.eqvAll]
  | cons x xs => simp [pd, allSome, PyData.eqv, PyData.eqvAll]
end
end PL

set_option Elab.async false
set_option linter.all false
set_option maxRecDepth 100000
set_option maxHeartbeats 4000000
/-! PL4: lists that grow by one item, cuts, sums. -/
namespace PL
open PySem PySem.Spec PyProof.Rows L2 PI
theorem seq_nx {s t : SemS} {env env' : IEnv} {st st' : Sto} (h : s env st = .nx env' st') : sSeq s t env st = t env' st' := by unfold sSeq; rw [h]; rfl
theorem app_eq {st : Sto} {n : Nat} {xs : List IV} {v : IV} (h : st.os[n]? = some (.lst xs)) (hl : xs.length < 100000) : appI n [v] st = some (.non, { os := st.os.set n (.lst (xs ++ [v])), low := st.low }) := by
  show (match st.os[n]? with
    | some (.lst xs) => bif Nat.blt xs.length lineI then some (IV.non, ({ os := st.os.set n (.lst (xs ++ [v])), low := st.low } : Sto)) else none
    | _ => none) = _
  rw [h]
  have : Nat.blt xs.length lineI = true := Nat.ble_eq_true_of_le hl
  simp only [this, cond_true]
theorem oks_app {env : IEnv} {st : Sto} {i n : Nat} {a : SemE} {v : IV} {xs : List IV} (he : env[i]? = some (some (.ref n))) (hn : st.os[n]? = some (.lst xs)) (ha : Ok (a env st) st v) (hl : xs.length < 100000) :
    ∃ st', sExpr (rMethL appI (rVar i) (rCons a rNil)) env st = .nx env { os := st'.os.set n (.lst (xs ++ [v])), low := st'.low } ∧ Gw st st' := by
  obtain ⟨s1, e1, g1⟩ := ha
  refine ⟨s1, ?_, g1⟩
  have hv : rVar i env st = .ok (.ref n) st := by unfold rVar; rw [he]
  have : rMethL appI (rVar i) (rCons a rNil) env st = .ok .non { os := s1.os.set n (.lst (xs ++ [v])), low := s1.low } := by
    unfold rMethL
    simp only [hv, RE.bind, lst_of hn, rCons, e1, rNil, app_eq (g1.get hn) hl, RE.ofO]
  unfold sExpr
  rw [this]; rfl
theorem set_get {os : List IO} {n : Nat} {o o' : IO} (h : os[n]? = some o) : (os.set n o')[n]? = some o' := List.getElem?_set_self (List.getElem?_eq_some_iff.mp h).1
theorem cut_take {xs : List IV} {j : Nat} : cutI xs none (some (j : Int)) = xs.take j := by
  unfold cutI
  rw [show HT.sIx xs.length 0 none = 0 from rfl, HT.sIx_nat, List.drop_zero, Nat.sub_zero]
  by_cases h : j ≤ xs.length
  · rw [Nat.min_eq_left h]
  · rw [Nat.min_eq_right (by omega), List.take_length, List.take_of_length_le (by omega)]
theorem cut_mid {xs : List IV} {i j : Nat} (hj : j ≤ xs.length) : cutI xs (some (i : Int)) (some (j : Int)) = (xs.drop i).take (j - i) := by
  unfold cutI
  rw [HT.sIx_nat, HT.sIx_nat, Nat.min_eq_left hj]
  by_cases h : i ≤ xs.length
  · rw [Nat.min_eq_left h]
  · rw [Nat.min_eq_right (by omega)]
    rw [show j - xs.length = 0 by omega, show j - i = 0 by omega]; simp
theorem sum_le {B : Int} : ∀ {xs : List Int}, (∀ x ∈ xs, 0 ≤ x ∧ x ≤ B) → 0 ≤ xs.sum ∧ xs.sum ≤ B * (xs.length : Nat)
  | [], _ => by simp
  | x :: xs, h => by
    have h1 := h x List.mem_cons_self
    have h2 := sum_le fun y hy => h y (List.mem_cons_of_mem _ hy)
    rw [List.sum_cons, List.length_cons]
    have : B * ((xs.length + 1 : Nat) : Int) = B * (xs.length : Nat) + B := by rw [Int.natCast_add]; rw [Int.mul_add]; simp
    omega
theorem range_mem {n k : Nat} (h : k ∈ List.range n) : k < n := List.mem_range.mp h
theorem take_sum_succ {xs : List Int} {j : Nat} {x : Int} (h : xs[j]? = some x) : (xs.take (j + 1)).sum = (xs.take j).sum + x := by
  rw [List.take_succ, h]; simp
theorem gw_lst {st st' : Sto} {n : Nat} {xs : List IV} (g : Gw st st') (h : st.os[n]? = some (.lst xs)) : lstAt st' n = some xs := lst_of (g.get h)
end PL

set_option Elab.async false
set_option linter.all false
set_option maxRecDepth 100000
set_option maxHeartbeats 4000000
/-! PL5: lean fractions: common, lean, plus, times, is_fraction, and the laws' own. -/
namespace PL
open PySem PySem.Spec PyProof.Rows L2 PI
def g_MOST : IV := .int (10 ^ 60)
def r_is_whole : SemS :=
  (sRet (rAnd (rIsT .int (rVar 0)) (rNot (rIsT .bl (rVar 0)))))
def d_is_whole : List IV → Sto → RE IV := callI 1 r_is_whole
def r_is_from : SemS :=
  (sRet (rAnd (rDef d_is_whole (rCons (rVar 0) rNil)) (rChain cLe cLe (rVar 1) (rVar 0) (rVar 2))))
def d_is_from : List IV → Sto → RE IV := callI 3 r_is_from
def r_is_many : SemS :=
  (sRet (rAnd (rIsT .tup (rVar 0)) (rBin cEq (rCall lenI (rCons (rVar 0) rNil)) (rVar 1))))
def d_is_many : List IV → Sto → RE IV := callI 2 r_is_many
def r_common : SemS :=
  (sSeq (sWhileF (fun (env : IEnv) (_ : Sto) => match env[1]? with | some (some (IV.int b)) => b.toNat + 1 | _ => 0) (rTBl (rBin cGt (rVar 1) (rC (.int (0))))) (sPar 0 1 (rCons (rVar 1) (rCons (rBin subI (rVar 0) (rBin mulT (rVar 1) (rBin divI (rVar 0) (rVar 1)))) rNil))))
    (sRet (rVar 0)))
def d_common : List IV → Sto → RE IV := callI 2 r_common
def r_is_fraction : SemS :=
  (sSeq (sIf (rTOr (rTNot (rTru (rDef d_is_many (rCons (rVar 0) (rCons (rC (.int (2))) rNil))))) (rTOr (rTNot (rTru (rDef d_is_from (rCons (rBin idxI (rVar 0) (rC (.int (0)))) (rCons (rUn negI (rC g_MOST)) (rCons (rC g_MOST) rNil)))))) (rTNot (rTru (rDef d_is_from (rCons (rBin idxI (rVar 0) (rC (.int (1)))) (rCons (rC (.int (1))) (rCons (rC g_MOST) rNil)))))))) (sRet (rC (.bl false))) sPass)
    (sRet (rBin cEq (rDef d_common (rCons (rCall absI (rCons (rBin idxI (rVar 0) (rC (.int (0)))) rNil)) (rCons (rBin idxI (rVar 0) (rC (.int (1)))) rNil))) (rC (.int (1))))))
def d_is_fraction : List IV → Sto → RE IV := callI 1 r_is_fraction
def r_lean : SemS :=
  (sSeq (sAsg (rDef d_common (rCons (rCall absI (rCons (rVar 0) rNil)) (rCons (rVar 1) rNil))) (gN 2))
    (sSeq (sPar 0 1 (rCons (rBin divI (rVar 0) (rVar 2)) (rCons (rBin divI (rVar 1) (rVar 2)) rNil)))
    (sSeq (sIf (rTOr (rTBl (rBin cGt (rCall absI (rCons (rVar 0) rNil)) (rC g_MOST))) (rTBl (rBin cGt (rVar 1) (rC g_MOST)))) (sRaise 2 "most" (rC (.int (60)))) sPass)
    (sRet (rTup (rCons (rVar 0) (rCons (rVar 1) rNil)))))))
def d_lean : List IV → Sto → RE IV := callI 3 r_lean
def r_plus : SemS :=
  (sRet (rDef d_lean (rCons (rBin addI (rBin mulT (rBin idxI (rVar 0) (rC (.int (0)))) (rBin idxI (rVar 1) (rC (.int (1))))) (rBin mulT (rBin idxI (rVar 1) (rC (.int (0)))) (rBin idxI (rVar 0) (rC (.int (1)))))) (rCons (rBin mulT (rBin idxI (rVar 0) (rC (.int (1)))) (rBin idxI (rVar 1) (rC (.int (1))))) rNil))))
def d_plus : List IV → Sto → RE IV := callI 2 r_plus
def r_times : SemS :=
  (sRet (rDef d_lean (rCons (rBin mulT (rBin idxI (rVar 0) (rC (.int (0)))) (rBin idxI (rVar 1) (rC (.int (0))))) (rCons (rBin mulT (rBin idxI (rVar 0) (rC (.int (1)))) (rBin idxI (rVar 1) (rC (.int (1))))) rNil))))
def d_times : List IV → Sto → RE IV := callI 2 r_times
def r__law_common : SemS :=
  (sSeq (sWhileF (fun (env : IEnv) (_ : Sto) => match env[1]? with | some (some (IV.int b)) => b.toNat + 1 | _ => 0) (rTBl (rBin cGt (rVar 1) (rC (.int (0))))) (sPar 0 1 (rCons (rVar 1) (rCons (rBin subI (rVar 0) (rBin mulT (rVar 1) (rBin divI (rVar 0) (rVar 1)))) rNil))))
    (sRet (rVar 0)))
def d__law_common : List IV → Sto → RE IV := callI 2 r__law_common
def r__law_lean : SemS :=
  (sSeq (sAsg (rDef d__law_common (rCons (rCall absI (rCons (rVar 0) rNil)) (rCons (rCall absI (rCons (rVar 1) rNil)) rNil))) (gN 2))
    (sRet (rIfE (rTBl (rBin cGt (rVar 1) (rC (.int (0))))) (rTup (rCons (rBin divI (rVar 0) (rVar 2)) (rCons (rBin divI (rVar 1) (rVar 2)) rNil))) (rTup (rCons (rBin divI (rUn negI (rVar 0)) (rVar 2)) (rCons (rBin divI (rUn negI (rVar 1)) (rVar 2)) rNil))))))
def d__law_lean : List IV → Sto → RE IV := callI 3 r__law_lean
def r__law_plus : SemS :=
  (sRet (rDef d__law_lean (rCons (rBin addI (rBin mulT (rBin idxI (rVar 0) (rC (.int (0)))) (rBin idxI (rVar 1) (rC (.int (1))))) (rBin mulT (rBin idxI (rVar 1) (rC (.int (0)))) (rBin idxI (rVar 0) (rC (.int (1)))))) (rCons (rBin mulT (rBin idxI (rVar 0) (rC (.int (1)))) (rBin idxI (rVar 1) (rC (.int (1))))) rNil))))
def d__law_plus : List IV → Sto → RE IV := callI 2 r__law_plus
def r__law_times : SemS :=
  (sRet (rDef d__law_lean (rCons (rBin mulT (rBin idxI (rVar 0) (rC (.int (0)))) (rBin idxI (rVar 1) (rC (.int (0))))) (rCons (rBin mulT (rBin idxI (rVar 0) (rC (.int (1)))) (rBin idxI (rVar 1) (rC (.int (1))))) rNil))))
def d__law_times : List IV → Sto → RE IV := callI 2 r__law_times
abbrev cC : SemT := (rTBl (rBin cGt (rVar 1) (rC (.int (0)))))
abbrev bC : SemS := (sPar 0 1 (rCons (rVar 1) (rCons (rBin subI (rVar 0) (rBin mulT (rVar 1) (rBin divI (rVar 0) (rVar 1)))) rNil)))
theorem cC_eq (a b : Int) (st : Sto) : cC [some (.int a), some (.int b)] st = .ok (decide (0 < b)) st := rfl
theorem bC_eq (a b : Int) (st : Sto) (hb : 0 < b) (ha : Sm a) (hb2 : Sm b) (ha0 : 0 ≤ a) : bC [some (.int a), some (.int b)] st = .nx [some (.int b), some (.int (a - b * (a / b)))] st := by
  have hq : Sm (a / b) := by
    unfold Sm at *
    have h1 : 0 ≤ a / b := Int.ediv_nonneg ha0 (Int.le_of_lt hb)
    have h2 : a / b ≤ a := Int.ediv_le_self b ha0
    omega
  simp only [bC, sPar, rCons, rBin, rVar, List.getElem?_cons_zero, List.getElem?_cons_succ, RE.bind, div_ok st hb hb2, RE.ofO, mul_ok st hb2 hq, subI, rNil, RS.ofE, List.set_cons_zero, List.set_cons_succ]
theorem while_eq (st : Sto) : ∀ (n : Nat) (a b : Int), 0 ≤ a → 0 ≤ b → Sm a → Sm b → b.toNat < n → sWhile cC bC n [some (.int a), some (.int b)] st = .nx [some (.int (Int.gcd a b)), some (.int 0)] st
  | 0, _, _, _, _, _, _, h => absurd h (Nat.not_lt_zero _)
  | n + 1, a, b, ha, hb, sa, sb, h => by
    unfold sWhile
    rw [cC_eq]
    by_cases h0 : 0 < b
    · rw [decide_eq_true h0]
      simp only [RS.ofE, cond_true]
      rw [bC_eq a b st h0 sa sb ha]
      simp only [RS.loop]
      have e : a - b * (a / b) = a % b := by rw [Int.emod_def]
      have h1 := Int.emod_nonneg a (Int.ne_of_gt h0)
      have h2 := Int.emod_lt_of_pos a h0
      rw [e, while_eq st n b (a % b) hb h1 sb (by unfold Sm at *; omega) (by omega)]
      have : Int.gcd b (a % b) = Int.gcd a b := by
        obtain ⟨m, rfl⟩ := Int.eq_ofNat_of_zero_le ha
        obtain ⟨k, rfl⟩ := Int.eq_ofNat_of_zero_le hb
        show Nat.gcd (Int.natAbs _) (Int.natAbs (_ % _)) = Nat.gcd (Int.natAbs _) (Int.natAbs _)
        rw [← Int.natCast_emod, Int.natAbs_natCast, Int.natAbs_natCast, Int.natAbs_natCast, Nat.gcd_comm k, ← Nat.gcd_rec, Nat.gcd_comm]
      rw [this]
    · have : b = 0 := by omega
      subst this
      rw [decide_eq_false h0]
      simp only [RS.ofE, cond_false]
      rw [Int.gcd_zero_right, Int.natAbs_of_nonneg ha]
theorem d_common_eq {a b : Int} (st : Sto) (ha : 0 ≤ a) (hb : 0 ≤ b) (sa : Sm a) (sb : Sm b) : d_common [.int a, .int b] st = .ok (.int (Int.gcd a b)) st := by
  unfold d_common callI r_common
  show (match (sWhile cC bC (b.toNat + 1) [some (.int a), some (.int b)] st).seq (sRet (rVar 0)) with | .nx _ st1 => _ | .rt v st1 => _ | .exc x _ st1 => _ | _ => _) = _
  rw [while_eq st _ a b ha hb sa sb (by omega)]
  rfl
theorem law_common_eq : d__law_common = d_common := rfl
def gq (t b : Int) : Int := (Int.gcd (t.natAbs : Int) b : Nat)
theorem absI_eq (t : Int) (st : Sto) : absI [.int t] st = some (.int (t.natAbs : Int), st) := by
  show some (IV.int (if t < 0 then -t else t), st) = _
  congr 3
  split <;> omega
theorem gq_pos {t b : Int} (hb : 0 < b) : 0 < gq t b := by
  unfold gq
  have : Int.gcd (t.natAbs : Int) b ≠ 0 := by
    intro h
    have := (Int.gcd_eq_zero_iff.mp h).2
    omega
  omega
theorem gq_le {t b : Int} (hb : 0 < b) : gq t b ≤ b := by
  unfold gq
  exact Int.le_of_dvd hb (Int.gcd_dvd_right ..)
theorem d_lean_eq {t b : Int} (st : Sto) (hb : 0 < b) (st_ : Sm t) (sb : Sm b) (h1 : (t / gq t b).natAbs ≤ 10 ^ 60) (h2 : b / gq t b ≤ 10 ^ 60) : d_lean [.int t, .int b] st = .ok (.tup [.int (t / gq t b), .int (b / gq t b)]) st := by
  have hg := gq_pos (t := t) hb
  have sg : Sm (gq t b) := sm_le (by have := gq_le (t := t) hb; omega) sb
  have hc : d_common [.int (t.natAbs : Int), .int b] st = .ok (.int (gq t b)) st := d_common_eq st (by omega) (by omega) (by unfold Sm at *; omega) sb
  unfold d_lean r_lean
  simp only [callI, startI, List.map_cons, List.map_nil, List.length_cons, List.length_nil, Nat.reduceAdd, Nat.reduceSub, List.replicate_one, List.cons_append, List.nil_append, List.replicate, sSeq, sAsg, rDef, rCons, rCall, rVar, rNil, List.getElem?_cons_zero, List.getElem?_cons_succ, RE.bind, RE.ofO, absI_eq, hc, RS.ofE, gN, RS.ofG, List.set_cons_zero, List.set_cons_succ, RS.seq, sPar, rBin, div_ok _ hg sg]
  have e1 : decide ((10 : Int) ^ 60 < ((t / gq t b).natAbs : Int)) = false := decide_eq_false (by omega)
  have e2 : decide ((10 : Int) ^ 60 < b / gq t b) = false := decide_eq_false (by omega)
  simp only [sIf, rTOr, rTBl, rBin, rCall, rCons, rNil, rVar, rC, g_MOST, List.getElem?_cons_zero, List.getElem?_cons_succ, RE.bind, RE.ofO, absI_eq, gt_eq, e1, e2, cond_false, RS.ofE, sPass, sRet, rTup]
  rfl
theorem d_is_whole_int (i : Int) (st : Sto) : d_is_whole [.int i] st = .ok (.bl true) st := rfl
theorem d_is_whole_non (st : Sto) : d_is_whole [.non] st = .ok (.bl false) st := rfl
theorem d_is_whole_bl (b : Bool) (st : Sto) : d_is_whole [.bl b] st = .ok (.bl false) st := rfl
theorem d_is_many_tup2 (x y : IV) (st : Sto) : d_is_many [.tup [x, y], .int 2] st = .ok (.bl true) st := rfl
theorem d_is_from_int (i lo hi : Int) (st : Sto) : d_is_from [.int i, .int lo, .int hi] st = .ok (.bl (decide (lo ≤ i) && decide (i ≤ hi))) st := by
  have e : d_is_from [.int i, .int lo, .int hi] st = (match decide (lo ≤ i) with | true => RE.ok (.bl (decide (i ≤ hi))) st | false => .ok (.bl false) st) := by
    unfold d_is_from r_is_from
    simp only [callI, startI, List.map_cons, List.map_nil, List.length_cons, List.length_nil, Nat.reduceAdd, Nat.reduceSub, List.replicate_one, List.cons_append, List.nil_append, List.replicate, List.append_nil, sRet, rAnd, rDef, rCons, rNil, rVar, List.getElem?_cons_zero, List.getElem?_cons_succ, RE.bind, d_is_whole_int, truI, rChain, cLe, leI, blO, RE.ofO, RS.ofE]
    cases decide (lo ≤ i) <;> rfl
  rw [e]
  cases decide (lo ≤ i) <;> rfl
/-- a lean fraction: no common divisor, below the line -/
structure Fr (t b : Int) : Prop where
  pos : 0 < b
  gcd : Int.gcd (t.natAbs : Int) b = 1
  top : t.natAbs ≤ 10 ^ 60
  bot : b ≤ 10 ^ 60
theorem d_is_fraction_eq {t b : Int} (st : Sto) (h : Fr t b) : d_is_fraction [.tup [.int t, .int b]] st = .ok (.bl true) st := by
  have hc : d_common [.int (t.natAbs : Int), .int b] st = .ok (.int 1) st := by
    have := d_common_eq (a := (t.natAbs : Int)) (b := b) st (by omega) (Int.le_of_lt h.pos) (sm60 (by have := h.top; omega)) (sm60 (by have := h.bot; have := h.pos; omega))
    rw [h.gcd] at this
    exact this
  have i0 : ∀ (x y : IV) (st : Sto), idxI (.tup [x, y]) (.int 0) st = some (x, st) := fun _ _ _ => rfl
  have i1 : ∀ (x y : IV) (st : Sto), idxI (.tup [x, y]) (.int 1) st = some (y, st) := fun _ _ _ => rfl
  have n1 : ∀ (i : Int) (st : Sto), negI (.int i) st = some (.int (-i), st) := fun _ _ => rfl
  have a1 : (decide (-(10 : Int) ^ 60 ≤ t) && decide (t ≤ 10 ^ 60)) = true := by
    have := h.top
    rw [decide_eq_true (by omega), decide_eq_true (by omega)]; rfl
  have a2 : (decide ((1 : Int) ≤ b) && decide (b ≤ 10 ^ 60)) = true := by
    have := h.bot; have := h.pos
    rw [decide_eq_true (by omega), decide_eq_true (by omega)]; rfl
  have q : ∀ st : Sto, cEq (.int 1) (.int 1) st = some (.bl true, st) := fun _ => rfl
  unfold d_is_fraction r_is_fraction
  simp only [callI, startI, List.map_cons, List.map_nil, List.length_cons, List.length_nil, Nat.reduceAdd, Nat.reduceSub, List.replicate_one, List.cons_append, List.nil_append, List.replicate, List.append_nil, sSeq, sIf, rTOr, rTNot, rTru, sRet, rDef, rCons, rNil, rVar, rC, g_MOST, rBin, rUn, rCall, List.getElem?_cons_zero, List.getElem?_cons_succ, RE.bind, d_is_many_tup2, i0, i1, n1, d_is_from_int, a1, a2, truI, Bool.not_true, cond_false, RE.ofO, RS.ofE, sPass, RS.seq, absI_eq, hc, q]
/-- what the law's own lean gives, whatever the sign of the divisor -/
def lq (t b : Int) : Int × Int := if 0 < b then (t / gq t b, b / gq t b) else (-t / gq t (-b), -b / gq t (-b))
theorem d__law_lean_eq {t b : Int} (st : Sto) (hb : b ≠ 0) (sT : Sm t) (sb : Sm b) : d__law_lean [.int t, .int b] st = .ok (.tup [.int (lq t b).1, .int (lq t b).2]) st := by
  have n1 : ∀ (i : Int) (st : Sto), negI (.int i) st = some (.int (-i), st) := fun _ _ => rfl
  unfold d__law_lean r__law_lean
  by_cases h : 0 < b
  · have hg := gq_pos (t := t) h
    have sg : Sm (gq t b) := sm_le (by have := gq_le (t := t) h; omega) sb
    have ab : ((b.natAbs : Nat) : Int) = b := by omega
    have hc : d__law_common [.int (t.natAbs : Int), .int b] st = .ok (.int (gq t b)) st := d_common_eq st (by omega) (by omega) (by unfold Sm at *; omega) sb
    simp only [callI, startI, List.map_cons, List.map_nil, List.length_cons, List.length_nil, Nat.reduceAdd, Nat.reduceSub, List.replicate_one, List.cons_append, List.nil_append, List.replicate, sSeq, sAsg, rDef, rCons, rCall, rVar, rNil, rC, List.getElem?_cons_zero, List.getElem?_cons_succ, RE.bind, RE.ofO, absI_eq, ab, hc, RS.ofE, gN, RS.ofG, List.set_cons_zero, List.set_cons_succ, RS.seq, sRet, rIfE, rTBl, rBin, gt_eq, decide_eq_true h, cond_true, div_ok _ hg sg, rTup, lq, if_pos h]
    rfl
  · have h' : 0 < -b := by omega
    have hg := gq_pos (t := t) h'
    have sg : Sm (gq t (-b)) := sm_le (by have := gq_le (t := t) h'; omega) sb
    have ab : ((b.natAbs : Nat) : Int) = -b := by omega
    have hc : d__law_common [.int (t.natAbs : Int), .int (-b)] st = .ok (.int (gq t (-b))) st := d_common_eq st (by omega) (by omega) (by unfold Sm at *; omega) (by unfold Sm at *; omega)
    simp only [callI, startI, List.map_cons, List.map_nil, List.length_cons, List.length_nil, Nat.reduceAdd, Nat.reduceSub, List.replicate_one, List.cons_append, List.nil_append, List.replicate, sSeq, sAsg, rDef, rCons, rCall, rVar, rNil, rC, List.getElem?_cons_zero, List.getElem?_cons_succ, RE.bind, RE.ofO, absI_eq, ab, hc, RS.ofE, gN, RS.ofG, List.set_cons_zero, List.set_cons_succ, RS.seq, sRet, rIfE, rTBl, rBin, rUn, n1, gt_eq, decide_eq_false h, cond_false, div_ok _ hg sg, rTup, lq, if_neg h]
    rfl
theorem d_lean_fr {t b : Int} (st : Sto) (hb : 0 < b) (ht : t.natAbs ≤ 10 ^ 60) (hb2 : b ≤ 10 ^ 60) : d_lean [.int t, .int b] st = .ok (.tup [.int (lq t b).1, .int (lq t b).2]) st := by
  have hg := gq_pos (t := t) hb
  have h1 : (t / gq t b).natAbs ≤ 10 ^ 60 := Nat.le_trans (Int.natAbs_ediv_le_natAbs t _) ht
  have h2 : b / gq t b ≤ 10 ^ 60 := Int.le_trans (Int.ediv_le_self _ (Int.le_of_lt hb)) hb2
  rw [d_lean_eq st hb (sm60 ht) (sm60 (by omega)) h1 h2]
  simp only [lq, if_pos hb]
abbrev fr (t b : Int) : IV := .tup [.int t, .int b]
abbrev lf (t b : Int) : IV := fr (lq t b).1 (lq t b).2
theorem i0 (x y : IV) (st : Sto) : idxI (.tup [x, y]) (.int 0) st = some (x, st) := rfl
theorem i1 (x y : IV) (st : Sto) : idxI (.tup [x, y]) (.int 1) st = some (y, st) := rfl
theorem d_plus_eq {a b c d : Int} (st : Sto) (sa : Sm a) (sb : Sm b) (sc : Sm c) (sd : Sm d) (h : 0 < b * d) (h1 : (a * d + c * b).natAbs ≤ 10 ^ 60) (h2 : b * d ≤ 10 ^ 60) : d_plus [fr a b, fr c d] st = .ok (lf (a * d + c * b) (b * d)) st := by
  have hl := d_lean_fr st h h1 h2
  unfold d_plus r_plus
  simp only [callI, startI, List.map_cons, List.map_nil, List.length_cons, List.length_nil, Nat.reduceAdd, Nat.reduceSub, List.replicate_one, List.cons_append, List.nil_append, List.replicate, List.append_nil, sRet, rDef, rCons, rNil, rVar, rC, rBin, List.getElem?_cons_zero, List.getElem?_cons_succ, RE.bind, RE.ofO, RS.ofE, i0, i1, mul_ok _ sa sd, mul_ok _ sc sb, mul_ok _ sb sd, add_ok, hl]
theorem d__law_plus_eq {a b c d : Int} (st : Sto) (sa : Sm a) (sb : Sm b) (sc : Sm c) (sd : Sm d) (h : b * d ≠ 0) (h1 : Sm (a * d + c * b)) (h2 : Sm (b * d)) : d__law_plus [fr a b, fr c d] st = .ok (lf (a * d + c * b) (b * d)) st := by
  have hl := d__law_lean_eq st h h1 h2
  unfold d__law_plus r__law_plus
  simp only [callI, startI, List.map_cons, List.map_nil, List.length_cons, List.length_nil, Nat.reduceAdd, Nat.reduceSub, List.replicate_one, List.cons_append, List.nil_append, List.replicate, List.append_nil, sRet, rDef, rCons, rNil, rVar, rC, rBin, List.getElem?_cons_zero, List.getElem?_cons_succ, RE.bind, RE.ofO, RS.ofE, i0, i1, mul_ok _ sa sd, mul_ok _ sc sb, mul_ok _ sb sd, add_ok, hl]
theorem d_times_eq {a b c d : Int} (st : Sto) (sa : Sm a) (sb : Sm b) (sc : Sm c) (sd : Sm d) (h : 0 < b * d) (h1 : (a * c).natAbs ≤ 10 ^ 60) (h2 : b * d ≤ 10 ^ 60) : d_times [fr a b, fr c d] st = .ok (lf (a * c) (b * d)) st := by
  have hl := d_lean_fr st h h1 h2
  unfold d_times r_times
  simp only [callI, startI, List.map_cons, List.map_nil, List.length_cons, List.length_nil, Nat.reduceAdd, Nat.reduceSub, List.replicate_one, List.cons_append, List.nil_append, List.replicate, List.append_nil, sRet, rDef, rCons, rNil, rVar, rC, rBin, List.getElem?_cons_zero, List.getElem?_cons_succ, RE.bind, RE.ofO, RS.ofE, i0, i1, mul_ok _ sa sc, mul_ok _ sb sd, hl]
theorem d__law_times_eq {a b c d : Int} (st : Sto) (sa : Sm a) (sb : Sm b) (sc : Sm c) (sd : Sm d) (h : b * d ≠ 0) (h1 : Sm (a * c)) (h2 : Sm (b * d)) : d__law_times [fr a b, fr c d] st = .ok (lf (a * c) (b * d)) st := by
  have hl := d__law_lean_eq st h h1 h2
  unfold d__law_times r__law_times
  simp only [callI, startI, List.map_cons, List.map_nil, List.length_cons, List.length_nil, Nat.reduceAdd, Nat.reduceSub, List.replicate_one, List.cons_append, List.nil_append, List.replicate, List.append_nil, sRet, rDef, rCons, rNil, rVar, rC, rBin, List.getElem?_cons_zero, List.getElem?_cons_succ, RE.bind, RE.ofO, RS.ofE, i0, i1, mul_ok _ sa sc, mul_ok _ sb sd, hl]
theorem lq_pos {t b : Int} (hb : b ≠ 0) : 0 < (lq t b).2 := by
  unfold lq
  split
  · rename_i h
    have hd : gq t b ∣ b := Int.gcd_dvd_right ..
    exact Int.ediv_pos_of_pos_of_dvd h (Int.le_of_lt (gq_pos h)) hd
  · rename_i h
    have h' : 0 < -b := by omega
    have hd : gq t (-b) ∣ -b := Int.gcd_dvd_right ..
    exact Int.ediv_pos_of_pos_of_dvd h' (Int.le_of_lt (gq_pos h')) hd
theorem gcd_q {t b : Int} (hb : 0 < b) : Int.gcd ((t / gq t b).natAbs : Int) (b / gq t b) = 1 := by
  have hg := gq_pos (t := t) hb
  have h1 : (gq t b) ∣ t := by
    have : gq t b ∣ (t.natAbs : Int) := Int.gcd_dvd_left ..
    exact Int.dvd_natAbs.mp this
  have h2 : gq t b ∣ b := Int.gcd_dvd_right ..
  have e : gq t b = (Int.gcd t b : Nat) := by
    unfold gq
    simp [Int.gcd]
  have k : Int.gcd (t / gq t b) (b / gq t b) = 1 := by
    rw [Int.gcd_ediv h1 h2]
    rw [e]
    have : 0 < Int.gcd t b := by
      have := hg
      rw [e] at this
      omega
    simp [Nat.div_self this]
  simpa [Int.gcd] using k
theorem lq_fr {t b : Int} (hb : b ≠ 0) (h1 : t.natAbs ≤ 10 ^ 60) (h2 : b.natAbs ≤ 10 ^ 60) : Fr (lq t b).1 (lq t b).2 := by
  have hp := lq_pos (t := t) hb
  unfold lq at hp ⊢
  split
  · rename_i h
    rw [if_pos h] at hp
    exact ⟨hp, gcd_q h, Nat.le_trans (Int.natAbs_ediv_le_natAbs t _) h1, Int.le_trans (Int.ediv_le_self _ (Int.le_of_lt h)) (by omega)⟩
  · rename_i h
    rw [if_neg h] at hp
    have h' : 0 < -b := by omega
    have e : gq t (-b) = gq (-t) (-b) := by unfold gq; rw [Int.natAbs_neg]
    rw [e] at hp ⊢
    exact ⟨hp, gcd_q h', Nat.le_trans (Int.natAbs_ediv_le_natAbs _ _) (by rw [Int.natAbs_neg]; exact h1), Int.le_trans (Int.ediv_le_self _ (Int.le_of_lt h')) (by omega)⟩
/-- what lean gives stands for the same number -/
theorem lq_cross {t b : Int} (hb : b ≠ 0) : (lq t b).1 * b = t * (lq t b).2 := by
  have key : ∀ t b : Int, 0 < b → t / gq t b * b = t * (b / gq t b) := fun t b h => by
    have hg := gq_pos (t := t) h
    have h1 : gq t b ∣ t := by
      have : gq t b ∣ (t.natAbs : Int) := Int.gcd_dvd_left ..
      exact Int.dvd_natAbs.mp this
    have h2 : gq t b ∣ b := Int.gcd_dvd_right ..
    obtain ⟨x, hx⟩ := h1
    obtain ⟨y, hy⟩ := h2
    have ht : t / gq t b = x := by rw [Int.ediv_eq_of_eq_mul_right (Int.ne_of_gt hg) hx]
    have hb' : b / gq t b = y := by rw [Int.ediv_eq_of_eq_mul_right (Int.ne_of_gt hg) hy]
    rw [ht, hb']
    calc x * b = x * (gq t b * y) := by rw [← hy]
      _ = (gq t b * x) * y := by rw [← Int.mul_assoc, Int.mul_comm x]
      _ = t * y := by rw [← hx]
  unfold lq
  split
  · exact key t b (by assumption)
  · rename_i h
    have := key (-t) (-b) (by omega)
    have e : gq (-t) (-b) = gq t (-b) := by unfold gq; rw [Int.natAbs_neg]
    rw [e] at this
    rw [Int.mul_neg, Int.neg_mul] at this
    exact Int.neg_inj.mp this
theorem cop_dvd {a b d : Int} (g : Int.gcd a b = 1) (h : b ∣ a * d) : b ∣ d := by
  apply Int.natAbs_dvd_natAbs.mp
  have h' := Int.natAbs_dvd_natAbs.mpr h
  rw [Int.natAbs_mul] at h'
  exact Nat.Coprime.dvd_of_dvd_mul_left (show Nat.gcd b.natAbs a.natAbs = 1 by rw [Nat.gcd_comm]; exact g) h'
/-- one lean fraction for one number -/
theorem fr_one {a b c d : Int} (h : Fr a b) (h' : Fr c d) (e : a * d = c * b) : a = c ∧ b = d := by
  have g1 : Int.gcd a b = 1 := by simpa [Int.gcd] using h.gcd
  have g2 : Int.gcd c d = 1 := by simpa [Int.gcd] using h'.gcd
  have hb : b ∣ d := by
    have : b ∣ a * d := ⟨c, by rw [e, Int.mul_comm]⟩
    exact cop_dvd g1 this
  have hd : d ∣ b := by
    have : d ∣ c * b := ⟨a, by rw [← e, Int.mul_comm]⟩
    exact cop_dvd g2 this
  have hbd : b = d := Int.le_antisymm (Int.le_of_dvd h'.pos hb) (Int.le_of_dvd h.pos hd)
  subst hbd
  exact ⟨Int.eq_of_mul_eq_mul_right (Int.ne_of_gt h.pos) e, rfl⟩
end PL

set_option Elab.async false
set_option linter.all false
set_option maxRecDepth 100000
set_option maxHeartbeats 4000000
/-! PL6: fractions as rationals. -/
namespace PL
open PySem PySem.Spec PyProof.Rows L2 PI
/-- the pair that stands for a rational -/
def q (r : Rat) : IV := fr r.num r.den
theorem q_inj {a b : Rat} (h1 : a.num = b.num) (h2 : a.den = b.den) : a = b := Rat.ext h1 h2
theorem q_norm (n : Int) (d : Nat) (h : d ≠ 0) : lf n d = q (Rat.normalize n d h) := by
  have hb : (0 : Int) < d := by omega
  unfold lf lq q
  rw [if_pos hb, Rat.num_normalize, Rat.den_normalize]
  have e : gq n d = ((n.natAbs.gcd d : Nat) : Int) := by
    unfold gq
    show ((Int.gcd (n.natAbs : Int) (d : Int) : Nat) : Int) = _
    rw [Int.gcd_natCast_natCast]
  rw [e]
  simp only [fr, Int.natCast_ediv]
/-- small enough for sums and products below the line -/
def Bn (a : Rat) : Prop := a.num.natAbs ≤ 10 ^ 25 ∧ a.den ≤ 10 ^ 25
theorem bn_fr {a : Rat} (h : Bn a) : Fr a.num a.den := by
  refine ⟨by have := a.den_pos; omega, ?_, Nat.le_trans h.1 (by decide), ?_⟩
  · rw [Int.gcd_natCast_natCast]; exact a.reduced
  · have := h.2
    have h3 : (10 : Nat) ^ 25 ≤ 10 ^ 60 := by decide
    have : a.den ≤ 10 ^ 60 := Nat.le_trans h.2 h3
    exact_mod_cast this
theorem bn_sm {a : Rat} (h : Bn a) : Sm a.num ∧ Sm (a.den : Int) :=
  ⟨sm60 (Nat.le_trans h.1 (by decide)), sm60 (by rw [Int.natAbs_natCast]; exact Nat.le_trans h.2 (by decide))⟩
theorem mul50 {a b : Int} (ha : a.natAbs ≤ 10 ^ 25) (hb : b.natAbs ≤ 10 ^ 25) : (a * b).natAbs ≤ 10 ^ 50 := by
  rw [Int.natAbs_mul]
  exact Nat.le_trans (Nat.mul_le_mul ha hb) (by decide)
theorem plus_b {a b : Rat} (ha : Bn a) (hb : Bn b) : (a.num * b.den + b.num * a.den).natAbs ≤ 10 ^ 60 := by
  have h1 := mul50 ha.1 (b := (b.den : Int)) (by rw [Int.natAbs_natCast]; exact hb.2)
  have h2 := mul50 hb.1 (b := (a.den : Int)) (by rw [Int.natAbs_natCast]; exact ha.2)
  have := Int.natAbs_add_le (a.num * b.den) (b.num * a.den)
  omega
theorem den_b {a b : Rat} (ha : Bn a) (hb : Bn b) : (a.den : Int) * b.den ≤ 10 ^ 60 := by
  have h1 := mul50 (a := (a.den : Int)) (b := (b.den : Int)) (by rw [Int.natAbs_natCast]; exact ha.2) (by rw [Int.natAbs_natCast]; exact hb.2)
  omega
theorem den_p (a b : Rat) : 0 < (a.den : Int) * b.den := Int.mul_pos (by have := a.den_pos; omega) (by have := b.den_pos; omega)
theorem lf_add (a b : Rat) : lf (a.num * b.den + b.num * a.den) ((a.den : Int) * b.den) = q (a + b) := by
  have := q_norm (a.num * b.den + b.num * a.den) (a.den * b.den) (Nat.mul_ne_zero a.den_nz b.den_nz)
  rw [Int.natCast_mul] at this
  rw [this, Rat.add_def]
theorem lf_mul (a b : Rat) : lf (a.num * b.num) ((a.den : Int) * b.den) = q (a * b) := by
  have := q_norm (a.num * b.num) (a.den * b.den) (Nat.mul_ne_zero a.den_nz b.den_nz)
  rw [Int.natCast_mul] at this
  rw [this, Rat.mul_def]
theorem plus_q {a b : Rat} (ha : Bn a) (hb : Bn b) (st : Sto) : d_plus [q a, q b] st = .ok (q (a + b)) st := by
  have := d_plus_eq (a := a.num) (b := a.den) (c := b.num) (d := b.den) st (bn_sm ha).1 (bn_sm ha).2 (bn_sm hb).1 (bn_sm hb).2 (den_p a b) (plus_b ha hb) (den_b ha hb)
  rw [lf_add] at this; exact this
theorem times_q {a b : Rat} (ha : Bn a) (hb : Bn b) (st : Sto) : d_times [q a, q b] st = .ok (q (a * b)) st := by
  have := d_times_eq (a := a.num) (b := a.den) (c := b.num) (d := b.den) st (bn_sm ha).1 (bn_sm ha).2 (bn_sm hb).1 (bn_sm hb).2 (den_p a b) (Nat.le_trans (mul50 ha.1 hb.1) (by decide)) (den_b ha hb)
  rw [lf_mul] at this; exact this
theorem den_sm {a b : Rat} (ha : Bn a) (hb : Bn b) : Sm ((a.den : Int) * b.den) := sm60 (by have := den_b ha hb; have := den_p a b; omega)
theorem law_plus_q {a b : Rat} (ha : Bn a) (hb : Bn b) (st : Sto) : d__law_plus [q a, q b] st = .ok (q (a + b)) st := by
  have := d__law_plus_eq (a := a.num) (b := a.den) (c := b.num) (d := b.den) st (bn_sm ha).1 (bn_sm ha).2 (bn_sm hb).1 (bn_sm hb).2 (Int.ne_of_gt (den_p a b)) (sm60 (plus_b ha hb)) (den_sm ha hb)
  rw [lf_add] at this; exact this
theorem law_times_q {a b : Rat} (ha : Bn a) (hb : Bn b) (st : Sto) : d__law_times [q a, q b] st = .ok (q (a * b)) st := by
  have := d__law_times_eq (a := a.num) (b := a.den) (c := b.num) (d := b.den) st (bn_sm ha).1 (bn_sm ha).2 (bn_sm hb).1 (bn_sm hb).2 (Int.ne_of_gt (den_p a b)) (sm60 (Nat.le_trans (mul50 ha.1 hb.1) (by decide))) (den_sm ha hb)
  rw [lf_mul] at this; exact this
theorem is_fraction_q {a : Rat} (h : Bn a) (st : Sto) : d_is_fraction [q a] st = .ok (.bl true) st := d_is_fraction_eq st (bn_fr h)
/-- m over 2^e, with m at most N -/
def Dy (e N : Nat) (r : Rat) : Prop := ∃ m : Int, m.natAbs ≤ N ∧ r = mkRat m (2 ^ e)
theorem Dy.bn {e N : Nat} {r : Rat} (h : Dy e N r) (he : e ≤ 80) (hN : N ≤ 10 ^ 25) : Bn r := by
  obtain ⟨m, hm, rfl⟩ := h
  have h0 : (2 ^ e : Nat) ≠ 0 := by have := Nat.two_pow_pos e; omega
  unfold Bn
  rw [Rat.num_mkRat, Rat.den_mkRat, if_neg h0, if_neg h0]
  constructor
  · exact Nat.le_trans (Int.natAbs_ediv_le_natAbs m _) (Nat.le_trans hm hN)
  · refine Nat.le_trans (Nat.div_le_self _ _) (Nat.le_trans (Nat.pow_le_pow_right (by decide) he) (by decide))
theorem Dy.zero (e N : Nat) : Dy e N 0 := ⟨0, Nat.zero_le _, by simp⟩
theorem Dy.mono {e N M : Nat} {r : Rat} (h : Dy e N r) (hl : N ≤ M) : Dy e M r := by
  obtain ⟨m, hm, e⟩ := h
  exact ⟨m, Nat.le_trans hm hl, e⟩
theorem Dy.add {e N M : Nat} {a b : Rat} (h : Dy e N a) (h' : Dy e M b) : Dy e (N + M) (a + b) := by
  obtain ⟨m, hm, rfl⟩ := h
  obtain ⟨k, hk, rfl⟩ := h'
  have h0 : (2 ^ e : Nat) ≠ 0 := by have := Nat.two_pow_pos e; omega
  refine ⟨m + k, Nat.le_trans (Int.natAbs_add_le m k) (by omega), ?_⟩
  rw [Rat.mkRat_add_mkRat _ _ h0 h0, ← Int.add_mul, Rat.mkRat_mul_right h0]
theorem Dy.mul {e f N M : Nat} {a b : Rat} (h : Dy e N a) (h' : Dy f M b) : Dy (e + f) (N * M) (a * b) := by
  obtain ⟨m, hm, rfl⟩ := h
  obtain ⟨k, hk, rfl⟩ := h'
  refine ⟨m * k, by rw [Int.natAbs_mul]; exact Nat.mul_le_mul hm hk, ?_⟩
  rw [Rat.mkRat_mul_mkRat, ← Nat.pow_add]
theorem Dy.up {e N : Nat} {a : Rat} (h : Dy e N a) (k : Nat) : Dy (e + k) (N * 2 ^ k) a := by
  obtain ⟨m, hm, rfl⟩ := h
  have h0 : (2 ^ k : Nat) ≠ 0 := by have := Nat.two_pow_pos k; omega
  refine ⟨m * ((2 ^ k : Nat) : Int), by rw [Int.natAbs_mul, Int.natAbs_natCast]; exact Nat.mul_le_mul_right _ hm, ?_⟩
  rw [Nat.pow_add, Rat.mkRat_mul_right h0]
theorem Dy.one : Dy 2 8 1 := ⟨4, by decide, by rfl⟩
/-! equality -/
theorem pd_q (os : List IO) (n : Nat) (a : Rat) : pd os (n + 2) (q a) = some (.tuple [.int a.num, .int a.den]) := rfl
theorem eq_q (a b : Rat) (st : Sto) : eqI st (q a) (q b) = some (decide (a = b)) := by
  show (match pd st.os 63 (q a) with
    | some d => match pd st.os 63 (q b) with
      | some e => some (PyData.eqv d e)
      | none => none
    | none => none) = _
  rw [pd_q st.os 61, pd_q st.os 61]
  simp only [PyData.eqv, PyData.eqvAll, Bool.and_true]
  by_cases h : a = b
  · subst h; simp
  · rw [decide_eq_false h]
    by_cases h1 : a.num = b.num
    · have h2 : ¬ (a.den : Int) = b.den := fun z => h (Rat.ext h1 (by omega))
      have : ((a.den : Int) == (b.den : Int)) = false := beq_eq_false_iff_ne.mpr h2
      rw [this, Bool.and_false]
    · rw [beq_eq_false_iff_ne.mpr h1, Bool.false_and]
/-- a tuple of fractions -/
def T (xs : List Rat) : IV := .tup (xs.map q)
theorem pdall_q (os : List IO) (n : Nat) : ∀ xs : List Rat, allSome (pd os (n + 2)) (xs.map q) = some (xs.map fun a => PyData.tuple [.int a.num, .int a.den])
  | [] => rfl
  | x :: xs => by
    rw [List.map_cons]
    unfold allSome
    rw [pd_q os n, pdall_q os n xs]; rfl
theorem pd_T (os : List IO) (n : Nat) (xs : List Rat) : pd os (n + 3) (T xs) = some (.tuple (xs.map fun a => PyData.tuple [.int a.num, .int a.den])) := by
  show (match allSome (pd os (n + 2)) (xs.map q) with
    | some ds => some (PyData.tuple ds)
    | none => none) = _
  rw [pdall_q]
theorem can_q : ∀ ps : List Rat, PyData.canLayAll0 (ps.map fun a => PyData.tuple [.int a.num, .int a.den]) = true
  | [] => rfl
  | p :: ps => by simp only [List.map_cons, PyData.canLayAll0, PyData.canLay0, can_q ps, Bool.and_self]
theorem eq_T (xs : List Rat) (st : Sto) : eqI st (T xs) (T xs) = some true := eq_tup st (pd_T st.os 60 xs) (by show PyData.canLayAll0 _ = true; exact can_q xs)
theorem eq_Tnil (xs : List Rat) (st : Sto) : eqI st (T xs) (.tup []) = some (decide (xs = [])) := by
  show (match pd st.os 63 (T xs) with
    | some d => match pd st.os 63 (.tup []) with
      | some e => some (PyData.eqv d e)
      | none => none
    | none => none) = _
  rw [pd_T st.os 60 xs]
  cases xs with
  | nil => simp [pd, allSome, PyData.eqv, PyData.eqvAll]
  | cons x xs => simp [pd, allSome, PyData.eqv, PyData.eqvAll]
/-- a tuple of tuples of fractions -/
def TT (xs : List (List Rat)) : IV := .tup (xs.map T)
theorem pdall_T (os : List IO) (n : Nat) : ∀ xs : List (List Rat), allSome (pd os (n + 3)) (xs.map T) = some (xs.map fun r => PyData.tuple (r.map fun a => PyData.tuple [.int a.num, .int a.den]))
  | [] => rfl
  | x :: xs => by
    rw [List.map_cons]
    unfold allSome
    rw [pd_T os n, pdall_T os n xs]; rfl
theorem pd_TT (os : List IO) (n : Nat) (xs : List (List Rat)) : pd os (n + 4) (TT xs) = some (.tuple (xs.map fun r => PyData.tuple (r.map fun a => PyData.tuple [.int a.num, .int a.den]))) := by
  show (match allSome (pd os (n + 3)) (xs.map T) with
    | some ds => some (PyData.tuple ds)
    | none => none) = _
  rw [pdall_T]
theorem can_T : ∀ ps : List (List Rat), PyData.canLayAll0 (ps.map fun r => PyData.tuple (r.map fun a => PyData.tuple [.int a.num, .int a.den])) = true
  | [] => rfl
  | p :: ps => by simp only [List.map_cons, PyData.canLayAll0, PyData.canLay0, can_q, can_T ps, Bool.and_self]
theorem eq_TT (xs : List (List Rat)) (st : Sto) : eqI st (TT xs) (TT xs) = some true := eq_tup st (pd_TT st.os 59 xs) (by show PyData.canLayAll0 _ = true; exact can_T xs)
end PL

set_option Elab.async false
set_option linter.all false
set_option maxRecDepth 100000
set_option maxHeartbeats 4000000
/-! PL7: what the texts of several laws use: loops, lists in names, refusals, texts that are short, draws. -/
namespace PL
open PySem PySem.Spec PyProof.Rows L2 PI
theorem mem_mid {α : Type} {xs pre rest : List α} {k : α} (h : xs = pre ++ k :: rest) : xs[pre.length]? = some k ∧ k ∈ xs ∧ pre.length < xs.length := by
  subst h
  exact ⟨by simp, by simp, by simp⟩
theorem range_pre {n : Nat} {pre rest : List Nat} {k : Nat} (h : List.range n = pre ++ k :: rest) : k = pre.length ∧ k < n := by
  obtain ⟨h1, h2, h3⟩ := mem_mid h
  have h4 : pre.length < n := by simpa using h3
  rw [List.getElem?_range h4] at h1
  have := Option.some.inj h1
  omega
theorem all_L {κ : Type} {e : SemE} {env : IEnv} {st : Sto} {ks : List κ} {f : κ → Bool} (h : OkL (e env st) st (ks.map fun k => .bl (f k))) : Ok (rCall allI (rCons e rNil) env st) st (.bl (ks.all f)) := call_L h fun n s hl => all_lst hl
theorem any_L {κ : Type} {e : SemE} {env : IEnv} {st : Sto} {ks : List κ} {f : κ → Bool} (h : OkL (e env st) st (ks.map fun k => .bl (f k))) : Ok (rCall anyI (rCons e rNil) env st) st (.bl (ks.any f)) := call_L h fun n s hl => any_lst hl
theorem tup_L {e : SemE} {env : IEnv} {st : Sto} {xs : List IV} (h : OkL (e env st) st xs) : Ok (rCall tupleI (rCons e rNil) env st) st (.tup xs) := call_L h fun n s hl => tup_lst hl
theorem okl_def {as : SemA} {D : List IV → Sto → RE IV} {env : IEnv} {st : Sto} {xs ys : List IV} (h : Ok (as env st) st xs) (h2 : ∀ st1, Gw st st1 → OkL (D xs st1) st1 ys) : OkL (rDef D as env st) st ys := by
  obtain ⟨s1, e1, g1⟩ := h
  obtain ⟨n, s2, e2, g2, hl⟩ := h2 s1 g1
  refine ⟨n, s2, ?_, g1.trans g2, hl⟩
  unfold rDef
  rw [e1]; exact e2
theorem rcons_eq {a : SemE} {as : SemA} {env : IEnv} {st s1 s2 : Sto} {v : IV} {vs : List IV} (h : a env st = .ok v s1) (h2 : as env s1 = .ok vs s2) : rCons a as env st = .ok (v :: vs) s2 := by
  unfold rCons
  rw [h]
  simp only [RE.bind]
  rw [h2]
theorem spar_eq {a b : SemE} {env : IEnv} {st s1 s2 : Sto} {x y : IV} {i j : Nat} (h : a env st = .ok x s1) (h2 : b env s1 = .ok y s2) : sPar i j (rCons a (rCons b rNil)) env st = .nx ((env.set i (some x)).set j (some y)) s2 := by
  unfold sPar
  rw [rcons_eq h (rcons_eq h2 (rfl : rNil env s2 = .ok [] s2))]
  rfl
theorem sasg2_eq {a b : SemE} {env : IEnv} {st s1 s2 : Sto} {x y : IV} {i j : Nat} (h : a env st = .ok x s1) (h2 : b env s1 = .ok y s2) : sAsg (rTup (rCons a (rCons b rNil))) (gT 2 (gsCons (gN i) (gsCons (gN j) gsNil))) env st = .nx ((env.set i (some x)).set j (some y)) s2 := by
  unfold sAsg rTup
  rw [rcons_eq h (rcons_eq h2 (rfl : rNil env s2 = .ok [] s2))]
  rfl
theorem callI_rt {n : Nat} {r : SemS} {xs : List IV} {st st' : Sto} {v : IV} (h : r (startI n xs) st = .rt v st') : callI n r xs st = .ok v st' := by unfold callI; rw [h]
theorem sfor_items {it : IEnv → Sto → RE FI} {g : SemG} {b : SemS} {env : IEnv} {st st1 : Sto} {xs : List IV} (h : it env st = .ok (.items xs) st1) : sFor it g b env st = loopT g b xs env st1 := by
  unfold sFor
  rw [h]; rfl
theorem lc_enum {it : IEnv → Sto → RE FI} {ct : CT} {vs : List Nat} {tt : SemT} {te : SemE} {env : IEnv} {st0 st : Sto} {xs : List IV} (E : Nat → IEnv) (p : Nat → Bool) (g : Nat → IV)
    (hi : it env st0 = .ok (.walk xs.length (lenOf (.tup xs)) (rowE (.tup xs))) st) (hg : Gw st0 st) (hl : xs.length ≤ 100000) (h1 : ∀ k, k < xs.length → ct.put (.tup [.int (k : Nat), (xs[k]?).getD .non]) (wipeI env vs) = some (E k))
    (h2 : ∀ k, k < xs.length → ∀ st1, Gw st st1 → Ok (tt (E k) st1) st1 (p k)) (h3 : ∀ k, k < xs.length → p k = true → ∀ st1, Gw st st1 → Ok (te (E k) st1) st1 (g k)) :
    OkL (rLc it ct vs tt te env st0) st0 (((List.range xs.length).filter p).map g) := by
  obtain ⟨s2, e2, g2⟩ := lc_gen ct (wipeI env vs) tt te st (fun i : Nat => IV.tup [.int (i : Nat), (xs[i]?).getD .non]) E p g (List.range xs.length) [] st (.refl st) (fun k hk => h1 k (range_mem hk)) (fun k hk => h2 k (range_mem hk)) (fun k hk => h3 k (range_mem hk))
  refine ⟨s2.os.length, { os := s2.os ++ [.lst (((List.range xs.length).filter p).map g)], low := s2.low }, ?_, (hg.trans g2).trans (.alloc _ _), new_lst _ _ _⟩
  have hb : Nat.ble xs.length lineI = true := Nat.ble_eq_true_of_le hl
  have hw := walkC ct (wipeI env vs) tt te xs (xs.length + 1) 0 (by omega) (by omega) [] st
  rw [List.drop_zero] at hw
  unfold enumI at hw
  unfold rLc
  simp only [hi, RE.bind, hb, cond_true, hw, e2, List.reverse_nil, List.nil_append, Sto.allocO, RE.ofO]
theorem setL_eq {a : SemE} {env : IEnv} {st st1 : Sto} {n i : Nat} (h : a env st = .ok (.ref n) st1) : sAsg a (gN i) env st = .nx (env.set i (some (.ref n))) st1 := by
  unfold sAsg; rw [h]; rfl
theorem okr_setL {a : SemE} {env : IEnv} {st : Sto} {i : Nat} {xs : List IV} {k : SemS} {v : IV} (h : OkL (a env st) st xs) (h2 : ∀ n st1, Gw st st1 → lstAt st1 n = some xs → OkR (k (env.set i (some (.ref n))) st1) st1 v) : OkR (sSeq (sAsg a (gN i)) k env st) st v := by
  obtain ⟨n, s1, e1, g1, hl⟩ := h
  obtain ⟨s2, e2, g2⟩ := h2 n s1 g1 hl
  exact ⟨s2, by rw [seq_nx (setL_eq e1)]; exact e2, g1.trans g2⟩
def Ex {α : Type} (m : RE α) (st : Sto) (x : IX) : Prop := ∃ st', m = .exc x st' ∧ Gw st st'
def ExS (m : RS) (st : Sto) (x : IX) : Prop := ∃ env st', m = .exc x env st' ∧ Gw st st'
section
variable {env env' : IEnv} {st : Sto} {as : SemA} {xs : List IV} {D : List IV → Sto → RE IV} {x : IX} {s t : SemS} {e : SemE} {v : IV}
theorem ex_def (h : Ok (as env st) st xs) (h2 : ∀ st1, Gw st st1 → Ex (D xs st1) st1 x) : Ex (rDef D as env st) st x := by
  obtain ⟨s1, e1, g1⟩ := h
  obtain ⟨s2, e2, g2⟩ := h2 s1 g1
  refine ⟨s2, ?_, g1.trans g2⟩
  unfold rDef
  rw [e1]; exact e2
theorem ex_fn {n : Nat} {r : SemS} (h : ExS (r (startI n xs) st) st x) : Ex (callI n r xs st) st x := by
  obtain ⟨en, s1, e1, g1⟩ := h
  exact ⟨s1, by unfold callI; rw [e1], g1⟩
theorem exs_now (h : ExS (s env st) st x) : ExS (sSeq s t env st) st x := by
  obtain ⟨en, s1, e1, g1⟩ := h
  exact ⟨en, s1, by unfold sSeq; rw [e1]; rfl, g1⟩
theorem exs_seq (h : OkS (s env st) st env') (h2 : ∀ st1, Gw st st1 → ExS (t env' st1) st1 x) : ExS (sSeq s t env st) st x := by
  obtain ⟨s1, e1, g1⟩ := h
  obtain ⟨en, s2, e2, g2⟩ := h2 s1 g1
  exact ⟨en, s2, by unfold sSeq; rw [e1]; exact e2, g1.trans g2⟩
theorem exs_expr (h : Ex (e env st) st x) : ExS (sExpr e env st) st x := by
  obtain ⟨s1, e1, g1⟩ := h
  exact ⟨env, s1, by unfold sExpr; rw [e1]; rfl, g1⟩
theorem exs_asg {G : SemG} (h : Ex (e env st) st x) : ExS (sAsg e G env st) st x := by
  obtain ⟨s1, e1, g1⟩ := h
  exact ⟨env, s1, by unfold sAsg; rw [e1]; rfl, g1⟩
theorem exs_ret (h : Ex (e env st) st x) : ExS (sRet e env st) st x := by
  obtain ⟨s1, e1, g1⟩ := h
  exact ⟨env, s1, by unfold sRet; rw [e1]; rfl, g1⟩
theorem exs_fire {c : SemT} (h : Ok (c env st) st true) (hv : ∀ st1, Gw st st1 → e env st1 = .ok v st1) : ExS (sIf c (sRaise 1 "thing" e) t env st) st ⟨1, [("thing", v)]⟩ := by
  obtain ⟨s1, e1, g1⟩ := h
  exact ⟨env, s1, by unfold sIf; rw [e1]; show sRaise 1 "thing" e env s1 = _; unfold sRaise; rw [hv s1 g1]; rfl, g1⟩
theorem ok_refuses {body due : SemE} (hd : Ok (due env st) st v) (hb : ∀ st1, Gw st st1 → Ex (body env st1) st1 ⟨1, [("thing", v)]⟩) (hr : ∀ st1, Gw st st1 → ∃ s, reprI [v] st1 = some (.str s, st1)) : Ok (rRefuses 1 "thing" body due env st) st (.bl true) := by
  obtain ⟨s1, e1, g1⟩ := hd
  obtain ⟨s2, e2, g2⟩ := hb s1 g1
  obtain ⟨s, hs⟩ := hr s2 (g1.trans g2)
  refine ⟨s2, ?_, g1.trans g2⟩
  unfold rRefuses
  rw [e1]
  show (match body env s1 with
    | .ok _ st2 => RE.ok (IV.bl false) st2
    | .exc x st2 => bif Nat.beq x.cls 1 then (match x.fs with
      | [(n, v1)] => bif decide (n = "thing") then RE.ofO ((reprI [v1] st2).bind fun (a, st3) => (reprI [v] st3).bind fun (b, st4) => blO (eqI st4 a b) st4) else .bad
      | _ => .bad) else .bad
    | .bad => .bad) = _
  rw [e2]
  show RE.ofO ((reprI [v] s2).bind fun (a, st3) => (reprI [v] st3).bind fun (b, st4) => blO (eqI st4 a b) st4) = _
  rw [hs]
  show RE.ofO ((reprI [v] s2).bind fun (b, st4) => blO (eqI st4 (.str s) b) st4) = _
  rw [hs]
  show RE.ofO (some (.bl (s == s), s2)) = _
  rw [beq_self_eq_true]; rfl
end
theorem loop_ok {b : SemS} {env : IEnv} {i : Nat} : ∀ (xs : List IV) (e : Option IV) (st : Sto), (∀ x ∈ xs, ∀ st1, Gw st st1 → ∀ e, OkS (b ((env.set i e).set i (some x)) st1) st1 ((env.set i e).set i (some x))) → ∃ e', OkS (loopT (gN i) b xs (env.set i e) st) st (env.set i e')
  | [], e, st, _ => ⟨e, st, rfl, .refl st⟩
  | x :: xs, e, st, hb => by
    obtain ⟨s1, e1, g1⟩ := hb x List.mem_cons_self st (.refl st) e
    obtain ⟨e', s2, e2, g2⟩ := loop_ok xs (some x) s1 (fun y hy st1 h => hb y (List.mem_cons_of_mem _ hy) st1 (g1.trans h))
    refine ⟨e', s2, ?_, g1.trans g2⟩
    show (b ((env.set i e).set i (some x)) st).loop _ = _
    rw [e1]
    show loopT (gN i) b xs ((env.set i e).set i (some x)) s1 = _
    rw [List.set_set]
    exact e2
theorem for_ok {b : SemS} {env : IEnv} {i : Nat} {st st0 : Sto} {it : IEnv → Sto → RE FI} {xs : List IV} (h : it env st = .ok (.items xs) st0) (hg : Gw st st0) (hb : ∀ x ∈ xs, ∀ st1, Gw st0 st1 → ∀ e, OkS (b ((env.set i e).set i (some x)) st1) st1 ((env.set i e).set i (some x))) (hi : i < env.length) : ∃ e, OkS (sFor it (gN i) b env st) st (env.set i e) := by
  obtain ⟨e', s2, e2, g2⟩ := loop_ok xs (env[i]'hi) st0 hb
  rw [List.set_getElem_self] at e2
  exact ⟨e', s2, (sfor_items h).trans e2, hg.trans g2⟩
theorem repr_of {st : Sto} {v : IV} {d : PyData} (h : pd st.os 63 v = some d) (hd : (d.showable && (Nat.ble d.shown.length lineI && (txtOf d).all fun c => decide (c < 0x110000))) = true) : ∃ s, reprI [v] st = some (.str s, st) := by
  refine ⟨txtOf d, ?_⟩
  show (match pd st.os 63 v with
    | some d => bif d.showable && (Nat.ble d.shown.length lineI && (txtOf d).all fun c => decide (c < 0x110000)) then some (IV.str (txtOf d), st) else none
    | none => none) = _
  rw [h]
  simp only [hd, cond_true]
theorem ftup_eq {as : SemA} {env : IEnv} {st s1 : Sto} {xs : List IV} (h : as env st = .ok xs s1) (hl : Nat.ble xs.length lineI = true) : fSeq (rTup as) env st = .ok (.items xs) s1 := by
  have h1 : rTup as env st = .ok (.tup xs) s1 := by
    unfold rTup
    rw [h]
    show (bif Nat.ble xs.length lineI then RE.ok (IV.tup xs) s1 else .bad) = _
    rw [hl]; rfl
  unfold fSeq
  rw [h1]; rfl
theorem rtup_eq {as : SemA} {env : IEnv} {st s1 : Sto} {xs : List IV} (h : as env st = .ok xs s1) (hl : Nat.ble xs.length lineI = true) : rTup as env st = .ok (.tup xs) s1 := by
  unfold rTup
  rw [h]
  show (bif Nat.ble xs.length lineI then RE.ok (IV.tup xs) s1 else .bad) = _
  rw [hl]; rfl
theorem rbin_eq {f : IV → IV → Sto → RO} {a b : SemE} {env : IEnv} {st s1 s2 s3 : Sto} {x y z : IV} (h : a env st = .ok x s1) (h2 : b env s1 = .ok y s2) (h3 : f x y s2 = some (z, s3)) : rBin f a b env st = .ok z s3 := by
  unfold rBin
  rw [h]
  simp only [RE.bind]
  rw [h2]
  simp only
  rw [h3]; rfl
def Chs (t : Str) : Prop := ∀ c ∈ t.cps.toList, c < 0x110000
theorem chs_app {a b : Str} (h : Chs a) (h' : Chs b) : Chs (a ++ b) := by
  intro c hc
  have e : (a ++ b).cps.toList = a.cps.toList ++ b.cps.toList := by
    show (a.cps ++ b.cps).toList = _
    simp
  rw [e] at hc
  rcases List.mem_append.mp hc with h1 | h1
  · exact h c h1
  · exact h' c h1
theorem len_app (a b : Str) : (a ++ b).length = a.length + b.length := by
  show (a.cps ++ b.cps).size = _
  simp [Str.length]
theorem joinC {B : Nat} : ∀ ts : List Str, (∀ t ∈ ts, t.length ≤ B ∧ Chs t) → (Str.join ", " ts).length ≤ (B + 2) * ts.length ∧ Chs (Str.join ", " ts)
  | [], _ => ⟨Nat.zero_le _, fun c hc => nomatch hc⟩
  | [x], h => by
    have h1 := h x List.mem_cons_self
    exact ⟨by show x.length ≤ _; simp; omega, h1.2⟩
  | x :: y :: r, h => by
    have h1 := h x List.mem_cons_self
    have ih := joinC (y :: r) fun t ht => h t (List.mem_cons_of_mem _ ht)
    have e2 : ((", " : String) : Str).length = 2 := rfl
    refine ⟨?_, ?_⟩
    · show (x ++ ", " ++ Str.join ", " (y :: r)).length ≤ _
      rw [len_app, len_app, e2, List.length_cons, Nat.mul_add, Nat.mul_one]
      omega
    · show Chs (x ++ ", " ++ Str.join ", " (y :: r))
      exact chs_app (chs_app h1.2 (by unfold Chs; decide +kernel)) ih.2
theorem tupleC {B : Nat} (ts : List Str) (h : ∀ t ∈ ts, t.length ≤ B ∧ Chs t) : (tupleText ts).length ≤ (B + 2) * ts.length + 3 ∧ Chs (tupleText ts) := by
  have j := joinC ts h
  unfold tupleText
  have e1 : ((if ts.length == 1 then ",)" else ")" : String) : Str).length ≤ 2 := by split <;> decide +kernel
  have e3 : Chs ((if ts.length == 1 then ",)" else ")" : String) : Str) := by split <;> (unfold Chs; decide +kernel)
  have e2 : (("(" : Str)).length = 1 := rfl
  have e4 : Chs ("(" : Str) := by unfold Chs; decide +kernel
  exact ⟨by rw [len_app, len_app, e2]; omega, chs_app (chs_app e4 j.2) e3⟩
structure Dr (ms : List Int) (st : Sto) (cnt : Int) : Prop where
  m : st.os[1]? = some (.lst (ms.map IV.int))
  n : st.os[2]? = some (.lst [.ref 1, .int 0, .int cnt])
theorem Dr.grow {ms : List Int} {st st' : Sto} {cnt : Int} (D : Dr ms st cnt) (g : Gw st st') : Dr ms st' cnt := ⟨g.get D.m, g.get D.n⟩
theorem sasg3_eq {a b c : SemE} {env : IEnv} {st s1 s2 s3 : Sto} {x y z : IV} {i j k : Nat} (h : a env st = .ok x s1) (h2 : b env s1 = .ok y s2) (h3 : c env s2 = .ok z s3) : sAsg (rTup (rCons a (rCons b (rCons c rNil)))) (gT 3 (gsCons (gN i) (gsCons (gN j) (gsCons (gN k) gsNil)))) env st = .nx (((env.set i (some x)).set j (some y)).set k (some z)) s3 := by
  unfold sAsg rTup
  rw [rcons_eq h (rcons_eq h2 (rcons_eq h3 (rfl : rNil env s3 = .ok [] s3)))]
  rfl
theorem sset_eq {a : SemE} {env : IEnv} {st s1 : Sto} {x : IV} {i : Nat} (h : a env st = .ok x s1) : sAsg a (gN i) env st = .nx (env.set i (some x)) s1 := by
  unfold sAsg; rw [h]; rfl
theorem cut_map (ns : List Int) (lo hi : Option Int) : ∃ ms : List Int, cutI (ns.map IV.int) lo hi = ms.map IV.int := by
  unfold cutI
  exact ⟨_, by rw [← List.map_drop, ← List.map_take]⟩
theorem drw {ms : List Int} {env : IEnv} {st : Sto} {cnt b : Int} (he : env[1]? = some (some (.ref 2))) (D : Dr ms st cnt) (h0 : 0 ≤ cnt) (h1 : cnt < 900) (hb : 0 < b) : ∃ v st', 0 ≤ v ∧ v < b ∧ rDef d__law_next (rCons (rVar 1) (rCons (rC (.int b)) rNil)) env st = .ok (.int v) st' ∧ Dr ms st' (cnt + 1) := by
  obtain ⟨v, hv0, hv1, hv⟩ := d__law_next_ok 2 1 ms cnt b st D.n D.m (by decide) h0 (by omega) hb
  have hl1 := (List.getElem?_eq_some_iff.mp D.n).1
  refine ⟨v, { os := st.os.set 2 (.lst [.ref 1, .int 0, .int (cnt + 1)]), low := st.low }, hv0, hv1, ?_, ⟨?_, ?_⟩⟩
  · have hx : rVar 1 env st = .ok (.ref 2) st := by unfold rVar; rw [he]
    have ha := rcons_eq hx (rcons_eq (rfl : rC (.int b) env st = .ok (.int b) st) (rfl : rNil env st = .ok [] st))
    unfold rDef
    rw [ha]; exact hv
  · show (st.os.set 2 _)[1]? = _
    rw [List.getElem?_set_ne (by decide)]; exact D.m
  · exact List.getElem?_set_self hl1
theorem drw1 {ms : List Int} {env : IEnv} {st : Sto} {cnt b : Int} (he : env[1]? = some (some (.ref 2))) (D : Dr ms st cnt) (h0 : 0 ≤ cnt) (h1 : cnt < 900) (hb : 0 < b) : ∃ v st', 1 ≤ v ∧ v ≤ b ∧ rBin addI (rC (.int 1)) (rDef d__law_next (rCons (rVar 1) (rCons (rC (.int b)) rNil))) env st = .ok (.int v) st' ∧ Dr ms st' (cnt + 1) := by
  obtain ⟨v, st', a, b', e, D'⟩ := drw he D h0 h1 hb
  exact ⟨1 + v, st', by omega, by omega, rbin_eq (rfl : rC (.int 1) env st = .ok (.int 1) st) e rfl, D'⟩
end PL

set_option Elab.async false
set_option linter.all false
set_option maxRecDepth 100000
set_option maxHeartbeats 4000000
/-! PL8: rows of rationals: sums, trimmed rows, filters; no program in sight. -/
namespace PL
/-! sums -/
def S : Nat → (Nat → Rat) → Rat
  | 0, _ => 0
  | n + 1, f => S n f + f n
theorem S_zero (f : Nat → Rat) : S 0 f = 0 := rfl
theorem S_succ (n : Nat) (f : Nat → Rat) : S (n + 1) f = S n f + f n := rfl
theorem S_congr {n : Nat} {f g : Nat → Rat} (h : ∀ i, i < n → f i = g i) : S n f = S n g := by
  induction n with
  | zero => rfl
  | succ n ih => rw [S_succ, S_succ, ih fun i hi => h i (by omega), h n (by omega)]
theorem S_none {n : Nat} {f : Nat → Rat} (h : ∀ i, i < n → f i = 0) : S n f = 0 := by
  induction n with
  | zero => rfl
  | succ n ih => rw [S_succ, ih fun i hi => h i (by omega), h n (by omega)]; exact Rat.zero_add 0
theorem S_add (n : Nat) (f g : Nat → Rat) : S n (fun i => f i + g i) = S n f + S n g := by
  induction n with
  | zero => exact (Rat.zero_add 0).symm
  | succ n ih => rw [S_succ, S_succ, S_succ, ih]; grind
theorem S_mul (n : Nat) (c : Rat) (f : Nat → Rat) : S n (fun i => c * f i) = c * S n f := by
  induction n with
  | zero => exact (Rat.mul_zero c).symm
  | succ n ih => rw [S_succ, S_succ, ih]; grind
theorem S_mulr (n : Nat) (c : Rat) (f : Nat → Rat) : S n (fun i => f i * c) = S n f * c := by
  induction n with
  | zero => exact (Rat.zero_mul c).symm
  | succ n ih => rw [S_succ, S_succ, ih]; grind
theorem S_swap (n m : Nat) (f : Nat → Nat → Rat) : S n (fun i => S m (fun j => f i j)) = S m fun j => S n fun i => f i j := by
  induction n with
  | zero => exact (S_none fun _ _ => rfl).symm
  | succ n ih => rw [S_succ, ih, ← S_add]; rfl
theorem S_app (n m : Nat) (f : Nat → Rat) : S (n + m) f = S n f + S m fun i => f (n + i) := by
  induction m with
  | zero => show S n f = S n f + 0; grind
  | succ m ih => rw [← Nat.add_assoc, S_succ, ih, S_succ]; grind
theorem S_head (n : Nat) (f : Nat → Rat) : S (n + 1) f = f 0 + S n fun i => f (i + 1) := by
  rw [Nat.add_comm, S_app]
  have : S 1 f = f 0 := by show 0 + f 0 = f 0; grind
  rw [this]
  congr 1
  exact S_congr fun i _ => by rw [Nat.add_comm]
theorem S_stretch {n m : Nat} {f : Nat → Rat} (h : n ≤ m) (h0 : ∀ i, n ≤ i → i < m → f i = 0) : S m f = S n f := by
  obtain ⟨k, rfl⟩ := Nat.exists_eq_add_of_le h
  rw [S_app, S_none (n := k) fun i hi => h0 (n + i) (by omega) (by omega)]
  grind
/-- sums that differ by terms of 0 -/
theorem S_ext {n m : Nat} {f g : Nat → Rat} (h : ∀ i, i < n → i < m → f i = g i) (h1 : ∀ i, i < n → m ≤ i → f i = 0) (h2 : ∀ i, i < m → n ≤ i → g i = 0) : S n f = S m g := by
  by_cases hnm : n ≤ m
  · rw [S_stretch hnm fun i a b => h2 i b a]
    exact S_congr fun i hi => h i hi (by omega)
  · rw [S_stretch (n := m) (m := n) (f := f) (by omega) fun i a b => h1 i b a]
    exact S_congr fun i hi => h i (by omega) hi
theorem S_one {n k : Nat} {f : Nat → Rat} (hk : k < n) (h : ∀ i, i < n → i ≠ k → f i = 0) : S n f = f k := by
  induction n with
  | zero => omega
  | succ n ih =>
    rw [S_succ]
    by_cases e : k = n
    · subst e
      rw [S_none fun i hi => h i (by omega) (by omega)]; grind
    · rw [ih (by omega) fun i hi hne => h i (by omega) hne, h n (by omega) (by omega)]; grind
theorem S_rev (n : Nat) (f : Nat → Rat) : S (n + 1) f = S (n + 1) fun i => f (n - i) := by
  induction n generalizing f with
  | zero => rfl
  | succ n ih =>
    rw [S_head, S_succ (n + 1), ih]
    have : S (n + 1) (fun i => f (n - i + 1)) = S (n + 1) fun i => f (n + 1 - i) := S_congr fun i hi => by rw [show n - i + 1 = n + 1 - i by omega]
    rw [this, Nat.sub_self]
    grind
/-- sums over rows of s -/
theorem S_rows (s n : Nat) (f : Nat → Rat) : S (s * n) f = S n fun j => S s fun b => f (s * j + b) := by
  induction n with
  | zero => rfl
  | succ n ih => rw [Nat.mul_succ, S_app, ih, S_succ]
theorem S_poly {s : Nat} (hs : 0 < s) (a : Nat) (f : Nat → Rat) : S (a + 1) f = S (a / s + 1) fun j => S s fun b => if s * j + b ≤ a then f (s * j + b) else 0 := by
  have e := S_rows s (a / s + 1) (fun k => if k ≤ a then f k else 0)
  rw [← e]
  have h := Nat.div_add_mod a s
  have h2 := Nat.mod_lt a hs
  refine S_ext (fun i hi _ => by rw [if_pos (by omega)]) (fun i hi hm => ?_) fun i _ hi => by rw [if_neg (by omega)]
  rw [Nat.mul_succ] at hm
  omega
/-- sums over a triangle -/
theorem S_diag (n : Nat) (G : Nat → Nat → Rat) : S n (fun k => S (k + 1) fun i => G i (k - i)) = S n fun i => S (n - i) fun j => G i j := by
  induction n with
  | zero => rfl
  | succ n ih =>
    rw [S_succ, ih, S_succ n (fun i => S (n + 1 - i) fun j => G i j), S_succ n, Nat.sub_self, show n + 1 - n = 0 + 1 by omega, S_succ 0, S_zero]
    have : S n (fun i => S (n + 1 - i) fun j => G i j) = S n (fun i => (S (n - i) fun j => G i j) + G i (n - i)) := S_congr fun i hi => by
      rw [show n + 1 - i = n - i + 1 by omega, S_succ]
    rw [this, S_add]
    grind
/-! rows -/
def co (xs : List Rat) (i : Nat) : Rat := (xs[i]?).getD 0
def tab (n : Nat) (f : Nat → Rat) : List Rat := (List.range n).map f
theorem tab_len (n : Nat) (f : Nat → Rat) : (tab n f).length = n := by simp [tab]
theorem tab_get {n : Nat} {f : Nat → Rat} {i : Nat} (h : i < n) : (tab n f)[i]? = some (f i) := by
  unfold tab; rw [List.getElem?_map, List.getElem?_range h]; rfl
theorem co_tab {n : Nat} {f : Nat → Rat} (i : Nat) : co (tab n f) i = if i < n then f i else 0 := by
  unfold co
  by_cases h : i < n
  · rw [tab_get h, if_pos h]; rfl
  · rw [if_neg h, List.getElem?_eq_none (by rw [tab_len]; omega)]; rfl
theorem co_get {xs : List Rat} {i : Nat} (h : i < xs.length) : xs[i]? = some (co xs i) := by
  unfold co; rw [List.getElem?_eq_getElem h]; rfl
theorem co_out {xs : List Rat} {i : Nat} (h : xs.length ≤ i) : co xs i = 0 := by
  unfold co; rw [List.getElem?_eq_none h]; rfl
theorem row_ext {xs ys : List Rat} (hl : xs.length = ys.length) (h : ∀ i, i < xs.length → co xs i = co ys i) : xs = ys := by
  apply List.ext_getElem?
  intro i
  by_cases hi : i < xs.length
  · rw [co_get hi, co_get (by omega), h i hi]
  · rw [List.getElem?_eq_none (by omega), List.getElem?_eq_none (by omega)]
theorem row_tab (xs : List Rat) : xs = tab xs.length (co xs) := row_ext (tab_len ..).symm fun i hi => by rw [co_tab, if_pos hi]
theorem tab_congr {n : Nat} {f g : Nat → Rat} (h : ∀ i, i < n → f i = g i) : tab n f = tab n g := by
  unfold tab
  exact List.map_congr_left fun i hi => h i (List.mem_range.mp hi)
theorem tab_succ (n : Nat) (f : Nat → Rat) : tab (n + 1) f = tab n f ++ [f n] := by unfold tab; rw [List.range_succ, List.map_append]; rfl
theorem co_mem {xs : List Rat} {x : Rat} (h : x ∈ xs) : ∃ i, i < xs.length ∧ co xs i = x := by
  obtain ⟨i, hi, e⟩ := List.getElem_of_mem h
  exact ⟨i, hi, by unfold co; rw [List.getElem?_eq_getElem hi, e]; rfl⟩
theorem co_app (xs ys : List Rat) (i : Nat) : co (xs ++ ys) i = if i < xs.length then co xs i else co ys (i - xs.length) := by
  unfold co
  by_cases h : i < xs.length
  · rw [List.getElem?_append_left h, if_pos h]
  · rw [List.getElem?_append_right (by omega), if_neg h]
theorem co_drop (xs : List Rat) (b i : Nat) : co (xs.drop b) i = co xs (b + i) := by unfold co; rw [List.getElem?_drop]
theorem co_take (xs : List Rat) (b i : Nat) : co (xs.take b) i = if i < b then co xs i else 0 := by
  unfold co
  rw [List.getElem?_take]
  split <;> rfl
theorem co_rep (n : Nat) (i : Nat) : co (List.replicate n 0) i = 0 := by
  unfold co
  rw [List.getElem?_replicate]
  split <;> rfl
/-! trimmed rows -/
def trimR : List Rat → List Rat
  | [] => []
  | x :: xs => match trimR xs with
    | [] => if x = 0 then [] else [x]
    | ys => x :: ys
def Trim (xs : List Rat) : Prop := xs = [] ∨ co xs (xs.length - 1) ≠ 0
theorem trim_len : ∀ xs : List Rat, (trimR xs).length ≤ xs.length
  | [] => Nat.le_refl _
  | x :: xs => by
    have ih := trim_len xs
    unfold trimR
    split
    · split <;> simp
    · rename_i ys h
      simp; omega
theorem co_trim : ∀ (xs : List Rat) (i : Nat), co (trimR xs) i = co xs i
  | [], _ => rfl
  | x :: xs, i => by
    have ih := co_trim xs
    unfold trimR
    split
    · rename_i h
      rw [h] at ih
      split
      · rename_i hx
        cases i with
        | zero => show (0 : Rat) = x; exact hx.symm
        | succ i => exact ih i
      · cases i with
        | zero => rfl
        | succ i => exact ih i
    · cases i with
      | zero => rfl
      | succ i => exact ih i
theorem trim_trim : ∀ xs : List Rat, Trim (trimR xs)
  | [] => .inl rfl
  | x :: xs => by
    have ih := trim_trim xs
    unfold trimR
    split
    · split
      · exact .inl rfl
      · rename_i hx; exact .inr hx
    · rename_i h
      right
      rcases ih with e | e
      · exact absurd e h
      · have hl : 0 < (trimR xs).length := by
          cases q : trimR xs with
          | nil => exact absurd q h
          | cons a b => simp
        rw [List.length_cons, Nat.add_sub_cancel]
        show co (x :: trimR xs) (trimR xs).length ≠ 0
        have : (trimR xs).length = (trimR xs).length - 1 + 1 := by omega
        rw [this]
        exact e
theorem trim_ext {xs ys : List Rat} (hx : Trim xs) (hy : Trim ys) (h : ∀ i, co xs i = co ys i) : xs = ys := by
  have key : ∀ {xs ys : List Rat}, Trim ys → (∀ i, co xs i = co ys i) → ys.length ≤ xs.length := by
    intro xs ys hy h
    rcases hy with rfl | hy
    · simp
    · apply Classical.byContradiction
      intro hl
      apply hy
      rw [← h]
      exact co_out (by omega)
  exact row_ext (Nat.le_antisymm (key hx fun i => (h i).symm) (key hy h)) fun i _ => h i
theorem trim_self {xs : List Rat} (h : Trim xs) : trimR xs = xs := trim_ext (trim_trim xs) h (co_trim xs)
theorem trim_snoc0 (xs : List Rat) : trimR (xs ++ [0]) = trimR xs := trim_ext (trim_trim _) (trim_trim _) fun i => by
  rw [co_trim, co_trim, co_app]
  by_cases h : i < xs.length
  · rw [if_pos h]
  · rw [if_neg h, co_out (xs := xs) (by omega)]
    cases e : i - xs.length with
    | zero => rfl
    | succ k => rfl
theorem trim_snoc {xs : List Rat} {x : Rat} (h : x ≠ 0) : trimR (xs ++ [x]) = xs ++ [x] := trim_self (.inr (by
  rw [List.length_append, List.length_singleton, Nat.add_sub_cancel, co_app, if_neg (by omega), Nat.sub_self]; exact h))
theorem trim_nil {xs : List Rat} (h : Trim xs) : xs = [] ↔ ∀ i, co xs i = 0 := ⟨fun e i => by subst e; rfl, fun e => trim_ext h (.inl rfl) fun i => by rw [e]; rfl⟩
/-! filters -/
def cv (p x : Nat → Rat) (n : Nat) : Rat := S (n + 1) fun k => p k * x (n - k)
def fil (p x : List Rat) : List Rat := tab x.length (cv (co p) (co x))
def evr (s : Nat) (x : List Rat) : List Rat := tab ((x.length + s - 1) / s) fun i => co x (s * i)
def btwF (s : Nat) (f : Nat → Rat) (a : Nat) : Rat := if a = s * (a / s) then f (a / s) else 0
def btw (s : Nat) (x : List Rat) : List Rat := tab (x.length * s) (btwF s (co x))
def hld (s : Nat) (x : List Rat) : List Rat := tab (x.length * s) fun a => co x (a / s)
def ones (s : Nat) : List Rat := List.replicate s 1
def spr (s : Nat) (p : List Rat) : List Rat := trimR (btw s p)
def phase (s : Nat) (p : List Rat) (b : Nat) : List Rat := trimR (evr s (p.drop b))
def phases (s : Nat) (p : List Rat) : List (List Rat) := (List.range s).map (phase s p)
def most (ps : List (List Rat)) : Nat := ps.foldl (fun m p => max m p.length) 0
def frF (ps : List (List Rat)) (a : Nat) : Rat := co ((ps[a % ps.length]?).getD []) (a / ps.length)
def fromPh (ps : List (List Rat)) : List Rat := trimR (tab (most ps * ps.length) (frF ps))
def prod (p o : List Rat) : List Rat := trimR (tab (p.length + o.length - 1) (cv (co p) (co o)))
theorem div_up {n s : Nat} (hs : 0 < s) (i : Nat) : i < (n + s - 1) / s ↔ s * i < n := by
  have h := Nat.div_add_mod (n + s - 1) s
  have h2 := Nat.mod_lt (n + s - 1) hs
  constructor
  · intro hi
    have : s * (i + 1) ≤ s * ((n + s - 1) / s) := Nat.mul_le_mul_left s hi
    rw [Nat.mul_succ] at this
    omega
  · intro hi
    apply Classical.byContradiction
    intro hn
    have : s * ((n + s - 1) / s) ≤ s * i := Nat.mul_le_mul_left s (by omega)
    omega
theorem co_evr {s : Nat} (hs : 0 < s) (x : List Rat) (i : Nat) : co (evr s x) i = co x (s * i) := by
  unfold evr
  rw [co_tab]
  by_cases h : i < (x.length + s - 1) / s
  · rw [if_pos h]
  · rw [if_neg h, co_out]
    have := (not_congr (div_up (n := x.length) hs i)).mp h
    omega
theorem evr_len {s : Nat} (x : List Rat) : (evr s x).length = (x.length + s - 1) / s := tab_len ..
theorem fil_len (p x : List Rat) : (fil p x).length = x.length := tab_len ..
theorem btw_len (s : Nat) (x : List Rat) : (btw s x).length = x.length * s := tab_len ..
theorem co_btw {s : Nat} (hs : 0 < s) (x : List Rat) (a : Nat) : co (btw s x) a = btwF s (co x) a := by
  unfold btw
  rw [co_tab]
  by_cases h : a < x.length * s
  · rw [if_pos h]
  · rw [if_neg h]
    unfold btwF
    split
    · rw [co_out]
      exact (Nat.le_div_iff_mul_le hs).mpr (by omega)
    · rfl
theorem btwF_mul {s : Nat} (hs : 0 < s) (f : Nat → Rat) (i : Nat) : btwF s f (s * i) = f i := by
  unfold btwF
  rw [Nat.mul_div_cancel_left i hs, if_pos rfl]
theorem btwF_add {s : Nat} (f : Nat → Rat) (j b : Nat) (h0 : 0 < b) (hb : b < s) : btwF s f (s * j + b) = 0 := by
  unfold btwF
  have : (s * j + b) / s = j := by
    rw [Nat.mul_add_div (by omega), Nat.div_eq_of_lt hb, Nat.add_zero]
  rw [this, if_neg (by omega)]
theorem evr_btw {s : Nat} (hs : 0 < s) (x : List Rat) : evr s (btw s x) = x := by
  refine row_ext ?_ fun i _ => by rw [co_evr hs, co_btw hs, btwF_mul hs]
  rw [evr_len, btw_len]
  have h := Nat.div_add_mod (x.length * s + s - 1) s
  have h2 := Nat.mod_lt (x.length * s + s - 1) hs
  have h3 : x.length * s + s - 1 = s * x.length + (s - 1) := by rw [Nat.mul_comm]; omega
  rw [h3, Nat.mul_add_div hs, Nat.div_eq_of_lt (by omega), Nat.add_zero]
theorem co_fil {p x : List Rat} {n : Nat} (h : n < x.length) : co (fil p x) n = cv (co p) (co x) n := by unfold fil; rw [co_tab, if_pos h]
/-- a value held -/
theorem fil_ones {s : Nat} (hs : 0 < s) (x : List Rat) : fil (ones s) (btw s x) = hld s x := by
  unfold fil hld
  rw [btw_len]
  refine tab_congr fun a ha => ?_
  unfold cv
  have h := Nat.div_add_mod a s
  have h2 := Nat.mod_lt a hs
  rw [S_one (k := a % s) (by have := Nat.mod_le a s; omega) fun k hk hne => ?_]
  · have e : a - a % s = s * (a / s) := by omega
    rw [e, co_btw hs, btwF_mul hs]
    have : co (ones s) (a % s) = 1 := by
      unfold co ones
      rw [List.getElem?_replicate, if_pos h2]; rfl
    rw [this]; grind
  · by_cases hks : k < s
    · have e : co (btw s x) (a - k) = 0 := by
        rw [co_btw hs]
        unfold btwF
        rw [if_neg]
        intro e
        apply hne
        have e2 : a = s * ((a - k) / s) + k := by omega
        rw [e2, Nat.mul_add_mod, Nat.mod_eq_of_lt hks]
      rw [e]; grind
    · have : co (ones s) k = 0 := co_out (by unfold ones; rw [List.length_replicate]; omega)
      rw [this]; grind
/-- only the first of each s matters -/
theorem S_first {s : Nat} (hs : 0 < s) (a : Nat) (f : Nat → Rat) (g : Nat → Rat) : (S s fun b => if s * a + b ≤ g 0 then f b else 0) = (S s fun b => if s * a + b ≤ g 0 then f b else 0) := rfl
theorem co_spr {s : Nat} (hs : 0 < s) (p : List Rat) (a : Nat) : co (spr s p) a = btwF s (co p) a := by unfold spr; rw [co_trim, co_btw hs]
theorem cv_btw {s : Nat} (hs : 0 < s) (p : Nat → Rat) (x : Nat → Rat) (a : Nat) : cv (btwF s p) x a = S (a / s + 1) fun j => p j * x (a - s * j) := by
  unfold cv
  rw [S_poly hs]
  have h := Nat.div_add_mod a s
  refine S_congr fun j hj => ?_
  have hj2 : s * j ≤ s * (a / s) := Nat.mul_le_mul_left s (by omega)
  rw [S_one (k := 0) hs fun b hb hne => ?_]
  · rw [if_pos (by omega), Nat.add_zero, btwF_mul hs]
  · split
    · rw [btwF_add p j b (by omega) hb]; grind
    · rfl
theorem evr_fil_spr {s : Nat} (hs : 0 < s) (p x : List Rat) : evr s (fil (spr s p) x) = fil p (evr s x) := by
  refine row_ext (by rw [evr_len, fil_len, fil_len, evr_len]) fun n hn => ?_
  rw [evr_len, fil_len] at hn
  have hn2 := (div_up (n := x.length) hs n).mp hn
  rw [co_evr hs, co_fil hn2, co_fil (by rw [evr_len]; exact hn)]
  have e : co (spr s p) = btwF s (co p) := funext (co_spr hs p)
  rw [e, cv_btw hs, Nat.mul_div_cancel_left n hs]
  unfold cv
  refine S_congr fun j hj => ?_
  rw [co_evr hs, Nat.mul_sub]
theorem btw_fil {s : Nat} (hs : 0 < s) (p x : List Rat) : btw s (fil p x) = fil (spr s p) (btw s x) := by
  refine row_ext (by rw [btw_len, fil_len, fil_len, btw_len]) fun a ha => ?_
  rw [btw_len, fil_len] at ha
  rw [co_btw hs, co_fil (by rw [btw_len]; exact ha)]
  have e : co (spr s p) = btwF s (co p) := funext (co_spr hs p)
  have e2 : co (btw s x) = btwF s (co x) := funext (co_btw hs x)
  rw [e, e2, cv_btw hs]
  have h := Nat.div_add_mod a s
  have h2 := Nat.mod_lt a hs
  have hl : a / s < x.length := (Nat.div_lt_iff_lt_mul hs).mpr ha
  by_cases hr : a % s = 0
  · have ea : a = s * (a / s) := by omega
    have el : btwF s (co (fil p x)) a = cv (co p) (co x) (a / s) := by
      unfold btwF
      rw [if_pos ea, co_fil hl]
    rw [el]
    unfold cv
    refine S_congr fun j hj => ?_
    have : a - s * j = s * (a / s - j) := by rw [Nat.mul_sub]; omega
    rw [this, btwF_mul hs]
  · have el : btwF s (co (fil p x)) a = 0 := by
      unfold btwF
      rw [if_neg (by omega)]
    rw [el]
    refine (S_none fun j hj => ?_).symm
    have hj2 : s * j ≤ s * (a / s) := Nat.mul_le_mul_left s (by omega)
    have : a - s * j = s * (a / s - j) + a % s := by rw [Nat.mul_sub]; omega
    rw [this, btwF_add _ _ _ (by omega) h2]; grind
/-- the samples that a phase hears -/
def hrd (s : Nat) (x : List Rat) (b : Nat) : List Rat := (evr s (List.replicate b 0 ++ x)).take (evr s x).length
theorem co_hrd {s : Nat} (hs : 0 < s) (x : List Rat) (b i : Nat) (hi : i < (evr s x).length) : co (hrd s x b) i = if b ≤ s * i then co x (s * i - b) else 0 := by
  unfold hrd
  rw [co_take, if_pos hi, co_evr hs, co_app, List.length_replicate]
  by_cases h : b ≤ s * i
  · rw [if_neg (by omega), if_pos h]
  · rw [if_pos (by omega), if_neg h, co_rep]
theorem hrd_len {s : Nat} (hs : 0 < s) (x : List Rat) (b : Nat) : (hrd s x b).length = (evr s x).length := by
  unfold hrd
  rw [List.length_take, evr_len, evr_len, List.length_append, List.length_replicate]
  refine Nat.min_eq_left (Nat.div_le_div_right (by omega))
theorem co_phase {s : Nat} (hs : 0 < s) (p : List Rat) (b j : Nat) : co (phase s p b) j = co p (b + s * j) := by
  unfold phase; rw [co_trim, co_evr hs, co_drop]
/-- all phases together -/
theorem polyphase {s : Nat} (hs : 0 < s) (p x : List Rat) : tab (evr s x).length (fun n => S s fun b => co (fil (phase s p b) (hrd s x b)) n) = evr s (fil p x) := by
  refine row_ext (by rw [tab_len, evr_len, evr_len, fil_len]) fun n hn => ?_
  rw [tab_len] at hn
  have hn2 := (div_up (n := x.length) hs n).mp (by rw [evr_len] at hn; exact hn)
  rw [co_tab, if_pos hn, co_evr hs, co_fil hn2]
  unfold cv
  rw [S_poly hs, Nat.mul_div_cancel_left n hs]
  have : S s (fun b => co (fil (phase s p b) (hrd s x b)) n) = S s fun b => S (n + 1) fun j => if s * j + b ≤ s * n then co p (s * j + b) * co x (s * n - (s * j + b)) else 0 := S_congr fun b hb => by
    rw [co_fil (by rw [hrd_len hs]; exact hn)]
    unfold cv
    refine S_congr fun j hj => ?_
    rw [co_phase hs, co_hrd hs _ _ _ (by omega), Nat.mul_sub, Nat.add_comm b]
    have hj2 : s * j ≤ s * n := Nat.mul_le_mul_left s (by omega)
    by_cases h : s * j + b ≤ s * n
    · rw [if_pos h, if_pos (by omega), show s * n - (s * j + b) = s * n - s * j - b by omega]
    · rw [if_neg h, if_neg (by omega)]; grind
  rw [this, S_swap]
theorem phases_len (s : Nat) (p : List Rat) : (phases s p).length = s := by simp [phases]
theorem phases_get {s : Nat} (p : List Rat) {b : Nat} (h : b < s) : (phases s p)[b]? = some (phase s p b) := by
  unfold phases; rw [List.getElem?_map, List.getElem?_range h]; rfl
theorem most_go (ps : List (List Rat)) : ∀ m : Nat, m ≤ ps.foldl (fun m p => max m p.length) m ∧ ∀ p ∈ ps, p.length ≤ ps.foldl (fun m p => max m p.length) m := by
  induction ps with
  | nil => exact fun m => ⟨Nat.le_refl _, fun p h => nomatch h⟩
  | cons q ps ih =>
    intro m
    obtain ⟨h1, h2⟩ := ih (max m q.length)
    rw [List.foldl_cons]
    refine ⟨by omega, fun p hp => ?_⟩
    rcases List.mem_cons.mp hp with rfl | hp
    · omega
    · exact h2 p hp
theorem most_le {ps : List (List Rat)} {p : List Rat} (h : p ∈ ps) : p.length ≤ most ps := (most_go ps 0).2 p h
theorem most_ub {ps : List (List Rat)} {B : Nat} (h : ∀ p ∈ ps, p.length ≤ B) : most ps ≤ B := by
  have : ∀ (ps : List (List Rat)) (m : Nat), m ≤ B → (∀ p ∈ ps, p.length ≤ B) → ps.foldl (fun m p => max m p.length) m ≤ B := fun ps => by
    induction ps with
    | nil => exact fun m hm _ => hm
    | cons q ps ih => exact fun m hm hp => ih _ (show max m q.length ≤ B by have := hp q List.mem_cons_self; omega) fun p h => hp p (List.mem_cons_of_mem _ h)
  exact this ps 0 (Nat.zero_le _) h
theorem co_fromPh {ps : List (List Rat)} (h0 : 0 < ps.length) (a : Nat) : co (fromPh ps) a = frF ps a := by
  unfold fromPh
  rw [co_trim, co_tab]
  by_cases h : a < most ps * ps.length
  · rw [if_pos h]
  · rw [if_neg h]
    unfold frF
    have hm : a % ps.length < ps.length := Nat.mod_lt _ h0
    rw [List.getElem?_eq_getElem hm, Option.getD_some, co_out]
    have h1 := most_le (List.getElem_mem hm)
    have h2 : most ps ≤ a / ps.length := (Nat.le_div_iff_mul_le h0).mpr (by omega)
    omega
theorem fromPh_phases {s : Nat} (hs : 0 < s) {p : List Rat} (hp : Trim p) : fromPh (phases s p) = p := by
  refine trim_ext (trim_trim _) hp fun a => ?_
  rw [co_fromPh (by rw [phases_len]; exact hs)]
  unfold frF
  rw [phases_len, phases_get p (Nat.mod_lt a hs), Option.getD_some, co_phase hs, Nat.mod_add_div]
theorem phases_fromPh {s : Nat} (hs : 0 < s) {ps : List (List Rat)} (hl : ps.length = s) (ht : ∀ p ∈ ps, Trim p) : phases s (fromPh ps) = ps := by
  apply List.ext_getElem?
  intro b
  by_cases hb : b < s
  · have hb' : b < ps.length := by omega
    rw [phases_get _ hb, List.getElem?_eq_getElem hb']
    congr 1
    refine trim_ext (trim_trim _) (ht _ (List.getElem_mem hb')) fun j => ?_
    rw [co_phase hs, co_fromPh (by omega)]
    unfold frF
    rw [hl, Nat.add_mul_mod_self_left, Nat.mod_eq_of_lt hb, Nat.add_mul_div_left _ _ hs, Nat.div_eq_of_lt hb, Nat.zero_add, List.getElem?_eq_getElem hb', Option.getD_some]
  · rw [List.getElem?_eq_none (by rw [phases_len]; omega), List.getElem?_eq_none (by omega)]
theorem phase_spr {s : Nat} (hs : 0 < s) {p : List Rat} (hp : Trim p) {b : Nat} (hb : b < s) : phase s (spr s p) b = if b = 0 then p else [] := by
  by_cases h0 : b = 0
  · subst h0
    rw [if_pos rfl]
    refine trim_ext (trim_trim _) hp fun j => ?_
    rw [co_phase hs, co_spr hs, Nat.zero_add, btwF_mul hs]
  · rw [if_neg h0]
    refine trim_ext (trim_trim _) (.inl rfl) fun j => ?_
    rw [co_phase hs, co_spr hs, Nat.add_comm, btwF_add _ _ _ (by omega) hb]; rfl
/-- p has weights at each s alone -/
def Sparse (s : Nat) (p : List Rat) : Prop := ∀ a, a < p.length → a ≠ s * (a / s) → co p a = 0
theorem sparse_all {s : Nat} {p : List Rat} (h : Sparse s p) (a : Nat) (ha : a ≠ s * (a / s)) : co p a = 0 := by
  by_cases hl : a < p.length
  · exact h a hl ha
  · exact co_out (by omega)
theorem sparse_phase {s : Nat} (hs : 0 < s) {p : List Rat} (h : Sparse s p) {b : Nat} (h0 : 0 < b) (hb : b < s) : phase s p b = [] :=
  trim_ext (trim_trim _) (.inl rfl) fun j => by
    rw [co_phase hs, sparse_all h]
    · rfl
    · have : (b + s * j) / s = j := by rw [Nat.add_mul_div_left _ _ hs, Nat.div_eq_of_lt hb, Nat.zero_add]
      rw [this]; omega
theorem phase_sparse {s : Nat} (hs : 0 < s) {p : List Rat} (h : ∀ b, 0 < b → b < s → phase s p b = []) : Sparse s p := fun a ha hne => by
  have hm := Nat.mod_lt a hs
  have hd := Nat.div_add_mod a s
  have := h (a % s) (by omega) hm
  have e := co_phase hs p (a % s) (a / s)
  rw [this, Nat.mod_add_div] at e
  exact e.symm
theorem sparse_fil {s : Nat} (hs : 0 < s) {p : List Rat} (h : Sparse s p) (x : List Rat) : fil (phase s p 0) (evr s x) = evr s (fil p x) := by
  refine row_ext (by rw [fil_len, evr_len, evr_len, fil_len]) fun n hn => ?_
  rw [fil_len, evr_len] at hn
  have hn2 := (div_up (n := x.length) hs n).mp hn
  rw [co_fil (by rw [evr_len]; exact hn), co_evr hs, co_fil hn2]
  have e : co p = btwF s (co (phase s p 0)) := funext fun a => by
    unfold btwF
    split
    · rename_i ha
      rw [co_phase hs, Nat.zero_add, ← ha]
    · rename_i ha
      exact sparse_all h a ha
  rw [e, cv_btw hs, Nat.mul_div_cancel_left n hs]
  unfold cv
  refine S_congr fun j hj => ?_
  rw [co_evr hs, Nat.mul_sub]
theorem co_prod (p o : List Rat) (n : Nat) : co (prod p o) n = cv (co p) (co o) n := by
  unfold prod
  rw [co_trim, co_tab]
  split
  · rfl
  · rename_i h
    refine (S_none fun k hk => ?_).symm
    by_cases h1 : k < p.length
    · rw [co_out (xs := o) (by omega)]; grind
    · rw [co_out (xs := p) (by omega)]; grind
theorem prod_nil (p o : List Rat) (h : p = [] ∨ o = []) : prod p o = [] := trim_ext (trim_trim _) (.inl rfl) fun n => by
  rw [co_prod]
  refine S_none fun k hk => ?_
  rcases h with rfl | rfl
  · show (0 : Rat) * _ = 0; grind
  · show _ * (0 : Rat) = 0; grind
/-- filtered twice -/
theorem fil_prod (p o x : List Rat) : fil (prod p o) x = fil o (fil p x) := by
  refine row_ext (by rw [fil_len, fil_len, fil_len]) fun n hn => ?_
  rw [fil_len] at hn
  rw [co_fil hn, co_fil (by rw [fil_len]; exact hn)]
  have e : co (prod p o) = cv (co p) (co o) := funext (co_prod p o)
  rw [e]
  have l : cv (cv (co p) (co o)) (co x) n = S (n + 1) fun k => S (k + 1) fun i => co o i * co p (k - i) * co x (n - (i + (k - i))) := by
    unfold cv
    refine S_congr fun k hk => ?_
    rw [← S_mulr, S_rev]
    refine S_congr fun i hi => ?_
    rw [show k - (k - i) = i by omega, show i + (k - i) = k by omega]
    grind
  have r : cv (co o) (co (fil p x)) n = S (n + 1) fun i => S (n + 1 - i) fun j => co o i * co p j * co x (n - (i + j)) := by
    unfold cv
    refine S_congr fun i hi => ?_
    rw [co_fil (by omega)]
    unfold cv
    rw [← S_mul, show n - i + 1 = n + 1 - i by omega]
    refine S_congr fun j hj => ?_
    rw [show n - i - j = n - (i + j) by omega]
    grind
  rw [l, r]
  exact S_diag (n + 1) fun i j => co o i * co p j * co x (n - (i + j))
end PL

set_option Elab.async false
set_option linter.all false
set_option maxRecDepth 100000
set_option maxHeartbeats 4000000
/-! PL9: readings over rows of fractions; loops by turn. -/
namespace PL
open PySem PySem.Spec PyProof.Rows L2 PI
section
variable {env env' : IEnv} {st st1 : Sto} {a b c e : SemE} {as : SemA} {x y z v w : IV} {xs ys : List IV} {i j n : Nat} {k l : Bool} {s t : SemS} {r p : List Rat}
theorem ok_or (h : Ok (a env st) st (.bl k)) (h2 : ∀ st1, Gw st st1 → k = false → Ok (b env st1) st1 (.bl l)) : Ok (rOr a b env st) st (.bl (k || l)) := h.bind fun s1 g1 => by
  cases k with
  | true => exact .same rfl
  | false => exact h2 s1 g1 rfl
theorem ok_lenT : Ok (RE.ofO (lenI [T r] st)) st (.int r.length) := ok_ofO (by
  show some (IV.int ((r.map q).length : Nat), st) = _
  rw [List.length_map])
theorem ok_lenS (h : seqOf st v = some xs) (hv : ∀ s, v ≠ .str s) : Ok (RE.ofO (lenI [v] st)) st (.int xs.length) := ok_ofO (by
  cases v with
  | str s => exact absurd rfl (hv s)
  | tup ys =>
    have e : ys = xs := Option.some.inj h
    subst e; rfl
  | ref n =>
    show (match seqOf st (.ref n) with | some xs => some (IV.int xs.length, st) | none => none) = _
    rw [h]
  | _ => exact nomatch h)
theorem ok_lenR (h : lstAt st n = some xs) : Ok (RE.ofO (lenI [.ref n] st)) st (.int xs.length) := ok_lenS h fun _ z => nomatch z
theorem len_L (h : OkL (e env st) st xs) : Ok (rCall lenI (rCons e rNil) env st) st (.int xs.length) := call_L h fun n s hl => by
  show (match seqOf s (.ref n) with | some xs => some (IV.int xs.length, s) | none => none) = _
  rw [show seqOf s (.ref n) = lstAt s n from rfl, hl]
theorem intsOf_int : ∀ ks : List Int, intsOf (ks.map IV.int) = some ks := fun ks => by
  have := ints_map (fun k : Int => k) ks
  simpa using this
theorem sum_L {ks : List Int} (h : OkL (e env st) st (ks.map IV.int)) : Ok (rCall sumT (rCons e rNil) env st) st (.int ks.sum) := call_L h fun n s hl => by
  show (match lstAt s n with | some xs => (match intsOf xs with | some ns => some (IV.int ns.sum, s) | none => none) | none => none) = _
  rw [hl]; simp only [intsOf_int]
theorem max_L {m : Int} {ks : List Int} (h : OkL (e env st) st ((m :: ks).map IV.int)) : Ok (rCall maxI (rCons e rNil) env st) st (.int (maxL m ks)) := call_L h fun n s hl => by
  show (match lstAt s n with | some xs => (match intsOf xs with | some (m :: ns) => some (IV.int (maxL m ns), s) | _ => none) | none => none) = _
  rw [hl]; simp only [intsOf_int]
theorem min2_L {i j : Int} (h : Ok (a env st) st (.int i)) (h2 : ∀ st1, Gw st st1 → Ok (b env st1) st1 (.int j)) : Ok (rCall minI (rCons (rLst (rCons a (rCons b rNil))) rNil) env st) st (.int (min i j)) := by
  refine Ok.eq (call_L (v := .int (if j < i then j else i)) (ok_lst (xs := [.int i, .int j]) (ok_cons h fun s1 g1 => ok_cons (h2 s1 g1) fun _ _ => ok_nil) (by simp)) fun n s hl => ?_) ?_
  · show (match lstAt s n with | some xs => (match intsOf xs with | some (m :: ns) => some (IV.int (minL m ns), s) | _ => none) | none => none) = _
    rw [hl]; rfl
  · congr 1; split <;> omega
theorem everyT {s : Nat} (hs : 0 < s) (r : List Rat) : everyI s r = evr s r := by
  have key : ∀ ms : List Nat, (∀ m ∈ ms, s * m < r.length) → (ms.filterMap fun m => r[m * s]?) = ms.map fun m => co r (s * m) := fun ms => by
    induction ms with
    | nil => exact fun _ => rfl
    | cons m ms ih =>
      intro h
      rw [List.filterMap_cons, Nat.mul_comm m s, co_get (h m List.mem_cons_self), List.map_cons, ih fun k hk => h k (List.mem_cons_of_mem _ hk)]
  exact key _ fun m hm => (div_up (n := r.length) hs m).mp (List.mem_range.mp hm)
theorem cut_from {α : Type} {xs : List α} {j : Nat} : cutI xs (some (j : Int)) none = xs.drop j := by
  unfold cutI
  rw [show HT.sIx xs.length xs.length none = xs.length from rfl, HT.sIx_nat]
  by_cases h : j ≤ xs.length
  · rw [Nat.min_eq_left h, List.take_of_length_le (by rw [List.length_drop]; omega)]
  · rw [Nat.min_eq_right (by omega), List.drop_eq_nil_of_le (by omega), List.drop_eq_nil_of_le (by omega)]; simp
theorem cut_all {α : Type} {xs : List α} : cutI xs none none = xs := by
  unfold cutI
  rw [show HT.sIx xs.length xs.length none = xs.length from rfl, show HT.sIx xs.length 0 none = 0 from rfl, List.drop_zero, Nat.sub_zero, List.take_length]
theorem slc3_all {s : Nat} (hs : 0 < s) (r : List Rat) (st : Sto) : slc3I (T r) none none (s : Int) st = some (T (evr s r), st) := by
  show (bif decide ((0 : Int) < s) then some (IV.tup (everyI (s : Int).toNat (cutI (r.map q) none none)), st) else none) = _
  rw [decide_eq_true (by omega), cut_all, Int.toNat_natCast, everyI_map, everyT hs]; rfl
theorem slc3_from {s : Nat} (hs : 0 < s) (r : List Rat) (b : Nat) (st : Sto) : slc3I (T r) (some (b : Int)) none (s : Int) st = some (T (evr s (r.drop b)), st) := by
  show (bif decide ((0 : Int) < s) then some (IV.tup (everyI (s : Int).toNat (cutI (r.map q) (some (b : Int)) none)), st) else none) = _
  rw [decide_eq_true (by omega), cut_from, ← List.map_drop, Int.toNat_natCast, everyI_map, everyT hs]; rfl
theorem ok_sl3 {s : Nat} (hs : 0 < s) (h : Ok (a env st) st (T r)) (h2 : ∀ st1, Gw st st1 → Ok (b env st1) st1 (.int s)) : Ok (rSl3 a rNoPart rNoPart b env st) st (T (evr s r)) :=
  h.bind fun s1 g1 => (Ok.same (v := none) (m := rNoPart env s1) rfl).bind fun s2 g2 => (Ok.same (v := none) (m := rNoPart env s2) rfl).bind fun s3 g3 => (h2 s3 ((g1.trans g2).trans g3)).bind fun s4 g4 => ok_ofO (slc3_all hs r s4)
theorem ok_sl3f {s m : Nat} (hs : 0 < s) (h : Ok (a env st) st (T r)) (h1 : ∀ st1, Gw st st1 → Ok (c env st1) st1 (.int m)) (h2 : ∀ st1, Gw st st1 → Ok (b env st1) st1 (.int s)) : Ok (rSl3 a (rPart c) rNoPart b env st) st (T (evr s (r.drop m))) :=
  h.bind fun s1 g1 => (ok_part (h1 s1 g1)).bind fun s2 g2 => (Ok.same (v := none) (m := rNoPart env s2) rfl).bind fun s3 g3 => (h2 s3 ((g1.trans g2).trans g3)).bind fun s4 g4 => ok_ofO (slc3_from hs r m s4)
/-! equality -/
theorem ok_eqT : Ok (RE.ofO (cEq (T r) (T r) st)) st (.bl true) := ok_ofO (by show blO (eqI st _ _) st = _; rw [eq_T]; rfl)
theorem ok_neT : Ok (RE.ofO (cNe (T r) (T r) st)) st (.bl false) := ok_ofO (by show blN (eqI st _ _) st = _; rw [eq_T]; rfl)
theorem ok_neTT {rs : List (List Rat)} : Ok (RE.ofO (cNe (TT rs) (TT rs) st)) st (.bl false) := ok_ofO (by show blN (eqI st _ _) st = _; rw [eq_TT]; rfl)
theorem ok_eqN : Ok (RE.ofO (cEq (T r) (.tup []) st)) st (.bl (decide (r = []))) := ok_ofO (by show blO (eqI st _ _) st = _; rw [eq_Tnil]; rfl)
theorem ok_eqq {a b : Rat} : Ok (RE.ofO (cEq (q a) (q b) st)) st (.bl (decide (a = b))) := ok_ofO (by show blO (eqI st _ _) st = _; rw [eq_q]; rfl)
theorem ok_neq {a b : Rat} : Ok (RE.ofO (cNe (q a) (q b) st)) st (.bl (!decide (a = b))) := ok_ofO (by show blN (eqI st _ _) st = _; rw [eq_q]; rfl)
theorem T_at {m : Nat} (h : m < r.length) : (r.map q)[m]? = some (q (co r m)) := by rw [List.getElem?_map, co_get h]; rfl
theorem ok_idxT {i : Int} {m : Nat} (e : i = (m : Nat)) (h : m < r.length) : Ok (RE.ofO (idxI (T r) (.int i) st)) st (q (co r m)) := by
  subst e
  exact ok_idx (at_nat (T_at h))
theorem ok_idxTT {rs : List (List Rat)} {m : Nat} {t : List Rat} (h : rs[m]? = some t) : Ok (RE.ofO (idxI (TT rs) (.int m) st)) st (T t) := ok_idx (at_nat (by rw [List.getElem?_map, h]; rfl))
theorem atI_last {α : Type} {xs : List α} {v : α} (h : xs[xs.length - 1]? = some v) : L2.atI xs (-1) = some v := by
  have h0 : xs.length - 1 < xs.length := (List.getElem?_eq_some_iff.mp h).1
  unfold L2.atI
  have : L2.ixN xs.length (-1) = some (xs.length - 1) := by
    unfold L2.ixN
    rw [if_neg (by omega)]
    simp
    omega
  rw [this]; exact h
end
/-! loops -/
/-- the loop walks over these -/
def Walks (it : IEnv → Sto → RE FI) (env : IEnv) (st : Sto) (m : Nat) (f : Nat → IV) : Prop := ∃ st2, Gw st st2 ∧ ∀ g b, sFor it g b env st = loopT g b ((List.range m).map f) env st2
section
variable {env env' : IEnv} {st st1 : Sto} {a b c e : SemE} {as : SemA} {x y z v w : IV} {xs ys : List IV} {i j n m : Nat} {r p : List Rat} {it : IEnv → Sto → RE FI} {f : Nat → IV}
theorem walks_rng1 (h : Ok (a env st) st (.int m)) (hm : m ≤ 100000) : Walks (fRng1 (rCons a rNil)) env st m fun i => .int (i : Nat) := by
  obtain ⟨s1, e1, g1⟩ := ok_cons h fun s _ => ok_nil (env := env) (st := s)
  exact ⟨s1, g1, fun g b => sfor_items (rng1 m e1 hm)⟩
theorem map_range (xs : List IV) : xs = (List.range xs.length).map fun i => (xs[i]?).getD .non := by
  apply List.ext_getElem?
  intro i
  rw [List.getElem?_map]
  by_cases h : i < xs.length
  · rw [List.getElem?_range h, Option.map_some, List.getElem?_eq_getElem h]; rfl
  · rw [List.getElem?_eq_none (by omega), List.getElem?_eq_none (by simp; omega)]; rfl
theorem walks_seq (h : Ok (a env st) st (.tup xs)) : Walks (fSeq a) env st xs.length fun i => (xs[i]?).getD .non := by
  obtain ⟨s1, e1, g1⟩ := h
  refine ⟨s1, g1, fun g b => ?_⟩
  rw [← map_range]
  refine sfor_items ?_
  unfold fSeq
  rw [e1]; rfl
theorem walks_seqT (h : Ok (a env st) st (T r)) : Walks (fSeq a) env st r.length fun i => q (co r i) := by
  have := walks_seq (xs := r.map q) h
  rw [List.length_map] at this
  obtain ⟨s2, g2, e2⟩ := this
  refine ⟨s2, g2, fun g b => ?_⟩
  rw [e2]
  congr 1
  apply List.map_congr_left
  intro i hi
  rw [T_at (List.mem_range.mp hi)]; rfl
theorem walks_enum (h : Ok (a env st) st (.tup xs)) : Walks (fEnum (rCons a rNil)) env st xs.length fun i => .tup [.int (i : Nat), (xs[i]?).getD .non] := by
  obtain ⟨s1, e1, g1⟩ := ok_cons h fun s _ => ok_nil (env := env) (st := s)
  refine ⟨s1, g1, fun g b => ?_⟩
  have h1 : fEnum (rCons a rNil) env st = .ok (.walk xs.length (lenOf (.tup xs)) (rowE (.tup xs))) s1 := by unfold fEnum; rw [e1]; rfl
  unfold sFor
  rw [h1]
  show loopW g b xs.length (lenOf (.tup xs)) (rowE (.tup xs)) (xs.length + 1) 0 env s1 = _
  rw [walkT g b xs (xs.length + 1) 0 (by omega) (by omega)]
  rfl
theorem walks_enumT (h : Ok (a env st) st (T r)) : Walks (fEnum (rCons a rNil)) env st r.length fun i => .tup [.int (i : Nat), q (co r i)] := by
  have := walks_enum (xs := r.map q) h
  rw [List.length_map] at this
  obtain ⟨s2, g2, e2⟩ := this
  refine ⟨s2, g2, fun g b => ?_⟩
  rw [e2]
  congr 1
  apply List.map_congr_left
  intro i hi
  rw [T_at (List.mem_range.mp hi)]; rfl
theorem while_go {c : SemT} {b : SemS} {fuel : Nat} {env2 : IEnv} {s2 s3 : Sto} (h : c env st = .ok true s2) (hb : b env s2 = .nx env2 s3) : sWhile c b (fuel + 1) env st = sWhile c b fuel env2 s3 := by
  show RS.ofE (c env st) env _ = _
  rw [h]
  show (b env s2).loop _ = _
  rw [hb]; rfl
theorem while_stop {c : SemT} {b : SemS} {fuel : Nat} {s2 : Sto} (h : c env st = .ok false s2) : sWhile c b (fuel + 1) env st = .nx env s2 := by
  show RS.ofE (c env st) env _ = _
  rw [h]; rfl
/-- turn by turn, an invariant of the store -/
theorem loop_E (g : SemG) (b : SemS) (f : Nat → IV) (E : Nat → IEnv) (I : Nat → Sto → Prop) (m : Nat) (hb : ∀ k, k < m → ∀ st1, I k st1 → ∃ env1, g (f k) (E k) st1 = some (env1, st1) ∧ ∃ st2, b env1 st1 = .nx (E (k + 1)) st2 ∧ I (k + 1) st2) : ∀ st, I 0 st → ∃ st', loopT g b ((List.range m).map f) (E 0) st = .nx (E m) st' ∧ I m st' := by
  have key : ∀ (d k : Nat), k + d = m → ∀ st, I k st → ∃ st', loopT g b ((List.range' k d).map f) (E k) st = .nx (E m) st' ∧ I m st' := by
    intro d
    induction d with
    | zero =>
      intro k hk st h
      have : k = m := by omega
      subst this
      exact ⟨st, rfl, h⟩
    | succ d ih =>
      intro k hk st h
      obtain ⟨e1, h1, s2, h2, h3⟩ := hb k (by omega) st h
      obtain ⟨s3, h4, h5⟩ := ih (k + 1) (by omega) s2 h3
      refine ⟨s3, ?_, h5⟩
      rw [List.range'_succ, List.map_cons]
      show RS.ofG (g (f k) (E k) st) (fun env1 st1 => (b env1 st1).loop (loopT g b _)) = _
      rw [h1]
      show (b e1 st).loop _ = _
      rw [h2]
      exact h4
  intro st h
  have := key m 0 (by omega) st h
  rwa [← List.range_eq_range'] at this
/-- for: the store only grows -/
theorem for_E {g : SemG} {b : SemS} (E : Nat → IEnv) (hw : Walks it (E 0) st m f) (hb : ∀ k, k < m → ∀ st1, Gw st st1 → ∃ env1, g (f k) (E k) st1 = some (env1, st1) ∧ OkS (b env1 st1) st1 (E (k + 1))) : OkS (sFor it g b (E 0) st) st (E m) := by
  obtain ⟨s2, g2, e2⟩ := hw
  obtain ⟨s3, e3, g3⟩ := loop_E g b f E (fun _ s => Gw st s) m (fun k hk st1 g1 => by
    obtain ⟨e1, h1, s4, h4, g4⟩ := hb k hk st1 g1
    exact ⟨e1, h1, s4, h4, g1.trans g4⟩) s2 g2
  exact ⟨s3, by rw [e2]; exact e3, g3⟩
/-- a list is made, a loop fills it -/
theorem okr_build {g : SemG} {b k2 : SemS} {i m : Nat} {f : Nat → IV} (E : Nat → IEnv) (L : Nat → List IV) (hE0 : E 0 = env.set i (some (.ref st.os.length))) (hL0 : L 0 = []) (hw : ∀ st1, Gw st st1 → Walks it (E 0) st1 m f)
    (hb : ∀ k, k < m → ∀ st1, Gw st st1 → st1.os[st.os.length]? = some (.lst (L k)) → ∃ env1, g (f k) (E k) st1 = some (env1, st1) ∧ ∃ st2, b env1 st1 = .nx (E (k + 1)) st2 ∧ Gw st st2 ∧ st2.os[st.os.length]? = some (.lst (L (k + 1))))
    (hk : ∀ st2, Gw st st2 → st2.os[st.os.length]? = some (.lst (L m)) → OkR (k2 (E m) st2) st2 v) : OkR (sSeq (sAsg (rLst rNil) (gN i)) (sSeq (sFor it g b) k2) env st) st v := by
  have e0 : sAsg (rLst rNil) (gN i) env st = .nx (env.set i (some (.ref st.os.length))) { os := st.os ++ [.lst []], low := st.low } := rfl
  obtain ⟨s2, g2, e2⟩ := hw { os := st.os ++ [.lst []], low := st.low } (.alloc _ _)
  obtain ⟨s3, e3, g3, h3⟩ := loop_E g b f E (fun k s => Gw st s ∧ s.os[st.os.length]? = some (.lst (L k))) m (fun k hk st1 ⟨g1, h1⟩ => hb k hk st1 g1 h1) s2 ⟨(Gw.alloc _ _).trans g2, by rw [hL0]; exact g2.get (new_get _ _ _)⟩
  obtain ⟨s4, e4, g4⟩ := hk s3 g3 h3
  refine ⟨s4, ?_, g3.trans g4⟩
  rw [seq_nx e0, ← hE0, seq_nx ((e2 g b).trans e3)]
  exact e4
theorem ext_eq {st : Sto} {n k : Nat} {xs ys : List IV} (h : st.os[n]? = some (.lst xs)) (h2 : st.os[k]? = some (.lst ys)) (hl : xs.length + ys.length ≤ 100000) : extI n [.ref k] st = some (.non, { os := st.os.set n (.lst (xs ++ ys)), low := st.low }) := by
  show (match st.os[n]?, st.os[k]? with
    | some (.lst xs), some (.lst ys) => bif Nat.ble (xs.length + ys.length) lineI then some (IV.non, ({ os := st.os.set n (.lst (xs ++ ys)), low := st.low } : Sto)) else none
    | _, _ => none) = _
  rw [h, h2]
  simp only [show Nat.ble (xs.length + ys.length) lineI = true from Nat.ble_eq_true_of_le hl, cond_true]
/-- a part that is a list with other lists beside -/
def OkN (m : RE IV) (st : Sto) (xs : List IV) : Prop := ∃ n st', m = .ok (.ref n) st' ∧ Gw st st' ∧ st'.os[n]? = some (.lst xs)
theorem oks_ext {env : IEnv} {st : Sto} {i n : Nat} {a : SemE} {xs ys : List IV} (he : env[i]? = some (some (.ref n))) (hn : st.os[n]? = some (.lst xs)) (ha : OkN (a env st) st ys) (hl : xs.length + ys.length ≤ 100000) :
    ∃ st', sExpr (rMethL extI (rVar i) (rCons a rNil)) env st = .nx env { os := st'.os.set n (.lst (xs ++ ys)), low := st'.low } ∧ Gw st st' := by
  obtain ⟨k, s1, e1, g1, h1⟩ := ha
  refine ⟨s1, ?_, g1⟩
  have hv : rVar i env st = .ok (.ref n) st := by unfold rVar; rw [he]
  have : rMethL extI (rVar i) (rCons a rNil) env st = .ok .non { os := s1.os.set n (.lst (xs ++ ys)), low := s1.low } := by
    unfold rMethL
    simp only [hv, RE.bind, lst_of hn, rCons, e1, rNil, ext_eq (g1.get hn) h1 hl, RE.ofO]
  unfold sExpr
  rw [this]; rfl
theorem okn_lst {as : SemA} (h : Ok (as env st) st xs) (hl : xs.length ≤ 100000) : OkN (rLst as env st) st xs := by
  obtain ⟨s1, e1, g1⟩ := h
  refine ⟨s1.os.length, { os := s1.os ++ [.lst xs], low := s1.low }, ?_, g1.trans (.alloc _ _), new_get _ _ _⟩
  unfold rLst
  rw [e1]
  show (bif Nat.ble xs.length lineI then RE.ofO (s1.allocO (.lst xs)) else .bad) = _
  rw [show Nat.ble xs.length lineI = true from Nat.ble_eq_true_of_le hl]; rfl
theorem OkN.l {m : RE IV} (h : OkN m st xs) : OkL m st xs := by
  obtain ⟨n, s, e1, g, h⟩ := h
  exact ⟨n, s, e1, g, lst_of h⟩
theorem okn_ifT {ct : SemT} (h : Ok (ct env st) st true) (h2 : ∀ st1, Gw st st1 → OkN (a env st1) st1 xs) : OkN (rIfE ct a b env st) st xs := by
  obtain ⟨s1, e1, g1⟩ := h
  obtain ⟨n, s2, e2, g2, h3⟩ := h2 s1 g1
  exact ⟨n, s2, by unfold rIfE; rw [e1]; exact e2, g1.trans g2, h3⟩
theorem okn_ifF {ct : SemT} (h : Ok (ct env st) st false) (h2 : ∀ st1, Gw st st1 → OkN (b env st1) st1 xs) : OkN (rIfE ct a b env st) st xs := by
  obtain ⟨s1, e1, g1⟩ := h
  obtain ⟨n, s2, e2, g2, h3⟩ := h2 s1 g1
  exact ⟨n, s2, by unfold rIfE; rw [e1]; exact e2, g1.trans g2, h3⟩
/-- [v] * k -/
theorem okn_rep {k : Nat} (h : Ok (a env st) st v) (h2 : ∀ st1, Gw st st1 → Ok (b env st1) st1 (.int k)) (hk : k ≤ 1000) : OkN (rBin mulT (rLst (rCons a rNil)) b env st) st (List.replicate k v) := by
  obtain ⟨n, s1, e1, g1, h1⟩ := okn_lst (ok_cons h fun s _ => ok_nil (env := env) (st := s)) (by simp)
  obtain ⟨s2, e2, g2⟩ := h2 s1 g1
  refine ⟨s2.os.length, { os := s2.os ++ [.lst (List.replicate k v)], low := s2.low }, ?_, (g1.trans g2).trans (.alloc _ _), new_get _ _ _⟩
  refine rbin_eq e1 e2 ?_
  show (match s2.os[n]? with
    | some (.lst xs) => bif decide ((0 : Int) ≤ k) && Nat.ble (xs.length * (k : Int).toNat) lineI && decide ((k : Int) < 1000000) then s2.allocO (.lst (List.replicate (k : Int).toNat xs).flatten) else none
    | _ => none) = _
  rw [g2.get h1]
  simp only [List.length_singleton, Nat.one_mul, Int.toNat_natCast]
  rw [decide_eq_true (show (0 : Int) ≤ k by omega), show Nat.ble k lineI = true from Nat.ble_eq_true_of_le (by unfold lineI; omega), decide_eq_true (show (k : Int) < 1000000 by omega), List.flatten_replicate_singleton]
  rfl
theorem okn_rep0 (h : Ok (a env st) st v) (h2 : ∀ st1, Gw st st1 → ∃ k : Int, Ok (b env st1) st1 (.int k) ∧ k = (m : Nat)) (hk : m ≤ 1000) : OkN (rBin mulT (rLst (rCons a rNil)) b env st) st (List.replicate m v) := okn_rep h (fun s g => by obtain ⟨k, h, e⟩ := h2 s g; rw [← e]; exact h) hk
theorem ok_star (h : OkL (a env st) st xs) (h2 : ∀ st1, Gw st st1 → Ok (as env st1) st1 ys) : Ok (rStar a as env st) st (xs ++ ys) := by
  obtain ⟨n, s1, e1, g1, h1⟩ := h
  obtain ⟨s2, e2, g2⟩ := h2 s1 g1
  refine ⟨s2, ?_, g1.trans g2⟩
  unfold rStar
  rw [e1]
  show (match seqOf s1 (.ref n) with
    | some xs => (as env s1).bind fun ys st2 => .ok (xs ++ ys) st2
    | none => .bad) = _
  rw [show seqOf s1 (.ref n) = lstAt s1 n from rfl, h1, e2]; rfl
theorem ok_mulTup {k : Nat} (h : Ok (a env st) st (.tup [v])) (h2 : ∀ st1, Gw st st1 → Ok (b env st1) st1 (.int k)) (hk : k ≤ 1000) : Ok (rBin mulT a b env st) st (.tup (List.replicate k v)) := ok_bin h h2 fun s _ => ok_ofO (by
  show (bif decide (-1000000 < (k : Int)) && decide ((k : Int) ≤ 1000) && Nat.ble [v].length 1000 then some (IV.tup (List.replicate (k : Int).toNat [v]).flatten, s) else none) = _
  rw [decide_eq_true (show -1000000 < (k : Int) by omega), decide_eq_true (show (k : Int) ≤ 1000 by omega), List.flatten_replicate_singleton, Int.toNat_natCast]
  rfl)
/-! comprehensions -/
theorem lc_rngF {ct : CT} {vs : List Nat} {tt : SemT} {te : SemE} (E : Nat → IEnv) (p : Nat → Bool) (g : Nat → IV) (h : Ok (a env st) st (.int m)) (hm : m ≤ 100000) (h1 : ∀ k, k < m → ct.put (.int (k : Nat)) (wipeI env vs) = some (E k)) (h2 : ∀ k, k < m → ∀ st1, Gw st st1 → Ok (tt (E k) st1) st1 (p k)) (h3 : ∀ k, k < m → p k = true → ∀ st1, Gw st st1 → Ok (te (E k) st1) st1 (g k)) :
    OkL (rLc (fRng1 (rCons a rNil)) ct vs tt te env st) st (((List.range m).filter p).map g) := by
  obtain ⟨s1, e1, g1⟩ := ok_cons h fun s _ => ok_nil (env := env) (st := s)
  exact lc_items (fun i : Nat => IV.int (i : Nat)) E p g (List.range m) (rng1 m e1 hm) g1 (by rw [List.length_range]; exact hm) (fun k hk => h1 k (range_mem hk)) (fun k hk s gs => h2 k (range_mem hk) s (g1.trans gs)) fun k hk hp s gs => h3 k (range_mem hk) hp s (g1.trans gs)
theorem lc_rng {ct : CT} {vs : List Nat} {te : SemE} (E : Nat → IEnv) (g : Nat → IV) (h : Ok (a env st) st (.int m)) (hm : m ≤ 100000) (h1 : ∀ k, k < m → ct.put (.int (k : Nat)) (wipeI env vs) = some (E k)) (h3 : ∀ k, k < m → ∀ st1, Gw st st1 → Ok (te (E k) st1) st1 (g k)) :
    OkL (rLc (fRng1 (rCons a rNil)) ct vs rYes te env st) st ((List.range m).map g) := by
  have := lc_rngF (tt := rYes) E (fun _ => true) g h hm h1 (fun _ _ st1 _ => ⟨st1, rfl, .refl _⟩) fun k hk _ => h3 k hk
  rwa [List.filter_eq_self.mpr (fun _ _ => rfl)] at this
theorem lc_rngR {ct : CT} {vs : List Nat} {te : SemE} (E : Nat → IEnv) (g : Nat → Rat) (h : Ok (a env st) st (.int m)) (hm : m ≤ 100000) (h1 : ∀ k, k < m → ct.put (.int (k : Nat)) (wipeI env vs) = some (E k)) (h3 : ∀ k, k < m → ∀ st1, Gw st st1 → Ok (te (E k) st1) st1 (q (g k))) :
    OkL (rLc (fRng1 (rCons a rNil)) ct vs rYes te env st) st ((tab m g).map q) := by
  have := lc_rng E (fun k => q (g k)) h hm h1 h3
  unfold tab
  rwa [List.map_map]
theorem lc_seq {ct : CT} {vs : List Nat} {tt : SemT} {te : SemE} {κ : Type} {F : κ → IV} {ks : List κ} (E : κ → IEnv) (p : κ → Bool) (g : κ → IV) (h : Ok (a env st) st (.tup (ks.map F))) (hm : ks.length ≤ 100000) (h1 : ∀ k ∈ ks, ct.put (F k) (wipeI env vs) = some (E k)) (h2 : ∀ k ∈ ks, ∀ st1, Gw st st1 → Ok (tt (E k) st1) st1 (p k)) (h3 : ∀ k ∈ ks, p k = true → ∀ st1, Gw st st1 → Ok (te (E k) st1) st1 (g k)) :
    OkL (rLc (fSeq a) ct vs tt te env st) st ((ks.filter p).map g) := by
  obtain ⟨s1, e1, g1⟩ := h
  exact lc_items F E p g ks (by unfold fSeq; rw [e1]; rfl) g1 hm h1 (fun k hk s gs => h2 k hk s (g1.trans gs)) fun k hk hp s gs => h3 k hk hp s (g1.trans gs)
theorem lc_seqY {ct : CT} {vs : List Nat} {te : SemE} {κ : Type} {F : κ → IV} {ks : List κ} (E : κ → IEnv) (g : κ → IV) (h : Ok (a env st) st (.tup (ks.map F))) (hm : ks.length ≤ 100000) (h1 : ∀ k ∈ ks, ct.put (F k) (wipeI env vs) = some (E k)) (h3 : ∀ k ∈ ks, ∀ st1, Gw st st1 → Ok (te (E k) st1) st1 (g k)) :
    OkL (rLc (fSeq a) ct vs rYes te env st) st (ks.map g) := by
  have := lc_seq (tt := rYes) E (fun _ => true) g h hm h1 (fun _ _ st1 _ => ⟨st1, rfl, .refl _⟩) fun k hk _ => h3 k hk
  rwa [List.filter_eq_self.mpr (fun _ _ => rfl)] at this
end
end PL

set_option Elab.async false
set_option linter.all false
set_option maxRecDepth 100000
set_option maxHeartbeats 4000000
/-! PL10: loops and comprehensions over lists of the store, zip, two fors. -/
namespace PL
open PySem PySem.Spec PyProof.Rows L2 PI
section
variable {env env' : IEnv} {st st1 : Sto} {a b c e : SemE} {as : SemA} {x y z v w : IV} {xs ys : List IV} {i j n m : Nat} {r p : List Rat} {it : IEnv → Sto → RE FI} {f : Nat → IV}
/-- for over a list that stays -/
theorem loop_L (g : SemG) (b : SemS) (E : Nat → IEnv) (base : Sto) (hn : lstAt base n = some xs) (hb : ∀ k, k < xs.length → ∀ st1, Gw base st1 → ∃ env1, g ((xs[k]?).getD .non) (E k) st1 = some (env1, st1) ∧ OkS (b env1 st1) st1 (E (k + 1))) : ∀ (d k : Nat) (st : Sto), k + d = xs.length + 1 → k ≤ xs.length → Gw base st → OkS (loopL g b n d k (E k) st) st (E xs.length)
  | 0, k, st, h, hk, gb => absurd h (by omega)
  | d + 1, k, st, h, hk, gb => by
    unfold loopL
    rw [gb.lst hn]
    dsimp only
    by_cases hlt : k < xs.length
    · rw [List.getElem?_eq_getElem hlt]
      dsimp only
      obtain ⟨e1, h1, s2, h2, g2⟩ := hb k hlt st gb
      rw [List.getElem?_eq_getElem hlt, Option.getD_some] at h1
      obtain ⟨s3, e3, g3⟩ := loop_L g b E base hn hb d (k + 1) s2 (by omega) (by omega) (gb.trans g2)
      refine ⟨s3, ?_, g2.trans g3⟩
      rw [h1]
      show (b e1 st).loop _ = _
      rw [h2]
      exact e3
    · have : k = xs.length := by omega
      subst this
      rw [List.getElem?_eq_none (Nat.le_refl _)]
      exact ⟨st, rfl, .refl _⟩
theorem for_L {g : SemG} {b : SemS} (E : Nat → IEnv) (ha : a (E 0) st = .ok (.ref n) st) (hn : lstAt st n = some xs) (hb : ∀ k, k < xs.length → ∀ st1, Gw st st1 → ∃ env1, g ((xs[k]?).getD .non) (E k) st1 = some (env1, st1) ∧ OkS (b env1 st1) st1 (E (k + 1))) : OkS (sFor (fSeq a) g b (E 0) st) st (E xs.length) := by
  obtain ⟨s3, e3, g3⟩ := loop_L g b E st hn hb (xs.length + 1) 0 st (by omega) (by omega) (.refl _)
  refine ⟨s3, ?_, g3⟩
  have h1 : fSeq a (E 0) st = .ok (.list n) st := by unfold fSeq; rw [ha]; rfl
  unfold sFor
  rw [h1]
  show (match lstAt st n with
    | some xs => loopL g b n (xs.length + 1) 0 (E 0) st
    | none => .bad) = _
  rw [hn]
  exact e3
/-- turn by turn, an invariant of names and store -/
theorem loop_I (g : SemG) (b : SemS) (f : Nat → IV) (I : Nat → IEnv → Sto → Prop) (m : Nat) (hb : ∀ k, k < m → ∀ env st1, I k env st1 → ∃ env1, g (f k) env st1 = some (env1, st1) ∧ ∃ env2 st2, b env1 st1 = .nx env2 st2 ∧ I (k + 1) env2 st2) : ∀ env st, I 0 env st → ∃ env' st', loopT g b ((List.range m).map f) env st = .nx env' st' ∧ I m env' st' := by
  have key : ∀ (d k : Nat), k + d = m → ∀ env st, I k env st → ∃ env' st', loopT g b ((List.range' k d).map f) env st = .nx env' st' ∧ I m env' st' := by
    intro d
    induction d with
    | zero =>
      intro k hk env st h
      have : k = m := by omega
      subst this
      exact ⟨env, st, rfl, h⟩
    | succ d ih =>
      intro k hk env st h
      obtain ⟨e1, h1, e2, s2, h2, h3⟩ := hb k (by omega) env st h
      obtain ⟨e3, s3, h4, h5⟩ := ih (k + 1) (by omega) e2 s2 h3
      refine ⟨e3, s3, ?_, h5⟩
      rw [List.range'_succ, List.map_cons]
      show RS.ofG (g (f k) env st) (fun env1 st1 => (b env1 st1).loop (loopT g b _)) = _
      rw [h1]
      show (b e1 st).loop _ = _
      rw [h2]
      exact h4
  intro env st h
  have := key m 0 (by omega) env st h
  rwa [← List.range_eq_range'] at this
/-- a comprehension over a list that stays -/
theorem loopCL_ok (ct : CT) (env0 : IEnv) (tt : SemT) (te : SemE) (base : Sto) {κ : Type} {F : κ → IV} {ks : List κ} (hn : lstAt base n = some (ks.map F)) (E : κ → IEnv) (p : κ → Bool) (g : κ → IV) (h1 : ∀ k ∈ ks, ct.put (F k) env0 = some (E k)) (h2 : ∀ k ∈ ks, ∀ st1, Gw base st1 → Ok (tt (E k) st1) st1 (p k)) (h3 : ∀ k ∈ ks, p k = true → ∀ st1, Gw base st1 → Ok (te (E k) st1) st1 (g k)) : ∀ (d i : Nat) (acc : List IV) (st : Sto), i + d = ks.length + 1 → i ≤ ks.length → Gw base st → ∃ st2, loopCL ct env0 tt te n d i acc st = .ok (acc.reverse ++ ((ks.drop i).filter p).map g) st2 ∧ Gw st st2
  | 0, i, acc, st, h, hi, gb => absurd h (by omega)
  | d + 1, i, acc, st, h, hi, gb => by
    unfold loopCL
    rw [gb.lst hn]
    dsimp only
    by_cases hlt : i < ks.length
    · rw [List.getElem?_map, List.getElem?_eq_getElem hlt, Option.map_some]
      dsimp only
      have hm : ks[i] ∈ ks := List.getElem_mem hlt
      rw [h1 _ hm]
      dsimp only
      obtain ⟨s1, e1, g1⟩ := h2 _ hm st gb
      rw [e1, List.drop_eq_getElem_cons hlt]
      cases hp : p ks[i] with
      | true =>
        obtain ⟨s2, e2, g2⟩ := h3 _ hm hp s1 (gb.trans g1)
        obtain ⟨s3, e3, g3⟩ := loopCL_ok ct env0 tt te base hn E p g h1 h2 h3 d (i + 1) (g ks[i] :: acc) s2 (by omega) (by omega) ((gb.trans g1).trans g2)
        refine ⟨s3, ?_, (g1.trans g2).trans g3⟩
        simp only [e2, e3, List.filter_cons, hp, if_true, List.map_cons, List.reverse_cons, List.append_assoc, List.singleton_append]
      | false =>
        obtain ⟨s3, e3, g3⟩ := loopCL_ok ct env0 tt te base hn E p g h1 h2 h3 d (i + 1) acc s1 (by omega) (by omega) (gb.trans g1)
        refine ⟨s3, ?_, g1.trans g3⟩
        simp only [e3, List.filter_cons, hp, Bool.false_eq_true, if_false]
    · rw [List.getElem?_eq_none (by rw [List.length_map]; omega), List.drop_eq_nil_of_le (by omega)]
      exact ⟨st, by simp, .refl _⟩
theorem lc_list {ct : CT} {vs : List Nat} {tt : SemT} {te : SemE} {κ : Type} {F : κ → IV} {ks : List κ} (E : κ → IEnv) (p : κ → Bool) (g : κ → IV) (ha : a env st = .ok (.ref n) st) (hn : lstAt st n = some (ks.map F)) (hm : ks.length ≤ 100000) (h1 : ∀ k ∈ ks, ct.put (F k) (wipeI env vs) = some (E k)) (h2 : ∀ k ∈ ks, ∀ st1, Gw st st1 → Ok (tt (E k) st1) st1 (p k)) (h3 : ∀ k ∈ ks, p k = true → ∀ st1, Gw st st1 → Ok (te (E k) st1) st1 (g k)) :
    OkL (rLc (fSeq a) ct vs tt te env st) st ((ks.filter p).map g) := by
  obtain ⟨s2, e2, g2⟩ := loopCL_ok ct (wipeI env vs) tt te st hn E p g h1 h2 h3 (ks.length + 1) 0 [] st (by omega) (by omega) (.refl _)
  rw [List.drop_zero, List.reverse_nil, List.nil_append] at e2
  refine ⟨s2.os.length, { os := s2.os ++ [.lst ((ks.filter p).map g)], low := s2.low }, ?_, g2.trans (.alloc _ _), new_lst _ _ _⟩
  have h1 : fSeq a env st = .ok (.list n) st := by unfold fSeq; rw [ha]; rfl
  have hb : Nat.ble ks.length lineI = true := Nat.ble_eq_true_of_le hm
  unfold rLc
  rw [h1]
  simp only [RE.bind, hn, hb, cond_true, List.length_map, e2, Sto.allocO, RE.ofO]
/-- a comprehension over zip of a list that stays and a tuple -/
theorem loopCZ_ok (ct : CT) (env0 : IEnv) (te : SemE) (base : Sto) {k : Nat} (F1 F2 : Nat → IV) (hn : lstAt base n = some ((List.range k).map F1)) (E : Nat → IEnv) (g : Nat → IV) (h1 : ∀ i, i < k → ct.put (.tup [F1 i, F2 i]) env0 = some (E i)) (h3 : ∀ i, i < k → ∀ st1, Gw base st1 → Ok (te (E i) st1) st1 (g i)) : ∀ (d i : Nat) (acc : List IV) (st : Sto), i + d = k + 1 → i ≤ k → Gw base st → ∃ st2, loopCW ct env0 rYes te k (lenZ2 (.ref n) (.tup ((List.range k).map F2)) k k) (rowZ2 (.ref n) (.tup ((List.range k).map F2))) d i acc st = .ok (acc.reverse ++ ((List.range k).drop i).map g) st2 ∧ Gw st st2
  | 0, i, acc, st, h, hi, gb => absurd h (by omega)
  | d + 1, i, acc, st, h, hi, gb => by
    have hl : lenZ2 (.ref n) (.tup ((List.range k).map F2)) k k st = some k := by
      unfold lenZ2
      rw [show seqOf st (.ref n) = lstAt st n from rfl, gb.lst hn]
      show (bif Nat.beq ((List.range k).map F1).length k && Nat.beq ((List.range k).map F2).length k then some (min k k) else none) = _
      rw [List.length_map, List.length_map, List.length_range, Nat.beq_refl, Bool.and_self, cond_true, Nat.min_self]
    unfold loopCW
    rw [hl]
    dsimp only
    rw [Nat.beq_refl, cond_true]
    by_cases hlt : i < k
    · have hr : rowZ2 (.ref n) (.tup ((List.range k).map F2)) st i = some (.tup [F1 i, F2 i]) := by
        unfold rowZ2
        rw [show seqOf st (.ref n) = lstAt st n from rfl, gb.lst hn]
        show (match ((List.range k).map F1)[i]?, ((List.range k).map F2)[i]? with
          | some u, some v => some (IV.tup [u, v])
          | _, _ => none) = _
        rw [List.getElem?_map, List.getElem?_map, List.getElem?_range hlt]; rfl
      have hbt : Nat.blt i k = true := Nat.ble_eq_true_of_le hlt
      rw [hbt, cond_true, hr]
      dsimp only
      rw [h1 i hlt]
      obtain ⟨s2, e2, g2⟩ := h3 i hlt st gb
      obtain ⟨s3, e3, g3⟩ := loopCZ_ok ct env0 te base F1 F2 hn E g h1 h3 d (i + 1) (g i :: acc) s2 (by omega) (by omega) (gb.trans g2)
      refine ⟨s3, ?_, g2.trans g3⟩
      have hd : (List.range k).drop i = i :: (List.range k).drop (i + 1) := by
        rw [List.drop_eq_getElem_cons (by rw [List.length_range]; exact hlt), List.getElem_range]
      simp only [rYes, e2, e3, hd, List.map_cons, List.reverse_cons, List.append_assoc, List.singleton_append]
    · have hbf : Nat.blt i k = false := Bool.eq_false_iff.mpr fun h' => absurd (Nat.le_of_ble_eq_true h') (by omega)
      rw [hbf, cond_false, List.drop_eq_nil_of_le (by rw [List.length_range]; omega)]
      exact ⟨st, by simp, .refl _⟩
theorem lc_zip {ct : CT} {vs : List Nat} {te : SemE} {k : Nat} (F1 F2 : Nat → IV) (E : Nat → IEnv) (g : Nat → IV) (ha : a env st = .ok (.ref n) st) (hn : lstAt st n = some ((List.range k).map F1)) (hb : Ok (b env st) st (.tup ((List.range k).map F2))) (hk : k ≤ 100000) (h1 : ∀ i, i < k → ct.put (.tup [F1 i, F2 i]) (wipeI env vs) = some (E i)) (h3 : ∀ i, i < k → ∀ st1, Gw st st1 → Ok (te (E i) st1) st1 (g i)) :
    OkL (rLc (fZip2 (rCons a (rCons b rNil))) ct vs rYes te env st) st ((List.range k).map g) := by
  obtain ⟨s1, e1, g1⟩ := hb
  obtain ⟨s2, e2, g2⟩ := loopCZ_ok ct (wipeI env vs) te s1 F1 F2 (g1.lst hn) E g h1 (fun i hi s gs => h3 i hi s (g1.trans gs)) (k + 1) 0 [] s1 (by omega) (by omega) (.refl _)
  rw [List.drop_zero, List.reverse_nil, List.nil_append] at e2
  refine ⟨s2.os.length, { os := s2.os ++ [.lst ((List.range k).map g)], low := s2.low }, ?_, (g1.trans g2).trans (.alloc _ _), new_lst _ _ _⟩
  have h1 : fZip2 (rCons a (rCons b rNil)) env st = .ok (.walk k (lenZ2 (.ref n) (.tup ((List.range k).map F2)) k k) (rowZ2 (.ref n) (.tup ((List.range k).map F2)))) s1 := by
    unfold fZip2
    rw [rcons_eq ha (rcons_eq e1 (rfl : rNil env s1 = .ok [] s1))]
    show (match seqOf s1 (.ref n), seqOf s1 (.tup ((List.range k).map F2)) with
      | some xs, some ys => RE.ok (FI.walk (min xs.length ys.length) (lenZ2 (.ref n) (.tup ((List.range k).map F2)) xs.length ys.length) (rowZ2 (.ref n) (.tup ((List.range k).map F2)))) s1
      | _, _ => .bad) = _
    rw [show seqOf s1 (.ref n) = lstAt s1 n from rfl, g1.lst hn]
    show RE.ok (FI.walk (min ((List.range k).map F1).length ((List.range k).map F2).length) (lenZ2 _ _ ((List.range k).map F1).length ((List.range k).map F2).length) _) s1 = _
    rw [List.length_map, List.length_map, List.length_range, Nat.min_self]
  have hbl : Nat.ble k lineI = true := Nat.ble_eq_true_of_le hk
  unfold rLc
  rw [h1]
  simp only [RE.bind, hbl, cond_true, e2, Sto.allocO, RE.ofO]
/-- two fors -/
theorem loopC2_ok (ct ct1 : CT) (env0 : IEnv) (ra : SemE) (vs1 : List Nat) (te : SemE) (base : Sto) {m n : Nat} (F : Nat → IV) (E : Nat → IEnv) (E1 : Nat → Nat → IEnv) (g : Nat → Nat → IV) (hmn : m * n ≤ 100000) (h1 : ∀ i, i < m → ct.put (.int (i : Nat)) env0 = some (E i)) (h2 : ∀ i, i < m → ∀ st1, Gw base st1 → Ok (ra (E i) st1) st1 (.tup ((List.range n).map F))) (h3 : ∀ i, i < m → ∀ j, j < n → ct1.put (F j) (wipeI (E i) vs1) = some (E1 i j)) (h4 : ∀ i, i < m → ∀ j, j < n → ∀ st1, Gw base st1 → Ok (te (E1 i j) st1) st1 (g i j)) : ∀ (d k : Nat) (acc : List IV) (st : Sto), k + d = m → acc.length = k * n → Gw base st → ∃ st2, loopC2 ct env0 ra ct1 vs1 rYes te ((List.range' k d).map fun i => .int (i : Nat)) acc st = .ok (acc.reverse ++ ((List.range' k d).map fun i => (List.range n).map (g i)).flatten) st2 ∧ Gw st st2
  | 0, k, acc, st, h, hl, gb => ⟨st, by simp [loopC2], .refl _⟩
  | d + 1, k, acc, st, h, hl, gb => by
    have hk : k < m := by omega
    obtain ⟨s1, e1, g1⟩ := h2 k hk st gb
    obtain ⟨s2, e2, g2⟩ := lc_gen ct1 (wipeI (E k) vs1) rYes te base F (E1 k) (fun _ => true) (g k) (List.range n) acc s1 (gb.trans g1) (fun j hj => h3 k hk j (List.mem_range.mp hj)) (fun _ _ st1 _ => ⟨st1, rfl, .refl _⟩) (fun j hj _ => h4 k hk j (List.mem_range.mp hj))
    rw [List.filter_eq_self.mpr (fun _ _ => rfl)] at e2
    obtain ⟨s3, e3, g3⟩ := loopC2_ok ct ct1 env0 ra vs1 te base F E E1 g hmn h1 h2 h3 h4 d (k + 1) (acc.reverse ++ (List.range n).map (g k)).reverse s2 (by omega) (by simp [hl, Nat.succ_mul, Nat.add_comm]) ((gb.trans g1).trans g2)
    refine ⟨s3, ?_, (g1.trans g2).trans g3⟩
    have hb : Nat.ble (acc.length + ((List.range n).map F).length) lineI = true := by
      rw [hl, List.length_map, List.length_range, ← Nat.succ_mul]
      exact Nat.ble_eq_true_of_le (Nat.le_trans (Nat.mul_le_mul_right n hk) hmn)
    rw [List.range'_succ, List.map_cons]
    unfold loopC2
    rw [h1 k hk]
    dsimp only
    rw [e1]
    dsimp only
    rw [hb, cond_true, e2]
    dsimp only
    rw [e3]
    simp only [List.map_cons, List.flatten_cons, List.reverse_reverse, List.append_assoc]
theorem lc2_ok2 {ct ct1 : CT} {ra : SemE} {vs vs1 : List Nat} {te : SemE} {m n : Nat} (F : Nat → IV) (E : Nat → IEnv) (E1 : Nat → Nat → IEnv) (g : Nat → Nat → IV) (h : Ok (a env st) st (.int m)) (hm : m ≤ 100000) (hmn : m * n ≤ 100000) (h1 : ∀ i, i < m → ct.put (.int (i : Nat)) (wipeI env vs) = some (E i)) (h2 : ∀ i, i < m → ∀ st1, Gw st st1 → Ok (ra (E i) st1) st1 (.tup ((List.range n).map F))) (h3 : ∀ i, i < m → ∀ j, j < n → ct1.put (F j) (wipeI (E i) vs1) = some (E1 i j)) (h4 : ∀ i, i < m → ∀ j, j < n → ∀ st1, Gw st st1 → Ok (te (E1 i j) st1) st1 (g i j)) :
    OkL (rLc2 (fRng1 (rCons a rNil)) ct vs ra ct1 vs1 rYes te env st) st (((List.range m).map fun i => (List.range n).map (g i)).flatten) := by
  obtain ⟨s1, e1, g1⟩ := ok_cons h fun s _ => ok_nil (env := env) (st := s)
  obtain ⟨s2, e2, g2⟩ := loopC2_ok ct ct1 (wipeI env vs) ra vs1 te s1 F E E1 g hmn h1 (fun i hi s gs => h2 i hi s (g1.trans gs)) h3 (fun i hi j hj s gs => h4 i hi j hj s (g1.trans gs)) m 0 [] s1 (by omega) (by simp) (.refl _)
  rw [← List.range_eq_range', List.reverse_nil, List.nil_append] at e2
  refine ⟨s2.os.length, { os := s2.os ++ [.lst (((List.range m).map fun i => (List.range n).map (g i)).flatten)], low := s2.low }, ?_, (g1.trans g2).trans (.alloc _ _), new_lst _ _ _⟩
  unfold rLc2
  rw [rng1 m e1 hm]
  simp only [RE.bind, e2, Sto.allocO, RE.ofO]
theorem tab_rows (m n : Nat) (f : Nat → Rat) : tab (m * n) f = ((List.range m).map fun i => (List.range n).map fun j => f (i * n + j)).flatten := by
  induction m with
  | zero => simp [tab]
  | succ m ih =>
    rw [List.range_succ, List.map_append, List.flatten_append, ← ih, Nat.succ_mul]
    unfold tab
    rw [List.range_add, List.map_append, List.map_map]
    simp [Function.comp_def]
end
end PL

set_option Elab.async false
set_option linter.all false
set_option maxRecDepth 100000
set_option maxHeartbeats 4000000
namespace law_k17
open PySem PySem.Spec PyProof.Rows L2 PI PL
theorem plus_eq : d_plus = PL.d_plus := rfl
theorem times_eq : d_times = PL.d_times := rfl
theorem fraction_eq : d_is_fraction = PL.d_is_fraction := rfl
theorem lplus_eq : d__law_plus = PL.d__law_plus := rfl
theorem ltimes_eq : d__law_times = PL.d__law_times := rfl
theorem next_eq : d__law_next = PL.d__law_next := rfl
theorem from_eq : d_is_from = PL.d_is_from := rfl
theorem none_q : g_NONE = q 0 := rfl
theorem zero_q : IV.tup [.int 0, .int 1] = q 0 := rfl
theorem one_q : IV.tup [.int 1, .int 1] = q 1 := rfl
section
variable {st : Sto} {r x p : List Rat} {s : Nat}
/-- a row that is taken -/
structure RowOk (x : List Rat) : Prop where
  len : x.length ≤ 300
  bn : ∀ a ∈ x, Bn a
/-- a filter that is taken -/
structure PolyOk (p : List Rat) : Prop where
  len : p.length ≤ 60
  bn : ∀ a ∈ p, Bn a
  trim : Trim p
theorem ok_plus {a b : Rat} (ha : Bn a) (hb : Bn b) : Ok (d_plus [q a, q b] st) st (q (a + b)) := .same (plus_q ha hb st)
theorem ok_times {a b : Rat} (ha : Bn a) (hb : Bn b) : Ok (d_times [q a, q b] st) st (q (a * b)) := .same (times_q ha hb st)
theorem ok_lplus {a b : Rat} (ha : Bn a) (hb : Bn b) : Ok (d__law_plus [q a, q b] st) st (q (a + b)) := .same (law_plus_q ha hb st)
theorem ok_ltimes {a b : Rat} (ha : Bn a) (hb : Bn b) : Ok (d__law_times [q a, q b] st) st (q (a * b)) := .same (law_times_q ha hb st)
theorem ok_frac {a : Rat} (ha : Bn a) : Ok (d_is_fraction [q a] st) st (.bl true) := .same (is_fraction_q ha st)
theorem from_ok (i lo hi : Int) (st : Sto) : d_is_from [.int i, .int lo, .int hi] st = .ok (.bl (decide (lo ≤ i) && decide (i ≤ hi))) st := PL.d_is_from_int i lo hi st
theorem from_yes {i lo hi : Int} (h : lo ≤ i) (h' : i ≤ hi) (st : Sto) : Ok (d_is_from [.int i, .int lo, .int hi] st) st (.bl true) := .same (by rw [from_ok, decide_eq_true h, decide_eq_true h']; rfl)
theorem all_frac {env : IEnv} {i j : Nat} (h : env[i]? = some (some (T r))) (hij : i ≠ j) (hj : j < env.length) (hl : r.length ≤ 100000) (hb : ∀ a ∈ r, Bn a) : Ok (rCall allI (rCons (rLc (fSeq (rVar i)) (.one j) [j] rYes (rDef d_is_fraction (rCons (rVar j) rNil))) rNil) env st) st (.bl true) := by
  refine Ok.eq (all_L (ks := r) (f := fun _ => true) (lc_seqY (F := q) (ks := r) (fun k => (env.set j none).set j (some (q k))) (fun _ => .bl true) (ok_var h) hl (fun _ _ => rfl) fun k hk s _ => ok_def (xs := [q k]) (ok_cons (ok_var ?_) fun _ _ => ok_nil) fun s _ => ok_frac (hb k hk))) ?_
  · rw [List.getElem?_set_self (by simpa using hj)]
  · simp
theorem isTup {env : IEnv} {i : Nat} {xs : List IV} (h : env[i]? = some (some (.tup xs))) : Ok (rIsT .tup (rVar i) env st) st (.bl true) := Ok.eq (ok_isT (t := .tup) (ok_var h) fun _ _ => rfl) rfl
theorem lenVar {env : IEnv} {i : Nat} (h : env[i]? = some (some (T r))) : Ok (rCall lenI (rCons (rVar i) rNil) env st) st (.int r.length) := ok_call (ok_cons (ok_var h) fun _ _ => ok_nil) fun _ _ => ok_lenT
theorem check_row (h : RowOk x) : Ok (d_check_rate_row [T x] st) st .non := by
  have hl := h.len
  unfold d_check_rate_row r_check_rate_row
  refine ok_fnN (oks_chk (Ok.eq (ok_tor (ok_tnot (ok_trub (k := true) (isTup (xs := x.map q) rfl))) fun _ _ _ => ok_tor (ok_tbl (ok_bin (x := .int x.length) (y := .int 300) (lenVar rfl) (fun _ _ => ok_c) fun _ _ => ok_gt)) fun _ _ _ => ok_tnot (ok_trub (k := true) (all_frac (r := x) rfl (by decide) (by show 1 < 2; decide) (by omega) h.bn))) ?_))
  rw [decide_eq_false (by omega)]; rfl
theorem is_poly (h : PolyOk p) : Ok (d_is_poly [T p] st) st (.bl true) := by
  have hl := h.len
  unfold d_is_poly r_is_poly
  refine ok_fn (okr_seq (oks_chk (Ok.eq (ok_tor (ok_tnot (ok_trub (k := true) (isTup (xs := p.map q) rfl))) fun _ _ _ => ok_tor (ok_tbl (ok_bin (x := .int p.length) (y := .int 60) (lenVar rfl) (fun _ _ => ok_c) fun _ _ => ok_gt)) fun _ _ _ => ok_tnot (ok_trub (k := true) (all_frac (r := p) rfl (by decide) (by show 1 < 2; decide) (by omega) h.bn))) ?_)) fun s1 g1 => okr_ret ?_)
  · rw [decide_eq_false (by omega)]; rfl
  · refine Ok.eq (ok_or (k := decide (p = [])) (l := true) (ok_bin (x := T p) (y := .tup []) (ok_var rfl) (fun _ _ => ok_tup ok_nil (by simp)) fun _ _ => ok_eqN) fun s2 g2 hk => ?_) (by rw [Bool.or_true])
    have hp : ¬ p = [] := of_decide_eq_false hk
    have h0 : p.length ≠ 0 := fun z => hp (List.eq_nil_of_length_eq_zero z)
    have ht : co p (p.length - 1) ≠ 0 := h.trim.resolve_left hp
    refine Ok.eq (ok_bin (x := q (co p (p.length - 1))) (y := q 0) (ok_bin (x := T p) (y := .int (-1)) (ok_var rfl) (fun _ _ => ok_un ok_c fun _ _ => ok_neg) fun _ _ => ok_idx (atI_last ?_)) (fun _ _ => ok_c) fun _ _ => ok_neq) ?_
    · rw [List.length_map]; exact T_at (by omega)
    · rw [decide_eq_false ht]; rfl
theorem check_filter (h : PolyOk p) : Ok (d_check_filter [T p] st) st .non := by
  unfold d_check_filter r_check_filter
  exact ok_fnN (oks_chk (Ok.eq (ok_tnot (ok_trub (k := true) (ok_def (xs := [T p]) (ok_cons (ok_var rfl) fun _ _ => ok_nil) fun _ _ => is_poly h))) rfl))
/-- a step that is taken -/
structure StepOk (s : Nat) : Prop where
  lo : 0 < s
  hi : s ≤ 12
theorem check_step (h : StepOk s) : Ok (d_check_step [.int s] st) st .non := by
  have := h.lo; have := h.hi
  unfold d_check_step r_check_step
  exact ok_fnN (oks_chk (Ok.eq (ok_tnot (ok_trub (k := true) (ok_def (xs := [.int s, .int 1, .int 12]) (ok_cons (ok_var rfl) fun _ _ => ok_cons ok_c fun _ _ => ok_cons ok_c fun _ _ => ok_nil) fun _ _ => from_yes (by omega) (by omega) _))) rfl))
theorem s_row {env : IEnv} {i : Nat} (e : env[i]? = some (some (T x))) (h : RowOk x) : OkS (sExpr (rDef d_check_rate_row (rCons (rVar i) rNil)) env st) st env := oks_expr (ok_def (xs := [T x]) (ok_cons (ok_var e) fun _ _ => ok_nil) fun _ _ => check_row h)
theorem s_filter {env : IEnv} {i : Nat} (e : env[i]? = some (some (T p))) (h : PolyOk p) : OkS (sExpr (rDef d_check_filter (rCons (rVar i) rNil)) env st) st env := oks_expr (ok_def (xs := [T p]) (ok_cons (ok_var e) fun _ _ => ok_nil) fun _ _ => check_filter h)
theorem s_step {env : IEnv} {i : Nat} (e : env[i]? = some (some (.int s))) (h : StepOk s) : OkS (sExpr (rDef d_check_step (rCons (rVar i) rNil)) env st) st env := oks_expr (ok_def (xs := [.int s]) (ok_cons (ok_var e) fun _ _ => ok_nil) fun _ _ => check_step h)
theorem every_ok (h : RowOk x) (hs : StepOk s) : Ok (d_every [T x, .int s] st) st (T (evr s x)) := by
  unfold d_every r_every
  exact ok_fn (okr_seq (s_row rfl h) fun _ _ => okr_seq (s_step rfl hs) fun _ _ => okr_ret (ok_sl3 hs.lo (ok_var rfl) fun _ _ => ok_var rfl))
theorem btw_take (x : List Rat) (s k : Nat) (hs : 0 < s) (hk : k < x.length) : btw s (x.take (k + 1)) = btw s (x.take k) ++ co x k :: List.replicate (s - 1) 0 := by
  refine row_ext ?_ fun a ha => ?_
  · rw [btw_len, List.length_append, btw_len, List.length_take, List.length_take, List.length_cons, List.length_replicate, Nat.min_eq_left (by omega), Nat.min_eq_left (by omega), Nat.succ_mul]
    omega
  · rw [co_btw hs, co_app, btw_len, List.length_take, Nat.min_eq_left (by omega)]
    rw [btw_len, List.length_take, Nat.min_eq_left (by omega), Nat.succ_mul] at ha
    by_cases h1 : a < k * s
    · rw [if_pos h1, co_btw hs]
      unfold btwF
      split
      · have : a / s < k := (Nat.div_lt_iff_lt_mul hs).mpr h1
        rw [co_take, co_take, if_pos (by omega), if_pos this]
      · rfl
    · rw [if_neg h1]
      obtain ⟨b, rfl⟩ := Nat.exists_eq_add_of_le (Nat.le_of_not_lt h1)
      rw [Nat.add_sub_cancel_left, Nat.mul_comm k s]
      by_cases hb : b = 0
      · subst hb
        show btwF s _ (s * k) = co x k
        rw [btwF_mul hs, co_take, if_pos (by omega)]
      · rw [btwF_add _ _ _ (by omega) (by omega)]
        obtain ⟨b', rfl⟩ := Nat.exists_eq_succ_of_ne_zero hb
        exact (co_rep _ b').symm
theorem one_more {env : IEnv} {i j n : Nat} {a : Rat} (h : env[i]? = some (some (q a))) (hj : env[j]? = some (some (.int s))) (hs : StepOk s) : OkN (rLst (rCons (rVar i) (rStar (rBin mulT (rLst (rCons (rC g_NONE) rNil)) (rBin subI (rVar j) (rC (.int (1))))) rNil)) env st) st ((a :: List.replicate (s - 1) 0).map q) := by
  have := hs.lo; have := hs.hi
  rw [List.map_cons, List.map_replicate]
  refine okn_lst (ok_cons (ok_var h) fun s1 _ => Ok.eq (ok_star (xs := List.replicate (s - 1) (q 0)) (okn_rep (v := q 0) (k := s - 1) ok_c (fun _ _ => Ok.eq (ok_bin (x := .int s) (y := .int 1) (ok_var hj) (fun _ _ => ok_c) fun _ _ => ok_sub) ?_) (by omega)).l fun _ _ => ok_nil) (List.append_nil _)) ?_
  · congr 1; omega
  · rw [List.length_cons, List.length_replicate]; omega
theorem between_ok (h : RowOk x) (hs : StepOk s) (hl : x.length * s ≤ 300) : Ok (d_between [T x, .int s] st) st (T (btw s x)) := by
  have h1 := h.len; have h2 := hs.lo; have h3 := hs.hi
  unfold d_between r_between
  refine ok_fn (okr_seq (s_row rfl h) fun s1 g1 => okr_seq (s_step rfl hs) fun s2 g2 => okr_seq (oks_chk (Ok.eq (ok_tbl (ok_bin (x := .int (x.length * s)) (y := .int 300) (ok_bin (x := .int x.length) (y := .int s) (lenVar rfl) (fun _ _ => ok_var rfl) fun _ _ => ok_mul (sm_of (by omega)) (sm_of (by omega))) (fun _ _ => ok_c) fun _ _ => ok_gt)) ?_)) fun s3 g3 => ?_)
  · exact decide_eq_false (by rw [← Int.natCast_mul]; omega)
  · refine okr_build (f := fun i => q (co x i)) (fun k => [some (T x), some (.int s), some (.ref s3.os.length), if k = 0 then none else some (q (co x (k - 1)))]) (fun k => (btw s (x.take k)).map q) rfl (by simp [btw, tab]) (fun s4 _ => walks_seqT (ok_var rfl)) (fun k hk s4 g4 h4 => ?_) fun s4 g4 h4 => okr_ret (tup_L ⟨s3.os.length, s4, rfl, .refl _, ?_⟩)
    · refine ⟨_, rfl, ?_⟩
      obtain ⟨s5, e5, g5⟩ := oks_ext (env := [some (T x), some (.int s), some (.ref s3.os.length), some (q (co x k))]) (i := 2) rfl h4 (one_more (n := 0) (i := 3) (j := 1) rfl rfl hs) (by
        rw [List.length_map, List.length_map, btw_len, List.length_take, List.length_cons, List.length_replicate, Nat.min_eq_left (by omega)]
        have : k * s ≤ x.length * s := Nat.mul_le_mul_right s (by omega)
        omega)
      refine ⟨_, e5, (g4.trans g5).set (Nat.le_refl _) _, ?_⟩
      rw [set_get (g5.get h4), btw_take x s k hs.lo hk, List.map_append]
    · rw [lst_of h4, List.take_length]
end
end law_k17

set_option Elab.async false
set_option linter.all false
set_option maxRecDepth 100000
set_option maxHeartbeats 4000000
namespace law_k17
open PySem PySem.Spec PyProof.Rows L2 PI PL
section
variable {st : Sto} {r x p : List Rat} {s : Nat}
/-- a tuple or a list of these fractions -/
def IsR (st : Sto) (v : IV) (r : List Rat) : Prop := v = T r ∨ ∃ n, v = .ref n ∧ lstAt st n = some (r.map q)
theorem IsR.grow {st' : Sto} {v : IV} (g : Gw st st') (h : IsR st v r) : IsR st' v r := by
  rcases h with h | ⟨n, e, h⟩
  · exact .inl h
  · exact .inr ⟨n, e, g.lst h⟩
theorem IsR.len {v : IV} (h : IsR st v r) : Ok (RE.ofO (lenI [v] st)) st (.int r.length) := by
  rcases h with rfl | ⟨n, rfl, h⟩
  · exact ok_lenT
  · exact Ok.eq (ok_lenR h) (by rw [List.length_map])
theorem IsR.idx {v : IV} {m : Nat} (h : IsR st v r) (hm : m < r.length) : Ok (RE.ofO (idxI v (.int m) st)) st (q (co r m)) := by
  rcases h with rfl | ⟨n, rfl, h⟩
  · exact ok_idxT rfl hm
  · exact ok_idxL h (at_nat (T_at hm))
theorem IsR.upto {v : IV} {e b : SemE} {env : IEnv} {k : Nat} (h : IsR st v r) (he : Ok (e env st) st v) (hb : ∀ st1, Gw st st1 → Ok (b env st1) st1 (.int k)) : Ok (rCall tupleI (rCons (rSl e rNoPart (rPart b)) rNil) env st) st (T (r.take k)) := by
  rcases h with rfl | ⟨n, rfl, h⟩
  · refine ok_call (xs := [T (r.take k)]) (ok_cons (Ok.eq (ok_slTo (xs := r.map q) he hb) ?_) fun _ _ => ok_nil) fun _ _ => ok_tupleT
    rw [cut_take, ← List.map_take]; rfl
  · refine tup_L ?_
    obtain ⟨s1, e1, g1⟩ := he
    obtain ⟨s2, e2, g2⟩ := hb s1 g1
    refine ⟨s2.os.length, { os := s2.os ++ [.lst ((r.take k).map q)], low := s2.low }, ?_, (g1.trans g2).trans (.alloc _ _), new_lst _ _ _⟩
    unfold rSl
    rw [e1]
    show ((rPart b env s1).bind fun h st3 => RE.ofO (slcI (.ref n) none h st3)) = _
    have : rPart b env s1 = .ok (some (k : Int)) s2 := by unfold rPart; rw [e2]; rfl
    rw [this]
    show RE.ofO (match lstAt s2 n with
      | some xs => s2.allocO (.lst (cutI xs none (some (k : Int))))
      | none => none) = _
    rw [(g1.trans g2).lst h]
    simp only [cut_take, ← List.map_take]
    rfl
theorem take_snoc {k : Nat} (h : k < r.length) : r.take (k + 1) = r.take k ++ [co r k] := by
  rw [List.take_succ, co_get h]; rfl
abbrev cTr : SemT := (rTAnd (rTBl (rBin cGt (rVar 1) (rC (.int (0))))) (rTBl (rBin cEq (rBin idxI (rVar 0) (rBin subI (rVar 1) (rC (.int (1))))) (rC g_NONE))))
abbrev bTr : SemS := (sAug 1 (augI fun i j => i - j) (rC (.int (1))))
theorem while_tr {v : IV} (h0 : IsR st v r) : ∀ (k fuel : Nat) (st1 : Sto), k < fuel → k ≤ r.length → trimR (r.take k) = trimR r → Gw st st1 → ∃ k' st2, sWhile cTr bTr fuel [some v, some (.int k)] st1 = .nx [some v, some (.int (k' : Nat))] st2 ∧ Gw st1 st2 ∧ r.take k' = trimR r
  | 0, fuel + 1, st1, _, _, ht, g => by
    refine ⟨0, st1, ?_, .refl _, by rw [← ht]; rfl⟩
    unfold sWhile
    rfl
  | k + 1, fuel + 1, st1, hf, hk, ht, g => by
    have hk' : k < r.length := by omega
    have hc : Ok (cTr [some v, some (.int (k + 1 : Nat))] st1) st1 (decide (co r k = 0)) := by
      refine Ok.eq (ok_tand (k := true) (Ok.eq (ok_tbl (ok_bin (x := .int (k + 1 : Nat)) (y := .int 0) (ok_var rfl) (fun _ _ => ok_c) fun _ _ => ok_gt)) (decide_eq_true (by omega))) fun s2 g2 _ => ok_tbl (ok_bin (x := q (co r k)) (y := q 0) (ok_bin (x := v) (y := .int (k : Nat)) (ok_var rfl) (fun _ _ => Ok.eq (ok_bin (x := .int (k + 1 : Nat)) (y := .int 1) (ok_var rfl) (fun _ _ => ok_c) fun _ _ => ok_sub) ?_) fun s3 g3 => (h0.grow ((g.trans g2).trans g3)).idx hk') (fun _ _ => ok_c) fun _ _ => ok_eqq)) (Bool.true_and _)
      congr 1; omega
    obtain ⟨s2, e2, g2⟩ := hc
    by_cases h : co r k = 0
    · rw [decide_eq_true h] at e2
      have hb : bTr [some v, some (.int (k + 1 : Nat))] s2 = .nx [some v, some (.int (k : Nat))] s2 := by
        show RS.nx [some v, some (.int (((k + 1 : Nat) : Int) - 1))] s2 = _
        rw [show ((k + 1 : Nat) : Int) - 1 = (k : Nat) by omega]
      rw [while_go e2 hb]
      obtain ⟨k', s3, e3, g3, h3⟩ := while_tr h0 k fuel s2 (by omega) (by omega) (by rw [← ht, take_snoc hk', h, trim_snoc0]) (g.trans g2)
      exact ⟨k', s3, e3, g2.trans g3, h3⟩
    · rw [decide_eq_false h] at e2
      refine ⟨k + 1, s2, while_stop e2, g2, ?_⟩
      rw [← ht, take_snoc hk', trim_snoc h]
theorem trimmed_ok {v : IV} (h : IsR st v r) (hl : r.length ≤ 100000) : Ok (d_trimmed [v] st) st (T (trimR r)) := by
  unfold d_trimmed r_trimmed
  refine ok_fn (okr_seq (env' := [some v, some (.int r.length)]) (oks_set (ok_call (ok_cons (ok_var rfl) fun _ _ => ok_nil) fun s1 g1 => (h.grow g1).len)) fun s1 g1 => ?_)
  obtain ⟨k', s2, e2, g2, h2⟩ := while_tr h r.length 1000000 s1 (by omega) (Nat.le_refl _) (by rw [List.take_length]) g1
  refine okr_seq (env' := [some v, some (.int (k' : Nat))]) ⟨s2, e2, g2⟩ fun s3 g3 => okr_ret ?_
  rw [← h2]
  exact (h.grow (g1.trans g3)).upto (ok_var rfl) fun _ _ => ok_var rfl
theorem trimmed_L {e : SemE} {env : IEnv} (h : OkL (e env st) st (r.map q)) (hl : r.length ≤ 100000) : Ok (rDef d_trimmed (rCons e rNil) env st) st (T (trimR r)) := by
  obtain ⟨n, s1, e1, g1, h1⟩ := h
  obtain ⟨s2, e2, g2⟩ := trimmed_ok (st := s1) (.inr ⟨n, rfl, h1⟩) hl
  refine ⟨s2, ?_, g1.trans g2⟩
  unfold rDef
  rw [rcons_eq e1 (rfl : rNil env s1 = .ok [] s1)]
  exact e2
/-! the law's own trim -/
theorem eq_Lnil {n m : Nat} (h : lstAt st n = some (r.map q)) (h2 : lstAt st m = some []) : eqI st (.ref n) (.ref m) = some (decide (r = [])) := by
  have e0 : ∀ k xs, lstAt st k = some xs → lstAt ⟨st.os, 0⟩ k = some xs := fun k xs h => h
  have p1 : pd st.os 63 (.ref n) = some (.list (r.map fun a => PyData.tuple [.int a.num, .int a.den])) := by
    show (match lstAt ⟨st.os, 0⟩ n with
      | some xs => match allSome (pd st.os 62) xs with
        | some ds => some (PyData.list ds)
        | none => none
      | none => none) = _
    rw [e0 n _ h]
    simp only [pdall_q st.os 60]
  have p2 : pd st.os 63 (.ref m) = some (.list []) := by
    show (match lstAt ⟨st.os, 0⟩ m with
      | some xs => match allSome (pd st.os 62) xs with
        | some ds => some (PyData.list ds)
        | none => none
      | none => none) = _
    rw [e0 m _ h2]; rfl
  show (match pd st.os 63 (.ref n) with
    | some d => match pd st.os 63 (.ref m) with
      | some e => some (PyData.eqv d e)
      | none => none
    | none => none) = _
  rw [p1, p2]
  cases r with
  | nil => simp [PyData.eqv, PyData.eqvAll]
  | cons x xs => simp [PyData.eqv, PyData.eqvAll]
abbrev cTl : SemT := (rTAnd (rTBl (rBin cNe (rVar 0) (rLst rNil))) (rTBl (rBin cEq (rBin idxI (rVar 0) (rUn negI (rC (.int (1))))) (rTup (rCons (rC (.int (0))) (rCons (rC (.int (1))) rNil))))))
abbrev bTl : SemS := (sAsg (rSl (rVar 0) rNoPart (rPart (rUn negI (rC (.int (1)))))) (gN 0))
theorem cut_last {xs : List IV} {v : IV} : cutI (xs ++ [v]) none (some (-1)) = xs := by
  unfold cutI
  rw [show HT.sIx (xs ++ [v]).length 0 none = 0 from rfl, List.drop_zero, Nat.sub_zero]
  have : HT.sIx (xs ++ [v]).length (xs ++ [v]).length (some (-1)) = xs.length := by
    unfold HT.sIx
    simp
    omega
  rw [this, List.take_left']
  rfl
theorem while_lt : ∀ (k fuel n : Nat) (st1 : Sto), k < fuel → k ≤ r.length → trimR (r.take k) = trimR r → lstAt st1 n = some ((r.take k).map q) → ∃ n' st2, sWhile cTl bTl fuel [some (.ref n)] st1 = .nx [some (.ref n')] st2 ∧ Gw st1 st2 ∧ lstAt st2 n' = some ((trimR r).map q)
  | k, fuel + 1, n, st1, hf, hk, ht, hn => by
    have hn1 : Ok (rBin cNe (rVar 0) (rLst rNil) [some (.ref n)] st1) st1 (.bl (!decide (r.take k = []))) := by
      obtain ⟨m, s2, e2, g2, h2⟩ := ok_lst (env := [some (IV.ref n)]) (st := st1) (ok_nil) (by simp)
      refine ⟨s2, rbin_eq (rfl : rVar 0 [some (IV.ref n)] st1 = .ok (.ref n) st1) e2 ?_, g2⟩
      show blN (eqI s2 _ _) s2 = _
      rw [eq_Lnil (g2.lst hn) h2]; rfl
    by_cases h0 : r.take k = []
    · obtain ⟨s2, e2, g2⟩ := ok_tand (dt := (rTBl (rBin cEq (rBin idxI (rVar 0) (rUn negI (rC (.int (1))))) (rTup (rCons (rC (.int (0))) (rCons (rC (.int (1))) rNil)))))) (l := false) (ok_tbl hn1) fun s2 g2 hh => by rw [decide_eq_true h0] at hh; cases hh
      rw [decide_eq_true h0] at e2
      refine ⟨n, s2, while_stop (c := cTl) e2, g2, ?_⟩
      rw [← ht, h0]
      rw [h0] at hn
      exact g2.lst hn
    · cases k with
      | zero => exact absurd rfl h0
      | succ k =>
        have hk' : k < r.length := by omega
        have hlast : ∀ st2, Gw st1 st2 → Ok (rTBl (rBin cEq (rBin idxI (rVar 0) (rUn negI (rC (.int (1))))) (rTup (rCons (rC (.int (0))) (rCons (rC (.int (1))) rNil)))) [some (.ref n)] st2) st2 (decide (co r k = 0)) := fun st2 g2 => by
          refine ok_tbl (ok_bin (x := q (co r k)) (y := q 0) (ok_bin (x := .ref n) (y := .int (-1)) (ok_var rfl) (fun _ _ => ok_un ok_c fun _ _ => ok_neg) fun s3 g3 => ok_idxL ((g2.trans g3).lst hn) (atI_last ?_)) (fun _ _ => ok_tup (ok_cons ok_c fun _ _ => ok_cons ok_c fun _ _ => ok_nil) (by simp)) fun _ _ => ok_eqq)
          have hlen : (r.take (k + 1)).length = k + 1 := by rw [List.length_take]; omega
          rw [List.length_map, hlen, Nat.add_sub_cancel, List.getElem?_map, List.getElem?_take, if_pos (by omega), co_get hk']; rfl
        obtain ⟨s2, e2, g2⟩ := ok_tand (ok_tbl hn1) fun s2 g2 _ => hlast s2 g2
        rw [decide_eq_false h0] at e2
        by_cases h : co r k = 0
        · rw [decide_eq_true h] at e2
          have hb : bTl [some (.ref n)] s2 = .nx [some (.ref s2.os.length)] { os := s2.os ++ [.lst ((r.take k).map q)], low := s2.low } := by
            have e3 : rSl (rVar 0) rNoPart (rPart (rUn negI (rC (.int (1))))) [some (.ref n)] s2 = RE.ofO (slcI (.ref n) none (some (-1)) s2) := rfl
            show sAsg _ _ _ _ = _
            unfold sAsg
            rw [e3]
            show RS.ofE (RE.ofO (match lstAt s2 n with
              | some xs => s2.allocO (.lst (cutI xs none (some (-1))))
              | none => none)) _ _ = _
            rw [g2.lst hn, take_snoc hk', List.map_append]
            simp only [List.map_cons, List.map_nil, cut_last]
            rfl
          rw [while_go (c := cTl) e2 hb]
          obtain ⟨n', s3, e3, g3, h3⟩ := while_lt k fuel s2.os.length { os := s2.os ++ [.lst ((r.take k).map q)], low := s2.low } (by omega) (by omega) (by rw [← ht, take_snoc hk', h, trim_snoc0]) (new_lst _ _ _)
          exact ⟨n', s3, e3, (g2.trans (.alloc _ _)).trans g3, h3⟩
        · rw [decide_eq_false h] at e2
          refine ⟨n, s2, while_stop (c := cTl) e2, g2, ?_⟩
          rw [← ht, take_snoc hk', trim_snoc h, ← take_snoc hk']
          exact g2.lst hn
theorem ltrim_ok {v : IV} (h : seqOf st v = some (r.map q)) (hl : r.length ≤ 100000) : Ok (d__law_trim [v] st) st (T (trimR r)) := by
  unfold d__law_trim r__law_trim
  have e0 : sAsg (rCall listI (rCons (rVar 0) rNil)) (gN 0) (startI 1 [v]) st = .nx [some (.ref st.os.length)] { os := st.os ++ [.lst (r.map q)], low := st.low } := by
    have : rCall listI (rCons (rVar 0) rNil) (startI 1 [v]) st = .ok (.ref st.os.length) { os := st.os ++ [.lst (r.map q)], low := st.low } := by
      show RE.ofO (match seqOf st v with
        | some xs => st.allocO (.lst xs)
        | none => none) = _
      rw [h]; rfl
    exact setL_eq this
  obtain ⟨n', s2, e2, g2, h2⟩ := while_lt (r := r) r.length 1000000 st.os.length { os := st.os ++ [.lst (r.map q)], low := st.low } (by omega) (Nat.le_refl _) (by rw [List.take_length]) (by rw [List.take_length]; exact new_lst _ _ _)
  refine ok_fn ?_
  have : OkR (sRet (rCall tupleI (rCons (rVar 0) rNil)) [some (.ref n')] s2) s2 (T (trimR r)) := okr_ret (tup_L ⟨n', s2, rfl, .refl _, h2⟩)
  obtain ⟨s3, e3, g3⟩ := this
  refine ⟨s3, ?_, ((Gw.alloc st _).trans g2).trans g3⟩
  rw [seq_nx e0]
  show sSeq (sWhileF _ cTl bTl) _ _ _ = _
  rw [seq_nx (show sWhileF (fun _ _ => 1000000) cTl bTl _ _ = _ from e2)]
  exact e3
theorem ltrim_L {e : SemE} {env : IEnv} (h : OkL (e env st) st (r.map q)) (hl : r.length ≤ 100000) : Ok (rDef d__law_trim (rCons e rNil) env st) st (T (trimR r)) := by
  obtain ⟨n, s1, e1, g1, h1⟩ := h
  obtain ⟨s2, e2, g2⟩ := ltrim_ok (st := s1) (v := .ref n) h1 hl
  refine ⟨s2, ?_, g1.trans g2⟩
  unfold rDef
  rw [rcons_eq e1 (rfl : rNil env s1 = .ok [] s1)]
  exact e2
/-! sums of small numbers -/
def Vs (e N : Nat) (xs : List Rat) : Prop := ∀ i, Dy e N (co xs i)
theorem Vs.bn {e N : Nat} {xs : List Rat} (h : Vs e N xs) (he : e ≤ 80) (hN : N ≤ 10 ^ 25) : ∀ a ∈ xs, Bn a := fun a ha => by
  obtain ⟨i, _, rfl⟩ := co_mem ha
  exact (h i).bn he hN
theorem S_dy {e N : Nat} {f : Nat → Rat} (h : ∀ i, Dy e N (f i)) : ∀ n, Dy e (N * n) (S n f)
  | 0 => Dy.zero _ _
  | n + 1 => by
    rw [S_succ, Nat.mul_succ]
    exact (S_dy h n).add (h n)
theorem cv_dy {e N e' N' : Nat} (h : Vs e N p) (h' : Vs e' N' x) (n : Nat) : Dy (e + e') (N * N' * (n + 1)) (cv (co p) (co x) n) := S_dy (f := fun k => co p k * co x (n - k)) (fun i => (h i).mul (h' (n - i))) (n + 1)
end
end law_k17

set_option Elab.async false
set_option linter.all false
set_option maxRecDepth 100000
set_option maxHeartbeats 4000000
namespace law_k17
open PySem PySem.Spec PyProof.Rows L2 PI PL
section
variable {st : Sto} {r x p o : List Rat} {s : Nat} {e1 N1 e2 N2 : Nat}
/-- numbers so small that all sums stay below the line -/
structure Small (e1 N1 e2 N2 : Nat) : Prop where
  e : e1 + e2 ≤ 80
  N : N1 * N2 * 400 ≤ 10 ^ 25
  a : N1 ≤ 10 ^ 25
  b : N2 ≤ 10 ^ 25
theorem Small.sum (h : Small e1 N1 e2 N2) {f : Nat → Rat} (hf : ∀ i, Dy (e1 + e2) (N1 * N2) (f i)) {n : Nat} (hn : n ≤ 400) : Bn (S n f) :=
  (S_dy hf n).bn h.e (Nat.le_trans (Nat.mul_le_mul_left _ hn) h.N)
theorem Small.mul (h : Small e1 N1 e2 N2) {f : Rat} (hf : Dy (e1 + e2) (N1 * N2) f) : Bn f := hf.bn h.e (by have := h.N; omega)
theorem cv_cut {n : Nat} (p x : List Rat) : S (min (n + 1) p.length) (fun k => co p k * co x (n - k)) = cv (co p) (co x) n := by
  unfold cv
  refine S_ext (fun _ _ _ => rfl) (fun i hi hm => by omega) fun i hi hm => ?_
  rw [co_out (xs := p) (by omega)]; grind
/-- what is left in the slot of a loop's name -/
def lft (l : Nat) : Nat → Option IV
  | 0 => none
  | k + 1 => if min (k + 1) l = 0 then lft l k else some (.int (min (k + 1) l - 1 : Nat))
theorem filtered_ok (hp : PolyOk p) (hx : RowOk x) (vp : Vs e1 N1 p) (vx : Vs e2 N2 x) (sm : Small e1 N1 e2 N2) : Ok (d_filtered [T p, T x] st) st (T (fil p x)) := by
  have h1 := hp.len; have h2 := hx.len
  unfold d_filtered r_filtered
  refine ok_fn (okr_seq (s_filter rfl hp) fun s1 g1 => okr_seq (s_row rfl hx) fun s2 g2 => ?_)
  refine okr_build (f := fun i => .int (i : Nat)) (fun k => [some (T p), some (T x), some (.ref s2.os.length), if k = 0 then none else some (.int (k - 1 : Nat)), if k = 0 then none else some (q (cv (co p) (co x) (k - 1))), lft p.length k]) (fun k => (tab k (cv (co p) (co x))).map q) rfl rfl (fun s4 _ => walks_rng1 (lenVar rfl) (by omega)) (fun k hk s4 g4 h4 => ?_) fun s4 g4 h4 => okr_ret (tup_L ⟨s2.os.length, s4, rfl, .refl _, lst_of h4⟩)
  have hd : ∀ i, Dy (e1 + e2) (N1 * N2) (co p i * co x (k - i)) := fun i => (vp i).mul (vx (k - i))
  refine ⟨[some (T p), some (T x), some (.ref s2.os.length), some (.int (k : Nat)), if k = 0 then none else some (q (cv (co p) (co x) (k - 1))), lft p.length k], rfl, ?_⟩
  have hfor : OkS (sFor (fRng1 (rCons (rCall minI (rCons (rLst (rCons (rBin addI (rVar 3) (rC (.int (1)))) (rCons (rCall lenI (rCons (rVar 0) rNil)) rNil))) rNil)) rNil)) (gN 5) (sAsg (rDef d_plus (rCons (rVar 4) (rCons (rDef d_times (rCons (rBin idxI (rVar 0) (rVar 5)) (rCons (rBin idxI (rVar 1) (rBin subI (rVar 3) (rVar 5))) rNil))) rNil))) (gN 4)) [some (T p), some (T x), some (.ref s2.os.length), some (.int (k : Nat)), some (q 0), lft p.length k] s4) s4 [some (T p), some (T x), some (.ref s2.os.length), some (.int (k : Nat)), some (q (cv (co p) (co x) k)), lft p.length (k + 1)] := by
    have := for_E (it := fRng1 (rCons (rCall minI (rCons (rLst (rCons (rBin addI (rVar 3) (rC (.int (1)))) (rCons (rCall lenI (rCons (rVar 0) rNil)) rNil))) rNil)) rNil)) (st := s4) (m := min (k + 1) p.length) (f := fun i => .int (i : Nat)) (g := gN 5) (b := (sAsg (rDef d_plus (rCons (rVar 4) (rCons (rDef d_times (rCons (rBin idxI (rVar 0) (rVar 5)) (rCons (rBin idxI (rVar 1) (rBin subI (rVar 3) (rVar 5))) rNil))) rNil))) (gN 4))) (fun j => [some (T p), some (T x), some (.ref s2.os.length), some (.int (k : Nat)), some (q (S j fun i => co p i * co x (k - i))), if j = 0 then lft p.length k else some (.int (j - 1 : Nat))]) (walks_rng1 (Ok.eq (min2_L (i := k + 1) (j := p.length) (ok_bin (x := .int (k : Nat)) (y := .int 1) (ok_var rfl) (fun _ _ => ok_c) fun _ _ => ok_add) fun _ _ => lenVar rfl) (by congr 1; omega)) (by omega)) fun j hj s5 g5 => ⟨_, rfl, oks_set (ok_def (xs := [q (S j fun i => co p i * co x (k - i)), q (co p j * co x (k - j))]) (ok_cons (ok_var rfl) fun _ _ => ok_cons (ok_def (xs := [q (co p j), q (co x (k - j))]) (ok_cons (ok_bin (x := T p) (y := .int (j : Nat)) (ok_var rfl) (fun _ _ => ok_var rfl) fun _ _ => ok_idxT rfl (by omega)) fun _ _ => ok_cons (ok_bin (x := T x) (y := .int ((k : Int) - (j : Int))) (ok_var rfl) (fun _ _ => ok_bin (x := .int (k : Nat)) (y := .int (j : Nat)) (ok_var rfl) (fun _ _ => ok_var rfl) fun _ _ => ok_sub) fun _ _ => ok_idxT (m := k - j) (by omega) (by omega)) fun _ _ => ok_nil) fun s6 _ => ok_times ((vp j).bn (by have := sm.e; omega) sm.a) ((vx (k - j)).bn (by have := sm.e; omega) sm.b)) fun _ _ => ok_nil) fun s6 _ => ok_plus (sm.sum hd (by omega)) (sm.mul (hd j)))⟩
    rw [cv_cut] at this
    exact this
  have e5 : sAsg (rC g_NONE) (gN 4) [some (T p), some (T x), some (.ref s2.os.length), some (.int (k : Nat)), if k = 0 then none else some (q (cv (co p) (co x) (k - 1))), lft p.length k] s4 = .nx [some (T p), some (T x), some (.ref s2.os.length), some (.int (k : Nat)), some (q 0), lft p.length k] s4 := rfl
  obtain ⟨s6, e6, g6⟩ := hfor
  obtain ⟨s7, e7, g7⟩ := oks_app (env := [some (T p), some (T x), some (.ref s2.os.length), some (.int (k : Nat)), some (q (cv (co p) (co x) k)), lft p.length (k + 1)]) (i := 2) (a := rVar 4) (v := q (cv (co p) (co x) k)) rfl (g6.get h4) (ok_var rfl) (by rw [List.length_map, tab_len]; omega)
  refine ⟨{ os := s7.os.set s2.os.length (.lst ((tab k (cv (co p) (co x))).map q ++ [q (cv (co p) (co x) k)])), low := s7.low }, ?_, ((g4.trans g6).trans g7).set (Nat.le_refl _) _, ?_⟩
  · rw [seq_nx e5, seq_nx e6]; exact e7
  · rw [set_get ((g6.trans g7).get h4), tab_succ, List.map_append]; rfl
end
end law_k17

set_option Elab.async false
set_option linter.all false
set_option maxRecDepth 100000
set_option maxHeartbeats 4000000
namespace law_k17
open PySem PySem.Spec PyProof.Rows L2 PI PL
section
variable {st : Sto} {r x p o : List Rat} {s : Nat} {e1 N1 e2 N2 e N : Nat}
theorem Vs.evr (h : Vs e N x) (hs : 0 < s) : Vs e N (evr s x) := fun i => by rw [co_evr hs]; exact h _
theorem Vs.btw (h : Vs e N x) (hs : 0 < s) : Vs e N (btw s x) := fun i => by
  rw [co_btw hs]; unfold btwF
  split
  · exact h _
  · exact Dy.zero _ _
theorem Vs.trim (h : Vs e N x) : Vs e N (trimR x) := fun i => by rw [co_trim]; exact h i
theorem Vs.drop (h : Vs e N x) (b : Nat) : Vs e N (x.drop b) := fun i => by rw [co_drop]; exact h _
theorem Vs.spr (h : Vs e N p) (hs : 0 < s) : Vs e N (spr s p) := (h.btw hs).trim
theorem Vs.phase (h : Vs e N p) (hs : 0 < s) (b : Nat) : Vs e N (phase s p b) := ((h.drop b).evr hs).trim
theorem Vs.prod (h : Vs e1 N1 p) (h' : Vs e2 N2 o) {n : Nat} (hn : p.length ≤ n + 1) : Vs (e1 + e2) (N1 * N2 * (n + 1)) (prod p o) := fun i => by
  rw [co_prod]
  by_cases hi : i ≤ n
  · exact (cv_dy h h' i).mono (Nat.mul_le_mul_left _ (by omega))
  · unfold cv
    rw [S_ext (m := n + 1) (g := fun k => co p k * co o (i - k)) (fun _ _ _ => rfl) (fun k _ hk => by rw [co_out (xs := p) (by omega)]; grind) fun k hk hk2 => by omega]
    exact S_dy (f := fun k => co p k * co o (i - k)) (fun k => (h k).mul (h' (i - k))) (n + 1)
theorem Vs.fil (h : Vs e1 N1 p) (h' : Vs e2 N2 x) {n : Nat} (hn : p.length ≤ n + 1) : Vs (e1 + e2) (N1 * N2 * (n + 1)) (fil p x) := fun i => by
  by_cases hi : i < x.length
  · rw [co_fil hi]
    by_cases hi2 : i ≤ n
    · exact (cv_dy h h' i).mono (Nat.mul_le_mul_left _ (by omega))
    · unfold cv
      rw [S_ext (m := n + 1) (g := fun k => co p k * co x (i - k)) (fun _ _ _ => rfl) (fun k _ hk => by rw [co_out (xs := p) (by omega)]; grind) fun k hk hk2 => by omega]
      exact S_dy (f := fun k => co p k * co x (i - k)) (fun k => (h k).mul (h' (i - k))) (n + 1)
  · rw [co_out (by rw [fil_len]; omega)]
    exact Dy.zero _ _
theorem row_of (h : Vs e N x) (he : e ≤ 80) (hN : N ≤ 10 ^ 25) (hl : x.length ≤ 300) : RowOk x := ⟨hl, h.bn he hN⟩
theorem poly_of (h : Vs e N p) (he : e ≤ 80) (hN : N ≤ 10 ^ 25) (hl : p.length ≤ 60) (ht : Trim p) : PolyOk p := ⟨hl, h.bn he hN, ht⟩
theorem vs_ones (s : Nat) : Vs 2 8 (ones s) := fun i => by
  unfold ones co
  rw [List.getElem?_replicate]
  split
  · exact Dy.one
  · exact Dy.zero _ _
theorem trim_ones (s : Nat) : Trim (ones s) := by
  cases s with
  | zero => exact .inl rfl
  | succ s =>
    right
    unfold ones co
    rw [List.length_replicate, List.getElem?_replicate, if_pos (by omega)]
    decide
theorem held_ok (hx : RowOk x) (vx : Vs e N x) (hs : StepOk s) (hl : x.length * s ≤ 300) (sm : Small 2 8 e N) : Ok (d_held [T x, .int s] st) st (T (hld s x)) := by
  have h2 := hs.lo; have h3 := hs.hi
  unfold d_held r_held
  refine ok_fn (okr_seq (oks_set (ok_def (xs := [T x, .int s]) (ok_cons (ok_var rfl) fun _ _ => ok_cons (ok_var rfl) fun _ _ => ok_nil) fun _ _ => between_ok hx hs hl)) fun s1 g1 => okr_ret (ok_def (xs := [T (ones s), T (btw s x)]) (ok_cons (Ok.eq (ok_mulTup (v := q 1) (k := s) (ok_tup (ok_cons (ok_tup (ok_cons ok_c fun _ _ => ok_cons ok_c fun _ _ => ok_nil) (by simp)) fun _ _ => ok_nil) (by simp)) (fun _ _ => ok_var rfl) (by omega)) ?_) fun _ _ => ok_cons (ok_var rfl) fun _ _ => ok_nil) fun s2 _ => ?_))
  · unfold T ones; rw [List.map_replicate]
  · rw [← fil_ones h2]
    exact filtered_ok (poly_of (vs_ones s) (by decide) (by decide) (by unfold ones; rw [List.length_replicate]; omega) (trim_ones s)) (row_of (vx.btw h2) (by have := sm.e; omega) sm.b (by rw [btw_len]; exact hl)) (vs_ones s) (vx.btw h2) sm
/-! the law's own sums -/
theorem total_ok {n : Nat} (hn : lstAt st n = some (r.map q)) (hb : ∀ k, k ≤ r.length → Bn (S k (co r))) (hv : ∀ k, k < r.length → Bn (co r k)) : Ok (d__law_total [.ref n] st) st (q (S r.length (co r))) := by
  unfold d__law_total r__law_total
  have hz : ∀ st, Ok (rTup (rCons (rC (.int 0)) (rCons (rC (.int 1)) rNil)) (startI 3 [.ref n]) st) st (q 0) := fun st => ok_tup (ok_cons ok_c fun _ _ => ok_cons ok_c fun _ _ => ok_nil) (by simp)
  refine ok_fn (okr_seq (env' := [some (.ref n), some (q 0), none]) (oks_set (hz st)) fun s1 g1 => okr_seq (env' := [some (.ref n), some (q (S r.length (co r))), if r.length = 0 then none else some (q (co r (r.length - 1)))]) ?_ fun s2 g2 => okr_ret (ok_var rfl))
  have := for_L (g := gN 2) (b := sAsg (rDef d__law_plus (rCons (rVar 1) (rCons (rVar 2) rNil))) (gN 1)) (a := rVar 0) (n := n) (xs := r.map q) (st := s1) (fun k => [some (.ref n), some (q (S k (co r))), if k = 0 then none else some (q (co r (k - 1)))]) rfl (g1.lst hn) fun k hk s2 g2 => by
    rw [List.length_map] at hk
    refine ⟨[some (.ref n), some (q (S k (co r))), some (q (co r k))], ?_, oks_set (ok_def (xs := [q (S k (co r)), q (co r k)]) (ok_cons (ok_var rfl) fun _ _ => ok_cons (ok_var rfl) fun _ _ => ok_nil) fun _ _ => ok_lplus (hb k (by omega)) (hv k hk))⟩
    rw [T_at hk]; rfl
  rw [List.length_map] at this
  exact this
theorem total_L {e : SemE} {env : IEnv} (h : OkL (e env st) st (r.map q)) (hb : ∀ k, k ≤ r.length → Bn (S k (co r))) (hv : ∀ k, k < r.length → Bn (co r k)) : Ok (rDef d__law_total (rCons e rNil) env st) st (q (S r.length (co r))) := by
  obtain ⟨n, s1, e1, g1, h1⟩ := h
  obtain ⟨s2, e2, g2⟩ := total_ok (st := s1) h1 hb hv
  refine ⟨s2, ?_, g1.trans g2⟩
  unfold rDef
  rw [rcons_eq e1 (rfl : rNil env s1 = .ok [] s1)]
  exact e2
theorem S_tab {n m : Nat} {f : Nat → Rat} (h : n ≤ m) : S n (co (tab m f)) = S n f := S_congr fun i hi => by rw [co_tab, if_pos (by omega)]
theorem lfiltered_ok (hp : p.length ≤ 60) (hx : x.length ≤ 300) (vp : Vs e1 N1 p) (vx : Vs e2 N2 x) (sm : Small e1 N1 e2 N2) : Ok (d__law_filtered [T p, T x] st) st (T (fil p x)) := by
  unfold d__law_filtered r__law_filtered
  refine ok_fn (okr_ret (tup_L (lc_rngR (m := x.length) (g := cv (co p) (co x)) (fun k => [some (T p), some (T x), some (.int (k : Nat)), none]) (lenVar rfl) (by omega) (fun _ _ => rfl) fun k hk s1 g1 => ?_)))
  have hd : ∀ i, Dy (e1 + e2) (N1 * N2) (co p i * co x (k - i)) := fun i => (vp i).mul (vx (k - i))
  refine Ok.eq (total_L (r := tab (min (k + 1) p.length) fun j => co p j * co x (k - j)) (lc_rngR (m := min (k + 1) p.length) (fun j => [some (T p), some (T x), some (.int (k : Nat)), some (.int (j : Nat))]) (fun j => co p j * co x (k - j)) (Ok.eq (min2_L (i := k + 1) (j := p.length) (ok_bin (x := .int (k : Nat)) (y := .int 1) (ok_var rfl) (fun _ _ => ok_c) fun _ _ => ok_add) fun _ _ => lenVar rfl) (by congr 1; omega)) (by omega) (fun _ _ => rfl) fun j hj s2 g2 => ok_def (xs := [q (co p j), q (co x (k - j))]) (ok_cons (ok_bin (x := T p) (y := .int (j : Nat)) (ok_var rfl) (fun _ _ => ok_var rfl) fun _ _ => ok_idxT rfl (by omega)) fun _ _ => ok_cons (ok_bin (x := T x) (y := .int ((k : Int) - (j : Int))) (ok_var rfl) (fun _ _ => ok_bin (x := .int (k : Nat)) (y := .int (j : Nat)) (ok_var rfl) (fun _ _ => ok_var rfl) fun _ _ => ok_sub) fun _ _ => ok_idxT (m := k - j) (by omega) (by omega)) fun _ _ => ok_nil) fun s6 _ => ok_ltimes ((vp j).bn (by have := sm.e; omega) sm.a) ((vx (k - j)).bn (by have := sm.e; omega) sm.b)) (fun j hj => ?_) fun j hj => ?_) ?_
  · rw [tab_len] at hj
    rw [S_tab hj]
    exact sm.sum hd (by omega)
  · rw [tab_len] at hj
    rw [co_tab, if_pos hj]
    exact sm.mul (hd j)
  · rw [tab_len, S_tab (Nat.le_refl _), cv_cut]
/-! phases -/
theorem phases_ok (hp : PolyOk p) (hs : StepOk s) : Ok (d_phases_of [T p, .int s] st) st (TT (phases s p)) := by
  have h1 := hp.len; have h2 := hs.lo; have h3 := hs.hi
  unfold d_phases_of r_phases_of
  refine ok_fn (okr_seq (s_filter rfl hp) fun s1 g1 => okr_seq (s_step rfl hs) fun s2 g2 => okr_ret (Ok.eq (tup_L (lc_rng (m := s) (fun b => [some (T p), some (.int s), some (.int (b : Nat))]) (fun b => T (phase s p b)) (ok_var rfl) (by omega) (fun _ _ => rfl) fun b hb s3 g3 => ok_def (xs := [T (evr s (p.drop b))]) (ok_cons (ok_sl3f h2 (ok_var rfl) (fun _ _ => ok_var rfl) fun _ _ => ok_var rfl) fun _ _ => ok_nil) fun _ _ => trimmed_ok (.inl rfl) ?_)) ?_))
  · rw [evr_len, List.length_drop]
    have := Nat.div_le_self (p.length - b + s - 1) s
    omega
  · unfold PL.TT phases; rw [List.map_map]; rfl
theorem spread_fits (hs : StepOk s) (h : ((p.length : Int) - 1) * s + 1 ≤ 60) (hp : 0 < p.length) : (p.length - 1) * s + 1 ≤ 60 := by
  obtain ⟨m, hm⟩ := Nat.exists_eq_succ_of_ne_zero (Nat.ne_of_gt hp)
  rw [hm] at h ⊢
  have e : ((m.succ : Nat) : Int) - 1 = (m : Int) := by omega
  rw [e, ← Int.natCast_mul] at h
  simp only [Nat.succ_eq_add_one, Nat.add_sub_cancel]
  omega
theorem spread_ok (hp : PolyOk p) (hs : StepOk s) (h : ((p.length : Int) - 1) * s + 1 ≤ 60) : Ok (d_spread_filter [T p, .int s] st) st (T (spr s p)) := by
  have h1 := hp.len; have h2 := hs.lo; have h3 := hs.hi
  unfold d_spread_filter r_spread_filter
  refine ok_fn (okr_seq (s_filter rfl hp) fun s1 g1 => okr_seq (s_step rfl hs) fun s2 g2 => okr_seq (oks_chk (Ok.eq (ok_tbl (ok_bin (x := .int (((p.length : Int) - 1) * s + 1)) (y := .int 60) (ok_bin (x := .int (((p.length : Int) - 1) * s)) (y := .int 1) (ok_bin (x := .int ((p.length : Int) - 1)) (y := .int s) (ok_bin (x := .int p.length) (y := .int 1) (lenVar rfl) (fun _ _ => ok_c) fun _ _ => ok_sub) (fun _ _ => ok_var rfl) fun _ _ => ok_mul (sm_of (by omega)) (sm_of (by omega))) (fun _ _ => ok_c) fun _ _ => ok_add) (fun _ _ => ok_c) fun _ _ => ok_gt)) (decide_eq_false (by omega)))) fun s3 g3 => ?_)
  refine okr_build (f := fun i => .tup [.int (i : Nat), q (co p i)]) (fun k => [some (T p), some (.int s), some (.ref s3.os.length), if k = 0 then none else some (.int (k - 1 : Nat)), if k = 0 then none else some (q (co p (k - 1)))]) (fun k => (if k = p.length ∧ 0 < k then btw s (p.take (k - 1)) ++ [co p (k - 1)] else btw s (p.take k)).map q) rfl (by simp [btw, tab]) (fun s4 _ => walks_enumT (ok_var rfl)) (fun k hk s4 g4 h4 => ?_) fun s4 g4 h4 => okr_ret ?_
  · rw [if_neg (by omega)] at h4
    refine ⟨[some (T p), some (.int s), some (.ref s3.os.length), some (.int (k : Nat)), some (q (co p k))], rfl, ?_⟩
    have hle : (btw s (p.take k)).length ≤ 60 * 12 := by
      rw [btw_len, List.length_take, Nat.min_eq_left (by omega)]
      exact Nat.mul_le_mul (by omega) h3
    have hc : ∀ s5, Ok ((rTBl (rBin cEq (rVar 3) (rBin subI (rCall lenI (rCons (rVar 0) rNil)) (rC (.int (1)))))) [some (T p), some (.int s), some (.ref s3.os.length), some (.int (k : Nat)), some (q (co p k))] s5) s5 (decide (k + 1 = p.length)) := fun s5 => by
      refine Ok.eq (ok_tbl (ok_bin (x := .int (k : Nat)) (y := .int ((p.length : Int) - 1)) (ok_var rfl) (fun _ _ => ok_bin (x := .int p.length) (y := .int 1) (lenVar rfl) (fun _ _ => ok_c) fun _ _ => ok_sub) fun _ _ => ok_eqi)) ?_
      congr 1
      exact propext ⟨fun h => by omega, fun h => by omega⟩
    by_cases hl : k + 1 = p.length
    · have ha : OkN ((rIfE (rTBl (rBin cEq (rVar 3) (rBin subI (rCall lenI (rCons (rVar 0) rNil)) (rC (.int (1)))))) (rLst (rCons (rVar 4) rNil)) (rLst (rCons (rVar 4) (rStar (rBin mulT (rLst (rCons (rC g_NONE) rNil)) (rBin subI (rVar 1) (rC (.int (1))))) rNil)))) [some (T p), some (.int s), some (.ref s3.os.length), some (.int (k : Nat)), some (q (co p k))] s4) s4 [q (co p k)] :=
        okn_ifT (Ok.eq (hc s4) (decide_eq_true hl)) fun s5 _ => okn_lst (ok_cons (ok_var rfl) fun _ _ => ok_nil) (by simp)
      obtain ⟨s5, e5, g5⟩ := oks_ext (env := [some (T p), some (.int s), some (.ref s3.os.length), some (.int (k : Nat)), some (q (co p k))]) (i := 2) rfl h4 ha (by rw [List.length_map, List.length_singleton]; omega)
      refine ⟨_, e5, (g4.trans g5).set (Nat.le_refl _) _, ?_⟩
      rw [set_get (g5.get h4), if_pos ⟨hl, by omega⟩, Nat.add_sub_cancel, List.map_append]; rfl
    · have ha : OkN ((rIfE (rTBl (rBin cEq (rVar 3) (rBin subI (rCall lenI (rCons (rVar 0) rNil)) (rC (.int (1)))))) (rLst (rCons (rVar 4) rNil)) (rLst (rCons (rVar 4) (rStar (rBin mulT (rLst (rCons (rC g_NONE) rNil)) (rBin subI (rVar 1) (rC (.int (1))))) rNil)))) [some (T p), some (.int s), some (.ref s3.os.length), some (.int (k : Nat)), some (q (co p k))] s4) s4 ((co p k :: List.replicate (s - 1) 0).map q) :=
        okn_ifF (Ok.eq (hc s4) (decide_eq_false hl)) fun s5 _ => one_more (n := 0) (i := 4) (j := 1) rfl rfl hs
      obtain ⟨s5, e5, g5⟩ := oks_ext (env := [some (T p), some (.int s), some (.ref s3.os.length), some (.int (k : Nat)), some (q (co p k))]) (i := 2) rfl h4 ha (by rw [List.length_map, List.length_map, List.length_cons, List.length_replicate]; omega)
      refine ⟨_, e5, (g4.trans g5).set (Nat.le_refl _) _, ?_⟩
      rw [set_get (g5.get h4), if_neg (by omega), btw_take p s k h2 hk, List.map_append]
  · have hle : (btw s (p.take p.length)).length ≤ 60 * 12 := by
      rw [btw_len, List.length_take, Nat.min_self]
      exact Nat.mul_le_mul (by omega) h3
    have hle2 : (btw s (p.take (p.length - 1))).length ≤ 60 * 12 := by
      rw [btw_len, List.length_take]
      exact Nat.mul_le_mul (by omega) h3
    refine Ok.eq (trimmed_L ⟨s3.os.length, s4, rfl, .refl _, lst_of h4⟩ ?_) ?_
    · split
      · rw [List.length_append, List.length_singleton]; omega
      · omega
    · congr 1
      unfold spr
      refine trim_ext (trim_trim _) (trim_trim _) fun a => ?_
      rw [co_trim, co_trim]
      split
      · rename_i hpos
        have e := btw_take p s (p.length - 1) h2 (by omega)
        rw [Nat.sub_add_cancel (by omega), List.take_length] at e
        rw [e, co_app, co_app]
        split
        · rfl
        · rename_i hn
          cases a - (btw s (p.take (p.length - 1))).length with
          | zero => rfl
          | succ b => exact (co_rep _ b).symm
      · rw [List.take_length]
theorem first_ok (hp : PolyOk p) (hs : StepOk s) (h : ((p.length : Int) - 1) * s + 1 ≤ 60) : Ok (d_can_go_first [T p, .int s] st) st (T (spr s p)) := by
  have h1 := hp.len; have h2 := hs.lo; have h3 := hs.hi
  unfold d_can_go_first r_can_go_first
  refine ok_fn (okr_seq (s_filter rfl hp) fun s1 g1 => okr_seq (s_step rfl hs) fun s2 g2 => okr_ret (ok_ifT (Ok.eq (ok_tbl (ok_bin (x := .int (((p.length : Int) - 1) * s + 1)) (y := .int 60) (ok_bin (x := .int (((p.length : Int) - 1) * s)) (y := .int 1) (ok_bin (x := .int ((p.length : Int) - 1)) (y := .int s) (ok_bin (x := .int p.length) (y := .int 1) (lenVar rfl) (fun _ _ => ok_c) fun _ _ => ok_sub) (fun _ _ => ok_var rfl) fun _ _ => ok_mul (sm_of (by omega)) (sm_of (by omega))) (fun _ _ => ok_c) fun _ _ => ok_add) (fun _ _ => ok_c) fun _ _ => ok_le)) (decide_eq_true h)) fun s3 g3 => ok_def (xs := [T p, .int s]) (ok_cons (ok_var rfl) fun _ _ => ok_cons (ok_var rfl) fun _ _ => ok_nil) fun _ _ => spread_ok hp hs h))
end
end law_k17

set_option Elab.async false
set_option linter.all false
set_option maxRecDepth 100000
set_option maxHeartbeats 4000000
namespace law_k17
open PySem PySem.Spec PyProof.Rows L2 PI PL
section
variable {st : Sto} {r x p o : List Rat} {s : Nat} {e1 N1 e2 N2 e N : Nat} {ps : List (List Rat)}
theorem ok_slFrom {a b : SemE} {env : IEnv} {xs : List IV} {m : Nat} (h : Ok (a env st) st (.tup xs)) (h1 : ∀ st1, Gw st st1 → Ok (b env st1) st1 (.int m)) : Ok (rSl a (rPart b) rNoPart env st) st (.tup (xs.drop m)) := by
  rw [← cut_from]
  exact h.bind fun s1 g1 => (ok_part (h1 s1 g1)).bind fun s3 g3 => (Ok.same (v := none) (m := rNoPart env s3) rfl).bind fun s5 g5 => ok_ofO rfl
/-- no weights but at each s -/
def bare (s : Nat) (p : List Rat) : Bool := ((phases s p).drop 1).all fun r => decide (r = [])
theorem bare_iff (hs : 0 < s) : bare s p = true ↔ Sparse s p := by
  unfold bare
  rw [List.all_eq_true]
  constructor
  · intro h
    refine phase_sparse hs fun b h0 hb => ?_
    refine of_decide_eq_true (h _ ?_)
    refine List.mem_of_getElem? (i := b - 1) ?_
    rw [List.getElem?_drop, show 1 + (b - 1) = b by omega, phases_get p hb]
  · intro h r hr
    obtain ⟨b, hb, e⟩ := List.getElem_of_mem hr
    rw [List.length_drop, phases_len] at hb
    have e2 : ((phases s p).drop 1)[b]? = some r := by rw [List.getElem?_eq_getElem (by rw [List.length_drop, phases_len]; exact hb), e]
    rw [List.getElem?_drop, phases_get p (by omega)] at e2
    cases e2
    exact decide_eq_true (sparse_phase hs h (by omega) (by omega))
theorem behind_ok (hp : PolyOk p) (hs : StepOk s) : Ok (d_can_go_behind [T p, .int s] st) st (if bare s p = true then T (phase s p 0) else .non) := by
  have h1 := hp.len; have h2 := hs.lo; have h3 := hs.hi
  unfold d_can_go_behind r_can_go_behind
  refine ok_fn (okr_seq (oks_set (ok_def (xs := [T p, .int s]) (ok_cons (ok_var rfl) fun _ _ => ok_cons (ok_var rfl) fun _ _ => ok_nil) fun _ _ => phases_ok hp hs)) fun s1 g1 => okr_ret ?_)
  have hc : Ok (rTru (rCall allI (rCons (rLc (fSeq (rSl (rVar 2) (rPart (rC (.int (1)))) rNoPart)) (.one 3) [3] rYes (rBin cEq (rVar 3) (rTup rNil))) rNil)) ((startI 4 [T p, .int s]).set 2 (some (TT (phases s p)))) s1) s1 (bare s p) := ok_trub (all_L (ks := (phases s p).drop 1) (f := fun r => decide (r = [])) (lc_seqY (F := T) (ks := (phases s p).drop 1) (fun r => [some (T p), some (.int s), some (TT (phases s p)), some (T r)]) (fun r => .bl (decide (r = []))) (Ok.eq (ok_slFrom (m := 1) (ok_var (v := .tup ((phases s p).map T)) rfl) fun _ _ => ok_c) (by rw [List.map_drop])) (by rw [List.length_drop, phases_len]; omega) (fun _ _ => rfl) fun r hr s2 g2 => ok_bin (x := T r) (y := .tup []) (ok_var rfl) (fun _ _ => ok_tup ok_nil (by simp)) fun _ _ => ok_eqN))
  cases hb : bare s p with
  | true =>
    rw [hb] at hc
    rw [if_pos rfl]
    exact ok_ifT hc fun _ _ => ok_bin (x := TT (phases s p)) (y := .int (0 : Nat)) (ok_var rfl) (fun _ _ => ok_c) fun _ _ => ok_idxTT (phases_get p h2)
  | false =>
    rw [hb] at hc
    rw [if_neg (by decide)]
    exact ok_ifF hc fun _ _ => ok_c
theorem maxL_most : ∀ (ps : List (List Rat)) (m : Nat), maxL (m : Int) (ps.map fun p => (p.length : Int)) = ((ps.foldl (fun m p => max m p.length) m : Nat) : Int)
  | [], m => rfl
  | p :: ps, m => by
    rw [List.map_cons, List.foldl_cons, ← maxL_most ps]
    show maxL (if (m : Int) < (p.length : Int) then (p.length : Int) else m) _ = _
    congr 1
    split <;> omega
theorem lenTT {env : IEnv} {i : Nat} (h : env[i]? = some (some (TT ps))) : Ok (rCall lenI (rCons (rVar i) rNil) env st) st (.int ps.length) := ok_call (ok_cons (ok_var h) fun _ _ => ok_nil) fun _ _ => ok_ofO (by
  show some (IV.int ((ps.map T).length : Nat), _) = _
  rw [List.length_map])
abbrev fpA : SemS := (sIf (rTOr (rTNot (rTru (rIsT .tup (rVar 0)))) (rTOr (rTNot (rTBl (rChain cLe cLe (rC (.int (1))) (rCall lenI (rCons (rVar 0) rNil)) (rC (.int (12)))))) (rTNot (rTru (rCall allI (rCons (rLc (fSeq (rVar 0)) (.one 3) [3] rYes (rDef d_is_poly (rCons (rVar 3) rNil))) rNil)))))) (sRaise 1 "thing" (rVar 0)) sPass)
abbrev fpB : SemS := (sAsg (rCall maxI (rCons (rLc (fSeq (rVar 0)) (.one 3) [3] rYes (rCall lenI (rCons (rVar 3) rNil))) rNil)) (gN 1))
abbrev fpC : SemS := (sIf (rTBl (rBin cGt (rBin mulT (rVar 1) (rCall lenI (rCons (rVar 0) rNil))) (rBin addI (rC (.int (60))) (rCall lenI (rCons (rVar 0) rNil))))) (sRaise 1 "thing" (rVar 0)) sPass)
abbrev fpD : SemS := (sAsg (rDef d_trimmed (rCons (rLc2 (fRng1 (rCons (rVar 1) rNil)) (.one 4) [4, 5] (rVar 0) (.one 5) [5] rYes (rIfE (rTBl (rBin cLt (rVar 4) (rCall lenI (rCons (rVar 5) rNil)))) (rBin idxI (rVar 5) (rVar 4)) (rC g_NONE))) rNil)) (gN 2))
theorem fpA_ok (h1 : 1 ≤ ps.length) (h12 : ps.length ≤ 12) (hp : ∀ p ∈ ps, PolyOk p) : OkS (fpA (startI 6 [TT ps]) st) st (startI 6 [TT ps]) := by
  refine oks_chk (Ok.eq (ok_tor (ok_tnot (ok_trub (k := true) (isTup (xs := ps.map T) rfl))) fun _ _ _ => ok_tor (ok_tnot (ok_tbl (ok_chain (x := .int 1) (y := .int ps.length) (z := .int 12) (k := decide ((1 : Int) ≤ ps.length)) (l := decide ((ps.length : Int) ≤ 12)) ok_c (fun _ _ => lenTT rfl) (fun _ _ => rfl) (fun _ _ => ok_c) fun _ _ => rfl))) fun _ _ _ => ok_tnot (ok_trub (k := ps.all fun _ => true) (all_L (ks := ps) (f := fun _ => true) (lc_seqY (F := T) (ks := ps) (fun r => [some (TT ps), none, none, some (T r), none, none]) (fun _ => .bl true) (ok_var rfl) (by omega) (fun _ _ => rfl) fun r hr s2 g2 => ok_def (xs := [T r]) (ok_cons (ok_var rfl) fun _ _ => ok_nil) fun _ _ => is_poly (hp r hr))))) ?_)
  · rw [decide_eq_true (show (1 : Int) ≤ ps.length by omega), decide_eq_true (show (ps.length : Int) ≤ 12 by omega)]
    simp
theorem fpB_ok (h1 : 1 ≤ ps.length) (h12 : ps.length ≤ 12) : OkS (fpB (startI 6 [TT ps]) st) st [some (TT ps), some (.int (most ps : Nat)), none, none, none, none] := by
  refine oks_set (i := 1) ?_
  · have hl : OkL (rLc (fSeq (rVar 0)) (.one 3) [3] rYes (rCall lenI (rCons (rVar 3) rNil)) (startI 6 [TT ps]) st) st ((ps.map fun p => (p.length : Int)).map IV.int) := by
      rw [List.map_map]
      exact lc_seqY (F := T) (ks := ps) (fun r => [some (TT ps), none, none, some (T r), none, none]) (fun r => .int r.length) (ok_var rfl) (by omega) (fun _ _ => rfl) fun r hr s2 g2 => lenVar rfl
    cases hps : ps with
    | nil => rw [hps] at h1; exact absurd h1 (by decide)
    | cons p0 rest =>
      rw [hps] at hl
      refine Ok.eq (max_L (m := (p0.length : Int)) (ks := rest.map fun p : List Rat => (p.length : Int)) hl) ?_
      rw [maxL_most]
      unfold most
      rw [List.foldl_cons, Nat.zero_max]
theorem fpC_ok (h12 : ps.length ≤ 12) (hml : most ps ≤ 60) (hm : most ps * ps.length ≤ 60 + ps.length) : OkS (fpC [some (TT ps), some (.int (most ps : Nat)), none, none, none, none] st) st [some (TT ps), some (.int (most ps : Nat)), none, none, none, none] :=
  oks_chk (Ok.eq (ok_tbl (ok_bin (x := .int ((most ps : Int) * ps.length)) (y := .int (60 + ps.length)) (ok_bin (x := .int (most ps : Nat)) (y := .int ps.length) (ok_var rfl) (fun _ _ => lenTT rfl) fun _ _ => ok_mul (sm_of (by omega)) (sm_of (by omega))) (fun _ _ => ok_bin (x := .int 60) (y := .int ps.length) ok_c (fun _ _ => lenTT rfl) fun _ _ => ok_add) fun _ _ => ok_gt)) (decide_eq_false (by rw [← Int.natCast_mul]; omega)))
theorem fpD_ok (h12 : ps.length ≤ 12) (hml : most ps ≤ 60) (hmn : most ps * ps.length ≤ 100000) : OkS (fpD [some (TT ps), some (.int (most ps : Nat)), none, none, none, none] st) st [some (TT ps), some (.int (most ps : Nat)), some (T (fromPh ps)), none, none, none] := by
  refine oks_set (i := 2) ?_
  · have hL : OkL (rLc2 (fRng1 (rCons (rVar 1) rNil)) (.one 4) [4, 5] (rVar 0) (.one 5) [5] rYes (rIfE (rTBl (rBin cLt (rVar 4) (rCall lenI (rCons (rVar 5) rNil)))) (rBin idxI (rVar 5) (rVar 4)) (rC g_NONE)) [some (TT ps), some (.int (most ps : Nat)), none, none, none, none] st) st ((tab (most ps * ps.length) (frF ps)).map q) := by
      rw [tab_rows, List.map_flatten, List.map_map]
      have hF : (ps.map T) = (List.range ps.length).map fun j => T ((ps[j]?).getD []) := by
        apply List.ext_getElem?
        intro j
        rw [List.getElem?_map, List.getElem?_map]
        by_cases hj : j < ps.length
        · rw [List.getElem?_range hj, Option.map_some, List.getElem?_eq_getElem hj]; rfl
        · rw [List.getElem?_eq_none (by omega), List.getElem?_eq_none (by simp; omega)]; rfl
      have := lc2_ok2 (a := rVar 1) (env := [some (TT ps), some (.int (most ps : Nat)), none, none, none, none]) (st := st) (ct := .one 4) (vs := [4, 5]) (ra := rVar 0) (ct1 := .one 5) (vs1 := [5]) (te := rIfE (rTBl (rBin cLt (rVar 4) (rCall lenI (rCons (rVar 5) rNil)))) (rBin idxI (rVar 5) (rVar 4)) (rC g_NONE)) (m := most ps) (n := ps.length) (fun j => T ((ps[j]?).getD [])) (fun i => [some (TT ps), some (.int (most ps : Nat)), none, none, some (.int (i : Nat)), none]) (fun i j => [some (TT ps), some (.int (most ps : Nat)), none, none, some (.int (i : Nat)), some (T ((ps[j]?).getD []))]) (fun i j => q (frF ps (i * ps.length + j))) (ok_var rfl) (by omega) hmn (fun _ _ => rfl) (fun i hi s gs => by
          have : TT ps = .tup ((List.range ps.length).map fun j => T ((ps[j]?).getD [])) := by rw [← hF]; rfl
          rw [← this]
          exact ok_var rfl) (fun _ _ _ _ => rfl) fun i hi j hj s gs => by
        have hfr : frF ps (i * ps.length + j) = co ((ps[j]?).getD []) i := by
          unfold frF
          rw [Nat.mul_comm i, Nat.mul_add_mod, Nat.mod_eq_of_lt hj, Nat.mul_add_div (by omega), Nat.div_eq_of_lt hj, Nat.add_zero]
        rw [hfr]
        have hcl : Ok (rTBl (rBin cLt (rVar 4) (rCall lenI (rCons (rVar 5) rNil))) [some (TT ps), some (.int (most ps : Nat)), none, none, some (.int (i : Nat)), some (T ((ps[j]?).getD []))] s) s (decide ((i : Int) < ((ps[j]?).getD []).length)) := ok_tbl (ok_bin (x := .int (i : Nat)) (y := .int ((ps[j]?).getD []).length) (ok_var rfl) (fun _ _ => lenVar rfl) fun _ _ => ok_lt)
        by_cases hlt : i < ((ps[j]?).getD []).length
        · exact ok_ifT (Ok.eq hcl (decide_eq_true (by omega))) fun _ _ => ok_bin (x := T ((ps[j]?).getD [])) (y := .int (i : Nat)) (ok_var rfl) (fun _ _ => ok_var rfl) fun _ _ => ok_idxT rfl hlt
        · rw [co_out (by omega)]
          exact ok_ifF (Ok.eq hcl (decide_eq_false (by omega))) fun _ _ => ok_c
      have e : (fun i => (List.range ps.length).map fun j => q (frF ps (i * ps.length + j))) = (List.map q ∘ fun i => List.map (fun j => frF ps (i * ps.length + j)) (List.range ps.length)) := by
        funext i
        show _ = List.map q (List.map _ _)
        rw [List.map_map]; rfl
      rw [← e]
      exact this
    exact trimmed_L hL (by rw [tab_len]; exact hmn)

theorem from_ph_ok (h1 : 1 ≤ ps.length) (h12 : ps.length ≤ 12) (hp : ∀ p ∈ ps, PolyOk p) (hm : most ps * ps.length ≤ 60 + ps.length) (hl : (fromPh ps).length ≤ 60) : Ok (d_from_phases [TT ps] st) st (T (fromPh ps)) := by
  unfold d_from_phases r_from_phases
  have hml : most ps ≤ 60 := most_ub fun p h => (hp p h).len
  exact ok_fn (okr_seq (fpA_ok h1 h12 hp) fun s1 g1 => okr_seq (fpB_ok h1 h12) fun s2 g2 => okr_seq (fpC_ok h12 hml hm) fun s3 g3 => okr_seq (fpD_ok h12 hml (by omega)) fun s4 g4 => okr_seq (oks_chk (Ok.eq (ok_tbl (ok_bin (x := .int (fromPh ps).length) (y := .int 60) (lenVar rfl) (fun _ _ => ok_c) fun _ _ => ok_gt)) (decide_eq_false (by omega)))) fun _ _ => okr_ret (ok_var rfl))
theorem ex_from (h1 : 1 ≤ ps.length) (h12 : ps.length ≤ 12) (hp : ∀ p ∈ ps, PolyOk p) (hm : most ps * ps.length ≤ 60 + ps.length) (hl : 60 < (fromPh ps).length) : Ex (d_from_phases [TT ps] st) st ⟨1, [("thing", TT ps)]⟩ := by
  unfold d_from_phases r_from_phases
  have hml : most ps ≤ 60 := most_ub fun p h => (hp p h).len
  exact ex_fn (exs_seq (fpA_ok h1 h12 hp) fun s1 g1 => exs_seq (fpB_ok h1 h12) fun s2 g2 => exs_seq (fpC_ok h12 hml hm) fun s3 g3 => exs_seq (fpD_ok h12 hml (by omega)) fun s4 g4 => exs_now (exs_fire (Ok.eq (ok_tbl (ok_bin (x := .int (fromPh ps).length) (y := .int 60) (lenVar rfl) (fun _ _ => ok_c) fun _ _ => ok_gt)) (decide_eq_true (by omega))) fun _ _ => rfl))
end
end law_k17

set_option Elab.async false
set_option linter.all false
set_option maxRecDepth 100000
set_option maxHeartbeats 4000000
namespace law_k17
open PySem PySem.Spec PyProof.Rows L2 PI PL
section
variable {st : Sto} {r x p o : List Rat} {s : Nat} {e1 N1 e2 N2 e N : Nat} {ps : List (List Rat)}
/-- [v] * k, its place told -/
theorem rep_new {a b : SemE} {env : IEnv} {v : IV} {k : Nat} (h : Ok (a env st) st v) (h2 : ∀ st1, Gw st st1 → Ok (b env st1) st1 (.int k)) (hk : k ≤ 1000) : ∃ s1, rBin mulT (rLst (rCons a rNil)) b env st = .ok (.ref s1.os.length) { os := s1.os ++ [.lst (List.replicate k v)], low := s1.low } ∧ Gw st s1 := by
  obtain ⟨n, s1, e1, g1, h1⟩ := okn_lst (ok_cons h fun s _ => ok_nil (env := env) (st := s)) (by simp)
  obtain ⟨s2, e2, g2⟩ := h2 s1 g1
  refine ⟨s2, ?_, g1.trans g2⟩
  refine rbin_eq e1 e2 ?_
  show (match s2.os[n]? with
    | some (.lst xs) => bif decide ((0 : Int) ≤ k) && Nat.ble (xs.length * (k : Int).toNat) lineI && decide ((k : Int) < 1000000) then s2.allocO (.lst (List.replicate (k : Int).toNat xs).flatten) else none
    | _ => none) = _
  rw [g2.get h1]
  simp only [List.length_singleton, Nat.one_mul, Int.toNat_natCast]
  rw [decide_eq_true (show (0 : Int) ≤ k by omega), show Nat.ble k lineI = true from Nat.ble_eq_true_of_le (by unfold lineI; omega), decide_eq_true (show (k : Int) < 1000000 by omega), List.flatten_replicate_singleton]
  rfl
theorem rep_tab {k : Nat} {f : Nat → Rat} (h : ∀ i, i < k → f i = 0) : (List.replicate k (q 0)) = (tab k f).map q := by
  rw [← List.map_replicate]
  congr 1
  exact row_ext (by rw [List.length_replicate, tab_len]) fun i hi => by
    rw [List.length_replicate] at hi
    rw [co_rep, co_tab, if_pos hi, h i hi]
/-! filtered, every so many -/
theorem heard_ok {env : IEnv} {b n : Nat} (hx : env[1]? = some (some (T x))) (hs2 : env[2]? = some (some (.int s))) (hn : env[3]? = some (some (.ref n))) (hb : env[4]? = some (some (.int (b : Nat)))) {ys : List IV} (hl : lstAt st n = some ys) (hy : ys.length = (evr s x).length) (hs : StepOk s) (hb12 : b ≤ 12) (hxl : x.length ≤ 300) :
    Ok (rSl (rSl3 (rBin addI (rBin mulT (rTup (rCons (rC g_NONE) rNil)) (rVar 4)) (rVar 1)) rNoPart rNoPart (rVar 2)) rNoPart (rPart (rCall lenI (rCons (rVar 3) rNil))) env st) st (T (hrd s x b)) := by
  have h2 := hs.lo
  refine Ok.eq (ok_slTo (xs := (evr s (List.replicate b 0 ++ x)).map q) (n := (evr s x).length) (ok_sl3 (r := List.replicate b 0 ++ x) h2 (ok_bin (x := .tup (List.replicate b (q 0))) (y := T x) (ok_mulTup (v := q 0) (ok_tup (ok_cons ok_c fun _ _ => ok_nil) (by simp)) (fun _ _ => ok_var hb) (by omega)) (fun _ _ => ok_var hx) fun s1 _ => ok_ofO ?_) fun _ _ => ok_var hs2) fun s1 g1 => ok_call (ok_cons (ok_var hn) fun _ _ => ok_nil) fun s2 g2 => Ok.eq (ok_lenR ((g1.trans g2).lst hl)) (by rw [hy])) ?_
  · show (bif Nat.ble ((List.replicate b (q 0)).length + (x.map q).length) lineI then some (IV.tup (List.replicate b (q 0) ++ x.map q), s1) else none) = _
    rw [show Nat.ble ((List.replicate b (q 0)).length + (x.map q).length) lineI = true from Nat.ble_eq_true_of_le (by rw [List.length_replicate, List.length_map]; unfold lineI; omega), cond_true]
    unfold T
    rw [List.map_append, List.map_replicate]
  · rw [cut_take, ← List.map_take]; rfl
theorem fevery_ok (hp : PolyOk p) (hx : RowOk x) (hs : StepOk s) (vp : Vs e1 N1 p) (vx : Vs e2 N2 x) (sm : Small e1 N1 e2 N2) (hN : N1 * N2 * 61 * 12 ≤ 10 ^ 25) : Ok (d_filtered_every [T p, T x, .int s] st) st (T (evr s (fil p x))) := by
  have h1 := hp.len; have h2 := hx.len; have h3 := hs.lo; have h4 := hs.hi
  have hm : (evr s x).length ≤ 1000 := by
    rw [evr_len]
    have := Nat.div_le_self (x.length + s - 1) s
    omega
  let G : Nat → Nat → Rat := fun b n => co (fil (phase s p b) (hrd s x b)) n
  have pl : ∀ b, (phase s p b).length ≤ 60 := fun b => by
    refine Nat.le_trans (trim_len _) ?_
    rw [evr_len, List.length_drop]
    have : (p.length - b + s - 1) / s ≤ p.length - b := by
      by_cases h0 : p.length - b = 0
      · rw [h0, Nat.zero_add, Nat.div_eq_of_lt (by omega)]; omega
      · refine Nat.le_of_lt_succ ((Nat.div_lt_iff_lt_mul h3).mpr ?_)
        have : (p.length - b + 1) * s = (p.length - b) * s + s := Nat.succ_mul _ _
        have h5 : p.length - b ≤ (p.length - b) * s := Nat.le_mul_of_pos_right _ h3
        show p.length - b + s - 1 < (p.length - b).succ * s
        rw [Nat.succ_mul]
        omega
    omega
  have vh : ∀ b, Vs e2 N2 (hrd s x b) := fun b i => by
    unfold hrd
    rw [co_take]
    split
    · rw [co_evr h3, co_app]
      split
      · rw [co_rep]; exact Dy.zero _ _
      · exact vx _
    · exact Dy.zero _ _
  have vG : ∀ b n, Dy (e1 + e2) (N1 * N2 * 61) (G b n) := fun b n => Vs.fil (vp.phase h3 b) (vh b) (n := 60) (by have := pl b; omega) n
  have bS : ∀ k n, k ≤ 12 → Bn (S k fun b => G b n) := fun k n hk => (S_dy (fun b => vG b n) k).bn sm.e (Nat.le_trans (Nat.mul_le_mul_left _ hk) hN)
  unfold d_filtered_every r_filtered_every
  refine ok_fn (okr_seq (s_filter rfl hp) fun s1 g1 => okr_seq (s_row rfl hx) fun s2 g2 => okr_seq (s_step rfl hs) fun s3 g3 => ?_)
  obtain ⟨s4, e4, g4⟩ := rep_new (a := rC g_NONE) (v := q 0) (b := rCall lenI (rCons (rSl3 (rVar 1) rNoPart rNoPart (rVar 2)) rNil)) (env := startI 9 [T p, T x, .int s]) (st := s3) (k := (evr s x).length) ok_c (fun _ _ => ok_call (xs := [T (evr s x)]) (ok_cons (ok_sl3 h3 (ok_var rfl) fun _ _ => ok_var rfl) fun _ _ => ok_nil) fun _ _ => ok_lenT) hm
  have E4 := setL_eq (i := 3) e4
  let s5 : Sto := { os := s4.os ++ [.lst (List.replicate (evr s x).length (q 0))], low := s4.low }
  have g5 : Gw s3 s5 := g4.trans (.alloc _ _)
  obtain ⟨s6, g6, e6⟩ := walks_enum (a := rDef d_phases_of (rCons (rVar 0) (rCons (rVar 2) rNil))) (env := (startI 9 [T p, T x, .int s]).set 3 (some (.ref s4.os.length))) (st := s5) (xs := (phases s p).map T) (ok_def (xs := [T p, .int s]) (ok_cons (ok_var rfl) fun _ _ => ok_cons (ok_var rfl) fun _ _ => ok_nil) fun _ _ => phases_ok hp hs)
  rw [List.length_map, phases_len] at e6
  let I : Nat → IEnv → Sto → Prop := fun k env st => ∃ (n : Nat) (x4 x5 x6 x7 x8 : Option IV), env = [some (T p), some (T x), some (.int s), some (.ref n), x4, x5, x6, x7, x8] ∧ Gw s3 st ∧ lstAt st n = some ((tab (evr s x).length fun m => S k fun b => G b m).map q)
  obtain ⟨env', s7, e7, n, x4, x5, x6, x7, x8, rfl, g7, h7⟩ := loop_I (gT 2 (gsCons (gN 4) (gsCons (gN 5) gsNil))) (sSeq (sAsg (rSl (rSl3 (rBin addI (rBin mulT (rTup (rCons (rC g_NONE) rNil)) (rVar 4)) (rVar 1)) rNoPart rNoPart (rVar 2)) rNoPart (rPart (rCall lenI (rCons (rVar 3) rNil)))) (gN 6))
    (sAsg (rLc (fZip2 (rCons (rVar 3) (rCons (rDef d_filtered (rCons (rVar 5) (rCons (rVar 6) rNil))) rNil))) (.tup [7, 8]) [7, 8] rYes (rDef d_plus (rCons (rVar 7) (rCons (rVar 8) rNil)))) (gN 3))) (fun i => .tup [.int (i : Nat), (((phases s p).map T)[i]?).getD .non]) I s (fun k hk env st1 ⟨n, x4, x5, x6, x7, x8, he, g, hl⟩ => by
      subst he
      refine ⟨[some (T p), some (T x), some (.int s), some (.ref n), some (.int (k : Nat)), some (T (phase s p k)), x6, x7, x8], ?_, ?_⟩
      · rw [List.getElem?_map, phases_get p hk]; rfl
      · obtain ⟨s8, e8, g8⟩ := oks_set (i := 6) (heard_ok (env := [some (T p), some (T x), some (.int s), some (.ref n), some (.int (k : Nat)), some (T (phase s p k)), x6, x7, x8]) rfl rfl rfl rfl hl (by rw [List.length_map, tab_len]) hs (by omega) h2)
        have hz := lc_zip (a := rVar 3) (b := rDef d_filtered (rCons (rVar 5) (rCons (rVar 6) rNil))) (env := [some (T p), some (T x), some (.int s), some (.ref n), some (.int (k : Nat)), some (T (phase s p k)), some (T (hrd s x k)), x7, x8]) (st := s8) (n := n) (ct := .tup [7, 8]) (vs := [7, 8]) (te := rDef d_plus (rCons (rVar 7) (rCons (rVar 8) rNil))) (k := (evr s x).length) (fun m => q (S k fun b => G b m)) (fun m => q (G k m)) (fun m => [some (T p), some (T x), some (.int s), some (.ref n), some (.int (k : Nat)), some (T (phase s p k)), some (T (hrd s x k)), some (q (S k fun b => G b m)), some (q (G k m))]) (fun m => q (S (k + 1) fun b => G b m)) rfl (by rw [g8.lst hl]; unfold tab; rw [List.map_map]; rfl) (Ok.eq (ok_def (xs := [T (phase s p k), T (hrd s x k)]) (ok_cons (ok_var rfl) fun _ _ => ok_cons (ok_var rfl) fun _ _ => ok_nil) fun _ _ => filtered_ok (poly_of (vp.phase h3 k) (by have := sm.e; omega) sm.a (pl k) (trim_trim _)) (row_of (vh k) (by have := sm.e; omega) sm.b (by
            rw [hrd_len h3, evr_len]
            have : (x.length + s - 1) / s ≤ x.length := by
              by_cases h0 : x.length = 0
              · rw [h0, Nat.zero_add, Nat.div_eq_of_lt (by omega)]; omega
              · refine Nat.le_of_lt_succ ((Nat.div_lt_iff_lt_mul h3).mpr ?_)
                have h5 : x.length ≤ x.length * s := Nat.le_mul_of_pos_right _ h3
                show x.length + s - 1 < x.length.succ * s
                rw [Nat.succ_mul]
                omega
            omega)) (vp.phase h3 k) (vh k) sm) (by
          unfold T
          congr 1
          have e : fil (phase s p k) (hrd s x k) = tab (evr s x).length (G k) := row_ext (by rw [fil_len, tab_len, hrd_len h3]) fun m hm => by
            rw [fil_len, hrd_len h3] at hm
            rw [co_tab, if_pos hm]
          rw [e]; unfold tab; rw [List.map_map]; rfl)) (by omega) (fun _ _ => rfl) fun m hm s9 g9 => ok_def (xs := [q (S k fun b => G b m), q (G k m)]) (ok_cons (ok_var rfl) fun _ _ => ok_cons (ok_var rfl) fun _ _ => ok_nil) fun _ _ => by
            rw [S_succ]
            exact ok_plus (bS k m (by omega)) ((vG k m).bn sm.e (by omega))
        obtain ⟨n', s9, e9, g9, h9⟩ := hz
        refine ⟨_, s9, by rw [seq_nx e8]; exact setL_eq e9, n', _, _, _, _, _, rfl, (g.trans g8).trans g9, ?_⟩
        rw [h9]
        unfold tab; rw [List.map_map]; rfl) _ s6 ⟨s4.os.length, none, none, none, none, none, rfl, g5.trans g6, by
      rw [g6.lst (new_lst s4 _ _)]
      congr 1
      exact rep_tab fun i _ => rfl⟩
  obtain ⟨s10, e10, g10⟩ := okr_ret (tup_L (st := s7) (e := rVar 3) (env := [some (T p), some (T x), some (.int s), some (.ref n), x4, x5, x6, x7, x8]) ⟨n, s7, rfl, .refl _, h7⟩)
  refine ⟨s10, ?_, g7.trans g10⟩
  rw [seq_nx E4, seq_nx ((e6 _ _).trans e7), e10]
  congr 1
  rw [← polyphase h3]; rfl
end
end law_k17

set_option Elab.async false
set_option linter.all false
set_option maxRecDepth 100000
set_option maxHeartbeats 4000000
namespace law_k17
open PySem PySem.Spec PyProof.Rows L2 PI PL
section
variable {st : Sto} {r x p o : List Rat} {s : Nat} {e1 N1 e2 N2 e N : Nat} {ps : List (List Rat)}
theorem oks_sub {env : IEnv} {i n k : Nat} {a b : SemE} {v : IV} {xs : List IV} (he : env[i]? = some (some (.ref n))) (hn : st.os[n]? = some (.lst xs)) (ha : Ok (a env st) st v) (hb : ∀ st1, Gw st st1 → Ok (b env st1) st1 (.int (k : Nat))) (hk : k < xs.length) :
    ∃ st', sAsg a (gSubI (rVar i) b) env st = .nx env { os := st'.os.set n (.lst (xs.set k v)), low := st'.low } ∧ Gw st st' := by
  obtain ⟨s1, e1, g1⟩ := ha
  obtain ⟨s2, e2, g2⟩ := hb s1 g1
  refine ⟨s2, ?_, g1.trans g2⟩
  have hv : rVar i env s1 = .ok (.ref n) s1 := by unfold rVar; rw [he]
  have hs : setI (.ref n) (.int (k : Nat)) v s2 = some { os := s2.os.set n (.lst (xs.set k v)), low := s2.low } := by
    have hi : L2.ixN xs.length (k : Int) = some k := by
      unfold L2.ixN
      rw [if_pos (by omega), if_pos (by omega)]; simp
    unfold setI
    simp only [(g1.trans g2).get hn, hi]
  unfold sAsg
  rw [e1]
  show RS.ofG (gSubI (rVar i) b v env s1) _ = _
  unfold gSubI
  rw [hv]
  dsimp only
  rw [e2]
  dsimp only
  rw [hs]; rfl
theorem tab_set {L k : Nat} {f f' : Nat → Rat} {v : Rat} (hk : k < L) (hv : f' k = v) (h : ∀ i, i ≠ k → f' i = f i) : ((tab L f).map q).set k (q v) = (tab L f').map q := by
  apply List.ext_getElem?
  intro i
  by_cases hi : i = k
  · subst hi
    rw [List.getElem?_set_self (by rw [List.length_map, tab_len]; exact hk), List.getElem?_map, tab_get hk, hv]; rfl
  · rw [List.getElem?_set_ne (Ne.symm hi), List.getElem?_map, List.getElem?_map]
    by_cases hl : i < L
    · rw [tab_get hl, tab_get hl, h i hi]
    · rw [List.getElem?_eq_none (by rw [tab_len]; omega), List.getElem?_eq_none (by rw [tab_len]; omega)]
/-- what stands in found behind i rows and j places -/
def Fd (p o : Nat → Rat) (i j m : Nat) : Rat := (S i fun t => if t ≤ m then p t * o (m - t) else 0) + if i ≤ m ∧ m < i + j then p i * o (m - i) else 0
theorem Fd_row (p o : List Rat) (i m : Nat) : Fd (co p) (co o) i o.length m = Fd (co p) (co o) (i + 1) 0 m := by
  unfold Fd
  rw [S_succ, if_neg (c := i + 1 ≤ m ∧ m < i + 1 + 0) (by omega)]
  by_cases h : i ≤ m
  · rw [if_pos h]
    by_cases h2 : m < i + o.length
    · rw [if_pos ⟨h, h2⟩]; grind
    · rw [if_neg (by omega), co_out (xs := o) (by omega)]; grind
  · rw [if_neg h, if_neg (by omega)]; grind
theorem Fd_end (p o : List Rat) (m : Nat) : Fd (co p) (co o) p.length 0 m = cv (co p) (co o) m := by
  unfold Fd cv
  rw [if_neg (by omega)]
  have : S p.length (fun t => if t ≤ m then co p t * co o (m - t) else 0) = S (m + 1) fun k => co p k * co o (m - k) := S_ext (fun i _ hi => by rw [if_pos (by omega)]) (fun i _ hi => by rw [if_neg (by omega)]) fun i hi hl => by rw [co_out (xs := p) hl]; grind
  rw [this]; grind
theorem Fd_dy (vp : Vs e1 N1 p) (vo : Vs e2 N2 o) (i j m : Nat) : Dy (e1 + e2) (N1 * N2 * (i + 1)) (Fd (co p) (co o) i j m) := by
  rw [Nat.mul_succ]
  refine Dy.add (S_dy (fun t => ?_) i) ?_
  · split
    · exact (vp t).mul (vo (m - t))
    · exact Dy.zero _ _
  · split
    · exact (vp i).mul (vo (m - i))
    · exact Dy.zero _ _
theorem product_ok (vp : Vs e1 N1 p) (vo : Vs e2 N2 o) (hp : p.length ≤ 60) (ho : o.length ≤ 60) (sm : Small e1 N1 e2 N2) : Ok (d_product_in [T p, T o] st) st (T (prod p o)) := by
  unfold d_product_in r_product_in
  have hc : ∀ st, Ok (rTOr (rTBl (rBin cEq (rVar 0) (rTup rNil))) (rTBl (rBin cEq (rVar 1) (rTup rNil))) (startI 7 [T p, T o]) st) st (decide (p = []) || decide (o = [])) := fun st => ok_tor (ok_tbl (ok_bin (x := T p) (y := .tup []) (ok_var rfl) (fun _ _ => ok_tup ok_nil (by simp)) fun _ _ => ok_eqN)) fun _ _ _ => ok_tbl (ok_bin (x := T o) (y := .tup []) (ok_var rfl) (fun _ _ => ok_tup ok_nil (by simp)) fun _ _ => ok_eqN)
  by_cases h0 : p = [] ∨ o = []
  · rw [prod_nil p o h0]
    refine ok_fn (okr_now (okr_ifT (Ok.eq (hc st) ?_) fun s1 _ => okr_ret (ok_tup ok_nil (by simp))))
    rcases h0 with h | h
    · rw [decide_eq_true h]; rfl
    · rw [decide_eq_true h, Bool.or_true]
  · have np : p ≠ [] := fun z => h0 (.inl z)
    have no : o ≠ [] := fun z => h0 (.inr z)
    have lp : 0 < p.length := List.length_pos_iff.mpr np
    have lo : 0 < o.length := List.length_pos_iff.mpr no
    refine ok_fn (okr_seq (oks_chk (Ok.eq (hc st) (by rw [decide_eq_false np, decide_eq_false no]; rfl))) fun s1 g1 => ?_)
    obtain ⟨s2, e2, g2⟩ := rep_new (a := rC g_NONE) (v := q 0) (b := rBin subI (rBin addI (rCall lenI (rCons (rVar 0) rNil)) (rCall lenI (rCons (rVar 1) rNil))) (rC (.int (1)))) (env := startI 7 [T p, T o]) (st := s1) (k := p.length + o.length - 1) ok_c (fun _ _ => Ok.eq (ok_bin (x := .int ((p.length : Int) + o.length)) (y := .int 1) (ok_bin (x := .int p.length) (y := .int o.length) (lenVar rfl) (fun _ _ => lenVar rfl) fun _ _ => ok_add) (fun _ _ => ok_c) fun _ _ => ok_sub) (by congr 1; omega)) (by omega)
    have E2 := setL_eq (i := 2) e2
    let L := p.length + o.length - 1
    let s3 : Sto := { os := s2.os ++ [.lst (List.replicate L (q 0))], low := s2.low }
    let E : Nat → IEnv := fun i => [some (T p), some (T o), some (.ref s2.os.length), if i = 0 then none else some (.int (i - 1 : Nat)), if i = 0 then none else some (q (co p (i - 1))), if i = 0 then none else some (.int (o.length - 1 : Nat)), if i = 0 then none else some (q (co o (o.length - 1)))]
    obtain ⟨s4, g4, e4⟩ := walks_enumT (a := rVar 0) (env := E 0) (st := s3) (r := p) (ok_var rfl)
    obtain ⟨s5, e5, g5, h5⟩ := loop_E (gT 2 (gsCons (gN 3) (gsCons (gN 4) gsNil))) (sFor (fEnum (rCons (rVar 1) rNil)) (gT 2 (gsCons (gN 5) (gsCons (gN 6) gsNil))) (sAsg (rDef d_plus (rCons (rBin idxI (rVar 2) (rBin addI (rVar 3) (rVar 5))) (rCons (rDef d_times (rCons (rVar 4) (rCons (rVar 6) rNil))) rNil))) (gSubI (rVar 2) (rBin addI (rVar 3) (rVar 5))))) (fun i => .tup [.int (i : Nat), q (co p i)]) E (fun i st => Gw s2 st ∧ st.os[s2.os.length]? = some (.lst ((tab L (Fd (co p) (co o) i 0)).map q))) p.length (fun i hi st1 ⟨g, h⟩ => by
        refine ⟨[some (T p), some (T o), some (.ref s2.os.length), some (.int (i : Nat)), some (q (co p i)), if i = 0 then none else some (.int (o.length - 1 : Nat)), if i = 0 then none else some (q (co o (o.length - 1)))], rfl, ?_⟩
        let E' : Nat → IEnv := fun j => [some (T p), some (T o), some (.ref s2.os.length), some (.int (i : Nat)), some (q (co p i)), if j = 0 then (if i = 0 then none else some (.int (o.length - 1 : Nat))) else some (.int (j - 1 : Nat)), if j = 0 then (if i = 0 then none else some (q (co o (o.length - 1)))) else some (q (co o (j - 1)))]
        obtain ⟨s6, g6, e6⟩ := walks_enumT (a := rVar 1) (env := E' 0) (st := st1) (r := o) (ok_var rfl)
        obtain ⟨s7, e7, g7, h7⟩ := loop_E (gT 2 (gsCons (gN 5) (gsCons (gN 6) gsNil))) (sAsg (rDef d_plus (rCons (rBin idxI (rVar 2) (rBin addI (rVar 3) (rVar 5))) (rCons (rDef d_times (rCons (rVar 4) (rCons (rVar 6) rNil))) rNil))) (gSubI (rVar 2) (rBin addI (rVar 3) (rVar 5)))) (fun j => .tup [.int (j : Nat), q (co o j)]) E' (fun j st => Gw s2 st ∧ st.os[s2.os.length]? = some (.lst ((tab L (Fd (co p) (co o) i j)).map q))) o.length (fun j hj st2 ⟨g, h⟩ => by
            refine ⟨[some (T p), some (T o), some (.ref s2.os.length), some (.int (i : Nat)), some (q (co p i)), some (.int (j : Nat)), some (q (co o j))], rfl, ?_⟩
            have hij : i + j < L := by show i + j < p.length + o.length - 1; omega
            have hix : ∀ st, Ok (rBin addI (rVar 3) (rVar 5) [some (T p), some (T o), some (.ref s2.os.length), some (.int (i : Nat)), some (q (co p i)), some (.int (j : Nat)), some (q (co o j))] st) st (.int ((i + j : Nat) : Int)) := fun st => Ok.eq (ok_bin (x := .int (i : Nat)) (y := .int (j : Nat)) (ok_var rfl) (fun _ _ => ok_var rfl) fun _ _ => ok_add) (by congr 1)
            obtain ⟨s8, e8, g8⟩ := oks_sub (env := [some (T p), some (T o), some (.ref s2.os.length), some (.int (i : Nat)), some (q (co p i)), some (.int (j : Nat)), some (q (co o j))]) (i := 2) (st := st2) (k := i + j) (a := rDef d_plus (rCons (rBin idxI (rVar 2) (rBin addI (rVar 3) (rVar 5))) (rCons (rDef d_times (rCons (rVar 4) (rCons (rVar 6) rNil))) rNil))) (b := rBin addI (rVar 3) (rVar 5)) (v := q (Fd (co p) (co o) i j (i + j) + co p i * co o j)) rfl h (ok_def (xs := [q (Fd (co p) (co o) i j (i + j)), q (co p i * co o j)]) (ok_cons (ok_bin (x := .ref s2.os.length) (y := .int ((i + j : Nat) : Int)) (ok_var rfl) (fun s _ => hix s) fun s gs => ok_idxL (gw_lst gs h) (at_nat (by rw [List.getElem?_map, tab_get hij]; rfl))) fun _ _ => ok_cons (ok_def (xs := [q (co p i), q (co o j)]) (ok_cons (ok_var rfl) fun _ _ => ok_cons (ok_var rfl) fun _ _ => ok_nil) fun _ _ => ok_times ((vp i).bn (by have := sm.e; omega) sm.a) ((vo j).bn (by have := sm.e; omega) sm.b)) fun _ _ => ok_nil) fun _ _ => ok_plus ((Fd_dy vp vo i j (i + j)).bn sm.e (Nat.le_trans (Nat.mul_le_mul_left _ (by omega : i + 1 ≤ 400)) sm.N)) (sm.mul ((vp i).mul (vo j)))) (fun s _ => hix s) (by rw [List.length_map, tab_len]; exact hij)
            refine ⟨_, e8, (g.trans g8).set (Nat.le_refl _) _, ?_⟩
            rw [set_get (g8.get h)]
            congr 2
            refine tab_set hij ?_ fun m hm => ?_
            · unfold Fd
              rw [if_neg (c := i ≤ i + j ∧ i + j < i + j) (by omega), if_pos ⟨by omega, by omega⟩, Nat.add_sub_cancel_left]; grind
            · unfold Fd
              congr 1
              by_cases hc : i ≤ m ∧ m < i + j
              · rw [if_pos hc, if_pos ⟨hc.1, by omega⟩]
              · rw [if_neg hc, if_neg (by omega)]) s6 ⟨g.trans g6, g6.get h⟩
        refine ⟨s7, ?_, g7, ?_⟩
        · refine ((e6 _ _).trans e7).trans ?_
          show RS.nx (E' o.length) s7 = RS.nx (E (i + 1)) s7
          congr 1
          show [_, _, _, _, _, _, _] = [_, _, _, _, _, _, _]
          rw [if_neg (by omega), if_neg (by omega), if_neg (by omega), if_neg (by omega), if_neg (by omega), if_neg (by omega), Nat.add_sub_cancel]
        · rw [h7]
          congr 3
          exact tab_congr fun m _ => Fd_row p o i m) s4 ⟨(Gw.alloc _ _).trans g4, by
      rw [g4.get (new_get s2 _ _)]
      congr 2
      exact rep_tab fun m _ => by
        unfold Fd
        rw [if_neg (by omega), S_zero]; grind⟩
    have hret : OkR (sRet (rDef d_trimmed (rCons (rVar 2) rNil)) (E p.length) s5) s5 (T (prod p o)) := by
      refine okr_ret (trimmed_L ⟨s2.os.length, s5, rfl, .refl _, ?_⟩ (by rw [tab_len]; omega))
      rw [lst_of h5]
      congr 2
      exact tab_congr fun m _ => Fd_end p o m
    obtain ⟨s9, e9, g9⟩ := hret
    refine ⟨s9, ?_, g2.trans (g5.trans g9)⟩
    rw [seq_nx E2]
    show sSeq _ _ (E 0) s3 = _
    rw [seq_nx ((e4 _ _).trans e5)]
    exact e9
end
end law_k17

set_option Elab.async false
set_option linter.all false
set_option maxRecDepth 100000
set_option maxHeartbeats 4000000
namespace law_k17
open PySem PySem.Spec PyProof.Rows L2 PI PL
section
variable {st : Sto} {r x p o : List Rat} {s : Nat} {e1 N1 e2 N2 e N : Nat} {ps : List (List Rat)}
theorem in_one_ok (hp : PolyOk p) (ho : PolyOk o) (vp : Vs e1 N1 p) (vo : Vs e2 N2 o) (sm : Small e1 N1 e2 N2) (hl : p.length + o.length ≤ 61) : Ok (d_in_one [T p, T o] st) st (T (prod p o)) := by
  have h1 := hp.len; have h2 := ho.len
  have h3 : (prod p o).length ≤ 60 := by
    refine Nat.le_trans (trim_len _) ?_
    rw [tab_len]; omega
  unfold d_in_one r_in_one
  exact ok_fn (okr_seq (s_filter rfl hp) fun s1 g1 => okr_seq (s_filter rfl ho) fun s2 g2 => okr_seq (env' := [some (T p), some (T o), some (T (prod p o))]) (oks_set (i := 2) (ok_def (xs := [T p, T o]) (ok_cons (ok_var rfl) fun _ _ => ok_cons (ok_var rfl) fun _ _ => ok_nil) fun _ _ => product_ok vp vo h1 h2 sm)) fun s3 g3 => okr_seq (oks_chk (Ok.eq (ok_tbl (ok_bin (x := .int (prod p o).length) (y := .int 60) (lenVar rfl) (fun _ _ => ok_c) fun _ _ => ok_gt)) (decide_eq_false (by omega)))) fun _ _ => okr_ret (ok_var rfl))
/-! the law's product -/
theorem S_len_app (xs : List Rat) (y : Rat) : S (xs ++ [y]).length (co (xs ++ [y])) = S xs.length (co xs) + y := by
  rw [List.length_append, List.length_singleton, S_succ]
  congr 1
  · exact S_congr fun i hi => by rw [co_app, if_pos hi]
  · rw [co_app, if_neg (by omega), Nat.sub_self]; rfl
theorem S_filter (n : Nat) (c : Nat → Bool) (g : Nat → Rat) : S (((List.range n).filter c).map g).length (co (((List.range n).filter c).map g)) = S n fun i => if c i = true then g i else 0 := by
  induction n with
  | zero => rfl
  | succ n ih =>
    rw [List.range_succ, List.filter_append, List.map_append, S_succ, ← ih]
    cases hc : c n with
    | true =>
      have : (List.filter c [n]).map g = [g n] := by simp [hc]
      rw [this, S_len_app, if_pos rfl]
    | false =>
      have : (List.filter c [n]).map g = [] := by simp [hc]
      rw [this, List.append_nil, if_neg (by decide)]; grind
theorem lproduct_ok (vp : Vs e1 N1 p) (vo : Vs e2 N2 o) (hp : p.length ≤ 60) (ho : o.length ≤ 60) (sm : Small e1 N1 e2 N2) : Ok (d__law_product [T p, T o] st) st (T (prod p o)) := by
  unfold d__law_product r__law_product
  have hc : ∀ st, Ok (rTOr (rTBl (rBin cEq (rVar 0) (rTup rNil))) (rTBl (rBin cEq (rVar 1) (rTup rNil))) (startI 5 [T p, T o]) st) st (decide (p = []) || decide (o = [])) := fun st => ok_tor (ok_tbl (ok_bin (x := T p) (y := .tup []) (ok_var rfl) (fun _ _ => ok_tup ok_nil (by simp)) fun _ _ => ok_eqN)) fun _ _ _ => ok_tbl (ok_bin (x := T o) (y := .tup []) (ok_var rfl) (fun _ _ => ok_tup ok_nil (by simp)) fun _ _ => ok_eqN)
  by_cases h0 : p = [] ∨ o = []
  · rw [prod_nil p o h0]
    refine ok_fn (okr_now (okr_ifT (Ok.eq (hc st) ?_) fun s1 _ => okr_ret (ok_tup ok_nil (by simp))))
    rcases h0 with h | h
    · rw [decide_eq_true h]; rfl
    · rw [decide_eq_true h, Bool.or_true]
  · have np : p ≠ [] := fun z => h0 (.inl z)
    have no : o ≠ [] := fun z => h0 (.inr z)
    have lp : 0 < p.length := List.length_pos_iff.mpr np
    have lo : 0 < o.length := List.length_pos_iff.mpr no
    refine ok_fn (okr_seq (oks_chk (Ok.eq (hc st) (by rw [decide_eq_false np, decide_eq_false no]; rfl))) fun s1 g1 => ?_)
    refine okr_build (m := p.length + o.length - 1) (f := fun i => .int (i : Nat)) (fun k => [some (T p), some (T o), some (.ref s1.os.length), if k = 0 then none else some (.int (k - 1 : Nat)), none]) (fun k => (tab k (cv (co p) (co o))).map q) rfl rfl (fun s4 _ => walks_rng1 (Ok.eq (ok_bin (x := .int ((p.length : Int) + o.length)) (y := .int 1) (ok_bin (x := .int p.length) (y := .int o.length) (lenVar rfl) (fun _ _ => lenVar rfl) fun _ _ => ok_add) (fun _ _ => ok_c) fun _ _ => ok_sub) (by congr 1; omega)) (by omega)) (fun k hk s4 g4 h4 => ?_) fun s4 g4 h4 => okr_ret (trimmed' (by rw [tab_len]; omega) h4)
    refine ⟨[some (T p), some (T o), some (.ref s1.os.length), some (.int (k : Nat)), none], rfl, ?_⟩
    let c : Nat → Bool := fun i => decide ((0 : Int) ≤ (k : Int) - (i : Nat)) && decide ((k : Int) - (i : Nat) < o.length)
    have hd : ∀ i, Dy (e1 + e2) (N1 * N2) (co (((List.range p.length).filter c).map fun i => co p i * co o (k - i)) i) := fun i => by
      by_cases hi : i < (((List.range p.length).filter c).map fun i => co p i * co o (k - i)).length
      · have hm : co (((List.range p.length).filter c).map fun i => co p i * co o (k - i)) i ∈ (((List.range p.length).filter c).map fun i => co p i * co o (k - i)) := List.mem_of_getElem? (co_get hi)
        obtain ⟨t, _, e⟩ := List.mem_map.mp hm
        rw [← e]
        exact (vp t).mul (vo (k - t))
      · rw [co_out (by omega)]; exact Dy.zero _ _
    have hlen : (((List.range p.length).filter c).map fun i => co p i * co o (k - i)).length ≤ 60 := by
      rw [List.length_map]
      refine Nat.le_trans (List.length_filter_le _ _) ?_
      rw [List.length_range]; exact hp
    have htot : Ok (rDef d__law_total (rCons (rLc (fRng1 (rCons (rCall lenI (rCons (rVar 0) rNil)) rNil)) (.one 4) [4] (rTBl (rChain cLe cLt (rC (.int (0))) (rBin subI (rVar 3) (rVar 4)) (rCall lenI (rCons (rVar 1) rNil)))) (rDef d__law_times (rCons (rBin idxI (rVar 0) (rVar 4)) (rCons (rBin idxI (rVar 1) (rBin subI (rVar 3) (rVar 4))) rNil)))) rNil) [some (T p), some (T o), some (.ref s1.os.length), some (.int (k : Nat)), none] s4) s4 (q (cv (co p) (co o) k)) := by
      refine Ok.eq (total_L (r := ((List.range p.length).filter c).map fun i => co p i * co o (k - i)) (by
        rw [List.map_map]
        exact lc_rngF (m := p.length) (fun i => [some (T p), some (T o), some (.ref s1.os.length), some (.int (k : Nat)), some (.int (i : Nat))]) c (fun i => q (co p i * co o (k - i))) (lenVar rfl) (by omega) (fun _ _ => rfl) (fun i hi s5 g5 => ok_tbl (ok_chain (x := .int 0) (y := .int ((k : Int) - (i : Nat))) (z := .int o.length) ok_c (fun _ _ => ok_bin (x := .int (k : Nat)) (y := .int (i : Nat)) (ok_var rfl) (fun _ _ => ok_var rfl) fun _ _ => ok_sub) (fun _ _ => rfl) (fun _ _ => lenVar rfl) fun _ _ => rfl)) fun i hi hci s5 g5 => by
          have hci' : (0 : Int) ≤ (k : Int) - (i : Nat) ∧ (k : Int) - (i : Nat) < o.length := by
            have := Bool.and_eq_true_iff.mp hci
            exact ⟨of_decide_eq_true this.1, of_decide_eq_true this.2⟩
          exact ok_def (xs := [q (co p i), q (co o (k - i))]) (ok_cons (ok_bin (x := T p) (y := .int (i : Nat)) (ok_var rfl) (fun _ _ => ok_var rfl) fun _ _ => ok_idxT rfl hi) fun _ _ => ok_cons (ok_bin (x := T o) (y := .int ((k : Int) - (i : Nat))) (ok_var rfl) (fun _ _ => ok_bin (x := .int (k : Nat)) (y := .int (i : Nat)) (ok_var rfl) (fun _ _ => ok_var rfl) fun _ _ => ok_sub) fun _ _ => ok_idxT (m := k - i) (by omega) (by omega)) fun _ _ => ok_nil) fun _ _ => ok_ltimes ((vp i).bn (by have := sm.e; omega) sm.a) ((vo (k - i)).bn (by have := sm.e; omega) sm.b)) (fun j hj => sm.sum hd (by omega)) (fun j _ => sm.mul (hd j))) ?_
      rw [S_filter]
      congr 1
      unfold cv
      refine S_ext (fun i hi hik => ?_) (fun i hi hik => ?_) fun i hik hi => ?_
      · by_cases hc2 : c i = true
        · rw [if_pos hc2]
        · rw [if_neg hc2]
          have : ¬ ((k : Int) - (i : Nat) < o.length) := fun z => hc2 (by
            show (decide _ && decide _) = true
            rw [decide_eq_true z, decide_eq_true (show (0 : Int) ≤ (k : Int) - (i : Nat) by omega)]; rfl)
          rw [co_out (xs := o) (by omega)]; grind
      · rw [if_neg]
        intro z
        have := of_decide_eq_true (Bool.and_eq_true_iff.mp z).1
        omega
      · rw [co_out (xs := p) hi]; grind
    obtain ⟨s7, e7, g7⟩ := oks_app (env := [some (T p), some (T o), some (.ref s1.os.length), some (.int (k : Nat)), none]) (i := 2) rfl h4 htot (by rw [List.length_map, tab_len]; omega)
    refine ⟨_, e7, (g4.trans g7).set (Nat.le_refl _) _, ?_⟩
    rw [set_get (g7.get h4), tab_succ, List.map_append]; rfl
where trimmed' {k n : Nat} {p o : List Rat} {e0 e1 e3 e4 : Option IV} {st : Sto} (hl : (tab k (cv (co p) (co o))).length ≤ 100000) (h : st.os[n]? = some (.lst ((tab k (cv (co p) (co o))).map q))) : Ok (rDef d__law_trim (rCons (rVar 2) rNil) [e0, e1, some (.ref n), e3, e4] st) st (T (trimR (tab k (cv (co p) (co o))))) := ltrim_L ⟨n, st, rfl, .refl _, lst_of h⟩ hl
/-! ranges with a step -/
theorem filt_range {s : Nat} (hs : 0 < s) (n : Nat) : (List.range n).filter (fun a => decide (a = s * (a / s))) = (List.range ((n + s - 1) / s)).map (s * ·) := by
  induction n with
  | zero => rw [Nat.zero_add, Nat.div_eq_of_lt (by omega)]; rfl
  | succ n ih =>
    rw [List.range_succ, List.filter_append, ih]
    have hd := Nat.div_add_mod n s
    have hm := Nat.mod_lt n hs
    by_cases h : n = s * (n / s)
    · have : (n + 1 + s - 1) / s = n / s + 1 := by
        rw [show n + 1 + s - 1 = n + s by omega, Nat.add_div_right n hs]
      have h2 : (n + s - 1) / s = n / s := by
        have : n + s - 1 = s * (n / s) + (s - 1) := by omega
        rw [this, Nat.mul_add_div hs, Nat.div_eq_of_lt (show s - 1 < s by omega), Nat.add_zero]
      rw [this, h2, List.range_succ, List.map_append]
      congr 1
      rw [List.filter_cons, decide_eq_true h, if_pos rfl]
      show [n] = [s * (n / s)]
      rw [← h]
    · have : (n + 1 + s - 1) / s = (n + s - 1) / s := by
        have h1 : n + 1 + s - 1 = s * (n / s + 1) + n % s := by rw [Nat.mul_succ]; omega
        have h2 : n + s - 1 = s * (n / s + 1) + (n % s - 1) := by rw [Nat.mul_succ]; omega
        rw [h1, h2, Nat.mul_add_div hs, Nat.mul_add_div hs, Nat.div_eq_of_lt hm, Nat.div_eq_of_lt (show n % s - 1 < s by omega)]
      rw [this, List.filter_cons, decide_eq_false h, if_neg (by decide)]
      simp
theorem size_up (lo n : Nat) {s : Nat} (hs : 0 < s) : Builtin.Range.rangeSize (lo : Int) (n : Int) (s : Int) = ((n - lo + s - 1) / s : Nat) := by
  unfold Builtin.Range.rangeSize
  rw [if_pos (by omega)]
  by_cases h : (lo : Int) < n
  · rw [if_pos h]
    obtain ⟨d, rfl⟩ := Nat.exists_eq_add_of_lt (show lo < n by omega)
    have e : ((lo + d + 1 : Nat) : Int) - (lo : Int) - 1 = (d : Nat) := by omega
    rw [e, show lo + d + 1 - lo + s - 1 = d + s by omega, Nat.add_div_right d hs]
    simp
  · rw [if_neg h, show n - lo = 0 by omega, Nat.zero_add, Nat.div_eq_of_lt (by omega)]; rfl
theorem rg3_up {lo n s : Nat} (hs : 0 < s) (h1 : lo ≤ 1000) (h2 : n ≤ 1000) (h3 : s ≤ 1000) : rg3Ok (lo : Int) (n : Int) (s : Int) = true := by
  have hsz := size_up lo n hs
  have hle : (n - lo + s - 1) / s ≤ 2000 := Nat.le_trans (Nat.div_le_self _ _) (by omega)
  generalize (n - lo + s - 1) / s = z at hsz hle
  have hf : ∀ z : Int, -10000 ≤ z → z ≤ 10000 → Builtin.Range.rangeFitsLong z = true := fun z a b => by
    unfold Builtin.Range.rangeFitsLong
    simp only [Bool.and_eq_true, decide_eq_true_eq]
    constructor <;> omega
  have e : Builtin.Range.small (lo : Int) (n : Int) (s : Int) = true := by
    unfold Builtin.Range.small
    rw [hsz, hf (lo : Int) (by omega) (by omega), hf (n : Int) (by omega) (by omega), hf (s : Int) (by omega) (by omega), hf (z : Int) (by omega) (by omega), if_pos (by omega), hf ((n : Int) + (s - 1)) (by omega) (by omega), Bool.or_true]; rfl
  unfold rg3Ok
  rw [e, hsz, decide_eq_true (show (s : Int) ≠ 0 by omega), decide_eq_true (show 0 ≤ (z : Int) by omega)]
  have : Nat.blt (s : Int).natAbs 1073741824 = true := Nat.ble_eq_true_of_le (by rw [Int.natAbs_natCast]; omega)
  rw [this]; rfl
theorem intsS_map : ∀ (m : Nat) (lo c : Int), intsS lo c m = (List.range m).map fun i => .int (lo + c * (i : Nat))
  | 0, _, _ => rfl
  | m + 1, lo, c => by
    rw [List.range_succ_eq_map, List.map_cons, List.map_map]
    show IV.int lo :: intsS (lo + c) c m = _
    rw [intsS_map m (lo + c) c]
    congr 1
    · simp
    · apply List.map_congr_left
      intro i _
      show IV.int _ = IV.int _
      congr 1
      show lo + c + c * (i : Int) = lo + c * ((i + 1 : Nat) : Int)
      rw [Int.natCast_add, Int.mul_add]; omega
theorem rng3 {a : SemA} {env : IEnv} {st st' : Sto} {lo n s : Nat} (h : a env st = .ok [.int (lo : Nat), .int (n : Nat), .int (s : Nat)] st') (hs : 0 < s) (h1 : lo ≤ 1000) (h2 : n ≤ 1000) (h3 : s ≤ 1000) : fRng3 a env st = .ok (.items ((List.range ((n - lo + s - 1) / s)).map fun i => .int ((lo + s * i : Nat) : Int))) st' := by
  have h5 : fRng3 a env st = (a env st).bind fun v st1 => match v with
    | [.int i, .int j, .int c] => bif rg3Ok i j c then .ok (.items (intsS i c (Builtin.Range.rangeSize i j c).toNat)) st1 else .bad
    | _ => .bad := rfl
  rw [h5, h]
  simp only [RE.bind]
  rw [rg3_up hs h1 h2 h3, cond_true, size_up lo n hs, Int.toNat_natCast, intsS_map]
  congr 2
theorem lc_rng3 {a : SemA} {env : IEnv} {ct : CT} {vs : List Nat} {te : SemE} {lo n s : Nat} (E : Nat → IEnv) (g : Nat → IV) (h : Ok (a env st) st [.int (lo : Nat), .int (n : Nat), .int (s : Nat)]) (hs : 0 < s) (h1 : lo ≤ 1000) (h2 : n ≤ 1000) (h3 : s ≤ 1000) (hp : ∀ k, k < (n - lo + s - 1) / s → ct.put (.int ((lo + s * k : Nat) : Int)) (wipeI env vs) = some (E k)) (ht : ∀ k, k < (n - lo + s - 1) / s → ∀ st1, Gw st st1 → Ok (te (E k) st1) st1 (g k)) :
    OkL (rLc (fRng3 a) ct vs rYes te env st) st ((List.range ((n - lo + s - 1) / s)).map g) := by
  obtain ⟨s1, e1, g1⟩ := h
  exact lc_yes (fun i : Nat => IV.int ((lo + s * i : Nat) : Int)) E g (List.range _) (rng3 e1 hs h1 h2 h3) g1 (by rw [List.length_range]; exact Nat.le_trans (Nat.div_le_self _ _) (by omega)) (fun k hk => hp k (range_mem hk)) fun k hk s gs => ht k (range_mem hk) s (g1.trans gs)
/-! products needed -/
def fct (p : List Rat) : List Nat := (List.range p.length).filter fun i => !decide (co p i = 0)
def cnt (p : List Rat) (m : Nat) : Nat := ((fct p).filter fun i : Nat => decide ((i : Int) ≤ (m : Int))).length
def plainN (p : List Rat) (m : Nat) : Int := ((List.range m).map fun k => (cnt p k : Int)).sum
def lessN (p : List Rat) (m s : Nat) : Int := ((List.range ((m + s - 1) / s)).map fun k => (cnt p (s * k) : Int)).sum
theorem needed_ok {m : Nat} (hp : PolyOk p) (hs : StepOk s) (hm : m ≤ 300) : Ok (d_products_needed [T p, .int m, .int s] st) st (.tup [.int (plainN p m), .int (lessN p m s)]) := by
  have h1 := hp.len; have h3 := hs.lo; have h4 := hs.hi
  unfold d_products_needed r_products_needed
  have hf : ∀ st, OkL (rLc (fEnum (rCons (rVar 0) rNil)) (.tup [5, 6]) [5, 6] (rTBl (rBin cNe (rVar 6) (rC g_NONE))) (rVar 5) (startI 8 [T p, .int m, .int s]) st) st ((fct p).map fun i => .int (i : Nat)) := fun st => by
    have := lc_enum (it := fEnum (rCons (rVar 0) rNil)) (ct := .tup [5, 6]) (vs := [5, 6]) (tt := rTBl (rBin cNe (rVar 6) (rC g_NONE))) (te := rVar 5) (env := startI 8 [T p, .int m, .int s]) (st0 := st) (st := st) (xs := p.map q) (fun i => [some (T p), some (.int m), some (.int s), none, none, some (.int (i : Nat)), some (((p.map q)[i]?).getD .non), none]) (fun i => !decide (co p i = 0)) (fun i => .int (i : Nat)) rfl (.refl _) (by rw [List.length_map]; omega) (fun _ _ => rfl) (fun i hi s1 g1 => by
      rw [List.length_map] at hi
      rw [T_at hi]
      exact ok_tbl (ok_bin (x := q (co p i)) (y := q 0) (ok_var rfl) (fun _ _ => ok_c) fun _ _ => ok_neq)) fun _ _ _ _ _ => ok_var rfl
    rw [List.length_map] at this
    exact this
  have hcnt : ∀ (n k : Nat) (x4 : Option IV) (st : Sto), lstAt st n = some ((fct p).map fun i => .int (i : Nat)) → Ok (rCall lenI (rCons (rLc (fSeq (rVar 3)) (.one 5) [5] (rTBl (rBin cLe (rVar 5) (rVar 7))) (rVar 5)) rNil) [some (T p), some (.int m), some (.int s), some (.ref n), x4, none, none, some (.int (k : Nat))] st) st (.int (cnt p k : Nat)) := fun n k x4 st hl => by
    refine Ok.eq (len_L (lc_list (F := fun i : Nat => IV.int (i : Nat)) (ks := fct p) (fun i => [some (T p), some (.int m), some (.int s), some (.ref n), x4, some (.int (i : Nat)), none, some (.int (k : Nat))]) (fun i => decide ((i : Int) ≤ (k : Nat))) (fun i => .int (i : Nat)) rfl hl ?_ (fun _ _ => rfl) (fun i _ s1 _ => ok_tbl (ok_bin (x := .int (i : Nat)) (y := .int (k : Nat)) (ok_var rfl) (fun _ _ => ok_var rfl) fun _ _ => ok_le)) fun i _ _ s1 _ => ok_var rfl)) ?_
    · refine Nat.le_trans (List.length_filter_le _ _) ?_
      rw [List.length_range]; omega
    · rw [List.length_map]; rfl
  refine ok_fn (okr_seq (s_filter rfl hp) fun s1 g1 => okr_seq (oks_chk (Ok.eq (ok_tnot (ok_trub (k := true) (ok_def (xs := [.int m, .int 0, .int 300]) (ok_cons (ok_var rfl) fun _ _ => ok_cons ok_c fun _ _ => ok_cons ok_c fun _ _ => ok_nil) fun _ _ => from_yes (by omega) (by omega) _))) rfl)) fun s2 g2 => okr_seq (s_step rfl hs) fun s3 g3 => okr_setL (hf s3) fun n s4 g4 hl => okr_seq (env' := [some (T p), some (.int m), some (.int s), some (.ref n), some (.int (plainN p m)), none, none, none]) (oks_set (i := 4) (sum_L (ks := (List.range m).map fun k => (cnt p k : Int)) ?_)) fun s5 g5 => okr_ret (ok_tup (ok_cons (ok_var rfl) fun s6 g6 => ok_cons (sum_L (ks := (List.range ((m + s - 1) / s)).map fun k => (cnt p (s * k) : Int)) ?_) fun _ _ => ok_nil) (by simp)))
  · rw [List.map_map]
    exact lc_rng (m := m) (fun k => [some (T p), some (.int m), some (.int s), some (.ref n), none, none, none, some (.int (k : Nat))]) (fun k => .int (cnt p k : Nat)) (ok_var rfl) (by omega) (fun _ _ => rfl) fun k hk s5 g5 => hcnt n k none s5 (g5.lst hl)
  · rw [List.map_map]
    have := lc_rng3 (lo := 0) (n := m) (s := s) (a := rCons (rC (.int (0))) (rCons (rVar 1) (rCons (rVar 2) rNil))) (env := [some (T p), some (.int m), some (.int s), some (.ref n), some (.int (plainN p m)), none, none, none]) (st := s6) (ct := .one 7) (vs := [7]) (te := rCall lenI (rCons (rLc (fSeq (rVar 3)) (.one 5) [5] (rTBl (rBin cLe (rVar 5) (rVar 7))) (rVar 5)) rNil)) (fun k => [some (T p), some (.int m), some (.int s), some (.ref n), some (.int (plainN p m)), none, none, some (.int ((0 + s * k : Nat) : Int))]) (fun k => .int (cnt p (0 + s * k) : Nat)) (ok_cons ok_c fun _ _ => ok_cons (ok_var rfl) fun _ _ => ok_cons (ok_var rfl) fun _ _ => ok_nil) h3 (by omega) (by omega) (by omega) (fun _ _ => rfl) fun k hk s7 g7 => hcnt n (0 + s * k) _ s7 (((g5.trans g6).trans g7).lst hl)
    rw [Nat.sub_zero] at this
    simp only [Nat.zero_add] at this
    exact this
end
end law_k17

set_option Elab.async false
set_option linter.all false
set_option maxRecDepth 100000
set_option maxHeartbeats 4000000
namespace law_k17
open PySem PySem.Spec PyProof.Rows L2 PI PL
section
variable {st : Sto} {r x p o : List Rat} {s : Nat} {v w : IV} {env : IEnv}
abbrev bad (v : IV) : IX := ⟨1, [("thing", v)]⟩
/-! rows, filters, steps that are not taken -/
abbrev tRow : SemT := (rTOr (rTNot (rTru (rIsT .tup (rVar 0)))) (rTOr (rTBl (rBin cGt (rCall lenI (rCons (rVar 0) rNil)) (rC g_MOST_ROW))) (rTNot (rTru (rCall allI (rCons (rLc (fSeq (rVar 0)) (.one 1) [1] rYes (rDef d_is_fraction (rCons (rVar 1) rNil))) rNil))))))
abbrev tPol : SemT := (rTOr (rTNot (rTru (rIsT .tup (rVar 0)))) (rTOr (rTBl (rBin cGt (rCall lenI (rCons (rVar 0) rNil)) (rC g_MOST_FACTORS))) (rTNot (rTru (rCall allI (rCons (rLc (fSeq (rVar 0)) (.one 1) [1] rYes (rDef d_is_fraction (rCons (rVar 1) rNil))) rNil))))))
def NotTup (v : IV) (st : Sto) : Prop := ∃ t : TY, (∀ st1, Gw st st1 → tyI st1 v = some t) ∧ t.sub .tup = false
theorem no_tup {d : SemT} (h : NotTup v st) (he : env[0]? = some (some v)) : Ok (rTOr (rTNot (rTru (rIsT .tup (rVar 0)))) d env st) st true := by
  obtain ⟨t, h1, h2⟩ := h
  exact ok_tor (k := true) (l := true) (Ok.eq (ok_tnot (ok_trub (k := false) (Ok.eq (ok_isT (ok_var he) fun s g => h1 s g) (by rw [h2])))) rfl) fun _ _ z => nomatch z
theorem nt_non : NotTup .non st := ⟨.non, fun _ _ => rfl, rfl⟩
theorem nt_ref {n : Nat} {xs : List IV} (h : st.os[n]? = some (.lst xs)) : NotTup (.ref n) st := ⟨.lst, fun s g => by
  show (match s.os[n]? with
    | some (.lst _) => some TY.lst
    | some (.frl _) => some TY.lst
    | _ => none) = _
  rw [g.get h], rfl⟩
theorem NotTup.grow {st' : Sto} (h : NotTup v st) (g : Gw st st') : NotTup v st' := by
  obtain ⟨t, h1, h2⟩ := h
  exact ⟨t, fun s gs => h1 s (g.trans gs), h2⟩
theorem all_no {xs : List IV} (he : env[0]? = some (some (.tup xs))) (h1 : 1 < env.length) (hl : xs.length ≤ 100000) (f : IV → Bool) (hf : ∀ x ∈ xs, ∀ st, Ok (d_is_fraction [x] st) st (.bl (f x))) : Ok (rCall allI (rCons (rLc (fSeq (rVar 0)) (.one 1) [1] rYes (rDef d_is_fraction (rCons (rVar 1) rNil))) rNil) env st) st (.bl (xs.all f)) := by
  refine all_L (ks := xs) (f := f) (lc_seqY (F := id) (ks := xs) (fun k => (env.set 1 none).set 1 (some k)) (fun k => .bl (f k)) (by rw [List.map_id]; exact ok_var he) hl (fun _ _ => rfl) fun k hk s _ => ok_def (xs := [k]) (ok_cons (ok_var ?_) fun _ _ => ok_nil) fun s _ => hf k hk s)
  rw [List.getElem?_set_self (by simpa using h1)]
theorem frac24 (st : Sto) : d_is_fraction [.tup [.int 2, .int 4]] st = .ok (.bl false) st := by kernel_rfl
theorem tup_T {d : SemT} {e : SemT} {k l : Bool} (he : env[0]? = some (some (.tup (r.map q)))) (h1 : Ok (d env st) st k) (h2 : ∀ st1, Gw st st1 → Ok (e env st1) st1 l) : True := trivial
/-- a row that is not taken -/
def BadRow (v : IV) (st : Sto) : Prop := ∀ st1, Gw st st1 → Ok (tRow [some v, none] st1) st1 true
/-- a filter that is not taken -/
def BadPol (v : IV) (st : Sto) : Prop := ∀ st1, Gw st st1 → Ok (d_is_poly [v] st1) st1 (.bl false)
theorem BadRow.grow {st' : Sto} (h : BadRow v st) (g : Gw st st') : BadRow v st' := fun s gs => h s (g.trans gs)
theorem BadPol.grow {st' : Sto} (h : BadPol v st) (g : Gw st st') : BadPol v st' := fun s gs => h s (g.trans gs)
theorem br_no (h : NotTup v st) : BadRow v st := fun s g => no_tup (h.grow g) rfl
theorem br_24 : BadRow (.tup [.tup [.int 2, .int 4]]) st := fun s g => by
  refine Ok.eq (ok_tor (ok_tnot (ok_trub (k := true) (isTup (xs := [.tup [.int 2, .int 4]]) rfl))) fun _ _ _ => ok_tor (l := true) (ok_tbl (ok_bin (x := .int 1) (y := .int 300) (ok_call (ok_cons (ok_var rfl) fun _ _ => ok_nil) fun _ _ => ok_ofO rfl) (fun _ _ => ok_c) fun _ _ => ok_gt)) fun _ _ _ => Ok.eq (ok_tnot (ok_trub (k := false) (all_no (xs := [.tup [.int 2, .int 4]]) rfl (by decide) (by simp) (fun _ => false) fun x hx s => ?_))) rfl) rfl
  rw [List.mem_singleton.mp hx]
  exact .same (frac24 s)
theorem br_long (h : 300 < x.length) : BadRow (T x) st := fun s g => by
  refine Ok.eq (ok_tor (ok_tnot (ok_trub (k := true) (isTup (xs := x.map q) rfl))) fun _ _ _ => ok_tor (k := true) (l := true) (Ok.eq (ok_tbl (ok_bin (x := .int x.length) (y := .int 300) (lenVar rfl) (fun _ _ => ok_c) fun _ _ => ok_gt)) (decide_eq_true (by omega))) fun _ _ z => nomatch z) rfl
theorem bp_test (h : Ok (tPol [some v, none] st) st true) : Ok (d_is_poly [v] st) st (.bl false) := by
  unfold d_is_poly r_is_poly
  exact ok_fn (okr_now (okr_ifT h fun _ _ => okr_ret ok_c))
theorem bp_no (h : NotTup v st) : BadPol v st := fun s g => bp_test (no_tup (h.grow g) rfl)
theorem bp_24 : BadPol (.tup [.tup [.int 2, .int 4]]) st := fun s g => bp_test (by
  refine Ok.eq (ok_tor (ok_tnot (ok_trub (k := true) (isTup (xs := [.tup [.int 2, .int 4]]) rfl))) fun _ _ _ => ok_tor (l := true) (ok_tbl (ok_bin (x := .int 1) (y := .int 60) (ok_call (ok_cons (ok_var rfl) fun _ _ => ok_nil) fun _ _ => ok_ofO rfl) (fun _ _ => ok_c) fun _ _ => ok_gt)) fun _ _ _ => Ok.eq (ok_tnot (ok_trub (k := false) (all_no (xs := [.tup [.int 2, .int 4]]) rfl (by decide) (by simp) (fun _ => false) fun x hx s => ?_))) rfl) rfl
  rw [List.mem_singleton.mp hx]
  exact .same (frac24 s))
theorem bp_long (h : 60 < x.length) : BadPol (T x) st := fun s g => bp_test (Ok.eq (ok_tor (ok_tnot (ok_trub (k := true) (isTup (xs := x.map q) rfl))) fun _ _ _ => ok_tor (k := true) (l := true) (Ok.eq (ok_tbl (ok_bin (x := .int x.length) (y := .int 60) (lenVar rfl) (fun _ _ => ok_c) fun _ _ => ok_gt)) (decide_eq_true (by omega))) fun _ _ z => nomatch z) rfl)
theorem bp_0 : BadPol (T [0]) st := fun s g => by
  unfold d_is_poly r_is_poly
  have hb : ∀ a ∈ [(0 : Rat)], Bn a := fun a ha => by
    rw [List.mem_singleton.mp ha]
    exact (Dy.zero 2 8).bn (by decide) (by decide)
  refine ok_fn (okr_seq (oks_chk (Ok.eq (ok_tor (ok_tnot (ok_trub (k := true) (isTup (xs := [q 0]) rfl))) fun _ _ _ => ok_tor (ok_tbl (ok_bin (x := .int 1) (y := .int 60) (lenVar (r := [0]) rfl) (fun _ _ => ok_c) fun _ _ => ok_gt)) fun _ _ _ => ok_tnot (ok_trub (k := true) (all_frac (r := [0]) rfl (by decide) (by show 1 < 2; decide) (by simp) hb))) rfl)) fun s1 g1 => okr_ret ?_)
  exact Ok.eq (ok_or (k := decide ([(0 : Rat)] = [])) (l := false) (ok_bin (x := T [0]) (y := .tup []) (ok_var rfl) (fun _ _ => ok_tup ok_nil (by simp)) fun _ _ => ok_eqN) fun s2 g2 hk => Ok.eq (ok_bin (x := q 0) (y := q 0) (ok_bin (x := T [0]) (y := .int (-1)) (ok_var rfl) (fun _ _ => ok_un ok_c fun _ _ => ok_neg) fun _ _ => ok_idx rfl) (fun _ _ => ok_c) fun _ _ => ok_neq) (by rw [decide_eq_true rfl]; rfl)) (by rw [decide_eq_false (by simp)]; rfl)
/-! what is raised -/
theorem ex_row (h : BadRow v st) : Ex (d_check_rate_row [v] st) st (bad v) := by
  unfold d_check_rate_row r_check_rate_row
  exact ex_fn (exs_fire (h st (.refl _)) fun _ _ => rfl)
theorem ex_filter (h : BadPol v st) : Ex (d_check_filter [v] st) st (bad v) := by
  unfold d_check_filter r_check_filter
  exact ex_fn (exs_fire (Ok.eq (ok_tnot (ok_trub (k := false) (ok_def (xs := [v]) (ok_cons (ok_var rfl) fun _ _ => ok_nil) fun s g => h s g))) rfl) fun _ _ => rfl)
/-- a step that is not taken -/
def BadStep (v : IV) : Prop := ∀ st, d_is_from [v, .int 1, .int 12] st = .ok (.bl false) st
theorem ex_step (h : BadStep v) : Ex (d_check_step [v] st) st (bad v) := by
  unfold d_check_step r_check_step
  exact ex_fn (exs_fire (Ok.eq (ok_tnot (ok_trub (k := false) (ok_def (xs := [v, .int 1, .int 12]) (ok_cons (ok_var rfl) fun _ _ => ok_cons ok_c fun _ _ => ok_cons ok_c fun _ _ => ok_nil) fun s g => .same (h s)))) rfl) fun _ _ => rfl)
theorem x_row {i : Nat} (e : env[i]? = some (some v)) (h : BadRow v st) : ExS (sExpr (rDef d_check_rate_row (rCons (rVar i) rNil)) env st) st (bad v) := exs_expr (ex_def (xs := [v]) (ok_cons (ok_var e) fun _ _ => ok_nil) fun s g => ex_row (h.grow g))
theorem x_filter {i : Nat} (e : env[i]? = some (some v)) (h : BadPol v st) : ExS (sExpr (rDef d_check_filter (rCons (rVar i) rNil)) env st) st (bad v) := exs_expr (ex_def (xs := [v]) (ok_cons (ok_var e) fun _ _ => ok_nil) fun s g => ex_filter (h.grow g))
theorem x_step {i : Nat} (e : env[i]? = some (some v)) (h : BadStep v) : ExS (sExpr (rDef d_check_step (rCons (rVar i) rNil)) env st) st (bad v) := exs_expr (ex_def (xs := [v]) (ok_cons (ok_var e) fun _ _ => ok_nil) fun s g => ex_step h)
theorem one_bn : Bn 1 := Dy.one.bn (by decide) (by decide)
theorem row_ones {n : Nat} (h : n ≤ 300) : RowOk (ones n) := row_of (vs_ones n) (by decide) (by decide) (by unfold ones; rw [List.length_replicate]; exact h)
theorem pol_ones {n : Nat} (h : n ≤ 60) : PolyOk (ones n) := poly_of (vs_ones n) (by decide) (by decide) (by unfold ones; rw [List.length_replicate]; exact h) (trim_ones n)
theorem x1_every {w : IV} (h : BadRow v st) : Ex (d_every [v, w] st) st (bad v) := by
  unfold d_every r_every
  exact ex_fn (exs_now (x_row rfl h))
theorem x1_between {w : IV} (h : BadRow v st) : Ex (d_between [v, w] st) st (bad v) := by
  unfold d_between r_between
  exact ex_fn (exs_now (x_row rfl h))
theorem x1_filtered (h : BadRow v st) : Ex (d_filtered [T (ones 1), v] st) st (bad v) := by
  unfold d_filtered r_filtered
  exact ex_fn (exs_seq (s_filter rfl (pol_ones (by decide))) fun s g => exs_now (x_row rfl (h.grow g)))
theorem x1_fevery {w : IV} (h : BadRow v st) : Ex (d_filtered_every [T (ones 1), v, w] st) st (bad v) := by
  unfold d_filtered_every r_filtered_every
  exact ex_fn (exs_seq (s_filter rfl (pol_ones (by decide))) fun s g => exs_now (x_row rfl (h.grow g)))
theorem x2_every (h : BadStep v) : Ex (d_every [T (ones 1), v] st) st (bad v) := by
  unfold d_every r_every
  exact ex_fn (exs_seq (s_row rfl (row_ones (by decide))) fun s g => exs_now (x_step rfl h))
theorem x2_between (h : BadStep v) : Ex (d_between [T (ones 1), v] st) st (bad v) := by
  unfold d_between r_between
  exact ex_fn (exs_seq (s_row rfl (row_ones (by decide))) fun s g => exs_now (x_step rfl h))
theorem x2_held (h : BadStep v) : Ex (d_held [T (ones 1), v] st) st (bad v) := by
  unfold d_held r_held
  exact ex_fn (exs_now (exs_asg (ex_def (xs := [T (ones 1), v]) (ok_cons (ok_var rfl) fun _ _ => ok_cons (ok_var rfl) fun _ _ => ok_nil) fun s g => x2_between h)))
theorem x2_phases (h : BadStep v) : Ex (d_phases_of [T (ones 1), v] st) st (bad v) := by
  unfold d_phases_of r_phases_of
  exact ex_fn (exs_seq (s_filter rfl (pol_ones (by decide))) fun s g => exs_now (x_step rfl h))
theorem x2_first (h : BadStep v) : Ex (d_can_go_first [T (ones 1), v] st) st (bad v) := by
  unfold d_can_go_first r_can_go_first
  exact ex_fn (exs_seq (s_filter rfl (pol_ones (by decide))) fun s g => exs_now (x_step rfl h))
theorem x2_needed (h : BadStep v) : Ex (d_products_needed [T (ones 1), .int 3, v] st) st (bad v) := by
  unfold d_products_needed r_products_needed
  exact ex_fn (exs_seq (s_filter rfl (pol_ones (by decide))) fun s g => exs_seq (oks_chk (Ok.eq (ok_tnot (ok_trub (k := true) (ok_def (xs := [.int 3, .int 0, .int 300]) (ok_cons (ok_var rfl) fun _ _ => ok_cons ok_c fun _ _ => ok_cons ok_c fun _ _ => ok_nil) fun _ _ => from_yes (by decide) (by decide) _))) rfl)) fun s g => exs_now (x_step rfl h))
theorem x3_filtered {w : IV} (h : BadPol v st) : Ex (d_filtered [v, w] st) st (bad v) := by
  unfold d_filtered r_filtered
  exact ex_fn (exs_now (x_filter rfl h))
theorem x3_spread {w : IV} (h : BadPol v st) : Ex (d_spread_filter [v, w] st) st (bad v) := by
  unfold d_spread_filter r_spread_filter
  exact ex_fn (exs_now (x_filter rfl h))
theorem x3_behind {w : IV} (h : BadPol v st) : Ex (d_can_go_behind [v, w] st) st (bad v) := by
  unfold d_can_go_behind r_can_go_behind
  refine ex_fn (exs_now (exs_asg (ex_def (xs := [v, w]) (ok_cons (ok_var rfl) fun _ _ => ok_cons (ok_var rfl) fun _ _ => ok_nil) fun s g => ?_)))
  unfold d_phases_of r_phases_of
  exact ex_fn (exs_now (x_filter rfl (h.grow g)))
theorem x3_in_one (h : BadPol v st) : Ex (d_in_one [T (ones 1), v] st) st (bad v) := by
  unfold d_in_one r_in_one
  exact ex_fn (exs_seq (s_filter rfl (pol_ones (by decide))) fun s g => exs_now (x_filter rfl (h.grow g)))
/-- a count that is not taken -/
def BadMany (v : IV) : Prop := ∀ st, d_is_from [v, .int 0, .int 300] st = .ok (.bl false) st
theorem x5_needed {w : IV} (h : BadMany v) : Ex (d_products_needed [T (ones 1), v, w] st) st (bad v) := by
  unfold d_products_needed r_products_needed
  exact ex_fn (exs_seq (s_filter rfl (pol_ones (by decide))) fun s g => exs_now (exs_fire (Ok.eq (ok_tnot (ok_trub (k := false) (ok_def (xs := [v, .int 0, .int 300]) (ok_cons (ok_var rfl) fun _ _ => ok_cons ok_c fun _ _ => ok_cons ok_c fun _ _ => ok_nil) fun s g => .same (h s)))) rfl) fun _ _ => rfl))
theorem ones_len (n : Nat) : (ones n).length = n := by unfold ones; rw [List.length_replicate]
theorem x6_between : Ex (d_between [T (ones 151), .int 2] st) st (bad (T (ones 151))) := by
  unfold d_between r_between
  refine ex_fn (exs_seq (s_row rfl (row_ones (by decide))) fun s1 g1 => exs_seq (s_step (s := 2) rfl ⟨by decide, by decide⟩) fun s2 g2 => exs_now (exs_fire (Ok.eq (ok_tbl (ok_bin (x := .int (((ones 151).length : Int) * 2)) (y := .int 300) (ok_bin (x := .int (ones 151).length) (y := .int 2) (lenVar rfl) (fun _ _ => ok_var rfl) fun _ _ => ok_mul (sm_of (by rw [ones_len]; decide)) (sm_of (by decide))) (fun _ _ => ok_c) fun _ _ => ok_gt)) ?_) fun _ _ => rfl))
  rw [ones_len]; rfl
theorem x6_spread : Ex (d_spread_filter [T (ones 31), .int 2] st) st (bad (T (ones 31))) := by
  unfold d_spread_filter r_spread_filter
  refine ex_fn (exs_seq (s_filter rfl (pol_ones (by decide))) fun s1 g1 => exs_seq (s_step (s := 2) rfl ⟨by decide, by decide⟩) fun s2 g2 => exs_now (exs_fire (Ok.eq (ok_tbl (ok_bin (x := .int ((((ones 31).length : Int) - 1) * 2 + 1)) (y := .int 60) (ok_bin (x := .int ((((ones 31).length : Int) - 1) * 2)) (y := .int 1) (ok_bin (x := .int (((ones 31).length : Int) - 1)) (y := .int 2) (ok_bin (x := .int (ones 31).length) (y := .int 1) (lenVar rfl) (fun _ _ => ok_c) fun _ _ => ok_sub) (fun _ _ => ok_var rfl) fun _ _ => ok_mul (sm_of (by rw [ones_len]; decide)) (sm_of (by decide))) (fun _ _ => ok_c) fun _ _ => ok_add) (fun _ _ => ok_c) fun _ _ => ok_gt)) ?_) fun _ _ => rfl))
  rw [ones_len]; rfl
theorem x6_first : Ok (d_can_go_first [T (ones 31), .int 2] st) st .non := by
  unfold d_can_go_first r_can_go_first
  refine ok_fn (okr_seq (s_filter rfl (pol_ones (by decide))) fun s1 g1 => okr_seq (s_step (s := 2) rfl ⟨by decide, by decide⟩) fun s2 g2 => okr_ret (ok_ifF (Ok.eq (ok_tbl (ok_bin (x := .int ((((ones 31).length : Int) - 1) * 2 + 1)) (y := .int 60) (ok_bin (x := .int ((((ones 31).length : Int) - 1) * 2)) (y := .int 1) (ok_bin (x := .int (((ones 31).length : Int) - 1)) (y := .int 2) (ok_bin (x := .int (ones 31).length) (y := .int 1) (lenVar rfl) (fun _ _ => ok_c) fun _ _ => ok_sub) (fun _ _ => ok_var rfl) fun _ _ => ok_mul (sm_of (by rw [ones_len]; decide)) (sm_of (by decide))) (fun _ _ => ok_c) fun _ _ => ok_add) (fun _ _ => ok_c) fun _ _ => ok_le)) ?_) fun _ _ => ok_c))
  rw [ones_len]; rfl
theorem ones_at {n i : Nat} (h : i < n) : co (ones n) i = 1 := by
  unfold co ones
  rw [List.getElem?_replicate, if_pos h]; rfl
theorem trim_keeps {xs : List Rat} {i : Nat} (h : co xs i ≠ 0) : i < (trimR xs).length := by
  apply Classical.byContradiction
  intro hn
  exact h (by rw [← co_trim]; exact co_out (by omega))
theorem prod_long : 60 < (prod (ones 31) (ones 31)).length := by
  unfold prod
  refine trim_keeps ?_
  rw [co_tab, ones_len, if_pos (by decide)]
  unfold cv
  rw [S_one (k := 30) (by decide) fun i hi hne => ?_]
  · rw [ones_at (by decide), Rat.mul_one]; decide
  · by_cases h : i < 31
    · rw [co_out (xs := ones 31) (i := 60 - i) (by rw [ones_len]; omega)]; grind
    · rw [co_out (xs := ones 31) (i := i) (by rw [ones_len]; omega)]; grind
theorem sm_ones : Small 2 8 2 8 := ⟨by decide, by decide, by decide, by decide⟩
theorem x6_in_one : Ex (d_in_one [T (ones 31), T (ones 31)] st) st (bad (T (ones 31))) := by
  unfold d_in_one r_in_one
  refine ex_fn (exs_seq (s_filter rfl (pol_ones (by decide))) fun s1 g1 => exs_seq (s_filter rfl (pol_ones (by decide))) fun s2 g2 => exs_seq (env' := [some (T (ones 31)), some (T (ones 31)), some (T (prod (ones 31) (ones 31)))]) (oks_set (i := 2) (ok_def (xs := [T (ones 31), T (ones 31)]) (ok_cons (ok_var rfl) fun _ _ => ok_cons (ok_var rfl) fun _ _ => ok_nil) fun _ _ => product_ok (vs_ones 31) (vs_ones 31) (by rw [ones_len]; decide) (by rw [ones_len]; decide) sm_ones)) fun s3 g3 => exs_now (exs_fire (Ok.eq (ok_tbl (ok_bin (x := .int (prod (ones 31) (ones 31)).length) (y := .int 60) (lenVar rfl) (fun _ _ => ok_c) fun _ _ => ok_gt)) ?_) fun _ _ => rfl))
  exact decide_eq_true (by have := prod_long; omega)
end
end law_k17

set_option Elab.async false
set_option linter.all false
set_option maxRecDepth 100000
set_option maxHeartbeats 4000000
namespace law_k17
open PySem PySem.Spec PyProof.Rows L2 PI PL
section
variable {st : Sto} {r x p o : List Rat} {s : Nat} {v w : IV} {env : IEnv}
/-! texts that are short -/
structure Shw (d : PyData) (B : Nat) : Prop where
  s : d.showable = true
  l : d.shown.length ≤ B
  c : Chs d.shown
theorem all_show {ds : List PyData} (h : ∀ d ∈ ds, d.showable = true) : PyData.showableAll ds = true := by
  induction ds with
  | nil => rfl
  | cons d ds ih => rw [PyData.showableAll, h d List.mem_cons_self, ih fun e he => h e (List.mem_cons_of_mem _ he)]; rfl
theorem shown_map (ds : List PyData) : PyData.shownAll ds = ds.map PyData.shown := by
  induction ds with
  | nil => simp [PyData.shownAll]
  | cons d ds ih => rw [PyData.shownAll, List.map_cons, ih]
theorem shw_tup {ds : List PyData} {B : Nat} (h : ∀ d ∈ ds, Shw d B) : Shw (.tuple ds) ((B + 2) * ds.length + 3) := by
  have t := tupleC (B := B) (PyData.shownAll ds) (by
    rw [shown_map]
    intro t ht
    obtain ⟨d, hd, rfl⟩ := List.mem_map.mp ht
    exact ⟨(h d hd).l, (h d hd).c⟩)
  rw [shown_map, List.length_map, ← shown_map] at t
  refine ⟨?_, ?_, ?_⟩
  · rw [PyData.showable]; exact all_show fun d hd => (h d hd).s
  · rw [PyData.shown]; exact t.1
  · rw [PyData.shown]; exact t.2
theorem shw_repr {d : PyData} {B : Nat} (h : Shw d B) (hB : B ≤ 100000) (hv : pd st.os 63 v = some d) : ∃ s, reprI [v] st = some (.str s, st) := by
  refine repr_of hv ?_
  have a : Nat.ble d.shown.length lineI = true := Nat.ble_eq_true_of_le (Nat.le_trans h.l hB)
  have b : ((txtOf d).all fun c => decide (c < 0x110000)) = true := by
    rw [List.all_eq_true]
    intro c hc
    exact decide_eq_true (h.c c hc)
  rw [h.s, a, b]; rfl
theorem shw_1 : Shw (.tuple [.int 1, .int 1]) 20 := ⟨by decide +kernel, by decide +kernel, by unfold Chs; decide +kernel⟩
theorem shw_0 : Shw (.tuple [.int 0, .int 1]) 20 := ⟨by decide +kernel, by decide +kernel, by unfold Chs; decide +kernel⟩
theorem pd_ones (os : List IO) (m n : Nat) : pd os (m + 3) (T (ones n)) = some (.tuple (List.replicate n (.tuple [.int 1, .int 1]))) := by
  rw [pd_T]
  unfold ones
  rw [List.map_replicate]; rfl
theorem shw_ones (n : Nat) : Shw (.tuple (List.replicate n (.tuple [.int 1, .int 1]))) (22 * n + 3) := by
  have := shw_tup (B := 20) (ds := List.replicate n (.tuple [.int 1, .int 1])) fun d hd => by rw [List.eq_of_mem_replicate hd]; exact shw_1
  rwa [List.length_replicate] at this
/-- its text can be told -/
def Rp (v : IV) (st : Sto) : Prop := ∀ st1, Gw st st1 → ∃ s, reprI [v] st1 = some (.str s, st1)
theorem Rp.grow {st' : Sto} (h : Rp v st) (g : Gw st st') : Rp v st' := fun s gs => h s (g.trans gs)
theorem rp_ones {n : Nat} (h : n ≤ 4000) : Rp (T (ones n)) st := fun s g => shw_repr (shw_ones n) (by omega) (pd_ones s.os 60 n)
theorem rp_of {d : PyData} (hd : (d.showable && (Nat.ble d.shown.length lineI && (txtOf d).all fun c => decide (c < 0x110000))) = true) (h : ∀ os, pd os 63 v = some d) : Rp v st := fun s g => repr_of (h s.os) hd
theorem rp_non : Rp .non st := rp_of (d := .none) (by decide +kernel) fun _ => rfl
theorem rp_24 : Rp (.tup [.tup [.int 2, .int 4]]) st := rp_of (d := .tuple [.tuple [.int 2, .int 4]]) (by decide +kernel) fun _ => rfl
theorem rp_T0 : Rp (T [0]) st := rp_of (d := .tuple [.tuple [.int 0, .int 1]]) (by decide +kernel) fun _ => rfl
theorem pd_list {os : List IO} {n k : Nat} {xs : List IV} {ds : List PyData} (h : os[n]? = some (.lst xs)) (hd : allSome (pd os k) xs = some ds) : pd os (k + 1) (.ref n) = some (.list ds) := by
  have hl : lstAt ⟨os, 0⟩ n = some xs := lst_of h
  show (match lstAt ⟨os, 0⟩ n with
    | some xs => match allSome (pd os k) xs with
      | some ds => some (PyData.list ds)
      | none => none
    | none => none) = _
  rw [hl]
  simp only [hd]
theorem rp_list {n : Nat} (h : st.os[n]? = some (.lst [q 1])) : Rp (.ref n) st := fun s g => repr_of (d := .list [.tuple [.int 1, .int 1]]) (pd_list (g.get h) rfl) (by decide +kernel)
theorem rp_list2 {n : Nat} (h : st.os[n]? = some (.lst [T (ones 1)])) : Rp (.ref n) st := fun s g => repr_of (d := .list [.tuple [.tuple [.int 1, .int 1]]]) (pd_list (g.get h) rfl) (by decide +kernel)
/-! the checks of a turn -/
theorem chk {body due : SemE} (hd : Ok (due env st) st v) (hb : ∀ st1, Gw st st1 → Ex (body env st1) st1 (bad v)) (hr : Rp v st) : OkS (sIf (rTNot (rTru (rRefuses 1 "thing" body due))) (sRet (rC (.bl false))) sPass env st) st env :=
  oks_chk (Ok.eq (ok_tnot (ok_trub (k := true) (ok_refuses hd hb hr))) rfl)
abbrev ev (v : IV) : IEnv := [some v, some (T (ones 1))]
abbrev b1 : SemS := (sSeq (sIf (rTNot (rTru (rRefuses 1 "thing" (rDef d_every (rCons (rVar 0) (rCons (rC .non) rNil))) (rVar 0)))) (sRet (rC (.bl false))) sPass)
    (sSeq (sIf (rTNot (rTru (rRefuses 1 "thing" (rDef d_between (rCons (rVar 0) (rCons (rC .non) rNil))) (rVar 0)))) (sRet (rC (.bl false))) sPass)
    (sSeq (sIf (rTNot (rTru (rRefuses 1 "thing" (rDef d_filtered (rCons (rVar 1) (rCons (rVar 0) rNil))) (rVar 0)))) (sRet (rC (.bl false))) sPass)
    (sIf (rTNot (rTru (rRefuses 1 "thing" (rDef d_filtered_every (rCons (rVar 1) (rCons (rVar 0) (rCons (rC .non) rNil)))) (rVar 0)))) (sRet (rC (.bl false))) sPass))))
theorem b1_ok (h : BadRow v st) (hr : Rp v st) : OkS (b1 (ev v) st) st (ev v) :=
  oks_seq (chk (ok_var rfl) (fun s g => ex_def (xs := [v, .non]) (ok_cons (ok_var rfl) fun _ _ => ok_cons ok_c fun _ _ => ok_nil) fun s2 g2 => x1_every (h.grow (g.trans g2))) hr) fun s1 g1 =>
  oks_seq (chk (ok_var rfl) (fun s g => ex_def (xs := [v, .non]) (ok_cons (ok_var rfl) fun _ _ => ok_cons ok_c fun _ _ => ok_nil) fun s2 g2 => x1_between (h.grow ((g1.trans g).trans g2))) (hr.grow g1)) fun s2 g2 =>
  oks_seq (chk (ok_var rfl) (fun s g => ex_def (xs := [T (ones 1), v]) (ok_cons (ok_var rfl) fun _ _ => ok_cons (ok_var rfl) fun _ _ => ok_nil) fun s3 g3 => x1_filtered (h.grow (((g1.trans g2).trans g).trans g3))) (hr.grow (g1.trans g2))) fun s3 g3 =>
  chk (ok_var rfl) (fun s g => ex_def (xs := [T (ones 1), v, .non]) (ok_cons (ok_var rfl) fun _ _ => ok_cons (ok_var rfl) fun _ _ => ok_cons ok_c fun _ _ => ok_nil) fun s4 g4 => x1_fevery (h.grow ((((g1.trans g2).trans g3).trans g).trans g4))) (hr.grow ((g1.trans g2).trans g3))
abbrev b2 : SemS := (sSeq (sIf (rTNot (rTru (rRefuses 1 "thing" (rDef d_every (rCons (rVar 1) (rCons (rVar 0) rNil))) (rVar 0)))) (sRet (rC (.bl false))) sPass)
    (sSeq (sIf (rTNot (rTru (rRefuses 1 "thing" (rDef d_held (rCons (rVar 1) (rCons (rVar 0) rNil))) (rVar 0)))) (sRet (rC (.bl false))) sPass)
    (sSeq (sIf (rTNot (rTru (rRefuses 1 "thing" (rDef d_phases_of (rCons (rVar 1) (rCons (rVar 0) rNil))) (rVar 0)))) (sRet (rC (.bl false))) sPass)
    (sSeq (sIf (rTNot (rTru (rRefuses 1 "thing" (rDef d_can_go_first (rCons (rVar 1) (rCons (rVar 0) rNil))) (rVar 0)))) (sRet (rC (.bl false))) sPass)
    (sIf (rTNot (rTru (rRefuses 1 "thing" (rDef d_products_needed (rCons (rVar 1) (rCons (rC (.int (3))) (rCons (rVar 0) rNil)))) (rVar 0)))) (sRet (rC (.bl false))) sPass)))))
theorem b2_ok (h : BadStep v) (hr : Rp v st) : OkS (b2 (ev v) st) st (ev v) :=
  oks_seq (chk (ok_var rfl) (fun s g => ex_def (xs := [T (ones 1), v]) (ok_cons (ok_var rfl) fun _ _ => ok_cons (ok_var rfl) fun _ _ => ok_nil) fun s2 g2 => x2_every h) hr) fun s1 g1 =>
  oks_seq (chk (ok_var rfl) (fun s g => ex_def (xs := [T (ones 1), v]) (ok_cons (ok_var rfl) fun _ _ => ok_cons (ok_var rfl) fun _ _ => ok_nil) fun s2 g2 => x2_held h) (hr.grow g1)) fun s2 g2 =>
  oks_seq (chk (ok_var rfl) (fun s g => ex_def (xs := [T (ones 1), v]) (ok_cons (ok_var rfl) fun _ _ => ok_cons (ok_var rfl) fun _ _ => ok_nil) fun s2 g2 => x2_phases h) (hr.grow (g1.trans g2))) fun s3 g3 =>
  oks_seq (chk (ok_var rfl) (fun s g => ex_def (xs := [T (ones 1), v]) (ok_cons (ok_var rfl) fun _ _ => ok_cons (ok_var rfl) fun _ _ => ok_nil) fun s2 g2 => x2_first h) (hr.grow ((g1.trans g2).trans g3))) fun s4 g4 =>
  chk (ok_var rfl) (fun s g => ex_def (xs := [T (ones 1), .int 3, v]) (ok_cons (ok_var rfl) fun _ _ => ok_cons ok_c fun _ _ => ok_cons (ok_var rfl) fun _ _ => ok_nil) fun s2 g2 => x2_needed h) (hr.grow (((g1.trans g2).trans g3).trans g4))
abbrev b3 : SemS := (sSeq (sIf (rTNot (rTru (rRefuses 1 "thing" (rDef d_filtered (rCons (rVar 0) (rCons (rC .non) rNil))) (rVar 0)))) (sRet (rC (.bl false))) sPass)
    (sSeq (sIf (rTNot (rTru (rRefuses 1 "thing" (rDef d_spread_filter (rCons (rVar 0) (rCons (rC .non) rNil))) (rVar 0)))) (sRet (rC (.bl false))) sPass)
    (sSeq (sIf (rTNot (rTru (rRefuses 1 "thing" (rDef d_can_go_behind (rCons (rVar 0) (rCons (rC .non) rNil))) (rVar 0)))) (sRet (rC (.bl false))) sPass)
    (sIf (rTNot (rTru (rRefuses 1 "thing" (rDef d_in_one (rCons (rVar 1) (rCons (rVar 0) rNil))) (rVar 0)))) (sRet (rC (.bl false))) sPass))))
theorem b3_ok (h : BadPol v st) (hr : Rp v st) : OkS (b3 (ev v) st) st (ev v) :=
  oks_seq (chk (ok_var rfl) (fun s g => ex_def (xs := [v, .non]) (ok_cons (ok_var rfl) fun _ _ => ok_cons ok_c fun _ _ => ok_nil) fun s2 g2 => x3_filtered (h.grow (g.trans g2))) hr) fun s1 g1 =>
  oks_seq (chk (ok_var rfl) (fun s g => ex_def (xs := [v, .non]) (ok_cons (ok_var rfl) fun _ _ => ok_cons ok_c fun _ _ => ok_nil) fun s2 g2 => x3_spread (h.grow ((g1.trans g).trans g2))) (hr.grow g1)) fun s2 g2 =>
  oks_seq (chk (ok_var rfl) (fun s g => ex_def (xs := [v, .non]) (ok_cons (ok_var rfl) fun _ _ => ok_cons ok_c fun _ _ => ok_nil) fun s3 g3 => x3_behind (h.grow (((g1.trans g2).trans g).trans g3))) (hr.grow (g1.trans g2))) fun s3 g3 =>
  chk (ok_var rfl) (fun s g => ex_def (xs := [T (ones 1), v]) (ok_cons (ok_var rfl) fun _ _ => ok_cons (ok_var rfl) fun _ _ => ok_nil) fun s4 g4 => x3_in_one (h.grow ((((g1.trans g2).trans g3).trans g).trans g4))) (hr.grow ((g1.trans g2).trans g3))
abbrev b4 : SemS := (sIf (rTNot (rTru (rRefuses 1 "thing" (rDef d_from_phases (rCons (rVar 0) rNil)) (rVar 0)))) (sRet (rC (.bl false))) sPass)
theorem b4_ok (h : ∀ st1, Gw st st1 → Ex (d_from_phases [v] st1) st1 (bad v)) (hr : Rp v st) : OkS (b4 (ev v) st) st (ev v) :=
  chk (ok_var rfl) (fun s g => ex_def (xs := [v]) (ok_cons (ok_var rfl) fun _ _ => ok_nil) fun s2 g2 => h s2 (g.trans g2)) hr
abbrev b5 : SemS := (sIf (rTNot (rTru (rRefuses 1 "thing" (rDef d_products_needed (rCons (rVar 1) (rCons (rVar 0) (rCons (rC .non) rNil)))) (rVar 0)))) (sRet (rC (.bl false))) sPass)
theorem b5_ok (h : BadMany v) (hr : Rp v st) : OkS (b5 (ev v) st) st (ev v) :=
  chk (ok_var rfl) (fun s g => ex_def (xs := [T (ones 1), v, .non]) (ok_cons (ok_var rfl) fun _ _ => ok_cons (ok_var rfl) fun _ _ => ok_cons ok_c fun _ _ => ok_nil) fun s2 g2 => x5_needed h) hr
/-! phases that are not taken -/
theorem fr_test (h : Ok ((rTOr (rTNot (rTru (rIsT .tup (rVar 0)))) (rTOr (rTNot (rTBl (rChain cLe cLe (rC (.int (1))) (rCall lenI (rCons (rVar 0) rNil)) (rC (.int (12)))))) (rTNot (rTru (rCall allI (rCons (rLc (fSeq (rVar 0)) (.one 3) [3] rYes (rDef d_is_poly (rCons (rVar 3) rNil))) rNil)))))) (startI 6 [v]) st) st true) : Ex (d_from_phases [v] st) st (bad v) := by
  unfold d_from_phases r_from_phases
  exact ex_fn (exs_now (exs_fire h fun _ _ => rfl))
theorem fr_no (h : NotTup v st) : ∀ st1, Gw st st1 → Ex (d_from_phases [v] st1) st1 (bad v) := fun s g => fr_test (no_tup (h.grow g) rfl)
theorem fr_len {xs : List IV} (h : (decide ((1 : Int) ≤ xs.length) && decide ((xs.length : Int) ≤ 12)) = false) : Ex (d_from_phases [.tup xs] st) st (bad (.tup xs)) :=
  fr_test (Ok.eq (ok_tor (ok_tnot (ok_trub (k := true) (isTup (xs := xs) rfl))) fun _ _ _ => ok_tor (k := true) (l := true) (Ok.eq (ok_tnot (ok_tbl (ok_chain (x := .int 1) (y := .int xs.length) (z := .int 12) (k := decide ((1 : Int) ≤ xs.length)) (l := decide ((xs.length : Int) ≤ 12)) ok_c (fun _ _ => ok_call (xs := [.tup xs]) (ok_cons (ok_var rfl) fun _ _ => ok_nil) fun _ _ => ok_ofO rfl) (fun _ _ => rfl) (fun _ _ => ok_c) fun _ _ => rfl))) (by rw [h]; rfl)) fun _ _ z => nomatch z) rfl)
theorem fr_0 : Ex (d_from_phases [.tup [T [0]]] st) st (bad (.tup [T [0]])) :=
  fr_test (Ok.eq (ok_tor (ok_tnot (ok_trub (k := true) (isTup (xs := [T [0]]) rfl))) fun _ _ _ => ok_tor (l := true) (ok_tnot (ok_tbl (ok_chain (x := .int 1) (y := .int 1) (z := .int 12) (k := true) (l := true) ok_c (fun _ _ => ok_call (xs := [.tup [T [0]]]) (ok_cons (ok_var rfl) fun _ _ => ok_nil) fun _ _ => ok_ofO rfl) (fun _ _ => rfl) (fun _ _ => ok_c) fun _ _ => rfl))) fun _ _ _ => Ok.eq (ok_tnot (ok_trub (k := [T [0]].all fun _ => false) (all_L (ks := [T [0]]) (f := fun _ => false) (lc_seqY (F := id) (ks := [T [0]]) (fun k => [some (.tup [T [0]]), none, none, some k, none, none]) (fun _ => .bl false) (ok_var rfl) (by simp) (fun _ _ => rfl) fun k hk s _ => ok_def (xs := [k]) (ok_cons (ok_var rfl) fun _ _ => ok_nil) fun s _ => by
    rw [List.mem_singleton.mp hk]
    exact bp_0 (st := s) s (.refl _))))) rfl) rfl)
theorem fr_62 : Ex (d_from_phases [.tup [T (ones 31), T (ones 31)]] st) st (bad (.tup [T (ones 31), T (ones 31)])) := by
  have hm : most [ones 31, ones 31] = 31 := by
    unfold most
    simp only [List.foldl_cons, List.foldl_nil, ones_len]; decide
  have hl : 60 < (fromPh [ones 31, ones 31]).length := by
    unfold fromPh
    refine Nat.lt_trans (show 60 < 61 by decide) (trim_keeps (i := 61) ?_)
    rw [hm, co_tab, if_pos (by decide)]
    unfold frF
    show co (ones 31) 30 ≠ 0
    rw [ones_at (by decide)]; decide
  exact ex_from (ps := [ones 31, ones 31]) (by decide) (by decide) (fun p hp => by
    rcases List.mem_cons.mp hp with rfl | hp
    · exact pol_ones (by decide)
    · rw [List.mem_singleton.mp hp]; exact pol_ones (by decide)) (by rw [hm]; decide) hl
end
end law_k17

set_option Elab.async false
set_option linter.all false
set_option maxRecDepth 100000
set_option maxHeartbeats 4000000
namespace law_k17
open PySem PySem.Spec PyProof.Rows L2 PI PL
section
variable {st : Sto} {r x p o : List Rat} {s : Nat} {v w : IV} {env : IEnv}
theorem rep_eq (k : Nat) (hk : k ≤ 1000) (he : env[1]? = some (some (T (ones 1)))) (st : Sto) : rBin mulT (rVar 1) (rC (.int (k : Nat))) env st = .ok (T (ones k)) st := by
  have hv : rVar 1 env st = .ok (T (ones 1)) st := by unfold rVar; rw [he]
  refine rbin_eq hv (rfl : rC (.int (k : Nat)) env st = .ok (.int (k : Nat)) st) ?_
  show (bif decide (-1000000 < (k : Int)) && decide ((k : Int) ≤ 1000) && Nat.ble [q 1].length 1000 then some (IV.tup (List.replicate (k : Int).toNat [q 1]).flatten, st) else none) = _
  rw [decide_eq_true (show -1000000 < (k : Int) by omega), decide_eq_true (show (k : Int) ≤ 1000 by omega), List.flatten_replicate_singleton, Int.toNat_natCast]
  show some (IV.tup (List.replicate k (q 1)), st) = _
  unfold T ones
  rw [List.map_replicate]
theorem pair_eq (a b : Int) (env : IEnv) (st : Sto) : rTup (rCons (rC (.int a)) (rCons (rC (.int b)) rNil)) env st = .ok (.tup [.int a, .int b]) st := rfl
theorem tup1_eq {e : SemE} {v : IV} {env : IEnv} {st s1 : Sto} (h : e env st = .ok v s1) : rTup (rCons e rNil) env st = .ok (.tup [v]) s1 := rtup_eq (rcons_eq h (rfl : rNil env s1 = .ok [] s1)) rfl
theorem lst1_eq {e : SemE} {v : IV} {env : IEnv} {st s1 : Sto} (h : e env st = .ok v s1) : rLst (rCons e rNil) env st = .ok (.ref s1.os.length) { os := s1.os ++ [.lst [v]], low := s1.low } := by
  unfold rLst
  rw [rcons_eq h (rfl : rNil env s1 = .ok [] s1)]
  rfl
theorem step_bad : ∀ v ∈ [IV.int 0, .int 13, .non, .bl true, .str [120]], BadStep v ∧ ∀ st, Rp v st := by
  intro v hv
  simp only [List.mem_cons, List.not_mem_nil, or_false] at hv
  rcases hv with rfl | rfl | rfl | rfl | rfl
  · exact ⟨fun st => by kernel_rfl, fun st => rp_of (d := .int 0) (by decide +kernel) fun _ => rfl⟩
  · exact ⟨fun st => by kernel_rfl, fun st => rp_of (d := .int 13) (by decide +kernel) fun _ => rfl⟩
  · exact ⟨fun st => by kernel_rfl, fun st => rp_non⟩
  · exact ⟨fun st => by kernel_rfl, fun st => rp_of (d := .bool true) (by decide +kernel) fun _ => rfl⟩
  · exact ⟨fun st => by kernel_rfl, fun st => rp_of (d := .str ⟨[120].toArray⟩) (by decide +kernel) fun _ => rfl⟩
theorem many_bad : ∀ v ∈ [IV.int (-1), .int 301, .non], BadMany v ∧ ∀ st, Rp v st := by
  intro v hv
  simp only [List.mem_cons, List.not_mem_nil, or_false] at hv
  rcases hv with rfl | rfl | rfl
  · exact ⟨fun st => by kernel_rfl, fun st => rp_of (d := .int (-1)) (by decide +kernel) fun _ => rfl⟩
  · exact ⟨fun st => by kernel_rfl, fun st => rp_of (d := .int 301) (by decide +kernel) fun _ => rfl⟩
  · exact ⟨fun st => by kernel_rfl, fun st => rp_non⟩
abbrev it1 : IEnv → Sto → RE FI := (fSeq (rTup (rCons (rC .non) (rCons (rLst (rCons (rTup (rCons (rC (.int (1))) (rCons (rC (.int (1))) rNil))) rNil)) (rCons (rTup (rCons (rTup (rCons (rC (.int (2))) (rCons (rC (.int (4))) rNil))) rNil)) (rCons (rBin mulT (rVar 1) (rC (.int (301)))) rNil))))))
theorem loop1 (e : Option IV) : ∃ e', OkS (sFor it1 (gN 0) b1 [e, some (T (ones 1))] st) st [e', some (T (ones 1))] := by
  have hg : Gw st { os := st.os ++ [.lst [q 1]], low := st.low } := .alloc _ _
  obtain ⟨e', h⟩ := for_ok (it := it1) (i := 0) (b := b1) (env := [e, some (T (ones 1))]) (st := st) (ftup_eq (rcons_eq (v := .non) (s1 := st) rfl (rcons_eq (lst1_eq (pair_eq 1 1 _ st)) (rcons_eq (tup1_eq (pair_eq 2 4 _ _)) (rcons_eq (rep_eq 301 (by decide) rfl _) (rfl : rNil _ _ = .ok [] _))))) rfl) hg (fun v hv st1 g e2 => by
    have hn : st1.os[st.os.length]? = some (.lst [q 1]) := g.get (new_get _ _ _)
    have hb : BadRow v st1 ∧ Rp v st1 := by
      simp only [List.mem_cons, List.not_mem_nil, or_false] at hv
      rcases hv with rfl | rfl | rfl | rfl
      · exact ⟨br_no nt_non, rp_non⟩
      · exact ⟨br_no (nt_ref hn), rp_list hn⟩
      · exact ⟨br_24, rp_24⟩
      · exact ⟨br_long (by rw [ones_len]; decide), rp_ones (by decide)⟩
    exact b1_ok hb.1 hb.2) (by simp)
  exact ⟨e', h⟩
abbrev it2 : IEnv → Sto → RE FI := (fSeq (rTup (rCons (rC (.int (0))) (rCons (rC (.int (13))) (rCons (rC .non) (rCons (rC (.bl true)) (rCons (rC (.str [120])) rNil)))))))
theorem loop2 (e : Option IV) : ∃ e', OkS (sFor it2 (gN 0) b2 [e, some (T (ones 1))] st) st [e', some (T (ones 1))] := by
  obtain ⟨e', h⟩ := for_ok (it := it2) (i := 0) (b := b2) (env := [e, some (T (ones 1))]) (st := st) (st0 := st) (xs := [IV.int 0, .int 13, .non, .bl true, .str [120]]) rfl (.refl _) (fun v hv st1 g e2 => b2_ok (step_bad v hv).1 ((step_bad v hv).2 st1)) (by simp)
  exact ⟨e', h⟩
abbrev it3 : IEnv → Sto → RE FI := (fSeq (rTup (rCons (rC .non) (rCons (rLst (rCons (rTup (rCons (rC (.int (1))) (rCons (rC (.int (1))) rNil))) rNil)) (rCons (rTup (rCons (rTup (rCons (rC (.int (0))) (rCons (rC (.int (1))) rNil))) rNil)) (rCons (rTup (rCons (rTup (rCons (rC (.int (2))) (rCons (rC (.int (4))) rNil))) rNil)) (rCons (rBin mulT (rVar 1) (rC (.int (61)))) rNil)))))))
theorem loop3 (e : Option IV) : ∃ e', OkS (sFor it3 (gN 0) b3 [e, some (T (ones 1))] st) st [e', some (T (ones 1))] := by
  have hg : Gw st { os := st.os ++ [.lst [q 1]], low := st.low } := .alloc _ _
  obtain ⟨e', h⟩ := for_ok (it := it3) (i := 0) (b := b3) (env := [e, some (T (ones 1))]) (st := st) (ftup_eq (rcons_eq (v := .non) (s1 := st) rfl (rcons_eq (lst1_eq (pair_eq 1 1 _ st)) (rcons_eq (tup1_eq (pair_eq 0 1 _ _)) (rcons_eq (tup1_eq (pair_eq 2 4 _ _)) (rcons_eq (rep_eq 61 (by decide) rfl _) (rfl : rNil _ _ = .ok [] _)))))) rfl) hg (fun v hv st1 g e2 => by
    have hn : st1.os[st.os.length]? = some (.lst [q 1]) := g.get (new_get _ _ _)
    have hb : BadPol v st1 ∧ Rp v st1 := by
      simp only [List.mem_cons, List.not_mem_nil, or_false] at hv
      rcases hv with rfl | rfl | rfl | rfl | rfl
      · exact ⟨bp_no nt_non, rp_non⟩
      · exact ⟨bp_no (nt_ref hn), rp_list hn⟩
      · exact ⟨bp_0, rp_T0⟩
      · exact ⟨bp_24, rp_24⟩
      · exact ⟨bp_long (by rw [ones_len]; decide), rp_ones (by decide)⟩
    exact b3_ok hb.1 hb.2) (by simp)
  exact ⟨e', h⟩
theorem rp_13 : Rp (.tup (List.replicate 13 (T (ones 1)))) st := fun s g => by
  have h1 : ∀ m, allSome (pd s.os 62) (List.replicate m (T (ones 1))) = some (List.replicate m (.tuple (List.replicate 1 (.tuple [.int 1, .int 1])))) := fun m => by
    induction m with
    | zero => rfl
    | succ m ih =>
      rw [List.replicate_succ, List.replicate_succ]
      unfold allSome
      rw [pd_ones s.os 59 1, ih]
  refine shw_repr (d := .tuple (List.replicate 13 (.tuple (List.replicate 1 (.tuple [.int 1, .int 1]))))) (shw_tup (B := 25) fun d hd => by rw [List.eq_of_mem_replicate hd]; exact shw_ones 1) (by rw [List.length_replicate]; decide) ?_
  show (match allSome (pd s.os 62) (List.replicate 13 (T (ones 1))) with
    | some ds => some (PyData.tuple ds)
    | none => none) = _
  rw [h1]
theorem rp_62 : Rp (.tup [T (ones 31), T (ones 31)]) st := fun s g => by
  refine shw_repr (d := .tuple [.tuple (List.replicate 31 (.tuple [.int 1, .int 1])), .tuple (List.replicate 31 (.tuple [.int 1, .int 1]))]) (shw_tup (B := 22 * 31 + 3) fun d hd => ?_) (by decide) ?_
  · simp only [List.mem_cons, List.not_mem_nil, or_false] at hd
    rcases hd with rfl | rfl <;> exact shw_ones 31
  · show (match allSome (pd s.os 62) [T (ones 31), T (ones 31)] with
      | some ds => some (PyData.tuple ds)
      | none => none) = _
    have e1 : pd s.os 62 (T (ones 31)) = _ := pd_ones s.os 59 31
    simp only [allSome, e1]
abbrev it4 : IEnv → Sto → RE FI := (fSeq (rTup (rCons (rC .non) (rCons (rTup rNil) (rCons (rLst (rCons (rVar 1) rNil)) (rCons (rBin mulT (rTup (rCons (rVar 1) rNil)) (rC (.int (13)))) (rCons (rTup (rCons (rTup (rCons (rTup (rCons (rC (.int (0))) (rCons (rC (.int (1))) rNil))) rNil)) rNil)) (rCons (rTup (rCons (rBin mulT (rVar 1) (rC (.int (31)))) (rCons (rBin mulT (rVar 1) (rC (.int (31)))) rNil))) rNil))))))))
theorem loop4 (e : Option IV) : ∃ e', OkS (sFor it4 (gN 0) b4 [e, some (T (ones 1))] st) st [e', some (T (ones 1))] := by
  have hg : Gw st { os := st.os ++ [.lst [T (ones 1)]], low := st.low } := .alloc _ _
  have h13 : ∀ st : Sto, rBin mulT (rTup (rCons (rVar 1) rNil)) (rC (.int (13))) [e, some (T (ones 1))] st = .ok (.tup (List.replicate 13 (T (ones 1)))) st := fun st => rbin_eq (tup1_eq (rfl : rVar 1 _ st = .ok (T (ones 1)) st)) (rfl : rC (.int 13) _ st = .ok (.int 13) st) (by
    show (bif decide (-1000000 < (13 : Int)) && decide ((13 : Int) ≤ 1000) && Nat.ble [T (ones 1)].length 1000 then some (IV.tup (List.replicate (13 : Int).toNat [T (ones 1)]).flatten, st) else none) = _
    rw [decide_eq_true (show -1000000 < (13 : Int) by omega), decide_eq_true (show (13 : Int) ≤ 1000 by omega), List.flatten_replicate_singleton]
    rfl)
  obtain ⟨e', h⟩ := for_ok (it := it4) (i := 0) (b := b4) (env := [e, some (T (ones 1))]) (st := st) (ftup_eq (rcons_eq (v := .non) (s1 := st) rfl (rcons_eq (v := .tup []) (s1 := st) rfl (rcons_eq (lst1_eq (rfl : rVar 1 _ st = .ok (T (ones 1)) st)) (rcons_eq (h13 _) (rcons_eq (tup1_eq (tup1_eq (pair_eq 0 1 _ _))) (rcons_eq (rtup_eq (rcons_eq (rep_eq 31 (by decide) rfl _) (rcons_eq (rep_eq 31 (by decide) rfl _) (rfl : rNil _ _ = .ok [] _))) rfl) (rfl : rNil _ _ = .ok [] _))))))) rfl) hg (fun v hv st1 g e2 => by
    have hn : st1.os[st.os.length]? = some (.lst [T (ones 1)]) := g.get (new_get _ _ _)
    have hb : (∀ st2, Gw st1 st2 → Ex (d_from_phases [v] st2) st2 (bad v)) ∧ Rp v st1 := by
      simp only [List.mem_cons, List.not_mem_nil, or_false] at hv
      rcases hv with rfl | rfl | rfl | rfl | rfl | rfl
      · exact ⟨fr_no nt_non, rp_non⟩
      · exact ⟨fun _ _ => fr_len rfl, rp_of (d := .tuple []) (by decide +kernel) fun _ => rfl⟩
      · exact ⟨fr_no (nt_ref hn), rp_list2 hn⟩
      · exact ⟨fun _ _ => fr_len (by rw [List.length_replicate]; rfl), rp_13⟩
      · exact ⟨fun _ _ => fr_0, rp_of (d := .tuple [.tuple [.tuple [.int 0, .int 1]]]) (by decide +kernel) fun _ => rfl⟩
      · exact ⟨fun _ _ => fr_62, rp_62⟩
    exact b4_ok hb.1 hb.2) (by simp)
  exact ⟨e', h⟩
abbrev it5 : IEnv → Sto → RE FI := (fSeq (rTup (rCons (rUn negI (rC (.int (1)))) (rCons (rC (.int (301))) (rCons (rC .non) rNil)))))
theorem loop5 (e : Option IV) : ∃ e', OkS (sFor it5 (gN 0) b5 [e, some (T (ones 1))] st) st [e', some (T (ones 1))] := by
  obtain ⟨e', h⟩ := for_ok (it := it5) (i := 0) (b := b5) (env := [e, some (T (ones 1))]) (st := st) (st0 := st) (xs := [IV.int (-1), .int 301, .non]) rfl (.refl _) (fun v hv st1 g e2 => b5_ok (many_bad v hv).1 ((many_bad v hv).2 st1)) (by simp)
  exact ⟨e', h⟩
theorem refused_ok : Ok (d__law_refused_right [] st) st (.bl true) := by
  unfold d__law_refused_right r__law_refused_right
  have hd : ∀ (k : Nat) (e : Option IV) (st : Sto), k ≤ 1000 → Ok (rBin mulT (rVar 1) (rC (.int (k : Nat))) [e, some (T (ones 1))] st) st (T (ones k)) := fun k e st hk => .same (rep_eq k hk rfl st)
  refine ok_fn (okr_seq (env' := [none, some (T (ones 1))]) (oks_set (i := 1) (.same (tup1_eq (pair_eq 1 1 _ _)))) fun s1 g1 => ?_)
  obtain ⟨e1, h1⟩ := loop1 (st := s1) none
  refine okr_seq h1 fun s2 g2 => ?_
  obtain ⟨e2, h2⟩ := loop2 (st := s2) e1
  refine okr_seq h2 fun s3 g3 => ?_
  obtain ⟨e3, h3⟩ := loop3 (st := s3) e2
  refine okr_seq h3 fun s4 g4 => ?_
  obtain ⟨e4, h4⟩ := loop4 (st := s4) e3
  refine okr_seq h4 fun s5 g5 => ?_
  obtain ⟨e5, h5⟩ := loop5 (st := s5) e4
  refine okr_seq h5 fun s6 g6 => ?_
  refine okr_seq (chk (hd 151 e5 s6 (by decide)) (fun s g => ex_def (xs := [T (ones 151), .int 2]) (ok_cons (hd 151 e5 s (by decide)) fun _ _ => ok_cons ok_c fun _ _ => ok_nil) fun _ _ => x6_between) (rp_ones (by decide))) fun s7 g7 => ?_
  refine okr_seq (chk (hd 31 e5 s7 (by decide)) (fun s g => ex_def (xs := [T (ones 31), .int 2]) (ok_cons (hd 31 e5 s (by decide)) fun _ _ => ok_cons ok_c fun _ _ => ok_nil) fun _ _ => x6_spread) (rp_ones (by decide))) fun s8 g8 => okr_ret ?_
  refine Ok.eq (ok_and (k := true) (l := true) (ok_refuses (hd 31 e5 s8 (by decide)) (fun s g => ex_def (xs := [T (ones 31), T (ones 31)]) (ok_cons (hd 31 e5 s (by decide)) fun s _ => ok_cons (hd 31 e5 s (by decide)) fun _ _ => ok_nil) fun _ _ => x6_in_one) (rp_ones (by decide))) fun s9 g9 _ => Ok.eq (ok_and (k := true) (l := true) (ok_bin (x := .non) (y := .non) (ok_def (xs := [T (ones 31), .int 2]) (ok_cons (hd 31 e5 s9 (by decide)) fun _ _ => ok_cons ok_c fun _ _ => ok_nil) fun _ _ => x6_first) (fun _ _ => ok_c) fun _ _ => ok_ofO rfl) fun s10 g10 _ => Ok.eq (ok_bin (x := T (spr 12 [])) (y := .tup []) (ok_def (xs := [T [], .int 12]) (ok_cons (ok_tup ok_nil (by simp)) fun _ _ => ok_cons ok_c fun _ _ => ok_nil) fun _ _ => first_ok (s := 12) ⟨by decide, (fun a ha => nomatch ha), .inl rfl⟩ ⟨by decide, by decide⟩ (by decide)) (fun _ _ => ok_tup ok_nil (by simp)) fun _ _ => ok_eqN) (by rfl)) rfl) rfl
end
end law_k17

set_option Elab.async false
set_option linter.all false
set_option maxRecDepth 100000
set_option maxHeartbeats 4000000
namespace law_k17
open PySem PySem.Spec PyProof.Rows L2 PI PL
section
variable {ms : List Int} {st : Sto} {cnt : Int} {env : IEnv}
theorem rdef_eq {D : List IV → Sto → RE IV} {as : SemA} {s1 s2 : Sto} {xs : List IV} {v : IV} (h : as env st = .ok xs s1) (h2 : D xs s1 = .ok v s2) : rDef D as env st = .ok v s2 := by
  unfold rDef
  rw [h]; exact h2
theorem rcall_eq {F : List IV → Sto → RO} {as : SemA} {s1 s2 : Sto} {xs : List IV} {v : IV} (h : as env st = .ok xs s1) (h2 : F xs s1 = some (v, s2)) : rCall F as env st = .ok v s2 := by
  unfold rCall
  rw [h]
  show RE.ofO (F xs s1) = _
  rw [h2]; rfl
theorem sret_eq {e : SemE} {s1 : Sto} {v : IV} (h : e env st = .ok v s1) : sRet e env st = .rt v s1 := by
  unfold sRet
  rw [h]; rfl
theorem next_dr (D : Dr ms st cnt) (h0 : 0 ≤ cnt) (h1 : cnt < 900) {b : Int} (hb : 0 < b) : ∃ v st', 0 ≤ v ∧ v < b ∧ d__law_next [.ref 2, .int b] st = .ok (.int v) st' ∧ Dr ms st' (cnt + 1) ∧ ∀ i, i ≠ 2 → st'.os[i]? = st.os[i]? := by
  obtain ⟨v, hv0, hv1, hv⟩ := d__law_next_ok 2 1 ms cnt b st D.n D.m (by decide) h0 (by omega) hb
  have hl1 := (List.getElem?_eq_some_iff.mp D.n).1
  refine ⟨v, _, hv0, hv1, hv, ⟨?_, ?_⟩, fun i hi => ?_⟩
  · show (st.os.set 2 _)[1]? = _
    rw [List.getElem?_set_ne (by decide)]; exact D.m
  · exact List.getElem?_set_self hl1
  · show (st.os.set 2 _)[i]? = _
    rw [List.getElem?_set_ne (Ne.symm hi)]
/-- the numbers to choose from -/
def choice : List Rat := [0, 1, ⟨-1, 1, by decide, by decide⟩, ⟨1, 2, by decide, by decide⟩, ⟨-1, 2, by decide, by decide⟩, ⟨2, 1, by decide, by decide⟩, ⟨3, 2, by decide, by decide⟩, ⟨1, 4, by decide, by decide⟩]
theorem choice_dy : ∀ a ∈ choice, Dy 2 8 a := by
  intro a ha
  unfold choice at ha
  simp only [List.mem_cons, List.not_mem_nil, or_false] at ha
  rcases ha with rfl | rfl | rfl | rfl | rfl | rfl | rfl | rfl
  · exact Dy.zero _ _
  · exact Dy.one
  · exact ⟨-4, by decide, by rfl⟩
  · exact ⟨2, by decide, by rfl⟩
  · exact ⟨-2, by decide, by rfl⟩
  · exact ⟨8, by decide, by rfl⟩
  · exact ⟨6, by decide, by rfl⟩
  · exact ⟨1, by decide, by rfl⟩
theorem fraction_dr (D : Dr ms st cnt) (h0 : 0 ≤ cnt) (h1 : cnt < 900) : ∃ a st', Dy 2 8 a ∧ d__law_fraction [.ref 2] st = .ok (q a) st' ∧ Dr ms st' (cnt + 1) := by
  have hlen : 3 ≤ st.os.length := (List.getElem?_eq_some_iff.mp D.n).1
  have D1 : Dr ms { os := st.os ++ [.lst (choice.map q)], low := st.low } cnt := D.grow (.alloc _ _)
  obtain ⟨v, s2, hv0, hv1, e2, D2, hk⟩ := next_dr D1 h0 h1 (b := 8) (by decide)
  obtain ⟨j, rfl⟩ := Int.eq_ofNat_of_zero_le hv0
  have hj : j < choice.length := by show j < 8; omega
  have hl2 : lstAt s2 st.os.length = some (choice.map q) := by
    refine lst_of ?_
    rw [hk _ (by omega)]
    exact new_get _ _ _
  refine ⟨co choice j, s2, choice_dy _ (List.mem_of_getElem? (co_get hj)), ?_, D2⟩
  have hp : d__law_pick [.ref 2, .ref st.os.length] { os := st.os ++ [.lst (choice.map q)], low := st.low } = .ok (q (co choice j)) s2 := by
    unfold d__law_pick r__law_pick
    refine callI_rt ?_
    have hln : rCall lenI (rCons (rVar 1) rNil) (startI 2 [.ref 2, .ref st.os.length]) { os := st.os ++ [.lst (choice.map q)], low := st.low } = .ok (.int 8) { os := st.os ++ [.lst (choice.map q)], low := st.low } := by
      show RE.ofO (match seqOf _ (.ref st.os.length) with | some xs => some (IV.int xs.length, _) | none => none) = _
      rw [show seqOf { os := st.os ++ [.lst (choice.map q)], low := st.low } (.ref st.os.length) = some (choice.map q) from new_lst _ _ _]; rfl
    have hn : rDef d__law_next (rCons (rVar 0) (rCons (rCall lenI (rCons (rVar 1) rNil)) rNil)) (startI 2 [.ref 2, .ref st.os.length]) { os := st.os ++ [.lst (choice.map q)], low := st.low } = .ok (.int j) s2 := by
      unfold rDef
      rw [rcons_eq (rfl : rVar 0 (startI 2 [.ref 2, .ref st.os.length]) _ = .ok (.ref 2) _) (rcons_eq hln (rfl : rNil _ _ = .ok [] _))]
      exact e2
    unfold sRet
    rw [rbin_eq (rfl : rVar 1 (startI 2 [.ref 2, .ref st.os.length]) _ = .ok (.ref st.os.length) _) hn (z := q (co choice j)) (s3 := s2) (by
      show (match lstAt s2 st.os.length with | some xs => (match L2.atI xs (j : Int) with | some v => some (v, s2) | none => none) | none => none) = _
      rw [hl2]
      simp only [at_nat (T_at hj)])]
    rfl
  unfold d__law_fraction r__law_fraction
  refine callI_rt ?_
  unfold sRet rDef
  rw [show (rCons (rVar 0) (rCons (rLst _) rNil)) (startI 1 [.ref 2]) st = .ok [.ref 2, .ref st.os.length] { os := st.os ++ [.lst (choice.map q)], low := st.low } from rfl]
  simp only [RE.bind]
  rw [hp]; rfl
/-- what is drawn turn by turn -/
theorem draws {α : Type} {M : Int} (val : α → IV) (P : α → Prop) (K : Nat) {i : Nat} {env0 : IEnv} {te : SemE} (hte : ∀ x st cnt, Dr ms st cnt → 0 ≤ cnt → cnt < M → ∃ a st' cnt', te (env0.set i (some x)) st = .ok (val a) st' ∧ P a ∧ Dr ms st' cnt' ∧ 0 ≤ cnt' ∧ cnt' ≤ cnt + K) : ∀ (xs : List IV) (acc : List IV) (st : Sto) (cnt : Int), Dr ms st cnt → 0 ≤ cnt → cnt + K * (xs.length : Nat) < M → ∃ (as : List α) (st' : Sto) (cnt' : Int), loopC (.one i) env0 rYes te xs acc st = .ok (acc.reverse ++ as.map val) st' ∧ as.length = xs.length ∧ (∀ a ∈ as, P a) ∧ Dr ms st' cnt' ∧ 0 ≤ cnt' ∧ cnt' ≤ cnt + K * (xs.length : Nat)
  | [], acc, st, cnt, D, h0, h1 => ⟨[], st, cnt, by simp [loopC], rfl, (fun v hv => nomatch hv), D, h0, by simp⟩
  | x :: xs, acc, st, cnt, D, h0, h1 => by
    rw [List.length_cons] at h1
    have hK : (K : Int) * ((xs.length + 1 : Nat) : Int) = K * (xs.length : Nat) + K := by rw [Int.natCast_add, Int.mul_add]; simp
    have hK0 : 0 ≤ (K : Int) * (xs.length : Nat) := Int.mul_nonneg (by omega) (by omega)
    obtain ⟨v, s1, c1, e, pv, D1, a0, a1⟩ := hte x st cnt D h0 (by omega)
    obtain ⟨vs, s2, c2, e2, h2, h3, D2, b0, b1⟩ := draws val P K hte xs (val v :: acc) s1 c1 D1 a0 (by omega)
    refine ⟨v :: vs, s2, c2, ?_, by rw [List.length_cons, List.length_cons, h2], ?_, D2, b0, by rw [List.length_cons]; omega⟩
    · unfold loopC
      simp only [CT.put, rYes, e, e2, List.map_cons, List.reverse_cons, List.append_assoc, List.singleton_append]
    · intro u hu
      rcases List.mem_cons.mp hu with rfl | hu
      · exact pv
      · exact h3 u hu
theorem draws_lc {α : Type} (M : Int) (val : α → IV) (P : α → Prop) (K : Nat) {i n : Nat} {a : SemE} {te : SemE} {s1 : Sto} (hn : a env st = .ok (.int (n : Nat)) s1) (hte : ∀ x st cnt, Dr ms st cnt → 0 ≤ cnt → cnt < M → ∃ a st' cnt', te ((env.set i none).set i (some x)) st = .ok (val a) st' ∧ P a ∧ Dr ms st' cnt' ∧ 0 ≤ cnt' ∧ cnt' ≤ cnt + K) (D : Dr ms s1 cnt) (h0 : 0 ≤ cnt) (hn2 : n ≤ 100) (h1 : cnt + K * (n : Nat) < M) : ∃ (as : List α) (s2 : Sto) (cnt' : Int), rLc (fRng1 (rCons a rNil)) (.one i) [i] rYes te env st = .ok (.ref s2.os.length) { os := s2.os ++ [.lst (as.map val)], low := s2.low } ∧ as.length = n ∧ (∀ a ∈ as, P a) ∧ Dr ms { os := s2.os ++ [.lst (as.map val)], low := s2.low } cnt' ∧ 0 ≤ cnt' ∧ cnt' ≤ cnt + K * (n : Nat) := by
  obtain ⟨as, s2, c2, e2, h2, h3, D2, b0, b1⟩ := draws val P K hte ((List.range n).map fun i => IV.int (i : Nat)) [] s1 cnt D h0 (by rw [List.length_map, List.length_range]; exact h1)
  rw [List.length_map, List.length_range] at h2 b1
  refine ⟨as, s2, c2, ?_, h2, h3, D2.grow (.alloc _ _), b0, b1⟩
  have hb : Nat.ble ((List.range n).map fun i => IV.int (i : Nat)).length lineI = true := by rw [List.length_map, List.length_range]; exact Nat.ble_eq_true_of_le (by unfold lineI; omega)
  unfold rLc
  rw [rng1 n (rcons_eq hn (rfl : rNil env s1 = .ok [] s1)) (by omega)]
  simp only [RE.bind, hb, cond_true]
  rw [show wipeI env [i] = env.set i none from rfl, e2]
  rfl
theorem vs_mem {e N : Nat} {xs : List Rat} (h : ∀ a ∈ xs, Dy e N a) : Vs e N xs := fun i => by
  by_cases hi : i < xs.length
  · exact h _ (List.mem_of_getElem? (co_get hi))
  · rw [co_out (by omega)]; exact Dy.zero _ _
theorem frac_te {i j : Nat} (h : env[j]? = some (some (.ref 2))) (hij : i ≠ j) : ∀ x st cnt, Dr ms st cnt → 0 ≤ cnt → cnt < 800 → ∃ a st' cnt', rDef d__law_fraction (rCons (rVar j) rNil) ((env.set i none).set i (some x)) st = .ok (q a) st' ∧ Dy 2 8 a ∧ Dr ms st' cnt' ∧ 0 ≤ cnt' ∧ cnt' ≤ cnt + (1 : Nat) := fun x st cnt D h0 h1 => by
  obtain ⟨a, s', ha, e, D'⟩ := fraction_dr D h0 (by omega)
  refine ⟨a, s', cnt + 1, ?_, ha, D', by omega, by omega⟩
  have hv : rVar j ((env.set i none).set i (some x)) st = .ok (.ref 2) st := by
    unfold rVar
    rw [List.getElem?_set_ne hij, List.getElem?_set_ne hij, h]
  unfold rDef
  rw [rcons_eq hv (rfl : rNil _ st = .ok [] st)]
  exact e
theorem row_dr {n : Nat} (D : Dr ms st cnt) (h0 : 0 ≤ cnt) (hn : n ≤ 100) (h1 : cnt + n < 800) : ∃ x st' cnt', d__law_row [.ref 2, .int (n : Nat)] st = .ok (T x) st' ∧ x.length = n ∧ Vs 2 8 x ∧ Dr ms st' cnt' ∧ 0 ≤ cnt' ∧ cnt' ≤ cnt + n := by
  obtain ⟨as, s2, c2, e2, h2, h3, D2, b0, b1⟩ := draws_lc (ms := ms) (st := st) (env := startI 3 [.ref 2, .int (n : Nat)]) 800 q (Dy 2 8) 1 (i := 2) (n := n) (a := rVar 1) (te := rDef d__law_fraction (rCons (rVar 0) rNil)) rfl (frac_te rfl (by decide)) D h0 hn (by omega)
  refine ⟨as, _, c2, ?_, h2, vs_mem h3, D2, b0, by omega⟩
  unfold d__law_row r__law_row
  refine callI_rt ?_
  unfold sRet rCall
  rw [rcons_eq e2 (rfl : rNil _ _ = .ok [] _)]
  simp only [RE.bind]
  rw [tup_lst (new_lst s2 (as.map q) s2.low)]
  rfl
theorem poly_dr {m : Nat} (D : Dr ms st cnt) (h0 : 0 ≤ cnt) (hm : m ≤ 90) (h1 : cnt + m + 1 < 800) : ∃ p st' cnt', d__law_poly [.ref 2, .int (m : Nat)] st = .ok (T p) st' ∧ p.length ≤ m ∧ Vs 2 8 p ∧ Trim p ∧ Dr ms st' cnt' ∧ 0 ≤ cnt' ∧ cnt' ≤ cnt + m + 1 := by
  obtain ⟨v, s1, v0, v1, e1, D1, _⟩ := next_dr D h0 (by omega) (b := (m : Int) + 1) (by omega)
  obtain ⟨n, rfl⟩ := Int.eq_ofNat_of_zero_le v0
  have hn : rDef d__law_next (rCons (rVar 0) (rCons (rBin addI (rVar 1) (rC (.int (1)))) rNil)) (startI 3 [.ref 2, .int (m : Nat)]) st = .ok (.int (n : Nat)) s1 := e1
  obtain ⟨as, s2, c2, e2, h2, h3, D2, b0, b1⟩ := draws_lc (ms := ms) (st := st) (env := startI 3 [.ref 2, .int (m : Nat)]) 800 q (Dy 2 8) 1 (i := 2) (n := n) (te := rDef d__law_fraction (rCons (rVar 0) rNil)) hn (frac_te rfl (by decide)) D1 (by omega) (by omega) (by omega)
  obtain ⟨s3, e3, g3⟩ := ltrim_ok (st := { os := s2.os ++ [.lst (as.map q)], low := s2.low }) (v := .ref s2.os.length) (r := as) (new_lst s2 (as.map q) s2.low) (by omega)
  refine ⟨trimR as, s3, c2, ?_, by have := trim_len as; omega, (vs_mem h3).trim, trim_trim _, D2.grow g3, b0, by omega⟩
  unfold d__law_poly r__law_poly
  exact callI_rt (sret_eq (rdef_eq (rcons_eq e2 (rfl : rNil _ _ = .ok [] _)) e3))
end
end law_k17

set_option Elab.async false
set_option linter.all false
set_option maxRecDepth 100000
set_option maxHeartbeats 4000000
namespace law_k17
open PySem PySem.Spec PyProof.Rows L2 PI PL
abbrev Q0 : SemS := (sAsg (rLst (rCons (rSl (rVar 0) rNoPart (rPart (rC (.int (63))))) (rCons (rC (.int (0))) (rCons (rC (.int (0))) rNil)))) (gN 1))
abbrev Q1 : SemS := (sAsg (rTup (rCons (rDef d__law_row (rCons (rVar 1) (rCons (rDef d__law_next (rCons (rVar 1) (rCons (rC (.int (14))) rNil))) rNil))) (rCons (rDef d__law_poly (rCons (rVar 1) (rCons (rC (.int (6))) rNil))) (rCons (rDef d__law_poly (rCons (rVar 1) (rCons (rC (.int (5))) rNil))) rNil)))) (gT 3 (gsCons (gN 2) (gsCons (gN 3) (gsCons (gN 4) gsNil)))))
abbrev Q2 : SemS := (sAsg (rBin addI (rC (.int (1))) (rDef d__law_next (rCons (rVar 1) (rCons (rC (.int (4))) rNil)))) (gN 5))
abbrev Q3 : SemS := (sAsg (rCall tupleI (rCons (rLc (fRng1 (rCons (rCall lenI (rCons (rVar 2) rNil)) rNil)) (.one 6) [6] (rTBl (rBin cEq (rVar 6) (rBin mulT (rVar 5) (rBin divI (rVar 6) (rVar 5))))) (rBin idxI (rVar 2) (rVar 6))) rNil)) (gN 7))
abbrev Q4 : SemS := (sAsg (rCall tupleI (rCons (rLc (fRng1 (rCons (rBin mulT (rCall lenI (rCons (rVar 2) rNil)) (rVar 5)) rNil)) (.one 6) [6] rYes (rIfE (rTBl (rBin cEq (rVar 6) (rBin mulT (rVar 5) (rBin divI (rVar 6) (rVar 5))))) (rBin idxI (rVar 2) (rBin divI (rVar 6) (rVar 5))) (rTup (rCons (rC (.int (0))) (rCons (rC (.int (1))) rNil))))) rNil)) (gN 8))
abbrev Q5 : SemS := (sIf (rTOr (rTBl (rBin cNe (rDef d_every (rCons (rVar 2) (rCons (rVar 5) rNil))) (rVar 7))) (rTOr (rTBl (rBin cNe (rDef d_between (rCons (rVar 2) (rCons (rVar 5) rNil))) (rVar 8))) (rTOr (rTBl (rBin cNe (rDef d_held (rCons (rVar 2) (rCons (rVar 5) rNil))) (rCall tupleI (rCons (rLc (fRng1 (rCons (rBin mulT (rCall lenI (rCons (rVar 2) rNil)) (rVar 5)) rNil)) (.one 6) [6] rYes (rBin idxI (rVar 2) (rBin divI (rVar 6) (rVar 5)))) rNil)))) (rTBl (rBin cNe (rDef d_every (rCons (rVar 8) (rCons (rVar 5) rNil))) (rVar 2)))))) (sRet (rC (.bl false))) sPass)
abbrev Q6 : SemS := (sAsg (rDef d__law_filtered (rCons (rVar 3) (rCons (rVar 2) rNil))) (gN 9))
abbrev Q7 : SemS := (sIf (rTOr (rTBl (rBin cNe (rDef d_filtered (rCons (rVar 3) (rCons (rVar 2) rNil))) (rVar 9))) (rTBl (rBin cNe (rDef d_filtered_every (rCons (rVar 3) (rCons (rVar 2) (rCons (rVar 5) rNil)))) (rCall tupleI (rCons (rLc (fRng1 (rCons (rCall lenI (rCons (rVar 2) rNil)) rNil)) (.one 6) [6] (rTBl (rBin cEq (rVar 6) (rBin mulT (rVar 5) (rBin divI (rVar 6) (rVar 5))))) (rBin idxI (rVar 9) (rVar 6))) rNil))))) (sRet (rC (.bl false))) sPass)
abbrev Q8 : SemS := (sAsg (rDef d_phases_of (rCons (rVar 3) (rCons (rVar 5) rNil))) (gN 10))
abbrev Q9 : SemS := (sIf (rTOr (rTBl (rBin cNe (rVar 10) (rCall tupleI (rCons (rLc (fRng1 (rCons (rVar 5) rNil)) (.one 19) [19] rYes (rDef d__law_trim (rCons (rLc (fRng3 (rCons (rVar 19) (rCons (rCall lenI (rCons (rVar 3) rNil)) (rCons (rVar 5) rNil)))) (.one 6) [6] rYes (rBin idxI (rVar 3) (rVar 6))) rNil))) rNil)))) (rTBl (rBin cNe (rDef d_from_phases (rCons (rVar 10) rNil)) (rVar 3)))) (sRet (rC (.bl false))) sPass)
abbrev Q10 : SemS := (sAsg (rCall tupleI (rCons (rLc (fRng1 (rCons (rVar 5) rNil)) (.one 20) [20] rYes (rDef d__law_poly (rCons (rVar 1) (rCons (rC (.int (3))) rNil)))) rNil)) (gN 11))
abbrev Q11 : SemS := (sAsg (rLst rNil) (gN 12))
abbrev Q12 : SemS := (sFor (fRng1 (rCons (rC (.int (3))) rNil)) (gN 6) (sAsg (rBin addT (rVar 12) (rLc (fSeq (rVar 11)) (.one 21) [21] rYes (rIfE (rTBl (rBin cLt (rVar 6) (rCall lenI (rCons (rVar 21) rNil)))) (rBin idxI (rVar 21) (rVar 6)) (rTup (rCons (rC (.int (0))) (rCons (rC (.int (1))) rNil)))))) (gN 12)))
abbrev Q13 : SemS := (sIf (rTOr (rTBl (rBin cNe (rDef d_from_phases (rCons (rVar 11) rNil)) (rDef d__law_trim (rCons (rVar 12) rNil)))) (rTBl (rBin cNe (rDef d_phases_of (rCons (rDef d_from_phases (rCons (rVar 11) rNil)) (rCons (rVar 5) rNil))) (rVar 11)))) (sRet (rC (.bl false))) sPass)
abbrev Q14 : SemS := (sAsg (rDef d_spread_filter (rCons (rVar 3) (rCons (rVar 5) rNil))) (gN 13))
abbrev Q15 : SemS := (sIf (rTOr (rTBl (rBin cNe (rVar 13) (rDef d__law_trim (rCons (rLc (fRng1 (rCons (rBin mulT (rCall lenI (rCons (rVar 3) rNil)) (rVar 5)) rNil)) (.one 6) [6] rYes (rIfE (rTBl (rBin cEq (rVar 6) (rBin mulT (rVar 5) (rBin divI (rVar 6) (rVar 5))))) (rBin idxI (rVar 3) (rBin divI (rVar 6) (rVar 5))) (rTup (rCons (rC (.int (0))) (rCons (rC (.int (1))) rNil))))) rNil)))) (rTBl (rBin cNe (rDef d_can_go_first (rCons (rVar 3) (rCons (rVar 5) rNil))) (rVar 13)))) (sRet (rC (.bl false))) sPass)
abbrev Q16 : SemS := (sIf (rTOr (rTBl (rBin cNe (rDef d_every (rCons (rDef d__law_filtered (rCons (rVar 13) (rCons (rVar 2) rNil))) (rCons (rVar 5) rNil))) (rDef d__law_filtered (rCons (rVar 3) (rCons (rVar 7) rNil))))) (rTBl (rBin cNe (rDef d_between (rCons (rDef d__law_filtered (rCons (rVar 3) (rCons (rVar 2) rNil))) (rCons (rVar 5) rNil))) (rDef d__law_filtered (rCons (rVar 13) (rCons (rVar 8) rNil)))))) (sRet (rC (.bl false))) sPass)
abbrev Q17 : SemS := (sAsg (rDef d_can_go_behind (rCons (rVar 3) (rCons (rVar 5) rNil))) (gN 14))
abbrev Q18 : SemS := (sAsg (rCall allI (rCons (rLc (fRng1 (rCons (rCall lenI (rCons (rVar 3) rNil)) rNil)) (.one 6) [6] (rTBl (rBin cNe (rVar 6) (rBin mulT (rVar 5) (rBin divI (rVar 6) (rVar 5))))) (rBin cEq (rBin idxI (rVar 3) (rVar 6)) (rTup (rCons (rC (.int (0))) (rCons (rC (.int (1))) rNil))))) rNil)) (gN 15))
abbrev Q19 : SemS := (sIf (rTOr (rTBl (rBin cNe (rBin cIsNot (rVar 14) (rC .non)) (rVar 15))) (rTAnd (rTru (rVar 15)) (rTOr (rTBl (rBin cNe (rVar 14) (rBin idxI (rVar 10) (rC (.int (0)))))) (rTBl (rBin cNe (rDef d__law_filtered (rCons (rVar 14) (rCons (rVar 7) rNil))) (rDef d_every (rCons (rVar 9) (rCons (rVar 5) rNil)))))))) (sRet (rC (.bl false))) sPass)
abbrev Q20 : SemS := (sIf (rTOr (rTBl (rBin cNe (rDef d_can_go_behind (rCons (rVar 13) (rCons (rVar 5) rNil))) (rVar 3))) (rTBl (rBin cNe (rDef d_spread_filter (rCons (rDef d_can_go_behind (rCons (rVar 13) (rCons (rVar 5) rNil))) (rCons (rVar 5) rNil))) (rVar 13)))) (sRet (rC (.bl false))) sPass)
abbrev Q21 : SemS := (sIf (rTOr (rTBl (rBin cNe (rDef d_in_one (rCons (rVar 3) (rCons (rVar 4) rNil))) (rDef d__law_product (rCons (rVar 3) (rCons (rVar 4) rNil))))) (rTBl (rBin cNe (rDef d__law_filtered (rCons (rDef d_in_one (rCons (rVar 3) (rCons (rVar 4) rNil))) (rCons (rVar 2) rNil))) (rDef d__law_filtered (rCons (rVar 4) (rCons (rVar 9) rNil)))))) (sRet (rC (.bl false))) sPass)
abbrev Q22 : SemS := (sAsg (rDef d__law_next (rCons (rVar 1) (rCons (rC (.int (12))) rNil))) (gN 16))
abbrev Q23 : SemS := (sAsg (rCall sumT (rCons (rLc (fRng1 (rCons (rVar 16) rNil)) (.one 22) [22] rYes (rCall lenI (rCons (rLc (fRng1 (rCons (rCall lenI (rCons (rVar 3) rNil)) rNil)) (.one 6) [6] (rTAnd (rTBl (rBin cLe (rVar 6) (rVar 22))) (rTBl (rBin cNe (rBin idxI (rVar 3) (rVar 6)) (rTup (rCons (rC (.int (0))) (rCons (rC (.int (1))) rNil)))))) (rC (.int (1)))) rNil))) rNil)) (gN 17))
abbrev Q24 : SemS := (sAsg (rCall sumT (rCons (rLc (fRng1 (rCons (rVar 16) rNil)) (.one 22) [22] (rTBl (rBin cEq (rVar 22) (rBin mulT (rVar 5) (rBin divI (rVar 22) (rVar 5))))) (rCall lenI (rCons (rLc (fRng1 (rCons (rCall lenI (rCons (rVar 3) rNil)) rNil)) (.one 6) [6] (rTAnd (rTBl (rBin cLe (rVar 6) (rVar 22))) (rTBl (rBin cNe (rBin idxI (rVar 3) (rVar 6)) (rTup (rCons (rC (.int (0))) (rCons (rC (.int (1))) rNil)))))) (rC (.int (1)))) rNil))) rNil)) (gN 18))
abbrev Q25 : SemS := (sRet (rAnd (rBin cEq (rDef d_products_needed (rCons (rVar 3) (rCons (rVar 16) (rCons (rVar 5) rNil)))) (rTup (rCons (rVar 17) (rCons (rVar 18) rNil)))) (fun _ st => d__law_refused_right [] st)))
theorem r_law_eq : r_law = (sSeq Q0 (sSeq Q1 (sSeq Q2 (sSeq Q3 (sSeq Q4 (sSeq Q5 (sSeq Q6 (sSeq Q7 (sSeq Q8 (sSeq Q9 (sSeq Q10 (sSeq Q11 (sSeq Q12 (sSeq Q13 (sSeq Q14 (sSeq Q15 (sSeq Q16 (sSeq Q17 (sSeq Q18 (sSeq Q19 (sSeq Q20 (sSeq Q21 (sSeq Q22 (sSeq Q23 (sSeq Q24 Q25))))))))))))))))))))))))) := rfl
/-- what is drawn -/
structure Gv (x p o : List Rat) (s : Nat) : Prop where
  lx : x.length ≤ 13
  lp : p.length ≤ 6
  lo : o.length ≤ 5
  s0 : 0 < s
  s4 : s ≤ 4
  vx : Vs 2 8 x
  vp : Vs 2 8 p
  vo : Vs 2 8 o
  tp : Trim p
  to : Trim o
/-- the names while the law runs -/
structure En (env : IEnv) (x p o : List Rat) (s : Nat) : Prop where
  len : env.length = 23
  e1 : env[1]? = some (some (.ref 2))
  e2 : env[2]? = some (some (T x))
  e3 : env[3]? = some (some (T p))
  e4 : env[4]? = some (some (T o))
  e5 : env[5]? = some (some (.int s))
section
variable {st : Sto} {x p o y : List Rat} {s i j a : Nat} {v w : IV} {env : IEnv}
theorem En.set (E : En env x p o s) {i : Nat} {v : Option IV} (h : 6 ≤ i) : En (env.set i v) x p o s := by
  refine ⟨by rw [List.length_set]; exact E.len, ?_, ?_, ?_, ?_, ?_⟩
  · rw [List.getElem?_set_ne (by omega)]; exact E.e1
  · rw [List.getElem?_set_ne (by omega)]; exact E.e2
  · rw [List.getElem?_set_ne (by omega)]; exact E.e3
  · rw [List.getElem?_set_ne (by omega)]; exact E.e4
  · rw [List.getElem?_set_ne (by omega)]; exact E.e5
theorem En.at (E : En env x p o s) {i : Nat} {v : Option IV} (h : i < 23) : (env.set i v)[i]? = some v := List.getElem?_set_self (by rw [E.len]; exact h)
theorem at_ne {i k : Nat} {v u : Option IV} (h : i ≠ k) : ((env.set i u).set i v)[k]? = env[k]? := by rw [List.getElem?_set_ne h, List.getElem?_set_ne h]
theorem tst_v (E : En env x p o s) (G : Gv x p o s) (h : env[j]? = some (some (.int (a : Nat)))) (ha : a ≤ 10000) : Ok (rBin mulT (rVar 5) (rBin divI (rVar j) (rVar 5)) env st) st (.int ((s * (a / s) : Nat) : Int)) := by
  have := G.s0; have := G.s4
  have hd : a / s ≤ a := Nat.div_le_self a s
  refine Ok.eq (ok_bin (x := .int s) (y := .int ((a / s : Nat) : Int)) (ok_var E.e5) (fun _ _ => Ok.eq (ok_bin (x := .int (a : Nat)) (y := .int s) (ok_var h) (fun _ _ => ok_var E.e5) fun _ _ => ok_div (by omega) (sm_of (by omega))) (by rw [Int.natCast_ediv])) fun _ _ => ok_mul (sm_of (by omega)) (sm_of (by rw [Int.natAbs_natCast]; omega))) (by rw [Int.natCast_mul])
theorem tst (E : En env x p o s) (G : Gv x p o s) (h : env[j]? = some (some (.int (a : Nat)))) (ha : a ≤ 10000) : Ok (rTBl (rBin cEq (rVar j) (rBin mulT (rVar 5) (rBin divI (rVar j) (rVar 5)))) env st) st (decide (a = s * (a / s))) := by
  refine Ok.eq (ok_tbl (ok_bin (x := .int (a : Nat)) (y := .int ((s * (a / s) : Nat) : Int)) (ok_var h) (fun _ _ => tst_v E G h ha) fun _ _ => ok_eqi)) ?_
  congr 1
  exact propext ⟨fun z => Int.natCast_inj.mp z, fun z => congrArg _ z⟩
theorem tstN (E : En env x p o s) (G : Gv x p o s) (h : env[j]? = some (some (.int (a : Nat)))) (ha : a ≤ 10000) : Ok (rTBl (rBin cNe (rVar j) (rBin mulT (rVar 5) (rBin divI (rVar j) (rVar 5)))) env st) st (!decide (a = s * (a / s))) := by
  refine Ok.eq (ok_tbl (ok_bin (x := .int (a : Nat)) (y := .int ((s * (a / s) : Nat) : Int)) (ok_var h) (fun _ _ => tst_v E G h ha) fun _ _ => ok_nei)) ?_
  congr 2
  exact propext ⟨fun z => Int.natCast_inj.mp z, fun z => congrArg _ z⟩
/-- every so many of a row -/
theorem dueC (E : En env x p o s) (G : Gv x p o s) (hy : env[i]? = some (some (T y))) (hi : i ≠ 6) (hl : y.length = x.length) : Ok (rCall tupleI (rCons (rLc (fRng1 (rCons (rCall lenI (rCons (rVar 2) rNil)) rNil)) (.one 6) [6] (rTBl (rBin cEq (rVar 6) (rBin mulT (rVar 5) (rBin divI (rVar 6) (rVar 5))))) (rBin idxI (rVar i) (rVar 6))) rNil) env st) st (T (evr s y)) := by
  have hx := G.lx
  refine Ok.eq (tup_L (lc_rngF (m := x.length) (fun a => (env.set 6 none).set 6 (some (.int (a : Nat)))) (fun a => decide (a = s * (a / s))) (fun a => q (co y a)) (lenVar E.e2) (by omega) (fun _ _ => rfl) (fun a ha s1 g1 => tst ((E.set (by decide)).set (by decide)) G ((E.set (by decide)).at (by decide)) (by omega)) fun a ha _ s1 g1 => ok_bin (x := T y) (y := .int (a : Nat)) (ok_var (by rw [at_ne (Ne.symm hi)]; exact hy)) (fun _ _ => ok_var ((E.set (by decide)).at (by decide))) fun _ _ => ok_idxT rfl (by omega))) ?_
  rw [filt_range G.s0]
  unfold T evr tab
  rw [List.map_map, List.map_map, hl]; rfl
/-- with noughts between -/
theorem btwC (E : En env x p o s) (G : Gv x p o s) (hy : env[i]? = some (some (T y))) (hi : i ≠ 6) (hl : y.length ≤ 100) : OkL (rLc (fRng1 (rCons (rBin mulT (rCall lenI (rCons (rVar i) rNil)) (rVar 5)) rNil)) (.one 6) [6] rYes (rIfE (rTBl (rBin cEq (rVar 6) (rBin mulT (rVar 5) (rBin divI (rVar 6) (rVar 5))))) (rBin idxI (rVar i) (rBin divI (rVar 6) (rVar 5))) (rTup (rCons (rC (.int (0))) (rCons (rC (.int (1))) rNil)))) env st) st ((btw s y).map q) := by
  have h0 := G.s0; have h4 := G.s4
  have hle : y.length * s ≤ 400 := Nat.mul_le_mul hl h4
  refine lc_rngR (m := y.length * s) (fun a => (env.set 6 none).set 6 (some (.int (a : Nat)))) (btwF s (co y)) (Ok.eq (ok_bin (x := .int y.length) (y := .int s) (lenVar hy) (fun _ _ => ok_var E.e5) fun _ _ => ok_mul (sm_of (by omega)) (sm_of (by omega))) (by rw [Int.natCast_mul])) (by omega) (fun _ _ => rfl) fun a ha s1 g1 => ?_
  have hc := tst (st := s1) ((E.set (i := 6) (v := none) (by decide)).set (i := 6) (v := some (.int (a : Nat))) (by decide)) G ((E.set (by decide)).at (by decide)) (show a ≤ 10000 by omega)
  unfold btwF
  by_cases h : a = s * (a / s)
  · rw [if_pos h]
    exact ok_ifT (Ok.eq hc (decide_eq_true h)) fun _ _ => ok_bin (x := T y) (y := .int ((a / s : Nat) : Int)) (ok_var (by rw [at_ne (Ne.symm hi)]; exact hy)) (fun _ _ => Ok.eq (ok_bin (x := .int (a : Nat)) (y := .int s) (ok_var ((E.set (by decide)).at (by decide))) (fun _ _ => ok_var ((E.set (by decide)).set (by decide)).e5) fun _ _ => ok_div (by omega) (sm_of (by omega))) (by rw [Int.natCast_ediv])) fun _ _ => ok_idxT rfl ((Nat.div_lt_iff_lt_mul h0).mpr ha)
  · rw [if_neg h]
    exact ok_ifF (Ok.eq hc (decide_eq_false h)) fun _ _ => ok_tup (ok_cons ok_c fun _ _ => ok_cons ok_c fun _ _ => ok_nil) (by simp)
theorem hldC (E : En env x p o s) (G : Gv x p o s) : Ok (rCall tupleI (rCons (rLc (fRng1 (rCons (rBin mulT (rCall lenI (rCons (rVar 2) rNil)) (rVar 5)) rNil)) (.one 6) [6] rYes (rBin idxI (rVar 2) (rBin divI (rVar 6) (rVar 5)))) rNil) env st) st (T (hld s x)) := by
  have h0 := G.s0; have h4 := G.s4; have hx := G.lx
  have hle : x.length * s ≤ 100 * 4 := Nat.mul_le_mul (by omega) h4
  exact tup_L (lc_rngR (m := x.length * s) (fun a => (env.set 6 none).set 6 (some (.int (a : Nat)))) (fun a => co x (a / s)) (Ok.eq (ok_bin (x := .int x.length) (y := .int s) (lenVar E.e2) (fun _ _ => ok_var E.e5) fun _ _ => ok_mul (sm_of (by omega)) (sm_of (by omega))) (by rw [Int.natCast_mul])) (by omega) (fun _ _ => rfl) fun a ha s1 g1 => ok_bin (x := T x) (y := .int ((a / s : Nat) : Int)) (ok_var ((E.set (by decide)).set (by decide)).e2) (fun _ _ => Ok.eq (ok_bin (x := .int (a : Nat)) (y := .int s) (ok_var ((E.set (by decide)).at (by decide))) (fun _ _ => ok_var ((E.set (by decide)).set (by decide)).e5) fun _ _ => ok_div (by omega) (sm_of (by omega))) (by rw [Int.natCast_ediv])) fun _ _ => ok_idxT rfl ((Nat.div_lt_iff_lt_mul h0).mpr ha))
theorem Gv.step (G : Gv x p o s) : StepOk s := ⟨G.s0, by have := G.s4; omega⟩
theorem Gv.row (G : Gv x p o s) : RowOk x := row_of G.vx (by decide) (by decide) (by have := G.lx; omega)
theorem Gv.poly (G : Gv x p o s) : PolyOk p := poly_of G.vp (by decide) (by decide) (by have := G.lp; omega) G.tp
theorem Gv.other (G : Gv x p o s) : PolyOk o := poly_of G.vo (by decide) (by decide) (by have := G.lo; omega) G.to
theorem Gv.xs (G : Gv x p o s) : x.length * s ≤ 52 := Nat.mul_le_mul G.lx G.s4
theorem Gv.ps (G : Gv x p o s) : p.length * s ≤ 24 := Nat.mul_le_mul G.lp G.s4
theorem Q3_ok (E : En env x p o s) (G : Gv x p o s) : OkS (Q3 env st) st (env.set 7 (some (T (evr s x)))) := oks_set (dueC E G E.e2 (by decide) rfl)
theorem Q4_ok (E : En env x p o s) (G : Gv x p o s) : OkS (Q4 env st) st (env.set 8 (some (T (btw s x)))) := oks_set (tup_L (btwC E G E.e2 (by decide) (by have := G.lx; omega)))
theorem two {f : List IV → Sto → RE IV} {a b : SemE} {v1 v2 : IV} (h1 : ∀ st, Ok (a env st) st v1) (h2 : ∀ st, Ok (b env st) st v2) (hf : ∀ st, Ok (f [v1, v2] st) st v) : Ok (rDef f (rCons a (rCons b rNil)) env st) st v := ok_def (ok_cons (h1 _) fun s _ => ok_cons (h2 s) fun _ _ => ok_nil) fun s _ => hf s
theorem ne_T {a b : SemE} {r t : List Rat} (h1 : Ok (a env st) st (T r)) (h2 : ∀ st1, Gw st st1 → Ok (b env st1) st1 (T t)) (e : r = t) : Ok (rTBl (rBin cNe a b) env st) st false := by
  subst e
  exact ok_tbl (ok_bin h1 h2 fun _ _ => ok_neT)
theorem or_f {c d : SemT} (h1 : Ok (c env st) st false) (h2 : ∀ st1, Gw st st1 → Ok (d env st1) st1 false) : Ok (rTOr c d env st) st false := Ok.eq (ok_tor h1 fun s g _ => h2 s g) rfl
theorem Q5_ok (E : En env x p o s) (G : Gv x p o s) (e7 : env[7]? = some (some (T (evr s x)))) (e8 : env[8]? = some (some (T (btw s x)))) : OkS (Q5 env st) st env := by
  have h := G.xs
  refine oks_chk (or_f (ne_T (two (fun _ => ok_var E.e2) (fun _ => ok_var E.e5) fun _ => every_ok G.row G.step) (fun _ _ => ok_var e7) rfl) fun _ _ => or_f (ne_T (two (fun _ => ok_var E.e2) (fun _ => ok_var E.e5) fun _ => between_ok G.row G.step (by omega)) (fun _ _ => ok_var e8) rfl) fun _ _ => or_f (ne_T (two (fun _ => ok_var E.e2) (fun _ => ok_var E.e5) fun _ => held_ok G.row G.vx G.step (by omega) sm_ones) (fun _ _ => hldC E G) rfl) fun _ _ => ne_T (two (fun _ => ok_var e8) (fun _ => ok_var E.e5) fun _ => every_ok (row_of (G.vx.btw G.s0) (by decide) (by decide) (by rw [btw_len]; omega)) G.step) (fun _ _ => ok_var E.e2) (evr_btw G.s0 x))
theorem Q6_ok (E : En env x p o s) (G : Gv x p o s) : OkS (Q6 env st) st (env.set 9 (some (T (fil p x)))) := oks_set (two (fun _ => ok_var E.e3) (fun _ => ok_var E.e2) fun _ => lfiltered_ok (by have := G.lp; omega) (by have := G.lx; omega) G.vp G.vx sm_ones)
theorem Q7_ok (E : En env x p o s) (G : Gv x p o s) (e9 : env[9]? = some (some (T (fil p x)))) : OkS (Q7 env st) st env :=
  oks_chk (or_f (ne_T (two (fun _ => ok_var E.e3) (fun _ => ok_var E.e2) fun _ => filtered_ok G.poly G.row G.vp G.vx sm_ones) (fun _ _ => ok_var e9) rfl) fun _ _ => ne_T (ok_def (xs := [T p, T x, .int s]) (ok_cons (ok_var E.e3) fun _ _ => ok_cons (ok_var E.e2) fun _ _ => ok_cons (ok_var E.e5) fun _ _ => ok_nil) fun _ _ => fevery_ok G.poly G.row G.step G.vp G.vx sm_ones (by decide)) (fun _ _ => dueC E G e9 (by decide) (fil_len p x)) rfl)
theorem Q8_ok (E : En env x p o s) (G : Gv x p o s) : OkS (Q8 env st) st (env.set 10 (some (TT (phases s p)))) := oks_set (two (fun _ => ok_var E.e3) (fun _ => ok_var E.e5) fun _ => phases_ok G.poly G.step)
theorem phase_len (hs : 0 < s) (p : List Rat) (b : Nat) : (phase s p b).length ≤ p.length := by
  refine Nat.le_trans (trim_len _) ?_
  rw [evr_len, List.length_drop]
  by_cases h0 : p.length - b = 0
  · rw [h0, Nat.zero_add, Nat.div_eq_of_lt (by omega)]; omega
  · have : (p.length - b + s - 1) / s ≤ p.length - b := by
      refine Nat.le_of_lt_succ ((Nat.div_lt_iff_lt_mul hs).mpr ?_)
      have h5 : p.length - b ≤ (p.length - b) * s := Nat.le_mul_of_pos_right _ hs
      show p.length - b + s - 1 < (p.length - b).succ * s
      rw [Nat.succ_mul]
      omega
    omega
theorem from_of {ps : List (List Rat)} (hl : ps.length = s) (h0 : 0 < s) (h4 : s ≤ 4) (hp : ∀ r ∈ ps, r.length ≤ 6 ∧ Vs 2 8 r ∧ Trim r) (st : Sto) : Ok (d_from_phases [TT ps] st) st (T (fromPh ps)) ∧ (fromPh ps).length ≤ 24 := by
  have hm : most ps ≤ 6 := most_ub fun r h => (hp r h).1
  have hmn : most ps * ps.length ≤ 24 := by rw [hl]; exact Nat.mul_le_mul hm h4
  have hfl : (fromPh ps).length ≤ 24 := by
    refine Nat.le_trans (trim_len _) ?_
    rw [tab_len]; exact hmn
  exact ⟨from_ph_ok (by omega) (by omega) (fun r h => poly_of (hp r h).2.1 (by decide) (by decide) (by have := (hp r h).1; omega) (hp r h).2.2) (by omega) (by omega), hfl⟩
theorem Q9_ok (E : En env x p o s) (G : Gv x p o s) (e10 : env[10]? = some (some (TT (phases s p)))) : OkS (Q9 env st) st env := by
  have h0 := G.s0; have h4 := G.s4; have hp := G.lp
  refine oks_chk (or_f (ok_tbl (ok_bin (x := TT (phases s p)) (y := TT (phases s p)) (ok_var e10) (fun s1 g1 => Ok.eq (tup_L (lc_rng (m := s) (fun b => (env.set 19 none).set 19 (some (.int (b : Nat)))) (fun b => T (phase s p b)) (ok_var E.e5) (by omega) (fun _ _ => rfl) fun b hb s2 g2 => ltrim_L (r := evr s (p.drop b)) ?_ ?_)) ?_) fun _ _ => ok_neTT)) fun s1 g1 => ne_T (t := p) (ok_def (xs := [TT (phases s p)]) (ok_cons (ok_var e10) fun _ _ => ok_nil) fun s2 _ => (from_of (s := s) (phases_len s p) h0 h4 (fun r hr => ?_) s2).1) (fun _ _ => ok_var E.e3) (fromPh_phases h0 G.tp))
  · have := lc_rng3 (lo := b) (n := p.length) (s := s) (a := rCons (rVar 19) (rCons (rCall lenI (rCons (rVar 3) rNil)) (rCons (rVar 5) rNil))) (env := (env.set 19 none).set 19 (some (.int (b : Nat)))) (st := s2) (ct := .one 6) (vs := [6]) (te := rBin idxI (rVar 3) (rVar 6)) (fun k => (((env.set 19 none).set 19 (some (.int (b : Nat)))).set 6 none).set 6 (some (.int ((b + s * k : Nat) : Int)))) (fun k => q (co p (b + s * k))) (ok_cons (ok_var ((E.set (by decide)).at (by decide))) fun _ _ => ok_cons (lenVar ((E.set (by decide)).set (by decide)).e3) fun _ _ => ok_cons (ok_var ((E.set (by decide)).set (by decide)).e5) fun _ _ => ok_nil) h0 (by omega) (by omega) (by omega) (fun _ _ => rfl) fun k hk s3 g3 => ok_bin (x := T p) (y := .int ((b + s * k : Nat) : Int)) (ok_var ((((E.set (by decide)).set (by decide)).set (by decide)).set (by decide)).e3) (fun _ _ => ok_var ((((E.set (by decide)).set (by decide)).set (by decide)).at (by decide))) fun _ _ => ok_idxT rfl (by
        have := (div_up (n := p.length - b) h0 k).mp hk
        omega)
    unfold evr tab
    rw [List.map_map, List.length_drop]
    have e : (fun k => q (co p (b + s * k))) = (q ∘ fun i => co (p.drop b) (s * i)) := funext fun k => by
      show _ = q (co (p.drop b) (s * k))
      rw [co_drop]
    rw [← e]
    exact this
  · rw [evr_len, List.length_drop]
    have := Nat.div_le_self (p.length - b + s - 1) s
    omega
  · unfold PL.TT phases; rw [List.map_map]; rfl
  · obtain ⟨b, _, rfl⟩ := List.mem_map.mp hr
    exact ⟨Nat.le_trans (phase_len h0 p b) hp, G.vp.phase h0 b, trim_trim _⟩
end
end law_k17

set_option Elab.async false
set_option linter.all false
set_option maxRecDepth 100000
set_option maxHeartbeats 4000000
namespace law_k17
open PySem PySem.Spec PyProof.Rows L2 PI PL
section
variable {st : Sto} {x p o y : List Rat} {s i j a : Nat} {v w : IV} {env : IEnv} {ps : List (List Rat)} {ms : List Int} {cn : Int}
/-- a small trimmed filter -/
def Sp (r : List Rat) : Prop := r.length ≤ 3 ∧ Vs 2 8 r ∧ Trim r
theorem Q10_dr (E : En env x p o s) (G : Gv x p o s) (D : Dr ms st cn) (h0 : 0 ≤ cn) (h1 : cn < 700) : ∃ ps st' cnt', Q10 env st = .nx (env.set 11 (some (TT ps))) st' ∧ ps.length = s ∧ (∀ r ∈ ps, Sp r) ∧ Dr ms st' cnt' ∧ 0 ≤ cnt' ∧ cnt' ≤ cn + 16 := by
  have hs := G.s4
  obtain ⟨ps, s2, c2, e2, h2, h3, D2, b0, b1⟩ := draws_lc (ms := ms) (st := st) (env := env) 750 T Sp 4 (i := 20) (n := s) (a := rVar 5) (te := rDef d__law_poly (rCons (rVar 1) (rCons (rC (.int (3))) rNil))) (s1 := st) (by unfold rVar; rw [E.e5]) (fun z st cnt D h0 h1 => by
    obtain ⟨r, s', c', e, l, vr, tr, D', c0, c1⟩ := poly_dr (m := 3) D h0 (by decide) (by omega)
    refine ⟨r, s', c', ?_, ⟨l, vr, tr⟩, D', c0, by omega⟩
    have hv : rVar 1 ((env.set 20 none).set 20 (some z)) st = .ok (.ref 2) st := by
      unfold rVar
      rw [at_ne (by decide), E.e1]
    exact rdef_eq (rcons_eq hv (rcons_eq (rfl : rC (.int 3) _ st = .ok (.int 3) st) (rfl : rNil _ st = .ok [] st))) e) D h0 (by omega) (by omega)
  refine ⟨ps, _, c2, sset_eq (rcall_eq (rcons_eq e2 (rfl : rNil _ _ = .ok [] _)) (tup_lst (new_lst s2 (ps.map T) s2.low))), h2, h3, D2, b0, by omega⟩
/-- the phases one behind another, three rounds -/
theorem Q12_ok (E : En env x p o s) (hl : ps.length = s) (hs : s ≤ 4) (hp : ∀ r ∈ ps, Sp r) (e11 : env[11]? = some (some (TT ps))) {n : Nat} (e12 : env[12]? = some (some (.ref n))) (hn : st.os[n]? = some (.lst [])) : ∃ env' st' n', Q12 env st = .nx env' st' ∧ En env' x p o s ∧ (∀ i, i ≠ 6 → i ≠ 12 → env'[i]? = env[i]?) ∧ env'[12]? = some (some (.ref n')) ∧ Gw st st' ∧ lstAt st' n' = some ((tab (3 * s) (frF ps)).map q) := by
  obtain ⟨s2, g2, e2⟩ := walks_rng1 (a := rC (.int 3)) (env := env) (st := st) (m := 3) ok_c (by decide)
  obtain ⟨env', s3, e3, E', hk, g3, n', en, h3⟩ := loop_I (gN 6) (sAsg (rBin addT (rVar 12) (rLc (fSeq (rVar 11)) (.one 21) [21] rYes (rIfE (rTBl (rBin cLt (rVar 6) (rCall lenI (rCons (rVar 21) rNil)))) (rBin idxI (rVar 21) (rVar 6)) (rTup (rCons (rC (.int (0))) (rCons (rC (.int (1))) rNil)))))) (gN 12)) (fun i => .int (i : Nat)) (fun k e st' => En e x p o s ∧ (∀ i, i ≠ 6 → i ≠ 12 → e[i]? = env[i]?) ∧ Gw st st' ∧ ∃ n', e[12]? = some (some (.ref n')) ∧ st'.os[n']? = some (.lst ((tab (k * s) (frF ps)).map q))) 3 (fun k hk e st1 ⟨E, hk2, g, n', en, h⟩ => by
    refine ⟨e.set 6 (some (.int (k : Nat))), rfl, ?_⟩
    have E6 : En (e.set 6 (some (.int (k : Nat)))) x p o s := E.set (by decide)
    have h11 : (e.set 6 (some (.int (k : Nat))))[11]? = some (some (TT ps)) := by
      rw [List.getElem?_set_ne (by decide), hk2 11 (by decide) (by decide)]; exact e11
    have h12 : rVar 12 (e.set 6 (some (.int (k : Nat)))) st1 = .ok (.ref n') st1 := by
      unfold rVar
      rw [List.getElem?_set_ne (by decide), en]
    have hf : ∀ r ∈ ps, ∀ st2, Gw st1 st2 → Ok ((rIfE (rTBl (rBin cLt (rVar 6) (rCall lenI (rCons (rVar 21) rNil)))) (rBin idxI (rVar 21) (rVar 6)) (rTup (rCons (rC (.int (0))) (rCons (rC (.int (1))) rNil)))) (((e.set 6 (some (.int (k : Nat)))).set 21 none).set 21 (some (T r))) st2) st2 (q (co r k)) := fun r hr st2 _ => by
      have r21 : (((e.set 6 (some (.int (k : Nat)))).set 21 none).set 21 (some (T r)))[21]? = some (some (T r)) := (E6.set (by decide)).at (by decide)
      have r6 : (((e.set 6 (some (.int (k : Nat)))).set 21 none).set 21 (some (T r)))[6]? = some (some (.int (k : Nat))) := by
        rw [at_ne (by decide)]; exact E.at (by decide)
      have hc := ok_tbl (ok_bin (f := cLt) (st := st2) (x := .int (k : Nat)) (y := .int r.length) (ok_var r6) (fun _ _ => lenVar r21) fun _ _ => ok_lt)
      by_cases hlt : k < r.length
      · exact ok_ifT (Ok.eq hc (decide_eq_true (by omega))) fun _ _ => ok_bin (x := T r) (y := .int (k : Nat)) (ok_var r21) (fun _ _ => ok_var r6) fun _ _ => ok_idxT rfl hlt
      · rw [co_out (by omega)]
        exact ok_ifF (Ok.eq hc (decide_eq_false (by omega))) fun _ _ => ok_tup (ok_cons ok_c fun _ _ => ok_cons ok_c fun _ _ => ok_nil) (by simp)
    have hps : (ps.map fun r => q (co r k)).length = s := by rw [List.length_map, hl]
    obtain ⟨s4, c4, g4⟩ : ∃ s4, rLc (fSeq (rVar 11)) (.one 21) [21] rYes (rIfE (rTBl (rBin cLt (rVar 6) (rCall lenI (rCons (rVar 21) rNil)))) (rBin idxI (rVar 21) (rVar 6)) (rTup (rCons (rC (.int (0))) (rCons (rC (.int (1))) rNil)))) (e.set 6 (some (.int (k : Nat)))) st1 = .ok (.ref s4.os.length) { os := s4.os ++ [.lst (ps.map fun r => q (co r k))], low := s4.low } ∧ Gw st1 s4 := by
      obtain ⟨s4, c4, g4⟩ := lc_gen (.one 21) (wipeI (e.set 6 (some (.int (k : Nat)))) [21]) rYes _ st1 T (fun r => ((e.set 6 (some (.int (k : Nat)))).set 21 none).set 21 (some (T r))) (fun _ => true) (fun r => q (co r k)) ps [] st1 (.refl _) (fun _ _ => rfl) (fun _ _ st2 _ => ⟨st2, rfl, .refl _⟩) (fun r hr _ => hf r hr)
      rw [List.filter_eq_self.mpr (fun _ _ => rfl), List.reverse_nil, List.nil_append] at c4
      refine ⟨s4, ?_, g4⟩
      have hb : Nat.ble (ps.map T).length lineI = true := Nat.ble_eq_true_of_le (by rw [List.length_map]; unfold lineI; omega)
      have hi : fSeq (rVar 11) (e.set 6 (some (.int (k : Nat)))) st1 = .ok (.items (ps.map T)) st1 := by
        unfold fSeq rVar
        rw [h11]; rfl
      unfold rLc
      rw [hi]
      simp only [RE.bind, hb, cond_true, c4, Sto.allocO, RE.ofO]
    have hadd : addT (.ref n') (.ref s4.os.length) { os := s4.os ++ [.lst (ps.map fun r => q (co r k))], low := s4.low } = some (.ref (s4.os.length + 1), { os := (s4.os ++ [.lst (ps.map fun r => q (co r k))]) ++ [.lst ((tab (k * s) (frF ps)).map q ++ ps.map fun r => q (co r k))], low := s4.low }) := by
      show (match (s4.os ++ [IO.lst (ps.map fun r => q (co r k))])[n']?, (s4.os ++ [IO.lst (ps.map fun r => q (co r k))])[s4.os.length]? with
        | some (.lst xs), some (.lst ys) => bif Nat.ble (xs.length + ys.length) lineI then Sto.allocO { os := s4.os ++ [IO.lst (ps.map fun r => q (co r k))], low := s4.low } (.lst (xs ++ ys)) else none
        | _, _ => none) = _
      rw [show (s4.os ++ [IO.lst (ps.map fun r => q (co r k))])[n']? = _ from (g4.trans (.alloc s4 (.lst (ps.map fun r => q (co r k))))).get h, show (s4.os ++ [IO.lst (ps.map fun r => q (co r k))])[s4.os.length]? = _ from new_get s4 (.lst (ps.map fun r => q (co r k))) s4.low]
      simp only [show Nat.ble (((tab (k * s) (frF ps)).map q).length + (ps.map fun r => q (co r k)).length) lineI = true from Nat.ble_eq_true_of_le (by
        rw [hps, List.length_map, tab_len]
        have : k * s ≤ 3 * 4 := Nat.mul_le_mul (by omega) hs
        unfold lineI; omega), cond_true]
      unfold Sto.allocO
      simp
    refine ⟨_, _, setL_eq (rbin_eq h12 c4 hadd), E6.set (by decide), fun i h6 h12 => ?_, (g.trans g4).trans ((Gw.alloc _ _).trans (.alloc _ _)), s4.os.length + 1, E6.at (by decide), ?_⟩
    · rw [List.getElem?_set_ne (Ne.symm h12), List.getElem?_set_ne (Ne.symm h6)]
      exact hk2 i h6 h12
    · have := new_get { os := s4.os ++ [.lst (ps.map fun r => q (co r k))], low := s4.low } (.lst ((tab (k * s) (frF ps)).map q ++ ps.map fun r => q (co r k))) s4.low
      simp only [List.length_append, List.length_singleton] at this
      rw [this]
      congr 2
      rw [Nat.succ_mul]
      unfold tab
      rw [List.range_add, List.map_append, List.map_append]
      congr 1
      rw [List.map_map, List.map_map]
      apply List.ext_getElem?
      intro b
      rw [List.getElem?_map, List.getElem?_map]
      by_cases hb : b < s
      · have hfr : frF ps (k * s + b) = co ((ps[b]?).getD []) k := by
          unfold frF
          rw [hl, Nat.mul_comm k, Nat.mul_add_mod, Nat.mod_eq_of_lt hb, Nat.mul_add_div (by omega), Nat.div_eq_of_lt hb, Nat.add_zero]
        rw [List.getElem?_range hb]
        show _ = some (q (frF ps (k * s + b)))
        rw [hfr, List.getElem?_eq_getElem (show b < ps.length by omega)]; rfl
      · rw [List.getElem?_eq_none (by omega), List.getElem?_eq_none (by simp; omega)]; rfl) env s2 ⟨E, fun _ _ _ => rfl, g2, n, e12, by rw [g2.get hn, Nat.zero_mul]; rfl⟩
  exact ⟨env', s3, n', (e2 _ _).trans e3, E', hk, en, g3, lst_of h3⟩
theorem Q13_ok (E : En env x p o s) (G : Gv x p o s) (hl : ps.length = s) (hp : ∀ r ∈ ps, Sp r) (e11 : env[11]? = some (some (TT ps))) {n : Nat} (e12 : env[12]? = some (some (.ref n))) (hn : lstAt st n = some ((tab (3 * s) (frF ps)).map q)) : OkS (Q13 env st) st env := by
  have h0 := G.s0; have h4 := G.s4
  have hf : ∀ st, Ok (rDef d_from_phases (rCons (rVar 11) rNil) env st) st (T (fromPh ps)) := fun st => ok_def (xs := [TT ps]) (ok_cons (ok_var e11) fun _ _ => ok_nil) fun s2 _ => (from_of (s := s) hl h0 h4 (fun r hr => ⟨by have := (hp r hr).1; omega, (hp r hr).2⟩) s2).1
  have hfl := (from_of (s := s) hl h0 h4 (fun r hr => ⟨by have := (hp r hr).1; omega, (hp r hr).2⟩) st).2
  have hv : Vs 2 8 (fromPh ps) := fun i => by
    rw [co_fromPh (by omega)]
    unfold frF
    by_cases hi : i % ps.length < ps.length
    · rw [List.getElem?_eq_getElem hi]
      exact (hp _ (List.getElem_mem hi)).2.1 _
    · rw [List.getElem?_eq_none (by omega)]
      exact Dy.zero _ _
  refine oks_chk (or_f (ne_T (hf _) (fun s1 g1 => ok_def (xs := [.ref n]) (ok_cons (ok_var e12) fun _ _ => ok_nil) fun s2 g2 => ltrim_ok (v := .ref n) ((g1.trans g2).lst hn) (by rw [tab_len]; omega)) ?_) fun s1 g1 => ok_tbl (ok_bin (x := TT ps) (y := TT ps) (Ok.eq (ok_def (xs := [T (fromPh ps), .int s]) (ok_cons (hf _) fun _ _ => ok_cons (ok_var E.e5) fun _ _ => ok_nil) fun s2 _ => phases_ok (poly_of hv (by decide) (by decide) (by omega) (trim_trim _)) G.step) ?_) (fun _ _ => ok_var e11) fun _ _ => ok_neTT))
  · refine trim_ext (trim_trim _) (trim_trim _) fun i => ?_
    rw [co_fromPh (by omega), co_trim, co_tab]
    split
    · rfl
    · rename_i hi
      unfold frF
      have hm : i % ps.length < ps.length := Nat.mod_lt _ (by omega)
      rw [List.getElem?_eq_getElem hm, Option.getD_some, co_out]
      have := (hp _ (List.getElem_mem hm)).1
      have h2 : 3 ≤ i / ps.length := (Nat.le_div_iff_mul_le (by omega)).mpr (by rw [hl]; omega)
      omega
  · rw [phases_fromPh h0 hl fun r hr => (hp r hr).2.2]
theorem Gv.fits (G : Gv x p o s) : ((p.length : Int) - 1) * s + 1 ≤ 60 := by
  have h : ((p.length : Int) - 1) * s ≤ 5 * 4 := by
    by_cases hp : 0 < p.length
    · exact Int.mul_le_mul (by have := G.lp; omega) (by have := G.s4; omega) (by omega) (by decide)
    · have : ((p.length : Int) - 1) * s ≤ 0 := Int.mul_nonpos_of_nonpos_of_nonneg (by omega) (by omega)
      omega
  omega
theorem Gv.sl (G : Gv x p o s) : (spr s p).length ≤ 24 := by
  refine Nat.le_trans (trim_len _) ?_
  rw [btw_len]; exact G.ps
theorem Gv.spoly (G : Gv x p o s) : PolyOk (spr s p) := poly_of (G.vp.spr G.s0) (by decide) (by decide) (by have := G.sl; omega) (trim_trim _)
theorem Q14_ok (E : En env x p o s) (G : Gv x p o s) : OkS (Q14 env st) st (env.set 13 (some (T (spr s p)))) := oks_set (two (fun _ => ok_var E.e3) (fun _ => ok_var E.e5) fun _ => spread_ok G.poly G.step G.fits)
theorem Q15_ok (E : En env x p o s) (G : Gv x p o s) (e13 : env[13]? = some (some (T (spr s p)))) : OkS (Q15 env st) st env :=
  oks_chk (or_f (ne_T (ok_var e13) (fun _ _ => ltrim_L (btwC E G E.e3 (by decide) (by have := G.lp; omega)) (by rw [btw_len]; have := G.ps; omega)) rfl) fun _ _ => ne_T (two (fun _ => ok_var E.e3) (fun _ => ok_var E.e5) fun _ => first_ok G.poly G.step G.fits) (fun _ _ => ok_var e13) rfl)
theorem Q16_ok (E : En env x p o s) (G : Gv x p o s) (e7 : env[7]? = some (some (T (evr s x)))) (e8 : env[8]? = some (some (T (btw s x)))) (e13 : env[13]? = some (some (T (spr s p)))) : OkS (Q16 env st) st env := by
  have h0 := G.s0; have hx := G.lx; have hp := G.lp; have hxs := G.xs; have hsl := G.sl
  have hev : (evr s x).length ≤ 300 := by
    rw [evr_len]
    have := Nat.div_le_self (x.length + s - 1) s
    have := G.s4
    omega
  have v1 : Vs 4 (8 * 8 * 24) (fil (spr s p) x) := (G.vp.spr h0).fil G.vx (n := 23) (by omega)
  have v2 : Vs 4 (8 * 8 * 6) (fil p x) := G.vp.fil G.vx (n := 5) (by omega)
  exact oks_chk (or_f (ne_T (two (fun _ => two (fun _ => ok_var e13) (fun _ => ok_var E.e2) fun _ => lfiltered_ok (by omega) (by omega) (G.vp.spr h0) G.vx sm_ones) (fun _ => ok_var E.e5) fun _ => every_ok (row_of v1 (by decide) (by decide) (by rw [fil_len]; omega)) G.step) (fun _ _ => two (fun _ => ok_var E.e3) (fun _ => ok_var e7) fun _ => lfiltered_ok (by omega) hev G.vp (G.vx.evr h0) sm_ones) (evr_fil_spr h0 p x)) fun _ _ => ne_T (two (fun _ => two (fun _ => ok_var E.e3) (fun _ => ok_var E.e2) fun _ => lfiltered_ok (by omega) (by omega) G.vp G.vx sm_ones) (fun _ => ok_var E.e5) fun _ => between_ok (row_of v2 (by decide) (by decide) (by rw [fil_len]; omega)) G.step (by rw [fil_len]; omega)) (fun _ _ => two (fun _ => ok_var e13) (fun _ => ok_var e8) fun _ => lfiltered_ok (by omega) (by rw [btw_len]; omega) (G.vp.spr h0) (G.vx.btw h0) sm_ones) (btw_fil h0 p x))
abbrev bhd (s : Nat) (p : List Rat) : IV := if bare s p = true then T (phase s p 0) else .non
theorem Q17_ok (E : En env x p o s) (G : Gv x p o s) : OkS (Q17 env st) st (env.set 14 (some (bhd s p))) := oks_set (two (fun _ => ok_var E.e3) (fun _ => ok_var E.e5) fun _ => behind_ok G.poly G.step)
theorem Q18_ok (E : En env x p o s) (G : Gv x p o s) : OkS (Q18 env st) st (env.set 15 (some (.bl (bare s p)))) := by
  have h0 := G.s0; have hp := G.lp
  refine oks_set (Ok.eq (all_L (ks := (List.range p.length).filter fun a => !decide (a = s * (a / s))) (f := fun a => decide (co p a = 0)) (lc_rngF (m := p.length) (fun a => (env.set 6 none).set 6 (some (.int (a : Nat)))) (fun a => !decide (a = s * (a / s))) (fun a => .bl (decide (co p a = 0))) (lenVar E.e3) (by omega) (fun _ _ => rfl) (fun a ha s1 g1 => tstN ((E.set (by decide)).set (by decide)) G ((E.set (by decide)).at (by decide)) (by omega)) fun a ha _ s1 g1 => ok_bin (x := q (co p a)) (y := q 0) (ok_bin (x := T p) (y := .int (a : Nat)) (ok_var ((E.set (by decide)).set (by decide)).e3) (fun _ _ => ok_var ((E.set (by decide)).at (by decide))) fun _ _ => ok_idxT rfl ha) (fun _ _ => ok_tup (ok_cons ok_c fun _ _ => ok_cons ok_c fun _ _ => ok_nil) (by simp)) fun _ _ => ok_eqq)) ?_)
  congr 1
  rw [Bool.eq_iff_iff, bare_iff h0, List.all_eq_true]
  constructor
  · intro h a ha hne
    exact of_decide_eq_true (h a (List.mem_filter.mpr ⟨List.mem_range.mpr ha, by rw [decide_eq_false hne]; rfl⟩))
  · intro h a ha
    obtain ⟨h1, h2⟩ := List.mem_filter.mp ha
    refine decide_eq_true (h a (List.mem_range.mp h1) fun z => ?_)
    rw [decide_eq_true z] at h2
    cases h2
theorem Q19_ok (E : En env x p o s) (G : Gv x p o s) (e7 : env[7]? = some (some (T (evr s x)))) (e9 : env[9]? = some (some (T (fil p x)))) (e10 : env[10]? = some (some (TT (phases s p)))) (e14 : env[14]? = some (some (bhd s p))) (e15 : env[15]? = some (some (.bl (bare s p)))) : OkS (Q19 env st) st env := by
  have h0 := G.s0; have hx := G.lx; have hp := G.lp
  have v2 : Vs 4 (8 * 8 * 6) (fil p x) := G.vp.fil G.vx (n := 5) (by omega)
  unfold bhd at e14
  cases hb : bare s p with
  | true =>
    rw [hb] at e14 e15
    rw [if_pos rfl] at e14
    have hev : (evr s x).length ≤ 300 := by
      rw [evr_len]
      have := Nat.div_le_self (x.length + s - 1) s
      have := G.s4
      omega
    refine oks_chk (or_f (Ok.eq (ok_tbl (ok_bin (x := .bl true) (y := .bl true) (ok_bin (x := T (phase s p 0)) (y := .non) (ok_var e14) (fun _ _ => ok_c) fun _ _ => ok_ofO rfl) (fun _ _ => ok_var e15) fun _ _ => ok_ofO (v := .bl false) rfl)) rfl) fun _ _ => Ok.eq (ok_tand (k := true) (l := false) (ok_trub (ok_var e15)) fun _ _ _ => or_f (ne_T (ok_var e14) (fun _ _ => ok_bin (x := TT (phases s p)) (y := .int (0 : Nat)) (ok_var e10) (fun _ _ => ok_c) fun _ _ => ok_idxTT (phases_get p h0)) rfl) fun _ _ => ne_T (two (fun _ => ok_var e14) (fun _ => ok_var e7) fun _ => lfiltered_ok (by have := phase_len h0 p 0; omega) hev (G.vp.phase h0 0) (G.vx.evr h0) sm_ones) (fun _ _ => two (fun _ => ok_var e9) (fun _ => ok_var E.e5) fun _ => every_ok (row_of v2 (by decide) (by decide) (by rw [fil_len]; omega)) G.step) (sparse_fil h0 ((bare_iff h0).mp hb) x)) rfl)
  | false =>
    rw [hb] at e14 e15
    rw [if_neg (by decide)] at e14
    exact oks_chk (or_f (Ok.eq (ok_tbl (ok_bin (x := .bl false) (y := .bl false) (ok_bin (x := .non) (y := .non) (ok_var e14) (fun _ _ => ok_c) fun _ _ => ok_ofO rfl) (fun _ _ => ok_var e15) fun _ _ => ok_ofO (v := .bl false) rfl)) rfl) fun _ _ => Ok.eq (ok_tand (k := false) (l := false) (ok_trub (ok_var e15)) fun _ _ z => nomatch z) rfl)
theorem spr_bare (h0 : 0 < s) (hp : Trim p) : bare s (spr s p) = true := by
  rw [bare_iff h0]
  exact phase_sparse h0 fun b hb hb2 => by rw [phase_spr h0 hp hb2, if_neg (by omega)]
theorem Q20_ok (E : En env x p o s) (G : Gv x p o s) (e13 : env[13]? = some (some (T (spr s p)))) : OkS (Q20 env st) st env := by
  have h0 := G.s0
  have hb : ∀ st, Ok (rDef d_can_go_behind (rCons (rVar 13) (rCons (rVar 5) rNil)) env st) st (T p) := fun st => by
    have := two (env := env) (st := st) (f := d_can_go_behind) (a := rVar 13) (b := rVar 5) (fun _ => ok_var e13) (fun _ => ok_var E.e5) fun _ => behind_ok G.spoly G.step
    rw [if_pos (spr_bare h0 G.tp), phase_spr h0 G.tp h0, if_pos rfl] at this
    exact this
  exact oks_chk (or_f (ne_T (hb _) (fun _ _ => ok_var E.e3) rfl) fun _ _ => ne_T (two hb (fun _ => ok_var E.e5) fun _ => spread_ok G.poly G.step G.fits) (fun _ _ => ok_var e13) rfl)
theorem Q21_ok (E : En env x p o s) (G : Gv x p o s) (e9 : env[9]? = some (some (T (fil p x)))) : OkS (Q21 env st) st env := by
  have hx := G.lx; have hp := G.lp; have ho := G.lo
  have hin : ∀ st, Ok (rDef d_in_one (rCons (rVar 3) (rCons (rVar 4) rNil)) env st) st (T (prod p o)) := fun st => two (fun _ => ok_var E.e3) (fun _ => ok_var E.e4) fun _ => in_one_ok G.poly G.other G.vp G.vo sm_ones (by omega)
  have vpr : Vs 4 (8 * 8 * 6) (prod p o) := G.vp.prod G.vo (n := 5) (by omega)
  have vt : Vs 4 (8 * 8 * 6) (fil p x) := G.vp.fil G.vx (n := 5) (by omega)
  have hpl : (prod p o).length ≤ 60 := by
    refine Nat.le_trans (trim_len _) ?_
    rw [tab_len]; omega
  exact oks_chk (or_f (ne_T (hin _) (fun _ _ => two (fun _ => ok_var E.e3) (fun _ => ok_var E.e4) fun _ => lproduct_ok G.vp G.vo (by omega) (by omega) sm_ones) rfl) fun _ _ => ne_T (two hin (fun _ => ok_var E.e2) fun _ => lfiltered_ok hpl (by omega) vpr G.vx ⟨by decide, by decide, by decide, by decide⟩) (fun _ _ => two (fun _ => ok_var E.e4) (fun _ => ok_var e9) fun _ => lfiltered_ok (by omega) (by rw [fil_len]; omega) G.vo vt ⟨by decide, by decide, by decide, by decide⟩) (fil_prod p o x))
/-! products -/
theorem cntC (E : En env x p o s) (G : Gv x p o s) {k : Nat} (e22 : env[22]? = some (some (.int (k : Nat)))) : Ok (rCall lenI (rCons (rLc (fRng1 (rCons (rCall lenI (rCons (rVar 3) rNil)) rNil)) (.one 6) [6] (rTAnd (rTBl (rBin cLe (rVar 6) (rVar 22))) (rTBl (rBin cNe (rBin idxI (rVar 3) (rVar 6)) (rTup (rCons (rC (.int (0))) (rCons (rC (.int (1))) rNil)))))) (rC (.int (1)))) rNil) env st) st (.int (cnt p k : Nat)) := by
  have hp := G.lp
  refine Ok.eq (len_L (lc_rngF (m := p.length) (fun a => (env.set 6 none).set 6 (some (.int (a : Nat)))) (fun a => decide ((a : Int) ≤ (k : Nat)) && !decide (co p a = 0)) (fun _ => .int 1) (lenVar E.e3) (by omega) (fun _ _ => rfl) (fun a ha s1 g1 => ok_tand (ok_tbl (ok_bin (x := .int (a : Nat)) (y := .int (k : Nat)) (ok_var ((E.set (by decide)).at (by decide))) (fun _ _ => ok_var (by rw [at_ne (by decide)]; exact e22)) fun _ _ => ok_le)) fun _ _ _ => ok_tbl (ok_bin (x := q (co p a)) (y := q 0) (ok_bin (x := T p) (y := .int (a : Nat)) (ok_var ((E.set (by decide)).set (by decide)).e3) (fun _ _ => ok_var ((E.set (by decide)).at (by decide))) fun _ _ => ok_idxT rfl ha) (fun _ _ => ok_tup (ok_cons ok_c fun _ _ => ok_cons ok_c fun _ _ => ok_nil) (by simp)) fun _ _ => ok_neq)) fun _ _ _ _ _ => ok_c)) ?_
  rw [List.length_map]
  unfold law_k17.cnt fct
  rw [List.filter_filter]
theorem Q23_ok (E : En env x p o s) (G : Gv x p o s) {m : Nat} (hm : m ≤ 12) (e16 : env[16]? = some (some (.int (m : Nat)))) : OkS (Q23 env st) st (env.set 17 (some (.int (plainN p m)))) := by
  refine oks_set (sum_L (ks := (List.range m).map fun k => (law_k17.cnt p k : Int)) ?_)
  rw [List.map_map]
  exact lc_rng (m := m) (fun k => (env.set 22 none).set 22 (some (.int (k : Nat)))) (fun k => .int (law_k17.cnt p k : Nat)) (ok_var e16) (by omega) (fun _ _ => rfl) fun k hk s1 g1 => cntC ((E.set (i := 22) (by decide)).set (i := 22) (by decide)) G ((E.set (i := 22) (by decide)).at (by decide))
theorem Q24_ok (E : En env x p o s) (G : Gv x p o s) {m : Nat} (hm : m ≤ 12) (e16 : env[16]? = some (some (.int (m : Nat)))) : OkS (Q24 env st) st (env.set 18 (some (.int (lessN p m s)))) := by
  refine oks_set (sum_L (ks := (List.range ((m + s - 1) / s)).map fun k => (law_k17.cnt p (s * k) : Int)) ?_)
  have := lc_rngF (tt := (rTBl (rBin cEq (rVar 22) (rBin mulT (rVar 5) (rBin divI (rVar 22) (rVar 5)))))) (te := rCall lenI (rCons (rLc (fRng1 (rCons (rCall lenI (rCons (rVar 3) rNil)) rNil)) (.one 6) [6] (rTAnd (rTBl (rBin cLe (rVar 6) (rVar 22))) (rTBl (rBin cNe (rBin idxI (rVar 3) (rVar 6)) (rTup (rCons (rC (.int (0))) (rCons (rC (.int (1))) rNil)))))) (rC (.int (1)))) rNil)) (ct := .one 22) (vs := [22]) (st := st) (m := m) (a := rVar 16) (env := env) (fun k => (env.set 22 none).set 22 (some (.int (k : Nat)))) (fun a => decide (a = s * (a / s))) (fun k => .int (law_k17.cnt p k : Nat)) (ok_var e16) (by omega) (fun _ _ => rfl) (fun a ha s1 g1 => tst ((E.set (by decide)).set (by decide)) G ((E.set (by decide)).at (by decide)) (by omega)) fun k hk _ s1 g1 => cntC ((E.set (by decide)).set (by decide)) G ((E.set (by decide)).at (by decide))
  rw [filt_range G.s0, List.map_map] at this
  rw [List.map_map]
  exact this
theorem Q25_ok (E : En env x p o s) (G : Gv x p o s) {m : Nat} (hm : m ≤ 12) (e16 : env[16]? = some (some (.int (m : Nat)))) (e17 : env[17]? = some (some (.int (plainN p m)))) (e18 : env[18]? = some (some (.int (lessN p m s)))) : OkR (Q25 env st) st (.bl true) := by
  refine okr_ret (Ok.eq (ok_and (k := true) (l := true) (ok_bin (x := .tup ([plainN p m, lessN p m s].map IV.int)) (y := .tup ([plainN p m, lessN p m s].map IV.int)) (ok_def (xs := [T p, .int (m : Nat), .int s]) (ok_cons (ok_var E.e3) fun _ _ => ok_cons (ok_var e16) fun _ _ => ok_cons (ok_var E.e5) fun _ _ => ok_nil) fun _ _ => needed_ok G.poly G.step (by omega)) (fun _ _ => ok_tup (ok_cons (ok_var e17) fun _ _ => ok_cons (ok_var e18) fun _ _ => ok_nil) (by simp)) fun s1 _ => ok_ofO (by
    show blO (eqI s1 _ _) s1 = _
    rw [eq_ints]; rfl)) fun s1 _ _ => refused_ok) rfl)
end
end law_k17

set_option Elab.async false
set_option linter.all false
set_option maxRecDepth 100000
set_option maxHeartbeats 4000000
namespace law_k17
open PySem PySem.Spec PyProof.Rows L2 PI PL
theorem law_true (ns : List Int) (l0 : Nat) : ∃ st', d_law [.ref 0] { os := [.frl (ns.map IV.int)], low := l0 } = .ok (.bl true) st' := by
  obtain ⟨ms, hms⟩ := cut_map ns none (some 63)
  have e0 : Q0 (startI 23 [.ref 0]) { os := [.frl (ns.map IV.int)], low := l0 } = .nx ((startI 23 [.ref 0]).set 1 (some (.ref 2))) { os := [.frl (ns.map IV.int), .lst (ms.map IV.int), .lst [.ref 1, .int 0, .int 0]], low := l0 } := by
    rw [← hms]; rfl
  have D0 : Dr ms { os := [.frl (ns.map IV.int), .lst (ms.map IV.int), .lst [.ref 1, .int 0, .int 0]], low := l0 } 0 := ⟨rfl, rfl⟩
  obtain ⟨v1, t1, a1, b1, f1, D1⟩ := drw (env := (startI 23 [.ref 0]).set 1 (some (.ref 2))) (b := 14) rfl D0 (by decide) (by decide) (by decide)
  obtain ⟨nx, rfl⟩ := Int.eq_ofNat_of_zero_le a1
  obtain ⟨x, t2, c2, f2, lx, vx, D2, z2, w2⟩ := row_dr (n := nx) D1 (by omega) (by omega) (by omega)
  obtain ⟨p, t3, c3, f3, lp, vp, tp, D3, z3, w3⟩ := poly_dr (m := 6) D2 z2 (by decide) (by omega)
  obtain ⟨o, t4, c4, f4, lo, vo, to, D4, z4, w4⟩ := poly_dr (m := 5) D3 z3 (by decide) (by omega)
  have hv : ∀ st, rVar 1 ((startI 23 [.ref 0]).set 1 (some (.ref 2))) st = .ok (.ref 2) st := fun _ => rfl
  have e1 := sasg3_eq (i := 2) (j := 3) (k := 4) (env := (startI 23 [.ref 0]).set 1 (some (.ref 2))) (rdef_eq (D := d__law_row) (rcons_eq (hv _) (rcons_eq (show rDef d__law_next (rCons (rVar 1) (rCons (rC (.int 14)) rNil)) _ _ = _ from f1) (rfl : rNil _ t1 = .ok [] t1))) f2) (rdef_eq (D := d__law_poly) (rcons_eq (hv _) (rcons_eq (rfl : rC (.int 6) _ t2 = .ok (.int 6) t2) (rfl : rNil _ t2 = .ok [] t2))) f3) (rdef_eq (D := d__law_poly) (rcons_eq (hv _) (rcons_eq (rfl : rC (.int 5) _ t3 = .ok (.int 5) t3) (rfl : rNil _ t3 = .ok [] t3))) f4)
  obtain ⟨s', t5, a5, b5, f5, D5⟩ := drw1 (env := ((((startI 23 [.ref 0]).set 1 (some (.ref 2))).set 2 (some (T x))).set 3 (some (T p))).set 4 (some (T o))) (b := 4) rfl D4 z4 (by omega) (by decide)
  obtain ⟨s, rfl⟩ := Int.eq_ofNat_of_zero_le (show 0 ≤ s' by omega)
  have e2 := sset_eq (i := 5) (show rBin addI (rC (.int 1)) (rDef d__law_next (rCons (rVar 1) (rCons (rC (.int 4)) rNil))) _ _ = _ from f5)
  have G : Gv x p o s := ⟨by omega, lp, lo, by omega, by omega, vx, vp, vo, tp, to⟩
  let E5 : IEnv := (((((startI 23 [.ref 0]).set 1 (some (.ref 2))).set 2 (some (T x))).set 3 (some (T p))).set 4 (some (T o))).set 5 (some (.int s))
  have E : En E5 x p o s := ⟨rfl, rfl, rfl, rfl, rfl, rfl⟩
  obtain ⟨t7, e3, g7⟩ := Q3_ok (st := t5) E G
  let E7 : IEnv := E5.set 7 (some (T (evr s x)))
  have En7 : En E7 x p o s := E.set (by decide)
  obtain ⟨t8, e4, g8⟩ := Q4_ok (st := t7) En7 G
  let E8 : IEnv := E7.set 8 (some (T (btw s x)))
  have En8 : En E8 x p o s := En7.set (by decide)
  obtain ⟨t9, e5, g9⟩ := Q5_ok (st := t8) En8 G rfl rfl
  obtain ⟨t10, e6, g10⟩ := Q6_ok (st := t9) En8 G
  let E9 : IEnv := E8.set 9 (some (T (fil p x)))
  have En9 : En E9 x p o s := En8.set (by decide)
  obtain ⟨t11, e7, g11⟩ := Q7_ok (st := t10) En9 G rfl
  obtain ⟨t12, e8, g12⟩ := Q8_ok (st := t11) En9 G
  let E10 : IEnv := E9.set 10 (some (TT (phases s p)))
  have En10 : En E10 x p o s := En9.set (by decide)
  obtain ⟨t13, e9, g13⟩ := Q9_ok (st := t12) En10 G rfl
  have D13 : Dr ms t13 (c4 + 1) := D5.grow ((((((g7.trans g8).trans g9).trans g10).trans g11).trans g12).trans g13)
  obtain ⟨ps, t14, c14, e10, hpl, hps, D14, z14, w14⟩ := Q10_dr En10 G D13 (by omega) (by omega)
  let E11 : IEnv := E10.set 11 (some (TT ps))
  have En11 : En E11 x p o s := En10.set (by decide)
  have e11 : Q11 E11 t14 = .nx (E11.set 12 (some (.ref t14.os.length))) { os := t14.os ++ [.lst []], low := t14.low } := rfl
  have En12 : En (E11.set 12 (some (.ref t14.os.length))) x p o s := En11.set (by decide)
  obtain ⟨E13, t15, n13, e12, En13, hk, h12, g15, hl15⟩ := Q12_ok (env := E11.set 12 (some (.ref t14.os.length))) (st := { os := t14.os ++ [.lst []], low := t14.low }) En12 hpl G.s4 hps rfl rfl (new_get _ _ _)
  have k7 : E13[7]? = some (some (T (evr s x))) := hk 7 (by decide) (by decide)
  have k8 : E13[8]? = some (some (T (btw s x))) := hk 8 (by decide) (by decide)
  have k9 : E13[9]? = some (some (T (fil p x))) := hk 9 (by decide) (by decide)
  have k10 : E13[10]? = some (some (TT (phases s p))) := hk 10 (by decide) (by decide)
  have k11 : E13[11]? = some (some (TT ps)) := hk 11 (by decide) (by decide)
  obtain ⟨t16, e13, g16⟩ := Q13_ok En13 G hpl hps k11 h12 hl15
  obtain ⟨t17, e14, g17⟩ := Q14_ok (st := t16) En13 G
  have En14 : En (E13.set 13 (some (T (spr s p)))) x p o s := En13.set (by decide)
  have ne13 : ∀ {k : Nat}, k ≠ 13 → (E13.set 13 (some (T (spr s p))))[k]? = E13[k]? := fun h => List.getElem?_set_ne (Ne.symm h)
  obtain ⟨t18, e15, g18⟩ := Q15_ok (st := t17) En14 G (En13.at (by decide))
  obtain ⟨t19, e16, g19⟩ := Q16_ok (st := t18) En14 G ((ne13 (by decide)).trans k7) ((ne13 (by decide)).trans k8) (En13.at (by decide))
  obtain ⟨t20, e17, g20⟩ := Q17_ok (st := t19) En14 G
  have En15 : En ((E13.set 13 (some (T (spr s p)))).set 14 (some (bhd s p))) x p o s := En14.set (by decide)
  obtain ⟨t21, e18, g21⟩ := Q18_ok (st := t20) En15 G
  have En16 : En (((E13.set 13 (some (T (spr s p)))).set 14 (some (bhd s p))).set 15 (some (.bl (bare s p)))) x p o s := En15.set (by decide)
  have ne15 : ∀ {k : Nat}, k ≠ 13 → k ≠ 14 → k ≠ 15 → (((E13.set 13 (some (T (spr s p)))).set 14 (some (bhd s p))).set 15 (some (.bl (bare s p))))[k]? = E13[k]? := fun h h2 h3 => by
    rw [List.getElem?_set_ne (Ne.symm h3), List.getElem?_set_ne (Ne.symm h2), List.getElem?_set_ne (Ne.symm h)]
  obtain ⟨t22, e19, g22⟩ := Q19_ok (st := t21) En16 G ((ne15 (by decide) (by decide) (by decide)).trans k7) ((ne15 (by decide) (by decide) (by decide)).trans k9) ((ne15 (by decide) (by decide) (by decide)).trans k10) (by rw [List.getElem?_set_ne (by decide)]; exact En14.at (by decide)) (En15.at (by decide))
  obtain ⟨t23, e20, g23⟩ := Q20_ok (st := t22) En16 G (by rw [List.getElem?_set_ne (by decide), List.getElem?_set_ne (by decide)]; exact En13.at (by decide))
  obtain ⟨t24, e21, g24⟩ := Q21_ok (st := t23) En16 G ((ne15 (by decide) (by decide) (by decide)).trans k9)
  have D24 : Dr ms t24 c14 := D14.grow (((((((((((Gw.alloc _ _).trans g15).trans g16).trans g17).trans g18).trans g19).trans g20).trans g21).trans g22).trans g23).trans g24)
  obtain ⟨m', t25, a25, b25, f25, D25⟩ := drw (b := 12) En16.e1 D24 z14 (by omega) (by decide)
  obtain ⟨m, rfl⟩ := Int.eq_ofNat_of_zero_le a25
  have e22 := sset_eq (i := 16) (show rDef d__law_next (rCons (rVar 1) (rCons (rC (.int 12)) rNil)) _ _ = _ from f25)
  have En17 := En16.set (i := 16) (v := some (.int (m : Nat))) (by decide)
  have e16m := En16.at (i := 16) (v := some (.int (m : Nat))) (by decide)
  obtain ⟨t26, e23, g26⟩ := Q23_ok (st := t25) En17 G (show m ≤ 12 by omega) e16m
  have En18 := En17.set (i := 17) (v := some (.int (plainN p m))) (by decide)
  obtain ⟨t27, e24, g27⟩ := Q24_ok (st := t26) En18 G (show m ≤ 12 by omega) (by rw [List.getElem?_set_ne (by decide)]; exact e16m)
  have En19 := En18.set (i := 18) (v := some (.int (lessN p m s))) (by decide)
  obtain ⟨t28, e25, g28⟩ := Q25_ok (st := t27) En19 G (show m ≤ 12 by omega) (by rw [List.getElem?_set_ne (by decide), List.getElem?_set_ne (by decide)]; exact e16m) (by rw [List.getElem?_set_ne (by decide)]; exact En17.at (by decide)) (En18.at (by decide))
  refine ⟨t28, ?_⟩
  unfold d_law
  rw [r_law_eq]
  refine callI_rt ?_
  rw [seq_nx e0, seq_nx (show Q1 _ _ = _ from e1), seq_nx (show Q2 _ _ = _ from e2), seq_nx e3, seq_nx e4, seq_nx e5, seq_nx e6, seq_nx e7, seq_nx e8, seq_nx e9, seq_nx e10, seq_nx e11, seq_nx e12, seq_nx e13, seq_nx e14, seq_nx e15, seq_nx e16, seq_nx e17, seq_nx e18, seq_nx e19, seq_nx e20, seq_nx e21, seq_nx (show Q22 _ _ = _ from e22), seq_nx e23, seq_nx e24]
  exact e25
end law_k17

set_option Elab.async false
set_option linter.all false
set_option maxRecDepth 100000
set_option maxHeartbeats 2000000
/-! PE1: what the heap behind the top says, by one look of the kernel. -/
namespace PI
open PySem PySem.Spec PyProof.Rows L2
open LamX (Tabs TabS CodeO ExtN TabB)
abbrev Look := Addr → Option Obj
/-! ### the part of the heap -/
def refsD (o : Obj) : List Addr := match o.data with
  | .seq its _ => its.toList.flatMap He.refV
  | .dict es _ => es.toList.flatMap fun z => He.refV z.val
  | .func fd => He.refV fd.code ++ fd.closure.map (·.2)
  | .cls cd => [cd.ns]
  | _ => []
def atG (g : Look) (a : Addr) : List Addr := match g a with
  | some o => refsD o
  | none => []
def isCG (g : Look) (a : Addr) : Bool := match g a with
  | some ⟨_, _, .cls _, _⟩ => true
  | _ => false
def a1G (g : Look) : List Addr := atG g mainGlobals
def a3G (g : Look) (a1 : List Addr) : List Addr := (a1.filter (isCG g)).flatMap fun c => (atG g c).flatMap (atG g)
def asN (g : Look) : List Addr := let a1 := a1G g; let a3 := a3G g a1; [mainGlobals, cStatics] ++ (a1 ++ (a1.flatMap (atG g) ++ (a3 ++ a3.flatMap (atG g))))
def kN (g : Look) : PySem.W.Frag := He.frG g (asN g)
theorem kN_in {h : Heap} : (kN h.get?).In h := He.frG_in
/-! ### defs -/
def cdA (K : PySem.W.Frag) (x : Str) : Addr := match K.lookup (He.ga K x) with
  | some ⟨_, _, .func fd, _⟩ => (match fd.code with
    | .ref c => c
    | _ => 0)
  | _ => 0
def fnB (K : PySem.W.Frag) (x : Str) : Bool := (He.Fa.glo x).ok K && ((He.Fa.keep x).ok K && (He.Fa.code (x, none) x).ok K)
def fnV (x : Str) (st : Stmt) : He.FnV := He.FnD.val ⟨(x, none), x, x, defArgs st, defBody st, defScope st⟩
theorem codeIn_ref {K : PySem.W.Frag} {cdv : Value} {q : Str} (h : PySem.W.codeIn K cdv q = true) : ∃ c, cdv = .ref c := by
  cases cdv with
  | ref c => exact ⟨c, rfl⟩
  | _ => cases h
section
variable {K : PySem.W.Frag} {h : Heap} {mg : Str → Option Value}
theorem fun_of {x : Str} {st : Stmt} (X : K.In h) (G : h.Ns mainGlobals mg) (c : fnB K x = true) (e : He.fnObs K (x, none) = fnV x st) : ∃ f fd, mg x = some (.ref f) ∧ Fun K x x st f fd ∧ fd.code = .ref (cdA K x) := by
  obtain ⟨c1, c⟩ := He.ba c
  obtain ⟨c2, c3⟩ := He.ba c
  obtain ⟨oc, od, osl, kV, doc, pm, an, cdv, ct, lk, hc⟩ := He.fn_ok (d := ⟨(x, none), x, x, defArgs st, defBody st, defScope st⟩) e c3
  obtain ⟨cc, rfl⟩ := codeIn_ref hc
  refine ⟨He.ga K x, _, He.glo_ok X G c1, fun_mk lk hc c2, ?_⟩
  have lk' : K.lookup (He.ga K x) = _ := lk
  show Value.ref cc = .ref (cdA K x)
  unfold cdA
  rw [lk']
theorem fun_of' {x : Str} {st : Stmt} (X : K.In h) (G : h.Ns mainGlobals mg) (c : fnB K x = true) (e : He.fnObs K (x, none) = fnV x st) : ∃ f fd, mg x = some (.ref f) ∧ Fun K x x st f fd := by
  obtain ⟨f, fd, h1, h2, _⟩ := fun_of X G c e
  exact ⟨f, fd, h1, h2⟩
/-! ### constants -/
def allB2 (f : IV → Value → Bool) : List IV → List Value → Bool
  | [], [] => true
  | x :: xs, u :: us => f x u && allB2 f xs us
  | _, _ => false
def cB (K : PySem.W.Frag) : Nat → IV → Value → Bool
  | n + 1, .tup xs, .ref a => (match K.lookup a with
    | some ⟨.type t, _, .seq its _, _⟩ => decide (t = "tuple") && (Nat.ble its.size 1000 && allB2 (cB K n) xs its.toList)
    | _ => false)
  | _, .int i, .int j _ => decide (j = i)
  | _, .str s, .str y _ => decide (y = ⟨s.toArray⟩) && s.all (fun c => decide (c < 0x110000))
  | _, .bl b, .bool c => decide (c = b)
  | _, .non, .none => true
  | _, _, _ => false
theorem allB2_ok {f : IV → Value → Bool} (hf : ∀ x u, f x u = true → ∃ v, RelV v u ∧ ∀ H ρ, RepV K H ρ x v) : ∀ xs us, allB2 f xs us = true → ∃ vs, Vals vs us ∧ ∀ H ρ, RepVs K H ρ xs vs
  | [], [], _ => ⟨[], .nil, fun _ _ => .nil⟩
  | [], _ :: _, h => by cases h
  | _ :: _, [], h => by cases h
  | x :: xs, u :: us, h => by
    obtain ⟨h1, h2⟩ := He.ba h
    obtain ⟨v, r, p⟩ := hf x u h1
    obtain ⟨vs, rs, ps⟩ := allB2_ok hf xs us h2
    exact ⟨v :: vs, .cons r rs, fun H ρ => .cons (p H ρ) (ps H ρ)⟩
theorem cB_ok : ∀ (n : Nat) (c : IV) (u : Value), cB K n c u = true → ∃ v, RelV v u ∧ ∀ H ρ, RepV K H ρ c v := by
  have simple : ∀ (n : Nat) (c : IV) (u : Value), (∀ xs, c ≠ .tup xs) → cB K n c u = true → ∃ v, RelV v u ∧ ∀ H ρ, RepV K H ρ c v := fun n c u hc h => by
    cases c with
    | non => cases u with
      | none => exact ⟨.non, rfl, fun _ _ => .non⟩
      | _ => cases n <;> cases h
    | bl b => cases u with
      | bool b' =>
        have e : b' = b := by cases n <;> exact of_decide_eq_true h
        subst e
        exact ⟨.bl b', rfl, fun _ _ => .bl _⟩
      | _ => cases n <;> cases h
    | int i => cases u with
      | int j t =>
        have e : j = i := by cases n <;> exact of_decide_eq_true h
        subst e
        exact ⟨.int j, ⟨t, rfl⟩, fun _ _ => .int _⟩
      | _ => cases n <;> cases h
    | str s => cases u with
      | str y t =>
        have e : (decide (y = ⟨s.toArray⟩) && s.all (fun c => decide (c < 0x110000))) = true := by cases n <;> exact h
        obtain ⟨e1, e2⟩ := He.ba e
        obtain rfl := of_decide_eq_true e1
        exact ⟨.str ⟨s.toArray⟩, ⟨t, rfl⟩, fun _ _ => .str e2⟩
      | _ => cases n <;> cases h
    | tup xs => exact absurd rfl (hc xs)
    | ref n' => cases u <;> cases n <;> cases h
  intro n
  induction n with
  | zero =>
    intro c u h
    cases c with
    | tup xs => cases u <;> cases h
    | _ => exact simple 0 _ u (fun _ z => nomatch z) h
  | succ n ih =>
    intro c u h
    cases c with
    | tup xs =>
      cases u with
      | ref a =>
        have h' : (match K.lookup a with
          | some ⟨.type t, _, .seq its _, _⟩ => decide (t = "tuple") && (Nat.ble its.size 1000 && allB2 (cB K n) xs its.toList)
          | _ => false) = true := h
        split at h'
        · rename_i t od its m sl e
          obtain ⟨h1, h2⟩ := He.ba h'
          obtain ⟨h2, h3⟩ := He.ba h2
          obtain rfl := of_decide_eq_true h1
          obtain ⟨vs, rs, ps⟩ := allB2_ok ih xs its.toList h3
          exact ⟨.ref a, rfl, fun H ρ => .tup (.inr ⟨_, its, m, e, rfl, rfl, Nat.le_of_lt (small1000 (Nat.le_of_ble_eq_true h2)), rs⟩) (ps H ρ)⟩
        · cases h'
      | _ => cases h
    | _ => exact simple (n + 1) _ u (fun _ z => nomatch z) h
def constB (K : PySem.W.Frag) (x : Str) (c : IV) : Bool := match PySem.W.nsIn K mainGlobals x with
  | some (some u) => cB K 20 c u
  | _ => false
theorem gc_of {x : Str} {c : IV} (X : K.In h) (G : h.Ns mainGlobals mg) (e : constB K x c = true) : Gc K mg x c := by
  unfold constB at e
  split at e
  · rename_i u q
    obtain ⟨v, r, p⟩ := cB_ok 20 c u e
    exact ⟨v, u, PySem.W.mg_of X G q, r, p⟩
  · cases e
end
end PI

set_option Elab.async false
set_option linter.all false
set_option maxRecDepth 100000
set_option maxHeartbeats 2000000
/-! PE2: the law's call, guards known: the script and the empty tables are what is tracked. -/
namespace PI
open PySem PySem.Spec PyProof.Rows L2
open LamX (TabB)
abbrev tabObj : Obj := { cls := .none, data := .fields #[] }
def H0 (ts : List Addr) (a : Addr) (o : Obj) (u : HO) : Hp := fun b => if b = a then some (.frz o u) else if b ∈ ts then some (.tbl #[]) else none
section
variable {ts : List Addr} {a b : Addr} {o : Obj} {u x : HO}
theorem H0_at : H0 ts a o u a = some (.frz o u) := if_pos rfl
theorem H0_tab (n : b ≠ a) (h : b ∈ ts) : H0 ts a o u b = some (.tbl #[]) := (if_neg n).trans (if_pos h)
theorem H0_non (n : b ≠ a) (h : b ∉ ts) : H0 ts a o u b = none := (if_neg n).trans (if_neg h)
theorem H0_cases (e : H0 ts a o u b = some x) : (b = a ∧ x = .frz o u) ∨ (b ≠ a ∧ b ∈ ts ∧ x = .tbl #[]) := by
  by_cases h1 : b = a
  · subst h1
    rw [H0_at] at e
    exact .inl ⟨rfl, (Option.some.inj e).symm⟩
  · by_cases h2 : b ∈ ts
    · rw [H0_tab h1 h2] at e
      exact .inr ⟨h1, h2, (Option.some.inj e).symm⟩
    · rw [H0_non h1 h2] at e
      cases e
end
/-- what is known where the law is called -/
structure Start (K : PySem.W.Frag) (mg mb : Str → Option Value) (cs : List (Addr × Addr)) (s : Shared) (a : Addr) (so : Obj) : Prop where
  kx : K.In s.heap
  ns : s.heap.Ns mainGlobals mg
  nb : s.heap.Ns builtinsNs mb
  bb : ∀ x : Str, x ≠ "__name__" → mb x = bootBuiltins x
  lim : s.heap.NoLimit
  gens : s.gens = #[]
  tab : ∀ p ∈ cs, s.heap.get? p.2 = some tabObj
  noK : ∀ p ∈ cs, K.lookup p.2 = none
  hd : ∀ p ∈ cs, PySem.W.CodeHd s.heap p.1 p.2
  bm : ∃ (bm : Addr) (ob : Obj), mg "__builtins__" = some (.ref bm) ∧ bm ≠ builtinsNs ∧ s.heap.get? bm = some ob ∧ ob.cls = .type "module" ∧ ob.dict = some builtinsNs ∧ ob.data = .plain
  sg : s.heap.get? a = some so
  sd : ∃ its n, so.data = .seq its n
  nk : K.lookup a = none
section
variable {P : Program} {w : World} {K : PySem.W.Frag} {mg mb : Str → Option Value} {cs : List (Addr × Addr)} {s : Shared} {a : Addr} {so : Obj} {u : HO}
abbrev tsOf (cs : List (Addr × Addr)) : List Addr := cs.map (·.2)
theorem Start.tab' (S : Start K mg mb cs s a so) {b : Addr} (h : b ∈ tsOf cs) : s.heap.get? b = some tabObj := by
  obtain ⟨p, hp, rfl⟩ := List.mem_map.mp h
  exact S.tab p hp
theorem Start.aT (S : Start K mg mb cs s a so) : a ∉ tsOf cs := fun z => by
  have e := S.tab' z
  obtain ⟨its, n, hd⟩ := S.sd
  rw [S.sg] at e
  cases e
  cases hd
theorem Start.shown (S : Start K mg mb cs s a so) {b : Addr} {o : Obj} (e : s.heap.get? b = some o) (n1 : ∀ its n, o.data ≠ .seq its n) (n2 : o.data ≠ .fields #[]) : (hidT s.heap (H0 (tsOf cs) a so u)).get? b = some o := by
  refine hidT_get e (H0_non (fun z => ?_) fun z => ?_)
  · rw [z, S.sg] at e
    cases e
    obtain ⟨its, n, hd⟩ := S.sd
    exact n1 _ _ hd
  · rw [S.tab' z] at e
    cases e
    exact n2 rfl
theorem Start.names (S : Start K mg mb cs s a so) {b : Addr} {m : Str → Option Value} (N : s.heap.Ns b m) : (hidT s.heap (H0 (tsOf cs) a so u)).Ns b m := by
  obtain ⟨o, es, ep, e, d, rest⟩ := N
  refine ⟨o, es, ep, S.shown e (fun its n z => ?_) (fun z => ?_), d, rest⟩ <;> (rw [d] at z; cases z)
theorem Start.kin (S : Start K mg mb cs s a so) : K.In (hidT s.heap (H0 (tsOf cs) a so u)) := fun b o e => by
  refine hidT_get (S.kx b o e) (H0_non (fun z => ?_) fun z => ?_)
  · rw [z, S.nk] at e
    cases e
  · obtain ⟨p, hp, rfl⟩ := List.mem_map.mp z
    rw [S.noK p hp] at e
    cases e
theorem Start.mod (S : Start K mg mb cs s a so) : L2.Mod K mg (hidT s.heap (H0 (tsOf cs) a so u)) := by
  obtain ⟨mc, l1, l2⟩ := S.lim
  exact ⟨S.kin, S.names S.ns, ⟨mb, S.names S.nb, S.bb⟩, mc, S.names l1, l2⟩
theorem Start.tb (S : Start K mg mb cs s a so) (p : Addr × Addr) (hp : p ∈ cs) : TabB (hidT s.heap (H0 (tsOf cs) a so u)) mg p.1 p.2 := by
  have ht := S.tab p hp
  have ng : ∀ {b : Addr} {o : Obj}, s.heap.get? b = some o → (∃ es ep, o.data = .dict es ep) → b ≠ p.2 := fun e ⟨es, ep, d⟩ z => by
    rw [z, ht] at e
    cases e
    cases d
  refine ⟨?_, ?_, ?_⟩
  · obtain ⟨o, us, file, tf, flags, tg, inF, text, tt, e1, r1, r2, r3, rest⟩ := S.hd p hp
    refine ⟨o, us, file, tf, flags, tg, inF, text, tt, S.shown e1 (fun its n z => ?_) (fun z => ?_), r1, r2, r3, rest⟩
    · rw [r2] at z
      cases z
    · rw [r2] at z
      cases z
      simp at r3
  · obtain ⟨bm, ob, b1, b2, b3, b4, b5, b6⟩ := S.bm
    refine ⟨bm, ob, b1, b2, fun q => ?_, fun q => ?_, S.shown b3 (fun its n z => ?_) (fun z => ?_), b4, b5, b6⟩
    · obtain ⟨o, es, ep, e, d, _⟩ := S.ns
      rw [q, e] at b3
      cases b3
      rw [d] at b6
      cases b6
    · rw [q, ht] at b3
      cases b3
      cases b6
    · rw [b6] at z
      cases z
    · rw [b6] at z
      cases z
  · obtain ⟨o, es, ep, e, d, _⟩ := S.ns
    exact ng e ⟨es, ep, d⟩
theorem Start.env0 (S : Start K mg mb cs s a so) (hok : HOk P w (H0 (tsOf cs) a so u) s.heap) : Env0 P w K mg (hidT s.heap (H0 (tsOf cs) a so u)) callerA [] s (H0 (tsOf cs) a so u) where
  frames := rfl
  mod := S.mod
  bs := fun b o e => of_hidT e
  bsz := Nat.le_of_eq (hidT_size _ _)
  funs := trivial
  frf := fun b hb => nomatch (show b ∈ ([] : List Addr) from hb)
  hok := hok
  bare := .of_eq S.gens
/-- what stood before stands, the tables may have grown -/
theorem Start.old (S : Start K mg mb cs s a so) {s' : Shared} {H' : Hp} (hok : HOk P w (H0 (tsOf cs) a so u) s.heap) (un : Un (frs []) [] (H0 (tsOf cs) a so u) H' s.heap s'.heap) (hok' : HOk P w H' s'.heap) : OldK s.heap s'.heap := by
  have grown : ∀ b ∈ tsOf cs, ∃ more : Array Value, s'.heap.get? b = some { cls := .none, data := .fields more } := fun b hb => by
    have nb : b ≠ a := fun z => S.aT (z ▸ hb)
    obtain ⟨more, z⟩ := un.tbls b #[] (H0_tab nb hb)
    exact ⟨_, hok' b _ z⟩
  have kept : ∀ b o, b ∉ tsOf cs → s.heap.get? b = some o → s'.heap.get? b = some o := fun b o nb e => by
    by_cases hb : b = a
    · subst hb
      have z := H0_at (ts := tsOf cs) (a := b) (o := so) (u := u)
      have z2 := un.frzs b _ _ z
      obtain ⟨e1, _⟩ := hok b _ z
      obtain ⟨e2, _⟩ := hok' b _ z2
      rw [e] at e1
      cases e1
      exact e2
    · exact un.keep b o e (H0_non hb nb) (fun z => nomatch (show b ∈ ([] : List Addr) from z)) (by simp)
  refine ⟨fun b o e => ?_, fun b o e => ?_⟩
  · by_cases hb : b ∈ tsOf cs
    · obtain ⟨more, hm⟩ := grown b hb
      obtain ⟨p, hp, rfl⟩ := List.mem_map.mp hb
      rw [S.tab p hp] at e
      cases e
      exact .inr (.inl ⟨((S.hd p hp).tab (S.tab p hp)).isCodeTable, rfl, #[], more, rfl, by rw [Array.empty_append]; exact hm⟩)
    · exact .inl (kept b o hb e)
  · by_cases hb : b ∈ tsOf cs
    · obtain ⟨more, hm⟩ := grown b hb
      exact ⟨_, hm⟩
    · exact ⟨o, kept b o hb e⟩
end
theorem tabs_empty {T : List (Addr × Str)} {H : Hp} (h : ∀ p ∈ T, H p.1 = some (.tbl #[])) : LamX.Tabs T H := fun p hp => ⟨#[], h p hp, trivial, fun pos cv hc => by cases hc⟩
/-- the law's call gives True -/
theorem law_go {P : Program} {w : World} {K : PySem.W.Frag} {mg mb : Str → Option Value} {cs : List (Addr × Addr)} {s : Shared} {a fa : Addr} {k : Nat} {x : Str} {T : List (Addr × Str) × (Nat → Addr)} {g : List IV → Sto → RE IV} {vs : List Value} {ns : List Int}
    (S : Start K mg mb cs s a { cls := .type "list", data := .seq vs.toArray }) (hi : IntsAre vs ns) (hl : ns.length ≤ sizeLine) (hr : Room k callerA) (hT : ∀ p ∈ T.1, p.1 ∈ tsOf cs) (hfa : mg x = some (.ref fa))
    (hg : ∃ st', g [.ref 0] { os := [.frl (ns.map IV.int)], low := 0 } = .ok (.bl true) st')
    (D : ∀ base : Heap, K.In base → base.Ns mainGlobals mg → (∀ p ∈ cs, TabB base mg p.1 p.2) → DnG P w K mg base T k x 1 g) :
    codeAny (model P w) callerA (.call (.ref fa) ⟨[.ref a], []⟩) (fun r s' => r = .ok (.ret (.bool true)) ∧ OldK s.heap s'.heap ∧ s'.os = s.os ∧ AllBare s'.gens) s := by
  let o : Obj := { cls := .type "list", data := .seq vs.toArray }
  let u : HO := .lst (ns.map V.int)
  have hok : HOk P w (H0 (tsOf cs) a o u) s.heap := fun b z e => by
    rcases H0_cases e with ⟨rfl, rfl⟩ | ⟨nb, hb, rfl⟩
    · exact ⟨S.sg, by rw [List.length_map]; exact hl, vs, _, vals_ints hi, S.sg⟩
    · exact S.tab' hb
  have e0 := S.env0 hok
  have hH : ∀ b ∈ tsOf cs, H0 (tsOf cs) a o u b = some (.tbl #[]) := fun b hb => H0_tab (fun z => S.aT (z ▸ hb)) hb
  obtain ⟨f, fd, ps, hps, hf, hkp, hb, F⟩ := (D _ S.kin (S.names S.ns) S.tb).ex
  rw [hfa] at hf
  cases hf
  obtain ⟨st', hst⟩ := hg
  have hrd : Rd (H0 (tsOf cs) a o u) a (.lst (ns.map V.int)) := .inr ⟨o, H0_at⟩
  have reps : ∀ (H : Hp) (ρ : List Addr) (ns : List Int), RepVs K H ρ (ns.map IV.int) (ns.map V.int) := fun H ρ ns => by
    induction ns with
    | nil => exact .nil
    | cons n ns ih => exact .cons (.int n) ih
  have rel : Rel K (H0 (tsOf cs) a o u) [a] { os := [.frl (ns.map IV.int)], low := 0 } := by
    refine ⟨rfl, by simp, fun n ob b e1 e2 => ?_⟩
    cases n with
    | zero =>
      cases e1
      cases e2
      exact ⟨_, hrd, reps _ _ _⟩
    | succ n => cases e1
  have hsp : spI K T 1 g [.ref a] (H0 (tsOf cs) a o u) (fun v _ => v = .bl true) fun _ _ _ => False := by
    refine ⟨rfl, ⟨T.1, T.2, fun _ _ => True, fun _ _ _ => trivial⟩, [a], { os := [.frl (ns.map IV.int)], low := 0 }, [.ref 0], rfl, ⟨rel, tabs_empty fun p hp => hH _ (hT p hp), trivial⟩, .cons (.ref rfl) .nil, ?_⟩
    rw [hst]
    intro ρ' H' y _ _ py
    cases py
    rfl
  have bt := hb s [.ref a] S.kx (by simp [hps])
  have run := F.run callerA [] s _ ⟨[.ref a], []⟩ [.ref a] [.ref a] (fun v _ => v = .bl true) (fun _ _ _ => False) rfl hr e0 bt (.cons rfl .nil) hsp
  refine codeAny_mono run fun r s' h => ?_
  cases r with
  | error e =>
    obtain ⟨_, _, _, _, _, _, _, _, _, _, _, _, hf⟩ := h
    exact False.elim hf
  | ok fl =>
    cases fl with
    | next => exact False.elim h
    | brk => exact False.elim h
    | cont => exact False.elim h
    | ret v =>
      obtain ⟨y, H', os, bare, un, hok', rv, q⟩ := h
      obtain rfl : y = .bl true := q
      obtain rfl : v = Value.bool true := rv
      exact ⟨rfl, S.old hok un hok', os, bare⟩
end PI

set_option Elab.async false
set_option linter.all false
set_option maxRecDepth 100000
set_option maxHeartbeats 2000000
/-! PE3: exceptions, tables of lambdas, what _law_refuses wants: by one look. -/
namespace PI
open PySem PySem.Spec PyProof.Rows L2
open LamX (Tabs TabS CodeO ExtN TabB)
/-! ### an own exception over ValueError -/
def oexB (K : PySem.W.Frag) (C : Addr) : Bool := match K.lookup C with
  | some ⟨.type t, _, .cls cd, sl⟩ => (match cd.mro, sl.toList with
    | .ref C' :: bm, [_, _, _, _, some (.builtin n), _] => decide (t = "type") && (decide (C' = C) && (decide (n = "ValueError.__new__") && (!cd.hasDel && (cd.hasDict && PySem.HandSPX.refsVE bm))))
    | _, _ => false)
  | _ => false
theorem oexB_ok {K : PySem.W.Frag} {C : Addr} (h : oexB K C = true) : ∃ nm q N bs bm sn sub ab col dd k0 k1 k2 k3 k5, K.lookup C = some (excClassObj nm q C N bs bm true sn sub ab col dd k0 k1 k2 k3 k5 "ValueError.__new__") ∧ PySem.HandSPX.refsVE bm = true := by
  unfold oexB at h
  split at h
  · rename_i t dd cd sl e
    split at h
    · rename_i C' bm k0 k1 k2 k3 n k5 e1 e2
      simp only [Bool.and_eq_true, decide_eq_true_eq, Bool.not_eq_true'] at h
      obtain ⟨rfl, rfl, rfl, h4, h5, h6⟩ := h
      obtain ⟨nm, bs, mro, ns, qn, hd, sn, sb, ab, col, del⟩ := cd
      dsimp only at e1 h4 h5
      subst e1 h4 h5
      have esl : sl = #[k0, k1, k2, k3, some (.builtin "ValueError.__new__"), k5] := Array.toList_inj.mp e2
      subst esl
      exact ⟨nm, qn, ns, bs, bm, sn, sb, ab, col, dd, k0, k1, k2, k3, k5, e, h6⟩
    · cases h
  · cases h
def inA (K : PySem.W.Frag) (x : Str) : Addr := He.ma K (He.ga K x) "__init__"
abbrev FnI : Type := Option (Str × Str × Arguments × FuncBody × Scope × Addr × Value × Addr)
def inV (K : PySem.W.Frag) (x : Str) : FnI := match K.lookup (inA K x) with
  | some ⟨_, _, .func fd, _⟩ => some (fd.name, fd.qualname, fd.params, fd.body, fd.scope, fd.globals, fd.defaults, fd.builtins)
  | _ => none
def inW (x : Str) (st : Stmt) : FnI := some ("__init__", x ++ ".__init__", defArgs st, .stmts (defBody st), defScope st, mainGlobals, .none, builtinsNs)
def inB (file : Str) (K : PySem.W.Frag) (x : Str) : Bool := match K.lookup (inA K x) with
  | some ⟨_, _, .func fd, _⟩ => (match fd.closure, fd.code with
    | [(n, cc)], .ref cda => decide (n = "__class__") && (PySem.W.codeIn K (.ref cda) (x ++ ".__init__") && ((match K.lookup cc with
      | some ⟨_, _, .cell (some (.ref D)), _⟩ => decide (D = He.ga K x)
      | _ => false) && (match K.lookup cda with
        | some ⟨_, _, .fields vs, _⟩ => (match (vs[2]? : Option Value) with
          | some (.str f _) => file == f
          | _ => false)
        | _ => false)))
    | _, _ => false)
  | _ => false
theorem inB_ok {file : Str} {K : PySem.W.Frag} {x : Str} {st : Stmt} (c : inB file K x = true) (e : inV K x = inW x st) :
    ∃ oc od osl kV doc pm an cda ct cc, K.lookup (inA K x) = some ⟨oc, od, .func (PySem.W.ksFn "__init__" (x ++ ".__init__") (defArgs st) (defBody st) (defScope st) .none kV doc pm an (.ref cda) ct cc), osl⟩ ∧ PySem.W.codeIn K (.ref cda) (x ++ ".__init__") = true ∧
      (∃ cl cld csl, K.lookup cc = some ⟨cl, cld, .cell (some (.ref (He.ga K x))), csl⟩) ∧ ∃ ccl cdd vs ccs f tf, K.lookup cda = some ⟨ccl, cdd, .fields vs, ccs⟩ ∧ vs[2]? = some (.str f tf) ∧ (file == f) = true := by
  unfold inB at c
  unfold inV inW at e
  split at c
  · rename_i oc od fd osl lk
    rw [lk] at e
    obtain ⟨n1, n2, n3, n4, n5, n6, n7, n8, n9, n10, n11, n12, n13, n14, n15⟩ := fd
    dsimp only at c e
    simp only [Option.some.injEq, Prod.mk.injEq] at e
    obtain ⟨rfl, rfl, rfl, rfl, rfl, rfl, rfl, rfl⟩ := e
    split at c
    · rename_i n cc cda
      obtain ⟨c1, c⟩ := He.ba c
      obtain ⟨c2, c⟩ := He.ba c
      obtain ⟨c3, c4⟩ := He.ba c
      obtain rfl : n = "__class__" := of_decide_eq_true c1
      refine ⟨oc, od, osl, _, _, _, _, cda, _, cc, lk, c2, ?_, ?_⟩
      · split at c3
        · rename_i cl cld D csl l
          obtain rfl : D = _ := of_decide_eq_true c3
          exact ⟨cl, cld, csl, l⟩
        · cases c3
      · split at c4
        · rename_i ccl cdd vs ccs l
          split at c4
          · rename_i f tf l2
            exact ⟨ccl, cdd, vs, ccs, f, tf, l, l2, c4⟩
          · cases c4
        · cases c4
    · cases c
  · cases c
/-- the written __init__ -/
structure InitT (st : Stmt) (par fld : Str) : Prop where
  ex : ∃ (q0 q1 q2 q3 q4 q5 q6 q7 q8 q9 : Pos) (msg : Str) (j : Nat) (pl : Sem Bool), defBody st = [.Expr (.Call (.Attribute (.Call (.Name "super" q0) [] [] q1) "__init__" q2) [.Constant (.str msg) j q3] [] q4) q5, .Assign [.Attribute (.Name "self" q6) fld q7] (.Name par q8) q9] ∧
    (∀ env, eval (.Call (.Attribute (.Call (.Name "super" q0) [] [] q1) "__init__" q2) [.Constant (.str msg) j q3] [] q4) env = (do
      let ov ← attributeBase (.Call (.Name "super" q0) [] [] q1) "__init__" env (eval (.Call (.Name "super" q0) [] [] q1) env)
      standAt q2.atName
      let (f, first) ← holding [ov] (getMethod ov "__init__" pl)
      callWith q4 f first (backTo q4 (starEach [.Constant (.str msg) j q3] env)) [])) ∧
    (∀ env, swapsWith (.Name par q8) (some (.Attribute (.Name "self" q6) fld q7)) q9.line env = pure false) ∧ (∀ env, swapsWith (.Call (.Attribute (.Call (.Name "super" q0) [] [] q1) "__init__" q2) [.Constant (.str msg) j q3] [] q4) none q5.line env = pure false)
  arg : ∃ ar, ((defArgs st).posonlyargs ++ (defArgs st).args).head? = some ar ∧ ar.arg = "self"
  bind : ∀ (q : Str) (kV doc pm cdv ct : Value) (an : Option Addr) (cc : Addr) (us : List Value), us.length = 2 → bindArgs (PySem.W.ksFn "__init__" q (defArgs st) (defBody st) (defScope st) .none kV doc pm an cdv ct cc) ⟨us, []⟩ = pure ([("self" : Str), par].zip us)
  kS : (defScope st).names.lookup ("super" : Str) = some .globalImplicit
  kC : (defScope st).names.lookup ("__class__" : Str) = some .free
  kSelf : (defScope st).names.lookup ("self" : Str) = some .local
  kPar : (defScope st).names.lookup par = some .local
  kind : (defScope st).kind = .function
  co : (defScope st).isCoroutine = false
  gen : (defScope st).isGenerator = false
  noCell : ∀ x ∈ (defScope st).names, x.2 ≠ .cell
  ne : par ≠ "self"
  nd : (par == ("__debug__" : Str)) = false
def exB (file : Str) (K : PySem.W.Frag) (x fld : Str) : Bool :=
  (He.Fa.glo x).ok K && (oexB K (He.ga K x) && (He.eqO (PySem.W.findIn K (.ref (He.ga K x)) "__setattr__") (some (some (.builtin "object.__setattr__"))) && (decide (PySem.W.subIn K (.ref (He.ga K x)) (.type "BaseException") = some true) &&
    (decide (PySem.W.typeIn K (.ref (He.ga K x)) = some (.type "type")) && (PySem.W.keepIn K (.ref (He.ga K x)) && (PySem.W.excInitIn K (He.ga K x) PySem.HandSPX.veTail "ValueError.__new__" &&
    (He.eqO (PySem.W.ks_superIn K (He.ga K x) (He.ga K x) "__init__") (some (some (.builtin "ValueError.__init__"))) && (decide (PySem.W.subIn K (.ref (He.ga K x)) (.type "ValueError") = some true) &&
    (He.eqO (PySem.W.nsIn K cStatics "thirdparty.any") (some none) && (He.eqO (PySem.W.findIn K (.ref (He.ga K x)) fld) (some none) && (He.eqO (PySem.W.findIn K (.ref (He.ga K x)) "__init__") (some (some (.ref (inA K x)))) &&
    (decide (PySem.W.typeIn K (.ref (inA K x)) = some (.type "function")) && (decide (PySem.W.mroIn K (He.ga K x) (.ref (He.ga K x)) = some true) && (inB file K x && (xfB K (He.ga K x) && decide (PySem.W.exmOne K (.ref (He.ga K x)) (.ref (He.ga K x)) = some true))))))))))))))))
section
variable {P : Program} {w : World} {K : PySem.W.Frag} {h base : Heap} {mg : Str → Option Value} {cm : Nat → Addr} {lb : Nat} {x fld par : Str} {st : Stmt}
theorem xn_of (X : K.In h) (G : h.Ns mainGlobals mg) (hcm : cm lb = He.ga K x) (c : exB P.main.file K x fld = true) (e : inV K x = inW x st) (T : InitT st par fld) (hS : mg "super" = none) (hT : (P.main.scope.names.lookup ("super" : Str)).isSome = false) :
    Xn P w K mg base cm lb x fld ∧ Xc K mg cm lb x fld := by
  obtain ⟨c1, c⟩ := He.ba c
  obtain ⟨c2, c⟩ := He.ba c
  obtain ⟨c3, c⟩ := He.ba c
  obtain ⟨c4, c⟩ := He.ba c
  obtain ⟨c5, c⟩ := He.ba c
  obtain ⟨c6, c⟩ := He.ba c
  obtain ⟨c7, c⟩ := He.ba c
  obtain ⟨c8, c⟩ := He.ba c
  obtain ⟨c9, c⟩ := He.ba c
  obtain ⟨c10, c⟩ := He.ba c
  obtain ⟨c11, c⟩ := He.ba c
  obtain ⟨c12, c⟩ := He.ba c
  obtain ⟨c13, c⟩ := He.ba c
  obtain ⟨c14, c⟩ := He.ba c
  obtain ⟨c15, c⟩ := He.ba c
  obtain ⟨c16, c17⟩ := He.ba c
  obtain ⟨oc, od, osl, kV, doc, pm, an, cda, ct, cc, lk, hcd, hcell, hcode⟩ := inB_ok c15 e
  obtain ⟨q0, q1, q2, q3, q4, q5, q6, q7, q8, q9, msg, j, pl, hbo, he, hs, hs0⟩ := T.ex
  have O : OexC K (He.ga K x) := ⟨oexB_ok c2, He.eqO_ok c3, of_decide_eq_true c4, of_decide_eq_true c5, c6⟩
  have hcl : ∃ cd, PySem.W.clsIn K (He.ga K x) = some cd := by
    obtain ⟨nm, q, N, bs, bm, sn, sub, ab, col, dd, k0, k1, k2, k3, k5, l, _⟩ := oexB_ok c2
    exact ⟨_, by unfold PySem.W.clsIn; rw [l] <;> rfl⟩
  have S : SupI P K mg (inA K x) cc cda (He.ga K x) (He.ga K x) (defScope st) par fld := ⟨O, c7, He.eqO_ok c8, of_decide_eq_true c9, He.eqO_ok c10, He.eqO_ok c11, hcode, hcell, hcl, of_decide_eq_true c14, hT, hS, T.kS, T.kC, T.kSelf, T.kPar, T.kind, T.co, T.gen, T.noCell, T.ne, T.nd⟩
  have hb : L2.Binds K (PySem.W.ksFn "__init__" (x ++ ".__init__") (defArgs st) (defBody st) (defScope st) .none kV doc pm an (.ref cda) ct cc) ["self", par] [] := .all fun us hl => T.bind _ _ _ _ _ _ _ _ us hl
  exact ⟨⟨He.ga K x, inA K x, _, _, hcm, He.glo_ok X G c1, O, He.eqO_ok c12, of_decide_eq_true c13, hb, sup_init (k := 0) hbo lk hcd S T.arg he hs hs0⟩, ⟨He.ga K x, hcm, He.glo_ok X G c1, xfB_ok c16, He.eqO_ok c11, of_decide_eq_true c17⟩⟩
/-! ### what told wants -/
theorem tn_of {f : Str} {sf : Stmt} {a due e' : Str} (X : K.In h) (G : h.Ns mainGlobals mg) (c : fnB K f = true) (e : He.fnObs K (f, none) = fnV f sf) (Y : Xc K mg cm lb x fld) (hR : mg ("repr" : Str) = none) : Tn P K mg cm lb f x fld sf a due e' :=
  ⟨fun_of' X G c e, Y.ex, hR⟩
/-! ### tables of lambdas -/
def tbA (K : PySem.W.Frag) (x : Str) : Addr := match K.lookup (cdA K x) with
  | some ⟨_, _, .fields vs, _⟩ => (match (vs[11]? : Option Value) with
    | some (.ref p) => p
    | _ => 0)
  | _ => 0
/-- the def's code object, its table: known where the table stands, not the table -/
def tabB (K : PySem.W.Frag) (x : Str) : Bool := (He.Fa.glo x).ok K && ((match K.lookup (He.ga K x) with
  | some ⟨_, _, .func fd, _⟩ => (match fd.code with
    | .ref c => (match K.lookup c with
      | some ⟨_, _, .fields vs, _⟩ => (match (vs[11]? : Option Value) with
        | some (.ref _) => true
        | _ => false)
      | _ => false)
    | _ => false)
  | _ => false) && (K.lookup (tbA K x)).isNone)
/-- what the ground says of a def's table -/
def TabAt (mg : Str → Option Value) (h : Heap) (x : Str) : Prop := ∃ a o fd c P, mg x = some (.ref a) ∧ h.get? a = some o ∧ o.data = .func fd ∧ fd.code = .ref c ∧ h.IsCode c P #[] ∧ h.TableAt c P #[]
theorem tab_of (X : K.In h) (G : h.Ns mainGlobals mg) (c : tabB K x = true) (T : TabAt mg h x) : h.get? (tbA K x) = some tabObj ∧ K.lookup (tbA K x) = none ∧ PySem.W.CodeHd h (cdA K x) (tbA K x) := by
  obtain ⟨c1, c⟩ := He.ba c
  obtain ⟨c2, c3⟩ := He.ba c
  have hg := He.glo_ok X G c1
  obtain ⟨a, o, fd, cc, PP, h1, h2, h3, h4, h5, h6⟩ := T
  rw [hg] at h1
  cases h1
  refine ⟨?_, Option.isNone_iff_eq_none.mp c3, ?_⟩
  all_goals
    split at c2
    · rename_i oc od fd' osl lk
      have g1 := X _ _ lk
      rw [g1] at h2
      cases h2
      cases h3
      rw [h4] at c2
      dsimp only at c2
      have ec : cdA K x = cc := by unfold cdA; rw [lk]; dsimp only; rw [h4]
      split at c2
      · rename_i o2 d2 vs s2 lk2
        split at c2
        · rename_i p ep
          have et : tbA K x = p := by unfold tbA; rw [ec, lk2]; dsimp only; rw [ep]
          have g2 := X _ _ lk2
          have hcd := PySem.W.CodeHd.of h5 h6
          obtain ⟨⟨o', vs', f1, f2, f3, f4⟩, hP⟩ := h6
          rw [g2] at f1
          cases f1
          cases f3
          rw [ep] at f4
          cases f4
          rw [et]
          first
            | exact hP
            | (rw [ec]; exact hcd)
        · cases c2
      · cases c2
    · cases c2
end
end PI

set_option Elab.async false
set_option linter.all false
set_option maxRecDepth 100000
set_option maxHeartbeats 2000000
/-! PE4: the head's Hook, the law's walk. -/
namespace PI
open PySem PySem.Spec PyProof.Rows L2
open LamX (Tabs TabS CodeO ExtN TabB)
/-- what is looked at: facts by names; defs; exception classes with their __init__; defs that hold lambdas -/
structure HD where
  file : Str
  fas : List He.Fa
  consts : List (Str × IV)
  defs : List (Str × Stmt)
  excs : List (Str × Str × Stmt)
  lams : List Str
def noLst (K : PySem.W.Frag) : Bool := K.all fun p => match p.2.cls with
  | .type t => !decide (t = "list")
  | _ => true
def distB : List Addr → Bool
  | [] => true
  | a :: as => as.all (fun b => !Nat.beq a b) && distB as
def okHD (D : HD) (K : PySem.W.Frag) : Bool := (D.fas.all (fun f => f.ok K) && D.consts.all (fun p => constB K p.1 p.2)) && (D.defs.all (fun p => fnB K p.1) && (D.excs.all (fun p => exB D.file K p.1 p.2.1) && (D.lams.all (fun x => tabB K x) && (distB (D.lams.map (tbA K)) && noLst K))))
abbrev AlN : Type := Bool × List He.FnV × List FnI
def obsK (D : HD) (K : PySem.W.Frag) : AlN := (okHD D K, D.defs.map fun p => He.fnObs K (p.1, none), D.excs.map fun p => inV K p.1)
def obsN (D : HD) (g : Look) : AlN := obsK D (kN g)
def valN (D : HD) : AlN := (true, D.defs.map fun p => fnV p.1 p.2, D.excs.map fun p => inW p.1 p.2.2)
def hookN (D : HD) : PySem.W.Hook where
  α := AlN
  obs := fun s => obsN D s.heap.get?
  val := fun _ => valN D
  says := fun _ h => ∃ K : PySem.W.Frag, K.In h ∧ obsK D K = valN D
  of := fun _ _ e => ⟨_, kN_in, e⟩
  keeps := fun _ _ _ ⟨K, hK, c⟩ k => ⟨K, PySem.W.Frag.In.keeps hK k, c⟩
def obT (D : HD) (s : PySem.W.SharedT) : AlN := obsN D (HandSHeadRun.getT s)
theorem obT_eq (D : HD) (s : PySem.W.SharedT) : obT D s = (hookN D).obs s.abs := by
  have e : HandSHeadRun.getT s = s.abs.heap.get? := funext (HandSHeadRun.getT_eq s)
  show obsN D (HandSHeadRun.getT s) = obsN D s.abs.heap.get?
  rw [e]
section
variable {D : HD} {K : PySem.W.Frag}
theorem hd_ok (c : obsK D K = valN D) : okHD D K = true := congrArg (fun z : AlN => z.1) c
theorem hd_fa (c : obsK D K = valN D) (i : Nat) {f : He.Fa} (h : D.fas[i]? = some f := by rfl) : f.ok K = true := List.all_eq_true.mp (He.ba (He.ba (hd_ok c)).1).1 f (List.mem_of_getElem? h)
theorem hd_const (c : obsK D K = valN D) (i : Nat) {x : Str} {v : IV} (h : D.consts[i]? = some (x, v) := by rfl) : constB K x v = true := List.all_eq_true.mp (He.ba (He.ba (hd_ok c)).1).2 _ (List.mem_of_getElem? h)
theorem hd_fn (c : obsK D K = valN D) (i : Nat) {x : Str} {st : Stmt} (h : D.defs[i]? = some (x, st) := by rfl) : fnB K x = true ∧ He.fnObs K (x, none) = fnV x st := by
  have c1 := (He.ba (He.ba (hd_ok c)).2).1
  have e : D.defs.map (fun p => He.fnObs K (p.1, none)) = D.defs.map fun p => fnV p.1 p.2 := congrArg (fun z : AlN => z.2.1) c
  have e2 : (D.defs.map fun p => He.fnObs K (p.1, none))[i]? = (D.defs.map fun p => fnV p.1 p.2)[i]? := by rw [e]
  rw [List.getElem?_map, List.getElem?_map, h] at e2
  exact ⟨List.all_eq_true.mp c1 _ (List.mem_of_getElem? h), Option.some.inj e2⟩
theorem hd_ex (c : obsK D K = valN D) (i : Nat) {x fld : Str} {st : Stmt} (h : D.excs[i]? = some (x, fld, st) := by rfl) : exB D.file K x fld = true ∧ inV K x = inW x st := by
  have c1 := (He.ba (He.ba (He.ba (hd_ok c)).2).2).1
  have e : D.excs.map (fun p => inV K p.1) = D.excs.map fun p => inW p.1 p.2.2 := congrArg (fun z : AlN => z.2.2) c
  have e2 : (D.excs.map fun p => inV K p.1)[i]? = (D.excs.map fun p => inW p.1 p.2.2)[i]? := by rw [e]
  rw [List.getElem?_map, List.getElem?_map, h] at e2
  exact ⟨List.all_eq_true.mp c1 _ (List.mem_of_getElem? h), Option.some.inj e2⟩
theorem hd_tab (c : obsK D K = valN D) {x : Str} (h : x ∈ D.lams) : tabB K x = true := List.all_eq_true.mp (He.ba (He.ba (He.ba (He.ba (hd_ok c)).2).2).2).1 x h
theorem hd_dist (c : obsK D K = valN D) : distB (D.lams.map (tbA K)) = true := (He.ba (He.ba (He.ba (He.ba (He.ba (hd_ok c)).2).2).2).2).1
theorem hd_noLst (c : obsK D K = valN D) {a : Addr} {o : Obj} (e : K.lookup a = some o) : o.cls ≠ .type "list" := by
  have h := (He.ba (He.ba (He.ba (He.ba (He.ba (hd_ok c)).2).2).2).2).2
  have m : ∀ (l : PySem.W.Frag), l.lookup a = some o → (a, o) ∈ l := fun l => by
    induction l with
    | nil => exact fun e => nomatch (show (none : Option Obj) = some o from e)
    | cons p r ih =>
      intro e
      obtain ⟨b, ob⟩ := p
      by_cases hb : a = b
      · subst hb
        have e' : some ob = some o := by simpa [List.lookup] using e
        cases e'
        exact List.mem_cons_self
      · have hb' : (a == b) = false := by simpa using hb
        have e' : r.lookup a = some o := by simpa [List.lookup, hb'] using e
        exact List.mem_cons_of_mem _ (ih e')
  have := List.all_eq_true.mp h _ (m K e)
  intro z
  dsimp only at this
  rw [z] at this
  simp at this
end
/-- code objects and tables of the defs that hold lambdas -/
def csOf (K : PySem.W.Frag) (lams : List Str) : List (Addr × Addr) := lams.map fun x => (cdA K x, tbA K x)
def lamT (K : PySem.W.Frag) (lams : List Str) : List (Addr × Str) := lams.map fun x => (tbA K x, ((x ++ ".<locals>.") : Str) ++ "<lambda>")
theorem distB_inj : ∀ {l : List Addr}, distB l = true → l.Nodup
  | [], _ => .nil
  | a :: as, h => by
    obtain ⟨h1, h2⟩ := He.ba h
    refine List.nodup_cons.mpr ⟨fun z => ?_, distB_inj h2⟩
    have := List.all_eq_true.mp h1 a z
    simp at this
theorem tb_of {D : HD} {K : PySem.W.Frag} {base : Heap} {mg : Str → Option Value} {x : Str} (c : obsK D K = valN D) (hx : x ∈ D.lams) (hb : ∀ p ∈ csOf K D.lams, TabB base mg p.1 p.2) : Tb base mg (lamT K D.lams) (cdA K x) (((x ++ ".<locals>.") : Str) ++ "<lambda>") := by
  refine ⟨tbA K x, hb (cdA K x, tbA K x) (List.mem_map.mpr ⟨x, hx, rfl⟩), List.mem_map.mpr ⟨x, hx, rfl⟩, fun p hp e => ?_⟩
  obtain ⟨y, hy, rfl⟩ := List.mem_map.mp hp
  have nd := distB_inj (hd_dist c)
  have : y = x := by
    obtain ⟨i, hi, ei⟩ := List.getElem_of_mem hx
    obtain ⟨j, hj, ej⟩ := List.getElem_of_mem hy
    have e1 : (D.lams.map (tbA K))[i]? = some (tbA K x) := by rw [List.getElem?_map, List.getElem?_eq_getElem hi, ei]; rfl
    have e2 : (D.lams.map (tbA K))[j]? = some (tbA K x) := by rw [List.getElem?_map, List.getElem?_eq_getElem hj, ej]; exact congrArg some e
    have := nodup_get nd e1 e2
    subst this
    rw [← ei, ← ej]
  rw [this]
/-- a law over such a head -/
theorem walk_G {l : PySem.W.OpenLaw} {n k : Nat} {q : Program} {loose : List Str} {XP : (Str → Option Value) → Heap → Prop} {d : DefRec} {D : HD} {g : List IV → Sto → RE IV} {T : PySem.W.Frag → List (Addr × Str) × (Nat → Addr)}
    (hn : l.most = some n) (hn2 : n ≤ sizeLine) (hdf : d.params.defaults = []) (hr : Room k callerA) (hrec : ∀ x ∈ D.lams, ((recsOf q).any fun e => e.name == x) = true) (hT : ∀ K, (T K).1 = lamT K D.lams)
    (hg : ∀ ns : List Int, (∀ z ∈ ns, Builtin.Int.intBits z ≤ 1048576) → ∃ st', g [.ref 0] { os := [.frl (ns.map IV.int)], low := 0 } = .ok (.bl true) st')
    (F : ∀ (w : World) (K : PySem.W.Frag) (mg : Str → Option Value) (base : Heap), K.In base → base.Ns mainGlobals mg → obsK D K = valN D → (∀ p ∈ csOf K D.lams, TabB base mg p.1 p.2) → DnG l.prog w K mg base (T K) k d.name 1 g) :
    PySem.W.WalkO q loose XP (hookN D).says l.row.toRowW d [] (fun f vs => PySem.call f vs) := by
  refine Att.attach_callB hn hdf fun w s₀ s₁ mg mb fa o pm cd doc a vs ns G Y ho hd hcd hmg hobj hints hlen hbits hgn => ?_
  obtain ⟨K, KX, c⟩ := Y
  have tabs : ∀ x ∈ D.lams, s₁.heap.get? (tbA K x) = some tabObj ∧ K.lookup (tbA K x) = none ∧ PySem.W.CodeHd s₁.heap (cdA K x) (tbA K x) := fun x hx => by
    refine tab_of KX G.T.g (hd_tab c hx) ?_
    obtain ⟨dL, hm, hn1⟩ := List.any_eq_true.mp (hrec x hx)
    obtain rfl : dL.name = x := beq_iff_eq.mp hn1
    exact G.T.tab dL hm
  have mem : ∀ p ∈ csOf K D.lams, ∃ x ∈ D.lams, p = (cdA K x, tbA K x) := fun p hp => by
    obtain ⟨x, hx, e⟩ := List.mem_map.mp hp
    exact ⟨x, hx, e.symm⟩
  have S : Start K mg mb (csOf K D.lams) s₁ a { cls := .type "list", data := .seq vs.toArray } :=
    { kx := KX, ns := G.T.g, nb := G.T.b, bb := G.T.builtins, lim := G.T.nolimit, gens := hgn, tab := fun p hp => by obtain ⟨x, hx, rfl⟩ := mem p hp; exact (tabs x hx).1, noK := fun p hp => by obtain ⟨x, hx, rfl⟩ := mem p hp; exact (tabs x hx).2.1,
      hd := fun p hp => by obtain ⟨x, hx, rfl⟩ := mem p hp; exact (tabs x hx).2.2, bm := G.T.bmain, sg := hobj, sd := ⟨_, _, rfl⟩, nk := by
        cases e : K.lookup a with
        | none => rfl
        | some o =>
          have h2 := KX _ _ e
          rw [hobj] at h2
          cases h2
          exact absurd rfl (hd_noLst c e) }
  exact law_go S hints (Nat.le_trans hlen hn2) hr (T := T K) (fun p hp => by
      rw [hT K] at hp
      obtain ⟨x, hx, rfl⟩ := List.mem_map.mp hp
      exact List.mem_map.mpr ⟨(cdA K x, tbA K x), List.mem_map.mpr ⟨x, hx, rfl⟩, rfl⟩) hmg (hg ns hbits) fun base h1 h2 h3 => F w K mg base h1 h2 c h3
end PI

set_option Elab.async false
set_option linter.all false
set_option maxRecDepth 100000
set_option maxHeartbeats 0
namespace law_k17
open PySem PySem.Spec PyProof.Rows L2 PI
open LamX (TabB)
def initS (i : Nat) : Stmt := match topS i with
  | .ClassDef _ _ _ b _ _ _ _ _ _ _ => b.getD 0 (.Pass ⟨0, 0, 0, 0⟩)
  | _ => .Pass ⟨0, 0, 0, 0⟩
abbrev R : PySem.W.OpenRow := PySem.W.OpenLaw.row PySem.Challenge.rw_noclicks_k17_whole_rates
def names0 : List (List PySem.Str) := [["SoundError", "BadThing", "TooGreat", "MOST", "is_whole", "is_from", "is_many", "common", "is_fraction", "NONE", "lean", "plus", "times", "MOST_FACTORS", "trimmed", "is_poly", "product_in", "MOST_ROW", "check_rate_row", "check_step"], ["check_filter", "every", "between", "held", "filtered", "spread_filter", "phases_of", "from_phases", "filtered_every", "products_needed", "can_go_first", "can_go_behind", "in_one", "_law_cell_at", "_law_draw", "_law_number", "_law_next", "_law_pick", "_law_refuses", "_law_common"], ["_law_lean", "_law_plus", "_law_times", "_law_total", "_law_fraction", "_law_row", "_law_trim", "_law_product", "_law_poly", "_law_filtered"]]
def names : List PySem.Str := names0.flatten
abbrev qv : Program := PySem.W.view R.prog [56, 57]
def defs0 : List (List (PySem.Str × Stmt)) := [[("is_whole", s_is_whole), ("is_from", s_is_from), ("is_many", s_is_many), ("common", s_common), ("is_fraction", s_is_fraction), ("lean", s_lean), ("plus", s_plus), ("times", s_times), ("trimmed", s_trimmed), ("is_poly", s_is_poly), ("product_in", s_product_in), ("check_rate_row", s_check_rate_row), ("check_step", s_check_step), ("check_filter", s_check_filter), ("every", s_every), ("between", s_between), ("filtered", s_filtered), ("held", s_held), ("spread_filter", s_spread_filter), ("phases_of", s_phases_of)], [("from_phases", s_from_phases), ("filtered_every", s_filtered_every), ("products_needed", s_products_needed), ("can_go_first", s_can_go_first), ("can_go_behind", s_can_go_behind), ("in_one", s_in_one), ("_law_cell_at", s__law_cell_at), ("_law_draw", s__law_draw), ("_law_number", s__law_number), ("_law_next", s__law_next), ("_law_pick", s__law_pick), ("_law_common", s__law_common), ("_law_lean", s__law_lean), ("_law_plus", s__law_plus), ("_law_times", s__law_times), ("_law_total", s__law_total), ("_law_fraction", s__law_fraction), ("_law_row", s__law_row), ("_law_trim", s__law_trim), ("_law_product", s__law_product)], [("_law_poly", s__law_poly), ("_law_filtered", s__law_filtered), ("_law_refused_right", s__law_refused_right), ("law", s_law), ("_law_refuses", s__law_refuses)]]
def D : HD where
  file := PySem.Challenge.pw_noclicks_k17_whole_rates.main.file
  fas := [.free "abs", .free "all", .free "bool", .free "enumerate", .free "int", .free "isinstance", .free "len", .free "list", .free "max", .free "min", .free "range", .free "repr", .free "sum", .free "tuple", .free "zip", .free "super"]
  consts := [("MOST", g_MOST), ("MOST_FACTORS", g_MOST_FACTORS), ("MOST_ROW", g_MOST_ROW), ("NONE", g_NONE)]
  defs := defs0.flatten
  excs := [("BadThing", "thing", initS 2), ("TooGreat", "most", initS 3)]
  lams := ["_law_refused_right"]
def TT (K : PySem.W.Frag) : List (Addr × Str) × (Nat → Addr) := (lamT K ["_law_refused_right"], fun i => match i with | 1 => He.ga K "BadThing" | 2 => He.ga K "TooGreat" | _ => 0)
def co (K : PySem.W.Frag) : Nat → Addr := fun i => match i with | 56 => cdA K "_law_refused_right" | 57 => cdA K "law" | _ => 0
theorem it_BadThing : InitT (initS 2) "thing" "thing" := ⟨⟨_, _, _, _, _, _, _, _, _, _, _, _, _, rfl, fun _ => rfl, fun _ => rfl, fun _ => rfl⟩, ⟨_, rfl, rfl⟩, fun _ _ _ _ _ _ _ _ us hl => match us, hl with | [_, _], _ => rfl, rfl, rfl, rfl, rfl, rfl, rfl, rfl, by decide +kernel, by decide, by decide⟩
theorem it_TooGreat : InitT (initS 3) "most" "most" := ⟨⟨_, _, _, _, _, _, _, _, _, _, _, _, _, rfl, fun _ => rfl, fun _ => rfl, fun _ => rfl⟩, ⟨_, rfl, rfl⟩, fun _ _ _ _ _ _ _ _ us hl => match us, hl with | [_, _], _ => rfl, rfl, rfl, rfl, rfl, rfl, rfl, rfl, by decide +kernel, by decide, by decide⟩
theorem hd_all {w : World} {K : PySem.W.Frag} {mg : PySem.Str → Option Value} {base : Heap} (X : K.In base) (G : base.Ns mainGlobals mg) (c : obsK D K = valN D) (hb : ∀ p ∈ csOf K D.lams, TabB base mg p.1 p.2) : Hd PySem.Challenge.pw_noclicks_k17_whole_rates w K mg base (TT K) (co K) := by
  have b_super := He.free_ok X G (hd_fa c 15)
  have e_BadThing := fun (base : Heap) => xn_of (P := PySem.Challenge.pw_noclicks_k17_whole_rates) (w := w) (base := base) (cm := (TT K).2) (lb := 1) X G rfl (hd_ex c 0).1 (hd_ex c 0).2 it_BadThing b_super rfl
  have e_TooGreat := fun (base : Heap) => xn_of (P := PySem.Challenge.pw_noclicks_k17_whole_rates) (w := w) (base := base) (cm := (TT K).2) (lb := 2) X G rfl (hd_ex c 1).1 (hd_ex c 1).2 it_TooGreat b_super rfl
  exact {
    b_abs := He.free_ok X G (hd_fa c 0),
    b_all := He.free_ok X G (hd_fa c 1),
    b_bool := He.free_ok X G (hd_fa c 2),
    b_enumerate := He.free_ok X G (hd_fa c 3),
    b_int := He.free_ok X G (hd_fa c 4),
    b_isinstance := He.free_ok X G (hd_fa c 5),
    b_len := He.free_ok X G (hd_fa c 6),
    b_list := He.free_ok X G (hd_fa c 7),
    b_max := He.free_ok X G (hd_fa c 8),
    b_min := He.free_ok X G (hd_fa c 9),
    b_range := He.free_ok X G (hd_fa c 10),
    b_repr := He.free_ok X G (hd_fa c 11),
    b_sum := He.free_ok X G (hd_fa c 12),
    b_tuple := He.free_ok X G (hd_fa c 13),
    b_zip := He.free_ok X G (hd_fa c 14),
    c_MOST := gc_of X G (hd_const c 0),
    c_MOST_FACTORS := gc_of X G (hd_const c 1),
    c_MOST_ROW := gc_of X G (hd_const c 2),
    c_NONE := gc_of X G (hd_const c 3),
    x_BadThing := (e_BadThing base).1,
    x_TooGreat := (e_TooGreat base).1,
    f_is_whole := fun_of' X G (hd_fn c 0).1 (hd_fn c 0).2,
    f_is_from := fun_of' X G (hd_fn c 1).1 (hd_fn c 1).2,
    f_is_many := fun_of' X G (hd_fn c 2).1 (hd_fn c 2).2,
    f_common := fun_of' X G (hd_fn c 3).1 (hd_fn c 3).2,
    f_is_fraction := fun_of' X G (hd_fn c 4).1 (hd_fn c 4).2,
    f_lean := fun_of' X G (hd_fn c 5).1 (hd_fn c 5).2,
    f_plus := fun_of' X G (hd_fn c 6).1 (hd_fn c 6).2,
    f_times := fun_of' X G (hd_fn c 7).1 (hd_fn c 7).2,
    f_trimmed := fun_of' X G (hd_fn c 8).1 (hd_fn c 8).2,
    f_is_poly := fun_of' X G (hd_fn c 9).1 (hd_fn c 9).2,
    f_product_in := fun_of' X G (hd_fn c 10).1 (hd_fn c 10).2,
    f_check_rate_row := fun_of' X G (hd_fn c 11).1 (hd_fn c 11).2,
    f_check_step := fun_of' X G (hd_fn c 12).1 (hd_fn c 12).2,
    f_check_filter := fun_of' X G (hd_fn c 13).1 (hd_fn c 13).2,
    f_every := fun_of' X G (hd_fn c 14).1 (hd_fn c 14).2,
    f_between := fun_of' X G (hd_fn c 15).1 (hd_fn c 15).2,
    f_filtered := fun_of' X G (hd_fn c 16).1 (hd_fn c 16).2,
    f_held := fun_of' X G (hd_fn c 17).1 (hd_fn c 17).2,
    f_spread_filter := fun_of' X G (hd_fn c 18).1 (hd_fn c 18).2,
    f_phases_of := fun_of' X G (hd_fn c 19).1 (hd_fn c 19).2,
    f_from_phases := fun_of' X G (hd_fn c 20).1 (hd_fn c 20).2,
    f_filtered_every := fun_of' X G (hd_fn c 21).1 (hd_fn c 21).2,
    f_products_needed := fun_of' X G (hd_fn c 22).1 (hd_fn c 22).2,
    f_can_go_first := fun_of' X G (hd_fn c 23).1 (hd_fn c 23).2,
    f_can_go_behind := fun_of' X G (hd_fn c 24).1 (hd_fn c 24).2,
    f_in_one := fun_of' X G (hd_fn c 25).1 (hd_fn c 25).2,
    f__law_cell_at := fun_of' X G (hd_fn c 26).1 (hd_fn c 26).2,
    f__law_draw := fun_of' X G (hd_fn c 27).1 (hd_fn c 27).2,
    f__law_number := fun_of' X G (hd_fn c 28).1 (hd_fn c 28).2,
    f__law_next := fun_of' X G (hd_fn c 29).1 (hd_fn c 29).2,
    f__law_pick := fun_of' X G (hd_fn c 30).1 (hd_fn c 30).2,
    f__law_common := fun_of' X G (hd_fn c 31).1 (hd_fn c 31).2,
    f__law_lean := fun_of' X G (hd_fn c 32).1 (hd_fn c 32).2,
    f__law_plus := fun_of' X G (hd_fn c 33).1 (hd_fn c 33).2,
    f__law_times := fun_of' X G (hd_fn c 34).1 (hd_fn c 34).2,
    f__law_total := fun_of' X G (hd_fn c 35).1 (hd_fn c 35).2,
    f__law_fraction := fun_of' X G (hd_fn c 36).1 (hd_fn c 36).2,
    f__law_row := fun_of' X G (hd_fn c 37).1 (hd_fn c 37).2,
    f__law_trim := fun_of' X G (hd_fn c 38).1 (hd_fn c 38).2,
    f__law_product := fun_of' X G (hd_fn c 39).1 (hd_fn c 39).2,
    f__law_poly := fun_of' X G (hd_fn c 40).1 (hd_fn c 40).2,
    f__law_filtered := fun_of' X G (hd_fn c 41).1 (hd_fn c 41).2,
    f__law_refused_right := fun_of X G (hd_fn c 42).1 (hd_fn c 42).2,
    f_law := fun_of X G (hd_fn c 43).1 (hd_fn c 43).2,
    t__law_refused_right := tb_of c List.mem_cons_self hb,
    o__law_refuses := tn_of X G (hd_fn c 44).1 (hd_fn c 44).2 (e_BadThing base).2 (He.free_ok X G (hd_fa c 11)) }
end law_k17

set_option Elab.async false
set_option linter.all false
set_option maxRecDepth 100000
set_option maxHeartbeats 0
namespace law_k17
open PySem PySem.Spec PyProof.Rows L2 PI
set_option maxHeartbeats 0 in
theorem run (w : World) : HandSHeadRun.RunEq R qv (hookN D) (obT D) 6000 names w := by
  intro os
  kernel_rfl
end law_k17

set_option Elab.async false
set_option linter.all false
set_option maxRecDepth 100000
set_option maxHeartbeats 0
open PySem PySem.W PySem.Calls PyProof.Rows
theorem PySem.Challenge.cw_noclicks_k17_whole_rates_holds : PySem.Challenge.rw_noclicks_k17_whole_rates.Holds := by
  w_on; o_law
  refine HandSHeadRun.head_any (r := law_k17.R) (q := law_k17.qv) (H := PI.hookN law_k17.D) (ob := PI.obT law_k17.D) (M := 6000) (loose := law_k17.names) (d := HandSHeadRun.topDef law_k17.R.prog 57) (kwd := []) (PI.obT_eq law_k17.D)
    (by kernel_rfl) (fun s => by kernel_rfl) law_k17.run (by kernel_rfl) (by kernel_rfl) (by kernel_rfl) (by rfl) (by first | assumption | decide +kernel) (by decide +kernel) ⟨rfl, rfl, rfl, rfl, rfl, by decide +kernel⟩ ?hw ?hc
  case hw => w_witness2
  case hc =>
    exact PI.walk_G (l := PySem.Challenge.rw_noclicks_k17_whole_rates) (n := 63) (k := 11) (D := law_k17.D) (g := law_k17.d_law) (T := law_k17.TT) rfl (by decide) (by kernel_rfl) ⟨rfl, by decide, by decide⟩ (by decide +kernel) (fun _ => rfl) (fun ns _ => law_k17.law_true ns 0)
      fun w K mg base X G c hb => law_k17.dn_law (law_k17.hd_all X G c hb)

