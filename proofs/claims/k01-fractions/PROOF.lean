import PyProof.Rows.All
import Wide.All
import OpenK.AllK
import Wide.FinOn
import HandS.ForMost
import HandS.ForExc
import HandS.Wide
import HandS.IsInst
import HandS.TupAny
import HandS.TupMul
import HandS.Flow
import HandS.Deep
import HandS.ExcOwn
import HandS.Lambda
import HandS.ExcField
import HandS.SuiteRaise
import HandS.TryMany
import HandS.Iter
import HandS.Comp
import KE.KExcSuper
import HandS.ExcInit
import HandS.Words
import HandS.WordsExc
import HandS.HeadHook1
import HandS.Head0
import HandS.Head1
import HandS.Head2
import HandS.EndTab
import PySem.Challenge.RW_noclicks_k01_whole_fractions
set_option Elab.async false
set_option linter.all false
set_option maxRecDepth 100000
/-! PI1: an interpreter for a part of the language, by values and a store; what stands for what. -/
namespace PI
open PySem PySem.Spec PyProof.Rows L2

/-! ### values, objects, the store -/
inductive IV where
  | non | bl (b : Bool) | int (i : Int) | str (s : List Nat) | tup (xs : List IV) | ref (n : Nat)
  deriving Inhabited
inductive IO where
  | lst (xs : List IV)
  | frl (xs : List IV)
  deriving Inhabited
structure Sto where
  os : List IO
  low : Nat
/-- an exception: its class by number, its attributes -/
structure IX where
  cls : Nat
  fs : List (Str × IV)
inductive RE (α : Type) where
  | ok (a : α) (st : Sto)
  | exc (x : IX) (st : Sto)
  | bad
abbrev IEnv := List (Option IV)
/-- what the calls of the text's own defs give: the def by number, the arguments -/
abbrev CL := Nat → List IV → Sto → RE IV
def RE.bind {α β : Type} (m : RE α) (k : α → Sto → RE β) : RE β :=
  match m with
  | .ok a st => k a st
  | .exc x st => .exc x st
  | .bad => .bad
def Sto.alloc (st : Sto) (o : IO) : RE IV := .ok (.ref st.os.length) { st with os := st.os ++ [o] }

/-! ### what stands for what -/
mutual
inductive RepV (K : PySem.W.Frag) (H : Hp) (ρ : List Addr) : IV → V → Prop
  | non : RepV K H ρ .non .non
  | bl (b : Bool) : RepV K H ρ (.bl b) (.bl b)
  | int (i : Int) : RepV K H ρ (.int i) (.int i)
  | str {s : List Nat} (h : s.all (fun c => decide (c < 0x110000)) = true) : RepV K H ρ (.str s) (.str ⟨s.toArray⟩)
  | tup {xs : List IV} {vs : List V} {a : Addr} (h : SqT K H a vs) (r : RepVs K H ρ xs vs) : RepV K H ρ (.tup xs) (.ref a)
  | ref {n : Nat} {a : Addr} (h : ρ[n]? = some a) : RepV K H ρ (.ref n) (.ref a)
inductive RepVs (K : PySem.W.Frag) (H : Hp) (ρ : List Addr) : List IV → List V → Prop
  | nil : RepVs K H ρ [] []
  | cons {x : IV} {xs : List IV} {v : V} {vs : List V} (h : RepV K H ρ x v) (t : RepVs K H ρ xs vs) : RepVs K H ρ (x :: xs) (v :: vs)
end
def RepO (K : PySem.W.Frag) (H : Hp) (ρ : List Addr) (a : Addr) : IO → Prop
  | .lst xs => ∃ vs, H a = some (.lst vs) ∧ RepVs K H ρ xs vs
  | .frl xs => ∃ vs, Rd H a (.lst vs) ∧ RepVs K H ρ xs vs
structure Rel (K : PySem.W.Frag) (H : Hp) (ρ : List Addr) (st : Sto) : Prop where
  len : ρ.length = st.os.length
  nd : ρ.Nodup
  obj : ∀ (n : Nat) (o : IO) (a : Addr), st.os[n]? = some o → ρ[n]? = some a → RepO K H ρ a o
structure RelEnv (K : PySem.W.Frag) (H : Hp) (ρ : List Addr) (env : IEnv) (σ : L2.St) : Prop where
  len : env.length = σ.length
  get : ∀ (i : Nat) (v : IV), env[i]? = some (some v) → ∃ x, σ[i]? = some (some x) ∧ RepV K H ρ v x
/-- the heap goes on: what is not the store's stays, what comes into the store is new -/
structure Ext (ρ : List Addr) (H : Hp) (ρ' : List Addr) (H' : Hp) : Prop where
  pre : ρ <+: ρ'
  keep : ∀ (a : Addr) (o : HO), H a = some o → a ∉ ρ → H' a = some o
  new : ∀ a ∈ ρ', a ∈ ρ ∨ H a = none
theorem Ext.refl (ρ : List Addr) (H : Hp) : Ext ρ H ρ H := ⟨List.prefix_refl ρ, fun _ _ h _ => h, fun _ h => .inl h⟩
theorem Ext.trans {ρ ρ1 ρ2 : List Addr} {H H1 H2 : Hp} (a : Ext ρ H ρ1 H1) (b : Ext ρ1 H1 ρ2 H2) : Ext ρ H ρ2 H2 where
  pre := a.pre.trans b.pre
  keep := fun c o h n => b.keep c o (a.keep c o h n) fun z => by
    rcases a.new c z with z | z
    · exact n z
    · rw [h] at z; cases z
  new := fun c h => by
    rcases b.new c h with h | h
    · exact a.new c h
    · by_cases hc : c ∈ ρ
      · exact .inl hc
      · right
        cases q : H c with
        | none => rfl
        | some o => rw [a.keep c o q hc] at h; cases h

section
variable {K : PySem.W.Frag} {H H' : Hp} {ρ ρ' : List Addr} {st : Sto}
theorem Rel.at' (r : Rel K H ρ st) {a : Addr} (h : a ∈ ρ) : ∃ (n : Nat) (o : IO), ρ[n]? = some a ∧ st.os[n]? = some o ∧ RepO K H ρ a o := by
  obtain ⟨n, hn, e⟩ := List.getElem_of_mem h
  have e1 : ρ[n]? = some a := by rw [List.getElem?_eq_getElem hn, e]
  have hn' : n < st.os.length := by rw [← r.len]; exact hn
  exact ⟨n, st.os[n], e1, List.getElem?_eq_getElem hn', r.obj n _ a (List.getElem?_eq_getElem hn') e1⟩
theorem RepO.ne_tup {a : Addr} {o : IO} (h : RepO K H ρ a o) (vs : List V) : ¬ Rd H a (.tup vs) := by
  intro q
  cases o with
  | lst xs =>
    obtain ⟨ws, e, _⟩ := h
    rcases q with q | ⟨ob, q⟩ <;> (rw [e] at q; cases q)
  | frl xs =>
    obtain ⟨ws, e, _⟩ := h
    rcases e with e | ⟨ob', e⟩ <;> rcases q with q | ⟨ob, q⟩ <;> (rw [e] at q; cases q)
theorem RepO.trk {a : Addr} {o : IO} (h : RepO K H ρ a o) : ∃ u, H a = some u := by
  cases o with
  | lst xs => obtain ⟨ws, e, _⟩ := h; exact ⟨_, e⟩
  | frl xs =>
    obtain ⟨ws, e, _⟩ := h
    rcases e with e | ⟨ob', e⟩
    · exact ⟨_, e⟩
    · exact ⟨_, e⟩
theorem Rel.trk (r : Rel K H ρ st) {a : Addr} (h : a ∈ ρ) : ∃ u, H a = some u := by
  obtain ⟨_, _, _, _, q⟩ := r.at' h
  exact q.trk
theorem Rel.sqT (r : Rel K H ρ st) (e : Ext ρ H ρ' H') {a : Addr} {vs : List V} (h : SqT K H a vs) : SqT K H' a vs := by
  rcases h with h | h
  · have hn : a ∉ ρ := fun z => by
      obtain ⟨_, _, _, _, q⟩ := r.at' z
      exact q.ne_tup vs h
    left
    rcases h with h | ⟨ob, h⟩
    · exact .inl (e.keep a _ h hn)
    · exact .inr ⟨ob, e.keep a _ h hn⟩
  · exact .inr h
theorem pre_get {α : Type} {l l' : List α} (h : l <+: l') {n : Nat} {a : α} (e : l[n]? = some a) : l'[n]? = some a := by
  obtain ⟨t, rfl⟩ := h
  have hn := (List.getElem?_eq_some_iff.mp e).1
  rw [List.getElem?_append_left hn]
  exact e
mutual
theorem RepV.mono (r : Rel K H ρ st) (e : Ext ρ H ρ' H') : ∀ {v : IV} {x : V}, RepV K H ρ v x → RepV K H' ρ' v x
  | _, _, .non => .non
  | _, _, .bl b => .bl b
  | _, _, .int i => .int i
  | _, _, .str h => .str h
  | _, _, .tup h t => .tup (r.sqT e h) (RepVs.mono r e t)
  | _, _, .ref h => .ref (pre_get e.pre h)
theorem RepVs.mono (r : Rel K H ρ st) (e : Ext ρ H ρ' H') : ∀ {v : List IV} {x : List V}, RepVs K H ρ v x → RepVs K H' ρ' v x
  | _, _, .nil => .nil
  | _, _, .cons h t => .cons (RepV.mono r e h) (RepVs.mono r e t)
end
theorem RelEnv.mono (r : Rel K H ρ st) (e : Ext ρ H ρ' H') {env : IEnv} {σ : L2.St} (h : RelEnv K H ρ env σ) : RelEnv K H' ρ' env σ :=
  ⟨h.len, fun i v q => let ⟨x, a, b⟩ := h.get i v q; ⟨x, a, b.mono r e⟩⟩
theorem RepVs.length : ∀ {xs : List IV} {vs : List V}, RepVs K H ρ xs vs → xs.length = vs.length
  | _, _, .nil => rfl
  | _, _, .cons _ t => by rw [List.length_cons, List.length_cons, RepVs.length t]
theorem RepVs.get : ∀ {xs : List IV} {vs : List V} {i : Nat} {x : IV}, RepVs K H ρ xs vs → xs[i]? = some x → ∃ v, vs[i]? = some v ∧ RepV K H ρ x v
  | _, _, _, _, .nil, e => by simp at e
  | _, _, 0, _, .cons h _, e => by simp at e; subst e; exact ⟨_, rfl, h⟩
  | _, _, i + 1, x, .cons _ t, e => by
    obtain ⟨v, h1, h2⟩ := RepVs.get (i := i) (x := x) t (by simpa using e)
    exact ⟨v, by simpa using h1, h2⟩
theorem RepVs.append : ∀ {xs ys : List IV} {vs ws : List V}, RepVs K H ρ xs vs → RepVs K H ρ ys ws → RepVs K H ρ (xs ++ ys) (vs ++ ws)
  | _, _, _, _, .nil, s => s
  | _, _, _, _, .cons h t, s => .cons h (RepVs.append t s)
theorem RepVs.take : ∀ {xs : List IV} {vs : List V} (n : Nat), RepVs K H ρ xs vs → RepVs K H ρ (xs.take n) (vs.take n)
  | _, _, 0, _ => by simpa using RepVs.nil
  | _, _, _ + 1, .nil => .nil
  | _, _, n + 1, .cons h t => .cons h (RepVs.take n t)
theorem RepVs.drop : ∀ {xs : List IV} {vs : List V} (n : Nat), RepVs K H ρ xs vs → RepVs K H ρ (xs.drop n) (vs.drop n)
  | _, _, 0, r => by simpa using r
  | _, _, _ + 1, .nil => .nil
  | _, _, n + 1, .cons _ t => by simpa using RepVs.drop n t
theorem RepVs.set {x : IV} {v : V} (r : RepV K H ρ x v) : ∀ {xs : List IV} {vs : List V} (i : Nat), RepVs K H ρ xs vs → RepVs K H ρ (xs.set i x) (vs.set i v)
  | _, _, _, .nil => .nil
  | _, _, 0, .cons _ t => .cons r t
  | _, _, i + 1, .cons q t => .cons q (RepVs.set r i t)
theorem RepVs.one {x : IV} {vs : List V} (h : RepVs K H ρ [x] vs) : ∃ v, vs = [v] ∧ RepV K H ρ x v := by
  cases h with
  | cons h t => cases t; exact ⟨_, rfl, h⟩
theorem RepVs.two {x y : IV} {vs : List V} (h : RepVs K H ρ [x, y] vs) : ∃ v w, vs = [v, w] ∧ RepV K H ρ x v ∧ RepV K H ρ y w := by
  cases h with
  | cons h t => obtain ⟨w, rfl, h2⟩ := t.one; exact ⟨_, _, rfl, h, h2⟩

/-! ### a new object; an object changed -/
theorem fresh_not (r : Rel K H ρ st) {p : Addr} (h : H p = none) : p ∉ ρ := fun z => by
  obtain ⟨u, e⟩ := r.trk z
  rw [h] at e; cases e
theorem Ext.fresh (r : Rel K H ρ st) {p : Addr} (h : H p = none) (u : HO) : Ext ρ H ρ (upd H p u) :=
  ⟨List.prefix_refl ρ, fun a o e _ => by rw [upd_ne (ne_of_none e h)]; exact e, fun _ q => .inl q⟩
theorem Ext.alloc (r : Rel K H ρ st) {p : Addr} (h : H p = none) (u : HO) : Ext ρ H (ρ ++ [p]) (upd H p u) :=
  ⟨List.prefix_append ρ [p], fun a o e _ => by rw [upd_ne (ne_of_none e h)]; exact e, fun a q => by
    rcases List.mem_append.mp q with q | q
    · exact .inl q
    · right
      have : a = p := by simpa using q
      rw [this]; exact h⟩
theorem RepO.mono (r : Rel K H ρ st) (e : Ext ρ H ρ' H') {a : Addr} {o : IO} (h : RepO K H ρ a o) (hk : H' a = H a) : RepO K H' ρ' a o := by
  cases o with
  | lst xs => obtain ⟨vs, q, t⟩ := h; exact ⟨vs, by rw [hk]; exact q, t.mono r e⟩
  | frl xs =>
    obtain ⟨vs, q, t⟩ := h
    exact ⟨vs, by unfold Rd; rw [hk]; exact q, t.mono r e⟩
/-- a tuple (or what the store does not hold) is laid -/
theorem Rel.fresh (r : Rel K H ρ st) {p : Addr} (h : H p = none) (u : HO) : Rel K (upd H p u) ρ st :=
  ⟨r.len, r.nd, fun n o a e1 e2 => (r.obj n o a e1 e2).mono r (Ext.fresh r h u) (upd_ne fun z => fresh_not r h (z ▸ List.mem_of_getElem? e2))⟩
theorem Rel.alloc (r : Rel K H ρ st) {p : Addr} (h : H p = none) (u : HO) (o : IO) (hn : RepO K (upd H p u) (ρ ++ [p]) p o) : Rel K (upd H p u) (ρ ++ [p]) { st with os := st.os ++ [o] } := by
  have hf := fresh_not r h
  refine ⟨by simp [r.len], ?_, fun n o' a e1 e2 => ?_⟩
  · rw [List.nodup_append]
    refine ⟨r.nd, by simp, fun a ha b hb => ?_⟩
    have : b = p := by simpa using hb
    subst this
    exact fun z => hf (z ▸ ha)
  · have hl := r.len
    by_cases hlt : n < st.os.length
    · have e1' : st.os[n]? = some o' := by
        have e1'' : (st.os ++ [o])[n]? = some o' := e1
        rwa [List.getElem?_append_left hlt] at e1''
      have e2' : ρ[n]? = some a := by rwa [List.getElem?_append_left (by omega)] at e2
      exact (r.obj n o' a e1' e2').mono r (Ext.alloc r h u) (upd_ne fun z => hf (z ▸ List.mem_of_getElem? e2'))
    · have hn1 : n < (st.os ++ [o]).length := (List.getElem?_eq_some_iff.mp (show (st.os ++ [o])[n]? = some o' from e1)).1
      have en : n = st.os.length := by
        rw [List.length_append, List.length_cons, List.length_nil] at hn1
        omega
      subst en
      have e1'' : (st.os ++ [o])[st.os.length]? = some o' := e1
      have e2'' : (ρ ++ [p])[st.os.length]? = some a := e2
      rw [List.getElem?_append_right (Nat.le_refl _)] at e1''
      rw [← hl, List.getElem?_append_right (Nat.le_refl _)] at e2''
      simp at e1'' e2''
      subst e1'' e2''
      exact hn
theorem nodup_get {α : Type} {l : List α} (h : l.Nodup) {i j : Nat} {x : α} (a : l[i]? = some x) (b : l[j]? = some x) : i = j := by
  obtain ⟨h1, e1⟩ := List.getElem?_eq_some_iff.mp a
  obtain ⟨h2, e2⟩ := List.getElem?_eq_some_iff.mp b
  exact (List.getElem_inj h).mp (e1.trans e2.symm)
/-- the n-th object of the store is changed -/
theorem Ext.write (r : Rel K H ρ st) {n : Nat} {a : Addr} (hn : ρ[n]? = some a) (u : HO) : Ext ρ H ρ (upd H a u) :=
  ⟨List.prefix_refl ρ, fun b o e hb => by rw [upd_ne (fun z => hb (by rw [z]; exact List.mem_of_getElem? hn))]; exact e, fun _ q => .inl q⟩
theorem Rel.write (r : Rel K H ρ st) {n : Nat} {a : Addr} (hn : ρ[n]? = some a) (u : HO) (o : IO) (ho : RepO K (upd H a u) ρ a o) (lw : Nat) : Rel K (upd H a u) ρ { os := st.os.set n o, low := lw } := by
  refine ⟨by simp [r.len], r.nd, fun m o' b e1 e2 => ?_⟩
  by_cases hm : n = m
  · subst hm
    have hb : b = a := by rw [hn] at e2; exact (Option.some.inj e2).symm
    subst hb
    have e1' : (st.os.set n o)[n]? = some o' := e1
    have hl : n < st.os.length := by
      have := (List.getElem?_eq_some_iff.mp e1').1
      simpa using this
    rw [List.getElem?_set_self hl] at e1'
    cases e1'
    exact ho
  · have e1' : (st.os.set n o)[m]? = some o' := e1
    rw [List.getElem?_set_ne hm] at e1'
    refine (r.obj m o' b e1' e2).mono r (Ext.write r hn u) (upd_ne fun z => hm ?_)
    subst z
    exact nodup_get r.nd hn e2
end

/-- a reading may be strengthened -/
theorem _root_.L2.PE.of {X : Cx} {e : Expr} {t t' : TE} (h : PE X e t) (f : ∀ σ H Q, t' σ H Q → t σ H Q) : PE X e t' := ⟨fun pins s σ H Q I q => h.run pins s σ H Q I (f σ H Q q)⟩
theorem _root_.L2.PT.of {X : Cx} {e : Expr} {t t' : TT} (h : PT X e t) (f : ∀ σ H Q, t' σ H Q → t σ H Q) : PT X e t' := ⟨fun pins s σ H Q I q => h.run pins s σ H Q I (f σ H Q q)⟩
theorem _root_.L2.PA.of {X : Cx} {e : List Expr} {t t' : TA} (h : PA X e t) (f : ∀ σ H Q, t' σ H Q → t σ H Q) : PA X e t' := ⟨fun pos pins s σ H Q I q => h.run pos pins s σ H Q I (f σ H Q q)⟩
theorem _root_.L2.PS.of {X : Cx} {e : Stmt} {t t' : TS} (h : PS X e t) (f : ∀ D σ H, t' D σ H → t D σ H) : PS X e t' := ⟨fun pins s σ H D I q => h.run pins s σ H D I (f D σ H q)⟩
theorem _root_.L2.PSs.of {X : Cx} {e : List Stmt} {t t' : TS} (h : PSs X e t) (f : ∀ D σ H, t' D σ H → t D σ H) : PSs X e t' := ⟨fun pins s σ H D I q => h.run pins s σ H D I (f D σ H q)⟩
end PI

set_option Elab.async false
set_option linter.all false
set_option maxRecDepth 100000
/-! PI2: operators, builtins by values. -/
namespace PI
open PySem PySem.Spec PyProof.Rows L2

/-! ### answers of operators -/
abbrev RO := Option (IV × Sto)
def Sto.allocO (st : Sto) (o : IO) : RO := some (.ref st.os.length, { st with os := st.os ++ [o] })
def PostO (K : PySem.W.Frag) (ρ : List Addr) (H : Hp) (Q : VK) : RO → Prop
  | some (v, st) => ∀ (ρ' : List Addr) (H' : Hp) (x : V), Ext ρ H ρ' H' → Rel K H' ρ' st → RepV K H' ρ' v x → Q x H'
  | none => False
def RE.ofO : RO → RE IV
  | some (v, st) => .ok v st
  | none => .bad
def rB (K : PySem.W.Frag) (f : IV → IV → Sto → RO) : R2 := fun x y H Q => ∃ ρ st va vb, Rel K H ρ st ∧ RepV K H ρ va x ∧ RepV K H ρ vb y ∧ PostO K ρ H Q (f va vb st)
def rU1 (K : PySem.W.Frag) (f : IV → Sto → RO) : V → Hp → VK → Prop := fun x H Q => ∃ ρ st va, Rel K H ρ st ∧ RepV K H ρ va x ∧ PostO K ρ H Q (f va st)
def rCl (K : PySem.W.Frag) (f : List IV → Sto → RO) : List V → Hp → VK → Prop := fun vs H Q => ∃ ρ st xs, Rel K H ρ st ∧ RepVs K H ρ xs vs ∧ PostO K ρ H Q (f xs st)
section
variable {K : PySem.W.Frag} {H : Hp} {ρ : List Addr} {st : Sto} {Q : VK}
theorem PostO.here {v : IV} {x : V} (h : PostO K ρ H Q (some (v, st))) (r : Rel K H ρ st) (p : RepV K H ρ v x) : Q x H := h ρ H x (Ext.refl _ _) r p
theorem PostO.newTup {xs : List IV} {vs : List V} (h : PostO K ρ H Q (some (.tup xs, st))) (r : Rel K H ρ st) (p : RepVs K H ρ xs vs) : ∀ a, H a = none → Q (.ref a) (upd H a (.tup vs)) := fun a ha =>
  h ρ _ _ (Ext.fresh r ha _) (r.fresh ha _) (.tup (SqT.of upd_same) (p.mono r (Ext.fresh r ha _)))
theorem rep_last (r : Rel K H ρ st) (a : Addr) : (ρ ++ [a])[st.os.length]? = some a := by
  rw [← r.len, List.getElem?_append_right (Nat.le_refl _)]
  simp
theorem PostO.newLst {xs : List IV} {vs : List V} (h : PostO K ρ H Q (st.allocO (.lst xs))) (r : Rel K H ρ st) (p : RepVs K H ρ xs vs) : ∀ a, H a = none → Q (.ref a) (upd H a (.lst vs)) := fun a ha =>
  h (ρ ++ [a]) _ _ (Ext.alloc r ha _) (r.alloc ha _ _ ⟨vs, upd_same, p.mono r (Ext.alloc r ha _)⟩) (.ref (rep_last r a))
/-- a list that may be read, by its number -/
def lstAt (st : Sto) (n : Nat) : Option (List IV) :=
  match st.os[n]? with
  | some (.lst xs) => some xs
  | some (.frl xs) => some xs
  | _ => none
theorem lstAt_sq {n : Nat} {xs : List IV} {a : Addr} (r : Rel K H ρ st) (e : lstAt st n = some xs) (ea : ρ[n]? = some a) : ∃ vs, SqL K H a vs ∧ RepVs K H ρ xs vs := by
  unfold lstAt at e
  split at e
  · rename_i h
    cases e
    obtain ⟨vs, q, t⟩ := r.obj n _ a h ea
    exact ⟨vs, .inl (.inl q), t⟩
  · rename_i h
    cases e
    obtain ⟨vs, q, t⟩ := r.obj n _ a h ea
    exact ⟨vs, .inl q, t⟩
  · cases e
/-- the items of a list or tuple -/
def seqOf (st : Sto) : IV → Option (List IV)
  | .tup xs => some xs
  | .ref n => lstAt st n
  | _ => none
theorem seqOf_sq {v : IV} {x : V} {xs : List IV} (r : Rel K H ρ st) (p : RepV K H ρ v x) (e : seqOf st v = some xs) : ∃ a vs, x = .ref a ∧ (SqL K H a vs ∨ SqT K H a vs) ∧ RepVs K H ρ xs vs := by
  cases p with
  | tup h t => cases e; exact ⟨_, _, rfl, .inr h, t⟩
  | ref h =>
    obtain ⟨vs, q, t⟩ := lstAt_sq r e h
    exact ⟨_, _, rfl, .inl q, t⟩
  | _ => cases e
end

/-! ### arithmetic -/
def lineI : Nat := 100000
theorem line_ok {n : Nat} (h : n ≤ lineI) : n ≤ sizeLine := Nat.le_trans h (by decide)
theorem line_lt {n : Nat} (h : n < lineI) : n < sizeLine := Nat.lt_of_lt_of_le h (by decide)
def addI : IV → IV → Sto → RO
  | .int i, .int j, st => some (.int (i + j), st)
  | .tup xs, .tup ys, st => bif Nat.ble (xs.length + ys.length) lineI then some (.tup (xs ++ ys), st) else none
  | .str s, .str t, st => bif Nat.ble (s.length + t.length) lineI then some (.str (s ++ t), st) else none
  | .ref a, .ref b, st => match st.os[a]?, st.os[b]? with
    | some (.lst xs), some (.lst ys) => bif Nat.ble (xs.length + ys.length) lineI then st.allocO (.lst (xs ++ ys)) else none
    | _, _ => none
  | _, _, _ => none
def subI : IV → IV → Sto → RO
  | .int i, .int j, st => some (.int (i - j), st)
  | _, _, _ => none
def mulOk (i j : Int) : Bool := Nat.ble (i.natAbs.log2 + j.natAbs.log2) 900000
def mulI : IV → IV → Sto → RO
  | .int i, .int j, st => bif mulOk i j then some (.int (i * j), st) else none
  | .ref a, .int k, st => match st.os[a]? with
    | some (.lst xs) => bif decide (0 ≤ k) && Nat.ble (xs.length * k.toNat) lineI && decide (k < 1000000) then st.allocO (.lst (List.replicate k.toNat xs).flatten) else none
    | _ => none
  | .tup xs, .int k, st => bif (match xs with | [] => false | _ => true) && decide (2 ≤ k) && decide (k ≤ 1000) && Nat.ble xs.length 1000 then some (.tup (List.replicate k.toNat xs).flatten, st) else none
  | _, _, _ => none
def divI : IV → IV → Sto → RO
  | .int i, .int j, st => bif decide (0 < j) && Nat.blt j.natAbs.log2 9000 then some (.int (i / j), st) else none
  | _, _, _ => none
def modI : IV → IV → Sto → RO
  | .int i, .int j, st => bif decide (0 < j) then some (.int (i % j), st) else none
  | _, _, _ => none
def powI : IV → IV → Sto → RO
  | .int i, .int j, st => bif decide (0 ≤ j) && decide (j ≤ 10000) && Nat.blt i.natAbs (2 ^ 64) then some (.int (i ^ j.toNat), st) else none
  | _, _, _ => none
theorem bif_some {b : Bool} {α : Type} {x : Option α} {P : Option α → Prop} (h : P (bif b then x else none)) (hn : ¬ P none) : b = true ∧ P x := by
  cases b with
  | true => exact ⟨rfl, h⟩
  | false => exact absurd h hn
section
variable {X : Cx}
theorem post_none {K : PySem.W.Frag} {ρ : List Addr} {H : Hp} {Q : VK} : ¬ PostO K ρ H Q none := fun h => h
theorem cps_len (s : List Nat) : (⟨s.toArray⟩ : Str).length = s.length := by simp [Str.length]
theorem str_app (s t : List Nat) : (⟨s.toArray⟩ : Str) ++ (⟨t.toArray⟩ : Str) = ⟨(s ++ t).toArray⟩ := by
  show Str.mk _ = _
  simp
theorem op_addI : OpR X (binaryOp .Add) (rB X.K addI) := by
  rintro pins s σ H x y v u Q I rx ry ⟨ρ, st, va, vb, r, pa, pb, h⟩
  cases pa with
  | int i =>
    cases pb with
    | int j => exact op_add pins s σ H _ _ v u Q I rx ry ⟨i, j, rfl, rfl, h.here r (.int _)⟩
    | _ => exact (post_none h).elim
  | tup ha ta =>
    cases pb with
    | tup hb tb =>
      obtain ⟨e, h⟩ := bif_some (P := PostO X.K ρ H Q) h post_none
      have e' := Nat.le_of_ble_eq_true e
      refine op_catA pins s σ H _ _ v u Q I rx ry ⟨_, _, _, _, rfl, rfl, ha, hb, line_ok (by rw [← ta.length, ← tb.length]; exact e'), fun z => ?_, fun _ z => ?_, fun _ _ => h.newTup r (ta.append tb)⟩
      · subst z
        cases ta
        exact h.here r (.tup hb tb)
      · subst z
        cases tb
        rw [List.append_nil] at h
        exact h.here r (.tup ha ta)
    | _ => exact (post_none h).elim
  | @str s1 h1 =>
    cases pb with
    | @str s2 h2 =>
      obtain ⟨e, h⟩ := bif_some (P := PostO X.K ρ H Q) h post_none
      have e' := Nat.le_of_ble_eq_true e
      refine op_add_str pins s σ H _ _ v u Q I rx ry ⟨_, _, rfl, rfl, line_ok (by rw [cps_len, cps_len]; exact e'), ?_⟩
      rw [str_app]
      exact h.here r (.str (by rw [List.all_append, h1, h2]; rfl))
    | _ => exact (post_none h).elim
  | @ref a a1 ha =>
    cases pb with
    | @ref b b1 hb =>
      have h' : PostO X.K ρ H Q (match st.os[a]?, st.os[b]? with
        | some (.lst xs), some (.lst ys) => bif Nat.ble (xs.length + ys.length) lineI then st.allocO (.lst (xs ++ ys)) else none
        | _, _ => none) := h
      split at h'
      · rename_i xs ys e1 e2
        obtain ⟨e, h⟩ := bif_some (P := PostO X.K ρ H Q) h' post_none
        have e' := Nat.le_of_ble_eq_true e
        obtain ⟨vs, q1, t1⟩ := r.obj _ _ _ e1 ha
        obtain ⟨ws, q2, t2⟩ := r.obj _ _ _ e2 hb
        exact op_cat pins s σ H _ _ v u Q I rx ry ⟨_, _, _, _, rfl, rfl, q1, q2, line_ok (by rw [← t1.length, ← t2.length]; exact e'), h.newLst r (t1.append t2)⟩
      · exact h'.elim
    | _ => exact (post_none h).elim
  | _ => exact (post_none h).elim
theorem op_subI : OpR X (binaryOp .Sub) (rB X.K subI) := by
  rintro pins s σ H x y v u Q I rx ry ⟨ρ, st, va, vb, r, pa, pb, h⟩
  cases pa with
  | int i =>
    cases pb with
    | int j => exact op_sub pins s σ H _ _ v u Q I rx ry ⟨i, j, rfl, rfl, h.here r (.int _)⟩
    | _ => exact (post_none h).elim
  | _ => exact (post_none h).elim
theorem RepVs.flatten {K : PySem.W.Frag} {H : Hp} {ρ : List Addr} {xs : List IV} {vs : List V} (t : RepVs K H ρ xs vs) : ∀ n : Nat, RepVs K H ρ (List.replicate n xs).flatten (List.replicate n vs).flatten
  | 0 => .nil
  | n + 1 => by
    rw [List.replicate_succ, List.replicate_succ, List.flatten_cons, List.flatten_cons]
    exact t.append (RepVs.flatten t n)
theorem op_mulI : OpR X (binaryOp .Mult) (rB X.K mulI) := by
  rintro pins s σ H x y v u Q I rx ry ⟨ρ, st, va, vb, r, pa, pb, h⟩
  cases pa with
  | int i =>
    cases pb with
    | int j =>
      obtain ⟨e, h⟩ := bif_some (P := PostO X.K ρ H Q) h post_none
      exact op_mulW pins s σ H _ _ v u Q I rx ry ⟨i, j, rfl, rfl, Nat.lt_of_le_of_lt (Nat.le_of_ble_eq_true e) (by decide), h.here r (.int _)⟩
    | _ => exact (post_none h).elim
  | tup ha ta =>
    cases pb with
    | int k =>
      obtain ⟨e, h⟩ := bif_some (P := PostO X.K ρ H Q) h post_none
      simp only [Bool.and_eq_true, decide_eq_true_eq] at e
      obtain ⟨⟨⟨e1, e2⟩, e3⟩, e4⟩ := e
      refine op_repT pins s σ H _ _ v u Q I rx ry ⟨_, k, _, rfl, rfl, ha, fun z => ?_, e2, e3, by rw [← ta.length]; exact Nat.le_of_ble_eq_true e4, h.newTup r (ta.flatten _)⟩
      subst z
      cases ta
      cases e1
    | _ => exact (post_none h).elim
  | @ref a a1 ha =>
    cases pb with
    | int k =>
      have h' : PostO X.K ρ H Q (match st.os[a]? with
        | some (.lst xs) => bif decide (0 ≤ k) && Nat.ble (xs.length * k.toNat) lineI && decide (k < 1000000) then st.allocO (.lst (List.replicate k.toNat xs).flatten) else none
        | _ => none) := h
      split at h'
      · rename_i xs e1
        obtain ⟨e, h⟩ := bif_some (P := PostO X.K ρ H Q) h' post_none
        simp only [Bool.and_eq_true, decide_eq_true_eq] at e
        obtain ⟨⟨e2, e3⟩, e4⟩ := e
        obtain ⟨vs, q1, t1⟩ := r.obj _ _ _ e1 ha
        exact op_rep pins s σ H _ _ v u Q I rx ry ⟨_, k, _, rfl, rfl, q1, by omega, by omega, line_ok (by rw [← t1.length]; exact Nat.le_of_ble_eq_true e3), h.newLst r (t1.flatten _)⟩
      · exact h'.elim
    | _ => exact (post_none h).elim
  | _ => exact (post_none h).elim
theorem op_divI : OpR X (binaryOp .FloorDiv) (rB X.K divI) := by
  rintro pins s σ H x y v u Q I rx ry ⟨ρ, st, va, vb, r, pa, pb, h⟩
  cases pa with
  | int i =>
    cases pb with
    | int j =>
      obtain ⟨e, h⟩ := bif_some (P := PostO X.K ρ H Q) h post_none
      simp only [Bool.and_eq_true, decide_eq_true_eq] at e
      exact op_fdivW pins s σ H _ _ v u Q I rx ry ⟨i, j, rfl, rfl, ⟨e.1, by have := e.2; simp [Nat.blt] at this; omega⟩, h.here r (.int _)⟩
    | _ => exact (post_none h).elim
  | _ => exact (post_none h).elim
theorem op_modI : OpR X (binaryOp .Mod) (rB X.K modI) := by
  rintro pins s σ H x y v u Q I rx ry ⟨ρ, st, va, vb, r, pa, pb, h⟩
  cases pa with
  | int i =>
    cases pb with
    | int j =>
      obtain ⟨e, h⟩ := bif_some (P := PostO X.K ρ H Q) h post_none
      exact op_mod pins s σ H _ _ v u Q I rx ry ⟨i, j, rfl, rfl, of_decide_eq_true e, h.here r (.int _)⟩
    | _ => exact (post_none h).elim
  | _ => exact (post_none h).elim
theorem op_powI : OpR X (binaryOp .Pow) (rB X.K powI) := by
  rintro pins s σ H x y v u Q I rx ry ⟨ρ, st, va, vb, r, pa, pb, h⟩
  cases pa with
  | int i =>
    cases pb with
    | int j =>
      obtain ⟨e, h⟩ := bif_some (P := PostO X.K ρ H Q) h post_none
      simp only [Bool.and_eq_true, decide_eq_true_eq] at e
      obtain ⟨⟨e1, e2⟩, e3⟩ := e
      exact op_pow pins s σ H _ _ v u Q I rx ry ⟨i, j, rfl, rfl, ⟨e1, by omega, by simp [Nat.blt] at e3; omega⟩, h.here r (.int _)⟩
    | _ => exact (post_none h).elim
  | _ => exact (post_none h).elim
def negI : IV → Sto → RO
  | .int i, st => some (.int (-i), st)
  | _, _ => none
theorem un_negI : UnR X (unaryOp .USub) (rU1 X.K negI) := by
  rintro pins s σ H x v Q I rx ⟨ρ, st, va, r, pa, h⟩
  cases pa with
  | int i => exact un_neg pins s σ H _ v Q I rx ⟨i, rfl, h.here r (.int _)⟩
  | _ => exact (post_none h).elim
end
end PI

set_option Elab.async false
set_option linter.all false
set_option maxRecDepth 100000
/-! PI3: comparisons. -/
namespace PI
open PySem PySem.Spec PyProof.Rows L2

/-! ### data -/
def allSome {α β : Type} (f : α → Option β) : List α → Option (List β)
  | [] => some []
  | x :: xs => match f x with
    | some d => match allSome f xs with
      | some ds => some (d :: ds)
      | none => none
    | none => none
/-- the data that a value stands for, of no more than so much depth -/
def pd (os : List IO) : Nat → IV → Option PyData
  | 0, v => match v with
    | .non => some .none
    | .bl b => some (.bool b)
    | .int i => some (.int i)
    | .str s => some (.str ⟨s.toArray⟩)
    | .tup _ => none
    | .ref _ => none
  | n + 1, v => match v with
    | .non => some .none
    | .bl b => some (.bool b)
    | .int i => some (.int i)
    | .str s => some (.str ⟨s.toArray⟩)
    | .tup xs => match allSome (pd os n) xs with
      | some ds => some (.tuple ds)
      | none => none
    | .ref k => match lstAt ⟨os, 0⟩ k with
      | some xs => match allSome (pd os n) xs with
        | some ds => some (.list ds)
        | none => none
      | none => none
section
variable {K : PySem.W.Frag} {H : Hp} {ρ : List Addr} {st : Sto} {Q : VK}
theorem strOk_of {s : List Nat} (h : s.all (fun c => decide (c < 0x110000)) = true) : PyData.strOk ⟨s.toArray⟩ = true := by
  unfold PyData.strOk
  simpa using h
theorem depthAll_le {n : Nat} : ∀ {ds : List PyData}, (∀ d ∈ ds, PyData.depth d ≤ n) → PyData.depthAll ds ≤ n
  | [], _ => by simp [PyData.depthAll]
  | d :: ds, h => by
    have h1 := h d List.mem_cons_self
    have h2 := depthAll_le fun e he => h e (List.mem_cons_of_mem _ he)
    simp only [PyData.depthAll]
    omega
theorem canAll {ds : List PyData} (h : ∀ d ∈ ds, PyData.canLay0 d = true) : PyData.canLayAll0 ds = true := by
  induction ds with
  | nil => rfl
  | cons d ds ih =>
    simp only [PyData.canLayAll0, Bool.and_eq_true]
    exact ⟨h d List.mem_cons_self, ih fun e he => h e (List.mem_cons_of_mem _ he)⟩
/-- what is known of such data -/
structure PdOk (K : PySem.W.Frag) (H : Hp) (n : Nat) (x : V) (d : PyData) : Prop where
  dp : Dp K H x d
  can : PyData.canLay0 d = true
  dep : PyData.depth d ≤ n
theorem allSome_ok {f : IV → Option PyData} {n : Nat} (hf : ∀ (v : IV) (x : V) (d : PyData), RepV K H ρ v x → f v = some d → PdOk K H n x d) :
    ∀ {xs : List IV} {vs : List V} {ds : List PyData}, RepVs K H ρ xs vs → allSome f xs = some ds → DpAll K H vs ds ∧ ∀ d ∈ ds, PyData.canLay0 d = true ∧ PyData.depth d ≤ n
  | _, _, ds, .nil, e => by
    cases e
    exact ⟨.nil, fun _ z => nomatch z⟩
  | _, _, ds, .cons (x := x) (xs := xs) h t, e => by
    unfold allSome at e
    split at e
    · rename_i d e1
      split at e
      · rename_i es e2
        cases e
        have o := hf _ _ _ h e1
        obtain ⟨q1, q2⟩ := allSome_ok hf t e2
        refine ⟨.cons o.dp q1, fun c hc => ?_⟩
        rcases List.mem_cons.mp hc with rfl | hc
        · exact ⟨o.can, o.dep⟩
        · exact q2 c hc
      · cases e
    · cases e
theorem pd_ok (r : Rel K H ρ st) : ∀ (n : Nat) (v : IV) (x : V) (d : PyData), RepV K H ρ v x → pd st.os n v = some d → PdOk K H n x d
  | 0, _, _, d, p, e => by
    cases p with
    | non => cases e; exact ⟨.non, rfl, Nat.zero_le _⟩
    | bl b => cases e; exact ⟨.bl b, rfl, Nat.zero_le _⟩
    | int i => cases e; exact ⟨.int i, rfl, Nat.zero_le _⟩
    | str h => cases e; exact ⟨.str _, strOk_of h, Nat.zero_le _⟩
    | tup h t => cases e
    | ref h => cases e
  | n + 1, _, _, d, p, e => by
    cases p with
    | non => cases e; exact ⟨.non, rfl, Nat.zero_le _⟩
    | bl b => cases e; exact ⟨.bl b, rfl, Nat.zero_le _⟩
    | int i => cases e; exact ⟨.int i, rfl, Nat.zero_le _⟩
    | str h => cases e; exact ⟨.str _, strOk_of h, Nat.zero_le _⟩
    | @tup xs vs a h t =>
      have e' : (match allSome (pd st.os n) xs with
        | some ds => some (PyData.tuple ds)
        | none => none) = some d := e
      split at e'
      · rename_i ds e1
        cases e'
        obtain ⟨q1, q2⟩ := allSome_ok (fun v x d p q => pd_ok r n v x d p q) t e1
        exact ⟨.tup h q1, canAll fun d hd => (q2 d hd).1, Nat.succ_le_succ (depthAll_le fun d hd => (q2 d hd).2)⟩
      · cases e'
    | @ref k a h =>
      have e' : (match lstAt ⟨st.os, 0⟩ k with
        | some xs => match allSome (pd st.os n) xs with
          | some ds => some (PyData.list ds)
          | none => none
        | none => none) = some d := e
      split at e'
      · rename_i xs e0
        split at e'
        · rename_i ds e1
          cases e'
          obtain ⟨vs, q0, t⟩ := lstAt_sq r (show lstAt st k = some xs from e0) h
          obtain ⟨q1, q2⟩ := allSome_ok (fun v x d p q => pd_ok r n v x d p q) t e1
          exact ⟨.lst q0 q1, canAll fun d hd => (q2 d hd).1, Nat.succ_le_succ (depthAll_le fun d hd => (q2 d hd).2)⟩
        · cases e'
      · cases e'
theorem PdOk.shaped {x : V} {d : PyData} {n : Nat} (h : PdOk K H n x d) (hn : n ≤ 64) : SeqAt.shaped d = true := by
  unfold SeqAt.shaped
  rw [h.can, Bool.true_and]
  have := h.dep
  exact decide_eq_true (by omega)
end
/-- == -/
def eqI (st : Sto) (a b : IV) : Option Bool :=
  match a, b with
  | .int i, .int j => some (decide (i = j))
  | .str s, .str t => some (s == t)
  | a, b => match pd st.os 63 a with
    | some d => match pd st.os 63 b with
      | some e => some (PyData.eqv d e)
      | none => none
    | none => none
theorem str_beq (s t : List Nat) : ((⟨s.toArray⟩ : Str) == ⟨t.toArray⟩) = (s == t) := by
  rw [Bool.eq_iff_iff]
  simp
theorem eqI_pd {st : Sto} {a b : IV} {r : Bool} (h : eqI st a b = some r) : ∃ d e, pd st.os 63 a = some d ∧ pd st.os 63 b = some e ∧ PyData.eqv d e = r := by
  unfold eqI at h
  split at h
  · rename_i i j
    cases h
    exact ⟨_, _, rfl, rfl, by rw [PyData.eqv]; rfl⟩
  · rename_i s t
    cases h
    refine ⟨_, _, rfl, rfl, ?_⟩
    show ((⟨s.toArray⟩ : Str) == ⟨t.toArray⟩) = (s == t)
    exact str_beq s t
  · split at h
    · rename_i d e1
      split at h
      · rename_i e e2
        cases h
        exact ⟨d, e, e1, e2, rfl⟩
      · cases h
    · cases h
def blO (o : Option Bool) (st : Sto) : RO := match o with
  | some b => some (.bl b, st)
  | none => none
def blN (o : Option Bool) (st : Sto) : RO := match o with
  | some b => some (.bl (!b), st)
  | none => none
/-- x in a list or tuple: each item must be comparable -/
def anyEq (st : Sto) (x : IV) : List IV → Option Bool
  | [] => some false
  | y :: ys => match eqI st y x with
    | some b => match anyEq st x ys with
      | some c => some (b || c)
      | none => none
    | none => none
def inI (st : Sto) (x : IV) : IV → Option Bool
  | .str s => match x with
    | .str [c] => some (s.contains c)
    | _ => none
  | .tup xs => match pd st.os 63 x with
    | some _ => anyEq st x xs
    | none => none
  | .ref n => match lstAt st n with
    | some xs => match pd st.os 63 x with
      | some _ => anyEq st x xs
      | none => none
    | none => none
  | _ => none
def isNI : IV → IV → Option Bool
  | .non, .non => some true
  | _, .non => some false
  | _, _ => none
def ltI : IV → IV → Option Bool
  | .int i, .int j => some (decide (i < j))
  | _, _ => none
def leI : IV → IV → Option Bool
  | .int i, .int j => some (decide (i ≤ j))
  | _, _ => none
section
variable {X : Cx} {K : PySem.W.Frag} {H : Hp} {ρ : List Addr} {st : Sto} {Q : VK}
theorem blO_some {o : Option Bool} (h : PostO K ρ H Q (blO o st)) : ∃ b, o = some b ∧ PostO K ρ H Q (some (.bl b, st)) := by
  cases o with
  | some b => exact ⟨b, rfl, h⟩
  | none => exact h.elim
theorem blN_some {o : Option Bool} (h : PostO K ρ H Q (blN o st)) : ∃ b, o = some b ∧ PostO K ρ H Q (some (.bl (!b), st)) := by
  cases o with
  | some b => exact ⟨b, rfl, h⟩
  | none => exact h.elim
theorem op_eqI (hu : X.A.units + 64 < cLine) : OpR X (compareOp .Eq) (rB X.K fun a b st => blO (eqI st a b) st) := by
  rintro pins s σ H x y v u Q I rx ry ⟨ρ, st, va, vb, r, pa, pb, h⟩
  obtain ⟨b, e, h⟩ := blO_some h
  obtain ⟨d1, d2, e1, e2, e3⟩ := eqI_pd e
  have o1 := pd_ok r 63 _ _ _ pa e1
  have o2 := pd_ok r 63 _ _ _ pb e2
  exact op_eqD hu pins s σ H _ _ v u Q I rx ry ⟨d1, d2, o1.dp, o2.dp, o1.shaped (by decide), o2.shaped (by decide), by rw [e3]; exact h.here r (.bl _)⟩
theorem op_neI (hu : X.A.units + 64 < cLine) : OpR X (compareOp .NotEq) (rB X.K fun a b st => blN (eqI st a b) st) := by
  rintro pins s σ H x y v u Q I rx ry ⟨ρ, st, va, vb, r, pa, pb, h⟩
  obtain ⟨b, e, h⟩ := blN_some h
  obtain ⟨d1, d2, e1, e2, e3⟩ := eqI_pd e
  have o1 := pd_ok r 63 _ _ _ pa e1
  have o2 := pd_ok r 63 _ _ _ pb e2
  exact op_neD hu pins s σ H _ _ v u Q I rx ry ⟨d1, d2, o1.dp, o2.dp, o1.shaped (by decide), o2.shaped (by decide), by rw [e3]; exact h.here r (.bl _)⟩
theorem anyEq_pd {x : IV} {d : PyData} (hx : pd st.os 63 x = some d) : ∀ {xs : List IV} {b : Bool}, anyEq st x xs = some b → ∃ ds, allSome (pd st.os 63) xs = some ds ∧ (ds.any fun z => PyData.eqv z d) = b
  | [], b, h => by
    cases h
    exact ⟨[], rfl, rfl⟩
  | y :: ys, b, h => by
    unfold anyEq at h
    split at h
    · rename_i c1 e1
      split at h
      · rename_i c2 e2
        cases h
        obtain ⟨d1, d2, q1, q2, q3⟩ := eqI_pd e1
        rw [hx] at q2
        cases q2
        obtain ⟨ds, q4, q5⟩ := anyEq_pd hx e2
        refine ⟨d1 :: ds, ?_, ?_⟩
        · unfold allSome
          rw [q1]
          simp only []
          rw [q4]
        · rw [List.any_cons, q3, q5]
      · cases h
    · cases h
theorem in_seqI {x : V} {va : IV} {xs : List IV} {vs : List V} {a : Addr} {b : Bool} {d : PyData} {pins : List (Addr × Obj)} {s : Shared} {σ : L2.St} {v u : Value} (hu : X.A.units + 64 < cLine) (I : Inv X pins σ H s) (rx : RelV x v) (ry : RelV (.ref a) u) (r : Rel X.K H ρ st) (pa : RepV X.K H ρ va x)
    (hq : SqL X.K H a vs ∨ SqT X.K H a vs) (t : RepVs X.K H ρ xs vs) (hd : pd st.os 63 va = some d) (e : anyEq st va xs = some b) : ∃ (ds : List PyData), (SqL X.K H a vs → Dp X.K H (.ref a) (.list ds)) ∧ (SqT X.K H a vs → Dp X.K H (.ref a) (.tuple ds)) ∧
      SeqAt.shaped (.list ds) = true ∧ SeqAt.shaped (.tuple ds) = true ∧ Dp X.K H x d ∧ SeqAt.shaped d = true ∧ (ds.any fun z => PyData.eqv z d) = b := by
  obtain ⟨ds, q1, q2⟩ := anyEq_pd hd e
  have o := pd_ok r 63 _ _ _ pa hd
  obtain ⟨q3, q4⟩ := allSome_ok (fun v x d p q => pd_ok r 63 v x d p q) t q1
  have hc : PyData.canLayAll0 ds = true := canAll fun d hd => (q4 d hd).1
  have hdp : PyData.depthAll ds ≤ 63 := depthAll_le fun d hd => (q4 d hd).2
  refine ⟨ds, fun z => .lst z q3, fun z => .tup z q3, ?_, ?_, o.dp, o.shaped (by decide), q2⟩
  · unfold SeqAt.shaped
    rw [show PyData.canLay0 (.list ds) = true from hc, Bool.true_and]
    exact decide_eq_true (Nat.succ_le_succ hdp)
  · unfold SeqAt.shaped
    rw [show PyData.canLay0 (.tuple ds) = true from hc, Bool.true_and]
    exact decide_eq_true (Nat.succ_le_succ hdp)

theorem op_inI (hu : X.A.units + 65 < cLine) : OpR X (compareOp .In) (rB X.K fun a b st => blO (inI st a b) st) := by
  rintro pins s σ H x y v u Q I rx ry ⟨ρ, st, va, vb, r, pa, pb, h⟩
  obtain ⟨b, e, hp⟩ := blO_some h
  cases pb with
  | @str s2 h2 =>
    cases pa with
    | @str s1 h1 =>
      have e' : (match (IV.str s1) with
        | .str [c] => some (s2.contains c)
        | _ => none) = some b := e
      split at e'
      · rename_i c ec
        cases e'
        cases ec
        refine op_in_sign pins s σ H _ _ v u Q I rx ry ⟨c, _, rfl, rfl, ?_⟩
        have : decide (c ∈ (⟨s2.toArray⟩ : Str).cps.toList) = s2.contains c := by
          rw [Bool.eq_iff_iff]
          simp
        rw [this]
        exact hp.here r (.bl _)
      · cases e'
    | _ => cases e
  | @tup xs vs a ha t =>
    have e' : (match pd st.os 63 va with
      | some _ => anyEq st va xs
      | none => none) = some b := e
    split at e'
    · rename_i d hd
      obtain ⟨ds, q1, q2, q3, q4, q5, q6, q7⟩ := in_seqI (by omega) I rx ry r pa (.inr ha) t hd e'
      obtain ⟨as, r1⟩ := Dp.reads I _ _ _ q5 rx
      obtain ⟨bs, r2⟩ := Dp.reads I _ _ _ (q2 ha) ry
      exact SeqAt.in_tuple_reads r2 r1 (SeqAt.canLay_of_shaped q4) (SeqAt.canLay_of_shaped q6) (room_in_shaped q6 hu) ⟨.bl _, H, I, rfl, by rw [q7]; exact hp.here r (.bl _)⟩
    · cases e'
  | @ref n a ha =>
    have e' : (match lstAt st n with
      | some xs => match pd st.os 63 va with
        | some _ => anyEq st va xs
        | none => none
      | none => none) = some b := e
    split at e'
    · rename_i xs e0
      split at e'
      · rename_i d hd
        obtain ⟨vs, q0, t⟩ := lstAt_sq r e0 ha
        obtain ⟨ds, q1, q2, q3, q4, q5, q6, q7⟩ := in_seqI (by omega) I rx ry r pa (.inl q0) t hd e'
        obtain ⟨as, r1⟩ := Dp.reads I _ _ _ q5 rx
        obtain ⟨bs, r2⟩ := Dp.reads I _ _ _ (q1 q0) ry
        exact SeqAt.in_list_reads r2 r1 (SeqAt.canLay_of_shaped q3) (SeqAt.canLay_of_shaped q6) (room_in_shaped q6 hu) ⟨.bl _, H, I, rfl, by rw [q7]; exact hp.here r (.bl _)⟩
      · cases e'
    · cases e'
  | _ => cases e
theorem op_notInI (hu : X.A.units + 65 < cLine) : OpR X (compareOp .NotIn) (rB X.K fun a b st => blN (inI st a b) st) := by
  rintro pins s σ H x y v u Q I rx ry ⟨ρ, st, va, vb, r, pa, pb, h⟩
  obtain ⟨b, e, hp⟩ := blN_some h
  cases pb with
  | @str s2 h2 =>
    cases pa with
    | @str s1 h1 =>
      have e' : (match (IV.str s1) with
        | .str [c] => some (s2.contains c)
        | _ => none) = some b := e
      split at e'
      · rename_i c ec
        cases e'
        cases ec
        refine op_notIn_sign pins s σ H _ _ v u Q I rx ry ⟨c, _, rfl, rfl, ?_⟩
        have : decide (c ∈ (⟨s2.toArray⟩ : Str).cps.toList) = s2.contains c := by
          rw [Bool.eq_iff_iff]
          simp
        rw [this]
        exact hp.here r (.bl _)
      · cases e'
    | _ => cases e
  | @tup xs vs a ha t =>
    have e' : (match pd st.os 63 va with
      | some _ => anyEq st va xs
      | none => none) = some b := e
    split at e'
    · rename_i d hd
      obtain ⟨ds, q1, q2, q3, q4, q5, q6, q7⟩ := in_seqI (by omega) I rx ry r pa (.inr ha) t hd e'
      obtain ⟨as, r1⟩ := Dp.reads I _ _ _ q5 rx
      obtain ⟨bs, r2⟩ := Dp.reads I _ _ _ (q2 ha) ry
      exact SeqAt.notIn_tuple_reads r2 r1 (SeqAt.canLay_of_shaped q4) (SeqAt.canLay_of_shaped q6) (room_in_shaped q6 hu) ⟨.bl _, H, I, rfl, by rw [q7]; exact hp.here r (.bl _)⟩
    · cases e'
  | @ref n a ha =>
    have e' : (match lstAt st n with
      | some xs => match pd st.os 63 va with
        | some _ => anyEq st va xs
        | none => none
      | none => none) = some b := e
    split at e'
    · rename_i xs e0
      split at e'
      · rename_i d hd
        obtain ⟨vs, q0, t⟩ := lstAt_sq r e0 ha
        obtain ⟨ds, q1, q2, q3, q4, q5, q6, q7⟩ := in_seqI (by omega) I rx ry r pa (.inl q0) t hd e'
        obtain ⟨as, r1⟩ := Dp.reads I _ _ _ q5 rx
        obtain ⟨bs, r2⟩ := Dp.reads I _ _ _ (q1 q0) ry
        exact SeqAt.notIn_list_reads r2 r1 (SeqAt.canLay_of_shaped q3) (SeqAt.canLay_of_shaped q6) (room_in_shaped q6 hu) ⟨.bl _, H, I, rfl, by rw [q7]; exact hp.here r (.bl _)⟩
      · cases e'
    · cases e'
  | _ => cases e
theorem isN_some {a b : IV} {k : Bool} {x y : V} (pa : RepV K H ρ a x) (pb : RepV K H ρ b y) (e : isNI a b = some k) : y = .non ∧ decide (x = .non) = k := by
  cases pb with
  | non =>
    cases pa with
    | non => cases e; exact ⟨rfl, rfl⟩
    | _ => cases e; exact ⟨rfl, rfl⟩
  | _ => cases pa <;> cases e
theorem op_isI : OpR X (compareOp .Is) (rB X.K fun a b st => blO (isNI a b) st) := by
  rintro pins s σ H x y v u Q I rx ry ⟨ρ, st, va, vb, r, pa, pb, h⟩
  obtain ⟨b, e, h⟩ := blO_some h
  obtain ⟨e1, e2⟩ := isN_some pa pb e
  exact op_isN pins s σ H _ _ v u Q I rx ry ⟨e1, by rw [e2]; exact h.here r (.bl _)⟩
theorem op_isnotI : OpR X (compareOp .IsNot) (rB X.K fun a b st => blN (isNI a b) st) := by
  rintro pins s σ H x y v u Q I rx ry ⟨ρ, st, va, vb, r, pa, pb, h⟩
  obtain ⟨b, e, h⟩ := blN_some h
  obtain ⟨e1, e2⟩ := isN_some pa pb e
  exact op_notN pins s σ H _ _ v u Q I rx ry ⟨e1, by rw [e2]; exact h.here r (.bl _)⟩
theorem op_ltI : OpR X (compareOp .Lt) (rB X.K fun a b st => blO (ltI a b) st) := by
  rintro pins s σ H x y v u Q I rx ry ⟨ρ, st, va, vb, r, pa, pb, h⟩
  obtain ⟨b, e, h⟩ := blO_some h
  cases pa with
  | int i =>
    cases pb with
    | int j => cases e; exact op_lt pins s σ H _ _ v u Q I rx ry ⟨i, j, rfl, rfl, h.here r (.bl _)⟩
    | _ => cases e
  | _ => cases e
theorem op_leI : OpR X (compareOp .LtE) (rB X.K fun a b st => blO (leI a b) st) := by
  rintro pins s σ H x y v u Q I rx ry ⟨ρ, st, va, vb, r, pa, pb, h⟩
  obtain ⟨b, e, h⟩ := blO_some h
  cases pa with
  | int i =>
    cases pb with
    | int j => cases e; exact op_le pins s σ H _ _ v u Q I rx ry ⟨i, j, rfl, rfl, h.here r (.bl _)⟩
    | _ => cases e
  | _ => cases e
theorem op_gtI : OpR X (compareOp .Gt) (rB X.K fun a b st => blO (ltI b a) st) := by
  rintro pins s σ H x y v u Q I rx ry ⟨ρ, st, va, vb, r, pa, pb, h⟩
  obtain ⟨b, e, h⟩ := blO_some h
  cases pa with
  | int i =>
    cases pb with
    | int j => cases e; exact op_gt pins s σ H _ _ v u Q I rx ry ⟨i, j, rfl, rfl, h.here r (.bl _)⟩
    | _ => cases e
  | _ => cases pb <;> cases e
theorem op_geI : OpR X (compareOp .GtE) (rB X.K fun a b st => blO (leI b a) st) := by
  rintro pins s σ H x y v u Q I rx ry ⟨ρ, st, va, vb, r, pa, pb, h⟩
  obtain ⟨b, e, h⟩ := blO_some h
  cases pa with
  | int i =>
    cases pb with
    | int j => cases e; exact op_ge pins s σ H _ _ v u Q I rx ry ⟨i, j, rfl, rfl, h.here r (.bl _)⟩
    | _ => cases e
  | _ => cases pb <;> cases e
end
end PI

set_option Elab.async false
set_option linter.all false
set_option maxRecDepth 100000
/-! PI4: places, slices, builtins by values, methods. -/
namespace PI
open PySem PySem.Spec PyProof.Rows L2

section
variable {K : PySem.W.Frag} {H : Hp} {ρ : List Addr} {st : Sto} {Q : VK}
theorem RepVs.atI : ∀ {xs : List IV} {vs : List V} {i : Int} {x : IV}, RepVs K H ρ xs vs → L2.atI xs i = some x → ∃ v, L2.atI vs i = some v ∧ RepV K H ρ x v := by
  intro xs vs i x t e
  unfold L2.atI at e ⊢
  rw [← t.length]
  cases q : ixN xs.length i with
  | none => rw [q] at e; cases e
  | some j =>
    rw [q] at e
    exact t.get e
end
def idxI : IV → IV → Sto → RO
  | .tup xs, .int i, st => match L2.atI xs i with
    | some v => some (v, st)
    | none => none
  | .ref n, .int i, st => match lstAt st n with
    | some xs => match L2.atI xs i with
      | some v => some (v, st)
      | none => none
    | none => none
  | .str s, .int i, st => bif Nat.ble s.length lineI then (match L2.atI s i with
    | some c => some (.str [c], st)
    | none => none) else none
  | _, _, _ => none
theorem ix_I {X : Cx} : IxR X (rB X.K idxI) := by
  rintro value slice pins s σ H x y v u Q I rx ry ⟨ρ, st, va, vb, r, pa, pb, h⟩ hs
  cases pb with
  | int i =>
    cases pa with
    | @tup xs vs a ha t =>
      have h' : PostO X.K ρ H Q (match L2.atI xs i with
        | some v => some (v, st)
        | none => none) := h
      split at h'
      · rename_i w e
        obtain ⟨z, e1, p⟩ := t.atI e
        exact ix_tup value slice pins s σ H _ _ v u Q I rx ry ⟨a, vs, i, z, rfl, rfl, ha, e1, h'.here r p⟩ hs
      · exact h'.elim
    | @ref n a ha =>
      have h' : PostO X.K ρ H Q (match lstAt st n with
        | some xs => match L2.atI xs i with
          | some v => some (v, st)
          | none => none
        | none => none) := h
      split at h'
      · rename_i xs e0
        split at h'
        · rename_i w e
          obtain ⟨vs, q, t⟩ := lstAt_sq r e0 ha
          obtain ⟨z, e1, p⟩ := t.atI e
          exact ix_list value slice pins s σ H _ _ v u Q I rx ry ⟨a, vs, i, z, rfl, rfl, q, e1, h'.here r p⟩ hs
        · exact h'.elim
      · exact h'.elim
    | @str s1 h1 =>
      obtain ⟨e0, h'⟩ := bif_some (P := PostO X.K ρ H Q) h post_none
      split at h'
      · rename_i c e
        refine ix_str value slice pins s σ H _ _ v u Q I rx ry ⟨_, i, c, rfl, rfl, line_ok (by rw [cps_len]; exact Nat.le_of_ble_eq_true e0), ?_, h'.here r ?_⟩ hs
        · simpa using e
        · obtain ⟨j, _, hj, _⟩ := atI_get e
          have hm : c ∈ s1 := List.mem_of_getElem? hj
          have hc := List.all_eq_true.mp h1 c hm
          exact RepV.str (s := [c]) (by rw [List.all_cons, hc]; rfl)
      · exact h'.elim
    | _ => exact (post_none h).elim
  | _ => exfalso; cases pa <;> exact post_none h

/-! ### slices -/
def cutI {α : Type} (xs : List α) (lo hi : Option Int) : List α := (xs.drop (HT.sIx xs.length 0 lo)).take (HT.sIx xs.length xs.length hi - HT.sIx xs.length 0 lo)
def slcI (v : IV) (lo hi : Option Int) (st : Sto) : RO :=
  match v with
  | .tup xs => some (.tup (cutI xs lo hi), st)
  | .ref n => match lstAt st n with
    | some xs => st.allocO (.lst (cutI xs lo hi))
    | none => none
  | _ => none
def rS (K : PySem.W.Frag) : V → Option Int → Option Int → Hp → VK → Prop := fun x lo hi H Q => ∃ ρ st va, Rel K H ρ st ∧ RepV K H ρ va x ∧ PostO K ρ H Q (slcI va lo hi st)
theorem RepVs.cut {K : PySem.W.Frag} {H : Hp} {ρ : List Addr} {xs : List IV} {vs : List V} (t : RepVs K H ρ xs vs) (lo hi : Option Int) : RepVs K H ρ (cutI xs lo hi) (cutV vs lo hi) := by
  unfold cutI cutV
  rw [t.length]
  exact (t.drop _).take _
theorem cut_whole {α : Type} {xs : List α} {lo hi : Option Int} (h : HT.sIx xs.length 0 lo = 0 ∧ HT.sIx xs.length xs.length hi = xs.length) : cutI xs lo hi = xs := by
  unfold cutI
  rw [h.1, h.2]
  simp
theorem sl_I {X : Cx} : SlR X (rS X.K) := by
  rintro pins s σ H x v vl vu lo hi sl Q I rx hs pl pu ⟨ρ, st, va, r, pa, h⟩
  cases pa with
  | @tup xs vs a ha t =>
    have h' : PostO X.K ρ H Q (some (.tup (cutI xs lo hi), st)) := h
    refine sl_tupA pins s σ H _ v vl vu lo hi sl Q I rx hs pl pu ⟨a, vs, rfl, ha, fun z => ?_, fun z => h'.newTup r (t.cut lo hi)⟩
    rw [← t.length] at z
    rw [cut_whole z] at h'
    exact h'.here r (.tup ha t)
  | @ref n a ha =>
    have h' : PostO X.K ρ H Q (match lstAt st n with
      | some xs => st.allocO (.lst (cutI xs lo hi))
      | none => none) := h
    split at h'
    · rename_i xs e0
      obtain ⟨vs, q, t⟩ := lstAt_sq r e0 ha
      exact sl_list pins s σ H _ v vl vu lo hi sl Q I rx hs pl pu ⟨a, vs, rfl, q, h'.newLst r (t.cut lo hi)⟩
    · exact h'.elim
  | _ => exact (post_none h).elim

/-! ### truth -/
def truI (st : Sto) : IV → Option Bool
  | .non => some false
  | .bl b => some b
  | .int i => some (i != 0)
  | .str s => bif Nat.ble s.length lineI then some (!s.isEmpty) else none
  | .tup xs => some (!xs.isEmpty)
  | .ref n => match lstAt st n with
    | some xs => some (!xs.isEmpty)
    | none => none
theorem isEmpty_len {α β : Type} {xs : List α} {ys : List β} (h : xs.length = ys.length) : xs.isEmpty = ys.isEmpty := by
  cases xs <;> cases ys <;> simp_all
theorem truI_ok {K : PySem.W.Frag} {H : Hp} {ρ : List Addr} {st : Sto} {v : IV} {x : V} {k : Bool} (r : Rel K H ρ st) (p : RepV K H ρ v x) (e : truI st v = some k) : TruV K x H k := by
  cases p with
  | non => cases e; exact rfl
  | bl b => cases e; exact rfl
  | int i => cases e; exact rfl
  | @str s h =>
    have e' : (bif Nat.ble s.length lineI then some (!s.isEmpty) else none) = some k := e
    cases hb : Nat.ble s.length lineI with
    | false => rw [hb] at e'; cases e'
    | true =>
      rw [hb] at e'
      cases e'
      refine ⟨line_ok (by rw [cps_len]; exact Nat.le_of_ble_eq_true hb), ?_⟩
      rw [cps_len]
      cases s with
      | nil => rfl
      | cons c r =>
        rw [List.length_cons]
        have : (((r.length + 1 : Nat) : Int) != 0) = true := by simp; omega
        rw [this]; rfl
  | @tup xs vs a ha t => cases e; exact .inr (.inl ⟨vs, ha, by rw [isEmpty_len t.length]⟩)
  | @ref n a ha =>
    have e' : (match lstAt st n with
      | some xs => some (!xs.isEmpty)
      | none => none) = some k := e
    split at e'
    · rename_i xs e0
      obtain ⟨vs, q, t⟩ := lstAt_sq r e0 ha
      cases e'
      exact .inl ⟨vs, q, by rw [isEmpty_len t.length]⟩
    · cases e'

/-! ### builtins -/
def lenI : List IV → Sto → RO
  | [.str s], st => bif Nat.ble s.length lineI then some (.int s.length, st) else none
  | [v], st => match seqOf st v with
    | some xs => some (.int xs.length, st)
    | none => none
  | _, _ => none
def absI : List IV → Sto → RO
  | [.int i], st => some (.int (if i < 0 then -i else i), st)
  | _, _ => none
def intI : List IV → Sto → RO
  | [.int i], st => some (.int i, st)
  | [.bl b], st => some (.int (if b then 1 else 0), st)
  | _, _ => none
def tupleI : List IV → Sto → RO
  | [.tup xs], st => some (.tup xs, st)
  | [.ref n], st => match lstAt st n with
    | some xs => some (.tup xs, st)
    | none => none
  | _, _ => none
def listI : List IV → Sto → RO
  | [v], st => match seqOf st v with
    | some xs => st.allocO (.lst xs)
    | none => none
  | _, _ => none
def bools : List IV → Option (List Bool)
  | [] => some []
  | .bl b :: r => match bools r with
    | some bs => some (b :: bs)
    | none => none
  | _ :: _ => none
def intsOf : List IV → Option (List Int)
  | [] => some []
  | .int b :: r => match intsOf r with
    | some bs => some (b :: bs)
    | none => none
  | _ :: _ => none
def allI : List IV → Sto → RO
  | [.ref n], st => match lstAt st n with
    | some xs => match bools xs with
      | some bs => some (.bl (bs.all id), st)
      | none => none
    | none => none
  | _, _ => none
def anyI : List IV → Sto → RO
  | [.ref n], st => match lstAt st n with
    | some xs => match bools xs with
      | some bs => some (.bl (bs.any id), st)
      | none => none
    | none => none
  | _, _ => none
def sumI : List IV → Sto → RO
  | [.ref n], st => match lstAt st n with
    | some xs => match intsOf xs with
      | some ns => some (.int ns.sum, st)
      | none => none
    | none => none
  | _, _ => none
def maxL : Int → List Int → Int
  | m, [] => m
  | m, x :: r => maxL (if m < x then x else m) r
def minL : Int → List Int → Int
  | m, [] => m
  | m, x :: r => minL (if x < m then x else m) r
def maxI : List IV → Sto → RO
  | [.ref n], st => match lstAt st n with
    | some xs => match intsOf xs with
      | some (m :: ns) => some (.int (maxL m ns), st)
      | _ => none
    | none => none
  | _, _ => none
def minI : List IV → Sto → RO
  | [.ref n], st => match lstAt st n with
    | some xs => match intsOf xs with
      | some (m :: ns) => some (.int (minL m ns), st)
      | _ => none
    | none => none
  | _, _ => none
section
variable {K : PySem.W.Frag} {H : Hp} {ρ : List Addr} {st : Sto} {Q : VK}
theorem bools_ok : ∀ {xs : List IV} {vs : List V} {bs : List Bool}, RepVs K H ρ xs vs → bools xs = some bs → vs = bs.map V.bl
  | _, _, _, .nil, e => by cases e; rfl
  | _, _, _, .cons (x := x) (xs := xs) h t, e => by
    cases h with
    | bl b =>
      have e' : (match bools xs with
        | some bs => some (b :: bs)
        | none => none) = some _ := e
      split at e'
      · rename_i cs e1
        cases e'
        rw [bools_ok t e1]
        rfl
      · cases e'
    | _ => cases e
theorem ints_ok : ∀ {xs : List IV} {vs : List V} {bs : List Int}, RepVs K H ρ xs vs → intsOf xs = some bs → vs = bs.map V.int
  | _, _, _, .nil, e => by cases e; rfl
  | _, _, _, .cons (x := x) (xs := xs) h t, e => by
    cases h with
    | int b =>
      have e' : (match intsOf xs with
        | some bs => some (b :: bs)
        | none => none) = some _ := e
      split at e'
      · rename_i cs e1
        cases e'
        rw [ints_ok t e1]
        rfl
      · cases e'
    | _ => cases e
theorem maxL_mem : ∀ (m : Int) (ns : List Int), maxL m ns ∈ m :: ns ∧ ∀ y ∈ m :: ns, y ≤ maxL m ns
  | m, [] => ⟨by simp [maxL], fun y hy => by have : y = m := by simpa using hy
                                             rw [this]; exact Int.le_refl _⟩
  | m, x :: r => by
    obtain ⟨h1, h2⟩ := maxL_mem (if m < x then x else m) r
    have e : maxL m (x :: r) = maxL (if m < x then x else m) r := rfl
    rw [e]
    refine ⟨?_, fun y hy => ?_⟩
    · rcases List.mem_cons.mp h1 with q | q
      · rw [q]
        split
        · exact List.mem_cons_of_mem _ List.mem_cons_self
        · exact List.mem_cons_self
      · exact List.mem_cons_of_mem _ (List.mem_cons_of_mem _ q)
    · have hm := h2 _ List.mem_cons_self
      rcases List.mem_cons.mp hy with q | q
      · rw [q]; by_cases h : m < x
        · simp only [if_pos h] at hm ⊢; omega
        · simp only [if_neg h] at hm ⊢; omega
      · rcases List.mem_cons.mp q with q | q
        · rw [q]; by_cases h : m < x
          · simp only [if_pos h] at hm ⊢; omega
          · simp only [if_neg h] at hm ⊢; omega
        · exact h2 y (List.mem_cons_of_mem _ q)
theorem minL_mem : ∀ (m : Int) (ns : List Int), minL m ns ∈ m :: ns ∧ ∀ y ∈ m :: ns, minL m ns ≤ y
  | m, [] => ⟨by simp [minL], fun y hy => by have : y = m := by simpa using hy
                                             rw [this]; exact Int.le_refl _⟩
  | m, x :: r => by
    obtain ⟨h1, h2⟩ := minL_mem (if x < m then x else m) r
    have e : minL m (x :: r) = minL (if x < m then x else m) r := rfl
    rw [e]
    refine ⟨?_, fun y hy => ?_⟩
    · rcases List.mem_cons.mp h1 with q | q
      · rw [q]
        split
        · exact List.mem_cons_of_mem _ List.mem_cons_self
        · exact List.mem_cons_self
      · exact List.mem_cons_of_mem _ (List.mem_cons_of_mem _ q)
    · have hm := h2 _ List.mem_cons_self
      rcases List.mem_cons.mp hy with q | q
      · rw [q]; by_cases h : x < m
        · simp only [if_pos h] at hm ⊢; omega
        · simp only [if_neg h] at hm ⊢; omega
      · rcases List.mem_cons.mp q with q | q
        · rw [q]; by_cases h : x < m
          · simp only [if_pos h] at hm ⊢; omega
          · simp only [if_neg h] at hm ⊢; omega
        · exact h2 y (List.mem_cons_of_mem _ q)
/-- the argument is one list of the store that may be read -/
theorem one_lst {xs : List IV} {vs : List V} {n : Nat} {ys : List IV} (r : Rel K H ρ st) (t : RepVs K H ρ [.ref n] vs) (e : lstAt st n = some ys) : ∃ a ws, vs = [.ref a] ∧ SqL K H a ws ∧ RepVs K H ρ ys ws := by
  obtain ⟨v, rfl, p⟩ := t.one
  cases p with
  | ref h =>
    obtain ⟨ws, q, t⟩ := lstAt_sq r e h
    exact ⟨_, ws, rfl, q, t⟩
end
section
variable {X : Cx}
theorem call_lenI : CallR X (.builtin "len") (rCl X.K lenI) := by
  rintro pins s σ H vs us Q I rv ⟨ρ, st, xs, r, t, h⟩
  unfold lenI at h
  split at h
  · rename_i st s1
    obtain ⟨v, rfl, p⟩ := t.one
    cases p with
    | str hs =>
      obtain ⟨e, h⟩ := bif_some (P := PostO X.K ρ H Q) h post_none
      refine call_len_str pins s σ H _ us Q I rv ⟨_, rfl, line_ok (by rw [cps_len]; exact Nat.le_of_ble_eq_true e), ?_⟩
      rw [cps_len]
      exact h.here r (.int _)
  · rename_i st v hv
    split at h
    · rename_i ys e
      obtain ⟨x, rfl, p⟩ := t.one
      obtain ⟨a, ws, rfl, q, t'⟩ := seqOf_sq r p e
      exact call_len_seq pins s σ H _ us Q I rv ⟨a, ws, rfl, q, by rw [← t'.length]; exact h.here r (.int _)⟩
    · exact h.elim
  · exact h.elim
theorem call_absI : CallR X (.builtin "abs") (rCl X.K absI) := by
  rintro pins s σ H vs us Q I rv ⟨ρ, st, xs, r, t, h⟩
  unfold absI at h
  split at h
  · obtain ⟨v, rfl, p⟩ := t.one
    cases p
    exact call_abs pins s σ H _ us Q I rv ⟨_, rfl, h.here r (.int _)⟩
  · exact h.elim
theorem call_intI : CallR X (.type "int") (rCl X.K intI) := by
  rintro pins s σ H vs us Q I rv ⟨ρ, st, xs, r, t, h⟩
  unfold intI at h
  split at h
  · obtain ⟨v, rfl, p⟩ := t.one
    cases p
    exact call_int1 pins s σ H _ us Q I rv (.inl ⟨_, rfl, h.here r (.int _)⟩)
  · obtain ⟨v, rfl, p⟩ := t.one
    cases p
    exact call_int1 pins s σ H _ us Q I rv (.inr ⟨_, rfl, h.here r (.int _)⟩)
  · exact h.elim
theorem call_tupleI : CallR X (.type "tuple") (rCl X.K tupleI) := by
  rintro pins s σ H vs us Q I rv ⟨ρ, st, xs, r, t, h⟩
  unfold tupleI at h
  split at h
  · obtain ⟨v, rfl, p⟩ := t.one
    cases p with
    | tup ha t' => exact call_tuple_of pins s σ H _ us Q I rv ⟨_, _, rfl, .inr ⟨ha, h.here r (.tup ha t')⟩⟩
  · split at h
    · rename_i ys e
      obtain ⟨a, ws, rfl, q, t'⟩ := one_lst (xs := []) r t e
      exact call_tuple_of pins s σ H _ us Q I rv ⟨a, ws, rfl, .inl ⟨q, h.newTup r t'⟩⟩
    · exact h.elim
  · exact h.elim
theorem call_listI : CallR X (.type "list") (rCl X.K listI) := by
  rintro pins s σ H vs us Q I rv ⟨ρ, st, xs, r, t, h⟩
  unfold listI at h
  split at h
  · split at h
    · rename_i ys e
      obtain ⟨x, rfl, p⟩ := t.one
      obtain ⟨a, ws, rfl, q, t'⟩ := seqOf_sq r p e
      exact call_list_of pins s σ H _ us Q I rv ⟨a, ws, rfl, q, h.newLst r t'⟩
    · exact h.elim
  · exact h.elim
theorem call_allI (hc : X.calm = true) : CallR X (.builtin "all") (rCl X.K allI) := by
  rintro pins s σ H vs us Q I rv ⟨ρ, st, xs, r, t, h⟩
  unfold allI at h
  split at h
  · split at h
    · rename_i ys e
      obtain ⟨a, ws, rfl, q, t'⟩ := one_lst (xs := []) r t e
      split at h
      · rename_i bs e2
        rw [bools_ok t' e2] at q
        exact cr_all hc pins s σ H _ us Q I rv ⟨a, bs, rfl, q, h.here r (.bl _)⟩
      · exact h.elim
    · exact h.elim
  · exact h.elim
theorem call_anyI (hc : X.calm = true) : CallR X (.builtin "any") (rCl X.K anyI) := by
  rintro pins s σ H vs us Q I rv ⟨ρ, st, xs, r, t, h⟩
  unfold anyI at h
  split at h
  · split at h
    · rename_i ys e
      obtain ⟨a, ws, rfl, q, t'⟩ := one_lst (xs := []) r t e
      split at h
      · rename_i bs e2
        rw [bools_ok t' e2] at q
        exact cr_any hc pins s σ H _ us Q I rv ⟨a, bs, rfl, q, h.here r (.bl _)⟩
      · exact h.elim
    · exact h.elim
  · exact h.elim
theorem call_sumI (hc : X.calm = true) : CallR X (.builtin "sum") (rCl X.K sumI) := by
  rintro pins s σ H vs us Q I rv ⟨ρ, st, xs, r, t, h⟩
  unfold sumI at h
  split at h
  · split at h
    · rename_i ys e
      obtain ⟨a, ws, rfl, q, t'⟩ := one_lst (xs := []) r t e
      split at h
      · rename_i bs e2
        rw [ints_ok t' e2] at q
        exact cr_sum hc pins s σ H _ us Q I rv ⟨a, bs, rfl, q, h.here r (.int _)⟩
      · exact h.elim
    · exact h.elim
  · exact h.elim
theorem call_maxI (hc : X.calm = true) : CallR X (.builtin "max") (rCl X.K maxI) := by
  rintro pins s σ H vs us Q I rv ⟨ρ, st, xs, r, t, h⟩
  unfold maxI at h
  split at h
  · split at h
    · rename_i ys e
      obtain ⟨a, ws, rfl, q, t'⟩ := one_lst (xs := []) r t e
      split at h
      · rename_i m ns e2
        rw [ints_ok t' e2] at q
        obtain ⟨h1, h2⟩ := maxL_mem m ns
        refine cr_max hc pins s σ H _ us Q I rv ⟨a, m :: ns, rfl, q, by simp, fun z hz hle => ?_⟩
        have : z = maxL m ns := by
          have a1 := hle _ h1
          have a2 := h2 _ hz
          omega
        rw [this]
        exact h.here r (.int _)
      · exact h.elim
    · exact h.elim
  · exact h.elim
theorem call_minI (hc : X.calm = true) : CallR X (.builtin "min") (rCl X.K minI) := by
  rintro pins s σ H vs us Q I rv ⟨ρ, st, xs, r, t, h⟩
  unfold minI at h
  split at h
  · split at h
    · rename_i ys e
      obtain ⟨a, ws, rfl, q, t'⟩ := one_lst (xs := []) r t e
      split at h
      · rename_i m ns e2
        rw [ints_ok t' e2] at q
        obtain ⟨h1, h2⟩ := minL_mem m ns
        refine cr_min hc pins s σ H _ us Q I rv ⟨a, m :: ns, rfl, q, by simp, fun z hz hle => ?_⟩
        have : z = minL m ns := by
          have a1 := hle _ h1
          have a2 := h2 _ hz
          omega
        rw [this]
        exact h.here r (.int _)
      · exact h.elim
    · exact h.elim
  · exact h.elim
end
end PI

set_option Elab.async false
set_option linter.all false
set_option maxRecDepth 100000
/-! PI5: readings by the interpreter's answers; expressions. -/
namespace PI
open PySem PySem.Spec PyProof.Rows L2
open LamX (Tabs TabS CodeO ExtN)

/-! ### the heap goes on, tables may grow -/
structure ExtX (ρ : List Addr) (H : Hp) (ρ' : List Addr) (H' : Hp) : Prop where
  pre : ρ <+: ρ'
  keep : ∀ (a : Addr) (o : HO), H a = some o → a ∉ ρ → (∀ ps, o ≠ .tbl ps) → H' a = some o
  new : ∀ a ∈ ρ', a ∈ ρ ∨ H a = none ∨ ∃ ps, H a = some (.tbl ps)
theorem Ext.x {ρ ρ' : List Addr} {H H' : Hp} (e : Ext ρ H ρ' H') : ExtX ρ H ρ' H' := ⟨e.pre, fun a o h n _ => e.keep a o h n, fun a h => (e.new a h).imp id .inl⟩
theorem ExtX.refl (ρ : List Addr) (H : Hp) : ExtX ρ H ρ H := (Ext.refl ρ H).x
theorem ExtX.trans {ρ ρ1 ρ2 : List Addr} {H H1 H2 : Hp} (a : ExtX ρ H ρ1 H1) (b : ExtX ρ1 H1 ρ2 H2) : ExtX ρ H ρ2 H2 where
  pre := a.pre.trans b.pre
  keep := fun c o h n ht => b.keep c o (a.keep c o h n ht) (fun z => by
    rcases a.new c z with z | z | ⟨ps, z⟩
    · exact n z
    · rw [h] at z; cases z
    · rw [h] at z; cases z; exact ht ps rfl) ht
  new := fun c h => by
    by_cases hc : c ∈ ρ
    · exact .inl hc
    right
    cases q : H c with
    | none => exact .inl rfl
    | some o =>
      by_cases ht : ∃ ps, o = .tbl ps
      · obtain ⟨ps, rfl⟩ := ht
        exact .inr ⟨ps, rfl⟩
      · have ht' : ∀ ps, o ≠ .tbl ps := fun ps z => ht ⟨ps, z⟩
        have k := a.keep c o q hc ht'
        rcases b.new c h with h | h | ⟨ps, h⟩
        · rcases a.new c h with z | z | ⟨ps, z⟩
          · exact absurd z hc
          · rw [q] at z; cases z
          · rw [q] at z; cases z; exact absurd rfl (ht' ps)
        · rw [k] at h; cases h
        · rw [k] at h; cases h; exact absurd rfl (ht' ps)
section
variable {K : PySem.W.Frag} {H H' : Hp} {ρ ρ' : List Addr} {st : Sto}
theorem sqT_X (r : Rel K H ρ st) (e : ExtX ρ H ρ' H') {a : Addr} {vs : List V} (h : SqT K H a vs) : SqT K H' a vs := by
  rcases h with h | h
  · have hn : a ∉ ρ := fun z => by
      obtain ⟨_, _, _, _, q⟩ := r.at' z
      exact q.ne_tup vs h
    left
    rcases h with h | ⟨ob, h⟩
    · exact .inl (e.keep a _ h hn fun ps z => nomatch z)
    · exact .inr ⟨ob, e.keep a _ h hn fun ps z => nomatch z⟩
  · exact .inr h
mutual
theorem RepV.monoX (r : Rel K H ρ st) (e : ExtX ρ H ρ' H') : ∀ {v : IV} {x : V}, RepV K H ρ v x → RepV K H' ρ' v x
  | _, _, .non => .non
  | _, _, .bl b => .bl b
  | _, _, .int i => .int i
  | _, _, .str h => .str h
  | _, _, .tup h t => .tup (sqT_X r e h) (RepVs.monoX r e t)
  | _, _, .ref h => .ref (pre_get e.pre h)
theorem RepVs.monoX (r : Rel K H ρ st) (e : ExtX ρ H ρ' H') : ∀ {v : List IV} {x : List V}, RepVs K H ρ v x → RepVs K H' ρ' v x
  | _, _, .nil => .nil
  | _, _, .cons h t => .cons (RepV.monoX r e h) (RepVs.monoX r e t)
end
theorem RelEnv.monoX (r : Rel K H ρ st) (e : ExtX ρ H ρ' H') {env : IEnv} {σ : L2.St} (h : RelEnv K H ρ env σ) : RelEnv K H' ρ' env σ :=
  ⟨h.len, fun i v q => let ⟨x, a, b⟩ := h.get i v q; ⟨x, a, b.monoX r e⟩⟩
end

/-! ### the parameters of a reading: the tables of lambdas' code, what else is known of the heap -/
structure Par (K : PySem.W.Frag) where
  T : List (Addr × Str)
  cm : Nat → Addr
  sd : List Addr → Hp → Prop
  mono : ∀ {ρ : List Addr} {H : Hp} {ρ' : List Addr} {H' : Hp} {st : Sto}, Rel K H ρ st → ExtX ρ H ρ' H' → sd ρ H → sd ρ' H'
structure RelX {K : PySem.W.Frag} (P : Par K) (H : Hp) (ρ : List Addr) (st : Sto) : Prop where
  r : Rel K H ρ st
  tabs : Tabs P.T H
  sd : P.sd ρ H
theorem Tabs.ext' {K : PySem.W.Frag} {T : List (Addr × Str)} {H H' : Hp} {ρ ρ' : List Addr} {st : Sto} (t : Tabs T H) (r : Rel K H ρ st) (e : Ext ρ H ρ' H') : Tabs T H' := by
  have nf : ∀ (a : Addr) (o : HO), H a = some o → (∀ xs, o ≠ .lst xs) → (∀ ob xs, o ≠ .frz ob (.lst xs)) → a ∉ ρ := fun a o h h1 h2 z => by
    obtain ⟨_, ob, _, _, q⟩ := r.at' z
    cases ob with
    | lst xs => obtain ⟨vs, e, _⟩ := q; rw [h] at e; cases e; exact h1 _ rfl
    | frl xs =>
      obtain ⟨vs, e | ⟨ob, e⟩, _⟩ := q
      · rw [h] at e; cases e; exact h1 _ rfl
      · rw [h] at e; cases e; exact h2 _ _ rfl
  intro p hp
  obtain ⟨ps, h1, h2, h3⟩ := t p hp
  refine ⟨ps, e.keep _ _ h1 (nf _ _ h1 (fun _ z => nomatch z) fun _ _ z => nomatch z), h2, fun pos cv hc => ?_⟩
  obtain ⟨c, e1, e2⟩ := h3 pos cv hc
  refine ⟨c, e1, e.keep _ _ e2 (nf _ _ e2 (fun _ z => ?_) fun _ _ z => ?_)⟩
  · unfold CodeO at z; cases z
  · unfold CodeO at z; cases z
theorem RelX.ext {K : PySem.W.Frag} {P : Par K} {H H' : Hp} {ρ ρ' : List Addr} {st st' : Sto} (h : RelX P H ρ st) (e : Ext ρ H ρ' H') (r : Rel K H' ρ' st') : RelX P H' ρ' st' := ⟨r, Tabs.ext' h.tabs h.r e, P.mono h.r e.x h.sd⟩

/-! ### readings -/
section
variable {α β γ δ : Type}
/-- what an exception is: its class, its own dict -/
abbrev RepX := IX → Value → Option Addr → List Addr → Hp → Prop
/-- attributes by name -/
inductive RepF (K : PySem.W.Frag) (H : Hp) (ρ : List Addr) : List (Str × IV) → List (Str × V) → Prop
  | nil : RepF K H ρ [] []
  | cons {n : Str} {x : IV} {v : V} {fs : List (Str × IV)} {vs : List (Str × V)} (h : RepV K H ρ x v) (t : RepF K H ρ fs vs) : RepF K H ρ ((n, x) :: fs) ((n, v) :: vs)
def RXc {K : PySem.W.Frag} (P : Par K) : RepX := fun x c d ρ H => c = .ref (P.cm x.cls) ∧ ∃ (dd : Addr) (vs : List (Str × V)), d = some dd ∧ H dd = some (.xd vs) ∧ RepF K H ρ x.fs vs
variable {K : PySem.W.Frag}
def Post (P : Par K) (W : WX) (Rp : Hp → List Addr → α → β → Prop) (ρ : List Addr) (H : Hp) (σ : L2.St) (Q : β → Hp → Prop) : RE α → Prop
  | .ok v st => ∀ (ρ' : List Addr) (H' : Hp) (x : β), ExtX ρ H ρ' H' → RelX P H' ρ' st → Rp H' ρ' v x → Q x H'
  | .exc e st => ∀ (ρ' : List Addr) (H' : Hp) (c : Value) (d : Option Addr), ExtX ρ H ρ' H' → RelX P H' ρ' st → RXc P e c d ρ' H' → W c d σ H'
  | .bad => False
variable {P : Par K} {W : WX} {Rp : Hp → List Addr → α → β → Prop} {Rq : Hp → List Addr → γ → δ → Prop} {ρ ρ1 : List Addr} {H H1 : Hp} {σ : L2.St}
theorem Post.ext {Q : β → Hp → Prop} {m : RE α} (e : ExtX ρ H ρ1 H1) (h : Post P W Rp ρ H σ Q m) : Post P W Rp ρ1 H1 σ Q m := by
  cases m with
  | ok v st => exact fun ρ' H' x e' => h ρ' H' x (e.trans e')
  | exc x st => exact fun ρ' H' c d e' => h ρ' H' c d (e.trans e')
  | bad => exact h
theorem Post.bind {Q : δ → Hp → Prop} {m : RE α} {k : α → Sto → RE γ} (h : Post P W Rq ρ H σ Q (m.bind k)) :
    Post P W Rp ρ H σ (fun x H1 => ∃ (ρ1 : List Addr) (st1 : Sto) (v : α), ExtX ρ H ρ1 H1 ∧ RelX P H1 ρ1 st1 ∧ Rp H1 ρ1 v x ∧ Post P W Rq ρ1 H1 σ Q (k v st1)) m := by
  cases m with
  | ok v st => exact fun ρ' H' x e r p => ⟨ρ', st, v, e, r, p, Post.ext e h⟩
  | exc x st => exact h
  | bad => exact h
theorem Post.mono {Q Q' : β → Hp → Prop} {m : RE α} (h : Post P W Rp ρ H σ Q m) (f : ∀ x H', Q x H' → Q' x H') : Post P W Rp ρ H σ Q' m := by
  cases m with
  | ok v st => exact fun ρ' H' x e r p => f _ _ (h ρ' H' x e r p)
  | exc x st => exact h
  | bad => exact h
theorem Post.here {Q : β → Hp → Prop} {v : α} {st : Sto} {x : β} (h : Post P W Rp ρ H σ Q (.ok v st)) (r : RelX P H ρ st) (p : Rp H ρ v x) : Q x H := h ρ H x (ExtX.refl _ _) r p
theorem Post.noBad {Q : β → Hp → Prop} (h : Post P W Rp ρ H σ Q .bad) : False := h
abbrev RpV (K : PySem.W.Frag) : Hp → List Addr → IV → V → Prop := fun H ρ v x => RepV K H ρ v x
abbrev RpVs (K : PySem.W.Frag) : Hp → List Addr → List IV → List V → Prop := fun H ρ v x => RepVs K H ρ v x
abbrev RpB : Hp → List Addr → Bool → Bool → Prop := fun _ _ v x => v = x
theorem Post.ofO {Q : VK} {st : Sto} {o : RO} (h : Post P W (RpV K) ρ H σ Q (RE.ofO o)) (r : RelX P H ρ st) : PostO K ρ H Q o := by
  cases o with
  | none => exact h
  | some p =>
    obtain ⟨v, s⟩ := p
    exact fun ρ' H' x e r' q => h ρ' H' x e.x (r.ext e r') q
end
abbrev SemE := IEnv → Sto → RE IV
abbrev SemT := IEnv → Sto → RE Bool
abbrev SemA := IEnv → Sto → RE (List IV)
def tE {K : PySem.W.Frag} (P : Par K) (W : WX) (r : SemE) : TE := fun σ H Q => ∃ ρ env st, RelX P H ρ st ∧ RelEnv K H ρ env σ ∧ Post P W (RpV K) ρ H σ Q (r env st)
def tT {K : PySem.W.Frag} (P : Par K) (W : WX) (r : SemT) : TT := fun σ H Q => ∃ ρ env st, RelX P H ρ st ∧ RelEnv K H ρ env σ ∧ Post P W RpB ρ H σ Q (r env st)
def tA {K : PySem.W.Frag} (P : Par K) (W : WX) (r : SemA) : TA := fun σ H Q => ∃ ρ env st, RelX P H ρ st ∧ RelEnv K H ρ env σ ∧ Post P W (RpVs K) ρ H σ Q (r env st)

/-! ### what expressions give -/
def rVar (i : Nat) : SemE := fun env st => match env[i]? with
  | some (some v) => .ok v st
  | _ => .bad
def rC (v : IV) : SemE := fun _ st => .ok v st
def rBin (f : IV → IV → Sto → RO) (a b : SemE) : SemE := fun env st => (a env st).bind fun x st1 => (b env st1).bind fun y st2 => RE.ofO (f x y st2)
def rUn (f : IV → Sto → RO) (a : SemE) : SemE := fun env st => (a env st).bind fun x st1 => RE.ofO (f x st1)
def rCall (f : List IV → Sto → RO) (a : SemA) : SemE := fun env st => (a env st).bind fun x st1 => RE.ofO (f x st1)
def rDef (f : List IV → Sto → RE IV) (a : SemA) : SemE := fun env st => (a env st).bind fun x st1 => f x st1
def rNil : SemA := fun _ st => .ok [] st
def rCons (a : SemE) (b : SemA) : SemA := fun env st => (a env st).bind fun x st1 => (b env st1).bind fun xs st2 => .ok (x :: xs) st2
def rTup (a : SemA) : SemE := fun env st => (a env st).bind fun xs st1 => bif Nat.ble xs.length lineI then .ok (.tup xs) st1 else .bad
def rLst (a : SemA) : SemE := fun env st => (a env st).bind fun xs st1 => bif Nat.ble xs.length lineI then RE.ofO (st1.allocO (.lst xs)) else .bad
def rTru (a : SemE) : SemT := fun env st => (a env st).bind fun x st1 => match truI st1 x with
  | some b => .ok b st1
  | none => .bad
def rAnd (a b : SemE) : SemE := fun env st => (a env st).bind fun x st1 => match truI st1 x with
  | some true => b env st1
  | some false => .ok x st1
  | none => .bad
def rOr (a b : SemE) : SemE := fun env st => (a env st).bind fun x st1 => match truI st1 x with
  | some true => .ok x st1
  | some false => b env st1
  | none => .bad
def rNot (a : SemE) : SemE := fun env st => (a env st).bind fun x st1 => match truI st1 x with
  | some b => .ok (.bl (!b)) st1
  | none => .bad
def rIfE (c : SemT) (a b : SemE) : SemE := fun env st => (c env st).bind fun k st1 => bif k then a env st1 else b env st1
def rTAnd (a b : SemT) : SemT := fun env st => (a env st).bind fun k st1 => bif k then b env st1 else .ok false st1
def rTOr (a b : SemT) : SemT := fun env st => (a env st).bind fun k st1 => bif k then .ok true st1 else b env st1
def rTNot (a : SemT) : SemT := fun env st => (a env st).bind fun k st1 => .ok (!k) st1
def rTBl (a : SemE) : SemT := fun env st => (a env st).bind fun x st1 => match x with
  | .bl b => .ok b st1
  | _ => .bad
/-- a op b op' c -/
def rChain (f g : IV → IV → Sto → RO) (a b c : SemE) : SemE := fun env st => (a env st).bind fun x st1 => (b env st1).bind fun y st2 => (RE.ofO (f x y st2)).bind fun z st3 => match z with
  | .bl true => (c env st3).bind fun u st4 => RE.ofO (g y u st4)
  | .bl false => .ok (.bl false) st3
  | _ => .bad
def rPart (a : SemE) : IEnv → Sto → RE (Option Int) := fun env st => (a env st).bind fun x st1 => match x with
  | .int i => .ok (some i) st1
  | _ => .bad
def rNoPart : IEnv → Sto → RE (Option Int) := fun _ st => .ok none st
def rSl (a : SemE) (lo hi : IEnv → Sto → RE (Option Int)) : SemE := fun env st => (a env st).bind fun x st1 => (lo env st1).bind fun l st2 => (hi env st2).bind fun h st3 => RE.ofO (slcI x l h st3)

/-! ### they are sound -/
section
variable {X : Cx} {P : Par X.K} {W : WX} {a b c : Expr} {ra rb rc : SemE} {es : List Expr} {rs : SemA} {pos : Pos} {σ : L2.St} {H : Hp}
abbrev SE (X : Cx) (P : Par X.K) (W : WX) (e : Expr) (r : SemE) : Prop := PE X e (tE P W r)
abbrev SC (X : Cx) (P : Par X.K) (W : WX) (e : Expr) (r : SemT) : Prop := PT X e (tT P W r)
abbrev SW (X : Cx) (P : Par X.K) (W : WX) (e : Expr) (r : SemT) : Prop := PW X e (tT P W r)
abbrev SA (X : Cx) (P : Par X.K) (W : WX) (e : List Expr) (r : SemA) : Prop := PA X e (tA P W r)
theorem _root_.L2.PW.of {X : Cx} {e : Expr} {t t' : TT} (h : PW X e t) (f : ∀ σ H Q, t' σ H Q → t σ H Q) : PW X e t' := ⟨fun w pins s σ H Q I q => h.run w pins s σ H Q I (f σ H Q q)⟩
theorem se_var {i : Nat} {x : Str} (hN : X.N[i]? = some x) (hv : Vis X.env.scope x) (hd : (x == ("__debug__" : Str)) = false := by decide) (hcd : (x == ("__classdict__" : Str)) = false := by decide) : SE X P W (.Name x pos) (rVar i) :=
  (pe_var hN hv hd hcd).of fun σ H Q ⟨ρ, env, st, r, re, h⟩ => by
    unfold rVar at h
    split at h
    · rename_i v e
      obtain ⟨x, e1, p⟩ := re.get _ _ e
      exact ⟨x, e1, h.here r p⟩
    · exact h.elim
theorem tC_of {v : IV} {x : V} (hg : ∀ H ρ, RepV X.K H ρ v x) {Q : VK} (h : tE P W (rC v) σ H Q) : tC x σ H Q := by
  obtain ⟨ρ, env, st, r, re, h⟩ := h
  exact h.here r (hg _ _)
theorem se_int {i : Int} {j} : SE X P W (.Constant (.int i) j pos) (rC (.int i)) := pe_int.of fun _ _ _ => tC_of fun _ _ => .int i
theorem se_bl {i : Bool} {j} : SE X P W (.Constant (.bool i) j pos) (rC (.bl i)) := pe_bl.of fun _ _ _ => tC_of fun _ _ => .bl i
theorem se_non {j} : SE X P W (.Constant .none j pos) (rC .non) := pe_non.of fun _ _ _ => tC_of fun _ _ => .non
theorem se_str {s : List Nat} {x : Str} {j} (hx : x = ⟨s.toArray⟩) (h : s.all (fun c => decide (c < 0x110000)) = true) : SE X P W (.Constant (.str x) j pos) (rC (.str s)) := by
  subst hx
  exact pe_str.of fun _ _ _ => tC_of fun _ _ => .str h
theorem se_glob {x : Str} {v : V} {c : IV} {u : Value} (hg : Gl X x) (hm : X.mg x = some u) (r : RelV v u) (hc : ∀ H ρ, RepV X.K H ρ c v) (hd : (x == ("__debug__" : Str)) = false := by decide) : SE X P W (.Name x pos) (rC c) :=
  (pe_glob hg hm r hd).of fun _ _ _ => tC_of hc
theorem tOp_of {f : IV → IV → Sto → RO} {Q : VK} (h : tE P W (rBin f ra rb) σ H Q) : tOp (rB X.K f) (tE P W ra) (tE P W rb) σ H Q := by
  obtain ⟨ρ, env, st, r, re, h⟩ := h
  refine ⟨ρ, env, st, r, re, h.bind.mono fun x H1 ⟨ρ1, st1, v, e1, r1, p1, h1⟩ => ?_⟩
  refine ⟨ρ1, env, st1, r1, re.monoX r.r e1, h1.bind.mono fun y H2 ⟨ρ2, st2, w, e2, r2, p2, h2⟩ => ?_⟩
  exact ⟨ρ2, st2, v, w, r2.r, p1.monoX r1.r e2, p2, h2.ofO r2⟩
theorem se_bin {op : Operator} {f : IV → IV → Sto → RO} (ho : OpR X (binaryOp op) (rB X.K f)) (ha : SE X P W a ra) (hb : SE X P W b rb) : SE X P W (.BinOp a op b pos) (rBin f ra rb) := (pe_op ho ha hb).of fun _ _ _ => tOp_of
theorem se_cmp {op : CmpOp} {f : IV → IV → Sto → RO} (ho : OpR X (compareOp op) (rB X.K f)) (ha : SE X P W a ra) (hb : SE X P W b rb) (hm : behindInMarks op b = false) : SE X P W (.Compare a [op] [b] pos) (rBin f ra rb) := (pe_cmpR ho ha hb hm).of fun _ _ _ => tOp_of
theorem tUn_of {f : IV → Sto → RO} {Q : VK} (h : tE P W (rUn f ra) σ H Q) : tUn (rU1 X.K f) (tE P W ra) σ H Q := by
  obtain ⟨ρ, env, st, r, re, h⟩ := h
  refine ⟨ρ, env, st, r, re, h.bind.mono fun x H1 ⟨ρ1, st1, v, e1, r1, p1, h1⟩ => ?_⟩
  exact ⟨ρ1, st1, v, r1.r, p1, h1.ofO r1⟩
theorem se_un {op : UnaryOp} {f : IV → Sto → RO} (ho : UnR X (unaryOp op) (rU1 X.K f)) (ha : SE X P W a ra) : SE X P W (.UnaryOp op a pos) (rUn f ra) := (pe_un ho ha).of fun _ _ _ => tUn_of
theorem se_ix (ha : SE X P W a ra) (hb : SE X P W b rb) (hs : PlainIx b) : SE X P W (.Subscript a b pos) (rBin idxI ra rb) := (pe_ix ix_I ha hb hs).of fun _ _ _ => tOp_of
theorem sa_nil : SA X P W [] rNil := pa_nil.of fun σ H Q ⟨ρ, env, st, r, re, h⟩ => h.here r .nil
theorem sa_cons (ha : SE X P W a ra) (hr : SA X P W es rs) (hs : starEach (a :: es) X.env = (false, eval a X.env) :: starEach es X.env := by rfl) : SA X P W (a :: es) (rCons ra rs) :=
  (pa_cons ha hr hs).of fun σ H Q ⟨ρ, env, st, r, re, h⟩ => by
    refine ⟨ρ, env, st, r, re, h.bind.mono fun x H1 ⟨ρ1, st1, v, e1, r1, p1, h1⟩ => ?_⟩
    refine ⟨ρ1, env, st1, r1, re.monoX r.r e1, h1.bind.mono fun y H2 ⟨ρ2, st2, w, e2, r2, p2, h2⟩ => ?_⟩
    exact h2.here r2 (.cons (p1.monoX r1.r e2) p2)
theorem bif_bad {α β : Type} {K : PySem.W.Frag} {P : Par K} {W : WX} {Rp : Hp → List Addr → α → β → Prop} {ρ : List Addr} {H : Hp} {σ : L2.St} {Q : β → Hp → Prop} {k : Bool} {m : RE α} (h : Post P W Rp ρ H σ Q (bif k then m else .bad)) : k = true ∧ Post P W Rp ρ H σ Q m := by
  cases k with
  | true => exact ⟨rfl, h⟩
  | false => exact h.elim
theorem se_tup {x1} (h : SA X P W es rs) : SE X P W (.Tuple es x1 pos) (rTup rs) :=
  (pe_tup h).of fun σ H Q ⟨ρ, env, st, r, re, h⟩ => by
    refine ⟨ρ, env, st, r, re, h.bind.mono fun x H1 ⟨ρ1, st1, v, e1, r1, p1, h1⟩ => ?_⟩
    obtain ⟨e, h1⟩ := bif_bad h1
    have q : PostO X.K ρ1 H1 Q (some (.tup v, st1)) := Post.ofO (o := some (.tup v, st1)) h1 r1
    exact ⟨line_ok (by rw [← p1.length]; exact Nat.le_of_ble_eq_true e), q.newTup r1.r p1⟩
theorem se_lst (h : SA X P W es rs) : SE X P W (.List es pos) (rLst rs) :=
  (pe_lst h).of fun σ H Q ⟨ρ, env, st, r, re, h⟩ => by
    refine ⟨ρ, env, st, r, re, h.bind.mono fun x H1 ⟨ρ1, st1, v, e1, r1, p1, h1⟩ => ?_⟩
    obtain ⟨e, h1⟩ := bif_bad h1
    exact ⟨line_ok (by rw [← p1.length]; exact Nat.le_of_ble_eq_true e), (h1.ofO r1).newLst r1.r p1⟩
theorem tCB_of {f : List IV → Sto → RO} {Q : VK} (h : tE P W (rCall f rs) σ H Q) : tCB (rCl X.K f) (tA P W rs) σ H Q := by
  obtain ⟨ρ, env, st, r, re, h⟩ := h
  refine ⟨ρ, env, st, r, re, h.bind.mono fun x H1 ⟨ρ1, st1, v, e1, r1, p1, h1⟩ => ?_⟩
  exact ⟨ρ1, st1, v, r1.r, p1, h1.ofO r1⟩
end
end PI

set_option Elab.async false
set_option linter.all false
set_option maxRecDepth 100000
/-! PI6: calls, tests, and, or, slices. -/
namespace PI
open PySem PySem.Spec PyProof.Rows L2
open LamX (Tabs TabS CodeO ExtN)
section
variable {X : Cx} {P : Par X.K} {W : WX} {a b c : Expr} {ra rb rc : SemE} {ta tb : SemT} {es rest : List Expr} {rs : SemA} {pos p : Pos} {σ : L2.St} {H : Hp} {x : Str}
theorem se_callB {id : String} {f : List IV → Sto → RO} (hc : CallR X (.builtin id) (rCl X.K f)) (hg : Gl X x) (hm : X.mg x = none) (hv : bootBuiltins x = some (.builtin id)) (ha : SA X P W (a :: es) rs) (hn : x ≠ "__name__" := by decide) (hdb : (x == ("__debug__" : Str)) = false := by decide)
    (he : starEach (a :: es) X.env = (false, eval a X.env) :: starEach es X.env := by rfl) (hpl : (backTo pos (starEach es X.env)).any (·.1) = false := by rfl) : SE X P W (.Call (.Name x p) (a :: es) [] pos) (rCall f rs) :=
  (pe_callB hc hg hm hv ha hn hdb he hpl).of fun _ _ _ => tCB_of
theorem se_callTy {id : String} {f : List IV → Sto → RO} (hc : CallR X (.type id) (rCl X.K f)) (hg : Gl X x) (hm : X.mg x = none) (hv : bootBuiltins x = some (.type id)) (ha : SA X P W (a :: es) rs) (hn : x ≠ "__name__" := by decide) (hdb : (x == ("__debug__" : Str)) = false := by decide)
    (he : starEach (a :: es) X.env = (false, eval a X.env) :: starEach es X.env := by rfl) (hpl : (backTo pos (starEach es X.env)).any (·.1) = false := by rfl) : SE X P W (.Call (.Name x p) (a :: es) [] pos) (rCall f rs) :=
  (pe_callTy hc hg hm hv ha hn hdb he hpl).of fun _ _ _ => tCB_of

/-! ### the text's own defs -/
/-- a def's promise by what it gives -/
def spI (K : PySem.W.Frag) (T : List (Addr × Str) × (Nat → Addr)) (n : Nat) (f : List IV → Sto → RE IV) : Sp := fun vs H Q E =>
  vs.length = n ∧ ∃ (P : Par K) (ρ : List Addr) (st : Sto) (xs : List IV), (P.T, P.cm) = T ∧ RelX P H ρ st ∧ RepVs K H ρ xs vs ∧ Post P (fun c d _ H' => E c d H') (RpV K) ρ H [] Q (f xs st)
theorem Post.wx {α β : Type} {K : PySem.W.Frag} {P : Par K} {W W' : WX} {Rp : Hp → List Addr → α → β → Prop} {ρ : List Addr} {H : Hp} {σ σ' : L2.St} {Q : β → Hp → Prop} {m : RE α} (h : Post P W Rp ρ H σ Q m) (f : ∀ c d H', W c d σ H' → W' c d σ' H') : Post P W' Rp ρ H σ' Q m := by
  cases m with
  | ok v st => exact h
  | exc x st => exact fun ρ' H' c d e r q => f _ _ _ (h ρ' H' c d e r q)
  | bad => exact h
theorem se_def {f : Addr} {fd : FuncData} {ps : List Str} {g : List IV → Sto → RE IV} {k : Nat} (F : FnOk X.prog X.w X.K X.mg X.base (L2.CX X.prog X.w) k f fd ps (spI X.K (P.T, P.cm) ps.length g)) (tk : Takes X W) (hr : Room k X.A) (hg : Gl X x) (hm : X.mg x = some (.ref f)) (hk : PySem.W.keepIn X.K (.ref f) = true) (hb : Binds X.K fd ps [])
    {n : Nat} (hl : ps.length = n) (ha : SA X P W (a :: es) rs) (hlen : ∀ σ H Q, tA P W rs σ H Q → tA P W rs σ H fun vs H1 => vs.length = ps.length ∧ Q vs H1) (hdb : (x == ("__debug__" : Str)) = false := by decide) (he : starEach (a :: es) X.env = (false, eval a X.env) :: starEach es X.env := by rfl) (hpl : (backTo pos (starEach es X.env)).any (·.1) = false := by rfl) :
    SE X P W (.Call (.Name x p) (a :: es) [] pos) (rDef g rs) :=
  (pe_callS F hr hg hm hk hb (fun σ => passAt tk σ) ha hdb he hpl).of fun σ H Q h => by
    have h' : tA P W rs σ H fun vs H1 => ∃ (ρ1 : List Addr) (st1 : Sto) (v : List IV), RelX P H1 ρ1 st1 ∧ RepVs X.K H1 ρ1 v vs ∧ Post P W (RpV X.K) ρ1 H1 σ Q (g v st1) := by
      obtain ⟨ρ, env, st, r, re, h⟩ := h
      exact ⟨ρ, env, st, r, re, h.bind.mono fun x H1 ⟨ρ1, st1, v, e1, r1, p1, h1⟩ => ⟨ρ1, st1, v, r1, p1, h1⟩⟩
    obtain ⟨ρ, env, st, r, re, h2⟩ := hlen σ H _ h'
    refine ⟨ρ, env, st, r, re, h2.mono fun vs H1 ⟨hl, ρ1, st1, v, r1, p1, h1⟩ => ?_⟩
    exact ⟨hl, P, ρ1, st1, v, rfl, r1, p1, h1.wx fun c d H' w => w⟩
/-- how many arguments -/
def Many (P : Par X.K) (W : WX) (n : Nat) (rs : SemA) : Prop := ∀ σ H Q, tA P W rs σ H Q → tA P W rs σ H fun vs H1 => vs.length = n ∧ Q vs H1
theorem many_nil : Many (X := X) P W 0 rNil := fun σ H Q ⟨ρ, env, st, r, re, h⟩ => ⟨ρ, env, st, r, re, fun ρ' H' x e r' p => by
  cases p
  exact ⟨rfl, h ρ' H' [] e r' .nil⟩⟩
theorem RE.bind_ok {α β : Type} {m : RE α} {k : α → Sto → RE β} {v : β} {st : Sto} (h : m.bind k = .ok v st) : ∃ x st1, m = .ok x st1 ∧ k x st1 = .ok v st := by
  cases m with
  | ok x s => exact ⟨x, s, rfl, h⟩
  | exc x s => cases h
  | bad => cases h
/-- each answer of rs has n items -/
def LenN (n : Nat) (rs : SemA) : Prop := ∀ env st v st', rs env st = .ok v st' → v.length = n
theorem len_nil : LenN 0 rNil := fun env st v st' h => by cases h; rfl
theorem len_cons {n : Nat} (h : LenN n rs) : LenN (n + 1) (rCons ra rs) := fun env st v st' e => by
  obtain ⟨x, s1, _, e⟩ := RE.bind_ok e
  obtain ⟨xs, s2, e2, e⟩ := RE.bind_ok e
  cases e
  rw [List.length_cons, h _ _ _ _ e2]
theorem LenN.many {n : Nat} (h : LenN n rs) : Many (X := X) P W n rs := fun σ H Q ⟨ρ, env, st, r, re, q⟩ => by
  refine ⟨ρ, env, st, r, re, ?_⟩
  cases e : rs env st with
  | ok v s =>
    rw [e] at q
    exact fun ρ' H' x e' r' p => ⟨by rw [← RepVs.length p]; exact h _ _ _ _ e, q ρ' H' x e' r' p⟩
  | exc x s => rw [e] at q; exact q
  | bad => rw [e] at q; exact q

/-! ### tests -/
theorem sc_truth (ha : SE X P W a ra) (he : ∀ whole, isTrue a X.env whole = (do let v ← whole; standAt a.pos; holding [v] (truthy v))) : SC X P W a (rTru ra) :=
  (pt_truth ha he).of fun σ H Q ⟨ρ, env, st, r, re, h⟩ => by
    refine ⟨ρ, env, st, r, re, h.bind.mono fun x H1 ⟨ρ1, st1, v, e1, r1, p1, h1⟩ => ?_⟩
    split at h1
    · rename_i b e
      exact ⟨b, truI_ok r1.r p1 e, h1.here r1 rfl⟩
    · exact h1.elim
theorem sc_cmp {op : CmpOp} {f : IV → IV → Sto → RO} (ho : OpR X (compareOp op) (rB X.K f)) (ha : SE X P W a ra) (hb : SE X P W b rb) (hm : behindInMarks op b = false) : SC X P W (.Compare a [op] [b] pos) (rTBl (rBin f ra rb)) :=
  (pt_cmpR ho ha hb hm).of fun σ H Q ⟨ρ, env, st, r, re, h⟩ => by
    refine tOp_of ⟨ρ, env, st, r, re, h.bind.mono fun x H1 ⟨ρ1, st1, v, e1, r1, p1, h1⟩ => ?_⟩
    cases p1 with
    | bl k => exact ⟨k, rfl, h1.here r1 rfl⟩
    | _ => exact h1.elim
theorem sw_and1 (ha : SC X P W a ta) : SW X P W (.BoolOp .And [a] pos) ta := pw_and1 ha
theorem sw_or1 (ha : SC X P W a ta) : SW X P W (.BoolOp .Or [a] pos) ta := pw_or1 ha
theorem sw_and (ha : SC X P W a ta) (hb : SW X P W (.BoolOp .And (b :: rest) pos) tb) : SW X P W (.BoolOp .And (a :: b :: rest) pos) (rTAnd ta tb) :=
  (pw_and ha hb).of fun σ H Q ⟨ρ, env, st, r, re, h⟩ => by
    refine ⟨ρ, env, st, r, re, h.bind.mono fun x H1 ⟨ρ1, st1, v, e1, r1, p1, h1⟩ => ?_⟩
    obtain rfl : v = x := p1
    cases v with
    | true => exact ⟨ρ1, env, st1, r1, re.monoX r.r e1, h1⟩
    | false => exact h1.here r1 rfl
theorem sw_or (ha : SC X P W a ta) (hb : SW X P W (.BoolOp .Or (b :: rest) pos) tb) : SW X P W (.BoolOp .Or (a :: b :: rest) pos) (rTOr ta tb) :=
  (pw_or ha hb).of fun σ H Q ⟨ρ, env, st, r, re, h⟩ => by
    refine ⟨ρ, env, st, r, re, h.bind.mono fun x H1 ⟨ρ1, st1, v, e1, r1, p1, h1⟩ => ?_⟩
    obtain rfl : v = x := p1
    cases v with
    | true => exact h1.here r1 rfl
    | false => exact ⟨ρ1, env, st1, r1, re.monoX r.r e1, h1⟩
theorem sc_not (ha : SC X P W a ta) : SC X P W (.UnaryOp .Not a pos) (rTNot ta) :=
  (pt_not ha).of fun σ H Q ⟨ρ, env, st, r, re, h⟩ => by
    refine ⟨ρ, env, st, r, re, h.bind.mono fun x H1 ⟨ρ1, st1, v, e1, r1, p1, h1⟩ => ?_⟩
    obtain rfl : v = x := p1
    exact h1.here r1 rfl
theorem se_ifE (hc : SC X P W c tb) (ha : SE X P W a ra) (hb : SE X P W b rb) : SE X P W (.IfExp c a b pos) (rIfE tb ra rb) :=
  (pe_ifExp hc ha hb).of fun σ H Q ⟨ρ, env, st, r, re, h⟩ => by
    refine ⟨ρ, env, st, r, re, h.bind.mono fun x H1 ⟨ρ1, st1, v, e1, r1, p1, h1⟩ => ?_⟩
    obtain rfl : v = x := p1
    cases v with
    | true => exact ⟨ρ1, env, st1, r1, re.monoX r.r e1, h1⟩
    | false => exact ⟨ρ1, env, st1, r1, re.monoX r.r e1, h1⟩
theorem se_one {op} (h : SE X P W a ra) : SE X P W (.BoolOp op [a] pos) ra := pe_one h
theorem se_and (ha : SE X P W a ra) (hb : SE X P W (.BoolOp .And (b :: rest) pos) rb) : SE X P W (.BoolOp .And (a :: b :: rest) pos) (rAnd ra rb) :=
  (pe_andT ha hb).of fun σ H Q ⟨ρ, env, st, r, re, h⟩ => by
    refine ⟨ρ, env, st, r, re, h.bind.mono fun x H1 ⟨ρ1, st1, v, e1, r1, p1, h1⟩ => ?_⟩
    split at h1
    · rename_i e
      exact ⟨true, truI_ok r1.r p1 e, ⟨ρ1, env, st1, r1, re.monoX r.r e1, h1⟩⟩
    · rename_i e
      exact ⟨false, truI_ok r1.r p1 e, h1.here r1 p1⟩
    · exact h1.elim
theorem se_or (ha : SE X P W a ra) (hb : SE X P W (.BoolOp .Or (b :: rest) pos) rb) : SE X P W (.BoolOp .Or (a :: b :: rest) pos) (rOr ra rb) :=
  (pe_orT ha hb).of fun σ H Q ⟨ρ, env, st, r, re, h⟩ => by
    refine ⟨ρ, env, st, r, re, h.bind.mono fun x H1 ⟨ρ1, st1, v, e1, r1, p1, h1⟩ => ?_⟩
    split at h1
    · rename_i e
      exact ⟨true, truI_ok r1.r p1 e, h1.here r1 p1⟩
    · rename_i e
      exact ⟨false, truI_ok r1.r p1 e, ⟨ρ1, env, st1, r1, re.monoX r.r e1, h1⟩⟩
    · exact h1.elim
theorem se_not (ha : SE X P W a ra) : SE X P W (.UnaryOp .Not a pos) (rNot ra) :=
  (pe_notT ha).of fun σ H Q ⟨ρ, env, st, r, re, h⟩ => by
    refine ⟨ρ, env, st, r, re, h.bind.mono fun x H1 ⟨ρ1, st1, v, e1, r1, p1, h1⟩ => ?_⟩
    split at h1
    · rename_i k e
      exact ⟨k, truI_ok r1.r p1 e, h1.here r1 (.bl _)⟩
    · exact h1.elim
/-! ### chains, slices -/
theorem PostO.mono {K : PySem.W.Frag} {ρ : List Addr} {H : Hp} {Q Q' : VK} {o : RO} (h : PostO K ρ H Q o) (f : ∀ x H', Q x H' → Q' x H') : PostO K ρ H Q' o := by
  cases o with
  | none => exact h
  | some p => exact fun ρ' H' x e r q => f _ _ (h ρ' H' x e r q)
theorem tChain_of {f g : IV → IV → Sto → RO} {Q : VK} (h : tE P W (rChain f g ra rb rc) σ H Q) : tChain (rB X.K f) (rB X.K g) (tE P W ra) (tE P W rb) (tE P W rc) σ H Q := by
  obtain ⟨ρ, env, st, r, re, h⟩ := h
  refine ⟨ρ, env, st, r, re, h.bind.mono fun x H1 ⟨ρ1, st1, v, e1, r1, p1, h1⟩ => ?_⟩
  refine ⟨ρ1, env, st1, r1, re.monoX r.r e1, h1.bind.mono fun y H2 ⟨ρ2, st2, w, e2, r2, p2, h2⟩ => ?_⟩
  refine ⟨ρ2, st2, v, w, r2.r, p1.monoX r1.r e2, p2, ((Post.bind (Rp := RpV X.K) h2).ofO r2).mono fun z H3 ⟨ρ3, st3, u, e3, r3, p3, h3⟩ => ?_⟩
  split at h3
  · cases p3
    refine ⟨true, rfl, ?_⟩
    rw [if_pos rfl]
    refine ⟨ρ3, env, st3, r3, re.monoX r.r (e1.trans (e2.trans e3)), h3.bind.mono fun z' H4 ⟨ρ4, st4, t, e4, r4, p4, h4⟩ => ?_⟩
    exact ⟨ρ4, st4, w, t, r4.r, p2.monoX r2.r (e3.trans e4), p4, h4.ofO r4⟩
  · cases p3
    refine ⟨false, rfl, ?_⟩
    rw [if_neg Bool.false_ne_true]
    exact h3.here r3 (.bl false)
  · exact h3.elim
theorem se_chain {op op' : CmpOp} {f g : IV → IV → Sto → RO} (ho : OpR X (compareOp op) (rB X.K f)) (ho' : OpR X (compareOp op') (rB X.K g)) (ha : SE X P W a ra) (hb : SE X P W b rb) (hc : SE X P W c rc)
    (hm : lastMarks [op, op'] [b, c] = false := by with_unfolding_all rfl) : SE X P W (.Compare a [op, op'] [b, c] pos) (rChain f g ra rb rc) := (pe_chain ho ho' ha hb hc hm).of fun _ _ _ => tChain_of
theorem sc_chain {op op' : CmpOp} {f g : IV → IV → Sto → RO} (ho : OpR X (compareOp op) (rB X.K f)) (ho' : OpR X (compareOp op') (rB X.K g)) (ha : SE X P W a ra) (hb : SE X P W b rb) (hc : SE X P W c rc)
    (hm : lastMarks [op, op'] [b, c] = false := by with_unfolding_all rfl) : SC X P W (.Compare a [op, op'] [b, c] pos) (rTBl (rChain f g ra rb rc)) :=
  (pt_chain ho ho' ha hb hc hm).of fun σ H Q ⟨ρ, env, st, r, re, h⟩ => by
    refine tChain_of ⟨ρ, env, st, r, re, h.bind.mono fun x H1 ⟨ρ1, st1, v, e1, r1, p1, h1⟩ => ?_⟩
    cases p1 with
    | bl k => exact ⟨k, rfl, h1.here r1 rfl⟩
    | _ => exact h1.elim
abbrev SPt (X : Cx) (P : Par X.K) (W : WX) (e : Option Expr) (r : IEnv → Sto → RE (Option Int)) : Prop :=
  PO X e fun σ H Q => ∃ ρ env st, RelX P H ρ st ∧ RelEnv X.K H ρ env σ ∧ Post P W (fun _ _ v x => v = x) ρ H σ Q (r env st)
theorem _root_.L2.PO.of {X : Cx} {e : Option Expr} {t t' : TO} (h : PO X e t) (f : ∀ σ H Q, t' σ H Q → t σ H Q) : PO X e t' := ⟨fun pins s σ H Q I q => h.run pins s σ H Q I (f σ H Q q)⟩
theorem sp_none : SPt X P W none rNoPart := po_none.of fun σ H Q ⟨ρ, env, st, r, re, h⟩ => h.here r rfl
theorem sp_some (ha : SE X P W a ra) : SPt X P W (some a) (rPart ra) := (po_some ha).of fun σ H Q ⟨ρ, env, st, r, re, h⟩ => by
  refine ⟨ρ, env, st, r, re, h.bind.mono fun x H1 ⟨ρ1, st1, v, e1, r1, p1, h1⟩ => ?_⟩
  cases p1 with
  | int i => exact ⟨i, rfl, h1.here r1 rfl⟩
  | _ => exact h1.elim
theorem se_slice {lo hi : Option Expr} {rl rh : IEnv → Sto → RE (Option Int)} {p2 : Pos} (ha : SE X P W a ra) (hl : SPt X P W lo rl) (hu : SPt X P W hi rh) : SE X P W (.Subscript a (.Slice lo hi none p2) pos) (rSl ra rl rh) :=
  (pe_slice sl_I ha hl hu).of fun σ H Q ⟨ρ, env, st, r, re, h⟩ => by
    refine ⟨ρ, env, st, r, re, h.bind.mono fun x H1 ⟨ρ1, st1, v, e1, r1, p1, h1⟩ => ?_⟩
    refine ⟨ρ1, env, st1, r1, re.monoX r.r e1, h1.bind.mono fun l H2 ⟨ρ2, st2, l', e2, r2, p2, h2⟩ => ?_⟩
    obtain rfl : l' = l := p2
    refine ⟨ρ2, env, st2, r2, re.monoX r.r (e1.trans e2), h2.bind.mono fun u H3 ⟨ρ3, st3, u', e3, r3, p3, h3⟩ => ?_⟩
    obtain rfl : u' = u := p3
    exact ⟨ρ3, st3, v, r3.r, p1.monoX r1.r (e2.trans e3), h3.ofO r3⟩
end
end PI

set_option Elab.async false
set_option linter.all false
set_option maxRecDepth 100000
/-! PI7: statements. -/
namespace PI
open PySem PySem.Spec PyProof.Rows L2
open LamX (Tabs TabS CodeO ExtN)

inductive RS where
  | nx (env : IEnv) (st : Sto)
  | rt (v : IV) (st : Sto)
  | bk (env : IEnv) (st : Sto)
  | ct (env : IEnv) (st : Sto)
  | exc (x : IX) (env : IEnv) (st : Sto)
  | bad
abbrev SemS := IEnv → Sto → RS
def RS.ofE {α : Type} (m : RE α) (env : IEnv) (k : α → Sto → RS) : RS :=
  match m with
  | .ok v st => k v st
  | .exc x st => .exc x env st
  | .bad => .bad
def RS.seq (m : RS) (k : SemS) : RS :=
  match m with
  | .nx env st => k env st
  | .rt v st => .rt v st
  | .bk env st => .bk env st
  | .ct env st => .ct env st
  | .exc x env st => .exc x env st
  | .bad => .bad
/-- behind a loop's body -/
def RS.loop (m : RS) (k : SemS) : RS :=
  match m with
  | .nx env st => k env st
  | .rt v st => .rt v st
  | .bk env st => .nx env st
  | .ct env st => k env st
  | .exc x env st => .exc x env st
  | .bad => .bad
def PostS {K : PySem.W.Frag} (P : Par K) (W : WX) (ρ : List Addr) (H : Hp) (D : Ends) : RS → Prop
  | .nx env st => ∀ (ρ' : List Addr) (H' : Hp) (σ' : L2.St), ExtX ρ H ρ' H' → RelX P H' ρ' st → RelEnv K H' ρ' env σ' → D.nx σ' H'
  | .rt v st => ∀ (ρ' : List Addr) (H' : Hp) (x : V), ExtX ρ H ρ' H' → RelX P H' ρ' st → RepV K H' ρ' v x → D.rt x H'
  | .bk env st => ∀ (ρ' : List Addr) (H' : Hp) (σ' : L2.St), ExtX ρ H ρ' H' → RelX P H' ρ' st → RelEnv K H' ρ' env σ' → D.bk σ' H'
  | .ct env st => ∀ (ρ' : List Addr) (H' : Hp) (σ' : L2.St), ExtX ρ H ρ' H' → RelX P H' ρ' st → RelEnv K H' ρ' env σ' → D.ct σ' H'
  | .exc e env st => ∀ (ρ' : List Addr) (H' : Hp) (c : Value) (d : Option Addr) (σ' : L2.St), ExtX ρ H ρ' H' → RelX P H' ρ' st → RelEnv K H' ρ' env σ' → RXc P e c d ρ' H' → W c d σ' H'
  | .bad => False
def tS {K : PySem.W.Frag} (P : Par K) (W : WX) (r : SemS) : TS := fun D σ H => ∃ ρ env st, RelX P H ρ st ∧ RelEnv K H ρ env σ ∧ PostS P W ρ H D (r env st)
section
variable {α β : Type} {K : PySem.W.Frag} {P : Par K} {W : WX} {ρ ρ1 : List Addr} {H H1 : Hp} {D : Ends} {σ : L2.St}
theorem PostS.ext {m : RS} (e : ExtX ρ H ρ1 H1) (h : PostS P W ρ H D m) : PostS P W ρ1 H1 D m := by
  cases m with
  | nx v st => exact fun ρ' H' x e' => h ρ' H' x (e.trans e')
  | rt v st => exact fun ρ' H' x e' => h ρ' H' x (e.trans e')
  | bk v st => exact fun ρ' H' x e' => h ρ' H' x (e.trans e')
  | ct v st => exact fun ρ' H' x e' => h ρ' H' x (e.trans e')
  | exc x env st => exact fun ρ' H' c d σ' e' => h ρ' H' c d σ' (e.trans e')
  | bad => exact h
theorem PostS.ofE {Rp : Hp → List Addr → α → β → Prop} {m : RE α} {env : IEnv} {st : Sto} {k : α → Sto → RS} (r : Rel K H ρ st) (re : RelEnv K H ρ env σ) (h : PostS P W ρ H D (RS.ofE m env k)) :
    Post P W Rp ρ H σ (fun x H1 => ∃ (ρ1 : List Addr) (st1 : Sto) (v : α), ExtX ρ H ρ1 H1 ∧ RelX P H1 ρ1 st1 ∧ RelEnv K H1 ρ1 env σ ∧ Rp H1 ρ1 v x ∧ PostS P W ρ1 H1 D (k v st1)) m := by
  cases m with
  | ok v s => exact fun ρ' H' x e r' p => ⟨ρ', s, v, e, r', re.monoX r e, p, PostS.ext e h⟩
  | exc x s => exact fun ρ' H' c d e r' q => h ρ' H' c d σ e r' (re.monoX r e) q
  | bad => exact h
theorem PostS.hereN {env : IEnv} {st : Sto} (h : PostS P W ρ H D (.nx env st)) (r : RelX P H ρ st) (re : RelEnv K H ρ env σ) : D.nx σ H := h ρ H σ (ExtX.refl _ _) r re
theorem PostS.seq {m : RS} {k : SemS} (h : PostS P W ρ H D (m.seq k)) : PostS P W ρ H { D with nx := tS P W k D } m := by
  cases m with
  | nx env st => exact fun ρ' H' σ' e r re => ⟨ρ', env, st, r, re, PostS.ext e h⟩
  | rt v st => exact h
  | bk v st => exact h
  | ct v st => exact h
  | exc x env st => exact h
  | bad => exact h
theorem PostS.loop {m : RS} {k : SemS} {N : L2.St → Hp → Prop} (h : PostS P W ρ H D (m.loop k))
    (hN : ∀ (ρ' : List Addr) (H' : Hp) (σ' : L2.St) (env : IEnv) (st : Sto), ExtX ρ H ρ' H' → RelX P H' ρ' st → RelEnv K H' ρ' env σ' → PostS P W ρ' H' D (k env st) → N σ' H') : PostS P W ρ H { D with nx := N, ct := N, bk := D.nx } m := by
  cases m with
  | nx env st => exact fun ρ' H' σ' e r re => hN ρ' H' σ' env st e r re (PostS.ext e h)
  | rt v st => exact h
  | bk v st => exact h
  | ct env st => exact fun ρ' H' σ' e r re => hN ρ' H' σ' env st e r re (PostS.ext e h)
  | exc x env st => exact h
  | bad => exact h
theorem RelEnv.set {env : IEnv} {v : IV} {x : V} (re : RelEnv K H ρ env σ) (p : RepV K H ρ v x) (i : Nat) : RelEnv K H ρ (env.set i (some v)) (σ.set i (some x)) := by
  refine ⟨by simp [re.len], fun j w e => ?_⟩
  by_cases h : i = j
  · subst h
    have hl : i < env.length := by
      have := (List.getElem?_eq_some_iff.mp e).1
      simpa using this
    rw [List.getElem?_set_self hl] at e
    cases e
    exact ⟨x, by rw [List.getElem?_set_self (by rw [← re.len]; exact hl)], p⟩
  · rw [List.getElem?_set_ne h] at e ⊢
    exact re.get j w e
end

/-! ### what statements give -/
def sPass : SemS := fun env st => .nx env st
def sBreak : SemS := fun env st => .bk env st
def sCont : SemS := fun env st => .ct env st
def sSeq (a b : SemS) : SemS := fun env st => (a env st).seq b
def sExpr (e : SemE) : SemS := fun env st => RS.ofE (e env st) env fun _ st1 => .nx env st1
def sRet (e : SemE) : SemS := fun env st => RS.ofE (e env st) env fun v st1 => .rt v st1
def sRetN : SemS := fun _ st => .rt .non st
def sIf (c : SemT) (a b : SemS) : SemS := fun env st => RS.ofE (c env st) env fun k st1 => bif k then a env st1 else b env st1
/-- a target: the value, the names, the store -/
abbrev SemG := IV → IEnv → Sto → Option (IEnv × Sto)
abbrev SemGs := List IV → IEnv → Sto → Option (IEnv × Sto)
def gN (i : Nat) : SemG := fun v env st => some (env.set i (some v), st)
def gsNil : SemGs := fun vs env st => match vs with
  | [] => some (env, st)
  | _ :: _ => none
def gsCons (g : SemG) (gs : SemGs) : SemGs := fun vs env st => match vs with
  | [] => none
  | v :: r => match g v env st with
    | some (env1, st1) => gs r env1 st1
    | none => none
def gT (n : Nat) (gs : SemGs) : SemG := fun v env st => match v with
  | .tup xs => bif Nat.beq xs.length n then gs xs env st else none
  | _ => none
/-- o[i] = v -/
def setI : IV → IV → IV → Sto → Option Sto
  | .ref n, .int i, v, st => match st.os[n]? with
    | some (.lst xs) => match ixN xs.length i with
      | some j => some { os := st.os.set n (.lst (xs.set j v)), low := st.low }
      | none => none
    | _ => none
  | _, _, _, _ => none
def gSubI (o i : SemE) : SemG := fun v env st => match o env st with
  | .ok ov st1 => match i env st1 with
    | .ok iv st2 => match setI ov iv v st2 with
      | some st3 => some (env, st3)
      | none => none
    | _ => none
  | _ => none
def RS.ofG (m : Option (IEnv × Sto)) (k : SemS) : RS := match m with
  | some (env, st) => k env st
  | none => .bad
def sAsg (e : SemE) (g : SemG) : SemS := fun env st => RS.ofE (e env st) env fun v st1 => RS.ofG (g v env st1) fun env2 st2 => .nx env2 st2
def sPar (i j : Nat) (es : SemA) : SemS := fun env st => RS.ofE (es env st) env fun vs st1 => match vs with
  | [v, w] => .nx ((env.set i (some v)).set j (some w)) st1
  | _ => .bad
/-- name op= e -/
def sAug (i : Nat) (f : IV → IV → Sto → RO) (e : SemE) : SemS := fun env st => match env[i]? with
  | some (some x) => RS.ofE (e env st) env fun y st1 => RS.ofE (RE.ofO (f x y st1)) env fun z st2 => .nx (env.set i (some z)) st2
  | _ => .bad
def sWhile (c : SemT) (b : SemS) : Nat → SemS
  | 0 => fun _ _ => .bad
  | n + 1 => fun env st => RS.ofE (c env st) env fun k st1 => bif k then (b env st1).loop (sWhile c b n) else .nx env st1
/-- while, with so many turns -/
def sWhileF (fuel : IEnv → Sto → Nat) (c : SemT) (b : SemS) : SemS := fun env st => sWhile c b (fuel env st) env st
/-- for over items that don't change -/
def loopT (g : SemG) (b : SemS) : List IV → SemS
  | [] => fun env st => .nx env st
  | x :: xs => fun env st => RS.ofG (g x env st) fun env1 st1 => (b env1 st1).loop (loopT g b xs)
/-- for over a list of the store, from the place i on, with so many turns -/
def loopL (g : SemG) (b : SemS) (n : Nat) : Nat → Nat → SemS
  | 0, _ => fun _ _ => .bad
  | m + 1, i => fun env st => match lstAt st n with
    | some xs => match xs[i]? with
      | some x => RS.ofG (g x env st) fun env1 st1 => (b env1 st1).loop (loopL g b n m (i + 1))
      | none => .nx env st
    | none => .bad
def intsI (lo : Int) : Nat → List IV
  | 0 => []
  | n + 1 => .int lo :: intsI (lo + 1) n
def chrs (s : List Nat) : List IV := s.map fun c => .str [c]
/-- what a for walks -/
inductive FI where
  | items (xs : List IV)
  | list (n : Nat)
def seqFI (v : IV) : Option FI := match v with
  | .tup xs => some (.items xs)
  | .ref n => some (.list n)
  | _ => none
def sFor (it : IEnv → Sto → RE FI) (g : SemG) (b : SemS) : SemS := fun env st => RS.ofE (it env st) env fun f st1 => match f with
  | .items xs => loopT g b xs env st1
  | .list n => match lstAt st1 n with
    | some xs => loopL g b n (xs.length + 1) 0 env st1
    | none => .bad
def fSeq (e : SemE) : IEnv → Sto → RE FI := fun env st => (e env st).bind fun v st1 => match seqFI v with
  | some f => .ok f st1
  | none => .bad
def fStr (e : SemE) : IEnv → Sto → RE FI := fun env st => (e env st).bind fun v st1 => match v with
  | .str s => .ok (.items (chrs s)) st1
  | _ => .bad
def rngOk (i : Int) : Bool := decide (-(2 ^ 62) ≤ i) && decide (i < 2 ^ 62)
def fRng1 (a : SemA) : IEnv → Sto → RE FI := fun env st => (a env st).bind fun v st1 => match v with
  | [.int j] => bif rngOk j then .ok (.items (intsI 0 j.toNat)) st1 else .bad
  | _ => .bad
def fRng2 (a : SemA) : IEnv → Sto → RE FI := fun env st => (a env st).bind fun v st1 => match v with
  | [.int i, .int j] => bif rngOk i && rngOk j then .ok (.items (intsI i (j - i).toNat)) st1 else .bad
  | _ => .bad

/-! ### they are sound -/
abbrev SS (X : Cx) (P : Par X.K) (W : WX) (s : Stmt) (r : SemS) : Prop := PS X s (tS P W r)
abbrev SSs (X : Cx) (P : Par X.K) (W : WX) (s : List Stmt) (r : SemS) : Prop := PSs X s (tS P W r)
def tG {K : PySem.W.Frag} (P : Par K) (g : SemG) : TG := fun x σ H Q => ∃ ρ env st v env' st', RelX P H ρ st ∧ RelEnv K H ρ env σ ∧ RepV K H ρ v x ∧ g v env st = some (env', st') ∧
  ∀ (ρ' : List Addr) (H' : Hp) (σ' : L2.St), ExtX ρ H ρ' H' → RelX P H' ρ' st' → RelEnv K H' ρ' env' σ' → Q σ' H'
def tGs {K : PySem.W.Frag} (P : Par K) (g : SemGs) : TGs := fun x σ H Q => ∃ ρ env st v env' st', RelX P H ρ st ∧ RelEnv K H ρ env σ ∧ RepVs K H ρ v x ∧ g v env st = some (env', st') ∧
  ∀ (ρ' : List Addr) (H' : Hp) (σ' : L2.St), ExtX ρ H ρ' H' → RelX P H' ρ' st' → RelEnv K H' ρ' env' σ' → Q σ' H'
abbrev SG (X : Cx) (P : Par X.K) (e : Expr) (g : SemG) : Prop := PG X e (tG P g)
abbrev SGs (X : Cx) (P : Par X.K) (e : List Expr) (g : SemGs) : Prop := PGs X e (tGs P g)
theorem _root_.L2.PG.of {X : Cx} {e : Expr} {t t' : TG} (h : PG X e t) (f : ∀ v σ H Q, t' v σ H Q → t v σ H Q) : PG X e t' := ⟨fun pins s σ H v u Q I r q => h.run pins s σ H v u Q I r (f v σ H Q q)⟩
theorem _root_.L2.PGs.of {X : Cx} {e : List Expr} {t t' : TGs} (h : PGs X e t) (f : ∀ v σ H Q, t' v σ H Q → t v σ H Q) : PGs X e t' := ⟨fun pins s σ H v u Q I r q => h.run pins s σ H v u Q I r (f v σ H Q q)⟩
section
variable {X : Cx} {P : Par X.K} {W : WX} {a b c e tg : Expr} {ra rb rc re_ : SemE} {tc : SemT} {es : List Expr} {rs : SemA} {pos p : Pos} {σ : L2.St} {H : Hp} {x : Str} {s : Stmt} {ss s1 s2 : List Stmt} {r r1 r2 : SemS} {g : SemG} {gs : SemGs}
theorem ss_pass : SS X P W (.Pass pos) sPass := ps_pass.of fun D σ H ⟨ρ, env, st, r, re, h⟩ => h.hereN r re
theorem ss_break : SS X P W (.Break pos) sBreak := ps_break.of fun D σ H ⟨ρ, env, st, r, re, h⟩ => h ρ H σ (ExtX.refl _ _) r re
theorem ss_cont : SS X P W (.Continue pos) sCont := ps_continue.of fun D σ H ⟨ρ, env, st, r, re, h⟩ => h ρ H σ (ExtX.refl _ _) r re
theorem sss_nil : SSs X P W [] sPass := pss_nil.of fun D σ H ⟨ρ, env, st, r, re, h⟩ => h.hereN r re
theorem sss_one (h : SS X P W s r) : SSs X P W [s] r := pss_one h
theorem sss_cons (h : SS X P W s r) (h2 : SSs X P W ss r2) : SSs X P W (s :: ss) (sSeq r r2) := (pss_cons h h2).of fun D σ H ⟨ρ, env, st, r, re, h⟩ => ⟨ρ, env, st, r, re, h.seq⟩
theorem ss_expr (he : SE X P W e ra) (hs : swapsWith e none pos.line X.env = pure false := by rfl) : SS X P W (.Expr e pos) (sExpr ra) :=
  (ps_expr he hs).of fun D σ H ⟨ρ, env, st, r, re, h⟩ => ⟨ρ, env, st, r, re, (PostS.ofE r.r re h).mono fun x H1 ⟨ρ1, st1, v, e1, r1, re1, p1, h1⟩ => h1.hereN r1 re1⟩
theorem ss_ret (he : SE X P W e ra) : SS X P W (.Return (some e) pos) (sRet ra) :=
  (ps_ret he).of fun D σ H ⟨ρ, env, st, r, re, h⟩ => ⟨ρ, env, st, r, re, (PostS.ofE r.r re h).mono fun x H1 ⟨ρ1, st1, v, e1, r1, re1, p1, h1⟩ => h1 ρ1 H1 x (ExtX.refl _ _) r1 p1⟩
theorem ss_retN : SS X P W (.Return none pos) sRetN := ps_retN.of fun D σ H ⟨ρ, env, st, r, re, h⟩ => h ρ H .non (ExtX.refl _ _) r .non
theorem ss_if (hc : SC X P W c tc) (ha : SSs X P W s1 r1) (hb : SSs X P W s2 r2) : SS X P W (.If c s1 s2 pos) (sIf tc r1 r2) :=
  (ps_if hc ha hb).of fun D σ H ⟨ρ, env, st, r, re, h⟩ => by
    refine ⟨ρ, env, st, r, re, (PostS.ofE r.r re h).mono fun x H1 ⟨ρ1, st1, v, e1, r1, re1, p1, h1⟩ => ?_⟩
    obtain rfl : v = x := p1
    cases v with
    | true => exact ⟨ρ1, env, st1, r1, re1, h1⟩
    | false => exact ⟨ρ1, env, st1, r1, re1, h1⟩
theorem sg_name {i : Nat} (hN : X.N.Nodup) (hi : X.N[i]? = some x) (hx : Loc X.env.scope x) (hf : X.fn x = true ∨ X.env.scope.names.lookup x = some .local := by first | exact .inl rfl | exact .inr rfl | assumption) : SG X P (.Name x pos) (gN i) :=
  (pg_name hN hi hx hf).of fun v σ H Q ⟨ρ, env, st, w, env', st', r, re, p, e, h⟩ => by
    cases e
    exact h ρ H _ (ExtX.refl _ _) r (re.set p i)
theorem sgs_nil : SGs X P [] gsNil := pgs_nil.of fun v σ H Q ⟨ρ, env, st, w, env', st', r, re, p, e, h⟩ => by
  cases p with
  | nil => cases e; exact ⟨rfl, h ρ H σ (ExtX.refl _ _) r re⟩
  | cons => cases e
theorem sgs_cons (h1 : SG X P e g) (h2 : SGs X P es gs) (hs : (assignEach (e :: es) X.env).map (·.2) = assign e X.env :: (assignEach es X.env).map (·.2) := by rfl) : SGs X P (e :: es) (gsCons g gs) :=
  (pgs_cons h1 h2 hs).of fun v σ H Q ⟨ρ, env, st, w, env', st', r, re, p, e, h⟩ => by
    cases p with
    | nil => cases e
    | cons p t =>
      unfold gsCons at e
      dsimp only at e
      split at e
      · rename_i env1 st1 e1
        refine ⟨_, _, rfl, ρ, env, st, _, env1, st1, r, re, p, e1, fun ρ1 H1 σ1 x1 r1 re1 => ?_⟩
        exact ⟨ρ1, env1, st1, _, env', st', r1, re1, t.monoX r.r x1, e, fun ρ2 H2 σ2 x2 r2 re2 => h ρ2 H2 σ2 (x1.trans x2) r2 re2⟩
      · cases e
theorem sg_tup {k n : Nat} (hc : X.calm = true) (h : SGs X P es gs) (hn : (assignEach es X.env).length = n := by rfl) (hst : (assignEach es X.env).findIdx? (·.1) = none := by rfl) : SG X P (.Tuple es k pos) (gT n gs) :=
  (pg_tup hc h hn hst).of fun v σ H Q ⟨ρ, env, st, w, env', st', r, re, p, e, h⟩ => by
    cases p with
    | tup hq t =>
      unfold gT at e
      dsimp only at e
      cases hb : Nat.beq _ n with
      | false => rw [hb] at e; cases e
      | true =>
        rw [hb] at e
        exact ⟨_, _, rfl, hq, by rw [← t.length]; exact Nat.eq_of_beq_eq_true hb, ρ, env, st, _, env', st', r, re, t, e, h⟩
    | _ => cases e
theorem ss_asg (he : SE X P W e ra) (hg : SG X P tg g) (hs : swapsWithSole [tg] e pos.line X.env = pure false := by rfl) (hw : swappedStores [tg] e X.env = pure none := by rfl) (h1 : (assignEach [tg] X.env).map (·.2) = [assign tg X.env] := by rfl) : SS X P W (.Assign [tg] e pos) (sAsg ra g) :=
  (ps_asg he hg hs hw h1).of fun D σ H ⟨ρ, env, st, r, re, h⟩ => by
    refine ⟨ρ, env, st, r, re, (PostS.ofE r.r re h).mono fun x H1 ⟨ρ1, st1, v, e1, r1, re1, p1, h1⟩ => ?_⟩
    cases eg : g v env st1 with
    | none => rw [eg] at h1; exact h1.elim
    | some q =>
      obtain ⟨env2, st2⟩ := q
      rw [eg] at h1
      exact ⟨ρ1, env, st1, v, env2, st2, r1, re1, p1, eg, h1⟩
theorem ss_set {i : Nat} {p' : Pos} (hN : X.N.Nodup) (hi : X.N[i]? = some x) (hx : Loc X.env.scope x) (he : SE X P W e ra) (hs : swapsWith e (some (.Name x p')) pos.line X.env = pure false := by rfl) (hf : X.fn x = true ∨ X.env.scope.names.lookup x = some .local := by first | exact .inl rfl | exact .inr rfl | assumption) :
    SS X P W (.Assign [.Name x p'] e pos) (sAsg ra (gN i)) :=
  (ps_set hN hi hx he hs hf).of fun D σ H ⟨ρ, env, st, r, re, h⟩ => ⟨ρ, env, st, r, re, (PostS.ofE r.r re h).mono fun x H1 ⟨ρ1, st1, v, e1, r1, re1, p1, h1⟩ => h1.hereN r1 (re1.set p1 i)⟩
theorem ss_par {i j : Nat} {x y : Str} {a b : Expr} {px py pt : Pos} {kt k2 pt2} (hc : X.calm = true) (hN : X.N.Nodup) (hi : X.N[i]? = some x) (hj : X.N[j]? = some y) (hij : i ≠ j)
    (hx : X.env.scope.names.lookup x = some .local) (hy : X.env.scope.names.lookup y = some .local) (ha : SA X P W [a, b] rs)
    (hw : swappedStores [.Tuple [.Name x px, .Name y py] kt pt] (.Tuple [a, b] k2 pt2) X.env = pure (some [x, y]))
    (hs : swapsWithSole [.Tuple [.Name x px, .Name y py] kt pt] (.Tuple [a, b] k2 pt2) pos.line X.env = pure false := by rfl) :
    SS X P W (.Assign [.Tuple [.Name x px, .Name y py] kt pt] (.Tuple [a, b] k2 pt2) pos) (sPar i j rs) :=
  (ps_par hc hN hi hj hij hx hy ha hw hs).of fun D σ H ⟨ρ, env, st, r, re, h⟩ => by
    refine ⟨ρ, env, st, r, re, (PostS.ofE r.r re h).mono fun x H1 ⟨ρ1, st1, v, e1, r1, re1, p1, h1⟩ => ?_⟩
    split at h1
    · obtain ⟨v', w', e', pv, pw⟩ := RepVs.two p1
      exact ⟨v', w', e', h1.hereN r1 ((re1.set pv i).set pw j)⟩
    · exact h1.elim
theorem ss_while {fuel : IEnv → Sto → Nat} (hp : PassesOwn (model X.prog X.w) X.A X.env X.xe) (hc : SC X P W c tc) (hb : SSs X P W ss r) : SS X P W (.While c ss [] pos) (sWhileF fuel tc r) :=
  (ps_while hp hc hb).of fun D σ H ⟨ρ, env, st, rl, re, h⟩ => by
    refine ⟨fun m σ H => ∃ ρ env st, RelX P H ρ st ∧ RelEnv X.K H ρ env σ ∧ PostS P W ρ H D (sWhile tc r m env st), ⟨fuel env st, ρ, env, st, rl, re, h⟩, ?_⟩
    rintro m σ H ⟨ρ, env, st, rl, re, h⟩
    cases m with
    | zero => exact h.elim
    | succ m =>
      refine ⟨ρ, env, st, rl, re, (PostS.ofE rl.r re h).mono fun x H1 ⟨ρ1, st1, v, e1, r1, re1, p1, h1⟩ => ?_⟩
      obtain rfl : v = x := p1
      cases v with
      | false => exact h1.hereN r1 re1
      | true =>
        rw [if_pos rfl]
        refine ⟨fun σ' H' => ∃ ρ env st, RelX P H' ρ st ∧ RelEnv X.K H' ρ env σ' ∧ PostS P W ρ H' D (sWhile tc r m env st), fun σ' H' q => ⟨m, Nat.lt_succ_self m, q⟩, ?_⟩
        exact ⟨ρ1, env, st1, r1, re1, PostS.loop h1 fun ρ2 H2 σ2 env2 st2 e2 r2 re2 h2 => ⟨ρ2, env2, st2, r2, re2, h2⟩⟩
end
end PI

set_option Elab.async false
set_option linter.all false
set_option maxRecDepth 100000
/-! PI8: for, comprehensions. -/
namespace PI
open PySem PySem.Spec PyProof.Rows L2
open LamX (Tabs TabS CodeO ExtN)

/-! ### what is walked -/
/-- the iterator gives the items, whatever happens to the store -/
structure Gives (K : PySem.W.Frag) (xs : List IV) (J : It) (Iv : List Addr → Hp → Prop) : Prop where
  mono : ∀ {ρ : List Addr} {H : Hp} {ρ' : List Addr} {H' : Hp} {st : Sto}, Rel K H ρ st → ExtX ρ H ρ' H' → Iv ρ H → Iv ρ' H'
  stop : ∀ {ρ : List Addr} {H : Hp}, Iv ρ H → J.stop xs.length H
  go : ∀ {ρ : List Addr} {H : Hp} {i : Nat} {x : IV}, Iv ρ H → xs[i]? = some x → J.go i H ∧ ∀ y H', J.yld i H y H' → H' = H ∧ RepV K H ρ x y
def RpI (K : PySem.W.Frag) : Hp → List Addr → FI → It → Prop := fun H ρ f J => match f with
  | .items xs => ∃ Iv, Gives K xs J Iv ∧ Iv ρ H
  | .list n => ∃ a, ρ[n]? = some a ∧ J = Itl K a
def tI {K : PySem.W.Frag} (P : Par K) (W : WX) (it : IEnv → Sto → RE FI) : TI := fun σ H R => ∃ ρ env st, RelX P H ρ st ∧ RelEnv K H ρ env σ ∧ Post P W (RpI K) ρ H σ R (it env st)
abbrev SI (X : Cx) (P : Par X.K) (W : WX) (tg e : Expr) (it : IEnv → Sto → RE FI) : Prop := PI X tg e (tI P W it)
theorem _root_.L2.PI.of {X : Cx} {tg e : Expr} {t t' : TI} (h : PI X tg e t) (f : ∀ σ H Q, t' σ H Q → t σ H Q) : PI X tg e t' := ⟨fun pins s σ H R I q => h.run pins s σ H R I (f σ H R q)⟩
section
variable {K : PySem.W.Frag}
theorem gives_int (lo : Int) (n : Nat) : Gives K (intsI lo n) (Itr lo n) fun _ _ => True := by
  have hl : ∀ (n : Nat) (lo : Int), (intsI lo n).length = n := fun n => by
    induction n with
    | zero => exact fun _ => rfl
    | succ n ih => exact fun lo => by show (intsI (lo + 1) n).length + 1 = n + 1; rw [ih]
  have hg : ∀ (n : Nat) (lo : Int) (i : Nat) (x : IV), (intsI lo n)[i]? = some x → i < n ∧ x = .int (lo + i) := fun n => by
    induction n with
    | zero => intro lo i x h; simp [intsI] at h
    | succ n ih =>
      intro lo i x h
      cases i with
      | zero =>
        have h' : some (IV.int lo) = some x := h
        cases h'
        exact ⟨by omega, by congr 1; omega⟩
      | succ i =>
        obtain ⟨h1, h2⟩ := ih (lo + 1) i x h
        exact ⟨by omega, by rw [h2]; congr 1; omega⟩
  refine ⟨fun _ _ _ => trivial, fun {ρ H} _ => ?_, fun {ρ H i x} _ e => ?_⟩
  · show n ≤ _
    rw [hl]
    exact Nat.le_refl _
  · obtain ⟨h1, h2⟩ := hg n lo i x e
    refine ⟨h1, fun y H' h => ?_⟩
    obtain ⟨e1, e2⟩ := h
    subst e2
    rw [h2]
    exact ⟨e1, .int _⟩
theorem gives_str {s : List Nat} (h : s.all (fun c => decide (c < 0x110000)) = true) : Gives K (chrs s) (Its ⟨s.toArray⟩) fun _ _ => True := by
  refine ⟨fun _ _ _ => trivial, fun {ρ H} _ => ?_, fun {ρ H i x} _ e => ?_⟩
  · show (⟨s.toArray⟩ : Str).cps.size ≤ _
    simp [chrs]
  · have e' : (s.map fun c => IV.str [c])[i]? = some x := e
    rw [List.getElem?_map] at e'
    cases q : s[i]? with
    | none => rw [q] at e'; cases e'
    | some c =>
      rw [q] at e'
      cases e'
      have hm := List.mem_of_getElem? q
      have hc := List.all_eq_true.mp h c hm
      refine ⟨?_, fun y H' hy => ?_⟩
      · show i < (⟨s.toArray⟩ : Str).cps.size
        have := (List.getElem?_eq_some_iff.mp q).1
        simpa using this
      · obtain ⟨e1, d, hd, e2⟩ := hy
        have : d = c := by
          have hd' : s.toArray[i]? = some d := hd
          rw [List.getElem?_toArray, q] at hd'
          exact (Option.some.inj hd').symm
        subst this
        subst e2
        exact ⟨e1, RepV.str (s := [d]) (by rw [List.all_cons, hc]; rfl)⟩
end
section
variable {X : Cx} {P : Par X.K} {W : WX} {a b c e tg iter : Expr} {ra rb rc : SemE} {tc : SemT} {es : List Expr} {rs : SemA} {pos p : Pos} {σ : L2.St} {H : Hp} {x : Str} {ss : List Stmt} {r : SemS} {g : SemG} {it : IEnv → Sto → RE FI}
theorem pi_seqI (hl : SE X P W e ra) : SI X P W tg e (fSeq ra) := by
  refine ⟨fun pins s σ H R I h => ?_⟩
  obtain ⟨ρ, env, st, r, re, h⟩ := h
  have hp : Post P W (RpV X.K) ρ H σ (fun x H1 => ∃ (ρ1 : List Addr) (st1 : Sto) (v : IV), ExtX ρ H ρ1 H1 ∧ RelX P H1 ρ1 st1 ∧ RepV X.K H1 ρ1 v x ∧ Post P W (RpI X.K) ρ1 H1 σ R (match seqFI v with | some f => .ok f st1 | none => .bad)) (ra env st) := h.bind
  refine thn (hl.run pins s σ H _ I ⟨ρ, env, st, r, re, hp⟩) fun v s1 ⟨x, H1, I1, r1, ρ1, st1, v', e1, rx1, p1, h1⟩ => ?_
  cases p1 with
  | @tup xs vs a hq t =>
    obtain rfl : v = .ref a := r1
    obtain ⟨its, rv, p, hz⟩ := I1.tuple hq
    refine wpAny_pyIter_tuple (show s1.heap.IsTuple a its.toArray from p) ?_
    refine ⟨s1.heap.objs.size, [s1.heap.objs.size], _, _, H1, rfl, I1.kept (t' := s1.toks) fun b o e => Heap.get?_push_of_some _ e, turn_tuple a _, ⟨_, Heap.get?_push_size _ rfl, rfl, rfl⟩, fun b hb => ?_, ?_⟩
    · have e : b = s1.heap.objs.size := by simpa using hb
      subst e
      exact I1.fpOk (Nat.le_refl _) (I1.hok.fresh (Nat.le_refl _))
    · refine h1.here (x := Itt X.K a) rx1 ⟨fun ρ H => SqT X.K H a vs ∧ RepVs X.K H ρ xs vs, ?_, hq, t⟩
      refine ⟨fun {ρ H ρ' H' st} r e ⟨q1, q2⟩ => ⟨sqT_X r e q1, q2.monoX r e⟩, fun {ρ H} ⟨q1, q2⟩ => ⟨vs, q1, by rw [q2.length]; exact Nat.le_refl _⟩, fun {ρ H i x} ⟨q1, q2⟩ ex => ?_⟩
      obtain ⟨y, hy, ry⟩ := q2.get ex
      refine ⟨⟨vs, y, q1, hy⟩, fun z H' ⟨h1, h2⟩ => ⟨h1, ?_⟩⟩
      have := h2 vs q1
      rw [hy] at this
      cases this
      exact ry
  | @ref n a hn =>
    obtain rfl : v = .ref a := r1
    have h1' := h1.here (x := Itl X.K a) rx1 ⟨a, hn, rfl⟩
    have hl : ∃ xs, SqL X.K H1 a xs := by
      obtain ⟨m, o, e1, e2, q⟩ := rx1.r.at' (List.mem_of_getElem? hn)
      cases o with
      | lst xs => obtain ⟨vs, q, _⟩ := q; exact ⟨vs, .inl (.inl q)⟩
      | frl xs => obtain ⟨vs, q, _⟩ := q; exact ⟨vs, .inl q⟩
    obtain ⟨xs, hq⟩ := hl
    obtain ⟨its, rv, p, hz⟩ := I1.list hq
    refine wpAny_pyIter_list p.isList ?_
    refine ⟨s1.heap.objs.size, [s1.heap.objs.size], _, _, H1, rfl, I1.kept (t' := s1.toks) fun b o e => Heap.get?_push_of_some _ e, turn_list a _, ⟨_, Heap.get?_push_size _ rfl, rfl, rfl⟩, fun b hb => ?_, h1'⟩
    have e : b = s1.heap.objs.size := by simpa using hb
    subst e
    exact I1.fpOk (Nat.le_refl _) (I1.hok.fresh (Nat.le_refl _))
  | _ => exact h1.elim
theorem pi_strI (hl : SE X P W e ra) : SI X P W tg e (fStr ra) :=
  (pi_str hl).of fun σ H R ⟨ρ, env, st, r, re, h⟩ => by
    refine ⟨ρ, env, st, r, re, h.bind.mono fun x H1 ⟨ρ1, st1, v, e1, r1, p1, h1⟩ => ?_⟩
    cases p1 with
    | str hs => exact ⟨_, rfl, h1.here r1 ⟨_, gives_str hs, trivial⟩⟩
    | _ => exact h1.elim
theorem rngOk_ok {i : Int} (h : rngOk i = true) : -(2 ^ 62) ≤ i ∧ i < 2 ^ 62 := by
  unfold rngOk at h
  simp only [Bool.and_eq_true, decide_eq_true_eq] at h
  exact h
theorem pi_rng1 (hg : Gl X "range") (hm : X.mg "range" = none) (ha : SA X P W [a] rs) (hs : starEach [a] X.env = [(false, eval a X.env)] := by rfl) : SI X P W tg (.Call (.Name "range" p) [a] [] pos) (fRng1 rs) :=
  (pi_range1 hg hm ha hs).of fun σ H R ⟨ρ, env, st, r, re, h⟩ => by
    refine ⟨ρ, env, st, r, re, h.bind.mono fun x H1 ⟨ρ1, st1, v, e1, r1, p1, h1⟩ => ?_⟩
    split at h1
    · rename_i j
      obtain ⟨v', rfl, q⟩ := RepVs.one p1
      cases q
      obtain ⟨e, h1⟩ := bif_bad h1
      obtain ⟨b1, b2⟩ := rngOk_ok e
      exact ⟨j, rfl, b1, b2, h1.here r1 ⟨_, gives_int 0 j.toNat, trivial⟩⟩
    · exact h1.elim
theorem pi_rng2 (hg : Gl X "range") (hm : X.mg "range" = none) (ha : SA X P W [a, b] rs) (hs : starEach [a, b] X.env = [(false, eval a X.env), (false, eval b X.env)] := by rfl) (hs2 : starEach [b] X.env = [(false, eval b X.env)] := by rfl) : SI X P W tg (.Call (.Name "range" p) [a, b] [] pos) (fRng2 rs) :=
  (pi_range2 hg hm ha hs hs2).of fun σ H R ⟨ρ, env, st, r, re, h⟩ => by
    refine ⟨ρ, env, st, r, re, h.bind.mono fun x H1 ⟨ρ1, st1, v, e1, r1, p1, h1⟩ => ?_⟩
    split at h1
    · rename_i i j
      obtain ⟨v', w', rfl, q, q'⟩ := RepVs.two p1
      cases q
      cases q'
      obtain ⟨e, h1⟩ := bif_bad h1
      obtain ⟨e1, e2⟩ := Bool.and_eq_true_iff.mp e
      obtain ⟨b1, b2⟩ := rngOk_ok e1
      obtain ⟨b3, b4⟩ := rngOk_ok e2
      exact ⟨i, j, rfl, ⟨b1, b2, b3, b4⟩, h1.here r1 ⟨_, gives_int i (j - i).toNat, trivial⟩⟩
    · exact h1.elim
theorem ofG_some {K : PySem.W.Frag} {P : Par K} {W : WX} {ρ : List Addr} {H : Hp} {D : Ends} {m : Option (IEnv × Sto)} {k : SemS} (h : PostS P W ρ H D (RS.ofG m k)) : ∃ env st, m = some (env, st) ∧ PostS P W ρ H D (k env st) := by
  cases m with
  | none => exact h.elim
  | some q => obtain ⟨env, st⟩ := q; exact ⟨env, st, rfl, h⟩
theorem ss_for (hp : PassesOwn (model X.prog X.w) X.A X.env X.xe) (hc : X.calm = true) (hi : SI X P W tg iter it) (hg : SG X P tg g) (hb : SSs X P W ss r)
    (hs : ∀ x, foldedSetIterable iter X.env x = pure x := by intro _; rfl) : SS X P W (.For tg iter ss [] pos) (sFor it g r) :=
  (ps_for hp hc hi hg hb hs).of fun D σ H ⟨ρ, env, st, rl, re, h⟩ => by
    refine ⟨ρ, env, st, rl, re, (PostS.ofE rl.r re h).mono fun J H1 ⟨ρ1, st1, f, e1, r1, re1, p1, h1⟩ => ?_⟩
    cases f with
    | items xs =>
      obtain ⟨Iv, gv, iv⟩ := p1
      have h1' : PostS P W ρ1 H1 D (loopT g r xs env st1) := h1
      refine ⟨fun i m σ H => i ≤ xs.length ∧ m = xs.length - i ∧ ∃ ρ env st, RelX P H ρ st ∧ RelEnv X.K H ρ env σ ∧ Iv ρ H ∧ PostS P W ρ H D (loopT g r (xs.drop i) env st), ⟨xs.length, Nat.zero_le _, by simp, ρ1, env, st1, r1, re1, iv, h1'⟩, ?_⟩
      rintro i m σ H ⟨hi, rfl, ρ, env, st, rl, re, iv, h⟩
      by_cases hlt : i < xs.length
      · right
        have ex : xs[i]? = some xs[i] := List.getElem?_eq_getElem hlt
        obtain ⟨go, yd⟩ := gv.go iv ex
        rw [List.drop_eq_getElem_cons hlt] at h
        obtain ⟨env1, st2, eg, h⟩ := ofG_some h
        refine ⟨go, fun σ' H' => i + 1 ≤ xs.length ∧ ∃ ρ env st, RelX P H' ρ st ∧ RelEnv X.K H' ρ env σ' ∧ Iv ρ H' ∧ PostS P W ρ H' D (loopT g r (xs.drop (i + 1)) env st), fun σ' H' ⟨l, q⟩ => ⟨xs.length - (i + 1), by omega, l, rfl, q⟩, fun y H' hy => ?_⟩
        obtain ⟨e, ry⟩ := yd y H' hy
        subst e
        refine ⟨ρ, env, st, xs[i], env1, st2, rl, re, ry, eg, fun ρ2 H2 σ2 x2 r2 re2 => ?_⟩
        exact ⟨ρ2, env1, st2, r2, re2, PostS.loop (PostS.ext x2 h) fun ρ3 H3 σ3 env3 st3 x3 r3 re3 h3 => ⟨hlt, ρ3, env3, st3, r3, re3, gv.mono rl.r (x2.trans x3) iv, h3⟩⟩
      · left
        have : i = xs.length := by omega
        subst this
        rw [List.drop_length] at h
        exact ⟨gv.stop iv, h.hereN rl re⟩
    | list n =>
      obtain ⟨a, ha, rfl⟩ := p1
      dsimp only at h1
      split at h1
      · rename_i xs0 e0
        refine ⟨fun i m σ H => ∃ ρ env st, RelX P H ρ st ∧ RelEnv X.K H ρ env σ ∧ ρ[n]? = some a ∧ PostS P W ρ H D (loopL g r n m i env st), ⟨xs0.length + 1, ρ1, env, st1, r1, re1, ha, h1⟩, ?_⟩
        rintro i m σ H ⟨ρ, env, st, rl, re, ha, h⟩
        cases m with
        | zero => exact h.elim
        | succ m =>
          unfold loopL at h
          split at h
          · rename_i xs e2
            obtain ⟨vs, hq, t⟩ := lstAt_sq rl.r e2 ha
            split at h
            · rename_i x ex
              obtain ⟨y, hy, ry⟩ := t.get ex
              obtain ⟨env1, st2, eg, h⟩ := ofG_some h
              refine .inr ⟨⟨vs, y, hq, hy⟩, fun σ' H' => ∃ ρ env st, RelX P H' ρ st ∧ RelEnv X.K H' ρ env σ' ∧ ρ[n]? = some a ∧ PostS P W ρ H' D (loopL g r n m (i + 1) env st), fun σ' H' q => ⟨m, Nat.lt_succ_self m, q⟩, fun z H' ⟨e, hz⟩ => ?_⟩
              subst e
              have hz' := hz vs hq
              rw [hy] at hz'
              cases hz'
              refine ⟨ρ, env, st, x, env1, st2, rl, re, ry, eg, fun ρ2 H2 σ2 x2 r2 re2 => ?_⟩
              exact ⟨ρ2, env1, st2, r2, re2, PostS.loop (PostS.ext x2 h) fun ρ3 H3 σ3 env3 st3 x3 r3 re3 h3 => ⟨ρ3, env3, st3, r3, re3, pre_get (x2.trans x3).pre ha, h3⟩⟩
            · rename_i ex
              refine .inl ⟨⟨vs, hq, ?_⟩, h.hereN rl re⟩
              rw [← t.length]
              exact List.getElem?_eq_none_iff.mp ex
          · exact h.elim
      · exact h1.elim
end
end PI

set_option Elab.async false
set_option linter.all false
set_option maxRecDepth 100000
/-! PI9: comprehensions. -/
namespace PI
open PySem PySem.Spec PyProof.Rows L2
open LamX (Tabs TabS CodeO ExtN)

/-- a comprehension's target: a name, names -/
inductive CT where
  | one (i : Nat)
  | tup (is : List Nat)
def setsI {α : Type} : List Nat → List α → List (Option α) → List (Option α)
  | i :: is, v :: vs, env => setsI is vs (env.set i (some v))
  | _, _, env => env
def CT.put (t : CT) (v : IV) (env : IEnv) : Option IEnv := match t with
  | .one i => some (env.set i (some v))
  | .tup is => match v with
    | .tup xs => bif Nat.beq xs.length is.length then some (setsI is xs env) else none
    | _ => none
def CT.slots : CT → List Nat
  | .one i => [i]
  | .tup is => is
def CT.tg (K : PySem.W.Frag) : CT → TG
  | .one i => gName i
  | .tup is => gTup K is.length fun vs σ H Q => vs.length = is.length ∧ Q (setsI is vs σ) H
def wipeI (env : IEnv) : List Nat → IEnv
  | [] => env
  | v :: vs => (wipeI env vs).set v none
def loopC (tg : CT) (env0 : IEnv) (tt : SemT) (te : SemE) : List IV → List IV → Sto → RE (List IV)
  | [], acc, st => .ok acc.reverse st
  | x :: xs, acc, st => match tg.put x env0 with
    | none => .bad
    | some env1 => match tt env1 st with
      | .ok true st1 => match te env1 st1 with
        | .ok y st2 => loopC tg env0 tt te xs (y :: acc) st2
        | _ => .bad
      | .ok false st1 => loopC tg env0 tt te xs acc st1
      | _ => .bad
def loopCL (tg : CT) (env0 : IEnv) (tt : SemT) (te : SemE) (n : Nat) : Nat → Nat → List IV → Sto → RE (List IV)
  | 0, _, _, _ => .bad
  | m + 1, i, acc, st => match lstAt st n with
    | some xs => match xs[i]? with
      | some x => match tg.put x env0 with
        | none => .bad
        | some env1 => match tt env1 st with
          | .ok true st1 => match te env1 st1 with
            | .ok y st2 => loopCL tg env0 tt te n m (i + 1) (y :: acc) st2
            | _ => .bad
          | .ok false st1 => loopCL tg env0 tt te n m (i + 1) acc st1
          | _ => .bad
      | none => .ok acc.reverse st
    | none => .bad
def rLc (it : IEnv → Sto → RE FI) (tg : CT) (vs : List Nat) (tt : SemT) (te : SemE) : SemE := fun env st => (it env st).bind fun f st1 =>
  RE.bind (match f with
  | .items xs => bif Nat.ble xs.length lineI then loopC tg (wipeI env vs) tt te xs [] st1 else .bad
  | .list n => match lstAt st1 n with
    | some xs => bif Nat.ble xs.length lineI then loopCL tg (wipeI env vs) tt te n (xs.length + 1) 0 [] st1 else .bad
    | none => .bad) fun ys st2 => RE.ofO (st2.allocO (.lst ys))
def rYes : SemT := fun _ st => .ok true st

section
variable {K : PySem.W.Frag} {H H' : Hp} {ρ : List Addr} {st : Sto}
mutual
theorem RepV.byTup (h : ∀ (a : Addr) (vs : List V), SqT K H a vs → SqT K H' a vs) : ∀ {v : IV} {x : V}, RepV K H ρ v x → RepV K H' ρ v x
  | _, _, .non => .non
  | _, _, .bl b => .bl b
  | _, _, .int i => .int i
  | _, _, .str q => .str q
  | _, _, .tup q t => .tup (h _ _ q) (RepVs.byTup h t)
  | _, _, .ref q => .ref q
theorem RepVs.byTup (h : ∀ (a : Addr) (vs : List V), SqT K H a vs → SqT K H' a vs) : ∀ {v : List IV} {x : List V}, RepVs K H ρ v x → RepVs K H' ρ v x
  | _, _, .nil => .nil
  | _, _, .cons q t => .cons (RepV.byTup h q) (RepVs.byTup h t)
end
theorem sqT_upd {D : Addr} {xs ys : List V} (hD : H D = some (.lst xs)) (a : Addr) (vs : List V) (h : SqT K H a vs) : SqT K (upd H D (.lst ys)) a vs := by
  rcases h with (h | ⟨o, h⟩) | h
  · exact .inl (.inl (by rw [upd_ne (ne_of h hD (fun z => nomatch z))]; exact h))
  · exact .inl (.inr ⟨o, by rw [upd_ne (ne_of h hD (fun z => nomatch z))]; exact h⟩)
  · exact .inr h
/-- a list that is not in the store is changed -/
theorem Rel.side (r : Rel K H ρ st) {D : Addr} {xs ys : List V} (hD : H D = some (.lst xs)) (hn : D ∉ ρ) : Rel K (upd H D (.lst ys)) ρ st := by
  refine ⟨r.len, r.nd, fun n o a e1 e2 => ?_⟩
  have hne : a ≠ D := fun z => hn (z ▸ List.mem_of_getElem? e2)
  have q := r.obj n o a e1 e2
  cases o with
  | lst zs => obtain ⟨vs, q, t⟩ := q; exact ⟨vs, by rw [upd_ne hne]; exact q, RepVs.byTup (sqT_upd hD) t⟩
  | frl zs => obtain ⟨vs, q, t⟩ := q; exact ⟨vs, by unfold Rd; rw [upd_ne hne]; exact q, RepVs.byTup (sqT_upd hD) t⟩
theorem Tabs.side {T : List (Addr × Str)} (t : Tabs T H) {D : Addr} {xs ys : List V} (hD : H D = some (.lst xs)) : Tabs T (upd H D (.lst ys)) := by
  intro p hp
  obtain ⟨ps, h1, h2, h3⟩ := t p hp
  refine ⟨ps, by rw [upd_ne (ne_of h1 hD (fun z => nomatch z))]; exact h1, h2, fun pos cv hc => ?_⟩
  obtain ⟨c, e1, e2⟩ := h3 pos cv hc
  exact ⟨c, e1, by rw [upd_ne (ne_of e2 hD (fun z => by unfold CodeO at z; cases z))]; exact e2⟩
/-- a list comes into the store -/
theorem Rel.adopt (r : Rel K H ρ st) {D : Addr} {xs : List V} {ys : List IV} (hD : H D = some (.lst xs)) (hn : D ∉ ρ) (t : RepVs K H ρ ys xs) : Rel K H (ρ ++ [D]) { st with os := st.os ++ [.lst ys] } := by
  have pre : ExtX ρ H (ρ ++ [D]) H → True := fun _ => trivial
  have mv : ∀ {v : List IV} {x : List V}, RepVs K H ρ v x → RepVs K H (ρ ++ [D]) v x := by
    intro v x q
    induction q using RepVs.rec (motive_1 := fun v x _ => RepV K H (ρ ++ [D]) v x) with
    | non => exact .non
    | bl b => exact .bl b
    | int i => exact .int i
    | str h => exact .str h
    | tup h _ t => exact .tup h t
    | ref h => exact .ref (pre_get (List.prefix_append ρ [D]) h)
    | nil => exact .nil
    | cons _ _ h t => exact .cons h t
  have hl := r.len
  refine ⟨by simp [r.len], ?_, fun n o a e1 e2 => ?_⟩
  · rw [List.nodup_append]
    refine ⟨r.nd, by simp, fun a ha b hb => ?_⟩
    have : b = D := by simpa using hb
    subst this
    exact fun z => hn (z ▸ ha)
  · by_cases hlt : n < st.os.length
    · have e1' : st.os[n]? = some o := by
        have e1'' : (st.os ++ [IO.lst ys])[n]? = some o := e1
        rwa [List.getElem?_append_left hlt] at e1''
      have e2' : ρ[n]? = some a := by rwa [List.getElem?_append_left (by omega)] at e2
      have q := r.obj n o a e1' e2'
      cases o with
      | lst zs => obtain ⟨vs, q, t⟩ := q; exact ⟨vs, q, mv t⟩
      | frl zs => obtain ⟨vs, q, t⟩ := q; exact ⟨vs, q, mv t⟩
    · have hn1 : n < (st.os ++ [IO.lst ys]).length := (List.getElem?_eq_some_iff.mp (show (st.os ++ [IO.lst ys])[n]? = some o from e1)).1
      have en : n = st.os.length := by
        rw [List.length_append, List.length_cons, List.length_nil] at hn1
        omega
      subst en
      have e1'' : (st.os ++ [IO.lst ys])[st.os.length]? = some o := e1
      have e2'' : (ρ ++ [D])[st.os.length]? = some a := e2
      rw [List.getElem?_append_right (Nat.le_refl _)] at e1''
      rw [← hl, List.getElem?_append_right (Nat.le_refl _)] at e2''
      simp at e1'' e2''
      subst e1'' e2''
      exact ⟨xs, hD, mv t⟩
theorem RelEnv.wipe {env : IEnv} {σ : L2.St} (h : RelEnv K H ρ env σ) : ∀ vs : List Nat, RelEnv K H ρ (wipeI env vs) (L2.wipe σ vs)
  | [] => h
  | v :: vs => by
    have ih := RelEnv.wipe h vs
    show RelEnv K H ρ ((wipeI env vs).set v none) ((L2.wipe σ vs).set v none)
    refine ⟨by simp [ih.len], fun j w e => ?_⟩
    by_cases hj : v = j
    · subst hj
      have hl : v < (wipeI env vs).length := by
        have := (List.getElem?_eq_some_iff.mp e).1
        simpa using this
      rw [List.getElem?_set_self hl] at e
      cases e
    · rw [List.getElem?_set_ne hj] at e ⊢
      exact ih.get j w e
theorem setsI_len {α : Type} : ∀ (is : List Nat) (vs : List α) (env : List (Option α)), (setsI is vs env).length = env.length
  | [], _, _ => rfl
  | _ :: _, [], _ => rfl
  | i :: is, v :: vs, env => by show (setsI is vs (env.set i (some v))).length = _; rw [setsI_len is vs, List.length_set]
theorem RelEnv.sets : ∀ {is : List Nat} {xs : List IV} {vs : List V} {env : IEnv} {σ : L2.St}, RelEnv K H ρ env σ → RepVs K H ρ xs vs → RelEnv K H ρ (setsI is xs env) (setsI is vs σ)
  | [], _, _, _, _, h, _ => h
  | _ :: _, _, _, _, _, h, .nil => h
  | i :: is, _, _, _, _, h, .cons q t => RelEnv.sets (is := is) (h.set q i) t
theorem wipe_set {σ : L2.St} {x : V} {i : Nat} : ∀ {vs : List Nat}, i ∈ vs → L2.wipe (σ.set i (some x)) vs = L2.wipe σ vs
  | v :: vs, h => by
    show (L2.wipe (σ.set i (some x)) vs).set v none = (L2.wipe σ vs).set v none
    by_cases hi : i ∈ vs
    · rw [wipe_set hi]
    · have hv : i = v := by
        rcases List.mem_cons.mp h with h | h
        · exact h
        · exact absurd h hi
      subst hv
      have key : ∀ (vs : List Nat) (σ : L2.St), i ∉ vs → L2.wipe (σ.set i (some x)) vs = (L2.wipe σ vs).set i (some x) := fun vs => by
        induction vs with
        | nil => exact fun _ _ => rfl
        | cons u us ih =>
          intro σ hu
          simp only [List.mem_cons, not_or] at hu
          show (L2.wipe (σ.set i (some x)) us).set u none = ((L2.wipe σ us).set u none).set i (some x)
          rw [ih σ hu.2, List.set_comm _ _ hu.1]
      rw [key vs σ hi, List.set_set]
theorem wipe_sets {vs : List Nat} : ∀ {is : List Nat} {xs : List V} {σ : L2.St}, (∀ i ∈ is, i ∈ vs) → L2.wipe (setsI is xs σ) vs = L2.wipe σ vs
  | [], _, _, _ => rfl
  | _ :: _, [], _, _ => rfl
  | i :: is, x :: xs, σ, h => by
    show L2.wipe (setsI is xs (σ.set i (some x))) vs = _
    rw [wipe_sets fun j hj => h j (List.mem_cons_of_mem _ hj), wipe_set (h i List.mem_cons_self)]
theorem wipe_wipe {σ : L2.St} {vs : List Nat} : L2.wipe (L2.wipe σ vs) vs = L2.wipe σ vs := by
  have key : ∀ (us : List Nat) (σ : L2.St), (∀ u ∈ us, σ[u]? = some none ∨ σ.length ≤ u) → L2.wipe σ us = σ := fun us => by
    induction us with
    | nil => exact fun _ _ => rfl
    | cons u us ih =>
      intro σ h
      show (L2.wipe σ us).set u none = σ
      rw [ih σ fun w hw => h w (List.mem_cons_of_mem _ hw)]
      rcases h u List.mem_cons_self with e | e
      · obtain ⟨hl, e2⟩ := List.getElem?_eq_some_iff.mp e
        apply List.ext_getElem?
        intro j
        by_cases hj : u = j
        · subst hj; rw [List.getElem?_set_self hl, e]
        · rw [List.getElem?_set_ne hj]
      · exact List.set_eq_of_length_le e
  refine key vs _ fun u hu => ?_
  by_cases hl : u < σ.length
  · left
    have : ∀ (us : List Nat), u ∈ us → (L2.wipe σ us)[u]? = some none := fun us => by
      induction us with
      | nil => exact fun z => nomatch z
      | cons w us ih =>
        intro hm
        show ((L2.wipe σ us).set w none)[u]? = some none
        by_cases hw : w = u
        · subst hw
          rw [List.getElem?_set_self (by rw [wipe_length]; exact hl)]
        · rw [List.getElem?_set_ne hw]
          rcases List.mem_cons.mp hm with z | z
          · exact absurd z.symm hw
          · exact ih z
    exact this vs hu
  · right
    rw [wipe_length]
    omega
end

section
variable {K : PySem.W.Frag} {H : Hp} {ρ : List Addr}
theorem put_ok {ct : CT} {x : IV} {y : V} {env0 env1 : IEnv} {σ0 : L2.St} {vs : List Nat} (e : ct.put x env0 = some env1) (p : RepV K H ρ x y) (re : RelEnv K H ρ env0 σ0) (hsl : ∀ i ∈ ct.slots, i ∈ vs) {Q : L2.St → Hp → Prop}
    (h : ∀ σ2, RelEnv K H ρ env1 σ2 → L2.wipe σ2 vs = L2.wipe σ0 vs → Q σ2 H) : ct.tg K y σ0 H Q := by
  cases ct with
  | one i =>
    cases e
    exact h _ (re.set p i) (wipe_set (hsl i (by simp [CT.slots])))
  | tup is =>
    cases p with
    | @tup xs ws a hq t =>
      have e' : (bif Nat.beq xs.length is.length then some (setsI is xs env0) else none) = some env1 := e
      cases hb : Nat.beq xs.length is.length with
      | false => rw [hb] at e'; cases e'
      | true =>
        rw [hb] at e'
        cases e'
        have hl : ws.length = is.length := by rw [← t.length]; exact Nat.eq_of_beq_eq_true hb
        exact ⟨a, ws, rfl, hq, hl, hl, h _ (re.sets t) (wipe_sets hsl)⟩
    | _ => cases e
end
abbrev WF : WX := fun _ _ _ _ => False
section
variable {X : Cx} {P : Par X.K} {W : WX} {elt tg iter : Expr} {ifs : List Expr} {scope : Scope} {own : List (Str × Nat)} {pos : Pos} {it : IEnv → Sto → RE FI} {ct : CT} {tt : SemT} {te : SemE}
/-- one turn -/
theorem turn_ok {K : PySem.W.Frag} {P : Par K} {σ : L2.St} {H : Hp} {ρ : List Addr} {st : Sto} {env0 env1 : IEnv} {x : IV} {y : V} {vs : List Nat} {D : Addr} {Nx : Hp → Prop} (rx : RelX P H ρ st) (re : RelEnv K H ρ env0 (L2.wipe σ vs)) (hsl : ∀ i ∈ ct.slots, i ∈ vs) (p : RepV K H ρ x y) (e : ct.put x env0 = some env1)
    {accV : List V} (hD : H D = some (.lst accV)) (hDn : D ∉ ρ) (hz : accV.length < sizeLine) (nx : ∃ b st1, tt env1 st = .ok b st1 ∧ (b = true → ∃ z st2, te env1 st1 = .ok z st2 ∧ ∀ ρ' H' v, ExtX ρ H ρ' H' → RelX P H' ρ' st2 → RepV K H' ρ' z v → Nx (upd H' D (.lst (accV ++ [v])))) ∧
      (b = false → ∀ ρ' H', ExtX ρ H ρ' H' → RelX P H' ρ' st1 → Nx H')) :
    ct.tg K y (L2.wipe σ vs) H fun σ2 H2 => L2.wipe σ2 vs = L2.wipe σ vs ∧ tT P WF tt σ2 H2 fun b H3 => if b = true then tE P WF te σ2 H3 fun y H4 => ∃ acc, H4 D = some (.lst acc) ∧ acc.length < sizeLine ∧ Nx (upd H4 D (.lst (acc ++ [y]))) else Nx H3 := by
  refine put_ok e p re hsl fun σ2 re2 hw => ⟨hw.trans wipe_wipe, ρ, env1, st, rx, re2, ?_⟩
  obtain ⟨b, st1, e1, h1, h2⟩ := nx
  rw [e1]
  intro ρ' H' k x1 r1 hk
  obtain rfl : b = k := hk
  cases b with
  | false =>
    rw [if_neg Bool.false_ne_true]
    exact h2 rfl ρ' H' x1 r1
  | true =>
    rw [if_pos rfl]
    obtain ⟨z, st2, e2, h3⟩ := h1 rfl
    refine ⟨ρ', env1, st1, r1, re2.monoX rx.r x1, ?_⟩
    rw [e2]
    intro ρ2 H2 v x2 r2 pv
    exact ⟨accV, (x1.trans x2).keep D _ hD hDn (fun ps z => nomatch z), hz, h3 ρ2 H2 v (x1.trans x2) r2 pv⟩
theorem ExtX.updNew {ρ ρ' : List Addr} {H H' : Hp} (e : ExtX ρ H ρ' H') {D : Addr} (hD : H D = none) (u : HO) : ExtX ρ H ρ' (upd H' D u) :=
  ⟨e.pre, fun a o h n ht => by rw [upd_ne (ne_of_none h hD)]; exact e.keep a o h n ht, e.new⟩
theorem ExtX.push {ρ ρ' : List Addr} {H H' : Hp} (e : ExtX ρ H ρ' H') {D : Addr} (hD : H D = none) : ExtX ρ H (ρ' ++ [D]) H' :=
  ⟨e.pre.trans (List.prefix_append _ _), e.keep, fun a h => by
    rcases List.mem_append.mp h with h | h
    · exact e.new a h
    · have : a = D := by simpa using h
      subst this
      exact .inr (.inl hD)⟩
/-- the list so far -/
structure Acc {K : PySem.W.Frag} (P : Par K) (ρ1 : List Addr) (H1 : Hp) (D : Addr) (i : Nat) (ρ : List Addr) (H : Hp) (st : Sto) (acc : List IV) (accV : List V) : Prop where
  ext : ExtX ρ1 H1 ρ H
  rel : RelX P H ρ st
  out : D ∉ ρ
  at' : H D = some (.lst accV)
  rep : RepVs K H ρ acc.reverse accV
  len : accV.length ≤ i
theorem Acc.push {K : PySem.W.Frag} {P : Par K} {ρ1 ρ ρ' : List Addr} {H1 H H' : Hp} {D : Addr} {i : Nat} {st st0 st2 : Sto} {acc : List IV} {accV : List V} {z : IV} {v : V} (h : Acc P ρ1 H1 D i ρ H st acc accV) (r1 : RelX P H1 ρ1 st0) (hD : H1 D = none)
    (x : ExtX ρ H ρ' H') (r : RelX P H' ρ' st2) (p : RepV K H' ρ' z v) : Acc P ρ1 H1 D (i + 1) ρ' (upd H' D (.lst (accV ++ [v]))) st2 (z :: acc) (accV ++ [v]) := by
  have hD' : H' D = some (.lst accV) := x.keep D _ h.at' h.out (fun ps z => nomatch z)
  have out : D ∉ ρ' := fun q => by
    rcases x.new D q with q | q | ⟨ps, q⟩
    · exact h.out q
    · rw [h.at'] at q; cases q
    · rw [h.at'] at q; cases q
  have ext : ExtX ρ1 H1 ρ' (upd H' D (.lst (accV ++ [v]))) := (h.ext.trans x).updNew hD _
  refine ⟨ext, ⟨Rel.side r.r hD' out, Tabs.side r.tabs hD', P.mono r1.r ext r1.sd⟩, out, upd_same, ?_, by rw [List.length_append]; have := h.len; simp; omega⟩
  rw [List.reverse_cons]
  exact RepVs.byTup (sqT_upd hD') ((h.rep.monoX h.rel.r x).append (.cons p .nil))
theorem Acc.stay {K : PySem.W.Frag} {P : Par K} {ρ1 ρ ρ' : List Addr} {H1 H H' : Hp} {D : Addr} {i : Nat} {st st2 : Sto} {acc : List IV} {accV : List V} (h : Acc P ρ1 H1 D i ρ H st acc accV)
    (x : ExtX ρ H ρ' H') (r : RelX P H' ρ' st2) : Acc P ρ1 H1 D (i + 1) ρ' H' st2 acc accV := by
  refine ⟨h.ext.trans x, r, fun q => ?_, x.keep D _ h.at' h.out (fun ps z => nomatch z), h.rep.monoX h.rel.r x, Nat.le_succ_of_le h.len⟩
  rcases x.new D q with q | q | ⟨ps, q⟩
  · exact h.out q
  · rw [h.at'] at q; cases q
  · rw [h.at'] at q; cases q
theorem Acc.fin {K : PySem.W.Frag} {P : Par K} {W : WX} {ρ1 ρ : List Addr} {H1 H : Hp} {σ : L2.St} {D : Addr} {i : Nat} {st st0 : Sto} {acc : List IV} {accV : List V} {Q : VK} (h : Acc P ρ1 H1 D i ρ H st acc accV) (r1 : RelX P H1 ρ1 st0) (hD : H1 D = none)
    (q : Post P W (RpV K) ρ1 H1 σ Q ((RE.ok acc.reverse st).bind fun ys st2 => RE.ofO (st2.allocO (.lst ys)))) : Q (.ref D) H := by
  have q' : Post P W (RpV K) ρ1 H1 σ Q (.ok (.ref st.os.length) { st with os := st.os ++ [.lst acc.reverse] }) := q
  have e := h.ext.push hD
  exact q' (ρ ++ [D]) H (.ref D) e ⟨Rel.adopt h.rel.r h.at' h.out h.rep, h.rel.tabs, P.mono r1.r e r1.sd⟩ (.ref (rep_last h.rel.r D))
theorem se_lc (hc : X.calm = true) (hN : X.N.Nodup) (hi : SI X P W tg iter it) (ok : BlkOk X.N X.env.scope scope own) (hsl : ∀ i ∈ ct.slots, i ∈ own.map (·.2))
    (hg : ∀ (s : Shared) (H : Hp) (C : Addr) (cl : List (Str × Addr)) (fp : List Addr), PG (X.blk s H scope (compEnvC scope cl C X.env) fp) tg (ct.tg X.K)) (ht : ∀ (s : Shared) (H : Hp) (C : Addr) (cl : List (Str × Addr)) (fp : List Addr), PTs (X.blk s H scope (compEnvC scope cl C X.env) fp) ifs (tT P WF tt))
    (he : ∀ (s : Shared) (H : Hp) (C : Addr) (cl : List (Str × Addr)) (fp : List Addr), PE (X.blk s H scope (compEnvC scope cl C X.env) fp) elt (tE P WF te)) (hs : ∀ x, foldedSetIterable iter X.env x = pure x := by intro _; rfl) :
    SE X P W (.ListComp elt [⟨tg, iter, ifs, 0⟩] scope pos) (rLc it ct (own.map (·.2)) tt te) :=
  (pe_lc hc hN hi ok hg ht he hs).of fun σ H Q ⟨ρ, env, st, r, re, h⟩ => by
    refine ⟨ρ, env, st, r, re, h.bind.mono fun J H1 ⟨ρ1, st1, f, e1, r1, p1, h1⟩ => ?_⟩
    intro D hD
    have re1 : RelEnv X.K H1 ρ1 env σ := re.monoX r.r e1
    have A0 : Acc P ρ1 H1 D 0 ρ1 (upd H1 D (.lst [])) st1 [] [] :=
      ⟨(Ext.fresh r1.r hD _).x, r1.ext (Ext.fresh r1.r hD _) (r1.r.fresh hD _), fresh_not r1.r hD, upd_same, .nil, Nat.le_refl _⟩
    cases f with
    | items xs =>
      obtain ⟨Iv, gv, iv⟩ := p1
      obtain ⟨hz, h1⟩ : Nat.ble xs.length lineI = true ∧ Post P W (RpV X.K) ρ1 H1 σ Q ((loopC ct (wipeI env (own.map (·.2))) tt te xs [] st1).bind fun ys st2 => RE.ofO (st2.allocO (.lst ys))) := by
        cases hb : Nat.ble xs.length lineI with
        | false => simp only [hb] at h1; exact h1.elim
        | true => simp only [hb] at h1; exact ⟨rfl, h1⟩
      have hz' := Nat.le_of_ble_eq_true hz
      refine ⟨fun i m H => i ≤ xs.length ∧ m = xs.length - i ∧ ∃ ρ acc accV st, Acc P ρ1 H1 D i ρ H st acc accV ∧ Post P W (RpV X.K) ρ1 H1 σ Q ((loopC ct (wipeI env (own.map (·.2))) tt te (xs.drop i) acc st).bind fun ys st2 => RE.ofO (st2.allocO (.lst ys))), ⟨xs.length, Nat.zero_le _, by simp, ρ1, [], [], st1, A0, h1⟩, ?_⟩
      rintro i m H ⟨hi, rfl, ρ, acc, accV, st, A, h⟩
      have ivn := gv.mono r1.r A.ext iv
      by_cases hlt : i < xs.length
      · right
        have ex : xs[i]? = some xs[i] := List.getElem?_eq_getElem hlt
        obtain ⟨go, yd⟩ := gv.go ivn ex
        rw [List.drop_eq_getElem_cons hlt] at h
        unfold loopC at h
        refine ⟨go, fun H => i + 1 ≤ xs.length ∧ ∃ ρ acc accV st, Acc P ρ1 H1 D (i + 1) ρ H st acc accV ∧ Post P W (RpV X.K) ρ1 H1 σ Q ((loopC ct (wipeI env (own.map (·.2))) tt te (xs.drop (i + 1)) acc st).bind fun ys st2 => RE.ofO (st2.allocO (.lst ys))), fun H' ⟨l, q⟩ => ⟨xs.length - (i + 1), by omega, l, rfl, q⟩, fun y H' hy => ?_⟩
        obtain ⟨e, ry⟩ := yd y H' hy
        subst e
        cases ep : ct.put xs[i] (wipeI env (own.map (·.2))) with
        | none => rw [ep] at h; exact h.elim
        | some env1 =>
          rw [ep] at h
          dsimp only at h
          refine turn_ok A.rel ((re1.monoX r1.r A.ext).wipe _) hsl ry ep A.at' A.out (line_lt (Nat.lt_of_lt_of_le (Nat.lt_of_le_of_lt A.len hlt) hz')) ?_
          cases et : tt env1 st with
          | ok b st2 =>
            rw [et] at h
            refine ⟨b, st2, rfl, fun hb => ?_, fun hb ρ' H' x' r' => ?_⟩
            · subst hb
              dsimp only at h
              cases ee : te env1 st2 with
              | ok z st3 =>
                rw [ee] at h
                exact ⟨z, st3, rfl, fun ρ' H' v x' r' pv => ⟨hlt, ρ', _, _, st3, A.push r1 hD x' r' pv, h⟩⟩
              | exc => rw [ee] at h; exact h.elim
              | bad => rw [ee] at h; exact h.elim
            · subst hb
              exact ⟨hlt, ρ', _, _, st2, A.stay x' r', h⟩
          | exc => rw [et] at h; exact h.elim
          | bad => rw [et] at h; exact h.elim
      · left
        have : i = xs.length := by omega
        subst this
        rw [List.drop_length] at h
        exact ⟨gv.stop ivn, A.fin r1 hD h⟩
    | list n =>
      obtain ⟨a, ha, rfl⟩ := p1
      dsimp only at h1
      split at h1
      · rename_i xs0 e0
        obtain ⟨hz, h1⟩ : Nat.ble xs0.length lineI = true ∧ Post P W (RpV X.K) ρ1 H1 σ Q ((loopCL ct (wipeI env (own.map (·.2))) tt te n (xs0.length + 1) 0 [] st1).bind fun ys st2 => RE.ofO (st2.allocO (.lst ys))) := by
          cases hb : Nat.ble xs0.length lineI with
          | false => simp only [hb] at h1; exact h1.elim
          | true => simp only [hb] at h1; exact ⟨rfl, h1⟩
        have hz' := Nat.le_of_ble_eq_true hz
        refine ⟨fun i m H => i + m = xs0.length + 1 ∧ ∃ ρ acc accV st, Acc P ρ1 H1 D i ρ H st acc accV ∧ Post P W (RpV X.K) ρ1 H1 σ Q ((loopCL ct (wipeI env (own.map (·.2))) tt te n m i acc st).bind fun ys st2 => RE.ofO (st2.allocO (.lst ys))), ⟨xs0.length + 1, by omega, ρ1, [], [], st1, A0, h1⟩, ?_⟩
        rintro i m H ⟨him, ρ, acc, accV, st, A, h⟩
        cases m with
        | zero => exact h.elim
        | succ m =>
          unfold loopCL at h
          split at h
          · rename_i xs e2
            obtain ⟨vs, hq, t⟩ := lstAt_sq A.rel.r e2 (pre_get A.ext.pre ha)
            split at h
            · rename_i x ex
              obtain ⟨y, hy, ry⟩ := t.get ex
              refine .inr ⟨⟨vs, y, hq, hy⟩, fun H => (i + 1) + m = xs0.length + 1 ∧ ∃ ρ acc accV st, Acc P ρ1 H1 D (i + 1) ρ H st acc accV ∧ Post P W (RpV X.K) ρ1 H1 σ Q ((loopCL ct (wipeI env (own.map (·.2))) tt te n m (i + 1) acc st).bind fun ys st2 => RE.ofO (st2.allocO (.lst ys))), fun H' q => ⟨m, Nat.lt_succ_self m, q⟩, fun z H' ⟨e, hz2⟩ => ?_⟩
              subst e
              have hz3 := hz2 vs hq
              rw [hy] at hz3
              cases hz3
              cases ep : ct.put x (wipeI env (own.map (·.2))) with
              | none => rw [ep] at h; exact h.elim
              | some env1 =>
                rw [ep] at h
                dsimp only at h
                refine turn_ok A.rel ((re1.monoX r1.r A.ext).wipe _) hsl ry ep A.at' A.out (Nat.lt_of_le_of_lt A.len (Nat.lt_of_lt_of_le (Nat.lt_succ_self i) ?_)) ?_
                · have : sizeLine ≥ lineI + 1 := by decide
                  omega
                cases et : tt env1 st with
                | ok b st2 =>
                  rw [et] at h
                  refine ⟨b, st2, rfl, fun hb => ?_, fun hb ρ' H' x' r' => ?_⟩
                  · subst hb
                    dsimp only at h
                    cases ee : te env1 st2 with
                    | ok z st3 =>
                      rw [ee] at h
                      exact ⟨z, st3, rfl, fun ρ' H' v x' r' pv => ⟨by omega, ρ', _, _, st3, A.push r1 hD x' r' pv, h⟩⟩
                    | exc => rw [ee] at h; exact h.elim
                    | bad => rw [ee] at h; exact h.elim
                  · subst hb
                    exact ⟨by omega, ρ', _, _, st2, A.stay x' r', h⟩
                | exc => rw [et] at h; exact h.elim
                | bad => rw [et] at h; exact h.elim
            · rename_i ex
              refine .inl ⟨⟨vs, hq, ?_⟩, A.fin r1 hD h⟩
              rw [← t.length]
              exact List.getElem?_eq_none_iff.mp ex
          · exact h.elim
      · exact h1.elim
end
end PI

set_option Elab.async false
set_option linter.all false
set_option maxRecDepth 100000
set_option maxHeartbeats 2000000
/-! PI10: an own exception whose __init__ says super().__init__('..') and keeps what it was given. -/
namespace PI
open PySem PySem.Spec PyProof.Rows L2
open LamX (Tabs TabS CodeO ExtN)
section
variable {P : Program} {w : World} {K : PySem.W.Frag} {mg : Str → Option Value} {base : Heap} {CX : CXT}
/-- what stands behind the making: the frame's objects are new, the exception has its dict -/
theorem init_end {outer : List Env} {s : Shared} {H : Hp} {Q : VK} {a C dx : Addr} {fs : List (Str × V)} {h' : Heap} {t' : Nat} {t1 : Addr} (hok : HOk P w H s.heap) (hb : AllBare s.gens) (e : H a = some (exo a C none)) (hnd : H dx = none) (dne : dx ≠ a) (dn : s.heap.objs.size ≤ dx)
    (k : ∀ b o, b ≠ a → s.heap.get? b = some o → h'.get? b = some o) (hx : h'.get? a = some ({ cls := .ref C, dict := some dx, data := .fields #[.ref t1, .none, .none, .none, .bool false, .none] } : Obj)) {mA : Str → Option Value} (hn : h'.Ns1 dx mA) (hr : ∀ g, RelO (fs.lookup g) (mA g))
    (q : Q .non (upd (upd H dx (exd dx fs)) a (exo a C (some dx)))) : CE outer P w H s Q .none { s with heap := h', toks := t' } := by
  have nd : ∀ {b : Addr} {o : Obj}, s.heap.get? b = some o → b ≠ dx := fun {b o} q => Nat.ne_of_lt (Nat.lt_of_lt_of_le (Heap.lt_size q) dn)
  have na : ∀ {b : Addr}, H b = none → b ≠ a := fun {b} n z => by
    rw [z, e] at n
    cases n
  refine ⟨.non, _, rfl, hb, ?_, fun b o q => ?_, rfl, q⟩
  · exact {
      keep := fun b o q n _ _ => k b o (na n) q
      slot := fun b o q n _ _ => ⟨o.slots, k b o (na n) q⟩
      free := fun b o q n _ => by rw [upd_ne (na n), upd_ne (nd q)]; exact n
      there := fun b o q _ => by
        by_cases hb : b = a
        · exact ⟨_, by rw [hb]; exact hx⟩
        · exact ⟨o, k b o hb q⟩
      tups := fun b xs q => by rw [upd_ne (at_ne e q exo_tup), upd_ne (ne_of_none q hnd)]; exact q
      frzs := fun b o v q => by rw [upd_ne (at_ne e q exo_frz), upd_ne (ne_of_none q hnd)]; exact q
      tbls := fun b ps q => ⟨#[], by rw [upd_ne (at_ne e q exo_tbl), upd_ne (ne_of_none q hnd), q]; simp⟩ }
  · by_cases hb : b = a
    · subst hb
      rw [upd_same] at q
      cases q
      exact exo_ok hx
    · rw [upd_ne hb] at q
      by_cases hd : b = dx
      · subst hd
        rw [upd_same] at q
        cases q
        exact exd_ok hn hr
      · rw [upd_ne hd] at q
        exact (hok b o q).stay (fun c v hc z => k c v (by
            rcases hc with hc | hc
            · rw [hc]
              exact hb
            · exact at_ne e hc exo_own) z)
          (fun c hc => by rw [upd_ne (at_ne e hc exo_own), upd_ne (ne_of_none hc hnd)]; exact hc) (fun c xs hc => by rw [upd_ne (at_ne e hc exo_tup), upd_ne (ne_of_none hc hnd)]; exact hc)
/-- what the row says of such a def -/
structure SupI (P : Program) (K : PySem.W.Frag) (mg : Str → Option Value) (f cc cda C D : Addr) (scope : Scope) (par fld : Str) : Prop where
  oex : OexC K C
  ini : PySem.W.excInitIn K C PySem.HandSPX.veTail "ValueError.__new__" = true
  sup : PySem.W.ks_superIn K C D "__init__" = some (some (.builtin "ValueError.__init__"))
  subB : PySem.W.subIn K (.ref C) (.type "ValueError") = some true
  opq : PySem.W.nsIn K cStatics "thirdparty.any" = some none
  noF : PySem.W.findIn K (.ref C) fld = some none
  code : ∃ ccl cdd vs ccs file tf, K.lookup cda = some ⟨ccl, cdd, .fields vs, ccs⟩ ∧ vs[2]? = some (.str file tf) ∧ ((P.main.file : Str) == file) = true
  cell : ∃ cl cld csl, K.lookup cc = some ⟨cl, cld, .cell (some (.ref D)), csl⟩
  cD : ∃ cd, PySem.W.clsIn K D = some cd
  sub : PySem.W.mroIn K C (.ref D) = some true
  top : (P.main.scope.names.lookup ("super" : Str)).isSome = false
  mgS : mg "super" = none
  kS : scope.names.lookup ("super" : Str) = some .globalImplicit
  kC : scope.names.lookup ("__class__" : Str) = some .free
  kSelf : scope.names.lookup ("self" : Str) = some .local
  kPar : scope.names.lookup par = some .local
  kind : scope.kind = .function
  co : scope.isCoroutine = false
  gen : scope.isGenerator = false
  noCell : ∀ x ∈ scope.names, x.2 ≠ .cell
  ne : par ≠ "self"
  nd : (par == ("__debug__" : Str)) = false
def spSup (C : Addr) (fld : Str) : Sp := fun vs H Q _ => ∃ (a : Addr) (y : V), vs = [.ref a, y] ∧ H a = some (exo a C none) ∧ ∀ dx, H dx = none → dx ≠ a → Q .non (upd (upd H dx (exd dx [(fld, y)])) a (exo a C (some dx)))
theorem sup_init {f cc cda C D : Addr} {k : Nat} {name qual par fld msg : Str} {params : Arguments} {scope : Scope} {dV kV doc pm ct oc : Value} {an od : Option Addr} {osl : Array (Option Value)} {j : Nat} {q0 q1 q2 q3 q4 q5 q6 q7 q8 q9 : Pos} {body : List Stmt}
    (hbo : body = [.Expr (.Call (.Attribute (.Call (.Name "super" q0) [] [] q1) "__init__" q2) [.Constant (.str msg) j q3] [] q4) q5, .Assign [.Attribute (.Name "self" q6) fld q7] (.Name par q8) q9])
    (lk : K.lookup f = some ⟨oc, od, .func (PySem.W.ksFn name qual params body scope dV kV doc pm an (.ref cda) ct cc), osl⟩) (hcd : PySem.W.codeIn K (.ref cda) qual = true) (S : SupI P K mg f cc cda C D scope par fld)
    (hp : ∃ ar, (params.posonlyargs ++ params.args).head? = some ar ∧ ar.arg = "self") {pl : Sem Bool}
    (he : ∀ env, eval (.Call (.Attribute (.Call (.Name "super" q0) [] [] q1) "__init__" q2) [.Constant (.str msg) j q3] [] q4) env = (do
      let ov ← attributeBase (.Call (.Name "super" q0) [] [] q1) "__init__" env (eval (.Call (.Name "super" q0) [] [] q1) env)
      standAt q2.atName
      let (f, first) ← holding [ov] (getMethod ov "__init__" pl)
      callWith q4 f first (backTo q4 (starEach [.Constant (.str msg) j q3] env)) []))
    (hs : ∀ env, swapsWith (.Name par q8) (some (.Attribute (.Name "self" q6) fld q7)) q9.line env = pure false) (hs0 : ∀ env, swapsWith (.Call (.Attribute (.Call (.Name "super" q0) [] [] q1) "__init__" q2) [.Constant (.str msg) j q3] [] q4) none q5.line env = pure false) :
    FnOk P w K mg base CX (k + 1) f (PySem.W.ksFn name qual params body scope dV kV doc pm an (.ref cda) ct cc) ["self", par] (spSup C fld) := by
  subst hbo
  refine ⟨fun vs H Q E ⟨a, y, e, _⟩ => by rw [e]; rfl, fun A outer s H args us vs Q E hr e0 hb rv hsp => ?_⟩
  obtain ⟨a, y, rfl, e, hq⟩ := hsp
  obtain ⟨u1, u, rfl, ra, ry⟩ := vals2 rv
  obtain rfl : u1 = Value.ref a := ra
  have KX : K.In s.heap := e0.mod.kin.keeps fun b o e => (e0.bs b o e).1
  have lim : s.heap.NoLimit := e0.mod.nolimit.keeps fun b o e => (e0.bs b o e).1
  obtain ⟨t1, ho⟩ := exo_at e0.hok e
  refine PySem.ks_codeAny_call_defAt (binds := [("self", .ref a), (par, u)]) hr.depth (KX _ _ lk) rfl lim (PySem.W.codeRec_of KX hcd) rfl hb S.noCell (fun z hz => ?_) (fun h₁ hns hk => ?_) S.co S.gen S.kind
  · rcases List.mem_cons.mp hz with rfl | hz
    · exact S.kSelf
    · obtain rfl := List.mem_singleton.mp hz
      exact S.kPar
  have hKa : ∀ b o, K.lookup b = some o → b ∉ [a] := fun b o q z => by
    obtain rfl := List.mem_singleton.mp z
    have := (e0.bs b o (e0.mod.kin b o q)).2
    rw [e] at this
    cases this
  have X₀ : K.In (PySem.W.hideAll s.heap [a]) := fun b o q => PySem.W.hideAll_get _ (KX b o q) (hKa b o q)
  have F : Fr (PySem.W.hideAll s.heap [a]) s.heap.objs.size h₁ (fun x => ([("self", Value.ref a), (par, u)] : List (Str × Value)).reverse.lookup x) := ⟨hns, fun b o q => hk b o (PySem.W.of_hideAll _ q), Nat.le_of_eq (PySem.W.hideAll_size _ _)⟩
  have N : News (PySem.W.hideAll s.heap [a]) s.heap.objs.size h₁ [(a, PySem.W.excObj C t1 none .none)] := fun p hp => by
    obtain rfl := List.mem_singleton.mp hp
    exact ⟨hk _ _ ho, Nat.ne_of_lt (Heap.lt_size ho), PySem.W.hideAll_none _ List.mem_cons_self⟩
  have msl : (fun x => ([("self", Value.ref a), (par, u)] : List (Str × Value)).reverse.lookup x) "self" = some (.ref a) := by
    have : (("self" : Str) == par) = false := by simpa using fun z => S.ne z.symm
    simp [List.lookup, this]
  have mpa : (fun x => ([("self", Value.ref a), (par, u)] : List (Str × Value)).reverse.lookup x) par = some u := by simp [List.lookup]
  obtain ⟨ccl, cdd, fvs, ccs, file, tf, hcode, hvs, hfile⟩ := S.code
  obtain ⟨ccT, ccd, csl, hcell⟩ := S.cell
  obtain ⟨cdD, hD⟩ := S.cD
  obtain ⟨ar, hp1, hp2⟩ := hp
  have K1 : K.In h₁ := X₀.keeps F.keep
  have bk : ∀ b o, base.get? b = some o → h₁.get? b = some o := fun b o q => hk b o (e0.bs b o q).1
  obtain ⟨mb, hmb1, hmb2⟩ := e0.mod.blt
  obtain ⟨oD, hD1, hD2⟩ : ∃ oD, h₁.get? D = some oD ∧ oD.data = .cls cdD := by
    have hD' := hD
    unfold PySem.W.clsIn at hD'
    split at hD'
    · rename_i c d cd' sl ho
      cases hD'
      exact ⟨_, K1 _ _ ho, rfl⟩
    · cases hD'
  have I1 : PySem.W.InstAt h₁ a (PySem.W.excObj C t1 none .none) C none := ⟨hk _ _ ho, rfl, rfl, trivial⟩
  refine PySem.ks_wpAt_execs_cons (PySem.ks_wpAt_Expr_any (PySem.ks_wpAt_MethodCall (pl := pl) ?_ (he _)) (by show (_ && _) = false; simp [callEnv, newEnv, S.kind]) (hs0 _))
  refine PySem.ks_wpAt_super_base S.kS S.kC rfl rfl (K1 _ _ lk) rfl hp1 rfl (K1 _ _ hcode) rfl hvs hfile S.top ?_
  rw [hp2]
  refine PySem.W.ks_loadName_global S.kind S.kS (Calls.loadGlobal_builtin (e0.mod.glob.keeps bk) S.mgS (hmb1.keeps bk) ((hmb2 _ (by decide)).trans (by rfl)) ⟨rfl, ?_⟩)
  refine wpAny_loadName_free S.kind S.kC rfl ⟨_, K1 _ _ hcell, rfl⟩ ?_
  refine wpAny_loadName_local S.kind S.kSelf F.ns msl ?_
  refine PySem.ks_wpAny_isType_cls hD1 hD2 ⟨rfl, ?_⟩
  refine PySem.ks_wpAny_call_super hD1 hD2 I1.at_ I1.cls (fun c q => nomatch q) (PySem.W.looks_mroIn K1 S.sub) (fun h2 hso k2 => ?_)
  obtain ⟨F2, N2, _⟩ := PySem.W.ks_newsPush (s := { s with heap := h₁ }) F N rfl hso k2
  have I2 : PySem.W.InstAt h2 a (PySem.W.excObj C t1 none .none) C none := ⟨k2 _ _ I1.at_, rfl, rfl, trivial⟩
  refine PySem.W.kxs_method (B := "ValueError") (i := "ValueError.__init__") PySem.W.kxs_ValueError F2 X₀ N2 List.mem_cons_self I2 S.opq S.sup S.subB (by decide) (fun u3 h3 F3 N3 l3 => ?_)
  refine PySem.W.kxs_callWith1 N3 List.mem_cons_self ?_
  show wpAny _ _ (spliced ((false, eval (.Constant (.str msg) j q3) _) :: backTo q4 (starEach [] _))) _ _ _
  refine Calls.spliced_cons (Calls.Constant_str (Calls.spliced_nil ⟨(N3 _ List.mem_cons_self).1, ?_⟩))
  have us : u3 ≠ a := fun z => by
    have := l3 (a, _) (List.mem_cons_of_mem _ List.mem_cons_self)
    rw [z] at this
    exact Nat.lt_irrefl _ this
  have ss : h₁.objs.size ≠ a := Nat.ne_of_gt (Heap.lt_size I1.at_)
  refine PySem.W.kxs_call F3 X₀ N3 PySem.F.excBase_ValueError S.ini List.mem_cons_self (.tail us (.tail ss (.head fun p hp => nomatch hp))) (by show 1 ≤ sizeLine; rw [sizeLine_eq]; omega) (fun t4 h4 F4 N4 l4 => ?_)
  have ha4 : h4.get? a = some (PySem.W.excObj C t4 none .none) := (N4 _ (List.mem_cons_of_mem _ (List.mem_cons_of_mem _ (List.mem_cons_of_mem _ List.mem_cons_self)))).1
  have K4 : K.In h4 := X₀.keeps F4.keep
  refine PySem.ks_wpAt_execs_cons (wpAt_of_wpAny (plainObj_wpAny_Assign_Attribute ?_ (hs _)))
  refine wpAny_Name (wpAny_loadName_local S.kind S.kPar F4.ns mpa ?_) S.nd
  refine wpAny_Name (wpAny_loadName_local S.kind S.kSelf F4.ns msl ?_) (by decide)
  obtain ⟨nm, qq, NN, bs, bm, sn, sub, ab, col, dd, k0, k1, k2', k3, k5, hC, hbm⟩ := S.oex.cls
  have hcl : PySem.W.clsIn K C = some { name := nm, bases := bs, mro := .ref C :: bm, ns := NN, qualname := qq, hasDict := true, slotNames := sn, subclasses := sub, abstract := ab, collection := col, hasDel := false } := by unfold PySem.W.clsIn; rw [hC] <;> rfl
  refine PySem.W.set_plain K4 (ox := PySem.W.excObj C t4 none .none) (od := none) ⟨ha4, rfl, rfl, trivial⟩ S.oex.sa ?_
  refine PySem.HandSPX.exc_osa K4 ha4 hcl (show PySem.HandSPX.refsVE (.ref C :: bm) = true from hbm) rfl S.noF (fun h5 tk' dx k5' dn dne hx hn => ?_)
  refine wpAt_of_wpAny (wpAny_execs_nil ?_)
  have hsz : s.heap.objs.size ≤ h4.objs.size := by
    obtain ⟨oL, _, _, hL, _⟩ := F4.ns
    exact Nat.le_of_lt (Heap.lt_size hL)
  have hnd : H dx = none := e0.hok.fresh (Nat.le_trans hsz dn)
  exact init_end (mA := fun y => if y = fld then some u else none) e0.hok e0.bare e hnd dne (Nat.le_trans hsz dn) (fun b o hb q => k5' b o hb (F4.keep b o (PySem.W.hideAll_get _ q fun z => hb (List.mem_singleton.mp z)))) hx hn (relO_put (fs := []) ry fun g => True.intro) (hq dx hnd dne)
end
end PI

set_option Elab.async false
set_option linter.all false
set_option maxRecDepth 100000
set_option maxHeartbeats 2000000
/-! PI11: raise, defs, methods of lists, a list's place stored, isinstance. -/
namespace PI
open PySem PySem.Spec PyProof.Rows L2
open LamX (Tabs TabS CodeO ExtN)

/-! ### raise C(e), C an own exception with one field -/
def sRaise (C : Nat) (fld : Str) (e : SemE) : SemS := fun env st => RS.ofE (e env st) env fun v st1 => .exc ⟨C, [(fld, v)]⟩ env st1
section
variable {X : Cx} {P : Par X.K} {W : WX} {a b c e tg : Expr} {ra rb rc : SemE} {es : List Expr} {rs : SemA} {pos p p1 p2 : Pos} {σ : L2.St} {H : Hp} {x fld : Str}
theorem ss_raise {C fI : Addr} {lb : Nat} {k : Nat} {fd : FuncData} {ps : List Str} (hcm : P.cm lb = C) (hc : X.calm = true) (tk : Takes X W) (T : OexC X.K C) (iC : PySem.W.findIn X.K (.ref C) "__init__" = some (some (.ref fI))) (tI : PySem.W.typeIn X.K (.ref fI) = some (.type "function"))
    (F1 : FnOk X.prog X.w X.K X.mg X.base (L2.CX X.prog X.w) k fI fd ps (spSup C fld)) (hr : Room (k + 1) X.A) (hb : Binds X.K fd ps []) (hg : Gl X x) (hm : X.mg x = some (.ref C)) (he : SE X P W e ra)
    (hdb : (x == ("__debug__" : Str)) = false := by decide) (hst : starEach [e] X.env = (false, eval e X.env) :: starEach [] X.env := by rfl) (hpl : (backTo p2 (starEach [] X.env)).any (·.1) = false := by rfl) : SS X P W (.Raise (some (.Call (.Name x p) [e] [] p2)) none pos) (sRaise lb fld ra) :=
  (ps_raise hc tk (pmk_oex (dvs := []) (ds := []) T iC tI F1 hr hb .nil (passes_call (W := fun _ _ _ _ => False) LamX.takes0 (fun _ _ _ _ h => h)) hg hm (pa_cons he pa_nil hst) hdb hst hpl)).of fun D σ H ⟨ρ, env, st, r, re, h⟩ => by
    refine ⟨ρ, env, st, r, re, (PostS.ofE r.r re h).mono fun v H1 ⟨ρ1, st1, iv, e1, r1, re1, p1, h1⟩ => ?_⟩
    refine ⟨by simp, fun a0 ha0 => ⟨a0, v, rfl, upd_same, fun dx hdx hne => ?_⟩⟩
    have hd1 : H1 dx = none := by rw [upd_ne hne] at hdx; exact hdx
    refine ⟨rfl, dx, [(fld, v)], upd_same, by rw [upd_ne hne, upd_same], hd1, ?_⟩
    have eqH : upd (del (upd (upd (upd H1 a0 (exo a0 C none)) dx (exd dx [(fld, v)])) a0 (exo a0 C (some dx))) a0) dx (.xd [(fld, v)]) = upd H1 dx (.xd [(fld, v)]) := by
      funext z
      by_cases hz : z = dx
      · subst hz; rw [upd_same, upd_same]
      · rw [upd_ne hz, upd_ne hz]
        by_cases ha : z = a0
        · subst ha; rw [del_same, ha0]
        · rw [del_ne ha, upd_ne ha, upd_ne hz, upd_ne ha]
    rw [eqH]
    have ex := Ext.fresh r1.r hd1 (.xd [(fld, v)])
    exact h1 ρ1 _ _ _ σ ex.x (r1.ext ex (r1.r.fresh hd1 _)) (re1.mono r1.r ex) ⟨by rw [hcm], dx, [(fld, v)], rfl, upd_same, .cons (p1.mono r1.r ex) .nil⟩
end

/-! ### a def by its body -/
def startI (n : Nat) (xs : List IV) : IEnv := xs.map some ++ List.replicate (n - xs.length) none
def callI (n : Nat) (r : SemS) : List IV → Sto → RE IV := fun xs st => match r (startI n xs) st with
  | .nx _ st1 => .ok .non st1
  | .rt v st1 => .ok v st1
  | .exc x _ st1 => .exc x st1
  | _ => .bad
theorem relEnv_start {K : PySem.W.Frag} {H : Hp} {ρ : List Addr} {N : List Str} {xs : List IV} {vs : List V} (t : RepVs K H ρ xs vs) : RelEnv K H ρ (startI N.length xs) (L2.start N vs) := by
  refine ⟨by simp [startI, L2.start, t.length], fun i v e => ?_⟩
  unfold startI at e
  unfold L2.start
  by_cases hi : i < xs.length
  · rw [List.getElem?_append_left (by simpa using hi), List.getElem?_map] at e
    rw [List.getElem?_append_left (by rw [List.length_map, ← t.length]; exact hi), List.getElem?_map]
    cases q : xs[i]? with
    | none => rw [q] at e; cases e
    | some y =>
      rw [q] at e
      cases e
      obtain ⟨w, hw, rw'⟩ := t.get q
      exact ⟨w, by rw [hw]; rfl, rw'⟩
  · rw [List.getElem?_append_right (by simpa using hi), List.getElem?_replicate] at e
    split at e <;> cases e
theorem fn_I {P : Program} {w : World} {K : PySem.W.Frag} {mg : Str → Option Value} {base : Heap} {T : List (Addr × Str) × (Nat → Addr)} {k : Nat} {f : Addr} {name qual : Str} {params : Arguments} {body : List Stmt} {scope : Scope} {dV kV doc pm cdv ct oc : Value} {an od : Option Addr}
    {osl : Array (Option Value)} {N ps : List Str} {r : SemS} (lk : K.lookup f = some ⟨oc, od, .func (PySem.W.fnOf name qual params body scope dV kV doc pm an cdv ct), osl⟩) (hcd : PySem.W.codeIn K cdv qual = true) (S : FnScope N ps scope)
    (hbody : ∀ (A : Around) (outer : List Env) (s : Shared) (H : Hp) (E : XK) (Pr : Par K), Room k (A.deeper (envOfC qual scope s.heap.objs.size f cdv)) → (Pr.T, Pr.cm) = T →
      PSs (cxOf (L2.CX P w) P w K mg base N qual scope f cdv A outer s H E) body (tS Pr (fun c d _ H' => E c d H') r)) :
    FnOk P w K mg base (L2.CX P w) (k + 1) f (PySem.W.fnOf name qual params body scope dV kV doc pm an cdv ct) ps (spI K T ps.length (callI N.length r)) := by
  refine fn_of lk hcd S (fun vs H Q E h => h.1) fun A outer s H vs Q E hr h => ?_
  obtain ⟨hl, Pr, ρ, st, xs, hT, rx, t, hp⟩ := h
  refine ⟨_, hbody A outer s H E Pr hr hT, ρ, startI N.length xs, st, rx, relEnv_start t, ?_⟩
  unfold callI at hp
  split at hp
  · rename_i e1 st1 e
    rw [e]
    exact fun ρ' H' σ' x r' re => hp ρ' H' .non x r' .non
  · rename_i v st1 e
    rw [e]
    exact fun ρ' H' y x r' p => hp ρ' H' y x r' p
  · rename_i x e1 st1 e
    rw [e]
    exact fun ρ' H' c d σ' x r' re q => hp ρ' H' c d x r' q
  · exact hp.elim
/-- the body's wish about exceptions -/
theorem takes_fn {P : Program} {w : World} {K : PySem.W.Frag} {mg : Str → Option Value} {base : Heap} {N : List Str} {qual : Str} {scope : Scope} {f : Addr} {cd : Value} {A : Around} {outer : List Env} {s : Shared} {H : Hp} {E : XK} :
    Takes (cxOf (L2.CX P w) P w K mg base N qual scope f cd A outer s H E) (fun c d _ H' => E c d H') := takes_of rfl rfl rfl rfl
theorem passes_fn {P : Program} {w : World} {K : PySem.W.Frag} {mg : Str → Option Value} {base : Heap} {N : List Str} {qual : Str} {scope : Scope} {f : Addr} {cd : Value} {A : Around} {outer : List Env} {s : Shared} {H : Hp} {E : XK} :
    PassesOwn (model P w) (cxOf (L2.CX P w) P w K mg base N qual scope f cd A outer s H E).A (cxOf (L2.CX P w) P w K mg base N qual scope f cd A outer s H E).env (cxOf (L2.CX P w) P w K mg base N qual scope f cd A outer s H E).xe := passes_of rfl
end PI

set_option Elab.async false
set_option linter.all false
set_option maxRecDepth 100000
set_option maxHeartbeats 2000000
/-! PI12: isinstance, methods of lists, a list's place stored. -/
namespace PI
open PySem PySem.Spec PyProof.Rows L2
open LamX (Tabs TabS CodeO ExtN)

/-! ### isinstance -/
inductive TY where
  | non | bl | int | str | tup | lst | dct
  deriving DecidableEq
def TY.name : TY → String
  | .non => "NoneType"
  | .bl => "bool"
  | .int => "int"
  | .str => "str"
  | .tup => "tuple"
  | .lst => "list"
  | .dct => "dict"
def tyI (st : Sto) : IV → Option TY
  | .non => some .non
  | .bl _ => some .bl
  | .int _ => some .int
  | .str _ => some .str
  | .tup _ => some .tup
  | .ref n => match st.os[n]? with
    | some (.lst _) => some .lst
    | some (.frl _) => some .lst
    | _ => none
def TY.sub : TY → TY → Bool
  | .bl, .int => true
  | .non, .non => true
  | .bl, .bl => true
  | .int, .int => true
  | .str, .str => true
  | .tup, .tup => true
  | .lst, .lst => true
  | .dct, .dct => true
  | _, _ => false
theorem kit_TY : ∀ a b : TY, b ≠ .non → kitB a.name b.name = some (a.sub b) := by
  intro a b hb
  cases b <;> first
    | exact absurd rfl hb
    | (cases a <;> decide +kernel)
def rIsT (T : TY) (e : SemE) : SemE := fun env st => (e env st).bind fun v st1 => match tyI st1 v with
  | some t => .ok (.bl (t.sub T)) st1
  | none => .bad
section
variable {K : PySem.W.Frag} {H : Hp} {ρ : List Addr} {st : Sto}
theorem tyI_ok {v : IV} {x : V} {t : TY} (r : Rel K H ρ st) (p : RepV K H ρ v x) (e : tyI st v = some t) : TyX K H x (.type t.name) := by
  cases p with
  | non => cases e; exact .base .non
  | bl b => cases e; exact .base (.bl b)
  | int b => cases e; exact .base (.int b)
  | str b => cases e; exact .base (.str _)
  | tup h t =>
    cases e
    rcases h with (h | ⟨o, h⟩) | ⟨o, its, n, hk, hc, _⟩
    · exact .base (.tup h)
    · exact .fTuple h
    · exact .kTuple hk hc
  | @ref n a h =>
    have e' : (match st.os[n]? with
      | some (.lst _) => some TY.lst
      | some (.frl _) => some TY.lst
      | _ => none) = some t := e
    split at e'
    · rename_i h1
      cases e'
      obtain ⟨vs, q, _⟩ := r.obj n _ a h1 h
      exact .base (.lst q)
    · rename_i h1
      cases e'
      obtain ⟨vs, q, _⟩ := r.obj n _ a h1 h
      rcases q with q | ⟨o, q⟩
      · exact .base (.lst q)
      · exact .base (.frz q)
    · cases e'
end
section
variable {X : Cx} {P : Par X.K} {W : WX} {a b c e tg : Expr} {ra rb rc : SemE} {es : List Expr} {rs : SemA} {pos p p1 p2 q : Pos} {σ : L2.St} {H : Hp} {x : Str}
theorem se_isT {T : TY} {n : Str} (hT : T ≠ .non) (hg : Gl X "isinstance") (hm : X.mg "isinstance" = none) (hgT : Gl X n) (hmT : X.mg n = none) (hvT : bootBuiltins n = some (.type T.name)) (he : SE X P W e ra) (hnn : n ≠ "__name__" := by decide) (hdd : (n == ("__debug__" : Str)) = false := by decide)
    (h1 : starEach [e, .Name n q] X.env = (false, eval e X.env) :: starEach [.Name n q] X.env := by rfl) (h2 : starEach [.Name n q] X.env = (false, eval (.Name n q) X.env) :: starEach [] X.env := by rfl) (hpl : (backTo pos (starEach [.Name n q] X.env)).any (·.1) = false := by rfl) :
    SE X P W (.Call (.Name "isinstance" p) [e, .Name n q] [] pos) (rIsT T ra) :=
  (pe_callB call_isi hg hm (by rfl) (pa_cons he (pa_cons (pe_bltn hgT hmT hvT (v := .ty T.name) rfl hnn hdd) pa_nil h2) h1) (by decide) (by decide) h1 hpl).of fun σ H Q ⟨ρ, env, st, r, re, h⟩ => by
    refine ⟨ρ, env, st, r, re, h.bind.mono fun x H1 ⟨ρ1, st1, v, e1, r1, p1, h1⟩ => ?_⟩
    show rIsi X.K [x, .ty T.name] H1 Q
    split at h1
    · rename_i t et
      exact ⟨x, .ty T.name, .type t.name, .type T.name, t.sub T, rfl, .ty _, tyI_ok r1.r p1 et, kit_ty (kit_TY t T hT), h1.here r1 (.bl _)⟩
    · exact h1.elim

/-! ### methods of lists -/
def appI : Nat → List IV → Sto → RO
  | n, [v], st => match st.os[n]? with
    | some (.lst xs) => bif Nat.blt xs.length lineI then some (.non, { os := st.os.set n (.lst (xs ++ [v])), low := st.low }) else none
    | _ => none
  | _, _, _ => none
def extI : Nat → List IV → Sto → RO
  | n, [.ref m], st => match st.os[n]?, st.os[m]? with
    | some (.lst xs), some (.lst ys) => bif Nat.ble (xs.length + ys.length) lineI then some (.non, { os := st.os.set n (.lst (xs ++ ys)), low := st.low }) else none
    | _, _ => none
  | _, _, _ => none
def rMethL (f : Nat → List IV → Sto → RO) (o : SemE) (as : SemA) : SemE := fun env st => (o env st).bind fun v st1 => match v with
  | .ref n => match lstAt st1 n with
    | some _ => (as env st1).bind fun xs st2 => RE.ofO (f n xs st2)
    | none => .bad
  | _ => .bad
def rM (K : PySem.W.Frag) (f : Nat → List IV → Sto → RO) : V → List V → Hp → VK → Prop := fun x vs H Q => ∃ ρ st n xs, Rel K H ρ st ∧ RepV K H ρ (.ref n) x ∧ RepVs K H ρ xs vs ∧ PostO K ρ H Q (f n xs st)
theorem mt_appI : MtR X "list.append" (rM X.K appI) := by
  rintro pins s σ H x vs v us Q I rx rv ⟨ρ, st, n, xs, r, p, t, h⟩
  cases p with
  | @ref _ a ha =>
    unfold appI at h
    split at h
    · rename_i v' st' zz
      split at h
      · rename_i ys e
        obtain ⟨k, h⟩ := bif_some (P := PostO X.K ρ H Q) h post_none
        obtain ⟨y, rfl, py⟩ := t.one
        obtain ⟨ws, q, tw⟩ := r.obj _ (.lst _) a e ha
        have hl : ys.length < lineI := by simp [Nat.blt] at k; omega
        refine mt_append pins s σ H _ _ v us Q I rx rv ⟨a, ws, y, rfl, rfl, q, line_lt (by rw [← tw.length]; exact hl), ?_⟩
        have ex := Ext.write r ha (.lst (ws ++ [y]))
        have tv := (tw.append (.cons py .nil)).mono r ex
        exact h ρ _ .non ex (r.write ha _ (.lst _) ⟨_, upd_same, tv⟩ _) .non
      · exact h.elim
    · exact h.elim
theorem mt_extI : MtR X "list.extend" (rM X.K extI) := by
  rintro pins s σ H x vs v us Q I rx rv ⟨ρ, st, n, xs, r, p, t, h⟩
  cases p with
  | @ref _ a ha =>
    unfold extI at h
    split at h
    · rename_i n' m' st'
      split at h
      · rename_i xs0 ys e em
        obtain ⟨k, h⟩ := bif_some (P := PostO X.K ρ H Q) h post_none
        obtain ⟨y, rfl, py⟩ := t.one
        cases py with
        | @ref _ b hb =>
          obtain ⟨ws, q, tw⟩ := r.obj _ (.lst _) a e ha
          obtain ⟨zs, q2, tz⟩ := r.obj _ (.lst _) b em hb
          have hl := Nat.le_of_ble_eq_true k
          refine mt_extend pins s σ H _ _ v us Q I rx rv ⟨a, b, ws, zs, rfl, rfl, q, q2, line_ok (by rw [← tw.length, ← tz.length]; exact hl), ?_⟩
          have ex := Ext.write r ha (.lst (ws ++ zs))
          exact h ρ _ .non ex (r.write ha _ (.lst _) ⟨_, upd_same, (tw.append tz).mono r ex⟩ _) .non
      · exact h.elim
    · exact h.elim
theorem tBM_of {f : Nat → List IV → Sto → RO} {Q : VK} (h : tE P W (rMethL f ra rs) σ H Q) : tBM X.K "list" (rM X.K f) (tE P W ra) (tA P W rs) σ H Q := by
  obtain ⟨ρ, env, st, r, re, h⟩ := h
  refine ⟨ρ, env, st, r, re, h.bind.mono fun x H1 ⟨ρ1, st1, v, e1, r1, p1, h1⟩ => ?_⟩
  cases p1 with
  | @ref n a ha =>
    dsimp only at h1
    split at h1
    · rename_i ys el
      obtain ⟨vs, q, _⟩ := lstAt_sq r1.r el ha
      refine ⟨.inl ⟨rfl, vs, q⟩, ρ1, env, st1, r1, re.monoX r.r e1, h1.bind.mono fun xs H2 ⟨ρ2, st2, w, e2, r2, p2, h2⟩ => ?_⟩
      exact ⟨ρ2, st2, n, w, r2.r, .ref (pre_get e2.pre ha), p2, h2.ofO r2⟩
    · exact h1.elim
  | _ => exact h1.elim
theorem se_methL {id : String} {name : Str} {f : Nat → List IV → Sto → RO} (pa : PlainAttrs "list") (slot : Slot "list" name id) (hty : typeOf (.builtin id) = pure (.type "method_descriptor")) (hm : MtR X id (rM X.K f)) (ho : SE X P W a ra) (ha : SA X P W (e :: es) rs)
    (hbase : attributeBase a name X.env (eval a X.env) = eval a X.env := by rfl)
    (hfew : ((backTo pos (starEach (e :: es) X.env)).all (fun x => !x.1) && (backToKw pos (keywordEach [] X.env)).all (fun x => x.1.isSome)
      && decide ((e :: es).length + ([] : List Keyword).length + (if ([] : List Keyword).isEmpty then 0 else 1) < 30)) = true := by rfl)
    (hline : (p.endLine == pos.line) = true := by rfl) (hs : starEach (e :: es) X.env = (false, eval e X.env) :: starEach es X.env := by rfl) (hplain : (backTo pos (starEach es X.env)).any (·.1) = false := by rfl) :
    SE X P W (.Call (.Attribute a name p) (e :: es) [] pos) (rMethL f ra rs) := (pe_bm pa slot hty hm ho ha hbase hfew hline hs hplain).of fun _ _ _ => tBM_of

/-! ### o[i] = v -/
theorem set_I {st st' : Sto} {ρ : List Addr} {vo vi vv : IV} {o i v : V} {Q : Hp → Prop} (r : Rel X.K H ρ st) (po : RepV X.K H ρ vo o) (pi : RepV X.K H ρ vi i) (pv : RepV X.K H ρ vv v) (e : setI vo vi vv st = some st')
    (h : ∀ (ρ' : List Addr) (H' : Hp), Ext ρ H ρ' H' → Rel X.K H' ρ' st' → Q H') : rSetL o i v H Q := by
  unfold setI at e
  split at e
  · split at e
    · rename_i xs e1
      split at e
      · rename_i j ej
        cases e
        cases po with
        | ref ha =>
          cases pi
          obtain ⟨ws, q, tw⟩ := r.obj _ _ _ e1 ha
          have ex := Ext.write r ha (.lst (ws.set j v))
          exact ⟨_, ws, _, j, rfl, rfl, q, by rw [← tw.length]; exact ej, h ρ _ ex (r.write ha _ (.lst _) ⟨_, upd_same, (tw.set pv j).mono r ex⟩ st.low)⟩
      · cases e
    · cases e
  · cases e
theorem sg_sub (ho : SE X P W a ra) (hi : SE X P W b rb)
    (hasg : ∀ v, assign (.Subscript a b pos) X.env v = (do
      let ov ← holding [v] (eval a X.env)
      let iv ← holding [v, ov] (eval b X.env)
      standAt pos
      holding [v, ov, iv] (setItem ov iv v)
      release [v, ov, iv] []) := by intro _; rfl) : SG X P (.Subscript a b pos) (gSubI ra rb) :=
  (pg_sub ho hi set_list hasg).of fun v σ H Q ⟨ρ, env, st, w, env', st', r, re, p, e, h⟩ => by
    unfold gSubI at e
    split at e
    · rename_i ov st1 e1
      split at e
      · rename_i iv st2 e2
        split at e
        · rename_i st3 e3
          cases e
          refine ⟨ρ, env, st, r, re, ?_⟩
          rw [e1]
          intro ρ1 H1 x x1 r1 px
          refine ⟨ρ1, env, st1, r1, re.monoX r.r x1, ?_⟩
          rw [e2]
          intro ρ2 H2 y x2 r2 py
          refine set_I r2.r (px.monoX r1.r x2) py (p.monoX r.r (x1.trans x2)) e3 fun ρ3 H3 ex r3 => ?_
          exact h ρ3 H3 σ (x1.trans (x2.trans ex.x)) (r2.ext ex r3) (re.monoX r.r (x1.trans (x2.trans ex.x)))
        · cases e
      · cases e
    · cases e
end
end PI

set_option Elab.async false
set_option linter.all false
set_option maxRecDepth 100000
set_option maxHeartbeats 2000000
/-! PI13: repr of data. -/
namespace PI
open PySem PySem.Spec PyProof.Rows L2
open LamX (Tabs TabS CodeO ExtN)
def txtOf (d : PyData) : List Nat := d.shown.cps.toList
def reprI : List IV → Sto → RO
  | [v], st => match pd st.os 63 v with
    | some d => bif d.showable && (Nat.ble d.shown.length lineI && (txtOf d).all fun c => decide (c < 0x110000)) then some (.str (txtOf d), st) else none
    | none => none
  | _, _ => none
theorem str_eta (x : Str) : (⟨x.cps.toList.toArray⟩ : Str) = x := by
  cases x
  simp
section
variable {X : Cx}
theorem call_reprI (hg : X.A.guards = some []) (hu : X.A.units + 65 < cLine) : CallR X (.builtin "repr") (rCl X.K reprI) := by
  rintro pins s σ H vs us Q I rv ⟨ρ, st, xs, r, t, h⟩
  unfold reprI at h
  split at h
  · split at h
    · rename_i d ed
      obtain ⟨k, h⟩ := bif_some (P := PostO X.K ρ H Q) h post_none
      simp only [Bool.and_eq_true] at k
      obtain ⟨k1, k2, k3⟩ := k
      obtain ⟨v, rfl, p⟩ := t.one
      have ok := pd_ok r 63 _ v d p ed
      obtain ⟨u, rfl, ru⟩ := vals1 rv
      obtain ⟨as, rd⟩ := Dp.reads I d v u ok.dp ru
      have hz : d.shown.length ≤ sizeLine := line_ok (Nat.le_of_ble_eq_true k2)
      have hq : Q (.str d.shown) H := by
        have q := h.here (x := .str ⟨(txtOf d).toArray⟩) r (.str k3)
        rwa [txtOf, str_eta] at q
      have fin : ∀ tk, EP X pins σ Q (.str d.shown tk) { s with toks := s.toks + 1 } := fun tk => ⟨.str d.shown, H, I.tok _, ⟨_, rfl⟩, hq⟩
      cases u with
      | ref a =>
        have hd := ok.dep
        refine PySem.repr_of_reads' rd k1 (fun z => by rw [PyData.hasDict_of_canLay d ok.can] at z; cases z) hg (by omega) (fun _ _ e => e) (fun h' u tk hk => ?_) hz
        exact ⟨.str d.shown, H, I.kept hk, ⟨_, rfl⟩, hq⟩
      | _ =>
        cases rd <;> first
          | exact P.repr_of_none (by have := fin s.toks; rwa [PyData.shown_none] at this)
          | exact P.repr_of_bool (by have := fin s.toks; rwa [PyData.shown_bool] at this)
          | exact P.repr_of_int (of_decide_eq_true k1) (by have := fin s.toks; rwa [PyData.shown_int] at this)
          | exact P.repr_of_str (by have := fin s.toks; rwa [PyData.shown_str] at this) (by rwa [PyData.shown_str] at hz)
    · exact h.elim
  · exact h.elim
end
end PI

set_option Elab.async false
set_option linter.all false
set_option maxRecDepth 100000
set_option maxHeartbeats 2000000
/-! PI14: told(lambda: .., due): what the lambda raises is compared by its repr. -/
namespace PI
open PySem PySem.Spec PyProof.Rows L2
open LamX (Tabs TabS CodeO ExtN TabB LamS lamEnv lamCx)
theorem RelX.extN {K : PySem.W.Frag} {P : Par K} {H H1 : Hp} {ρ : List Addr} {st : Sto} (r : RelX P H ρ st) (e : ExtN H H1) (t : Tabs P.T H1) : ExtX ρ H ρ H1 ∧ RelX P H1 ρ st := by
  have ex : ExtX ρ H ρ H1 := ⟨List.prefix_refl _, fun a o h _ ht => e a o h ht, fun a h => .inl h⟩
  refine ⟨ex, ⟨r.r.len, r.r.nd, fun n o a e1 e2 => ?_⟩, t, P.mono r.r ex r.sd⟩
  have q := r.r.obj n o a e1 e2
  cases o with
  | lst xs => obtain ⟨vs, q, t⟩ := q; exact ⟨vs, e a _ q (fun _ z => nomatch z), t.monoX r.r ex⟩
  | frl xs =>
    obtain ⟨vs, q, t⟩ := q
    refine ⟨vs, ?_, t.monoX r.r ex⟩
    rcases q with q | ⟨ob, q⟩
    · exact .inl (e a _ q (fun _ z => nomatch z))
    · exact .inr ⟨ob, e a _ q (fun _ z => nomatch z)⟩
section
variable {X : Cx} {pins : List (Addr × Obj)} {σ : L2.St} {H HZ : Hp} {s s1 : Shared}
/-- x(), in the def that got the lambda; what it lets out may lean on the def's slots -/
theorem pe_act2 {CXg : CXT} {Eg : XK} {Ng : List Str} {qg : Str} {sg : Scope} {g f c' : Addr} {cdg pm ctv : Value} {params : Arguments} {body : Expr} {scope : Scope} {k i : Nat} {a : Str} {pn : List (Addr × Obj)} {xe : Value → Shared → Prop} {W : WX} {tb : XK → TE} {p1 p2 : Pos}
    (I : Inv X pins σ H s) (L : LamS X.env.scope scope) (hf : s.heap.get? f = some (PySem.W.kla_obj "<lambda>" (X.env.qual ++ "<lambda>") params body scope (cloFrom X.env.cells scope.names []) pm c' ctv)) (hfn : H f = none) (hfr : f ∉ frs X.stack)
    (hbind : bindArgs (PySem.W.kla_fn "<lambda>" (X.env.qual ++ "<lambda>") params body scope (cloFrom X.env.cells scope.names []) pm (.ref c') ctv) ⟨[], []⟩ = pure [])
    (tk : Takes ((cxOf CXg X.prog X.w X.K X.mg X.base Ng qg sg g cdg X.A X.stack s H Eg).tr pn xe) W) (hr : Room (k + 1) (X.A.deeper (envOfC qg sg s.heap.objs.size g cdg)))
    (hbody : ∀ (A : Around) (outer : List Env) (s : Shared) (H : Hp) (E : XK), Room k (A.deeper (lamEnv X scope s.heap.objs.size f c')) → PE (lamCx X A outer s H E scope f c') body (tb E))
    (hN : Ng[i]? = some a) (hv : Vis sg a) (hd : (a == ("__debug__" : Str)) = false := by decide) (hcd : (a == ("__classdict__" : Str)) = false := by decide) :
    PE ((cxOf CXg X.prog X.w X.K X.mg X.base Ng qg sg g cdg X.A X.stack s H Eg).tr pn xe) (.Call (.Name a p1) [] [] p2)
      (fun σZ HZ Q => σZ[i]? = some (some (.ref f)) ∧ HZ c' = some (CodeO c' (X.env.qual ++ "<lambda>")) ∧ tb (WE W σZ) σ HZ Q) := by
  refine ⟨fun pinsZ sZ σZ HZ Q IZ h => ?_⟩
  obtain ⟨hs, hc, ht⟩ := h
  refine wpAny_Call_Name_kw (thn ((pe_var (pos := p1) (i := i) hN hv hd hcd).run pinsZ sZ σZ HZ (fun v H1 => v = .ref f ∧ H1 = HZ) IZ ⟨.ref f, hs, rfl, rfl⟩) fun u s1 ⟨v, H1, I1, r1, q1⟩ => ?_)
  obtain ⟨ev, eH⟩ := q1
  subst ev
  rw [eH] at I1
  obtain rfl : u = Value.ref f := r1
  have of1 : s1.heap.get? f = some (PySem.W.kla_obj "<lambda>" (X.env.qual ++ "<lambda>") params body scope (cloFrom X.env.cells scope.names []) pm c' ctv) := I1.base.keep f _ hf hfn hfr (fun z => nomatch (show f ∈ ([] : List Addr) from z))
  refine PySem.W.callWith_F0 ⟨_, _, _, _, of1⟩ ?_
  have un : Un (frs X.stack) [] H HZ s.heap s1.heap := I1.base
  obtain ⟨⟨oc, vs, t, hoc, hdc, hvc⟩, _, _⟩ := I1.hok c' _ hc
  have rc : codeAny (model X.prog X.w) (X.A.deeper (envOfC qg sg s.heap.objs.size g cdg)) (.call (.ref f) ⟨[], []⟩) (CR (L2.CX X.prog X.w) (envOfC qg sg s.heap.objs.size g cdg :: X.stack) X.prog X.w HZ s1 Q (WE W σZ)) s1 := by
    refine PySem.W.kla_callFunE hr.depth of1 rfl L.co L.gen rfl ⟨c', oc, vs, t, rfl, hoc, hdc, hvc⟩ ?_
    rw [hbind]
    refine wpAny_pure (wpAny_newFunctionEnv (fun y hy => (L.own y hy).2) (fun y hy => absurd hy (by simp)) (fun h₁ hns hsb => ⟨I1.nolimit.fresh _ hsb, ?_⟩) L.kind)
    show codeAny _ _ (.expr body (lamEnv X scope s1.heap.objs.size f c')) _ _
    have kp : ∀ b o, s1.heap.get? b = some o → h₁.get? b = some o := fun b o e => hsb.extBut b o (Nat.ne_of_lt (Heap.lt_size e)) (Heap.get?_push_of_some _ e)
    have J : Inv (lamCx X (X.A.deeper (envOfC qg sg s.heap.objs.size g cdg)) (envOfC qg sg s.heap.objs.size g cdg :: X.stack) s1 HZ (WE W σZ) scope f c') [] σ HZ { s1 with heap := h₁, toks := s1.toks + ([] : List (Str × Value)).length } :=
      LamX.lam_start2 I L I1.env0 hr.hd un hns kp
    refine PySem.W.kla_codeExpr (wpAny_mono ((hbody _ _ s1 HZ (WE W σZ) (hr.deeper _)).run [] _ _ HZ Q J ht) (fun v s' hq => ?_) fun e s' hq => hq)
    obtain ⟨w', H', J', rv, q⟩ := hq
    exact ⟨w', H', J'.os, J'.bare, J'.base, J'.hok, rv, q⟩
  have hx : PassesAt (L2.CX X.prog X.w) ((cxOf CXg X.prog X.w X.K X.mg X.base Ng qg sg g cdg X.A X.stack s H Eg).tr pn xe) σZ (WE W σZ) := passAt tk σZ
  refine wpAny_call (codeAny_mono rc fun r s' hq => ?_)
  cases r with
  | error e => exact hx pinsZ HZ s1 e s' I1 hq
  | ok fl =>
    cases fl with
    | ret u => exact I1.after hq
    | next => exact False.elim hq
    | brk => exact False.elim hq
    | cont => exact False.elim hq
end
/-- what told(lambda: body, due) gives; C the class that is caught, fld its field -/
def rRefuses (C : Nat) (fld : Str) (body due : SemE) : SemE := fun env st => (due env st).bind fun vd st1 => match body env st1 with
  | .ok _ st2 => .ok (.bl false) st2
  | .exc x st2 => bif Nat.beq x.cls C then (match x.fs with
    | [(n, v)] => bif decide (n = fld) then RE.ofO ((reprI [v] st2).bind fun (a, st3) => (reprI [vd] st3).bind fun (b, st4) => blO (eqI st4 a b) st4) else .bad
    | _ => .bad) else .bad
  | .bad => .bad

structure ToldS (X : Cx) (Ng : List Str) (sg : Scope) (C : Addr) (a due e cn fld : Str) : Prop where
  N0 : Ng[0]? = some a
  N1 : Ng[1]? = some due
  N2 : Ng[2]? = some e
  nd : Ng.Nodup
  l0 : sg.names.lookup a = some .local
  l1 : sg.names.lookup due = some .local
  l2 : sg.names.lookup e = some .local
  gC : sg.names.lookup cn = some .globalImplicit
  gR : sg.names.lookup ("repr" : Str) = some .globalImplicit
  mC : X.mg cn = some (.ref C)
  mR : X.mg ("repr" : Str) = none
  xf : XfC X.K C
  no : PySem.W.findIn X.K (.ref C) fld = some none
  ex : PySem.W.exmOne X.K (.ref C) (.ref C) = some true
  dC : (cn == ("__debug__" : Str)) = false
  d0 : (a == ("__debug__" : Str)) = false
  c0 : (a == ("__classdict__" : Str)) = false
  d1 : (due == ("__debug__" : Str)) = false
  c1 : (due == ("__classdict__" : Str)) = false
  d2 : (e == ("__debug__" : Str)) = false
  c2 : (e == ("__classdict__" : Str)) = false
section
variable {X : Cx} {P : Par X.K} {W : WX}
/-- the try of told -/
theorem told_ok {Ng : List Str} {x a due e cn fld : Str} {sg : Scope} {g C f c' : Addr} {cdg : Value} {j : Nat} {p1 p2 p3 p4 p5 p6 p7 p8 p9 q1 q2 q3 q4 q5 q6 r1 r2 : Pos} {s : Shared} {H : Hp} {tl : XK → Hp → VK → Prop} (S : ToldS X Ng sg C a due e cn fld) (hgd : X.A.guards = some []) (hu : X.A.units + 100 < cLine)
    (act : ∀ (W : WX) (pn : List (Addr × Obj)) (xe : Value → Shared → Prop), Takes ((cxOf C8.CX0 X.prog X.w X.K X.mg X.base Ng x sg g cdg X.A X.stack s H C8.E0).tr pn xe) W →
      PE ((cxOf C8.CX0 X.prog X.w X.K X.mg X.base Ng x sg g cdg X.A X.stack s H C8.E0).tr pn xe) (.Call (.Name a p1) [] [] p2) (fun σZ HZ Q => σZ[0]? = some (some (.ref f)) ∧ HZ c' = some (CodeO c' (X.env.qual ++ "<lambda>")) ∧ tl (WE W σZ) HZ Q))
    (hsw : ∀ env, swapsWith (.Call (.Name a p1) [] [] p2) none p3.line env = pure false) (hat : ∀ env, attributeBase (.Name e q2) fld env (eval (.Name e q2) env) = eval (.Name e q2) env) (mono : ∀ (E E' : XK) (H : Hp) (Q : VK), (∀ c d H, E c d H → E' c d H) → tl E H Q → tl E' H Q) :
    PSs (cxOf C8.CX0 X.prog X.w X.K X.mg X.base Ng x sg g cdg X.A X.stack s H C8.E0).nox
      [.Try [.Expr (.Call (.Name a p1) [] [] p2) p3, .Return (some (.Constant (.bool false) j p4)) p5]
        [.ExceptHandler (some (.Name cn p6)) (some e) [.Return (some (.Compare (.Call (.Name "repr" q1) [.Attribute (.Name e q2) fld q3] [] q4) [.Eq] [.Call (.Name "repr" q5) [.Name due q6] [] p7] p8)) p9] r1] [] [] r2]
      (fun D σ H1 => σ[0]? = some (some (.ref f)) ∧ H1 c' = some (CodeO c' (X.env.qual ++ "<lambda>")) ∧ tl (fun c d H2 => c = .ref C ∧ ∀ a0, H2 a0 = none →
          (tOp (rB X.K fun a b st => blO (eqI st a b) st) (tCB (rCl X.K reprI) (tCons (tXf a0 c d C fld (tVar 2)) tNil)) (tCB (rCl X.K reprI) (tCons (tVar 1) tNil))) (σ.set 2 (some (.ref a0))) H2 D.rt) H1 fun _ H2 => D.rt (.bl false) H2) := by
  have hv : ∀ {y : Str}, sg.names.lookup y = some .local → Vis sg y := fun h => .inl h
  refine pss_one ((ps_try_as (X := (cxOf C8.CX0 X.prog X.w X.K X.mg X.base Ng x sg g cdg X.A X.stack s H C8.E0).nox) (c := .ref C) (i := 2) (n := e) (Wout := fun _ _ _ _ => False)
    (tb := fun W D σ H1 => σ[0]? = some (some (.ref f)) ∧ H1 c' = some (CodeO c' (X.env.qual ++ "<lambda>")) ∧ tl (WE W σ) H1 fun _ H2 => D.rt (.bl false) H2)
    (ts := fun a0 cls d => tRet (tOp (rB X.K fun a b st => blO (eqI st a b) st) (tCB (rCl X.K reprI) (tCons (tXf a0 cls d C fld (tVar 2)) tNil)) (tCB (rCl X.K reprI) (tCons (tVar 1) tNil))))
    rfl rfl S.nd S.N2 S.l2 ⟨S.gC, S.dC, .inl S.mC⟩ LamX.takes0 (fun W pn xe tk _ => ?_) (fun a0 oe cls d pn hz hvs => ?_)).of ?_)
  · have hp := act W pn xe tk
    exact (pss_cons (ps_expr hp (hsw _)) (pss_one (ps_ret pe_bl))).of fun D σ H1 ⟨h1, h2, h3⟩ => ⟨h1, h2, h3⟩
  · refine pss_one (ps_ret (pe_cmpR (op_eqI (by show X.A.units + 3 + 64 < cLine; omega)) (pe_callB (call_reprI hgd (by show X.A.units + 3 + 65 < cLine; omega)) S.gR S.mR (by rfl) (pa_cons (pe_xf S.xf S.no hz hvs (pe_var S.N2 (hv S.l2) S.d2 S.c2) (hat _)) pa_nil) (by decide) (by decide))
      (pe_callB (call_reprI hgd (by show X.A.units + 3 + 65 < cLine; omega)) S.gR S.mR (by rfl) (pa_cons (pe_var S.N1 (hv S.l1) S.d1 S.c1) pa_nil) (by decide) (by decide)) (nomark _)))
  · intro D σ H1 ⟨h1, h2, h3⟩
    refine ⟨h1, h2, mono _ _ _ _ (fun c d H2 ⟨hc, hq⟩ => ?_) h3⟩
    subst hc
    exact ⟨true, S.ex, fun _ a0 ha0 => hq a0 ha0, fun z => nomatch z⟩
end
end PI

set_option Elab.async false
set_option linter.all false
set_option maxRecDepth 100000
set_option maxHeartbeats 2000000
/-! PI15: told(lambda: .., due), called. -/
namespace PI
open PySem PySem.Spec PyProof.Rows L2
open LamX (Tabs TabS CodeO ExtN TabB LamS lamEnv lamCx)
section
variable {X : Cx} {P : Par X.K} {W : WX}
theorem se_refuses {x a due e cn fld : Str} {g c PP C : Addr} {lb : Nat} {k : Nat} {pg : Arguments} {sg : Scope} {dV kV doc pm cdv ct oc : Value} {an od : Option Addr} {osl : Array (Option Value)} {Ng : List Str}
    {params : Arguments} {body de : Expr} {scope : Scope} {rb rd : SemE} {p lpos pos : Pos} {j : Nat} {p1 p2 p3 p4 p5 p6 p7 p8 p9 q1 q2 q3 q4 q5 q6 r1 r2 : Pos} {bg : List Stmt}
    (hbg : bg = [.Try [.Expr (.Call (.Name a p1) [] [] p2) p3, .Return (some (.Constant (.bool false) j p4)) p5]
        [.ExceptHandler (some (.Name cn p6)) (some e) [.Return (some (.Compare (.Call (.Name "repr" q1) [.Attribute (.Name e q2) fld q3] [] q4) [.Eq] [.Call (.Name "repr" q5) [.Name due q6] [] p7] p8)) p9] r1] [] [] r2])
    (hcm : P.cm lb = C) (hs0 : X.stack = X.env :: X.outer) (hgd : X.A.guards = some []) (hun : X.A.units + 100 < cLine) (hg : Gl X x) (hm : X.mg x = some (.ref g)) (hk : PySem.W.keepIn X.K (.ref g) = true)
    (lk : X.K.lookup g = some ⟨oc, od, .func (PySem.W.fnOf x x pg bg sg dV kV doc pm an cdv ct), osl⟩) (hcg : PySem.W.codeIn X.K cdv x = true) (hb : L2.Binds X.K (PySem.W.fnOf x x pg bg sg dV kV doc pm an cdv ct) [a, due] []) (Sg : FnScope Ng [a, due] sg) (S : ToldS X Ng sg C a due e cn fld) (hNg : Ng.length = 3)
    (TB : TabB X.base X.mg c PP) (hcode : X.env.code = .ref c) (hmT : (PP, X.env.qual ++ "<lambda>") ∈ P.T) (hu : ∀ p ∈ P.T, p.1 = PP → p.2 = X.env.qual ++ "<lambda>") (hr : Room (k + 2) X.A) (L : LamS X.env.scope scope) (hdef : defaultsOf params X.env = ([], []))
    (hbind : ∀ (q : Str) (cl : List (Str × Addr)) (pm cv ctv : Value), bindArgs (PySem.W.kla_fn "<lambda>" q params body scope cl pm cv ctv) ⟨[], []⟩ = pure [])
    (hbody : ∀ (A : Around) (outer : List Env) (s : Shared) (H : Hp) (E : XK) (f c' : Addr), Room k (A.deeper (lamEnv X scope s.heap.objs.size f c')) → PE (lamCx X A outer s H E scope f c') body (tE P (fun c d _ H' => E c d H') rb))
    (hd : SA X P W [de] (rCons rd rNil))
    (hsw : ∀ env, swapsWith (.Call (.Name a p1) [] [] p2) none p3.line env = pure false) (hat : ∀ env, attributeBase (.Name e q2) fld env (eval (.Name e q2) env) = eval (.Name e q2) env)
    (hdb : (x == ("__debug__" : Str)) = false := by decide) (hst : starEach [.Lambda params body scope lpos, de] X.env = (false, eval (.Lambda params body scope lpos) X.env) :: starEach [de] X.env := by rfl) (hpl : (backTo pos (starEach [de] X.env)).any (·.1) = false := by rfl) :
    SE X P W (.Call (.Name x p) [.Lambda params body scope lpos, de] [] pos) (rRefuses lb fld rb rd) := by
  subst hbg
  refine ⟨fun pins s σ H Q I h => ?_⟩
  obtain ⟨ρ, env, st, rx, re, h⟩ := h
  refine wpAny_Call_Name_kw (ld_glob I hg hm ?_ hdb)
  refine PySem.W.callWith_K (h₀ := X.base) I.ok.mod.kin hk ?_ hst hpl
  rw [hst]
  show wpAny _ _ (spliced ((false, eval (.Lambda params body scope lpos) X.env) :: backTo pos (starEach [de] X.env))) _ _ s
  refine Calls.spliced_cons (LamX.lam_make2 I TB hcode hmT hu rx.tabs hdef (L.has I.ok) fun f c' pm' ctv H1 s' I1 eN T1 hf hfn hfr hco => ?_)
  obtain ⟨ex1, rx1⟩ := rx.extN eN T1
  have h1 : Post P W (RpV X.K) ρ H1 σ Q (rRefuses lb fld rb rd env st) := Post.ext ex1 h
  have re1 := re.monoX rx.r ex1
  have fL : f ≠ X.env.locals := fun z => by
    obtain ⟨m, ⟨o, es, ep, ho, hd, _⟩, _⟩ := I1.loc
    rw [← z, hf] at ho
    cases ho
    cases hd
  have fX : f ∉ X.fs := fun z => hfr (by rw [hs0]; unfold frs; exact List.mem_filterMap.mpr (by obtain ⟨y, h1, h2⟩ := List.mem_filterMap.mp z; exact ⟨y, List.mem_cons_of_mem _ h1, h2⟩))
  obtain ⟨fo, hfo⟩ : ∃ fo, fo = PySem.W.kla_obj "<lambda>" (X.env.qual ++ "<lambda>") params body scope (cloFrom X.env.cells scope.names []) pm' c' ctv := ⟨_, rfl⟩
  have I1p : Inv X (pins ++ [(f, fo)]) σ H1 s' := I1.pins_of fun q hq => by
    rcases List.mem_append.mp hq with hq | hq
    · exact I1.pin q (List.mem_append_right _ hq)
    · obtain rfl := List.mem_singleton.mp hq
      exact ⟨by rw [hfo]; exact hf, hfn, fL, fX, fun v z => by rw [hfo] at z; cases z⟩
  have hdue : tA P W (rCons rd rNil) σ H1 fun vs H2 => ∃ (ρ2 : List Addr) (st2 : Sto) (v : IV) (vv : V), vs = [vv] ∧ ExtX ρ H1 ρ2 H2 ∧ RelX P H2 ρ2 st2 ∧ RepV X.K H2 ρ2 v vv ∧ Post P W (RpV X.K) ρ2 H2 σ Q (match rb env st2 with
      | .ok _ st2 => .ok (.bl false) st2
      | .exc x st2 => bif Nat.beq x.cls lb then (match x.fs with
        | [(n, v')] => bif decide (n = fld) then RE.ofO ((reprI [v'] st2).bind fun (a, st3) => (reprI [v] st3).bind fun (b, st4) => blO (eqI st4 a b) st4) else .bad
        | _ => .bad) else .bad
      | .bad => .bad) := by
    refine ⟨ρ, env, st, rx1, re1, ?_⟩
    unfold rRefuses at h1
    unfold rCons rNil
    have h1' := h1
    cases hrd : rd env st with
    | ok v st2 =>
      rw [hrd] at h1'
      show Post P W (RpVs X.K) ρ H1 σ _ (.ok [v] st2)
      intro ρ2 H2 vs e2 r2 pv1
      obtain ⟨vv, rfl, pv2⟩ := RepVs.one pv1
      exact ⟨ρ2, st2, v, vv, rfl, e2, r2, pv2, Post.ext e2 h1'⟩
    | exc x st2 => rw [hrd] at h1'; exact h1'
    | bad => rw [hrd] at h1'; exact h1'
  refine thn (hd.run pos (pins ++ [(f, fo)]) s' σ H1 _ I1p hdue) fun us s2 ⟨vs, H2, I2, rv, ρ2, st2, v, vv, evs, ex2, rx2, pv, hp⟩ => ?_
  subst evs
  obtain ⟨u, rfl, ru⟩ := vals1 rv
  have hp2 := I2.pin (f, fo) (List.mem_append_right _ (List.mem_append_right _ List.mem_cons_self))
  have hf2 : s2.heap.get? f = some (PySem.W.kla_obj "<lambda>" (X.env.qual ++ "<lambda>") params body scope (cloFrom X.env.cells scope.names []) pm' c' ctv) := by rw [← hfo]; exact hp2.1
  have cn : c' ∉ ρ := fun z => by
    obtain ⟨_, ob, _, _, q⟩ := rx1.r.at' z
    cases ob with
    | lst xs => obtain ⟨vs, e, _⟩ := q; rw [hco] at e; unfold CodeO at e; cases e
    | frl xs => obtain ⟨vs, e | ⟨ob, e⟩, _⟩ := q <;> (rw [hco] at e; unfold CodeO at e; cases e)
  have hco2 : H2 c' = some (CodeO c' (X.env.qual ++ "<lambda>")) := ex2.keep c' _ hco cn (fun ps z => by unfold CodeO at z; cases z)
  have re2 := re1.monoX rx1.r ex2
  have rc : codeAny (model X.prog X.w) X.A (.call (.ref g) ⟨[.ref f, u], []⟩) (CR C8.CX0 X.stack X.prog X.w H2 s2 Q C8.E0) s2 := by
    refine LamX.run_ofS (N := Ng) (ps := [a, due]) (us := [.ref f, u]) (vs := [.ref f, vv]) lk hcg Sg hr I2.env0 (hb s2 [.ref f, u] I2.kIn rfl) (.cons rfl (.cons ru .nil)) rfl fun hr' => ?_
    refine ⟨_, (told_ok (tl := fun E H Q => tE P (fun c d _ H' => E c d H') rb σ H Q) S hgd hun (fun W pn xe tk => pe_act2 (i := 0) I2 L hf2 hp2.2.1 hfr (hbind _ _ _ _ _) tk hr' (fun A outer s H E hr2 => hbody A outer s H E f c' hr2) S.N0 (.inl S.l0) S.d0 S.c0) hsw hat (fun E E' H Q hE ⟨ρ, env, st, r, re, h⟩ => ⟨ρ, env, st, r, re, h.wx fun c d H' w => hE c d H' w⟩)).nox, ?_⟩
    have hst0 : L2.start Ng [V.ref f, vv] = [some (.ref f), some vv, none] := by simp [L2.start, hNg]
    refine ⟨by rw [hst0]; rfl, hco2, ρ2, env, st2, rx2, re2, ?_⟩
    cases hrb : rb env st2 with
    | ok v' st3 =>
      rw [hrb] at hp
      exact fun ρ' H' x' e r _ => hp ρ' H' (.bl false) e r (.bl false)
    | bad => rw [hrb] at hp; exact hp
    | exc xx st3 =>
      rw [hrb] at hp
      dsimp only at hp
      intro ρ3 H3 cc dd e3 r3 rxc
      obtain ⟨k1, hp⟩ := bif_bad hp
      have hcl := Nat.eq_of_beq_eq_true k1
      obtain ⟨rfl, dd', ws, rfl, hxd, rf⟩ := rxc
      rw [hcl, hcm]
      refine ⟨rfl, fun a0 ha0 => ?_⟩
      split at hp
      · rename_i n v' efs
        obtain ⟨k2, hp⟩ := bif_bad hp
        have hn := of_decide_eq_true k2
        rw [efs] at rf
        cases rf with
        | @cons _ _ w _ ws' pw tw =>
          cases tw
          cases e4 : reprI [v'] st3 with
          | none => rw [e4] at hp; exact hp.elim
          | some q4 =>
            obtain ⟨av, st4⟩ := q4
            rw [e4] at hp
            cases e5 : reprI [v] st4 with
            | none => simp only [Option.bind_some] at hp; rw [e5] at hp; exact hp.elim
            | some q5 =>
              obtain ⟨bv, st5⟩ := q5
              simp only [Option.bind_some] at hp
              rw [e5] at hp
              simp only [Option.bind_some] at hp
              refine ⟨.ref a0, by rw [hst0]; rfl, rfl, rfl, dd', _, w, rfl, hxd, by rw [hn]; simp [List.lookup], ?_⟩
              refine ⟨ρ3, st3, [v'], r3.r, .cons pw .nil, ?_⟩
              rw [e4]
              intro ρ4 H4 y x4 r4 py
              refine ⟨vv, by rw [hst0]; rfl, ρ4, st4, [v], r4, .cons ((pv.monoX rx2.r e3).mono r3.r x4) .nil, ?_⟩
              rw [e5]
              intro ρ5 H5 z x5 r5 pz
              have rx4 := r3.ext x4 r4
              have rx5 := rx4.ext x5 r5
              exact ⟨ρ5, st5, av, bv, r5, py.mono r4 x5, pz, Post.ofO (Post.ext (e3.trans (x4.x.trans x5.x)) hp) rx5⟩
      · exact hp.elim
  refine ⟨I2.kIn, wpAny_call (codeAny_mono rc fun r s3 hq => ?_)⟩
  cases r with
  | error e => exact (show False from hq).elim
  | ok fl =>
    cases fl with
    | ret u =>
      obtain ⟨v3, H3, J, rv3, q3⟩ := I2.after hq
      exact ⟨v3, H3, J.pins_of fun p hp => J.pin p (List.mem_append_right _ (List.mem_append_left _ hp)), rv3, q3⟩
    | next => exact False.elim hq
    | brk => exact False.elim hq
    | cont => exact False.elim hq
end
end PI

set_option Elab.async false
set_option linter.all false
set_option maxRecDepth 100000
set_option maxHeartbeats 2000000
/-! PI16: what the printed texts use. -/
namespace PI
open PySem PySem.Spec PyProof.Rows L2
open LamX (Tabs TabS CodeO ExtN TabB LamS lamEnv lamCx)
abbrev cEq : IV → IV → Sto → RO := fun a b st => blO (eqI st a b) st
abbrev cNe : IV → IV → Sto → RO := fun a b st => blN (eqI st a b) st
abbrev cIn : IV → IV → Sto → RO := fun a b st => blO (inI st a b) st
abbrev cNotIn : IV → IV → Sto → RO := fun a b st => blN (inI st a b) st
abbrev cIs : IV → IV → Sto → RO := fun a b st => blO (isNI a b) st
abbrev cIsNot : IV → IV → Sto → RO := fun a b st => blN (isNI a b) st
abbrev cLt : IV → IV → Sto → RO := fun a b st => blO (ltI a b) st
abbrev cLe : IV → IV → Sto → RO := fun a b st => blO (leI a b) st
abbrev cGt : IV → IV → Sto → RO := fun a b st => blO (ltI b a) st
abbrev cGe : IV → IV → Sto → RO := fun a b st => blO (leI b a) st
theorem ru4 {k : Nat} {A : Around} (r : Room k A) : A.units + 64 < cLine := by have := r.un; omega
theorem ru5 {k : Nat} {A : Around} (r : Room k A) : A.units + 65 < cLine := by have := r.un; omega
/-- a constant of the module -/
structure Gc (K : PySem.W.Frag) (mg : Str → Option Value) (x : Str) (c : IV) : Prop where
  ex : ∃ (v : V) (u : Value), mg x = some u ∧ RelV v u ∧ ∀ H ρ, RepV K H ρ c v
/-- a def that gives what g says -/
structure Dn (P : Program) (w : World) (K : PySem.W.Frag) (mg : Str → Option Value) (base : Heap) (T : List (Addr × Str) × (Nat → Addr)) (k : Nat) (x : Str) (n : Nat) (g : List IV → Sto → RE IV) : Prop where
  ex : ∃ (f : Addr) (fd : FuncData) (ps : List Str), ps.length = n ∧ mg x = some (.ref f) ∧ PySem.W.keepIn K (.ref f) = true ∧ L2.Binds K fd ps [] ∧ FnOk P w K mg base (L2.CX P w) k f fd ps (spI K T n g)
/-- an exception class of one field -/
structure Xn (P : Program) (w : World) (K : PySem.W.Frag) (mg : Str → Option Value) (base : Heap) (cm : Nat → Addr) (lb : Nat) (x fld : Str) : Prop where
  ex : ∃ (C fI : Addr) (fd : FuncData) (ps : List Str), cm lb = C ∧ mg x = some (.ref C) ∧ OexC K C ∧ PySem.W.findIn K (.ref C) "__init__" = some (some (.ref fI)) ∧ PySem.W.typeIn K (.ref fI) = some (.type "function") ∧ L2.Binds K fd ps [] ∧ FnOk P w K mg base (L2.CX P w) 1 fI fd ps (spSup C fld)
section
variable {X : Cx} {P : Par X.K} {W : WX} {a e : Expr} {es : List Expr} {ra : SemE} {rs : SemA} {pos p p2 : Pos} {x fld : Str}
theorem se_gc {c : IV} (G : Gc X.K X.mg x c) (hg : Gl X x) (hd : (x == ("__debug__" : Str)) = false := by decide) : SE X P W (.Name x pos) (rC c) := by
  obtain ⟨v, u, h1, h2, h3⟩ := G.ex
  exact se_glob hg h1 h2 h3 hd
theorem se_dn {g : List IV → Sto → RE IV} {k n : Nat} (D : Dn X.prog X.w X.K X.mg X.base (P.T, P.cm) k x n g) (tk : Takes X W) (hr : Room k X.A) (hg : Gl X x) (ha : SA X P W (a :: es) rs) (hl : LenN n rs)
    (hdb : (x == ("__debug__" : Str)) = false := by decide) (he : starEach (a :: es) X.env = (false, eval a X.env) :: starEach es X.env := by rfl) (hpl : (backTo pos (starEach es X.env)).any (·.1) = false := by rfl) : SE X P W (.Call (.Name x p) (a :: es) [] pos) (rDef g rs) := by
  obtain ⟨f, fd, ps, rfl, h1, h2, h3, F⟩ := D.ex
  exact se_def F tk hr hg h1 h2 h3 rfl ha (fun σ H Q h => hl.many σ H Q h) hdb he hpl
theorem ss_rs {lb : Nat} (D : Xn X.prog X.w X.K X.mg X.base P.cm lb x fld) (hc : X.calm = true) (tk : Takes X W) (hr : Room 2 X.A) (hg : Gl X x) (he : SE X P W e ra)
    (hdb : (x == ("__debug__" : Str)) = false := by decide) (hst : starEach [e] X.env = (false, eval e X.env) :: starEach [] X.env := by rfl) (hpl : (backTo p2 (starEach [] X.env)).any (·.1) = false := by rfl) : SS X P W (.Raise (some (.Call (.Name x p) [e] [] p2)) none pos) (sRaise lb fld ra) := by
  obtain ⟨C, fI, fd, ps, hcm, h1, T, iC, tI, hb, F⟩ := D.ex
  exact ss_raise hcm hc tk T iC tI F hr hb hg h1 he hdb hst hpl
theorem pts_yes : PTs X [] (tT P W rYes) := ⟨fun pins s σ H Q I ⟨ρ, env, st, r, re, h⟩ => pts_nil.run pins s σ H Q I (h.here r rfl)⟩
end
/-- a def by its printed body -/
theorem dn_mk {P : Program} {w : World} {K : PySem.W.Frag} {mg : Str → Option Value} {base : Heap} {T : List (Addr × Str) × (Nat → Addr)} {k : Nat} {x : Str} {st : Stmt} {N ps : List Str} {r : SemS} {n m : Nat}
    (hF : ∃ f fd, mg x = some (.ref f) ∧ Fun K x x st f fd) (S : FnScope N ps (defScope st)) (hn : ps.length = n) (hm : N.length = m)
    (hb : ∀ (kV doc pm : Value) (an : Option Addr) (cdv ct : Value) (us : List Value), us.length = ps.length → bindArgs (PySem.W.fnOf x x (defArgs st) (defBody st) (defScope st) .none kV doc pm an cdv ct) ⟨us, []⟩ = pure (ps.zip us))
    (hbody : ∀ (f : Addr) (cdv : Value) (A : Around) (outer : List Env) (s : Shared) (H : Hp) (E : XK) (Pr : Par K), Room k (A.deeper (envOfC x (defScope st) s.heap.objs.size f cdv)) → (Pr.T, Pr.cm) = T →
      PSs (cxOf (L2.CX P w) P w K mg base N x (defScope st) f cdv A outer s H E) (defBody st) (tS Pr (fun c d _ H' => E c d H') r)) : Dn P w K mg base T (k + 1) x n (callI m r) := by
  obtain ⟨f, fd, h1, F⟩ := hF
  have hbi := F.binds hb
  have kp := F.kp
  obtain ⟨oc, od, kV, doc, pm, an, cdv, ct, osl, rfl, lk, hcd⟩ := F.ex
  subst hn hm
  exact ⟨f, _, ps, rfl, h1, kp, hbi, fn_I lk hcd S fun A outer s H E Pr hr hT => hbody f cdv A outer s H E Pr hr hT⟩
end PI

set_option Elab.async false
set_option linter.all false
set_option maxRecDepth 100000
set_option maxHeartbeats 2000000
/-! PI17: try: .. except C as e: if e.f != k: return False. -/
namespace PI
open PySem PySem.Spec PyProof.Rows L2
def sTryNe (lb : Nat) (fld : Str) (k : Int) (ie : Nat) (rb : SemS) : SemS := fun env st => match rb env st with
  | .exc x env1 st1 => bif Nat.beq x.cls lb && Nat.blt ie env1.length then (match x.fs with
    | [(n, .int i)] => bif decide (n = fld) then (bif decide (i = k) then .nx (env1.set ie none) st1 else .rt (.bl false) st1) else .bad
    | _ => .bad) else .bad
  | .nx e s => .nx e s
  | .rt v s => .rt v s
  | .bk e s => .bk e s
  | .ct e s => .ct e s
  | .bad => .bad
section
variable {X : Cx} {P : Par X.K} {W : WX} {body : List Stmt} {rb : SemS} {cn e fld : Str} {C : Addr} {lb ie j1 j2 : Nat} {k : Int} {p0 p1 p2 p3 p4 p5 p6 p7 p8 p9 : Pos}
theorem RelEnv.unset {K : PySem.W.Frag} {H : Hp} {ρ : List Addr} {env : IEnv} {σ : L2.St} (h : RelEnv K H ρ env σ) (i : Nat) : RelEnv K H ρ (env.set i none) (σ.set i none) := by
  refine ⟨by simp [h.len], fun m w q => ?_⟩
  by_cases hj : i = m
  · subst hj
    have hl : i < env.length := by
      have := (List.getElem?_eq_some_iff.mp q).1
      simpa using this
    rw [List.getElem?_set_self hl] at q
    cases q
  · rw [List.getElem?_set_ne hj] at q ⊢
    exact h.get m w q
theorem ss_tryNe (hcm : P.cm lb = C) (hs : X.stack = X.env :: X.outer) (hf : X.env.frame = some X.env.locals) (hN : X.N.Nodup) (hi : X.N[ie]? = some e) (hln : X.env.kindOf e = some .local) (hc : Names X cn (.ref C)) (T : XfC X.K C) (hno : PySem.W.findIn X.K (.ref C) fld = some none)
    (hex : PySem.W.exmOne X.K (.ref C) (.ref C) = some true) (hd : (e == ("__debug__" : Str)) = false) (hcd : (e == ("__classdict__" : Str)) = false)
    (hb : ∀ (W : WX) (pn : List (Addr × Obj)) (xe : Value → Shared → Prop), Takes (X.tr pn xe) W → PassesOwn (model X.prog X.w) X.A X.env xe → PSs (X.tr pn xe) body (tS P W rb))
    (hat : ∀ env, attributeBase (.Name e p3) fld env (eval (.Name e p3) env) = eval (.Name e p3) env) :
    SS X P W (.Try body [.ExceptHandler (some (.Name cn p0)) (some e) [.If (.Compare (.Attribute (.Name e p3) fld p4) [.NotEq] [.Constant (.int k) j1 p5] p6) [.Return (some (.Constant (.bool false) j2 p7)) p8] [] p9] p1] [] [] p2) (sTryNe lb fld k ie rb) :=
  (ps_try_as (c := .ref C) (i := ie) (n := e) (Wout := fun _ _ _ _ => False) (tb := fun W => tS P W rb)
    (ts := fun a cls d => tIfS (tTest (tOp rNe (tXf a cls d C fld (tVar ie)) (tC (.int k)))) (tRet (tC (.bl false))) tNext)
    hs hf hN hi hln hc LamX.takes0 hb (fun a oe cls d pn hz hvs => pss_one (ps_if (pt_cmpR op_ne (pe_xf T hno hz hvs (pe_var hi (.inl hln) hd hcd) (hat _)) pe_int (nomark _)) (pss_one (ps_ret pe_bl)) pss_nil))).of fun D σ H ⟨ρ, env, st, rx, re, h⟩ => by
    refine ⟨ρ, env, st, rx, re, ?_⟩
    unfold sTryNe at h
    cases hr : rb env st with
    | exc x env1 st1 =>
      rw [hr] at h
      dsimp only at h
      cases hk : (Nat.beq x.cls lb && Nat.blt ie env1.length) with
      | false => rw [hk] at h; exact h.elim
      | true =>
        rw [hk] at h
        obtain ⟨k1, k2⟩ := Bool.and_eq_true_iff.mp hk
        have hcl := Nat.eq_of_beq_eq_true k1
        have hlt : ie < env1.length := by simp [Nat.blt] at k2; omega
        intro ρ' H' c d σ' ex r' re' rxc
        obtain ⟨rfl, dd, vs, rfl, hxd, rf⟩ := rxc
        rw [hcl, hcm]
        refine ⟨true, hex, fun _ a ha => ?_, fun z => nomatch z⟩
        simp only [cond_true] at h
        split at h
        · rename_i n i efs
          cases hn : decide (n = fld) with
          | false => rw [hn] at h; exact h.elim
          | true =>
            rw [hn] at h
            simp only [cond_true] at h
            have hn' := of_decide_eq_true hn
            rw [efs] at rf
            cases rf with
            | @cons _ _ w _ ws' pw tw =>
              cases tw
              cases pw
              have hlt' : ie < σ'.length := by rw [← re'.len]; exact hlt
              refine ⟨.ref a, by rw [List.getElem?_set_self hlt'], rfl, rfl, dd, _, .int i, rfl, hxd, by rw [hn']; simp [List.lookup], rfl, _, rfl, ?_⟩
              by_cases hik : i = k
              · subst hik
                rw [decide_eq_true rfl] at h
                rw [decide_eq_true rfl]
                show (if (!true) = true then _ else _)
                rw [if_neg (by decide)]
                show D.nx ((σ'.set ie (some (V.ref a))).set ie none) H'
                rw [List.set_set]
                exact h ρ' H' _ ex r' (re'.unset ie)
              · rw [decide_eq_false hik] at h
                have : decide (V.int i = V.int k) = false := decide_eq_false fun z => hik (V.int.inj z)
                rw [this]
                show (if (!false) = true then _ else _)
                rw [if_pos (by decide)]
                exact h ρ' H' (.bl false) ex r' (.bl false)
        · exact h.elim
    | nx => rw [hr] at h; exact h
    | rt => rw [hr] at h; exact h
    | bk => rw [hr] at h; exact h
    | ct => rw [hr] at h; exact h
    | bad => rw [hr] at h; exact h
end
end PI

set_option Elab.async false
set_option linter.all false
set_option maxRecDepth 100000
set_option maxHeartbeats 2000000
/-! PI18: defs that want to know that no guard runs; told as a record. -/
namespace PI
open PySem PySem.Spec PyProof.Rows L2
open LamX (Tabs TabS CodeO ExtN TabB LamS lamEnv lamCx)
structure FnOkG (P : Program) (w : World) (K : PySem.W.Frag) (mg : Str → Option Value) (base : Heap) (CX : CXT) (k : Nat) (f : Addr) (fd : FuncData) (ps : List Str) (sp : Sp) : Prop where
  len : ∀ vs H Q E, sp vs H Q E → vs.length = ps.length
  run : ∀ (A : Around) (outer : List Env) (s : Shared) (H : Hp) (args : Args) (us : List Value) (vs : List V) (Q : VK) (E : XK), A.guards = some [] → Room k A → Env0 P w K mg base A outer s H → BindsTo s fd args (ps.zip us) → Vals vs us → sp vs H Q E →
    codeAny (model P w) A (.call (.ref f) args) (CR CX outer P w H s Q E) s
structure DnG (P : Program) (w : World) (K : PySem.W.Frag) (mg : Str → Option Value) (base : Heap) (T : List (Addr × Str) × (Nat → Addr)) (k : Nat) (x : Str) (n : Nat) (g : List IV → Sto → RE IV) : Prop where
  ex : ∃ (f : Addr) (fd : FuncData) (ps : List Str), ps.length = n ∧ mg x = some (.ref f) ∧ PySem.W.keepIn K (.ref f) = true ∧ L2.Binds K fd ps [] ∧ FnOkG P w K mg base (L2.CX P w) k f fd ps (spI K T n g)
theorem fn_IG {P : Program} {w : World} {K : PySem.W.Frag} {mg : Str → Option Value} {base : Heap} {T : List (Addr × Str) × (Nat → Addr)} {k : Nat} {f : Addr} {name qual : Str} {params : Arguments} {body : List Stmt} {scope : Scope} {dV kV doc pm cdv ct oc : Value} {an od : Option Addr}
    {osl : Array (Option Value)} {N ps : List Str} {r : SemS} (lk : K.lookup f = some ⟨oc, od, .func (PySem.W.fnOf name qual params body scope dV kV doc pm an cdv ct), osl⟩) (hcd : PySem.W.codeIn K cdv qual = true) (S : FnScope N ps scope)
    (hbody : ∀ (A : Around) (outer : List Env) (s : Shared) (H : Hp) (E : XK) (Pr : Par K), A.guards = some [] → Room k (A.deeper (envOfC qual scope s.heap.objs.size f cdv)) → (Pr.T, Pr.cm) = T →
      PSs (cxOf (L2.CX P w) P w K mg base N qual scope f cdv A outer s H E) body (tS Pr (fun c d _ H' => E c d H') r)) :
    FnOkG P w K mg base (L2.CX P w) (k + 1) f (PySem.W.fnOf name qual params body scope dV kV doc pm an cdv ct) ps (spI K T ps.length (callI N.length r)) := by
  refine ⟨fun vs H Q E h => h.1, fun A outer s H args us vs Q E hg hr e0 hb rv h => ?_⟩
  have hl := h.1
  refine LamX.run_ofS lk hcd S hr e0 hb rv hl fun hr' => ?_
  obtain ⟨hl, Pr, ρ, st, xs, hT, rx, t, hp⟩ := h
  refine ⟨_, hbody A outer s H E Pr hg hr' hT, ρ, startI N.length xs, st, rx, relEnv_start t, ?_⟩
  unfold callI at hp
  split at hp
  · rename_i e1 st1 e
    rw [e]
    exact fun ρ' H' σ' x r' re => hp ρ' H' .non x r' .non
  · rename_i v st1 e
    rw [e]
    exact fun ρ' H' y x r' p => hp ρ' H' y x r' p
  · rename_i x e1 st1 e
    rw [e]
    exact fun ρ' H' c d σ' x r' re q => hp ρ' H' c d x r' q
  · exact hp.elim
/-- a def by its printed body, guards known; cd the def's code -/
theorem dn_mkG {P : Program} {w : World} {K : PySem.W.Frag} {mg : Str → Option Value} {base : Heap} {T : List (Addr × Str) × (Nat → Addr)} {k : Nat} {x : Str} {st : Stmt} {N ps : List Str} {r : SemS} {n m : Nat} {c : Addr}
    (hF : ∃ f fd, mg x = some (.ref f) ∧ Fun K x x st f fd ∧ fd.code = .ref c) (S : FnScope N ps (defScope st)) (hn : ps.length = n) (hm : N.length = m)
    (hb : ∀ (kV doc pm : Value) (an : Option Addr) (cdv ct : Value) (us : List Value), us.length = ps.length → bindArgs (PySem.W.fnOf x x (defArgs st) (defBody st) (defScope st) .none kV doc pm an cdv ct) ⟨us, []⟩ = pure (ps.zip us))
    (hbody : ∀ (f : Addr) (A : Around) (outer : List Env) (s : Shared) (H : Hp) (E : XK) (Pr : Par K), A.guards = some [] → Room k (A.deeper (envOfC x (defScope st) s.heap.objs.size f (.ref c))) → (Pr.T, Pr.cm) = T →
      PSs (cxOf (L2.CX P w) P w K mg base N x (defScope st) f (.ref c) A outer s H E) (defBody st) (tS Pr (fun c d _ H' => E c d H') r)) : DnG P w K mg base T (k + 1) x n (callI m r) := by
  obtain ⟨f, fd, h1, F, hc⟩ := hF
  have hbi := F.binds hb
  have kp := F.kp
  obtain ⟨oc, od, kV, doc, pm, an, cdv, ct, osl, rfl, lk, hcd⟩ := F.ex
  obtain rfl : cdv = .ref c := hc
  subst hn hm
  exact ⟨f, _, ps, rfl, h1, kp, hbi, fn_IG lk hcd S fun A outer s H E Pr hg hr hT => hbody f A outer s H E Pr hg hr hT⟩
section
variable {X : Cx} {P : Par X.K} {W : WX} {a e : Expr} {es : List Expr} {ra : SemE} {rs : SemA} {pos p p2 : Pos} {x fld : Str}
/-- x(), x such a def -/
theorem se_dnG0 {g : List IV → Sto → RE IV} {k : Nat} (D : DnG X.prog X.w X.K X.mg X.base (P.T, P.cm) k x 0 g) (tk : Takes X W) (hgd : X.A.guards = some []) (hr : Room k X.A) (hg : Gl X x)
    (hdb : (x == ("__debug__" : Str)) = false := by decide) : SE X P W (.Call (.Name x p) [] [] pos) (fun _ st => g [] st) := by
  obtain ⟨f, fd, ps, hps, h1, h2, hb, F⟩ := D.ex
  refine ⟨fun pins s σ H Q I ⟨ρ, env, st, r, re, h⟩ => ?_⟩
  refine wpAny_Call_Name_kw (ld_glob I hg h1 ?_ hdb)
  refine PySem.W.callWith_K0 I.kIn h2 ?_
  have b := hb s [] I.kIn (by simp [hps])
  refine wpAny_call (codeAny_mono (F.run X.A X.stack s H ⟨[], []⟩ [] [] Q (WE W σ) hgd hr I.env0 b .nil ⟨rfl, P, ρ, st, [], rfl, r, .nil, h.wx fun c d H' w => w⟩) fun r s' hq => ?_)
  cases r with
  | error e => exact passAt tk σ pins H s e s' I hq
  | ok fl =>
    cases fl with
    | ret u => exact I.after hq
    | next => exact False.elim hq
    | brk => exact False.elim hq
    | cont => exact False.elim hq
end
/-- told(lambda, due), what the row says of it -/
structure Tn (P : Program) (K : PySem.W.Frag) (mg : Str → Option Value) (cm : Nat → Addr) (lb : Nat) (x cn fld : Str) (st : Stmt) (a due e : Str) : Prop where
  F : ∃ g fd, mg x = some (.ref g) ∧ Fun K x x st g fd
  C : ∃ C, cm lb = C ∧ mg cn = some (.ref C) ∧ XfC K C ∧ PySem.W.findIn K (.ref C) fld = some none ∧ PySem.W.exmOne K (.ref C) (.ref C) = some true
  mR : mg ("repr" : Str) = none
/-- the tables of the lambdas of the def whose code is at c -/
structure Tb (base : Heap) (mg : Str → Option Value) (T : List (Addr × Str)) (c : Addr) (q : Str) : Prop where
  ex : ∃ PP, TabB base mg c PP ∧ (PP, q) ∈ T ∧ ∀ p ∈ T, p.1 = PP → p.2 = q
end PI

set_option Elab.async false
set_option linter.all false
set_option maxRecDepth 100000
set_option maxHeartbeats 2000000
/-! PI19: told(lambda: .., due) by records. -/
namespace PI
open PySem PySem.Spec PyProof.Rows L2
open LamX (Tabs TabS CodeO ExtN TabB LamS lamEnv lamCx)
structure ToldT (st : Stmt) (a due e cn fld : Str) : Prop where
  ex : ∃ (p1 p2 p3 p4 p5 p6 p7 p8 p9 q1 q2 q3 q4 q5 q6 r1 r2 : Pos) (j : Nat), defBody st = [.Try [.Expr (.Call (.Name a p1) [] [] p2) p3, .Return (some (.Constant (.bool false) j p4)) p5]
        [.ExceptHandler (some (.Name cn p6)) (some e) [.Return (some (.Compare (.Call (.Name "repr" q1) [.Attribute (.Name e q2) fld q3] [] q4) [.Eq] [.Call (.Name "repr" q5) [.Name due q6] [] p7] p8)) p9] r1] [] [] r2] ∧
      (∀ env, swapsWith (.Call (.Name a p1) [] [] p2) none p3.line env = pure false) ∧ (∀ env, attributeBase (.Name e q2) fld env (eval (.Name e q2) env) = eval (.Name e q2) env)
  Sg : FnScope [a, due, e] [a, due] (defScope st)
  l0 : (defScope st).names.lookup a = some .local
  l1 : (defScope st).names.lookup due = some .local
  l2 : (defScope st).names.lookup e = some .local
  gC : (defScope st).names.lookup cn = some .globalImplicit
  gR : (defScope st).names.lookup ("repr" : Str) = some .globalImplicit
  nm : (cn == ("__debug__" : Str)) = false ∧ (a == ("__debug__" : Str)) = false ∧ (a == ("__classdict__" : Str)) = false ∧ (due == ("__debug__" : Str)) = false ∧ (due == ("__classdict__" : Str)) = false ∧ (e == ("__debug__" : Str)) = false ∧ (e == ("__classdict__" : Str)) = false
section
variable {X : Cx} {P : Par X.K} {W : WX}
theorem se_told {x a due e cn fld : Str} {c : Addr} {lb k : Nat} {st : Stmt} {params : Arguments} {body de : Expr} {scope : Scope} {rb rd : SemE} {p lpos pos : Pos} (D : Tn X.prog X.K X.mg P.cm lb x cn fld st a due e) (TT : ToldT st a due e cn fld) (TB : Tb X.base X.mg P.T c (X.env.qual ++ "<lambda>"))
    (hbi : ∀ (kV doc pm : Value) (an : Option Addr) (cdv ct : Value) (us : List Value), us.length = [a, due].length → bindArgs (PySem.W.fnOf x x (defArgs st) (defBody st) (defScope st) .none kV doc pm an cdv ct) ⟨us, []⟩ = pure ([a, due].zip us))
    (hcode : X.env.code = .ref c) (hs0 : X.stack = X.env :: X.outer) (hgd : X.A.guards = some []) (hr : Room (k + 2) X.A) (hg : Gl X x) (L : LamS X.env.scope scope) (hdef : defaultsOf params X.env = ([], []))
    (hbind : ∀ (q : Str) (cl : List (Str × Addr)) (pm cv ctv : Value), bindArgs (PySem.W.kla_fn "<lambda>" q params body scope cl pm cv ctv) ⟨[], []⟩ = pure [])
    (hbody : ∀ (A : Around) (outer : List Env) (s : Shared) (H : Hp) (E : XK) (f c' : Addr), Room k (A.deeper (lamEnv X scope s.heap.objs.size f c')) → PE (lamCx X A outer s H E scope f c') body (tE P (fun c d _ H' => E c d H') rb))
    (hd : SE X P W de rd)
    (hdb : (x == ("__debug__" : Str)) = false := by decide) (hst2 : starEach [de] X.env = (false, eval de X.env) :: starEach [] X.env := by rfl) (hst : starEach [.Lambda params body scope lpos, de] X.env = (false, eval (.Lambda params body scope lpos) X.env) :: starEach [de] X.env := by rfl) (hpl : (backTo pos (starEach [de] X.env)).any (·.1) = false := by rfl) :
    SE X P W (.Call (.Name x p) [.Lambda params body scope lpos, de] [] pos) (rRefuses lb fld rb rd) := by
  obtain ⟨g, fd, hm, F⟩ := D.F
  obtain ⟨C, hcm, hmC, xf, hno, hex⟩ := D.C
  have hb := F.binds hbi
  have kp := F.kp
  obtain ⟨oc, od, kV, doc, pm, an, cdv, ct, osl, rfl, lk, hcg⟩ := F.ex
  obtain ⟨p1, p2, p3, p4, p5, p6, p7, p8, p9, q1, q2, q3, q4, q5, q6, r1, r2, j, hbo, hsw, hat⟩ := TT.ex
  obtain ⟨PP, tb, hT, hu⟩ := TB.ex
  obtain ⟨n1, n2, n3, n4, n5, n6, n7⟩ := TT.nm
  exact se_refuses hbo hcm hs0 hgd (by have := hr.un; omega) hg hm kp lk hcg hb TT.Sg ⟨rfl, rfl, rfl, TT.Sg.nd, TT.l0, TT.l1, TT.l2, TT.gC, TT.gR, hmC, D.mR, xf, hno, hex, n1, n2, n3, n4, n5, n6, n7⟩ rfl tb hcode hT hu hr L hdef hbind hbody (sa_cons hd sa_nil hst2) hsw hat hdb hst hpl
end
end PI

set_option Elab.async false
set_option linter.all false
set_option maxRecDepth 100000
set_option maxHeartbeats 2000000
/-! PI20: caught classes as records. -/
namespace PI
open PySem PySem.Spec PyProof.Rows L2
structure Xc (K : PySem.W.Frag) (mg : Str → Option Value) (cm : Nat → Addr) (lb : Nat) (x fld : Str) : Prop where
  ex : ∃ C, cm lb = C ∧ mg x = some (.ref C) ∧ XfC K C ∧ PySem.W.findIn K (.ref C) fld = some none ∧ PySem.W.exmOne K (.ref C) (.ref C) = some true
section
variable {X : Cx} {P : Par X.K} {W : WX} {body : List Stmt} {rb : SemS} {cn e fld : Str} {lb ie j1 j2 : Nat} {k : Int} {p0 p1 p2 p3 p4 p5 p6 p7 p8 p9 : Pos}
theorem ss_tryX (D : Xc X.K X.mg P.cm lb cn fld) (hs : X.stack = X.env :: X.outer) (hf : X.env.frame = some X.env.locals) (hN : X.N.Nodup) (hi : X.N[ie]? = some e) (hln : X.env.kindOf e = some .local) (hg : Gl X cn)
    (hb : ∀ (W : WX) (pn : List (Addr × Obj)) (xe : Value → Shared → Prop), Takes (X.tr pn xe) W → PassesOwn (model X.prog X.w) X.A X.env xe → PSs (X.tr pn xe) body (tS P W rb))
    (hat : ∀ env, attributeBase (.Name e p3) fld env (eval (.Name e p3) env) = eval (.Name e p3) env) (hdc : (cn == ("__debug__" : Str)) = false := by decide) (hd : (e == ("__debug__" : Str)) = false := by decide) (hcd : (e == ("__classdict__" : Str)) = false := by decide) :
    SS X P W (.Try body [.ExceptHandler (some (.Name cn p0)) (some e) [.If (.Compare (.Attribute (.Name e p3) fld p4) [.NotEq] [.Constant (.int k) j1 p5] p6) [.Return (some (.Constant (.bool false) j2 p7)) p8] [] p9] p1] [] [] p2) (sTryNe lb fld k ie rb) := by
  obtain ⟨C, h1, h2, h3, h4, h5⟩ := D.ex
  exact ss_tryNe h1 hs hf hN hi hln ⟨hg, hdc, .inl h2⟩ h3 h4 h5 hd hcd hb hat
end
end PI

set_option Elab.async false
set_option linter.all false
set_option maxRecDepth 100000
set_option maxHeartbeats 2000000
namespace law_k01
open PySem PySem.Spec PyProof.Rows L2 PI
def topS (i : Nat) : Stmt := PySem.Challenge.pw_noclicks_k01_whole_fractions.main.body.getD i (.Pass ⟨0, 0, 0, 0⟩)
def g_FIGURES : IV := .str [48, 49, 50, 51, 52, 53, 54, 55, 56, 57]
def g_LETTERS : IV := .str [97, 98, 99, 100, 101, 102, 103, 104, 105, 106, 107, 108, 109, 110, 111, 112, 113, 114, 115, 116, 117, 118, 119, 120, 121, 122]
def g_MOST : IV := .int (10 ^ 60)
def g_NONE : IV := .tup [.int 0, .int 1]
abbrev s_is_whole : Stmt := topS 8
abbrev s_is_from : Stmt := topS 9
abbrev s_is_many : Stmt := topS 10
abbrev s_is_name : Stmt := topS 11
abbrev s_common : Stmt := topS 12
abbrev s_is_fraction : Stmt := topS 13
abbrev s_is_small : Stmt := topS 14
abbrev s_lean : Stmt := topS 17
abbrev s_check_fractions : Stmt := topS 18
abbrev s_fraction_of : Stmt := topS 19
abbrev s_plus : Stmt := topS 20
abbrev s_times : Stmt := topS 21
abbrev s_over : Stmt := topS 22
abbrev s_less : Stmt := topS 23
abbrev s_total : Stmt := topS 24
abbrev s_sum_of : Stmt := topS 25
abbrev s_product_of : Stmt := topS 26
abbrev s_quotient_of : Stmt := topS 27
abbrev s_is_less : Stmt := topS 28
abbrev s_part_of : Stmt := topS 29
abbrev s__law_cell_at : Stmt := topS 31
abbrev s__law_draw : Stmt := topS 32
abbrev s__law_number : Stmt := topS 33
abbrev s__law_next : Stmt := topS 34
abbrev s__law_pick : Stmt := topS 35
abbrev s__law_common : Stmt := topS 37
abbrev s__law_lean : Stmt := topS 38
abbrev s__law_plus : Stmt := topS 39
abbrev s__law_times : Stmt := topS 40
abbrev s__law_total : Stmt := topS 41
abbrev s__law_refused_right : Stmt := topS 42
abbrev s_law : Stmt := topS 43
abbrev s__law_refuses : Stmt := topS 36
def r_is_whole : SemS :=
  (sRet (rAnd (rIsT .int (rVar 0)) (rNot (rIsT .bl (rVar 0)))))
def d_is_whole : List IV → Sto → RE IV := callI 1 r_is_whole

def r_is_from : SemS :=
  (sRet (rAnd (rDef d_is_whole (rCons (rVar 0) rNil)) (rChain cLe cLe (rVar 1) (rVar 0) (rVar 2))))
def d_is_from : List IV → Sto → RE IV := callI 3 r_is_from

def r_is_many : SemS :=
  (sRet (rAnd (rIsT .tup (rVar 0)) (rBin cEq (rCall lenI (rCons (rVar 0) rNil)) (rVar 1))))
def d_is_many : List IV → Sto → RE IV := callI 2 r_is_many

def r_is_name : SemS :=
  (sSeq (sIf (rTOr (rTNot (rTru (rIsT .str (rVar 0)))) (rTOr (rTNot (rTBl (rChain cLe cLe (rC (.int (1))) (rCall lenI (rCons (rVar 0) rNil)) (rC (.int (8)))))) (rTBl (rBin cNotIn (rBin idxI (rVar 0) (rC (.int (0)))) (rC g_LETTERS))))) (sRet (rC (.bl false))) sPass)
    (sRet (rCall allI (rCons (rLc (fStr (rVar 0)) (.one 1) [1] rYes (rOr (rBin cIn (rVar 1) (rC g_LETTERS)) (rBin cIn (rVar 1) (rC g_FIGURES)))) rNil))))
def d_is_name : List IV → Sto → RE IV := callI 2 r_is_name

def r_common : SemS :=
  (sSeq (sWhileF (fun (env : IEnv) (_ : Sto) => match env[1]? with | some (some (IV.int b)) => b.toNat + 1 | _ => 0) (rTBl (rBin cGt (rVar 1) (rC (.int (0))))) (sPar 0 1 (rCons (rVar 1) (rCons (rBin subI (rVar 0) (rBin mulI (rVar 1) (rBin divI (rVar 0) (rVar 1)))) rNil))))
    (sRet (rVar 0)))
def d_common : List IV → Sto → RE IV := callI 2 r_common

def r_is_fraction : SemS :=
  (sSeq (sIf (rTOr (rTNot (rTru (rDef d_is_many (rCons (rVar 0) (rCons (rC (.int (2))) rNil))))) (rTOr (rTNot (rTru (rDef d_is_from (rCons (rBin idxI (rVar 0) (rC (.int (0)))) (rCons (rUn negI (rC g_MOST)) (rCons (rC g_MOST) rNil)))))) (rTNot (rTru (rDef d_is_from (rCons (rBin idxI (rVar 0) (rC (.int (1)))) (rCons (rC (.int (1))) (rCons (rC g_MOST) rNil)))))))) (sRet (rC (.bl false))) sPass)
    (sRet (rBin cEq (rDef d_common (rCons (rCall absI (rCons (rBin idxI (rVar 0) (rC (.int (0)))) rNil)) (rCons (rBin idxI (rVar 0) (rC (.int (1)))) rNil))) (rC (.int (1))))))
def d_is_fraction : List IV → Sto → RE IV := callI 1 r_is_fraction

def r_is_small : SemS :=
  (sRet (rAnd (rDef d_is_fraction (rCons (rVar 0) rNil)) (rAnd (rBin cLe (rCall absI (rCons (rBin idxI (rVar 0) (rC (.int (0)))) rNil)) (rC (.int (1000)))) (rBin cLe (rBin idxI (rVar 0) (rC (.int (1)))) (rC (.int (1000)))))))
def d_is_small : List IV → Sto → RE IV := callI 1 r_is_small

def r_lean : SemS :=
  (sSeq (sAsg (rDef d_common (rCons (rCall absI (rCons (rVar 0) rNil)) (rCons (rVar 1) rNil))) (gN 2))
    (sSeq (sPar 0 1 (rCons (rBin divI (rVar 0) (rVar 2)) (rCons (rBin divI (rVar 1) (rVar 2)) rNil)))
    (sSeq (sIf (rTOr (rTBl (rBin cGt (rCall absI (rCons (rVar 0) rNil)) (rC g_MOST))) (rTBl (rBin cGt (rVar 1) (rC g_MOST)))) (sRaise 2 "most" (rC (.int (60)))) sPass)
    (sRet (rTup (rCons (rVar 0) (rCons (rVar 1) rNil)))))))
def d_lean : List IV → Sto → RE IV := callI 3 r_lean

def r_check_fractions : SemS :=
  (sFor (fSeq (rVar 0)) (gN 1) (sIf (rTNot (rTru (rDef d_is_fraction (rCons (rVar 1) rNil)))) (sRaise 1 "thing" (rVar 1)) sPass))
def d_check_fractions : List IV → Sto → RE IV := callI 2 r_check_fractions

def r_fraction_of : SemS :=
  (sSeq (sIf (rTNot (rTru (rDef d_is_whole (rCons (rVar 0) rNil)))) (sRaise 1 "thing" (rVar 0)) sPass)
    (sSeq (sIf (rTOr (rTNot (rTru (rDef d_is_whole (rCons (rVar 1) rNil)))) (rTBl (rBin cEq (rVar 1) (rC (.int (0)))))) (sRaise 1 "thing" (rVar 1)) sPass)
    (sRet (rIfE (rTBl (rBin cGt (rVar 1) (rC (.int (0))))) (rDef d_lean (rCons (rVar 0) (rCons (rVar 1) rNil))) (rDef d_lean (rCons (rUn negI (rVar 0)) (rCons (rUn negI (rVar 1)) rNil)))))))
def d_fraction_of : List IV → Sto → RE IV := callI 2 r_fraction_of

def r_plus : SemS :=
  (sRet (rDef d_lean (rCons (rBin addI (rBin mulI (rBin idxI (rVar 0) (rC (.int (0)))) (rBin idxI (rVar 1) (rC (.int (1))))) (rBin mulI (rBin idxI (rVar 1) (rC (.int (0)))) (rBin idxI (rVar 0) (rC (.int (1)))))) (rCons (rBin mulI (rBin idxI (rVar 0) (rC (.int (1)))) (rBin idxI (rVar 1) (rC (.int (1))))) rNil))))
def d_plus : List IV → Sto → RE IV := callI 2 r_plus

def r_times : SemS :=
  (sRet (rDef d_lean (rCons (rBin mulI (rBin idxI (rVar 0) (rC (.int (0)))) (rBin idxI (rVar 1) (rC (.int (0))))) (rCons (rBin mulI (rBin idxI (rVar 0) (rC (.int (1)))) (rBin idxI (rVar 1) (rC (.int (1))))) rNil))))
def d_times : List IV → Sto → RE IV := callI 2 r_times

def r_over : SemS :=
  (sSeq (sPar 2 3 (rCons (rBin mulI (rBin idxI (rVar 0) (rC (.int (0)))) (rBin idxI (rVar 1) (rC (.int (1))))) (rCons (rBin mulI (rBin idxI (rVar 0) (rC (.int (1)))) (rBin idxI (rVar 1) (rC (.int (0))))) rNil)))
    (sRet (rIfE (rTBl (rBin cGt (rVar 3) (rC (.int (0))))) (rDef d_lean (rCons (rVar 2) (rCons (rVar 3) rNil))) (rDef d_lean (rCons (rUn negI (rVar 2)) (rCons (rUn negI (rVar 3)) rNil))))))
def d_over : List IV → Sto → RE IV := callI 4 r_over

def r_less : SemS :=
  (sRet (rBin cLt (rBin mulI (rBin idxI (rVar 0) (rC (.int (0)))) (rBin idxI (rVar 1) (rC (.int (1))))) (rBin mulI (rBin idxI (rVar 1) (rC (.int (0)))) (rBin idxI (rVar 0) (rC (.int (1)))))))
def d_less : List IV → Sto → RE IV := callI 2 r_less

def r_total : SemS :=
  (sSeq (sAsg (rC g_NONE) (gN 1))
    (sSeq (sFor (fSeq (rVar 0)) (gN 2) (sAsg (rDef d_plus (rCons (rVar 1) (rCons (rVar 2) rNil))) (gN 1)))
    (sRet (rVar 1))))
def d_total : List IV → Sto → RE IV := callI 3 r_total

def r_sum_of : SemS :=
  (sSeq (sIf (rTNot (rTru (rIsT .tup (rVar 0)))) (sRaise 1 "thing" (rVar 0)) sPass)
    (sSeq (sExpr (rDef d_check_fractions (rCons (rVar 0) rNil)))
    (sRet (rDef d_total (rCons (rVar 0) rNil)))))
def d_sum_of : List IV → Sto → RE IV := callI 1 r_sum_of

def r_product_of : SemS :=
  (sSeq (sExpr (rDef d_check_fractions (rCons (rTup (rCons (rVar 0) (rCons (rVar 1) rNil))) rNil)))
    (sRet (rDef d_times (rCons (rVar 0) (rCons (rVar 1) rNil)))))
def d_product_of : List IV → Sto → RE IV := callI 2 r_product_of

def r_quotient_of : SemS :=
  (sSeq (sExpr (rDef d_check_fractions (rCons (rTup (rCons (rVar 0) (rCons (rVar 1) rNil))) rNil)))
    (sSeq (sIf (rTBl (rBin cEq (rBin idxI (rVar 1) (rC (.int (0)))) (rC (.int (0))))) (sRaise 1 "thing" (rVar 1)) sPass)
    (sRet (rDef d_over (rCons (rVar 0) (rCons (rVar 1) rNil))))))
def d_quotient_of : List IV → Sto → RE IV := callI 2 r_quotient_of

def r_is_less : SemS :=
  (sSeq (sExpr (rDef d_check_fractions (rCons (rTup (rCons (rVar 0) (rCons (rVar 1) rNil))) rNil)))
    (sRet (rDef d_less (rCons (rVar 0) (rCons (rVar 1) rNil)))))
def d_is_less : List IV → Sto → RE IV := callI 2 r_is_less

def r_part_of : SemS :=
  (sSeq (sExpr (rDef d_check_fractions (rCons (rTup (rCons (rVar 0) rNil)) rNil)))
    (sSeq (sIf (rTOr (rTNot (rTru (rDef d_is_whole (rCons (rVar 1) rNil)))) (rTNot (rTBl (rChain cLe cLe (rC (.int (1))) (rVar 1) (rC (.int (1000))))))) (sRaise 1 "thing" (rVar 1)) sPass)
    (sRet (rCall tupleI (rCons (rLc (fRng2 (rCons (rC (.int (1))) (rCons (rBin addI (rVar 1) (rC (.int (1)))) rNil))) (.one 2) [2] rYes (rDef d_lean (rCons (rBin mulI (rBin idxI (rVar 0) (rC (.int (0)))) (rVar 2)) (rCons (rBin mulI (rBin idxI (rVar 0) (rC (.int (1)))) (rVar 1)) rNil)))) rNil)))))
def d_part_of : List IV → Sto → RE IV := callI 3 r_part_of

def r__law_cell_at : SemS :=
  (sSeq (sIf (rTBl (rBin cLt (rVar 1) (rCall lenI (rCons (rVar 0) rNil)))) (sRet (rBin idxI (rVar 0) (rVar 1))) sPass)
    (sRet (rC (.int (0)))))
def d__law_cell_at : List IV → Sto → RE IV := callI 2 r__law_cell_at

def r__law_draw : SemS :=
  (sSeq (sAsg (rTup (rCons (rC (.int (1000003))) (rCons (rC (.int (1000033))) (rCons (rC (.int (1000037))) (rCons (rC (.int (1000039))) (rCons (rC (.int (1000081))) (rCons (rC (.int (1000099))) (rCons (rC (.int (1000117))) (rCons (rC (.int (1000121))) (rCons (rC (.int (1000133))) (rCons (rC (.int (1000151))) (rCons (rC (.int (1000159))) (rCons (rC (.int (1000171))) (rCons (rC (.int (1000183))) (rCons (rC (.int (1000187))) (rCons (rC (.int (1000193))) (rCons (rC (.int (1000199))) rNil))))))))))))))))) (gN 3))
    (sRet (rBin modI (rBin modI (rCall intI (rCons (rBin addI (rBin mulI (rVar 0) (rC (.int (48271)))) (rBin mulI (rVar 1) (rC (.int (69621))))) rNil)) (rBin idxI (rVar 3) (rBin modI (rCall intI (rCons (rVar 1) rNil)) (rC (.int (16)))))) (rVar 2))))
def d__law_draw : List IV → Sto → RE IV := callI 4 r__law_draw

def r__law_number : SemS :=
  (sSeq (sAsg (rC (.int (1))) (gN 3))
    (sSeq (sFor (fRng1 (rCons (rBin modI (rCall intI (rCons (rVar 1) rNil)) (rC (.int (24)))) rNil)) (gN 4) (sAsg (rBin mulI (rVar 3) (rC (.int (1009)))) (gN 3)))
    (sSeq (sAsg (rBin divI (rBin subI (rVar 0) (rBin powI (rC (.int (10))) (rC (.int (18))))) (rVar 3)) (gN 5))
    (sSeq (sIf (rTBl (rBin cGt (rVar 5) (rC (.int (0))))) (sRet (rBin modI (rBin modI (rCall intI (rCons (rVar 5) rNil)) (rC (.int (1009)))) (rVar 2))) sPass)
    (sSeq (sAsg (rBin modI (rCall intI (rCons (rVar 0) rNil)) (rC (.int (1000003)))) (gN 6))
    (sRet (rBin modI (rDef d__law_draw (rCons (rBin mulI (rBin addI (rVar 6) (rBin mulI (rC (.int (977))) (rVar 1))) (rBin addI (rBin addI (rVar 6) (rBin mulI (rC (.int (31))) (rVar 1))) (rC (.int (5))))) (rCons (rBin addI (rBin modI (rCall intI (rCons (rVar 1) rNil)) (rC (.int (9)))) (rC (.int (1)))) (rCons (rC (.int (999983))) rNil)))) (rVar 2))))))))
def d__law_number : List IV → Sto → RE IV := callI 7 r__law_number

def r__law_next : SemS :=
  (sSeq (sAsg (rBin addI (rBin idxI (rVar 0) (rC (.int (2)))) (rC (.int (1)))) (gSubI (rVar 0) (rC (.int (2)))))
    (sSeq (sAsg (rBin divI (rBin idxI (rVar 0) (rC (.int (2)))) (rC (.int (12)))) (gN 2))
    (sSeq (sAsg (rBin addI (rDef d__law_cell_at (rCons (rBin idxI (rVar 0) (rC (.int (0)))) (rCons (rBin addI (rBin idxI (rVar 0) (rC (.int (1)))) (rVar 2)) rNil))) (rBin mulI (rC (.int (31))) (rVar 2))) (gN 3))
    (sRet (rDef d__law_number (rCons (rVar 3) (rCons (rBin addI (rBin modI (rCall intI (rCons (rBin idxI (rVar 0) (rC (.int (2)))) rNil)) (rC (.int (12)))) (rC (.int (1)))) (rCons (rVar 1) rNil))))))))
def d__law_next : List IV → Sto → RE IV := callI 4 r__law_next

def r__law_pick : SemS :=
  (sRet (rBin idxI (rVar 1) (rDef d__law_next (rCons (rVar 0) (rCons (rCall lenI (rCons (rVar 1) rNil)) rNil)))))
def d__law_pick : List IV → Sto → RE IV := callI 2 r__law_pick

def r__law_common : SemS :=
  (sSeq (sWhileF (fun (env : IEnv) (_ : Sto) => match env[1]? with | some (some (IV.int b)) => b.toNat + 1 | _ => 0) (rTBl (rBin cGt (rVar 1) (rC (.int (0))))) (sPar 0 1 (rCons (rVar 1) (rCons (rBin subI (rVar 0) (rBin mulI (rVar 1) (rBin divI (rVar 0) (rVar 1)))) rNil))))
    (sRet (rVar 0)))
def d__law_common : List IV → Sto → RE IV := callI 2 r__law_common

def r__law_lean : SemS :=
  (sSeq (sAsg (rDef d__law_common (rCons (rCall absI (rCons (rVar 0) rNil)) (rCons (rCall absI (rCons (rVar 1) rNil)) rNil))) (gN 2))
    (sRet (rIfE (rTBl (rBin cGt (rVar 1) (rC (.int (0))))) (rTup (rCons (rBin divI (rVar 0) (rVar 2)) (rCons (rBin divI (rVar 1) (rVar 2)) rNil))) (rTup (rCons (rBin divI (rUn negI (rVar 0)) (rVar 2)) (rCons (rBin divI (rUn negI (rVar 1)) (rVar 2)) rNil))))))
def d__law_lean : List IV → Sto → RE IV := callI 3 r__law_lean

def r__law_plus : SemS :=
  (sRet (rDef d__law_lean (rCons (rBin addI (rBin mulI (rBin idxI (rVar 0) (rC (.int (0)))) (rBin idxI (rVar 1) (rC (.int (1))))) (rBin mulI (rBin idxI (rVar 1) (rC (.int (0)))) (rBin idxI (rVar 0) (rC (.int (1)))))) (rCons (rBin mulI (rBin idxI (rVar 0) (rC (.int (1)))) (rBin idxI (rVar 1) (rC (.int (1))))) rNil))))
def d__law_plus : List IV → Sto → RE IV := callI 2 r__law_plus

def r__law_times : SemS :=
  (sRet (rDef d__law_lean (rCons (rBin mulI (rBin idxI (rVar 0) (rC (.int (0)))) (rBin idxI (rVar 1) (rC (.int (0))))) (rCons (rBin mulI (rBin idxI (rVar 0) (rC (.int (1)))) (rBin idxI (rVar 1) (rC (.int (1))))) rNil))))
def d__law_times : List IV → Sto → RE IV := callI 2 r__law_times

def r__law_total : SemS :=
  (sSeq (sAsg (rTup (rCons (rC (.int (0))) (rCons (rC (.int (1))) rNil))) (gN 1))
    (sSeq (sFor (fSeq (rVar 0)) (gN 2) (sAsg (rDef d__law_plus (rCons (rVar 1) (rCons (rVar 2) rNil))) (gN 1)))
    (sRet (rVar 1))))
def d__law_total : List IV → Sto → RE IV := callI 3 r__law_total

def r__law_refused_right : SemS :=
  (sSeq (sFor (fSeq (rTup (rCons (rC .non) (rCons (rTup (rCons (rC (.int (1))) rNil)) (rCons (rTup (rCons (rC (.int (2))) (rCons (rC (.int (4))) rNil))) (rCons (rTup (rCons (rC (.int (1))) (rCons (rC (.int (0))) rNil))) (rCons (rTup (rCons (rC (.int (1))) (rCons (rUn negI (rC (.int (1)))) rNil))) (rCons (rTup (rCons (rC (.int (0))) (rCons (rC (.int (2))) rNil))) (rCons (rLst (rCons (rC (.int (1))) (rCons (rC (.int (2))) rNil))) (rCons (rTup (rCons (rC (.int (1))) (rCons (rC (.int (2))) (rCons (rC (.int (3))) rNil)))) (rCons (rTup (rCons (rC (.bl true)) (rCons (rC (.int (1))) rNil))) (rCons (rTup (rCons (rC (.int (1))) (rCons (rC (.bl true)) rNil))) (rCons (rTup (rCons (rBin addI (rBin powI (rC (.int (10))) (rC (.int (60)))) (rC (.int (1)))) (rCons (rC (.int (1))) rNil))) (rCons (rC (.int (3))) rNil)))))))))))))) (gN 2) (sSeq (sIf (rTOr (rTru (rDef d_is_fraction (rCons (rVar 2) rNil))) (rTru (rDef d_is_small (rCons (rVar 2) rNil)))) (sRet (rC (.bl false))) sPass)
    (sSeq (sIf (rTNot (rTru (rRefuses 1 "thing" (rDef d_sum_of (rCons (rTup (rCons (rTup (rCons (rC (.int (1))) (rCons (rC (.int (2))) rNil))) (rCons (rVar 2) rNil))) rNil)) (rVar 2)))) (sRet (rC (.bl false))) sPass)
    (sSeq (sIf (rTNot (rTru (rRefuses 1 "thing" (rDef d_product_of (rCons (rVar 2) (rCons (rC .non) rNil))) (rVar 2)))) (sRet (rC (.bl false))) sPass)
    (sSeq (sIf (rTNot (rTru (rRefuses 1 "thing" (rDef d_quotient_of (rCons (rTup (rCons (rC (.int (1))) (rCons (rC (.int (2))) rNil))) (rCons (rVar 2) rNil))) (rVar 2)))) (sRet (rC (.bl false))) sPass)
    (sSeq (sIf (rTNot (rTru (rRefuses 1 "thing" (rDef d_is_less (rCons (rTup (rCons (rC (.int (1))) (rCons (rC (.int (2))) rNil))) (rCons (rVar 2) rNil))) (rVar 2)))) (sRet (rC (.bl false))) sPass)
    (sIf (rTNot (rTru (rRefuses 1 "thing" (rDef d_part_of (rCons (rVar 2) (rCons (rC .non) rNil))) (rVar 2)))) (sRet (rC (.bl false))) sPass)))))))
    (sSeq (sFor (fSeq (rTup (rCons (rC (.int (0))) (rCons (rC (.int (1001))) (rCons (rC .non) (rCons (rC (.bl true)) rNil)))))) (gN 2) (sIf (rTNot (rTru (rRefuses 1 "thing" (rDef d_part_of (rCons (rTup (rCons (rC (.int (1))) (rCons (rC (.int (2))) rNil))) (rCons (rVar 2) rNil))) (rVar 2)))) (sRet (rC (.bl false))) sPass))
    (sSeq (sFor (fSeq (rTup (rCons (rC .non) (rCons (rC (.bl true)) (rCons (rTup (rCons (rC (.int (1))) (rCons (rC (.int (2))) rNil))) rNil))))) (gN 2) (sSeq (sIf (rTNot (rTru (rRefuses 1 "thing" (rDef d_fraction_of (rCons (rVar 2) (rCons (rC (.int (1))) rNil))) (rVar 2)))) (sRet (rC (.bl false))) sPass)
    (sIf (rTNot (rTru (rRefuses 1 "thing" (rDef d_fraction_of (rCons (rC (.int (1))) (rCons (rVar 2) rNil))) (rVar 2)))) (sRet (rC (.bl false))) sPass)))
    (sSeq (sIf (rTNot (rTru (rRefuses 1 "thing" (rDef d_sum_of (rCons (rLst rNil) rNil)) (rLst rNil)))) (sRet (rC (.bl false))) sPass)
    (sSeq (sFor (fRng1 (rCons (rC (.int (2))) rNil)) (gN 0) (sTryNe 2 "most" 60 1 (sSeq (sIf (rTBl (rBin cEq (rVar 0) (rC (.int (0))))) (sExpr (rDef d_product_of (rCons (rTup (rCons (rBin powI (rC (.int (10))) (rC (.int (40)))) (rCons (rC (.int (1))) rNil))) (rCons (rTup (rCons (rBin powI (rC (.int (10))) (rC (.int (40)))) (rCons (rC (.int (1))) rNil))) rNil)))) (sExpr (rDef d_sum_of (rCons (rTup (rCons (rTup (rCons (rC (.int (1))) (rCons (rBin powI (rC (.int (10))) (rC (.int (40)))) rNil))) (rCons (rTup (rCons (rC (.int (1))) (rCons (rBin addI (rBin powI (rC (.int (10))) (rC (.int (40)))) (rC (.int (1)))) rNil))) rNil))) rNil))))
    (sRet (rC (.bl false))))))
    (sRet (rAnd (rRefuses 1 "thing" (rDef d_fraction_of (rCons (rC (.int (3))) (rCons (rC (.int (0))) rNil))) (rC (.int (0)))) (rAnd (rDef d_is_small (rCons (rTup (rCons (rC (.int (1000))) (rCons (rC (.int (999))) rNil))) rNil)) (rAnd (rNot (rDef d_is_small (rCons (rTup (rCons (rC (.int (1001))) (rCons (rC (.int (1))) rNil))) rNil))) (rNot (rDef d_is_small (rCons (rTup (rCons (rC (.int (1))) (rCons (rC (.int (1001))) rNil))) rNil))))))))))))
def d__law_refused_right : List IV → Sto → RE IV := callI 3 r__law_refused_right

def r_law : SemS :=
  (sSeq (sAsg (rLst (rCons (rSl (rVar 0) rNoPart (rPart (rC (.int (63))))) (rCons (rC (.int (0))) (rCons (rC (.int (0))) rNil)))) (gN 1))
    (sSeq (sAsg (rDef d__law_pick (rCons (rVar 1) (rCons (rLst (rCons (rC (.int (9))) (rCons (rC (.int (999))) (rCons (rBin powI (rC (.int (10))) (rC (.int (6)))) (rCons (rBin powI (rC (.int (10))) (rC (.int (9)))) rNil))))) rNil))) (gN 2))
    (sSeq (sAsg (rLst rNil) (gN 3))
    (sSeq (sFor (fRng1 (rCons (rC (.int (4))) rNil)) (gN 4) (sSeq (sPar 5 6 (rCons (rBin subI (rBin mulI (rDef d__law_next (rCons (rVar 1) (rCons (rC (.int (997))) rNil))) (rVar 2)) (rDef d__law_next (rCons (rVar 1) (rCons (rC (.int (997))) rNil)))) (rCons (rBin addI (rC (.int (1))) (rBin mulI (rDef d__law_next (rCons (rVar 1) (rCons (rC (.int (97))) rNil))) (rVar 2))) rNil)))
    (sSeq (sAsg (rIfE (rTBl (rBin cEq (rDef d__law_next (rCons (rVar 1) (rCons (rC (.int (2))) rNil))) (rC (.int (0))))) (rVar 6) (rUn negI (rVar 6))) (gN 6))
    (sSeq (sIf (rTOr (rTBl (rBin cNe (rDef d_fraction_of (rCons (rVar 5) (rCons (rVar 6) rNil))) (rDef d__law_lean (rCons (rVar 5) (rCons (rVar 6) rNil))))) (rTNot (rTru (rDef d_is_fraction (rCons (rDef d__law_lean (rCons (rVar 5) (rCons (rVar 6) rNil))) rNil))))) (sRet (rC (.bl false))) sPass)
    (sExpr (rMethL appI (rVar 3) (rCons (rDef d__law_lean (rCons (rVar 5) (rCons (rVar 6) rNil))) rNil)))))))
    (sSeq (sAsg (rTup (rCons (rBin idxI (rVar 3) (rC (.int (0)))) (rCons (rBin idxI (rVar 3) (rC (.int (1)))) rNil))) (gT 2 (gsCons (gN 12) (gsCons (gN 7) gsNil))))
    (sSeq (sIf (rTOr (rTBl (rBin cNe (rDef d_sum_of (rCons (rCall tupleI (rCons (rVar 3) rNil)) rNil)) (rDef d__law_total (rCons (rVar 3) rNil)))) (rTOr (rTBl (rBin cNe (rDef d_product_of (rCons (rVar 12) (rCons (rVar 7) rNil))) (rDef d__law_times (rCons (rVar 12) (rCons (rVar 7) rNil))))) (rTOr (rTBl (rBin cNe (rDef d_sum_of (rCons (rTup rNil) rNil)) (rTup (rCons (rC (.int (0))) (rCons (rC (.int (1))) rNil))))) (rTBl (rBin cNe (rDef d_is_less (rCons (rVar 12) (rCons (rVar 7) rNil))) (rBin cLt (rBin mulI (rBin idxI (rVar 12) (rC (.int (0)))) (rBin idxI (rVar 7) (rC (.int (1))))) (rBin mulI (rBin idxI (rVar 7) (rC (.int (0)))) (rBin idxI (rVar 12) (rC (.int (1))))))))))) (sRet (rC (.bl false))) sPass)
    (sSeq (sIf (rTAnd (rTBl (rBin cNe (rBin idxI (rVar 7) (rC (.int (0)))) (rC (.int (0))))) (rTOr (rTBl (rBin cNe (rDef d_quotient_of (rCons (rVar 12) (rCons (rVar 7) rNil))) (rDef d__law_lean (rCons (rBin mulI (rBin idxI (rVar 12) (rC (.int (0)))) (rBin idxI (rVar 7) (rC (.int (1))))) (rCons (rBin mulI (rBin idxI (rVar 12) (rC (.int (1)))) (rBin idxI (rVar 7) (rC (.int (0))))) rNil))))) (rTBl (rBin cNe (rDef d_product_of (rCons (rDef d_quotient_of (rCons (rVar 12) (rCons (rVar 7) rNil))) (rCons (rVar 7) rNil))) (rVar 12))))) (sRet (rC (.bl false))) sPass)
    (sSeq (sIf (rTNot (rTru (rRefuses 1 "thing" (rDef d_quotient_of (rCons (rVar 12) (rCons (rTup (rCons (rC (.int (0))) (rCons (rC (.int (1))) rNil))) rNil))) (rTup (rCons (rC (.int (0))) (rCons (rC (.int (1))) rNil)))))) (sRet (rC (.bl false))) sPass)
    (sSeq (sAsg (rBin addI (rC (.int (1))) (rDef d__law_next (rCons (rVar 1) (rCons (rC (.int (12))) rNil)))) (gN 8))
    (sSeq (sAsg (rDef d_part_of (rCons (rVar 12) (rCons (rVar 8) rNil))) (gN 9))
    (sSeq (sIf (rTOr (rTBl (rBin cNe (rVar 9) (rCall tupleI (rCons (rLc (fRng2 (rCons (rC (.int (1))) (rCons (rBin addI (rVar 8) (rC (.int (1)))) rNil))) (.one 13) [13] rYes (rDef d__law_lean (rCons (rBin mulI (rBin idxI (rVar 12) (rC (.int (0)))) (rVar 13)) (rCons (rBin mulI (rBin idxI (rVar 12) (rC (.int (1)))) (rVar 8)) rNil)))) rNil)))) (rTBl (rBin cNe (rBin idxI (rVar 9) (rUn negI (rC (.int (1))))) (rVar 12)))) (sRet (rC (.bl false))) sPass)
    (sSeq (sFor (fSeq (rTup (rCons (rTup (rCons (rC (.str [97])) (rCons (rC (.bl true)) rNil))) (rCons (rTup (rCons (rC (.str [97, 49, 98, 50, 99, 51, 100, 52])) (rCons (rC (.bl true)) rNil))) (rCons (rTup (rCons (rC (.str [97, 49, 98, 50, 99, 51, 100, 52, 101])) (rCons (rC (.bl false)) rNil))) (rCons (rTup (rCons (rC (.str [49, 97])) (rCons (rC (.bl false)) rNil))) (rCons (rTup (rCons (rC (.str [65])) (rCons (rC (.bl false)) rNil))) (rCons (rTup (rCons (rC (.str [])) (rCons (rC (.bl false)) rNil))) (rCons (rTup (rCons (rC .non) (rCons (rC (.bl false)) rNil))) rNil))))))))) (gT 2 (gsCons (gN 10) (gsCons (gN 11) gsNil))) (sIf (rTBl (rBin cNe (rDef d_is_name (rCons (rVar 10) rNil)) (rVar 11))) (sRet (rC (.bl false))) sPass))
    (sRet (fun _ st => d__law_refused_right [] st))))))))))))))
def d_law : List IV → Sto → RE IV := callI 14 r_law

structure Hd (P : Program) (w : World) (K : PySem.W.Frag) (mg : Str → Option Value) (base : Heap) (T : List (Addr × Str) × (Nat → Addr)) (co : Nat → Addr) : Prop where
  b_abs : mg "abs" = none
  b_all : mg "all" = none
  b_bool : mg "bool" = none
  b_int : mg "int" = none
  b_isinstance : mg "isinstance" = none
  b_len : mg "len" = none
  b_range : mg "range" = none
  b_repr : mg "repr" = none
  b_str : mg "str" = none
  b_tuple : mg "tuple" = none
  c_FIGURES : Gc K mg "FIGURES" g_FIGURES
  c_LETTERS : Gc K mg "LETTERS" g_LETTERS
  c_MOST : Gc K mg "MOST" g_MOST
  c_NONE : Gc K mg "NONE" g_NONE
  x_BadThing : Xn P w K mg base T.2 1 "BadThing" "thing"
  x_TooGreat : Xn P w K mg base T.2 2 "TooGreat" "most"
  f_is_whole : ∃ f fd, mg "is_whole" = some (.ref f) ∧ Fun K "is_whole" "is_whole" s_is_whole f fd
  f_is_from : ∃ f fd, mg "is_from" = some (.ref f) ∧ Fun K "is_from" "is_from" s_is_from f fd
  f_is_many : ∃ f fd, mg "is_many" = some (.ref f) ∧ Fun K "is_many" "is_many" s_is_many f fd
  f_is_name : ∃ f fd, mg "is_name" = some (.ref f) ∧ Fun K "is_name" "is_name" s_is_name f fd
  f_common : ∃ f fd, mg "common" = some (.ref f) ∧ Fun K "common" "common" s_common f fd
  f_is_fraction : ∃ f fd, mg "is_fraction" = some (.ref f) ∧ Fun K "is_fraction" "is_fraction" s_is_fraction f fd
  f_is_small : ∃ f fd, mg "is_small" = some (.ref f) ∧ Fun K "is_small" "is_small" s_is_small f fd
  f_lean : ∃ f fd, mg "lean" = some (.ref f) ∧ Fun K "lean" "lean" s_lean f fd
  f_check_fractions : ∃ f fd, mg "check_fractions" = some (.ref f) ∧ Fun K "check_fractions" "check_fractions" s_check_fractions f fd
  f_fraction_of : ∃ f fd, mg "fraction_of" = some (.ref f) ∧ Fun K "fraction_of" "fraction_of" s_fraction_of f fd
  f_plus : ∃ f fd, mg "plus" = some (.ref f) ∧ Fun K "plus" "plus" s_plus f fd
  f_times : ∃ f fd, mg "times" = some (.ref f) ∧ Fun K "times" "times" s_times f fd
  f_over : ∃ f fd, mg "over" = some (.ref f) ∧ Fun K "over" "over" s_over f fd
  f_less : ∃ f fd, mg "less" = some (.ref f) ∧ Fun K "less" "less" s_less f fd
  f_total : ∃ f fd, mg "total" = some (.ref f) ∧ Fun K "total" "total" s_total f fd
  f_sum_of : ∃ f fd, mg "sum_of" = some (.ref f) ∧ Fun K "sum_of" "sum_of" s_sum_of f fd
  f_product_of : ∃ f fd, mg "product_of" = some (.ref f) ∧ Fun K "product_of" "product_of" s_product_of f fd
  f_quotient_of : ∃ f fd, mg "quotient_of" = some (.ref f) ∧ Fun K "quotient_of" "quotient_of" s_quotient_of f fd
  f_is_less : ∃ f fd, mg "is_less" = some (.ref f) ∧ Fun K "is_less" "is_less" s_is_less f fd
  f_part_of : ∃ f fd, mg "part_of" = some (.ref f) ∧ Fun K "part_of" "part_of" s_part_of f fd
  f__law_cell_at : ∃ f fd, mg "_law_cell_at" = some (.ref f) ∧ Fun K "_law_cell_at" "_law_cell_at" s__law_cell_at f fd
  f__law_draw : ∃ f fd, mg "_law_draw" = some (.ref f) ∧ Fun K "_law_draw" "_law_draw" s__law_draw f fd
  f__law_number : ∃ f fd, mg "_law_number" = some (.ref f) ∧ Fun K "_law_number" "_law_number" s__law_number f fd
  f__law_next : ∃ f fd, mg "_law_next" = some (.ref f) ∧ Fun K "_law_next" "_law_next" s__law_next f fd
  f__law_pick : ∃ f fd, mg "_law_pick" = some (.ref f) ∧ Fun K "_law_pick" "_law_pick" s__law_pick f fd
  f__law_common : ∃ f fd, mg "_law_common" = some (.ref f) ∧ Fun K "_law_common" "_law_common" s__law_common f fd
  f__law_lean : ∃ f fd, mg "_law_lean" = some (.ref f) ∧ Fun K "_law_lean" "_law_lean" s__law_lean f fd
  f__law_plus : ∃ f fd, mg "_law_plus" = some (.ref f) ∧ Fun K "_law_plus" "_law_plus" s__law_plus f fd
  f__law_times : ∃ f fd, mg "_law_times" = some (.ref f) ∧ Fun K "_law_times" "_law_times" s__law_times f fd
  f__law_total : ∃ f fd, mg "_law_total" = some (.ref f) ∧ Fun K "_law_total" "_law_total" s__law_total f fd
  f__law_refused_right : ∃ f fd, mg "_law_refused_right" = some (.ref f) ∧ Fun K "_law_refused_right" "_law_refused_right" s__law_refused_right f fd ∧ fd.code = .ref (co 42)
  f_law : ∃ f fd, mg "law" = some (.ref f) ∧ Fun K "law" "law" s_law f fd ∧ fd.code = .ref (co 43)
  t__law_refused_right : Tb base mg T.1 (co 42) (((("_law_refused_right" : Str) ++ ".<locals>.") : Str) ++ "<lambda>")
  t_law : Tb base mg T.1 (co 43) (((("law" : Str) ++ ".<locals>.") : Str) ++ "<lambda>")
  y_TooGreat : Xc K mg T.2 2 "TooGreat" "most"
  o__law_refuses : Tn P K mg T.2 1 "_law_refuses" "BadThing" "thing" s__law_refuses "work" "due" "e"
theorem tt__law_refuses : ToldT s__law_refuses "work" "due" "e" "BadThing" "thing" := ⟨⟨_, _, _, _, _, _, _, _, _, _, _, _, _, _, _, _, _, _, rfl, fun _ => rfl, fun _ => rfl⟩, ⟨rfl, rfl, rfl, by decide +kernel, rfl, by decide +kernel, by decide +kernel⟩, rfl, rfl, rfl, rfl, rfl, by decide⟩
theorem sc_is_whole : FnScope ["thing"] ["thing"] (defScope s_is_whole) := ⟨rfl, rfl, rfl, by decide +kernel, rfl, by decide +kernel, by decide +kernel⟩
theorem dn_is_whole {P : Program} {w : World} {K : PySem.W.Frag} {mg : Str → Option Value} {base : Heap} {T : List (Addr × Str) × (Nat → Addr)} {co : Nat → Addr} (B : Hd P w K mg base T co) : Dn P w K mg base T 1 "is_whole" 1 d_is_whole :=
  dn_mk (k := 0) (r := r_is_whole) B.f_is_whole sc_is_whole rfl rfl (fun _ _ _ _ _ _ us hl => match us, hl with | [_], _ => rfl) fun f cdv A outer s H E Pr hr hT => by
    subst hT
    exact (sss_one (ss_ret (se_and (se_isT (by decide) (by rfl) B.b_isinstance (by rfl) B.b_int (by rfl) (se_var (i := 0) rfl (.inl rfl))) (se_one (se_not (se_isT (by decide) (by rfl) B.b_isinstance (by rfl) B.b_bool (by rfl) (se_var (i := 0) rfl (.inl rfl))))))))

theorem sc_is_from : FnScope ["thing", "least", "most"] ["thing", "least", "most"] (defScope s_is_from) := ⟨rfl, rfl, rfl, by decide +kernel, rfl, by decide +kernel, by decide +kernel⟩
theorem dn_is_from {P : Program} {w : World} {K : PySem.W.Frag} {mg : Str → Option Value} {base : Heap} {T : List (Addr × Str) × (Nat → Addr)} {co : Nat → Addr} (B : Hd P w K mg base T co) : Dn P w K mg base T 2 "is_from" 3 d_is_from :=
  dn_mk (k := 1) (r := r_is_from) B.f_is_from sc_is_from rfl rfl (fun _ _ _ _ _ _ us hl => match us, hl with | [_, _, _], _ => rfl) fun f cdv A outer s H E Pr hr hT => by
    subst hT
    exact (sss_one (ss_ret (se_and (se_dn (dn_is_whole B) takes_fn (hr.mono (by decide)) (by rfl) (sa_cons (se_var (i := 0) rfl (.inl rfl)) sa_nil) (len_cons len_nil)) (se_one (se_chain op_leI op_leI (se_var (i := 1) rfl (.inl rfl)) (se_var (i := 0) rfl (.inl rfl)) (se_var (i := 2) rfl (.inl rfl)))))))

theorem sc_is_many : FnScope ["thing", "many"] ["thing", "many"] (defScope s_is_many) := ⟨rfl, rfl, rfl, by decide +kernel, rfl, by decide +kernel, by decide +kernel⟩
theorem dn_is_many {P : Program} {w : World} {K : PySem.W.Frag} {mg : Str → Option Value} {base : Heap} {T : List (Addr × Str) × (Nat → Addr)} {co : Nat → Addr} (B : Hd P w K mg base T co) : Dn P w K mg base T 1 "is_many" 2 d_is_many :=
  dn_mk (k := 0) (r := r_is_many) B.f_is_many sc_is_many rfl rfl (fun _ _ _ _ _ _ us hl => match us, hl with | [_, _], _ => rfl) fun f cdv A outer s H E Pr hr hT => by
    subst hT
    exact (sss_one (ss_ret (se_and (se_isT (by decide) (by rfl) B.b_isinstance (by rfl) B.b_tuple (by rfl) (se_var (i := 0) rfl (.inl rfl))) (se_one (se_cmp (op_eqI (ru4 hr)) (se_callB call_lenI (by rfl) B.b_len (by rfl) (sa_cons (se_var (i := 0) rfl (.inl rfl)) sa_nil)) (se_var (i := 1) rfl (.inl rfl)) (nomark _))))))

theorem sc_is_name : FnScope ["thing", "sign"] ["thing"] (defScope s_is_name) := ⟨rfl, rfl, rfl, by decide +kernel, rfl, by decide +kernel, by decide +kernel⟩
theorem dn_is_name {P : Program} {w : World} {K : PySem.W.Frag} {mg : Str → Option Value} {base : Heap} {T : List (Addr × Str) × (Nat → Addr)} {co : Nat → Addr} (B : Hd P w K mg base T co) : Dn P w K mg base T 1 "is_name" 1 d_is_name :=
  dn_mk (k := 0) (r := r_is_name) B.f_is_name sc_is_name rfl rfl (fun _ _ _ _ _ _ us hl => match us, hl with | [_], _ => rfl) fun f cdv A outer s H E Pr hr hT => by
    subst hT
    exact (sss_cons (ss_if (sw_or (sc_not (sc_truth (se_isT (by decide) (by rfl) B.b_isinstance (by rfl) B.b_str (by rfl) (se_var (i := 0) rfl (.inl rfl))) (fun _ => rfl))) (sw_or (sc_not (sc_chain op_leI op_leI se_int (se_callB call_lenI (by rfl) B.b_len (by rfl) (sa_cons (se_var (i := 0) rfl (.inl rfl)) sa_nil)) se_int)) (sw_or1 (sc_cmp (op_notInI (ru5 hr)) (se_ix (se_var (i := 0) rfl (.inl rfl)) se_int (fun _ _ => rfl)) (se_gc B.c_LETTERS (by rfl)) (by with_unfolding_all rfl))))).pt (sss_one (ss_ret se_bl)) sss_nil)
    (sss_one (ss_ret (se_callB (call_allI rfl) (by rfl) B.b_all (by rfl) (sa_cons (se_lc (own := [("sign", 1)]) (ct := (.one 1)) rfl sc_is_name.nd (pi_strI (se_var (i := 0) rfl (.inl rfl))) (blkOk_by (by rfl)) (by decide) (fun _ _ _ _ _ => (pg_name (i := 1) sc_is_name.nd rfl (.inl rfl))) (fun _ _ _ _ _ => pts_yes) (fun _ _ _ _ _ => (se_or (se_cmp (op_inI (ru5 hr)) (se_var (i := 1) rfl (.inl rfl)) (se_gc B.c_LETTERS (by rfl)) (by with_unfolding_all rfl)) (se_one (se_cmp (op_inI (ru5 hr)) (se_var (i := 1) rfl (.inl rfl)) (se_gc B.c_FIGURES (by rfl)) (by with_unfolding_all rfl)))))) sa_nil)))))

theorem sc_common : FnScope ["one", "other"] ["one", "other"] (defScope s_common) := ⟨rfl, rfl, rfl, by decide +kernel, rfl, by decide +kernel, by decide +kernel⟩
theorem dn_common {P : Program} {w : World} {K : PySem.W.Frag} {mg : Str → Option Value} {base : Heap} {T : List (Addr × Str) × (Nat → Addr)} {co : Nat → Addr} (B : Hd P w K mg base T co) : Dn P w K mg base T 1 "common" 2 d_common :=
  dn_mk (k := 0) (r := r_common) B.f_common sc_common rfl rfl (fun _ _ _ _ _ _ us hl => match us, hl with | [_, _], _ => rfl) fun f cdv A outer s H E Pr hr hT => by
    subst hT
    exact (sss_cons (ss_while passes_fn (sc_cmp op_gtI (se_var (i := 1) rfl (.inl rfl)) se_int (nomark _)) (sss_one (ss_par (i := 0) (j := 1) rfl sc_common.nd rfl rfl (by decide) rfl rfl (sa_cons (se_var (i := 1) rfl (.inl rfl)) (sa_cons (se_bin op_subI (se_var (i := 0) rfl (.inl rfl)) (se_bin op_mulI (se_var (i := 1) rfl (.inl rfl)) (se_bin op_divI (se_var (i := 0) rfl (.inl rfl)) (se_var (i := 1) rfl (.inl rfl))))) sa_nil)) (by rfl))))
    (sss_one (ss_ret (se_var (i := 0) rfl (.inl rfl)))))

theorem sc_is_fraction : FnScope ["thing"] ["thing"] (defScope s_is_fraction) := ⟨rfl, rfl, rfl, by decide +kernel, rfl, by decide +kernel, by decide +kernel⟩
theorem dn_is_fraction {P : Program} {w : World} {K : PySem.W.Frag} {mg : Str → Option Value} {base : Heap} {T : List (Addr × Str) × (Nat → Addr)} {co : Nat → Addr} (B : Hd P w K mg base T co) : Dn P w K mg base T 3 "is_fraction" 1 d_is_fraction :=
  dn_mk (k := 2) (r := r_is_fraction) B.f_is_fraction sc_is_fraction rfl rfl (fun _ _ _ _ _ _ us hl => match us, hl with | [_], _ => rfl) fun f cdv A outer s H E Pr hr hT => by
    subst hT
    exact (sss_cons (ss_if (sw_or (sc_not (sc_truth (se_dn (dn_is_many B) takes_fn (hr.mono (by decide)) (by rfl) (sa_cons (se_var (i := 0) rfl (.inl rfl)) (sa_cons se_int sa_nil)) (len_cons (len_cons len_nil))) (fun _ => rfl))) (sw_or (sc_not (sc_truth (se_dn (dn_is_from B) takes_fn (hr.mono (by decide)) (by rfl) (sa_cons (se_ix (se_var (i := 0) rfl (.inl rfl)) se_int (fun _ _ => rfl)) (sa_cons (se_un un_negI (se_gc B.c_MOST (by rfl))) (sa_cons (se_gc B.c_MOST (by rfl)) sa_nil))) (len_cons (len_cons (len_cons len_nil)))) (fun _ => rfl))) (sw_or1 (sc_not (sc_truth (se_dn (dn_is_from B) takes_fn (hr.mono (by decide)) (by rfl) (sa_cons (se_ix (se_var (i := 0) rfl (.inl rfl)) se_int (fun _ _ => rfl)) (sa_cons se_int (sa_cons (se_gc B.c_MOST (by rfl)) sa_nil))) (len_cons (len_cons (len_cons len_nil)))) (fun _ => rfl)))))).pt (sss_one (ss_ret se_bl)) sss_nil)
    (sss_one (ss_ret (se_cmp (op_eqI (ru4 hr)) (se_dn (dn_common B) takes_fn (hr.mono (by decide)) (by rfl) (sa_cons (se_callB call_absI (by rfl) B.b_abs (by rfl) (sa_cons (se_ix (se_var (i := 0) rfl (.inl rfl)) se_int (fun _ _ => rfl)) sa_nil)) (sa_cons (se_ix (se_var (i := 0) rfl (.inl rfl)) se_int (fun _ _ => rfl)) sa_nil)) (len_cons (len_cons len_nil))) se_int (nomark _)))))

theorem sc_is_small : FnScope ["thing"] ["thing"] (defScope s_is_small) := ⟨rfl, rfl, rfl, by decide +kernel, rfl, by decide +kernel, by decide +kernel⟩
theorem dn_is_small {P : Program} {w : World} {K : PySem.W.Frag} {mg : Str → Option Value} {base : Heap} {T : List (Addr × Str) × (Nat → Addr)} {co : Nat → Addr} (B : Hd P w K mg base T co) : Dn P w K mg base T 4 "is_small" 1 d_is_small :=
  dn_mk (k := 3) (r := r_is_small) B.f_is_small sc_is_small rfl rfl (fun _ _ _ _ _ _ us hl => match us, hl with | [_], _ => rfl) fun f cdv A outer s H E Pr hr hT => by
    subst hT
    exact (sss_one (ss_ret (se_and (se_dn (dn_is_fraction B) takes_fn (hr.mono (by decide)) (by rfl) (sa_cons (se_var (i := 0) rfl (.inl rfl)) sa_nil) (len_cons len_nil)) (se_and (se_cmp op_leI (se_callB call_absI (by rfl) B.b_abs (by rfl) (sa_cons (se_ix (se_var (i := 0) rfl (.inl rfl)) se_int (fun _ _ => rfl)) sa_nil)) se_int (nomark _)) (se_one (se_cmp op_leI (se_ix (se_var (i := 0) rfl (.inl rfl)) se_int (fun _ _ => rfl)) se_int (nomark _)))))))

theorem sc_lean : FnScope ["top", "below", "divisor"] ["top", "below"] (defScope s_lean) := ⟨rfl, rfl, rfl, by decide +kernel, rfl, by decide +kernel, by decide +kernel⟩
theorem dn_lean {P : Program} {w : World} {K : PySem.W.Frag} {mg : Str → Option Value} {base : Heap} {T : List (Addr × Str) × (Nat → Addr)} {co : Nat → Addr} (B : Hd P w K mg base T co) : Dn P w K mg base T 3 "lean" 2 d_lean :=
  dn_mk (k := 2) (r := r_lean) B.f_lean sc_lean rfl rfl (fun _ _ _ _ _ _ us hl => match us, hl with | [_, _], _ => rfl) fun f cdv A outer s H E Pr hr hT => by
    subst hT
    exact (sss_cons (ss_set (i := 2) sc_lean.nd rfl (.inl rfl) (se_dn (dn_common B) takes_fn (hr.mono (by decide)) (by rfl) (sa_cons (se_callB call_absI (by rfl) B.b_abs (by rfl) (sa_cons (se_var (i := 0) rfl (.inl rfl)) sa_nil)) (sa_cons (se_var (i := 1) rfl (.inl rfl)) sa_nil)) (len_cons (len_cons len_nil))))
    (sss_cons (ss_par (i := 0) (j := 1) rfl sc_lean.nd rfl rfl (by decide) rfl rfl (sa_cons (se_bin op_divI (se_var (i := 0) rfl (.inl rfl)) (se_var (i := 2) rfl (.inl rfl))) (sa_cons (se_bin op_divI (se_var (i := 1) rfl (.inl rfl)) (se_var (i := 2) rfl (.inl rfl))) sa_nil)) (by rfl))
    (sss_cons (ss_if (sw_or (sc_cmp op_gtI (se_callB call_absI (by rfl) B.b_abs (by rfl) (sa_cons (se_var (i := 0) rfl (.inl rfl)) sa_nil)) (se_gc B.c_MOST (by rfl)) (nomark _)) (sw_or1 (sc_cmp op_gtI (se_var (i := 1) rfl (.inl rfl)) (se_gc B.c_MOST (by rfl)) (nomark _)))).pt (sss_one (ss_rs B.x_TooGreat rfl takes_fn (hr.mono (by decide)) (by rfl) se_int)) sss_nil)
    (sss_one (ss_ret (se_tup (sa_cons (se_var (i := 0) rfl (.inl rfl)) (sa_cons (se_var (i := 1) rfl (.inl rfl)) sa_nil))))))))

theorem sc_check_fractions : FnScope ["things", "thing"] ["things"] (defScope s_check_fractions) := ⟨rfl, rfl, rfl, by decide +kernel, rfl, by decide +kernel, by decide +kernel⟩
theorem dn_check_fractions {P : Program} {w : World} {K : PySem.W.Frag} {mg : Str → Option Value} {base : Heap} {T : List (Addr × Str) × (Nat → Addr)} {co : Nat → Addr} (B : Hd P w K mg base T co) : Dn P w K mg base T 4 "check_fractions" 1 d_check_fractions :=
  dn_mk (k := 3) (r := r_check_fractions) B.f_check_fractions sc_check_fractions rfl rfl (fun _ _ _ _ _ _ us hl => match us, hl with | [_], _ => rfl) fun f cdv A outer s H E Pr hr hT => by
    subst hT
    exact (sss_one (ss_for passes_fn rfl (pi_seqI (se_var (i := 0) rfl (.inl rfl))) (sg_name (i := 1) sc_check_fractions.nd rfl (.inl rfl)) (sss_one (ss_if (sc_not (sc_truth (se_dn (dn_is_fraction B) takes_fn (hr.mono (by decide)) (by rfl) (sa_cons (se_var (i := 1) rfl (.inl rfl)) sa_nil) (len_cons len_nil)) (fun _ => rfl))) (sss_one (ss_rs B.x_BadThing rfl takes_fn (hr.mono (by decide)) (by rfl) (se_var (i := 1) rfl (.inl rfl)))) sss_nil))))

theorem sc_fraction_of : FnScope ["top", "below"] ["top", "below"] (defScope s_fraction_of) := ⟨rfl, rfl, rfl, by decide +kernel, rfl, by decide +kernel, by decide +kernel⟩
theorem dn_fraction_of {P : Program} {w : World} {K : PySem.W.Frag} {mg : Str → Option Value} {base : Heap} {T : List (Addr × Str) × (Nat → Addr)} {co : Nat → Addr} (B : Hd P w K mg base T co) : Dn P w K mg base T 4 "fraction_of" 2 d_fraction_of :=
  dn_mk (k := 3) (r := r_fraction_of) B.f_fraction_of sc_fraction_of rfl rfl (fun _ _ _ _ _ _ us hl => match us, hl with | [_, _], _ => rfl) fun f cdv A outer s H E Pr hr hT => by
    subst hT
    exact (sss_cons (ss_if (sc_not (sc_truth (se_dn (dn_is_whole B) takes_fn (hr.mono (by decide)) (by rfl) (sa_cons (se_var (i := 0) rfl (.inl rfl)) sa_nil) (len_cons len_nil)) (fun _ => rfl))) (sss_one (ss_rs B.x_BadThing rfl takes_fn (hr.mono (by decide)) (by rfl) (se_var (i := 0) rfl (.inl rfl)))) sss_nil)
    (sss_cons (ss_if (sw_or (sc_not (sc_truth (se_dn (dn_is_whole B) takes_fn (hr.mono (by decide)) (by rfl) (sa_cons (se_var (i := 1) rfl (.inl rfl)) sa_nil) (len_cons len_nil)) (fun _ => rfl))) (sw_or1 (sc_cmp (op_eqI (ru4 hr)) (se_var (i := 1) rfl (.inl rfl)) se_int (nomark _)))).pt (sss_one (ss_rs B.x_BadThing rfl takes_fn (hr.mono (by decide)) (by rfl) (se_var (i := 1) rfl (.inl rfl)))) sss_nil)
    (sss_one (ss_ret (se_ifE (sc_cmp op_gtI (se_var (i := 1) rfl (.inl rfl)) se_int (nomark _)) (se_dn (dn_lean B) takes_fn (hr.mono (by decide)) (by rfl) (sa_cons (se_var (i := 0) rfl (.inl rfl)) (sa_cons (se_var (i := 1) rfl (.inl rfl)) sa_nil)) (len_cons (len_cons len_nil))) (se_dn (dn_lean B) takes_fn (hr.mono (by decide)) (by rfl) (sa_cons (se_un un_negI (se_var (i := 0) rfl (.inl rfl))) (sa_cons (se_un un_negI (se_var (i := 1) rfl (.inl rfl))) sa_nil)) (len_cons (len_cons len_nil))))))))

theorem sc_plus : FnScope ["one", "other"] ["one", "other"] (defScope s_plus) := ⟨rfl, rfl, rfl, by decide +kernel, rfl, by decide +kernel, by decide +kernel⟩
theorem dn_plus {P : Program} {w : World} {K : PySem.W.Frag} {mg : Str → Option Value} {base : Heap} {T : List (Addr × Str) × (Nat → Addr)} {co : Nat → Addr} (B : Hd P w K mg base T co) : Dn P w K mg base T 4 "plus" 2 d_plus :=
  dn_mk (k := 3) (r := r_plus) B.f_plus sc_plus rfl rfl (fun _ _ _ _ _ _ us hl => match us, hl with | [_, _], _ => rfl) fun f cdv A outer s H E Pr hr hT => by
    subst hT
    exact (sss_one (ss_ret (se_dn (dn_lean B) takes_fn (hr.mono (by decide)) (by rfl) (sa_cons (se_bin op_addI (se_bin op_mulI (se_ix (se_var (i := 0) rfl (.inl rfl)) se_int (fun _ _ => rfl)) (se_ix (se_var (i := 1) rfl (.inl rfl)) se_int (fun _ _ => rfl))) (se_bin op_mulI (se_ix (se_var (i := 1) rfl (.inl rfl)) se_int (fun _ _ => rfl)) (se_ix (se_var (i := 0) rfl (.inl rfl)) se_int (fun _ _ => rfl)))) (sa_cons (se_bin op_mulI (se_ix (se_var (i := 0) rfl (.inl rfl)) se_int (fun _ _ => rfl)) (se_ix (se_var (i := 1) rfl (.inl rfl)) se_int (fun _ _ => rfl))) sa_nil)) (len_cons (len_cons len_nil)))))

theorem sc_times : FnScope ["one", "other"] ["one", "other"] (defScope s_times) := ⟨rfl, rfl, rfl, by decide +kernel, rfl, by decide +kernel, by decide +kernel⟩
theorem dn_times {P : Program} {w : World} {K : PySem.W.Frag} {mg : Str → Option Value} {base : Heap} {T : List (Addr × Str) × (Nat → Addr)} {co : Nat → Addr} (B : Hd P w K mg base T co) : Dn P w K mg base T 4 "times" 2 d_times :=
  dn_mk (k := 3) (r := r_times) B.f_times sc_times rfl rfl (fun _ _ _ _ _ _ us hl => match us, hl with | [_, _], _ => rfl) fun f cdv A outer s H E Pr hr hT => by
    subst hT
    exact (sss_one (ss_ret (se_dn (dn_lean B) takes_fn (hr.mono (by decide)) (by rfl) (sa_cons (se_bin op_mulI (se_ix (se_var (i := 0) rfl (.inl rfl)) se_int (fun _ _ => rfl)) (se_ix (se_var (i := 1) rfl (.inl rfl)) se_int (fun _ _ => rfl))) (sa_cons (se_bin op_mulI (se_ix (se_var (i := 0) rfl (.inl rfl)) se_int (fun _ _ => rfl)) (se_ix (se_var (i := 1) rfl (.inl rfl)) se_int (fun _ _ => rfl))) sa_nil)) (len_cons (len_cons len_nil)))))

theorem sc_over : FnScope ["one", "other", "top", "below"] ["one", "other"] (defScope s_over) := ⟨rfl, rfl, rfl, by decide +kernel, rfl, by decide +kernel, by decide +kernel⟩
theorem dn_over {P : Program} {w : World} {K : PySem.W.Frag} {mg : Str → Option Value} {base : Heap} {T : List (Addr × Str) × (Nat → Addr)} {co : Nat → Addr} (B : Hd P w K mg base T co) : Dn P w K mg base T 4 "over" 2 d_over :=
  dn_mk (k := 3) (r := r_over) B.f_over sc_over rfl rfl (fun _ _ _ _ _ _ us hl => match us, hl with | [_, _], _ => rfl) fun f cdv A outer s H E Pr hr hT => by
    subst hT
    exact (sss_cons (ss_par (i := 2) (j := 3) rfl sc_over.nd rfl rfl (by decide) rfl rfl (sa_cons (se_bin op_mulI (se_ix (se_var (i := 0) rfl (.inl rfl)) se_int (fun _ _ => rfl)) (se_ix (se_var (i := 1) rfl (.inl rfl)) se_int (fun _ _ => rfl))) (sa_cons (se_bin op_mulI (se_ix (se_var (i := 0) rfl (.inl rfl)) se_int (fun _ _ => rfl)) (se_ix (se_var (i := 1) rfl (.inl rfl)) se_int (fun _ _ => rfl))) sa_nil)) (by rfl))
    (sss_one (ss_ret (se_ifE (sc_cmp op_gtI (se_var (i := 3) rfl (.inl rfl)) se_int (nomark _)) (se_dn (dn_lean B) takes_fn (hr.mono (by decide)) (by rfl) (sa_cons (se_var (i := 2) rfl (.inl rfl)) (sa_cons (se_var (i := 3) rfl (.inl rfl)) sa_nil)) (len_cons (len_cons len_nil))) (se_dn (dn_lean B) takes_fn (hr.mono (by decide)) (by rfl) (sa_cons (se_un un_negI (se_var (i := 2) rfl (.inl rfl))) (sa_cons (se_un un_negI (se_var (i := 3) rfl (.inl rfl))) sa_nil)) (len_cons (len_cons len_nil)))))))

theorem sc_less : FnScope ["one", "other"] ["one", "other"] (defScope s_less) := ⟨rfl, rfl, rfl, by decide +kernel, rfl, by decide +kernel, by decide +kernel⟩
theorem dn_less {P : Program} {w : World} {K : PySem.W.Frag} {mg : Str → Option Value} {base : Heap} {T : List (Addr × Str) × (Nat → Addr)} {co : Nat → Addr} (B : Hd P w K mg base T co) : Dn P w K mg base T 1 "less" 2 d_less :=
  dn_mk (k := 0) (r := r_less) B.f_less sc_less rfl rfl (fun _ _ _ _ _ _ us hl => match us, hl with | [_, _], _ => rfl) fun f cdv A outer s H E Pr hr hT => by
    subst hT
    exact (sss_one (ss_ret (se_cmp op_ltI (se_bin op_mulI (se_ix (se_var (i := 0) rfl (.inl rfl)) se_int (fun _ _ => rfl)) (se_ix (se_var (i := 1) rfl (.inl rfl)) se_int (fun _ _ => rfl))) (se_bin op_mulI (se_ix (se_var (i := 1) rfl (.inl rfl)) se_int (fun _ _ => rfl)) (se_ix (se_var (i := 0) rfl (.inl rfl)) se_int (fun _ _ => rfl))) (nomark _))))

theorem sc_total : FnScope ["things", "found", "thing"] ["things"] (defScope s_total) := ⟨rfl, rfl, rfl, by decide +kernel, rfl, by decide +kernel, by decide +kernel⟩
theorem dn_total {P : Program} {w : World} {K : PySem.W.Frag} {mg : Str → Option Value} {base : Heap} {T : List (Addr × Str) × (Nat → Addr)} {co : Nat → Addr} (B : Hd P w K mg base T co) : Dn P w K mg base T 5 "total" 1 d_total :=
  dn_mk (k := 4) (r := r_total) B.f_total sc_total rfl rfl (fun _ _ _ _ _ _ us hl => match us, hl with | [_], _ => rfl) fun f cdv A outer s H E Pr hr hT => by
    subst hT
    exact (sss_cons (ss_set (i := 1) sc_total.nd rfl (.inl rfl) (se_gc B.c_NONE (by rfl)))
    (sss_cons (ss_for passes_fn rfl (pi_seqI (se_var (i := 0) rfl (.inl rfl))) (sg_name (i := 2) sc_total.nd rfl (.inl rfl)) (sss_one (ss_set (i := 1) sc_total.nd rfl (.inl rfl) (se_dn (dn_plus B) takes_fn (hr.mono (by decide)) (by rfl) (sa_cons (se_var (i := 1) rfl (.inl rfl)) (sa_cons (se_var (i := 2) rfl (.inl rfl)) sa_nil)) (len_cons (len_cons len_nil))))))
    (sss_one (ss_ret (se_var (i := 1) rfl (.inl rfl))))))

theorem sc_sum_of : FnScope ["things"] ["things"] (defScope s_sum_of) := ⟨rfl, rfl, rfl, by decide +kernel, rfl, by decide +kernel, by decide +kernel⟩
theorem dn_sum_of {P : Program} {w : World} {K : PySem.W.Frag} {mg : Str → Option Value} {base : Heap} {T : List (Addr × Str) × (Nat → Addr)} {co : Nat → Addr} (B : Hd P w K mg base T co) : Dn P w K mg base T 6 "sum_of" 1 d_sum_of :=
  dn_mk (k := 5) (r := r_sum_of) B.f_sum_of sc_sum_of rfl rfl (fun _ _ _ _ _ _ us hl => match us, hl with | [_], _ => rfl) fun f cdv A outer s H E Pr hr hT => by
    subst hT
    exact (sss_cons (ss_if (sc_not (sc_truth (se_isT (by decide) (by rfl) B.b_isinstance (by rfl) B.b_tuple (by rfl) (se_var (i := 0) rfl (.inl rfl))) (fun _ => rfl))) (sss_one (ss_rs B.x_BadThing rfl takes_fn (hr.mono (by decide)) (by rfl) (se_var (i := 0) rfl (.inl rfl)))) sss_nil)
    (sss_cons (ss_expr (se_dn (dn_check_fractions B) takes_fn (hr.mono (by decide)) (by rfl) (sa_cons (se_var (i := 0) rfl (.inl rfl)) sa_nil) (len_cons len_nil)))
    (sss_one (ss_ret (se_dn (dn_total B) takes_fn (hr.mono (by decide)) (by rfl) (sa_cons (se_var (i := 0) rfl (.inl rfl)) sa_nil) (len_cons len_nil))))))

theorem sc_product_of : FnScope ["one", "other"] ["one", "other"] (defScope s_product_of) := ⟨rfl, rfl, rfl, by decide +kernel, rfl, by decide +kernel, by decide +kernel⟩
theorem dn_product_of {P : Program} {w : World} {K : PySem.W.Frag} {mg : Str → Option Value} {base : Heap} {T : List (Addr × Str) × (Nat → Addr)} {co : Nat → Addr} (B : Hd P w K mg base T co) : Dn P w K mg base T 5 "product_of" 2 d_product_of :=
  dn_mk (k := 4) (r := r_product_of) B.f_product_of sc_product_of rfl rfl (fun _ _ _ _ _ _ us hl => match us, hl with | [_, _], _ => rfl) fun f cdv A outer s H E Pr hr hT => by
    subst hT
    exact (sss_cons (ss_expr (se_dn (dn_check_fractions B) takes_fn (hr.mono (by decide)) (by rfl) (sa_cons (se_tup (sa_cons (se_var (i := 0) rfl (.inl rfl)) (sa_cons (se_var (i := 1) rfl (.inl rfl)) sa_nil))) sa_nil) (len_cons len_nil)))
    (sss_one (ss_ret (se_dn (dn_times B) takes_fn (hr.mono (by decide)) (by rfl) (sa_cons (se_var (i := 0) rfl (.inl rfl)) (sa_cons (se_var (i := 1) rfl (.inl rfl)) sa_nil)) (len_cons (len_cons len_nil))))))

theorem sc_quotient_of : FnScope ["one", "other"] ["one", "other"] (defScope s_quotient_of) := ⟨rfl, rfl, rfl, by decide +kernel, rfl, by decide +kernel, by decide +kernel⟩
theorem dn_quotient_of {P : Program} {w : World} {K : PySem.W.Frag} {mg : Str → Option Value} {base : Heap} {T : List (Addr × Str) × (Nat → Addr)} {co : Nat → Addr} (B : Hd P w K mg base T co) : Dn P w K mg base T 5 "quotient_of" 2 d_quotient_of :=
  dn_mk (k := 4) (r := r_quotient_of) B.f_quotient_of sc_quotient_of rfl rfl (fun _ _ _ _ _ _ us hl => match us, hl with | [_, _], _ => rfl) fun f cdv A outer s H E Pr hr hT => by
    subst hT
    exact (sss_cons (ss_expr (se_dn (dn_check_fractions B) takes_fn (hr.mono (by decide)) (by rfl) (sa_cons (se_tup (sa_cons (se_var (i := 0) rfl (.inl rfl)) (sa_cons (se_var (i := 1) rfl (.inl rfl)) sa_nil))) sa_nil) (len_cons len_nil)))
    (sss_cons (ss_if (sc_cmp (op_eqI (ru4 hr)) (se_ix (se_var (i := 1) rfl (.inl rfl)) se_int (fun _ _ => rfl)) se_int (nomark _)) (sss_one (ss_rs B.x_BadThing rfl takes_fn (hr.mono (by decide)) (by rfl) (se_var (i := 1) rfl (.inl rfl)))) sss_nil)
    (sss_one (ss_ret (se_dn (dn_over B) takes_fn (hr.mono (by decide)) (by rfl) (sa_cons (se_var (i := 0) rfl (.inl rfl)) (sa_cons (se_var (i := 1) rfl (.inl rfl)) sa_nil)) (len_cons (len_cons len_nil)))))))

theorem sc_is_less : FnScope ["one", "other"] ["one", "other"] (defScope s_is_less) := ⟨rfl, rfl, rfl, by decide +kernel, rfl, by decide +kernel, by decide +kernel⟩
theorem dn_is_less {P : Program} {w : World} {K : PySem.W.Frag} {mg : Str → Option Value} {base : Heap} {T : List (Addr × Str) × (Nat → Addr)} {co : Nat → Addr} (B : Hd P w K mg base T co) : Dn P w K mg base T 5 "is_less" 2 d_is_less :=
  dn_mk (k := 4) (r := r_is_less) B.f_is_less sc_is_less rfl rfl (fun _ _ _ _ _ _ us hl => match us, hl with | [_, _], _ => rfl) fun f cdv A outer s H E Pr hr hT => by
    subst hT
    exact (sss_cons (ss_expr (se_dn (dn_check_fractions B) takes_fn (hr.mono (by decide)) (by rfl) (sa_cons (se_tup (sa_cons (se_var (i := 0) rfl (.inl rfl)) (sa_cons (se_var (i := 1) rfl (.inl rfl)) sa_nil))) sa_nil) (len_cons len_nil)))
    (sss_one (ss_ret (se_dn (dn_less B) takes_fn (hr.mono (by decide)) (by rfl) (sa_cons (se_var (i := 0) rfl (.inl rfl)) (sa_cons (se_var (i := 1) rfl (.inl rfl)) sa_nil)) (len_cons (len_cons len_nil))))))

theorem sc_part_of : FnScope ["one", "many", "step"] ["one", "many"] (defScope s_part_of) := ⟨rfl, rfl, rfl, by decide +kernel, rfl, by decide +kernel, by decide +kernel⟩
theorem dn_part_of {P : Program} {w : World} {K : PySem.W.Frag} {mg : Str → Option Value} {base : Heap} {T : List (Addr × Str) × (Nat → Addr)} {co : Nat → Addr} (B : Hd P w K mg base T co) : Dn P w K mg base T 5 "part_of" 2 d_part_of :=
  dn_mk (k := 4) (r := r_part_of) B.f_part_of sc_part_of rfl rfl (fun _ _ _ _ _ _ us hl => match us, hl with | [_, _], _ => rfl) fun f cdv A outer s H E Pr hr hT => by
    subst hT
    exact (sss_cons (ss_expr (se_dn (dn_check_fractions B) takes_fn (hr.mono (by decide)) (by rfl) (sa_cons (se_tup (sa_cons (se_var (i := 0) rfl (.inr (.inl rfl))) sa_nil)) sa_nil) (len_cons len_nil)))
    (sss_cons (ss_if (sw_or (sc_not (sc_truth (se_dn (dn_is_whole B) takes_fn (hr.mono (by decide)) (by rfl) (sa_cons (se_var (i := 1) rfl (.inr (.inl rfl))) sa_nil) (len_cons len_nil)) (fun _ => rfl))) (sw_or1 (sc_not (sc_chain op_leI op_leI se_int (se_var (i := 1) rfl (.inr (.inl rfl))) se_int)))).pt (sss_one (ss_rs B.x_BadThing rfl takes_fn (hr.mono (by decide)) (by rfl) (se_var (i := 1) rfl (.inr (.inl rfl))))) sss_nil)
    (sss_one (ss_ret (se_callTy call_tupleI (by rfl) B.b_tuple (by rfl) (sa_cons (se_lc (own := [("step", 2)]) (ct := (.one 2)) rfl sc_part_of.nd (pi_rng2 (by rfl) B.b_range (sa_cons se_int (sa_cons (se_bin op_addI (se_var (i := 1) rfl (.inr (.inl rfl))) se_int) sa_nil))) (blkOk_by (by rfl)) (by decide) (fun _ _ _ _ _ => (pg_name (i := 2) sc_part_of.nd rfl (.inl rfl))) (fun _ _ _ _ _ => pts_yes) (fun _ _ _ _ _ => (se_dn (dn_lean B) LamX.takes0 (hr.mono (by decide)) (by rfl) (sa_cons (se_bin op_mulI (se_ix (se_var (i := 0) rfl (.inr (.inl rfl))) se_int (fun _ _ => rfl)) (se_var (i := 2) rfl (.inl rfl))) (sa_cons (se_bin op_mulI (se_ix (se_var (i := 0) rfl (.inr (.inl rfl))) se_int (fun _ _ => rfl)) (se_var (i := 1) rfl (.inr (.inl rfl)))) sa_nil)) (len_cons (len_cons len_nil))))) sa_nil))))))

theorem sc__law_cell_at : FnScope ["script", "k"] ["script", "k"] (defScope s__law_cell_at) := ⟨rfl, rfl, rfl, by decide +kernel, rfl, by decide +kernel, by decide +kernel⟩
theorem dn__law_cell_at {P : Program} {w : World} {K : PySem.W.Frag} {mg : Str → Option Value} {base : Heap} {T : List (Addr × Str) × (Nat → Addr)} {co : Nat → Addr} (B : Hd P w K mg base T co) : Dn P w K mg base T 1 "_law_cell_at" 2 d__law_cell_at :=
  dn_mk (k := 0) (r := r__law_cell_at) B.f__law_cell_at sc__law_cell_at rfl rfl (fun _ _ _ _ _ _ us hl => match us, hl with | [_, _], _ => rfl) fun f cdv A outer s H E Pr hr hT => by
    subst hT
    exact (sss_cons (ss_if (sc_cmp op_ltI (se_var (i := 1) rfl (.inl rfl)) (se_callB call_lenI (by rfl) B.b_len (by rfl) (sa_cons (se_var (i := 0) rfl (.inl rfl)) sa_nil)) (nomark _)) (sss_one (ss_ret (se_ix (se_var (i := 0) rfl (.inl rfl)) (se_var (i := 1) rfl (.inl rfl)) (fun _ _ => rfl)))) sss_nil)
    (sss_one (ss_ret se_int)))

theorem sc__law_draw : FnScope ["cell", "k", "bound", "primes"] ["cell", "k", "bound"] (defScope s__law_draw) := ⟨rfl, rfl, rfl, by decide +kernel, rfl, by decide +kernel, by decide +kernel⟩
theorem dn__law_draw {P : Program} {w : World} {K : PySem.W.Frag} {mg : Str → Option Value} {base : Heap} {T : List (Addr × Str) × (Nat → Addr)} {co : Nat → Addr} (B : Hd P w K mg base T co) : Dn P w K mg base T 1 "_law_draw" 3 d__law_draw :=
  dn_mk (k := 0) (r := r__law_draw) B.f__law_draw sc__law_draw rfl rfl (fun _ _ _ _ _ _ us hl => match us, hl with | [_, _, _], _ => rfl) fun f cdv A outer s H E Pr hr hT => by
    subst hT
    exact (sss_cons (ss_set (i := 3) sc__law_draw.nd rfl (.inl rfl) (se_tup (sa_cons se_int (sa_cons se_int (sa_cons se_int (sa_cons se_int (sa_cons se_int (sa_cons se_int (sa_cons se_int (sa_cons se_int (sa_cons se_int (sa_cons se_int (sa_cons se_int (sa_cons se_int (sa_cons se_int (sa_cons se_int (sa_cons se_int (sa_cons se_int sa_nil))))))))))))))))))
    (sss_one (ss_ret (se_bin op_modI (se_bin op_modI (se_callTy call_intI (by rfl) B.b_int (by rfl) (sa_cons (se_bin op_addI (se_bin op_mulI (se_var (i := 0) rfl (.inl rfl)) se_int) (se_bin op_mulI (se_var (i := 1) rfl (.inl rfl)) se_int)) sa_nil)) (se_ix (se_var (i := 3) rfl (.inl rfl)) (se_bin op_modI (se_callTy call_intI (by rfl) B.b_int (by rfl) (sa_cons (se_var (i := 1) rfl (.inl rfl)) sa_nil)) se_int) (fun _ _ => rfl))) (se_var (i := 2) rfl (.inl rfl))))))

theorem sc__law_number : FnScope ["cell", "k", "bound", "scale", "lap", "remains", "small"] ["cell", "k", "bound"] (defScope s__law_number) := ⟨rfl, rfl, rfl, by decide +kernel, rfl, by decide +kernel, by decide +kernel⟩
theorem dn__law_number {P : Program} {w : World} {K : PySem.W.Frag} {mg : Str → Option Value} {base : Heap} {T : List (Addr × Str) × (Nat → Addr)} {co : Nat → Addr} (B : Hd P w K mg base T co) : Dn P w K mg base T 2 "_law_number" 3 d__law_number :=
  dn_mk (k := 1) (r := r__law_number) B.f__law_number sc__law_number rfl rfl (fun _ _ _ _ _ _ us hl => match us, hl with | [_, _, _], _ => rfl) fun f cdv A outer s H E Pr hr hT => by
    subst hT
    exact (sss_cons (ss_set (i := 3) sc__law_number.nd rfl (.inl rfl) se_int)
    (sss_cons (ss_for passes_fn rfl (pi_rng1 (by rfl) B.b_range (sa_cons (se_bin op_modI (se_callTy call_intI (by rfl) B.b_int (by rfl) (sa_cons (se_var (i := 1) rfl (.inl rfl)) sa_nil)) se_int) sa_nil)) (sg_name (i := 4) sc__law_number.nd rfl (.inl rfl)) (sss_one (ss_set (i := 3) sc__law_number.nd rfl (.inl rfl) (se_bin op_mulI (se_var (i := 3) rfl (.inl rfl)) se_int))))
    (sss_cons (ss_set (i := 5) sc__law_number.nd rfl (.inl rfl) (se_bin op_divI (se_bin op_subI (se_var (i := 0) rfl (.inl rfl)) (se_bin op_powI se_int se_int)) (se_var (i := 3) rfl (.inl rfl))))
    (sss_cons (ss_if (sc_cmp op_gtI (se_var (i := 5) rfl (.inl rfl)) se_int (nomark _)) (sss_one (ss_ret (se_bin op_modI (se_bin op_modI (se_callTy call_intI (by rfl) B.b_int (by rfl) (sa_cons (se_var (i := 5) rfl (.inl rfl)) sa_nil)) se_int) (se_var (i := 2) rfl (.inl rfl))))) sss_nil)
    (sss_cons (ss_set (i := 6) sc__law_number.nd rfl (.inl rfl) (se_bin op_modI (se_callTy call_intI (by rfl) B.b_int (by rfl) (sa_cons (se_var (i := 0) rfl (.inl rfl)) sa_nil)) se_int))
    (sss_one (ss_ret (se_bin op_modI (se_dn (dn__law_draw B) takes_fn (hr.mono (by decide)) (by rfl) (sa_cons (se_bin op_mulI (se_bin op_addI (se_var (i := 6) rfl (.inl rfl)) (se_bin op_mulI se_int (se_var (i := 1) rfl (.inl rfl)))) (se_bin op_addI (se_bin op_addI (se_var (i := 6) rfl (.inl rfl)) (se_bin op_mulI se_int (se_var (i := 1) rfl (.inl rfl)))) se_int)) (sa_cons (se_bin op_addI (se_bin op_modI (se_callTy call_intI (by rfl) B.b_int (by rfl) (sa_cons (se_var (i := 1) rfl (.inl rfl)) sa_nil)) se_int) se_int) (sa_cons se_int sa_nil))) (len_cons (len_cons (len_cons len_nil)))) (se_var (i := 2) rfl (.inl rfl))))))))))

theorem sc__law_next : FnScope ["draw", "bound", "at", "cell"] ["draw", "bound"] (defScope s__law_next) := ⟨rfl, rfl, rfl, by decide +kernel, rfl, by decide +kernel, by decide +kernel⟩
theorem dn__law_next {P : Program} {w : World} {K : PySem.W.Frag} {mg : Str → Option Value} {base : Heap} {T : List (Addr × Str) × (Nat → Addr)} {co : Nat → Addr} (B : Hd P w K mg base T co) : Dn P w K mg base T 3 "_law_next" 2 d__law_next :=
  dn_mk (k := 2) (r := r__law_next) B.f__law_next sc__law_next rfl rfl (fun _ _ _ _ _ _ us hl => match us, hl with | [_, _], _ => rfl) fun f cdv A outer s H E Pr hr hT => by
    subst hT
    exact (sss_cons (ss_asg (se_bin op_addI (se_ix (se_var (i := 0) rfl (.inl rfl)) se_int (fun _ _ => rfl)) se_int) (sg_sub (W := WF) (se_var (i := 0) rfl (.inl rfl)) se_int))
    (sss_cons (ss_set (i := 2) sc__law_next.nd rfl (.inl rfl) (se_bin op_divI (se_ix (se_var (i := 0) rfl (.inl rfl)) se_int (fun _ _ => rfl)) se_int))
    (sss_cons (ss_set (i := 3) sc__law_next.nd rfl (.inl rfl) (se_bin op_addI (se_dn (dn__law_cell_at B) takes_fn (hr.mono (by decide)) (by rfl) (sa_cons (se_ix (se_var (i := 0) rfl (.inl rfl)) se_int (fun _ _ => rfl)) (sa_cons (se_bin op_addI (se_ix (se_var (i := 0) rfl (.inl rfl)) se_int (fun _ _ => rfl)) (se_var (i := 2) rfl (.inl rfl))) sa_nil)) (len_cons (len_cons len_nil))) (se_bin op_mulI se_int (se_var (i := 2) rfl (.inl rfl)))))
    (sss_one (ss_ret (se_dn (dn__law_number B) takes_fn (hr.mono (by decide)) (by rfl) (sa_cons (se_var (i := 3) rfl (.inl rfl)) (sa_cons (se_bin op_addI (se_bin op_modI (se_callTy call_intI (by rfl) B.b_int (by rfl) (sa_cons (se_ix (se_var (i := 0) rfl (.inl rfl)) se_int (fun _ _ => rfl)) sa_nil)) se_int) se_int) (sa_cons (se_var (i := 1) rfl (.inl rfl)) sa_nil))) (len_cons (len_cons (len_cons len_nil)))))))))

theorem sc__law_pick : FnScope ["draw", "things"] ["draw", "things"] (defScope s__law_pick) := ⟨rfl, rfl, rfl, by decide +kernel, rfl, by decide +kernel, by decide +kernel⟩
theorem dn__law_pick {P : Program} {w : World} {K : PySem.W.Frag} {mg : Str → Option Value} {base : Heap} {T : List (Addr × Str) × (Nat → Addr)} {co : Nat → Addr} (B : Hd P w K mg base T co) : Dn P w K mg base T 4 "_law_pick" 2 d__law_pick :=
  dn_mk (k := 3) (r := r__law_pick) B.f__law_pick sc__law_pick rfl rfl (fun _ _ _ _ _ _ us hl => match us, hl with | [_, _], _ => rfl) fun f cdv A outer s H E Pr hr hT => by
    subst hT
    exact (sss_one (ss_ret (se_ix (se_var (i := 1) rfl (.inl rfl)) (se_dn (dn__law_next B) takes_fn (hr.mono (by decide)) (by rfl) (sa_cons (se_var (i := 0) rfl (.inl rfl)) (sa_cons (se_callB call_lenI (by rfl) B.b_len (by rfl) (sa_cons (se_var (i := 1) rfl (.inl rfl)) sa_nil)) sa_nil)) (len_cons (len_cons len_nil))) (fun _ _ => rfl))))

theorem sc__law_common : FnScope ["one", "other"] ["one", "other"] (defScope s__law_common) := ⟨rfl, rfl, rfl, by decide +kernel, rfl, by decide +kernel, by decide +kernel⟩
theorem dn__law_common {P : Program} {w : World} {K : PySem.W.Frag} {mg : Str → Option Value} {base : Heap} {T : List (Addr × Str) × (Nat → Addr)} {co : Nat → Addr} (B : Hd P w K mg base T co) : Dn P w K mg base T 1 "_law_common" 2 d__law_common :=
  dn_mk (k := 0) (r := r__law_common) B.f__law_common sc__law_common rfl rfl (fun _ _ _ _ _ _ us hl => match us, hl with | [_, _], _ => rfl) fun f cdv A outer s H E Pr hr hT => by
    subst hT
    exact (sss_cons (ss_while passes_fn (sc_cmp op_gtI (se_var (i := 1) rfl (.inl rfl)) se_int (nomark _)) (sss_one (ss_par (i := 0) (j := 1) rfl sc__law_common.nd rfl rfl (by decide) rfl rfl (sa_cons (se_var (i := 1) rfl (.inl rfl)) (sa_cons (se_bin op_subI (se_var (i := 0) rfl (.inl rfl)) (se_bin op_mulI (se_var (i := 1) rfl (.inl rfl)) (se_bin op_divI (se_var (i := 0) rfl (.inl rfl)) (se_var (i := 1) rfl (.inl rfl))))) sa_nil)) (by rfl))))
    (sss_one (ss_ret (se_var (i := 0) rfl (.inl rfl)))))

theorem sc__law_lean : FnScope ["top", "below", "divisor"] ["top", "below"] (defScope s__law_lean) := ⟨rfl, rfl, rfl, by decide +kernel, rfl, by decide +kernel, by decide +kernel⟩
theorem dn__law_lean {P : Program} {w : World} {K : PySem.W.Frag} {mg : Str → Option Value} {base : Heap} {T : List (Addr × Str) × (Nat → Addr)} {co : Nat → Addr} (B : Hd P w K mg base T co) : Dn P w K mg base T 2 "_law_lean" 2 d__law_lean :=
  dn_mk (k := 1) (r := r__law_lean) B.f__law_lean sc__law_lean rfl rfl (fun _ _ _ _ _ _ us hl => match us, hl with | [_, _], _ => rfl) fun f cdv A outer s H E Pr hr hT => by
    subst hT
    exact (sss_cons (ss_set (i := 2) sc__law_lean.nd rfl (.inl rfl) (se_dn (dn__law_common B) takes_fn (hr.mono (by decide)) (by rfl) (sa_cons (se_callB call_absI (by rfl) B.b_abs (by rfl) (sa_cons (se_var (i := 0) rfl (.inl rfl)) sa_nil)) (sa_cons (se_callB call_absI (by rfl) B.b_abs (by rfl) (sa_cons (se_var (i := 1) rfl (.inl rfl)) sa_nil)) sa_nil)) (len_cons (len_cons len_nil))))
    (sss_one (ss_ret (se_ifE (sc_cmp op_gtI (se_var (i := 1) rfl (.inl rfl)) se_int (nomark _)) (se_tup (sa_cons (se_bin op_divI (se_var (i := 0) rfl (.inl rfl)) (se_var (i := 2) rfl (.inl rfl))) (sa_cons (se_bin op_divI (se_var (i := 1) rfl (.inl rfl)) (se_var (i := 2) rfl (.inl rfl))) sa_nil))) (se_tup (sa_cons (se_bin op_divI (se_un un_negI (se_var (i := 0) rfl (.inl rfl))) (se_var (i := 2) rfl (.inl rfl))) (sa_cons (se_bin op_divI (se_un un_negI (se_var (i := 1) rfl (.inl rfl))) (se_var (i := 2) rfl (.inl rfl))) sa_nil)))))))

theorem sc__law_plus : FnScope ["one", "other"] ["one", "other"] (defScope s__law_plus) := ⟨rfl, rfl, rfl, by decide +kernel, rfl, by decide +kernel, by decide +kernel⟩
theorem dn__law_plus {P : Program} {w : World} {K : PySem.W.Frag} {mg : Str → Option Value} {base : Heap} {T : List (Addr × Str) × (Nat → Addr)} {co : Nat → Addr} (B : Hd P w K mg base T co) : Dn P w K mg base T 3 "_law_plus" 2 d__law_plus :=
  dn_mk (k := 2) (r := r__law_plus) B.f__law_plus sc__law_plus rfl rfl (fun _ _ _ _ _ _ us hl => match us, hl with | [_, _], _ => rfl) fun f cdv A outer s H E Pr hr hT => by
    subst hT
    exact (sss_one (ss_ret (se_dn (dn__law_lean B) takes_fn (hr.mono (by decide)) (by rfl) (sa_cons (se_bin op_addI (se_bin op_mulI (se_ix (se_var (i := 0) rfl (.inl rfl)) se_int (fun _ _ => rfl)) (se_ix (se_var (i := 1) rfl (.inl rfl)) se_int (fun _ _ => rfl))) (se_bin op_mulI (se_ix (se_var (i := 1) rfl (.inl rfl)) se_int (fun _ _ => rfl)) (se_ix (se_var (i := 0) rfl (.inl rfl)) se_int (fun _ _ => rfl)))) (sa_cons (se_bin op_mulI (se_ix (se_var (i := 0) rfl (.inl rfl)) se_int (fun _ _ => rfl)) (se_ix (se_var (i := 1) rfl (.inl rfl)) se_int (fun _ _ => rfl))) sa_nil)) (len_cons (len_cons len_nil)))))

theorem sc__law_times : FnScope ["one", "other"] ["one", "other"] (defScope s__law_times) := ⟨rfl, rfl, rfl, by decide +kernel, rfl, by decide +kernel, by decide +kernel⟩
theorem dn__law_times {P : Program} {w : World} {K : PySem.W.Frag} {mg : Str → Option Value} {base : Heap} {T : List (Addr × Str) × (Nat → Addr)} {co : Nat → Addr} (B : Hd P w K mg base T co) : Dn P w K mg base T 3 "_law_times" 2 d__law_times :=
  dn_mk (k := 2) (r := r__law_times) B.f__law_times sc__law_times rfl rfl (fun _ _ _ _ _ _ us hl => match us, hl with | [_, _], _ => rfl) fun f cdv A outer s H E Pr hr hT => by
    subst hT
    exact (sss_one (ss_ret (se_dn (dn__law_lean B) takes_fn (hr.mono (by decide)) (by rfl) (sa_cons (se_bin op_mulI (se_ix (se_var (i := 0) rfl (.inl rfl)) se_int (fun _ _ => rfl)) (se_ix (se_var (i := 1) rfl (.inl rfl)) se_int (fun _ _ => rfl))) (sa_cons (se_bin op_mulI (se_ix (se_var (i := 0) rfl (.inl rfl)) se_int (fun _ _ => rfl)) (se_ix (se_var (i := 1) rfl (.inl rfl)) se_int (fun _ _ => rfl))) sa_nil)) (len_cons (len_cons len_nil)))))

theorem sc__law_total : FnScope ["things", "found", "thing"] ["things"] (defScope s__law_total) := ⟨rfl, rfl, rfl, by decide +kernel, rfl, by decide +kernel, by decide +kernel⟩
theorem dn__law_total {P : Program} {w : World} {K : PySem.W.Frag} {mg : Str → Option Value} {base : Heap} {T : List (Addr × Str) × (Nat → Addr)} {co : Nat → Addr} (B : Hd P w K mg base T co) : Dn P w K mg base T 4 "_law_total" 1 d__law_total :=
  dn_mk (k := 3) (r := r__law_total) B.f__law_total sc__law_total rfl rfl (fun _ _ _ _ _ _ us hl => match us, hl with | [_], _ => rfl) fun f cdv A outer s H E Pr hr hT => by
    subst hT
    exact (sss_cons (ss_set (i := 1) sc__law_total.nd rfl (.inl rfl) (se_tup (sa_cons se_int (sa_cons se_int sa_nil))))
    (sss_cons (ss_for passes_fn rfl (pi_seqI (se_var (i := 0) rfl (.inl rfl))) (sg_name (i := 2) sc__law_total.nd rfl (.inl rfl)) (sss_one (ss_set (i := 1) sc__law_total.nd rfl (.inl rfl) (se_dn (dn__law_plus B) takes_fn (hr.mono (by decide)) (by rfl) (sa_cons (se_var (i := 1) rfl (.inl rfl)) (sa_cons (se_var (i := 2) rfl (.inl rfl)) sa_nil)) (len_cons (len_cons len_nil))))))
    (sss_one (ss_ret (se_var (i := 1) rfl (.inl rfl))))))

theorem sc__law_refused_right : FnScope ["number", "e", "bad"] [] (defScope s__law_refused_right) := ⟨rfl, rfl, rfl, by decide +kernel, rfl, by decide +kernel, by decide +kernel⟩
theorem dn__law_refused_right {P : Program} {w : World} {K : PySem.W.Frag} {mg : Str → Option Value} {base : Heap} {T : List (Addr × Str) × (Nat → Addr)} {co : Nat → Addr} (B : Hd P w K mg base T co) : DnG P w K mg base T 9 "_law_refused_right" 0 d__law_refused_right :=
  dn_mkG (k := 8) (r := r__law_refused_right) B.f__law_refused_right sc__law_refused_right rfl rfl (fun _ _ _ _ _ _ us hl => match us, hl with | [], _ => rfl) fun f A outer s H E Pr hgd hr hT => by
    subst hT
    exact (sss_cons (ss_for passes_fn rfl (pi_seqI (se_tup (sa_cons se_non (sa_cons (se_tup (sa_cons se_int sa_nil)) (sa_cons (se_tup (sa_cons se_int (sa_cons se_int sa_nil))) (sa_cons (se_tup (sa_cons se_int (sa_cons se_int sa_nil))) (sa_cons (se_tup (sa_cons se_int (sa_cons (se_un un_negI se_int) sa_nil))) (sa_cons (se_tup (sa_cons se_int (sa_cons se_int sa_nil))) (sa_cons (se_lst (sa_cons se_int (sa_cons se_int sa_nil))) (sa_cons (se_tup (sa_cons se_int (sa_cons se_int (sa_cons se_int sa_nil)))) (sa_cons (se_tup (sa_cons se_bl (sa_cons se_int sa_nil))) (sa_cons (se_tup (sa_cons se_int (sa_cons se_bl sa_nil))) (sa_cons (se_tup (sa_cons (se_bin op_addI (se_bin op_powI se_int se_int) se_int) (sa_cons se_int sa_nil))) (sa_cons se_int sa_nil)))))))))))))) (sg_name (i := 2) sc__law_refused_right.nd rfl (.inr rfl)) (sss_cons (ss_if (sw_or (sc_truth (se_dn (dn_is_fraction B) takes_fn (hr.mono (by decide)) (by rfl) (sa_cons (se_var (i := 2) rfl (.inr (.inl rfl))) sa_nil) (len_cons len_nil)) (fun _ => rfl)) (sw_or1 (sc_truth (se_dn (dn_is_small B) takes_fn (hr.mono (by decide)) (by rfl) (sa_cons (se_var (i := 2) rfl (.inr (.inl rfl))) sa_nil) (len_cons len_nil)) (fun _ => rfl)))).pt (sss_one (ss_ret se_bl)) sss_nil)
    (sss_cons (ss_if (sc_not (sc_truth (se_told (k := 6) B.o__law_refuses tt__law_refuses B.t__law_refused_right (fun _ _ _ _ _ _ us hl => match us, hl with | [_, _], _ => rfl) rfl rfl hgd hr (by rfl) (LamX.lamS_by (by rfl)) (by rfl) (fun _ _ _ _ _ => rfl) (fun A outer s H E f c' hr => (se_dn (dn_sum_of B) (takes_of rfl rfl rfl rfl) (hr.mono (by decide)) (by rfl) (sa_cons (se_tup (sa_cons (se_tup (sa_cons se_int (sa_cons se_int sa_nil))) (sa_cons (se_var (i := 2) rfl (.inr (.inr rfl))) sa_nil))) sa_nil) (len_cons len_nil))) (se_var (i := 2) rfl (.inr (.inl rfl)))) (fun _ => rfl))) (sss_one (ss_ret se_bl)) sss_nil)
    (sss_cons (ss_if (sc_not (sc_truth (se_told (k := 6) B.o__law_refuses tt__law_refuses B.t__law_refused_right (fun _ _ _ _ _ _ us hl => match us, hl with | [_, _], _ => rfl) rfl rfl hgd hr (by rfl) (LamX.lamS_by (by rfl)) (by rfl) (fun _ _ _ _ _ => rfl) (fun A outer s H E f c' hr => (se_dn (dn_product_of B) (takes_of rfl rfl rfl rfl) (hr.mono (by decide)) (by rfl) (sa_cons (se_var (i := 2) rfl (.inr (.inr rfl))) (sa_cons se_non sa_nil)) (len_cons (len_cons len_nil)))) (se_var (i := 2) rfl (.inr (.inl rfl)))) (fun _ => rfl))) (sss_one (ss_ret se_bl)) sss_nil)
    (sss_cons (ss_if (sc_not (sc_truth (se_told (k := 6) B.o__law_refuses tt__law_refuses B.t__law_refused_right (fun _ _ _ _ _ _ us hl => match us, hl with | [_, _], _ => rfl) rfl rfl hgd hr (by rfl) (LamX.lamS_by (by rfl)) (by rfl) (fun _ _ _ _ _ => rfl) (fun A outer s H E f c' hr => (se_dn (dn_quotient_of B) (takes_of rfl rfl rfl rfl) (hr.mono (by decide)) (by rfl) (sa_cons (se_tup (sa_cons se_int (sa_cons se_int sa_nil))) (sa_cons (se_var (i := 2) rfl (.inr (.inr rfl))) sa_nil)) (len_cons (len_cons len_nil)))) (se_var (i := 2) rfl (.inr (.inl rfl)))) (fun _ => rfl))) (sss_one (ss_ret se_bl)) sss_nil)
    (sss_cons (ss_if (sc_not (sc_truth (se_told (k := 6) B.o__law_refuses tt__law_refuses B.t__law_refused_right (fun _ _ _ _ _ _ us hl => match us, hl with | [_, _], _ => rfl) rfl rfl hgd hr (by rfl) (LamX.lamS_by (by rfl)) (by rfl) (fun _ _ _ _ _ => rfl) (fun A outer s H E f c' hr => (se_dn (dn_is_less B) (takes_of rfl rfl rfl rfl) (hr.mono (by decide)) (by rfl) (sa_cons (se_tup (sa_cons se_int (sa_cons se_int sa_nil))) (sa_cons (se_var (i := 2) rfl (.inr (.inr rfl))) sa_nil)) (len_cons (len_cons len_nil)))) (se_var (i := 2) rfl (.inr (.inl rfl)))) (fun _ => rfl))) (sss_one (ss_ret se_bl)) sss_nil)
    (sss_one (ss_if (sc_not (sc_truth (se_told (k := 6) B.o__law_refuses tt__law_refuses B.t__law_refused_right (fun _ _ _ _ _ _ us hl => match us, hl with | [_, _], _ => rfl) rfl rfl hgd hr (by rfl) (LamX.lamS_by (by rfl)) (by rfl) (fun _ _ _ _ _ => rfl) (fun A outer s H E f c' hr => (se_dn (dn_part_of B) (takes_of rfl rfl rfl rfl) (hr.mono (by decide)) (by rfl) (sa_cons (se_var (i := 2) rfl (.inr (.inr rfl))) (sa_cons se_non sa_nil)) (len_cons (len_cons len_nil)))) (se_var (i := 2) rfl (.inr (.inl rfl)))) (fun _ => rfl))) (sss_one (ss_ret se_bl)) sss_nil))))))))
    (sss_cons (ss_for passes_fn rfl (pi_seqI (se_tup (sa_cons se_int (sa_cons se_int (sa_cons se_non (sa_cons se_bl sa_nil)))))) (sg_name (i := 2) sc__law_refused_right.nd rfl (.inr rfl)) (sss_one (ss_if (sc_not (sc_truth (se_told (k := 6) B.o__law_refuses tt__law_refuses B.t__law_refused_right (fun _ _ _ _ _ _ us hl => match us, hl with | [_, _], _ => rfl) rfl rfl hgd hr (by rfl) (LamX.lamS_by (by rfl)) (by rfl) (fun _ _ _ _ _ => rfl) (fun A outer s H E f c' hr => (se_dn (dn_part_of B) (takes_of rfl rfl rfl rfl) (hr.mono (by decide)) (by rfl) (sa_cons (se_tup (sa_cons se_int (sa_cons se_int sa_nil))) (sa_cons (se_var (i := 2) rfl (.inr (.inr rfl))) sa_nil)) (len_cons (len_cons len_nil)))) (se_var (i := 2) rfl (.inr (.inl rfl)))) (fun _ => rfl))) (sss_one (ss_ret se_bl)) sss_nil)))
    (sss_cons (ss_for passes_fn rfl (pi_seqI (se_tup (sa_cons se_non (sa_cons se_bl (sa_cons (se_tup (sa_cons se_int (sa_cons se_int sa_nil))) sa_nil))))) (sg_name (i := 2) sc__law_refused_right.nd rfl (.inr rfl)) (sss_cons (ss_if (sc_not (sc_truth (se_told (k := 6) B.o__law_refuses tt__law_refuses B.t__law_refused_right (fun _ _ _ _ _ _ us hl => match us, hl with | [_, _], _ => rfl) rfl rfl hgd hr (by rfl) (LamX.lamS_by (by rfl)) (by rfl) (fun _ _ _ _ _ => rfl) (fun A outer s H E f c' hr => (se_dn (dn_fraction_of B) (takes_of rfl rfl rfl rfl) (hr.mono (by decide)) (by rfl) (sa_cons (se_var (i := 2) rfl (.inr (.inr rfl))) (sa_cons se_int sa_nil)) (len_cons (len_cons len_nil)))) (se_var (i := 2) rfl (.inr (.inl rfl)))) (fun _ => rfl))) (sss_one (ss_ret se_bl)) sss_nil)
    (sss_one (ss_if (sc_not (sc_truth (se_told (k := 6) B.o__law_refuses tt__law_refuses B.t__law_refused_right (fun _ _ _ _ _ _ us hl => match us, hl with | [_, _], _ => rfl) rfl rfl hgd hr (by rfl) (LamX.lamS_by (by rfl)) (by rfl) (fun _ _ _ _ _ => rfl) (fun A outer s H E f c' hr => (se_dn (dn_fraction_of B) (takes_of rfl rfl rfl rfl) (hr.mono (by decide)) (by rfl) (sa_cons se_int (sa_cons (se_var (i := 2) rfl (.inr (.inr rfl))) sa_nil)) (len_cons (len_cons len_nil)))) (se_var (i := 2) rfl (.inr (.inl rfl)))) (fun _ => rfl))) (sss_one (ss_ret se_bl)) sss_nil))))
    (sss_cons (ss_if (sc_not (sc_truth (se_told (k := 6) B.o__law_refuses tt__law_refuses B.t__law_refused_right (fun _ _ _ _ _ _ us hl => match us, hl with | [_, _], _ => rfl) rfl rfl hgd hr (by rfl) (LamX.lamS_by (by rfl)) (by rfl) (fun _ _ _ _ _ => rfl) (fun A outer s H E f c' hr => (se_dn (dn_sum_of B) (takes_of rfl rfl rfl rfl) (hr.mono (by decide)) (by rfl) (sa_cons (se_lst sa_nil) sa_nil) (len_cons len_nil))) (se_lst sa_nil)) (fun _ => rfl))) (sss_one (ss_ret se_bl)) sss_nil)
    (sss_cons (ss_for passes_fn rfl (pi_rng1 (by rfl) B.b_range (sa_cons se_int sa_nil)) (sg_name (i := 0) sc__law_refused_right.nd rfl (.inl rfl)) (sss_one (ss_tryX (ie := 1) B.y_TooGreat rfl rfl sc__law_refused_right.nd rfl (by rfl) (by rfl) (fun W1 pn xe tk1 hp1 => (sss_cons (ss_if (sc_cmp (op_eqI (ru4 hr)) (se_var (i := 0) rfl (.inl rfl)) se_int (nomark _)) (sss_one (ss_expr (se_dn (dn_product_of B) tk1 (hr.mono (by decide)) (by rfl) (sa_cons (se_tup (sa_cons (se_bin op_powI se_int se_int) (sa_cons se_int sa_nil))) (sa_cons (se_tup (sa_cons (se_bin op_powI se_int se_int) (sa_cons se_int sa_nil))) sa_nil)) (len_cons (len_cons len_nil))))) (sss_one (ss_expr (se_dn (dn_sum_of B) tk1 (hr.mono (by decide)) (by rfl) (sa_cons (se_tup (sa_cons (se_tup (sa_cons se_int (sa_cons (se_bin op_powI se_int se_int) sa_nil))) (sa_cons (se_tup (sa_cons se_int (sa_cons (se_bin op_addI (se_bin op_powI se_int se_int) se_int) sa_nil))) sa_nil))) sa_nil) (len_cons len_nil)))))
    (sss_one (ss_ret se_bl)))) (fun _ => rfl))))
    (sss_one (ss_ret (se_and (se_told (k := 6) B.o__law_refuses tt__law_refuses B.t__law_refused_right (fun _ _ _ _ _ _ us hl => match us, hl with | [_, _], _ => rfl) rfl rfl hgd hr (by rfl) (LamX.lamS_by (by rfl)) (by rfl) (fun _ _ _ _ _ => rfl) (fun A outer s H E f c' hr => (se_dn (dn_fraction_of B) (takes_of rfl rfl rfl rfl) (hr.mono (by decide)) (by rfl) (sa_cons se_int (sa_cons se_int sa_nil)) (len_cons (len_cons len_nil)))) se_int) (se_and (se_dn (dn_is_small B) takes_fn (hr.mono (by decide)) (by rfl) (sa_cons (se_tup (sa_cons se_int (sa_cons se_int sa_nil))) sa_nil) (len_cons len_nil)) (se_and (se_not (se_dn (dn_is_small B) takes_fn (hr.mono (by decide)) (by rfl) (sa_cons (se_tup (sa_cons se_int (sa_cons se_int sa_nil))) sa_nil) (len_cons len_nil))) (se_one (se_not (se_dn (dn_is_small B) takes_fn (hr.mono (by decide)) (by rfl) (sa_cons (se_tup (sa_cons se_int (sa_cons se_int sa_nil))) sa_nil) (len_cons len_nil))))))))))))))

theorem sc_law : FnScope ["script", "draw", "scale", "rows", "turn", "top", "below", "other", "many", "parts", "thing", "due", "one", "step"] ["script"] (defScope s_law) := ⟨rfl, rfl, rfl, by decide +kernel, rfl, by decide +kernel, by decide +kernel⟩
theorem dn_law {P : Program} {w : World} {K : PySem.W.Frag} {mg : Str → Option Value} {base : Heap} {T : List (Addr × Str) × (Nat → Addr)} {co : Nat → Addr} (B : Hd P w K mg base T co) : DnG P w K mg base T 12 "law" 1 d_law :=
  dn_mkG (k := 11) (r := r_law) B.f_law sc_law rfl rfl (fun _ _ _ _ _ _ us hl => match us, hl with | [_], _ => rfl) fun f A outer s H E Pr hgd hr hT => by
    subst hT
    exact (sss_cons (ss_set (i := 1) sc_law.nd rfl (.inl rfl) (se_lst (sa_cons (se_slice (se_var (i := 0) rfl (.inl rfl)) sp_none (sp_some se_int)) (sa_cons se_int (sa_cons se_int sa_nil)))))
    (sss_cons (ss_set (i := 2) sc_law.nd rfl (.inl rfl) (se_dn (dn__law_pick B) takes_fn (hr.mono (by decide)) (by rfl) (sa_cons (se_var (i := 1) rfl (.inl rfl)) (sa_cons (se_lst (sa_cons se_int (sa_cons se_int (sa_cons (se_bin op_powI se_int se_int) (sa_cons (se_bin op_powI se_int se_int) sa_nil))))) sa_nil)) (len_cons (len_cons len_nil))))
    (sss_cons (ss_set (i := 3) sc_law.nd rfl (.inl rfl) (se_lst sa_nil))
    (sss_cons (ss_for passes_fn rfl (pi_rng1 (by rfl) B.b_range (sa_cons se_int sa_nil)) (sg_name (i := 4) sc_law.nd rfl (.inl rfl)) (sss_cons (ss_par (i := 5) (j := 6) rfl sc_law.nd rfl rfl (by decide) rfl rfl (sa_cons (se_bin op_subI (se_bin op_mulI (se_dn (dn__law_next B) takes_fn (hr.mono (by decide)) (by rfl) (sa_cons (se_var (i := 1) rfl (.inl rfl)) (sa_cons se_int sa_nil)) (len_cons (len_cons len_nil))) (se_var (i := 2) rfl (.inl rfl))) (se_dn (dn__law_next B) takes_fn (hr.mono (by decide)) (by rfl) (sa_cons (se_var (i := 1) rfl (.inl rfl)) (sa_cons se_int sa_nil)) (len_cons (len_cons len_nil)))) (sa_cons (se_bin op_addI se_int (se_bin op_mulI (se_dn (dn__law_next B) takes_fn (hr.mono (by decide)) (by rfl) (sa_cons (se_var (i := 1) rfl (.inl rfl)) (sa_cons se_int sa_nil)) (len_cons (len_cons len_nil))) (se_var (i := 2) rfl (.inl rfl)))) sa_nil)) (by rfl))
    (sss_cons (ss_set (i := 6) sc_law.nd rfl (.inl rfl) (se_ifE (sc_cmp (op_eqI (ru4 hr)) (se_dn (dn__law_next B) takes_fn (hr.mono (by decide)) (by rfl) (sa_cons (se_var (i := 1) rfl (.inl rfl)) (sa_cons se_int sa_nil)) (len_cons (len_cons len_nil))) se_int (nomark _)) (se_var (i := 6) rfl (.inl rfl)) (se_un un_negI (se_var (i := 6) rfl (.inl rfl)))))
    (sss_cons (ss_if (sw_or (sc_cmp (op_neI (ru4 hr)) (se_dn (dn_fraction_of B) takes_fn (hr.mono (by decide)) (by rfl) (sa_cons (se_var (i := 5) rfl (.inl rfl)) (sa_cons (se_var (i := 6) rfl (.inl rfl)) sa_nil)) (len_cons (len_cons len_nil))) (se_dn (dn__law_lean B) takes_fn (hr.mono (by decide)) (by rfl) (sa_cons (se_var (i := 5) rfl (.inl rfl)) (sa_cons (se_var (i := 6) rfl (.inl rfl)) sa_nil)) (len_cons (len_cons len_nil))) (nomark _)) (sw_or1 (sc_not (sc_truth (se_dn (dn_is_fraction B) takes_fn (hr.mono (by decide)) (by rfl) (sa_cons (se_dn (dn__law_lean B) takes_fn (hr.mono (by decide)) (by rfl) (sa_cons (se_var (i := 5) rfl (.inl rfl)) (sa_cons (se_var (i := 6) rfl (.inl rfl)) sa_nil)) (len_cons (len_cons len_nil))) sa_nil) (len_cons len_nil)) (fun _ => rfl))))).pt (sss_one (ss_ret se_bl)) sss_nil)
    (sss_one (ss_expr (se_methL PySem.F.plainAttrs_list PySem.F.slot_list_append PySem.F.type_list_append mt_appI (se_var (i := 3) rfl (.inl rfl)) (sa_cons (se_dn (dn__law_lean B) takes_fn (hr.mono (by decide)) (by rfl) (sa_cons (se_var (i := 5) rfl (.inl rfl)) (sa_cons (se_var (i := 6) rfl (.inl rfl)) sa_nil)) (len_cons (len_cons len_nil))) sa_nil))))))))
    (sss_cons (ss_asg (se_tup (sa_cons (se_ix (se_var (i := 3) rfl (.inl rfl)) se_int (fun _ _ => rfl)) (sa_cons (se_ix (se_var (i := 3) rfl (.inl rfl)) se_int (fun _ _ => rfl)) sa_nil))) (sg_tup rfl (sgs_cons (sg_name (i := 12) sc_law.nd rfl (.inr rfl)) (sgs_cons (sg_name (i := 7) sc_law.nd rfl (.inl rfl)) sgs_nil))))
    (sss_cons (ss_if (sw_or (sc_cmp (op_neI (ru4 hr)) (se_dn (dn_sum_of B) takes_fn (hr.mono (by decide)) (by rfl) (sa_cons (se_callTy call_tupleI (by rfl) B.b_tuple (by rfl) (sa_cons (se_var (i := 3) rfl (.inl rfl)) sa_nil)) sa_nil) (len_cons len_nil)) (se_dn (dn__law_total B) takes_fn (hr.mono (by decide)) (by rfl) (sa_cons (se_var (i := 3) rfl (.inl rfl)) sa_nil) (len_cons len_nil)) (nomark _)) (sw_or (sc_cmp (op_neI (ru4 hr)) (se_dn (dn_product_of B) takes_fn (hr.mono (by decide)) (by rfl) (sa_cons (se_var (i := 12) rfl (.inr (.inl rfl))) (sa_cons (se_var (i := 7) rfl (.inl rfl)) sa_nil)) (len_cons (len_cons len_nil))) (se_dn (dn__law_times B) takes_fn (hr.mono (by decide)) (by rfl) (sa_cons (se_var (i := 12) rfl (.inr (.inl rfl))) (sa_cons (se_var (i := 7) rfl (.inl rfl)) sa_nil)) (len_cons (len_cons len_nil))) (nomark _)) (sw_or (sc_cmp (op_neI (ru4 hr)) (se_dn (dn_sum_of B) takes_fn (hr.mono (by decide)) (by rfl) (sa_cons (se_tup sa_nil) sa_nil) (len_cons len_nil)) (se_tup (sa_cons se_int (sa_cons se_int sa_nil))) (nomark _)) (sw_or1 (sc_cmp (op_neI (ru4 hr)) (se_dn (dn_is_less B) takes_fn (hr.mono (by decide)) (by rfl) (sa_cons (se_var (i := 12) rfl (.inr (.inl rfl))) (sa_cons (se_var (i := 7) rfl (.inl rfl)) sa_nil)) (len_cons (len_cons len_nil))) (se_cmp op_ltI (se_bin op_mulI (se_ix (se_var (i := 12) rfl (.inr (.inl rfl))) se_int (fun _ _ => rfl)) (se_ix (se_var (i := 7) rfl (.inl rfl)) se_int (fun _ _ => rfl))) (se_bin op_mulI (se_ix (se_var (i := 7) rfl (.inl rfl)) se_int (fun _ _ => rfl)) (se_ix (se_var (i := 12) rfl (.inr (.inl rfl))) se_int (fun _ _ => rfl))) (nomark _)) (nomark _)))))).pt (sss_one (ss_ret se_bl)) sss_nil)
    (sss_cons (ss_if (sw_and (sc_cmp (op_neI (ru4 hr)) (se_ix (se_var (i := 7) rfl (.inl rfl)) se_int (fun _ _ => rfl)) se_int (nomark _)) (sw_and1 (sw_or (sc_cmp (op_neI (ru4 hr)) (se_dn (dn_quotient_of B) takes_fn (hr.mono (by decide)) (by rfl) (sa_cons (se_var (i := 12) rfl (.inr (.inl rfl))) (sa_cons (se_var (i := 7) rfl (.inl rfl)) sa_nil)) (len_cons (len_cons len_nil))) (se_dn (dn__law_lean B) takes_fn (hr.mono (by decide)) (by rfl) (sa_cons (se_bin op_mulI (se_ix (se_var (i := 12) rfl (.inr (.inl rfl))) se_int (fun _ _ => rfl)) (se_ix (se_var (i := 7) rfl (.inl rfl)) se_int (fun _ _ => rfl))) (sa_cons (se_bin op_mulI (se_ix (se_var (i := 12) rfl (.inr (.inl rfl))) se_int (fun _ _ => rfl)) (se_ix (se_var (i := 7) rfl (.inl rfl)) se_int (fun _ _ => rfl))) sa_nil)) (len_cons (len_cons len_nil))) (nomark _)) (sw_or1 (sc_cmp (op_neI (ru4 hr)) (se_dn (dn_product_of B) takes_fn (hr.mono (by decide)) (by rfl) (sa_cons (se_dn (dn_quotient_of B) takes_fn (hr.mono (by decide)) (by rfl) (sa_cons (se_var (i := 12) rfl (.inr (.inl rfl))) (sa_cons (se_var (i := 7) rfl (.inl rfl)) sa_nil)) (len_cons (len_cons len_nil))) (sa_cons (se_var (i := 7) rfl (.inl rfl)) sa_nil)) (len_cons (len_cons len_nil))) (se_var (i := 12) rfl (.inr (.inl rfl))) (nomark _)))).pt)).pt (sss_one (ss_ret se_bl)) sss_nil)
    (sss_cons (ss_if (sc_not (sc_truth (se_told (k := 9) B.o__law_refuses tt__law_refuses B.t_law (fun _ _ _ _ _ _ us hl => match us, hl with | [_, _], _ => rfl) rfl rfl hgd hr (by rfl) (LamX.lamS_by (by rfl)) (by rfl) (fun _ _ _ _ _ => rfl) (fun A outer s H E f c' hr => (se_dn (dn_quotient_of B) (takes_of rfl rfl rfl rfl) (hr.mono (by decide)) (by rfl) (sa_cons (se_var (i := 12) rfl (.inr (.inr rfl))) (sa_cons (se_tup (sa_cons se_int (sa_cons se_int sa_nil))) sa_nil)) (len_cons (len_cons len_nil)))) (se_tup (sa_cons se_int (sa_cons se_int sa_nil)))) (fun _ => rfl))) (sss_one (ss_ret se_bl)) sss_nil)
    (sss_cons (ss_set (i := 8) sc_law.nd rfl (.inr rfl) (se_bin op_addI se_int (se_dn (dn__law_next B) takes_fn (hr.mono (by decide)) (by rfl) (sa_cons (se_var (i := 1) rfl (.inl rfl)) (sa_cons se_int sa_nil)) (len_cons (len_cons len_nil)))))
    (sss_cons (ss_set (i := 9) sc_law.nd rfl (.inl rfl) (se_dn (dn_part_of B) takes_fn (hr.mono (by decide)) (by rfl) (sa_cons (se_var (i := 12) rfl (.inr (.inl rfl))) (sa_cons (se_var (i := 8) rfl (.inr (.inl rfl))) sa_nil)) (len_cons (len_cons len_nil))))
    (sss_cons (ss_if (sw_or (sc_cmp (op_neI (ru4 hr)) (se_var (i := 9) rfl (.inl rfl)) (se_callTy call_tupleI (by rfl) B.b_tuple (by rfl) (sa_cons (se_lc (own := [("step", 13)]) (ct := (.one 13)) rfl sc_law.nd (pi_rng2 (by rfl) B.b_range (sa_cons se_int (sa_cons (se_bin op_addI (se_var (i := 8) rfl (.inr (.inl rfl))) se_int) sa_nil))) (blkOk_by (by rfl)) (by decide) (fun _ _ _ _ _ => (pg_name (i := 13) sc_law.nd rfl (.inl rfl))) (fun _ _ _ _ _ => pts_yes) (fun _ _ _ _ _ => (se_dn (dn__law_lean B) LamX.takes0 (hr.mono (by decide)) (by rfl) (sa_cons (se_bin op_mulI (se_ix (se_var (i := 12) rfl (.inr (.inl rfl))) se_int (fun _ _ => rfl)) (se_var (i := 13) rfl (.inl rfl))) (sa_cons (se_bin op_mulI (se_ix (se_var (i := 12) rfl (.inr (.inl rfl))) se_int (fun _ _ => rfl)) (se_var (i := 8) rfl (.inr (.inl rfl)))) sa_nil)) (len_cons (len_cons len_nil))))) sa_nil)) (nomark _)) (sw_or1 (sc_cmp (op_neI (ru4 hr)) (se_ix (se_var (i := 9) rfl (.inl rfl)) (se_un un_negI se_int) (fun _ _ => rfl)) (se_var (i := 12) rfl (.inr (.inl rfl))) (nomark _)))).pt (sss_one (ss_ret se_bl)) sss_nil)
    (sss_cons (ss_for passes_fn rfl (pi_seqI (se_tup (sa_cons (se_tup (sa_cons (se_str (s := [97]) (by rfl) (by decide)) (sa_cons se_bl sa_nil))) (sa_cons (se_tup (sa_cons (se_str (s := [97, 49, 98, 50, 99, 51, 100, 52]) (by rfl) (by decide)) (sa_cons se_bl sa_nil))) (sa_cons (se_tup (sa_cons (se_str (s := [97, 49, 98, 50, 99, 51, 100, 52, 101]) (by rfl) (by decide)) (sa_cons se_bl sa_nil))) (sa_cons (se_tup (sa_cons (se_str (s := [49, 97]) (by rfl) (by decide)) (sa_cons se_bl sa_nil))) (sa_cons (se_tup (sa_cons (se_str (s := [65]) (by rfl) (by decide)) (sa_cons se_bl sa_nil))) (sa_cons (se_tup (sa_cons (se_str (s := []) (by rfl) (by decide)) (sa_cons se_bl sa_nil))) (sa_cons (se_tup (sa_cons se_non (sa_cons se_bl sa_nil))) sa_nil))))))))) (sg_tup rfl (sgs_cons (sg_name (i := 10) sc_law.nd rfl (.inl rfl)) (sgs_cons (sg_name (i := 11) sc_law.nd rfl (.inl rfl)) sgs_nil))) (sss_one (ss_if (sc_cmp (op_neI (ru4 hr)) (se_dn (dn_is_name B) takes_fn (hr.mono (by decide)) (by rfl) (sa_cons (se_var (i := 10) rfl (.inl rfl)) sa_nil) (len_cons len_nil)) (se_var (i := 11) rfl (.inl rfl)) (nomark _)) (sss_one (ss_ret se_bl)) sss_nil)))
    (sss_one (ss_ret (se_dnG0 (dn__law_refused_right B) takes_fn hgd (hr.mono (by decide)) (by rfl))))))))))))))))

end law_k01

set_option Elab.async false
set_option linter.all false
set_option maxRecDepth 100000
namespace law_k01
open PySem PySem.Spec PyProof.Rows L2 PI
/-- below the line up to which divisors are served -/
def Sm (i : Int) : Prop := i.natAbs < 2 ^ 9000
abbrev cC : SemT := (rTBl (rBin cGt (rVar 1) (rC (.int (0)))))
abbrev bC : SemS := (sPar 0 1 (rCons (rVar 1) (rCons (rBin subI (rVar 0) (rBin mulI (rVar 1) (rBin divI (rVar 0) (rVar 1)))) rNil)))
theorem log2_lt {n k : Nat} (h : n < 2 ^ k) (hk : 0 < k) : n.log2 < k := by
  by_cases h0 : n = 0
  · subst h0; simpa [Nat.log2_zero] using hk
  · exact (Nat.log2_lt h0).mpr h
theorem cC_eq (a b : Int) (st : Sto) : cC [some (.int a), some (.int b)] st = .ok (decide (0 < b)) st := rfl
theorem div_ok {a b : Int} (st : Sto) (hb : 0 < b) (h : Sm b) : divI (.int a) (.int b) st = some (.int (a / b), st) := by
  show (bif decide (0 < b) && Nat.blt b.natAbs.log2 9000 then _ else _) = _
  have h1 : Nat.blt b.natAbs.log2 9000 = true := by
    have := log2_lt h (by decide)
    simp [Nat.blt]; omega
  rw [decide_eq_true hb, h1]; rfl
theorem mul_ok {a b : Int} (st : Sto) (ha : Sm a) (hb : Sm b) : mulI (.int a) (.int b) st = some (.int (a * b), st) := by
  show (bif mulOk a b then _ else _) = _
  have : mulOk a b = true := by
    unfold mulOk
    have h1 := log2_lt ha (by decide)
    have h2 := log2_lt hb (by decide)
    apply Nat.ble_eq_true_of_le
    omega
  rw [this]; rfl
theorem bC_eq (a b : Int) (st : Sto) (hb : 0 < b) (ha : Sm a) (hb2 : Sm b) (ha0 : 0 ≤ a) : bC [some (.int a), some (.int b)] st = .nx [some (.int b), some (.int (a - b * (a / b)))] st := by
  have hq : Sm (a / b) := by
    unfold Sm at *
    have h1 : 0 ≤ a / b := Int.ediv_nonneg ha0 (Int.le_of_lt hb)
    have h2 : a / b ≤ a := Int.ediv_le_self b ha0
    omega
  simp only [bC, sPar, rCons, rBin, rVar, List.getElem?_cons_zero, List.getElem?_cons_succ, RE.bind, div_ok st hb hb2, RE.ofO, mul_ok st hb2 hq, subI, rNil, RS.ofE, List.set_cons_zero, List.set_cons_succ]
theorem while_eq (st : Sto) : ∀ (n : Nat) (a b : Int), 0 ≤ a → 0 ≤ b → Sm a → Sm b → b.toNat < n → sWhile cC bC n [some (.int a), some (.int b)] st = .nx [some (.int (Int.gcd a b)), some (.int 0)] st
  | 0, _, _, _, _, _, _, h => absurd h (Nat.not_lt_zero _)
  | n + 1, a, b, ha, hb, sa, sb, h => by
    unfold sWhile
    rw [cC_eq]
    by_cases h0 : 0 < b
    · rw [decide_eq_true h0]
      simp only [RS.ofE, cond_true]
      rw [bC_eq a b st h0 sa sb ha]
      simp only [RS.loop]
      have e : a - b * (a / b) = a % b := by rw [Int.emod_def]
      have h1 := Int.emod_nonneg a (Int.ne_of_gt h0)
      have h2 := Int.emod_lt_of_pos a h0
      rw [e, while_eq st n b (a % b) hb h1 sb (by unfold Sm at *; omega) (by omega)]
      have : Int.gcd b (a % b) = Int.gcd a b := by
        obtain ⟨m, rfl⟩ := Int.eq_ofNat_of_zero_le ha
        obtain ⟨k, rfl⟩ := Int.eq_ofNat_of_zero_le hb
        show Nat.gcd (Int.natAbs _) (Int.natAbs (_ % _)) = Nat.gcd (Int.natAbs _) (Int.natAbs _)
        rw [← Int.natCast_emod, Int.natAbs_natCast, Int.natAbs_natCast, Int.natAbs_natCast, Nat.gcd_comm k, ← Nat.gcd_rec, Nat.gcd_comm]
      rw [this]
    · have : b = 0 := by omega
      subst this
      rw [decide_eq_false h0]
      simp only [RS.ofE, cond_false]
      rw [Int.gcd_zero_right, Int.natAbs_of_nonneg ha]
theorem d_common_eq {a b : Int} (st : Sto) (ha : 0 ≤ a) (hb : 0 ≤ b) (sa : Sm a) (sb : Sm b) : d_common [.int a, .int b] st = .ok (.int (Int.gcd a b)) st := by
  unfold d_common callI r_common
  show (match (sWhile cC bC (b.toNat + 1) [some (.int a), some (.int b)] st).seq (sRet (rVar 0)) with | .nx _ st1 => _ | .rt v st1 => _ | .exc x _ st1 => _ | _ => _) = _
  rw [while_eq st _ a b ha hb sa sb (by omega)]
  rfl
end law_k01

set_option Elab.async false
set_option linter.all false
set_option maxRecDepth 100000
namespace law_k01
open PySem PySem.Spec PyProof.Rows L2 PI
theorem law_common_eq : d__law_common = d_common := rfl
def gq (t b : Int) : Int := (Int.gcd (t.natAbs : Int) b : Nat)
theorem absI_eq (t : Int) (st : Sto) : absI [.int t] st = some (.int (t.natAbs : Int), st) := by
  show some (IV.int (if t < 0 then -t else t), st) = _
  congr 3
  split <;> omega
theorem gt_eq (i j : Int) (st : Sto) : cGt (.int i) (.int j) st = some (.bl (decide (j < i)), st) := rfl
theorem sm_le {a b : Int} (h : a.natAbs ≤ b.natAbs) (hb : Sm b) : Sm a := Nat.lt_of_le_of_lt h hb
theorem gq_pos {t b : Int} (hb : 0 < b) : 0 < gq t b := by
  unfold gq
  have : Int.gcd (t.natAbs : Int) b ≠ 0 := by
    intro h
    have := (Int.gcd_eq_zero_iff.mp h).2
    omega
  omega
theorem gq_le {t b : Int} (hb : 0 < b) : gq t b ≤ b := by
  unfold gq
  exact Int.le_of_dvd hb (Int.gcd_dvd_right ..)
theorem d_lean_eq {t b : Int} (st : Sto) (hb : 0 < b) (st_ : Sm t) (sb : Sm b) (h1 : (t / gq t b).natAbs ≤ 10 ^ 60) (h2 : b / gq t b ≤ 10 ^ 60) : d_lean [.int t, .int b] st = .ok (.tup [.int (t / gq t b), .int (b / gq t b)]) st := by
  have hg := gq_pos (t := t) hb
  have sg : Sm (gq t b) := sm_le (by have := gq_le (t := t) hb; omega) sb
  have hc : d_common [.int (t.natAbs : Int), .int b] st = .ok (.int (gq t b)) st := d_common_eq st (by omega) (by omega) (by unfold Sm at *; omega) sb
  unfold d_lean r_lean
  simp only [callI, startI, List.map_cons, List.map_nil, List.length_cons, List.length_nil, Nat.reduceAdd, Nat.reduceSub, List.replicate_one, List.cons_append, List.nil_append, List.replicate, sSeq, sAsg, rDef, rCons, rCall, rVar, rNil, List.getElem?_cons_zero, List.getElem?_cons_succ, RE.bind, RE.ofO, absI_eq, hc, RS.ofE, gN, RS.ofG, List.set_cons_zero, List.set_cons_succ, RS.seq, sPar, rBin, div_ok _ hg sg]
  have e1 : decide ((10 : Int) ^ 60 < ((t / gq t b).natAbs : Int)) = false := decide_eq_false (by omega)
  have e2 : decide ((10 : Int) ^ 60 < b / gq t b) = false := decide_eq_false (by omega)
  simp only [sIf, rTOr, rTBl, rBin, rCall, rCons, rNil, rVar, rC, g_MOST, List.getElem?_cons_zero, List.getElem?_cons_succ, RE.bind, RE.ofO, absI_eq, gt_eq, e1, e2, cond_false, RS.ofE, sPass, sRet, rTup]
  rfl
end law_k01

set_option Elab.async false
set_option linter.all false
set_option maxRecDepth 100000
namespace law_k01
open PySem PySem.Spec PyProof.Rows L2 PI
theorem d_is_whole_int (i : Int) (st : Sto) : d_is_whole [.int i] st = .ok (.bl true) st := rfl
theorem d_is_whole_non (st : Sto) : d_is_whole [.non] st = .ok (.bl false) st := rfl
theorem d_is_whole_bl (b : Bool) (st : Sto) : d_is_whole [.bl b] st = .ok (.bl false) st := rfl
theorem d_is_many_tup2 (x y : IV) (st : Sto) : d_is_many [.tup [x, y], .int 2] st = .ok (.bl true) st := rfl
theorem d_is_from_int (i lo hi : Int) (st : Sto) : d_is_from [.int i, .int lo, .int hi] st = .ok (.bl (decide (lo ≤ i) && decide (i ≤ hi))) st := by
  have e : d_is_from [.int i, .int lo, .int hi] st = (match decide (lo ≤ i) with | true => RE.ok (.bl (decide (i ≤ hi))) st | false => .ok (.bl false) st) := by
    unfold d_is_from r_is_from
    simp only [callI, startI, List.map_cons, List.map_nil, List.length_cons, List.length_nil, Nat.reduceAdd, Nat.reduceSub, List.replicate_one, List.cons_append, List.nil_append, List.replicate, List.append_nil, sRet, rAnd, rDef, rCons, rNil, rVar, List.getElem?_cons_zero, List.getElem?_cons_succ, RE.bind, d_is_whole_int, truI, rChain, cLe, leI, blO, RE.ofO, RS.ofE]
    cases decide (lo ≤ i) <;> rfl
  rw [e]
  cases decide (lo ≤ i) <;> rfl
/-- a lean fraction: no common divisor, below the line -/
structure Fr (t b : Int) : Prop where
  pos : 0 < b
  gcd : Int.gcd (t.natAbs : Int) b = 1
  top : t.natAbs ≤ 10 ^ 60
  bot : b ≤ 10 ^ 60
theorem sm60 {i : Int} (h : i.natAbs ≤ 10 ^ 60) : Sm i := Nat.lt_of_le_of_lt h (by decide +kernel)
theorem d_is_fraction_eq {t b : Int} (st : Sto) (h : Fr t b) : d_is_fraction [.tup [.int t, .int b]] st = .ok (.bl true) st := by
  have hc : d_common [.int (t.natAbs : Int), .int b] st = .ok (.int 1) st := by
    have := d_common_eq (a := (t.natAbs : Int)) (b := b) st (by omega) (Int.le_of_lt h.pos) (sm60 (by have := h.top; omega)) (sm60 (by have := h.bot; have := h.pos; omega))
    rw [h.gcd] at this
    exact this
  have i0 : ∀ (x y : IV) (st : Sto), idxI (.tup [x, y]) (.int 0) st = some (x, st) := fun _ _ _ => rfl
  have i1 : ∀ (x y : IV) (st : Sto), idxI (.tup [x, y]) (.int 1) st = some (y, st) := fun _ _ _ => rfl
  have n1 : ∀ (i : Int) (st : Sto), negI (.int i) st = some (.int (-i), st) := fun _ _ => rfl
  have a1 : (decide (-(10 : Int) ^ 60 ≤ t) && decide (t ≤ 10 ^ 60)) = true := by
    have := h.top
    rw [decide_eq_true (by omega), decide_eq_true (by omega)]; rfl
  have a2 : (decide ((1 : Int) ≤ b) && decide (b ≤ 10 ^ 60)) = true := by
    have := h.bot; have := h.pos
    rw [decide_eq_true (by omega), decide_eq_true (by omega)]; rfl
  have q : ∀ st : Sto, cEq (.int 1) (.int 1) st = some (.bl true, st) := fun _ => rfl
  unfold d_is_fraction r_is_fraction
  simp only [callI, startI, List.map_cons, List.map_nil, List.length_cons, List.length_nil, Nat.reduceAdd, Nat.reduceSub, List.replicate_one, List.cons_append, List.nil_append, List.replicate, List.append_nil, sSeq, sIf, rTOr, rTNot, rTru, sRet, rDef, rCons, rNil, rVar, rC, g_MOST, rBin, rUn, rCall, List.getElem?_cons_zero, List.getElem?_cons_succ, RE.bind, d_is_many_tup2, i0, i1, n1, d_is_from_int, a1, a2, truI, Bool.not_true, cond_false, RE.ofO, RS.ofE, sPass, RS.seq, absI_eq, hc, q]
end law_k01

set_option Elab.async false
set_option linter.all false
set_option maxRecDepth 100000
namespace law_k01
open PySem PySem.Spec PyProof.Rows L2 PI
/-- what the law's own lean gives, whatever the sign of the divisor -/
def lq (t b : Int) : Int × Int := if 0 < b then (t / gq t b, b / gq t b) else (-t / gq t (-b), -b / gq t (-b))
theorem d__law_lean_eq {t b : Int} (st : Sto) (hb : b ≠ 0) (sT : Sm t) (sb : Sm b) : d__law_lean [.int t, .int b] st = .ok (.tup [.int (lq t b).1, .int (lq t b).2]) st := by
  have n1 : ∀ (i : Int) (st : Sto), negI (.int i) st = some (.int (-i), st) := fun _ _ => rfl
  unfold d__law_lean r__law_lean
  by_cases h : 0 < b
  · have hg := gq_pos (t := t) h
    have sg : Sm (gq t b) := sm_le (by have := gq_le (t := t) h; omega) sb
    have ab : ((b.natAbs : Nat) : Int) = b := by omega
    have hc : d__law_common [.int (t.natAbs : Int), .int b] st = .ok (.int (gq t b)) st := d_common_eq st (by omega) (by omega) (by unfold Sm at *; omega) sb
    simp only [callI, startI, List.map_cons, List.map_nil, List.length_cons, List.length_nil, Nat.reduceAdd, Nat.reduceSub, List.replicate_one, List.cons_append, List.nil_append, List.replicate, sSeq, sAsg, rDef, rCons, rCall, rVar, rNil, rC, List.getElem?_cons_zero, List.getElem?_cons_succ, RE.bind, RE.ofO, absI_eq, ab, hc, RS.ofE, gN, RS.ofG, List.set_cons_zero, List.set_cons_succ, RS.seq, sRet, rIfE, rTBl, rBin, gt_eq, decide_eq_true h, cond_true, div_ok _ hg sg, rTup, lq, if_pos h]
    rfl
  · have h' : 0 < -b := by omega
    have hg := gq_pos (t := t) h'
    have sg : Sm (gq t (-b)) := sm_le (by have := gq_le (t := t) h'; omega) sb
    have ab : ((b.natAbs : Nat) : Int) = -b := by omega
    have hc : d__law_common [.int (t.natAbs : Int), .int (-b)] st = .ok (.int (gq t (-b))) st := d_common_eq st (by omega) (by omega) (by unfold Sm at *; omega) (by unfold Sm at *; omega)
    simp only [callI, startI, List.map_cons, List.map_nil, List.length_cons, List.length_nil, Nat.reduceAdd, Nat.reduceSub, List.replicate_one, List.cons_append, List.nil_append, List.replicate, sSeq, sAsg, rDef, rCons, rCall, rVar, rNil, rC, List.getElem?_cons_zero, List.getElem?_cons_succ, RE.bind, RE.ofO, absI_eq, ab, hc, RS.ofE, gN, RS.ofG, List.set_cons_zero, List.set_cons_succ, RS.seq, sRet, rIfE, rTBl, rBin, rUn, n1, gt_eq, decide_eq_false h, cond_false, div_ok _ hg sg, rTup, lq, if_neg h]
    rfl
theorem d_lean_fr {t b : Int} (st : Sto) (hb : 0 < b) (ht : t.natAbs ≤ 10 ^ 60) (hb2 : b ≤ 10 ^ 60) : d_lean [.int t, .int b] st = .ok (.tup [.int (lq t b).1, .int (lq t b).2]) st := by
  have hg := gq_pos (t := t) hb
  have h1 : (t / gq t b).natAbs ≤ 10 ^ 60 := Nat.le_trans (Int.natAbs_ediv_le_natAbs t _) ht
  have h2 : b / gq t b ≤ 10 ^ 60 := Int.le_trans (Int.ediv_le_self _ (Int.le_of_lt hb)) hb2
  rw [d_lean_eq st hb (sm60 ht) (sm60 (by omega)) h1 h2]
  simp only [lq, if_pos hb]
theorem d_fraction_of_eq {t b : Int} (st : Sto) (hb : b ≠ 0) (ht : t.natAbs ≤ 10 ^ 60) (hb2 : b.natAbs ≤ 10 ^ 60) : d_fraction_of [.int t, .int b] st = .ok (.tup [.int (lq t b).1, .int (lq t b).2]) st := by
  have n1 : ∀ (i : Int) (st : Sto), negI (.int i) st = some (.int (-i), st) := fun _ _ => rfl
  have q : ∀ (i : Int) (st : Sto), cEq (.int i) (.int 0) st = some (.bl (i == 0), st) := fun _ _ => rfl
  have hq : (b == 0) = false := by simpa using hb
  unfold d_fraction_of r_fraction_of
  by_cases h : 0 < b
  · have hl := d_lean_fr (t := t) (b := b) st h ht (by omega)
    simp only [callI, startI, List.map_cons, List.map_nil, List.length_cons, List.length_nil, Nat.reduceAdd, Nat.reduceSub, List.replicate_one, List.cons_append, List.nil_append, List.replicate, List.append_nil, sSeq, sIf, rTOr, rTNot, rTru, sRet, rDef, rCons, rNil, rVar, rC, rBin, rUn, rCall, rTBl, rIfE, List.getElem?_cons_zero, List.getElem?_cons_succ, RE.bind, d_is_whole_int, n1, truI, Bool.not_true, cond_false, cond_true, RE.ofO, RS.ofE, sPass, RS.seq, q, hq, gt_eq, decide_eq_true h, hl]
  · have e : lq t b = lq (-t) (-b) := by
      have h' : 0 < -b := by omega
      unfold lq
      rw [if_neg h, if_pos h']
      have : gq (-t) (-b) = gq t (-b) := by unfold gq; rw [Int.natAbs_neg]
      rw [this]
    have hl := d_lean_fr (t := -t) (b := -b) st (by omega) (by rw [Int.natAbs_neg]; exact ht) (by omega)
    rw [← e] at hl
    simp only [callI, startI, List.map_cons, List.map_nil, List.length_cons, List.length_nil, Nat.reduceAdd, Nat.reduceSub, List.replicate_one, List.cons_append, List.nil_append, List.replicate, List.append_nil, sSeq, sIf, rTOr, rTNot, rTru, sRet, rDef, rCons, rNil, rVar, rC, rBin, rUn, rCall, rTBl, rIfE, List.getElem?_cons_zero, List.getElem?_cons_succ, RE.bind, d_is_whole_int, n1, truI, Bool.not_true, cond_false, cond_true, RE.ofO, RS.ofE, sPass, RS.seq, q, hq, gt_eq, decide_eq_false h, hl]
end law_k01

set_option Elab.async false
set_option linter.all false
set_option maxRecDepth 100000
namespace law_k01
open PySem PySem.Spec PyProof.Rows L2 PI
abbrev fr (t b : Int) : IV := .tup [.int t, .int b]
abbrev lf (t b : Int) : IV := fr (lq t b).1 (lq t b).2
theorem i0 (x y : IV) (st : Sto) : idxI (.tup [x, y]) (.int 0) st = some (x, st) := rfl
theorem i1 (x y : IV) (st : Sto) : idxI (.tup [x, y]) (.int 1) st = some (y, st) := rfl
theorem add_ok (a b : Int) (st : Sto) : addI (.int a) (.int b) st = some (.int (a + b), st) := rfl
theorem d_plus_eq {a b c d : Int} (st : Sto) (sa : Sm a) (sb : Sm b) (sc : Sm c) (sd : Sm d) (h : 0 < b * d) (h1 : (a * d + c * b).natAbs ≤ 10 ^ 60) (h2 : b * d ≤ 10 ^ 60) : d_plus [fr a b, fr c d] st = .ok (lf (a * d + c * b) (b * d)) st := by
  have hl := d_lean_fr st h h1 h2
  unfold d_plus r_plus
  simp only [callI, startI, List.map_cons, List.map_nil, List.length_cons, List.length_nil, Nat.reduceAdd, Nat.reduceSub, List.replicate_one, List.cons_append, List.nil_append, List.replicate, List.append_nil, sRet, rDef, rCons, rNil, rVar, rC, rBin, List.getElem?_cons_zero, List.getElem?_cons_succ, RE.bind, RE.ofO, RS.ofE, i0, i1, mul_ok _ sa sd, mul_ok _ sc sb, mul_ok _ sb sd, add_ok, hl]
theorem d__law_plus_eq {a b c d : Int} (st : Sto) (sa : Sm a) (sb : Sm b) (sc : Sm c) (sd : Sm d) (h : b * d ≠ 0) (h1 : Sm (a * d + c * b)) (h2 : Sm (b * d)) : d__law_plus [fr a b, fr c d] st = .ok (lf (a * d + c * b) (b * d)) st := by
  have hl := d__law_lean_eq st h h1 h2
  unfold d__law_plus r__law_plus
  simp only [callI, startI, List.map_cons, List.map_nil, List.length_cons, List.length_nil, Nat.reduceAdd, Nat.reduceSub, List.replicate_one, List.cons_append, List.nil_append, List.replicate, List.append_nil, sRet, rDef, rCons, rNil, rVar, rC, rBin, List.getElem?_cons_zero, List.getElem?_cons_succ, RE.bind, RE.ofO, RS.ofE, i0, i1, mul_ok _ sa sd, mul_ok _ sc sb, mul_ok _ sb sd, add_ok, hl]
theorem d_times_eq {a b c d : Int} (st : Sto) (sa : Sm a) (sb : Sm b) (sc : Sm c) (sd : Sm d) (h : 0 < b * d) (h1 : (a * c).natAbs ≤ 10 ^ 60) (h2 : b * d ≤ 10 ^ 60) : d_times [fr a b, fr c d] st = .ok (lf (a * c) (b * d)) st := by
  have hl := d_lean_fr st h h1 h2
  unfold d_times r_times
  simp only [callI, startI, List.map_cons, List.map_nil, List.length_cons, List.length_nil, Nat.reduceAdd, Nat.reduceSub, List.replicate_one, List.cons_append, List.nil_append, List.replicate, List.append_nil, sRet, rDef, rCons, rNil, rVar, rC, rBin, List.getElem?_cons_zero, List.getElem?_cons_succ, RE.bind, RE.ofO, RS.ofE, i0, i1, mul_ok _ sa sc, mul_ok _ sb sd, hl]
theorem d__law_times_eq {a b c d : Int} (st : Sto) (sa : Sm a) (sb : Sm b) (sc : Sm c) (sd : Sm d) (h : b * d ≠ 0) (h1 : Sm (a * c)) (h2 : Sm (b * d)) : d__law_times [fr a b, fr c d] st = .ok (lf (a * c) (b * d)) st := by
  have hl := d__law_lean_eq st h h1 h2
  unfold d__law_times r__law_times
  simp only [callI, startI, List.map_cons, List.map_nil, List.length_cons, List.length_nil, Nat.reduceAdd, Nat.reduceSub, List.replicate_one, List.cons_append, List.nil_append, List.replicate, List.append_nil, sRet, rDef, rCons, rNil, rVar, rC, rBin, List.getElem?_cons_zero, List.getElem?_cons_succ, RE.bind, RE.ofO, RS.ofE, i0, i1, mul_ok _ sa sc, mul_ok _ sb sd, hl]
/-- check_fractions of fractions -/
theorem d_check_eq : ∀ (xs : List (Int × Int)) (st : Sto), (∀ p ∈ xs, Fr p.1 p.2) → d_check_fractions [.tup (xs.map fun p => fr p.1 p.2)] st = .ok .non st := by
  have key : ∀ (xs : List (Int × Int)) (st : Sto) (env : IEnv) (z : Option IV), (∀ p ∈ xs, Fr p.1 p.2) → env.length = 2 →
      ∃ env', loopT (gN 1) (sIf (rTNot (rTru (rDef d_is_fraction (rCons (rVar 1) rNil)))) (sRaise 1 "thing" (rVar 1)) sPass) (xs.map fun p => fr p.1 p.2) env st = .nx env' st := by
    intro xs
    induction xs with
    | nil => exact fun st env z _ _ => ⟨env, rfl⟩
    | cons p xs ih =>
      intro st env z h hl
      match env, hl with
      | [e0, e1], _ =>
        have hf := d_is_fraction_eq st (h p List.mem_cons_self)
        obtain ⟨env', he⟩ := ih st [e0, some (fr p.1 p.2)] none (fun q hq => h q (List.mem_cons_of_mem _ hq)) rfl
        refine ⟨env', ?_⟩
        rw [List.map_cons]
        unfold loopT
        simp only [gN, RS.ofG, List.set_cons_zero, List.set_cons_succ, sIf, rTNot, rTru, rDef, rCons, rVar, rNil, List.getElem?_cons_zero, List.getElem?_cons_succ, RE.bind, hf, truI, Bool.not_true, RS.ofE, cond_false, sPass, RS.loop]
        exact he
  intro xs st h
  obtain ⟨env', he⟩ := key xs st [some (.tup (xs.map fun p => fr p.1 p.2)), none] none h rfl
  unfold d_check_fractions r_check_fractions
  simp only [callI, startI, List.map_cons, List.map_nil, List.length_cons, List.length_nil, Nat.reduceAdd, Nat.reduceSub, List.replicate_one, List.cons_append, List.nil_append, List.replicate, List.append_nil, sFor, fSeq, rVar, List.getElem?_cons_zero, RE.bind, seqFI, RS.ofE, he]
end law_k01

set_option Elab.async false
set_option linter.all false
set_option maxRecDepth 100000
namespace law_k01
open PySem PySem.Spec PyProof.Rows L2 PI
theorem lq_pos {t b : Int} (hb : b ≠ 0) : 0 < (lq t b).2 := by
  unfold lq
  split
  · rename_i h
    have hd : gq t b ∣ b := Int.gcd_dvd_right ..
    exact Int.ediv_pos_of_pos_of_dvd h (Int.le_of_lt (gq_pos h)) hd
  · rename_i h
    have h' : 0 < -b := by omega
    have hd : gq t (-b) ∣ -b := Int.gcd_dvd_right ..
    exact Int.ediv_pos_of_pos_of_dvd h' (Int.le_of_lt (gq_pos h')) hd
theorem gcd_q {t b : Int} (hb : 0 < b) : Int.gcd ((t / gq t b).natAbs : Int) (b / gq t b) = 1 := by
  have hg := gq_pos (t := t) hb
  have h1 : (gq t b) ∣ t := by
    have : gq t b ∣ (t.natAbs : Int) := Int.gcd_dvd_left ..
    exact Int.dvd_natAbs.mp this
  have h2 : gq t b ∣ b := Int.gcd_dvd_right ..
  have e : gq t b = (Int.gcd t b : Nat) := by
    unfold gq
    simp [Int.gcd]
  have k : Int.gcd (t / gq t b) (b / gq t b) = 1 := by
    rw [Int.gcd_ediv h1 h2]
    rw [e]
    have : 0 < Int.gcd t b := by
      have := hg
      rw [e] at this
      omega
    simp [Nat.div_self this]
  simpa [Int.gcd] using k
theorem lq_fr {t b : Int} (hb : b ≠ 0) (h1 : t.natAbs ≤ 10 ^ 60) (h2 : b.natAbs ≤ 10 ^ 60) : Fr (lq t b).1 (lq t b).2 := by
  have hp := lq_pos (t := t) hb
  unfold lq at hp ⊢
  split
  · rename_i h
    rw [if_pos h] at hp
    exact ⟨hp, gcd_q h, Nat.le_trans (Int.natAbs_ediv_le_natAbs t _) h1, Int.le_trans (Int.ediv_le_self _ (Int.le_of_lt h)) (by omega)⟩
  · rename_i h
    rw [if_neg h] at hp
    have h' : 0 < -b := by omega
    have e : gq t (-b) = gq (-t) (-b) := by unfold gq; rw [Int.natAbs_neg]
    rw [e] at hp ⊢
    exact ⟨hp, gcd_q h', Nat.le_trans (Int.natAbs_ediv_le_natAbs _ _) (by rw [Int.natAbs_neg]; exact h1), Int.le_trans (Int.ediv_le_self _ (Int.le_of_lt h')) (by omega)⟩
end law_k01

set_option Elab.async false
set_option linter.all false
set_option maxRecDepth 100000
namespace law_k01
open PySem PySem.Spec PyProof.Rows L2 PI
theorem mod_ok {a b : Int} (st : Sto) (hb : 0 < b) : modI (.int a) (.int b) st = some (.int (a % b), st) := by
  show (bif decide (0 < b) then _ else _) = _
  rw [decide_eq_true hb]; rfl
theorem sm_of {a : Int} (h : a.natAbs < 2 ^ 100) : Sm a := Nat.lt_of_lt_of_le h (by decide +kernel)
theorem int_ok (a : Int) (st : Sto) : intI [.int a] st = some (.int a, st) := rfl
theorem d__law_draw_ok (c k b : Int) (st : Sto) (hc : c.natAbs < 2 ^ 100) (hk0 : 0 ≤ k) (hk : k < 16) (hb : 0 < b) : ∃ v, 0 ≤ v ∧ v < b ∧ d__law_draw [.int c, .int k, .int b] st = .ok (.int v) st := by
  have hp : ∃ p : Int, 0 < p ∧ ∀ st, idxI (.tup [IV.int 1000003, .int 1000033, .int 1000037, .int 1000039, .int 1000081, .int 1000099, .int 1000117, .int 1000121, .int 1000133, .int 1000151, .int 1000159, .int 1000171, .int 1000183, .int 1000187, .int 1000193, .int 1000199]) (.int (k % 16)) st = some (.int p, st) := by
    have : k = 0 ∨ k = 1 ∨ k = 2 ∨ k = 3 ∨ k = 4 ∨ k = 5 ∨ k = 6 ∨ k = 7 ∨ k = 8 ∨ k = 9 ∨ k = 10 ∨ k = 11 ∨ k = 12 ∨ k = 13 ∨ k = 14 ∨ k = 15 := by omega
    rcases this with rfl | rfl | rfl | rfl | rfl | rfl | rfl | rfl | rfl | rfl | rfl | rfl | rfl | rfl | rfl | rfl <;> exact ⟨_, by decide, fun _ => rfl⟩
  obtain ⟨p, hp0, hp⟩ := hp
  refine ⟨(c * 48271 + k * 69621) % p % b, Int.emod_nonneg _ (Int.ne_of_gt hb), Int.emod_lt_of_pos _ hb, ?_⟩
  unfold d__law_draw r__law_draw
  have m1 : ∀ st, mulI (.int c) (.int 48271) st = some (.int (c * 48271), st) := fun st => mul_ok st (sm_of hc) (sm_of (by decide))
  have m2 : ∀ st, mulI (.int k) (.int 69621) st = some (.int (k * 69621), st) := fun st => mul_ok st (sm_of (by omega)) (sm_of (by decide))
  have m3 : ∀ (x : Int) st, modI (.int x) (.int 16) st = some (.int (x % 16), st) := fun x st => mod_ok st (by decide)
  have lt : Nat.ble 16 lineI = true := by decide
  simp only [callI, startI, List.map_cons, List.map_nil, List.length_cons, List.length_nil, Nat.reduceAdd, Nat.reduceSub, List.replicate_one, List.cons_append, List.nil_append, List.replicate, List.append_nil, sSeq, sAsg, rTup, rC, rCons, rNil, RE.bind, lt, cond_true, RS.ofE, gN, RS.ofG, List.set_cons_zero, List.set_cons_succ, RS.seq, sRet, rBin, rCall, rVar, List.getElem?_cons_zero, List.getElem?_cons_succ, RE.ofO, m1, m2, add_ok, int_ok, m3, hp, mod_ok _ hp0, mod_ok _ hb]
end law_k01

set_option Elab.async false
set_option linter.all false
set_option maxRecDepth 100000
set_option maxHeartbeats 2000000
namespace law_k01
open PySem PySem.Spec PyProof.Rows L2 PI
theorem d__law_number_ok (C k b : Int) (st : Sto) (hk0 : 1 ≤ k) (hk : k ≤ 12) (hb : 0 < b) : ∃ v, 0 ≤ v ∧ v < b ∧ d__law_number [.int C, .int k, .int b] st = .ok (.int v) st := by
  have hl : ∃ (z : Int) (e4 : Option IV), 0 < z ∧ Sm z ∧ sFor (fRng1 (rCons (rBin modI (rCall intI (rCons (rVar 1) rNil)) (rC (.int (24)))) rNil)) (gN 4) (sAsg (rBin mulI (rVar 3) (rC (.int (1009)))) (gN 3)) [some (.int C), some (.int k), some (.int b), some (.int 1), none, none, none] st = .nx [some (.int C), some (.int k), some (.int b), some (.int z), e4, none, none] st := by
    have : k = 1 ∨ k = 2 ∨ k = 3 ∨ k = 4 ∨ k = 5 ∨ k = 6 ∨ k = 7 ∨ k = 8 ∨ k = 9 ∨ k = 10 ∨ k = 11 ∨ k = 12 := by omega
    rcases this with rfl | rfl | rfl | rfl | rfl | rfl | rfl | rfl | rfl | rfl | rfl | rfl
    · exact ⟨1009 ^ 1, some (.int 0), by decide, sm60 (by decide), by kernel_rfl⟩
    · exact ⟨1009 ^ 2, some (.int 1), by decide, sm60 (by decide), by kernel_rfl⟩
    · exact ⟨1009 ^ 3, some (.int 2), by decide, sm60 (by decide), by kernel_rfl⟩
    · exact ⟨1009 ^ 4, some (.int 3), by decide, sm60 (by decide), by kernel_rfl⟩
    · exact ⟨1009 ^ 5, some (.int 4), by decide, sm60 (by decide), by kernel_rfl⟩
    · exact ⟨1009 ^ 6, some (.int 5), by decide, sm60 (by decide), by kernel_rfl⟩
    · exact ⟨1009 ^ 7, some (.int 6), by decide, sm60 (by decide), by kernel_rfl⟩
    · exact ⟨1009 ^ 8, some (.int 7), by decide, sm60 (by decide), by kernel_rfl⟩
    · exact ⟨1009 ^ 9, some (.int 8), by decide, sm60 (by decide), by kernel_rfl⟩
    · exact ⟨1009 ^ 10, some (.int 9), by decide, sm60 (by decide), by kernel_rfl⟩
    · exact ⟨1009 ^ 11, some (.int 10), by decide, sm60 (by decide), by kernel_rfl⟩
    · exact ⟨1009 ^ 12, some (.int 11), by decide, sm60 (by decide), by kernel_rfl⟩
  obtain ⟨z, e4, hz, sz, hl⟩ := hl
  have hs0 : 0 ≤ C % 1000003 := Int.emod_nonneg _ (by decide)
  have hs1 : C % 1000003 < 1000003 := Int.emod_lt_of_pos _ (by decide)
  have m1 : ∀ st, mulI (.int 977) (.int k) st = some (.int (977 * k), st) := fun st => mul_ok st (sm_of (by decide)) (sm_of (by omega))
  have m2 : ∀ st, mulI (.int 31) (.int k) st = some (.int (31 * k), st) := fun st => mul_ok st (sm_of (by decide)) (sm_of (by omega))
  have m3 : ∀ st, mulI (.int (C % 1000003 + 977 * k)) (.int (C % 1000003 + 31 * k + 5)) st = some (.int ((C % 1000003 + 977 * k) * (C % 1000003 + 31 * k + 5)), st) := fun st => mul_ok st (sm_of (by omega)) (sm_of (by omega))
  have big : ((C % 1000003 + 977 * k) * (C % 1000003 + 31 * k + 5)).natAbs < 2 ^ 100 := by
    rw [Int.natAbs_mul]
    have a1 : (C % 1000003 + 977 * k).natAbs ≤ 2 ^ 30 := by omega
    have a2 : (C % 1000003 + 31 * k + 5).natAbs ≤ 2 ^ 30 := by omega
    exact Nat.lt_of_le_of_lt (Nat.mul_le_mul a1 a2) (by decide)
  have k9 : 0 ≤ k % 9 ∧ k % 9 < 9 := ⟨Int.emod_nonneg _ (by decide), Int.emod_lt_of_pos _ (by decide)⟩
  obtain ⟨v, hv0, hv1, hv⟩ := d__law_draw_ok ((C % 1000003 + 977 * k) * (C % 1000003 + 31 * k + 5)) (k % 9 + 1) 999983 st big (by omega) (by omega) (by decide)
  have p1 : ∀ st, powI (.int 10) (.int 18) st = some (.int (10 ^ 18), st) := fun _ => rfl
  have s1 : ∀ (x y : Int) (st : Sto), subI (.int x) (.int y) st = some (.int (x - y), st) := fun _ _ _ => rfl
  by_cases h : 0 < (C - 10 ^ 18) / z
  · refine ⟨(C - 10 ^ 18) / z % 1009 % b, Int.emod_nonneg _ (Int.ne_of_gt hb), Int.emod_lt_of_pos _ hb, ?_⟩
    unfold d__law_number r__law_number
    simp only [callI, startI, List.map_cons, List.map_nil, List.length_cons, List.length_nil, Nat.reduceAdd, Nat.reduceSub, List.replicate_one, List.cons_append, List.nil_append, List.replicate, List.append_nil, sSeq]
    simp only [sAsg, rC, RS.ofE, gN, RS.ofG, List.set_cons_zero, List.set_cons_succ, RS.seq, sSeq]
    rw [hl]
    simp only [RS.seq, rBin, rVar, rCons, rNil, List.getElem?_cons_zero, List.getElem?_cons_succ, RE.bind, RE.ofO, p1, s1, div_ok _ hz sz, RS.ofE, RS.ofG, List.set_cons_zero, List.set_cons_succ, sIf, rTBl, gt_eq, rC, decide_eq_true h, cond_true, sRet, rCall, int_ok, mod_ok _ (show (0 : Int) < 1009 by decide), mod_ok _ hb]
  · refine ⟨v % b, Int.emod_nonneg _ (Int.ne_of_gt hb), Int.emod_lt_of_pos _ hb, ?_⟩
    unfold d__law_number r__law_number
    simp only [callI, startI, List.map_cons, List.map_nil, List.length_cons, List.length_nil, Nat.reduceAdd, Nat.reduceSub, List.replicate_one, List.cons_append, List.nil_append, List.replicate, List.append_nil, sSeq]
    simp only [sAsg, rC, RS.ofE, gN, RS.ofG, List.set_cons_zero, List.set_cons_succ, RS.seq, sSeq]
    rw [hl]
    simp only [RS.seq, rBin, rVar, rCons, rNil, List.getElem?_cons_zero, List.getElem?_cons_succ, RE.bind, RE.ofO, p1, s1, div_ok _ hz sz, RS.ofE, RS.ofG, List.set_cons_zero, List.set_cons_succ, sIf, rTBl, gt_eq, rC, decide_eq_false h, cond_false, sPass, sRet, rCall, int_ok, rDef, mod_ok _ (show (0 : Int) < 1000003 by decide), mod_ok _ (show (0 : Int) < 9 by decide), m1, m2, m3, add_ok, hv, mod_ok _ hb]
end law_k01

set_option Elab.async false
set_option linter.all false
set_option maxRecDepth 100000
set_option maxHeartbeats 2000000
namespace law_k01
open PySem PySem.Spec PyProof.Rows L2 PI
theorem d__law_cell_ok (m : Nat) (ns : List Int) (k : Int) (st : Sto) (hm : st.os[m]? = some (.lst (ns.map IV.int))) (hk : 0 ≤ k) : ∃ c, d__law_cell_at [.ref m, .int k] st = .ok (.int c) st := by
  have hl : lenI [.ref m] st = some (.int ns.length, st) := by
    show (match lstAt st m with | some xs => some (IV.int xs.length, st) | none => none) = _
    unfold lstAt
    rw [hm]
    simp
  have hlt : cLt (.int k) (.int ns.length) st = some (.bl (decide (k < ns.length)), st) := rfl
  unfold d__law_cell_at r__law_cell_at
  by_cases h : k < ns.length
  · have hi : ∃ c, idxI (.ref m) (.int k) st = some (.int c, st) := by
      have hlt2 : k.toNat < ns.length := by omega
      refine ⟨ns[k.toNat], ?_⟩
      show (match lstAt st m with | some xs => (match L2.atI xs k with | some v => some (v, st) | none => none) | none => none) = _
      unfold lstAt
      rw [hm]
      have ha : L2.atI (ns.map IV.int) k = some (.int ns[k.toNat]) := by
        obtain ⟨j, rfl⟩ := Int.eq_ofNat_of_zero_le hk
        refine L2.atI_nat (j := j) ?_
        rw [List.getElem?_map, List.getElem?_eq_getElem (by simpa using hlt2)]
        rfl
      simp only [ha]
    obtain ⟨c, hi⟩ := hi
    refine ⟨c, ?_⟩
    simp only [callI, startI, List.map_cons, List.map_nil, List.length_cons, List.length_nil, Nat.reduceAdd, Nat.reduceSub, List.replicate_one, List.cons_append, List.nil_append, List.replicate, List.append_nil, sSeq, sIf, rTBl, rBin, rVar, rCall, rCons, rNil, List.getElem?_cons_zero, List.getElem?_cons_succ, RE.bind, RE.ofO, hl, hlt, decide_eq_true h, RS.ofE, cond_true, sRet, hi, RS.seq]
  · refine ⟨0, ?_⟩
    simp only [callI, startI, List.map_cons, List.map_nil, List.length_cons, List.length_nil, Nat.reduceAdd, Nat.reduceSub, List.replicate_one, List.cons_append, List.nil_append, List.replicate, List.append_nil, sSeq, sIf, rTBl, rBin, rVar, rCall, rCons, rNil, rC, List.getElem?_cons_zero, List.getElem?_cons_succ, RE.bind, RE.ofO, hl, hlt, decide_eq_false h, RS.ofE, cond_false, sPass, sRet, RS.seq]
end law_k01

set_option Elab.async false
set_option linter.all false
set_option maxRecDepth 100000
set_option maxHeartbeats 2000000
namespace law_k01
open PySem PySem.Spec PyProof.Rows L2 PI
theorem d__law_next_ok (n m : Nat) (ns : List Int) (cnt b : Int) (st : Sto) (hn : st.os[n]? = some (.lst [.ref m, .int 0, .int cnt])) (hm : st.os[m]? = some (.lst (ns.map IV.int))) (hnm : n ≠ m) (hc : 0 ≤ cnt) (hc2 : cnt < 1000) (hb : 0 < b) :
    ∃ v, 0 ≤ v ∧ v < b ∧ d__law_next [.ref n, .int b] st = .ok (.int v) { os := st.os.set n (.lst [.ref m, .int 0, .int (cnt + 1)]), low := st.low } := by
  have hnl : n < st.os.length := (List.getElem?_eq_some_iff.mp hn).1
  have hq0 : 0 ≤ (cnt + 1) / 12 := Int.ediv_nonneg (by omega) (by decide)
  have hq1 : (cnt + 1) / 12 ≤ cnt + 1 := Int.ediv_le_self _ (by omega)
  have hm' : ({ os := st.os.set n (.lst [.ref m, .int 0, .int (cnt + 1)]), low := st.low } : Sto).os[m]? = some (.lst (ns.map IV.int)) := by
    show (st.os.set n _)[m]? = _
    rw [List.getElem?_set_ne hnm]; exact hm
  have hn' : (st.os.set n (IO.lst [.ref m, .int 0, .int (cnt + 1)]))[n]? = some (.lst [.ref m, .int 0, .int (cnt + 1)]) := List.getElem?_set_self hnl
  obtain ⟨c, hcell⟩ := d__law_cell_ok m ns (0 + (cnt + 1) / 12) { os := st.os.set n (.lst [.ref m, .int 0, .int (cnt + 1)]), low := st.low } hm' (by omega)
  have hk0 : 0 ≤ (cnt + 1) % 12 := Int.emod_nonneg _ (by decide)
  have hk1 : (cnt + 1) % 12 < 12 := Int.emod_lt_of_pos _ (by decide)
  obtain ⟨v, hv0, hv1, hv⟩ := d__law_number_ok (c + 31 * ((cnt + 1) / 12)) ((cnt + 1) % 12 + 1) b { os := st.os.set n (.lst [.ref m, .int 0, .int (cnt + 1)]), low := st.low } (by omega) (by omega) hb
  refine ⟨v, hv0, hv1, ?_⟩
  have g2 : idxI (.ref n) (.int 2) st = some (.int cnt, st) := by
    show (match lstAt st n with | some xs => (match L2.atI xs 2 with | some v => some (v, st) | none => none) | none => none) = _
    unfold lstAt; rw [hn]; rfl
  have s2 : setI (.ref n) (.int 2) (.int (cnt + 1)) st = some { os := st.os.set n (.lst [.ref m, .int 0, .int (cnt + 1)]), low := st.low } := by
    unfold setI; simp only [hn]; rfl
  have h2 : idxI (.ref n) (.int 2) { os := st.os.set n (.lst [.ref m, .int 0, .int (cnt + 1)]), low := st.low } = some (.int (cnt + 1), { os := st.os.set n (.lst [.ref m, .int 0, .int (cnt + 1)]), low := st.low }) := by
    show (match lstAt _ n with | some xs => (match L2.atI xs 2 with | some v => some (v, _) | none => none) | none => none) = _
    unfold lstAt; simp only [hn']; rfl
  have h1 : idxI (.ref n) (.int 1) { os := st.os.set n (.lst [.ref m, .int 0, .int (cnt + 1)]), low := st.low } = some (.int 0, { os := st.os.set n (.lst [.ref m, .int 0, .int (cnt + 1)]), low := st.low }) := by
    show (match lstAt _ n with | some xs => (match L2.atI xs 1 with | some v => some (v, _) | none => none) | none => none) = _
    unfold lstAt; simp only [hn']; rfl
  have h0 : idxI (.ref n) (.int 0) { os := st.os.set n (.lst [.ref m, .int 0, .int (cnt + 1)]), low := st.low } = some (.ref m, { os := st.os.set n (.lst [.ref m, .int 0, .int (cnt + 1)]), low := st.low }) := by
    show (match lstAt _ n with | some xs => (match L2.atI xs 0 with | some v => some (v, _) | none => none) | none => none) = _
    unfold lstAt; simp only [hn']; rfl
  have mm : ∀ st, mulI (.int 31) (.int ((cnt + 1) / 12)) st = some (.int (31 * ((cnt + 1) / 12)), st) := fun st => mul_ok st (sm_of (by decide)) (sm_of (by omega))
  have dv : ∀ (x : Int) st, divI (.int x) (.int 12) st = some (.int (x / 12), st) := fun x st => div_ok st (by decide) (sm_of (by decide))
  unfold d__law_next r__law_next
  simp only [callI, startI, List.map_cons, List.map_nil, List.length_cons, List.length_nil, Nat.reduceAdd, Nat.reduceSub, List.replicate_one, List.cons_append, List.nil_append, List.replicate, List.append_nil, sSeq, sAsg, rBin, rVar, rC, rCall, rCons, rNil, rDef, List.getElem?_cons_zero, List.getElem?_cons_succ, RE.bind, RE.ofO, g2, add_ok, RS.ofE, gSubI, s2, RS.ofG, RS.seq, h2, dv, gN, List.set_cons_zero, List.set_cons_succ, h0, h1, hcell, mm, int_ok, mod_ok _ (show (0 : Int) < 12 by decide), sRet, hv]
end law_k01

set_option Elab.async false
set_option linter.all false
set_option maxRecDepth 100000
set_option maxHeartbeats 2000000
namespace law_k01
open PySem PySem.Spec PyProof.Rows L2 PI
theorem plus_b {a b c d : Int} {A B C D : Nat} (ha : a.natAbs ≤ A) (hb0 : 0 < b) (hb : b.natAbs ≤ B) (hc : c.natAbs ≤ C) (hd0 : 0 < d) (hd : d.natAbs ≤ D) : (a * d + c * b).natAbs ≤ A * D + C * B ∧ (b * d).natAbs ≤ B * D ∧ 0 < b * d := by
  refine ⟨?_, ?_, Int.mul_pos hb0 hd0⟩
  · refine Nat.le_trans (Int.natAbs_add_le _ _) ?_
    rw [Int.natAbs_mul, Int.natAbs_mul]
    exact Nat.add_le_add (Nat.mul_le_mul ha hd) (Nat.mul_le_mul hc hb)
  · rw [Int.natAbs_mul]
    exact Nat.mul_le_mul hb hd
theorem lq_le {t b : Int} (hb : b ≠ 0) : (lq t b).1.natAbs ≤ t.natAbs ∧ (lq t b).2.natAbs ≤ b.natAbs := by
  unfold lq
  split
  · exact ⟨Int.natAbs_ediv_le_natAbs _ _, Int.natAbs_ediv_le_natAbs _ _⟩
  · refine ⟨?_, ?_⟩
    · have := Int.natAbs_ediv_le_natAbs (-t) (gq t (-b))
      rwa [Int.natAbs_neg] at this
    · have := Int.natAbs_ediv_le_natAbs (-b) (gq t (-b))
      rwa [Int.natAbs_neg] at this
/-- one more fraction: both sums go on alike -/
theorem plus_both {a b c d : Int} {A B C D : Nat} (st st' : Sto) (ha : a.natAbs ≤ A) (hb0 : 0 < b) (hb : b.natAbs ≤ B) (hc : c.natAbs ≤ C) (hd0 : 0 < d) (hd : d.natAbs ≤ D) (h1 : A * D + C * B ≤ 10 ^ 60) (h2 : B * D ≤ 10 ^ 60) (hA : A ≤ 10 ^ 60) (hB : B ≤ 10 ^ 60) (hC : C ≤ 10 ^ 60) (hD : D ≤ 10 ^ 60) :
    ∃ e f : Int, d_plus [fr a b, fr c d] st = .ok (fr e f) st ∧ d__law_plus [fr a b, fr c d] st' = .ok (fr e f) st' ∧ e.natAbs ≤ A * D + C * B ∧ 0 < f ∧ f.natAbs ≤ B * D := by
  obtain ⟨p1, p2, p3⟩ := plus_b ha hb0 hb hc hd0 hd
  have hne : b * d ≠ 0 := Int.ne_of_gt p3
  obtain ⟨l1, l2⟩ := lq_le (t := a * d + c * b) hne
  refine ⟨_, _, d_plus_eq st (sm60 (Nat.le_trans ha hA)) (sm60 (Nat.le_trans hb hB)) (sm60 (Nat.le_trans hc hC)) (sm60 (Nat.le_trans hd hD)) p3 (Nat.le_trans p1 h1) (by omega), d__law_plus_eq st' (sm60 (Nat.le_trans ha hA)) (sm60 (Nat.le_trans hb hB)) (sm60 (Nat.le_trans hc hC)) (sm60 (Nat.le_trans hd hD)) hne (sm60 (Nat.le_trans p1 h1)) (sm60 (Nat.le_trans p2 h2)), Nat.le_trans l1 p1, lq_pos hne, Nat.le_trans l2 p2⟩
end law_k01

set_option Elab.async false
set_option linter.all false
set_option maxRecDepth 100000
set_option maxHeartbeats 2000000
namespace law_k01
open PySem PySem.Spec PyProof.Rows L2 PI
/-- a row: a lean fraction, not great -/
structure Rw (a b : Int) : Prop where
  fr : Fr a b
  top : a.natAbs ≤ 2 ^ 40
  bot : b.natAbs ≤ 2 ^ 37
theorem none_eq : g_NONE = fr 0 1 := rfl
/-- both sums of four rows -/
theorem totals {a0 b0 a1 b1 a2 b2 a3 b3 : Int} (r0 : Rw a0 b0) (r1 : Rw a1 b1) (r2 : Rw a2 b2) (r3 : Rw a3 b3) (st st' : Sto) (n : Nat) (hn : st'.os[n]? = some (.lst [fr a0 b0, fr a1 b1, fr a2 b2, fr a3 b3])) :
    ∃ e f : Int, d_total [.tup [fr a0 b0, fr a1 b1, fr a2 b2, fr a3 b3]] st = .ok (fr e f) st ∧ d__law_total [.ref n] st' = .ok (fr e f) st' := by
  obtain ⟨e0, f0, p0, q0, k0, l0, m0⟩ := plus_both (A := 0) (B := 1) st st' (by decide) (by decide) (by decide) r0.top r0.fr.pos r0.bot (by decide) (by decide) (by decide) (by decide) (by decide) (by decide) (a := 0) (b := 1)
  obtain ⟨e1, f1, p1, q1, k1, l1, m1⟩ := plus_both st st' k0 l0 m0 r1.top r1.fr.pos r1.bot (by decide) (by decide) (by decide) (by decide) (by decide) (by decide)
  obtain ⟨e2, f2, p2, q2, k2, l2, m2⟩ := plus_both st st' k1 l1 m1 r2.top r2.fr.pos r2.bot (by decide) (by decide) (by decide) (by decide) (by decide) (by decide)
  obtain ⟨e3, f3, p3, q3, k3, l3, m3⟩ := plus_both st st' k2 l2 m2 r3.top r3.fr.pos r3.bot (by decide) (by decide) (by decide) (by decide) (by decide) (by decide)
  refine ⟨e3, f3, ?_, ?_⟩
  · unfold d_total r_total
    simp only [callI, startI, List.map_cons, List.map_nil, List.length_cons, List.length_nil, Nat.reduceAdd, Nat.reduceSub, List.replicate_one, List.cons_append, List.nil_append, List.replicate, List.append_nil, sSeq, sAsg, rC, none_eq, RS.ofE, gN, RS.ofG, List.set_cons_zero, List.set_cons_succ, RS.seq, sFor, fSeq, rVar, List.getElem?_cons_zero, List.getElem?_cons_succ, RE.bind, seqFI, loopT, rDef, rCons, rNil, p0, p1, p2, p3, RS.loop, sRet]
  · have hl : lstAt st' n = some [fr a0 b0, fr a1 b1, fr a2 b2, fr a3 b3] := by unfold lstAt; rw [hn]
    unfold d__law_total r__law_total
    simp only [callI, startI, List.map_cons, List.map_nil, List.length_cons, List.length_nil, Nat.reduceAdd, Nat.reduceSub, List.replicate_one, List.cons_append, List.nil_append, List.replicate, List.append_nil, sSeq, sAsg, rC, rTup, Nat.ble, lineI, cond_true, RE.bind, RS.ofE, gN, RS.ofG, List.set_cons_zero, List.set_cons_succ, RS.seq, sFor, fSeq, rVar, List.getElem?_cons_zero, List.getElem?_cons_succ, seqFI, hl, loopL, rDef, rCons, rNil, q0, q1, q2, q3, RS.loop, sRet, List.getElem?_nil]
end law_k01

set_option Elab.async false
set_option linter.all false
set_option maxRecDepth 100000
set_option maxHeartbeats 2000000
namespace law_k01
open PySem PySem.Spec PyProof.Rows L2 PI
theorem check1 {a b : Int} (st : Sto) (h : Fr a b) : d_check_fractions [.tup [fr a b]] st = .ok .non st := d_check_eq [(a, b)] st (fun p hp => by obtain rfl := List.mem_singleton.mp hp; exact h)
theorem check2 {a b c d : Int} (st : Sto) (h : Fr a b) (h' : Fr c d) : d_check_fractions [.tup [fr a b, fr c d]] st = .ok .non st := d_check_eq [(a, b), (c, d)] st (fun p hp => by
  rcases List.mem_cons.mp hp with rfl | hp
  · exact h
  · obtain rfl := List.mem_singleton.mp hp; exact h')
theorem sums {a0 b0 a1 b1 a2 b2 a3 b3 : Int} (r0 : Rw a0 b0) (r1 : Rw a1 b1) (r2 : Rw a2 b2) (r3 : Rw a3 b3) (st st' : Sto) (n : Nat) (hn : st'.os[n]? = some (.lst [fr a0 b0, fr a1 b1, fr a2 b2, fr a3 b3])) :
    ∃ e f : Int, d_sum_of [.tup [fr a0 b0, fr a1 b1, fr a2 b2, fr a3 b3]] st = .ok (fr e f) st ∧ d__law_total [.ref n] st' = .ok (fr e f) st' := by
  obtain ⟨e, f, h1, h2⟩ := totals r0 r1 r2 r3 st st' n hn
  refine ⟨e, f, ?_, h2⟩
  have hc : d_check_fractions [.tup [fr a0 b0, fr a1 b1, fr a2 b2, fr a3 b3]] st = .ok .non st := d_check_eq [(a0, b0), (a1, b1), (a2, b2), (a3, b3)] st (fun p hp => by
    simp only [List.mem_cons, List.not_mem_nil, or_false] at hp
    rcases hp with rfl | rfl | rfl | rfl
    · exact r0.fr
    · exact r1.fr
    · exact r2.fr
    · exact r3.fr)
  unfold d_sum_of r_sum_of
  simp only [callI, startI, List.map_cons, List.map_nil, List.length_cons, List.length_nil, Nat.reduceAdd, Nat.reduceSub, List.replicate_one, List.cons_append, List.nil_append, List.replicate, List.append_nil, sSeq, sIf, rTNot, rTru, rIsT, rVar, List.getElem?_cons_zero, RE.bind, tyI, TY.sub, truI, Bool.not_true, RS.ofE, cond_false, sPass, RS.seq, sExpr, rDef, rCons, rNil, hc, sRet, h1]
end law_k01

set_option Elab.async false
set_option linter.all false
set_option maxRecDepth 100000
set_option maxHeartbeats 2000000
namespace law_k01
open PySem PySem.Spec PyProof.Rows L2 PI
theorem ble2 : Nat.ble 2 lineI = true := by decide
theorem products {a b c d : Int} (r0 : Rw a b) (r1 : Rw c d) (st st' : Sto) : ∃ e f : Int, d_product_of [fr a b, fr c d] st = .ok (fr e f) st ∧ d__law_times [fr a b, fr c d] st' = .ok (fr e f) st' := by
  have p3 : 0 < b * d := Int.mul_pos r0.fr.pos r1.fr.pos
  have p1 : (a * c).natAbs ≤ 2 ^ 40 * 2 ^ 40 := by rw [Int.natAbs_mul]; exact Nat.mul_le_mul r0.top r1.top
  have p2 : (b * d).natAbs ≤ 2 ^ 37 * 2 ^ 37 := by rw [Int.natAbs_mul]; exact Nat.mul_le_mul r0.bot r1.bot
  have sa := sm60 (Nat.le_trans r0.top (by decide : 2 ^ 40 ≤ 10 ^ 60))
  have sb := sm60 (Nat.le_trans r0.bot (by decide : 2 ^ 37 ≤ 10 ^ 60))
  have sc := sm60 (Nat.le_trans r1.top (by decide : 2 ^ 40 ≤ 10 ^ 60))
  have sd := sm60 (Nat.le_trans r1.bot (by decide : 2 ^ 37 ≤ 10 ^ 60))
  refine ⟨_, _, ?_, d__law_times_eq st' sa sb sc sd (Int.ne_of_gt p3) (sm60 (Nat.le_trans p1 (by decide))) (sm60 (Nat.le_trans p2 (by decide)))⟩
  have ht := d_times_eq st sa sb sc sd p3 (Nat.le_trans p1 (by decide)) (by omega)
  have hc := check2 st r0.fr r1.fr
  unfold d_product_of r_product_of
  simp only [callI, startI, List.map_cons, List.map_nil, List.length_cons, List.length_nil, Nat.reduceAdd, Nat.reduceSub, List.replicate_one, List.cons_append, List.nil_append, List.replicate, List.append_nil, sSeq, sExpr, rDef, rTup, rCons, rNil, rVar, List.getElem?_cons_zero, List.getElem?_cons_succ, RE.bind, List.length_cons, ble2, cond_true, hc, RS.ofE, RS.seq, sRet, ht]
theorem lesses {a b c d : Int} (r0 : Rw a b) (r1 : Rw c d) (st : Sto) : d_is_less [fr a b, fr c d] st = .ok (.bl (decide (a * d < c * b))) st := by
  have sa := sm60 (Nat.le_trans r0.top (by decide : 2 ^ 40 ≤ 10 ^ 60))
  have sb := sm60 (Nat.le_trans r0.bot (by decide : 2 ^ 37 ≤ 10 ^ 60))
  have sc := sm60 (Nat.le_trans r1.top (by decide : 2 ^ 40 ≤ 10 ^ 60))
  have sd := sm60 (Nat.le_trans r1.bot (by decide : 2 ^ 37 ≤ 10 ^ 60))
  have hlt : ∀ (i j : Int) (st : Sto), cLt (.int i) (.int j) st = some (.bl (decide (i < j)), st) := fun _ _ _ => rfl
  have hl : d_less [fr a b, fr c d] st = .ok (.bl (decide (a * d < c * b))) st := by
    unfold d_less r_less
    simp only [callI, startI, List.map_cons, List.map_nil, List.length_cons, List.length_nil, Nat.reduceAdd, Nat.reduceSub, List.replicate_one, List.cons_append, List.nil_append, List.replicate, List.append_nil, sRet, rBin, rVar, rC, List.getElem?_cons_zero, List.getElem?_cons_succ, RE.bind, RE.ofO, i0, i1, mul_ok _ sa sd, mul_ok _ sc sb, hlt, RS.ofE]
  have hc := check2 st r0.fr r1.fr
  unfold d_is_less r_is_less
  simp only [callI, startI, List.map_cons, List.map_nil, List.length_cons, List.length_nil, Nat.reduceAdd, Nat.reduceSub, List.replicate_one, List.cons_append, List.nil_append, List.replicate, List.append_nil, sSeq, sExpr, rDef, rTup, rCons, rNil, rVar, List.getElem?_cons_zero, List.getElem?_cons_succ, RE.bind, ble2, cond_true, hc, RS.ofE, RS.seq, sRet, hl]
end law_k01

set_option Elab.async false
set_option linter.all false
set_option maxRecDepth 100000
set_option maxHeartbeats 2000000
namespace law_k01
open PySem PySem.Spec PyProof.Rows L2 PI
theorem neg_ok (i : Int) (st : Sto) : negI (.int i) st = some (.int (-i), st) := rfl
/-- a fraction times a whole quotient .. : what over gives -/
theorem d_over_eq {a b c d : Int} (st : Sto) (sa : Sm a) (sb : Sm b) (sc : Sm c) (sd : Sm d) (h : b * c ≠ 0) (h1 : (a * d).natAbs ≤ 10 ^ 60) (h2 : (b * c).natAbs ≤ 10 ^ 60) : d_over [fr a b, fr c d] st = .ok (lf (a * d) (b * c)) st := by
  unfold d_over r_over
  by_cases hp : 0 < b * c
  · have hl := d_lean_fr (t := a * d) (b := b * c) st hp h1 (by omega)
    simp only [callI, startI, List.map_cons, List.map_nil, List.length_cons, List.length_nil, Nat.reduceAdd, Nat.reduceSub, List.replicate_one, List.cons_append, List.nil_append, List.replicate, List.append_nil, sSeq, sPar, rBin, rVar, rC, rCons, rNil, rDef, List.getElem?_cons_zero, List.getElem?_cons_succ, RE.bind, RE.ofO, i0, i1, mul_ok _ sa sd, mul_ok _ sb sc, RS.ofE, List.set_cons_zero, List.set_cons_succ, RS.seq, sRet, rIfE, rTBl, gt_eq, decide_eq_true hp, cond_true, hl]
  · have hl := d_lean_fr (t := -(a * d)) (b := -(b * c)) st (by omega) (by rw [Int.natAbs_neg]; exact h1) (by omega)
    have e : lq (-(a * d)) (-(b * c)) = lq (a * d) (b * c) := by
      unfold lq
      rw [if_neg hp, if_pos (by omega)]
      have : gq (-(a * d)) (-(b * c)) = gq (a * d) (-(b * c)) := by unfold gq; rw [Int.natAbs_neg]
      rw [this]
    rw [e] at hl
    simp only [callI, startI, List.map_cons, List.map_nil, List.length_cons, List.length_nil, Nat.reduceAdd, Nat.reduceSub, List.replicate_one, List.cons_append, List.nil_append, List.replicate, List.append_nil, sSeq, sPar, rBin, rUn, rVar, rC, rCons, rNil, rDef, List.getElem?_cons_zero, List.getElem?_cons_succ, RE.bind, RE.ofO, i0, i1, mul_ok _ sa sd, mul_ok _ sb sc, RS.ofE, List.set_cons_zero, List.set_cons_succ, RS.seq, sRet, rIfE, rTBl, gt_eq, neg_ok, decide_eq_false hp, cond_false, hl]
theorem d_quotient_eq {a b c d : Int} (r0 : Rw a b) (r1 : Rw c d) (hc0 : c ≠ 0) (st : Sto) : d_quotient_of [fr a b, fr c d] st = .ok (lf (a * d) (b * c)) st := by
  have sa := sm60 (Nat.le_trans r0.top (by decide : 2 ^ 40 ≤ 10 ^ 60))
  have sb := sm60 (Nat.le_trans r0.bot (by decide : 2 ^ 37 ≤ 10 ^ 60))
  have sc := sm60 (Nat.le_trans r1.top (by decide : 2 ^ 40 ≤ 10 ^ 60))
  have sd := sm60 (Nat.le_trans r1.bot (by decide : 2 ^ 37 ≤ 10 ^ 60))
  have p1 : (a * d).natAbs ≤ 2 ^ 40 * 2 ^ 37 := by rw [Int.natAbs_mul]; exact Nat.mul_le_mul r0.top r1.bot
  have p2 : (b * c).natAbs ≤ 2 ^ 37 * 2 ^ 40 := by rw [Int.natAbs_mul]; exact Nat.mul_le_mul r0.bot r1.top
  have ho := d_over_eq st sa sb sc sd (Int.mul_ne_zero (Int.ne_of_gt r0.fr.pos) hc0) (Nat.le_trans p1 (by decide)) (Nat.le_trans p2 (by decide))
  have hc := check2 st r0.fr r1.fr
  have q : ∀ (i : Int) (st : Sto), cEq (.int i) (.int 0) st = some (.bl (i == 0), st) := fun _ _ => rfl
  have hq : (c == 0) = false := by simpa using hc0
  unfold d_quotient_of r_quotient_of
  simp only [callI, startI, List.map_cons, List.map_nil, List.length_cons, List.length_nil, Nat.reduceAdd, Nat.reduceSub, List.replicate_one, List.cons_append, List.nil_append, List.replicate, List.append_nil, sSeq, sExpr, rDef, rTup, rCons, rNil, rVar, rC, rBin, List.getElem?_cons_zero, List.getElem?_cons_succ, RE.bind, RE.ofO, ble2, cond_true, hc, RS.ofE, RS.seq, sIf, rTBl, i0, q, hq, cond_false, sPass, sRet, ho]
end law_k01

set_option Elab.async false
set_option linter.all false
set_option maxRecDepth 100000
set_option maxHeartbeats 2000000
namespace law_k01
open PySem PySem.Spec PyProof.Rows L2 PI
/-- what lean gives stands for the same number -/
theorem lq_cross {t b : Int} (hb : b ≠ 0) : (lq t b).1 * b = t * (lq t b).2 := by
  have key : ∀ t b : Int, 0 < b → t / gq t b * b = t * (b / gq t b) := fun t b h => by
    have hg := gq_pos (t := t) h
    have h1 : gq t b ∣ t := by
      have : gq t b ∣ (t.natAbs : Int) := Int.gcd_dvd_left ..
      exact Int.dvd_natAbs.mp this
    have h2 : gq t b ∣ b := Int.gcd_dvd_right ..
    obtain ⟨x, hx⟩ := h1
    obtain ⟨y, hy⟩ := h2
    have ht : t / gq t b = x := by rw [Int.ediv_eq_of_eq_mul_right (Int.ne_of_gt hg) hx]
    have hb' : b / gq t b = y := by rw [Int.ediv_eq_of_eq_mul_right (Int.ne_of_gt hg) hy]
    rw [ht, hb']
    calc x * b = x * (gq t b * y) := by rw [← hy]
      _ = (gq t b * x) * y := by rw [← Int.mul_assoc, Int.mul_comm x]
      _ = t * y := by rw [← hx]
  unfold lq
  split
  · exact key t b (by assumption)
  · rename_i h
    have := key (-t) (-b) (by omega)
    have e : gq (-t) (-b) = gq t (-b) := by unfold gq; rw [Int.natAbs_neg]
    rw [e] at this
    rw [Int.mul_neg, Int.neg_mul] at this
    exact Int.neg_inj.mp this
theorem cop_dvd {a b d : Int} (g : Int.gcd a b = 1) (h : b ∣ a * d) : b ∣ d := by
  apply Int.natAbs_dvd_natAbs.mp
  have h' := Int.natAbs_dvd_natAbs.mpr h
  rw [Int.natAbs_mul] at h'
  exact Nat.Coprime.dvd_of_dvd_mul_left (show Nat.gcd b.natAbs a.natAbs = 1 by rw [Nat.gcd_comm]; exact g) h'
/-- one lean fraction for one number -/
theorem fr_one {a b c d : Int} (h : Fr a b) (h' : Fr c d) (e : a * d = c * b) : a = c ∧ b = d := by
  have g1 : Int.gcd a b = 1 := by simpa [Int.gcd] using h.gcd
  have g2 : Int.gcd c d = 1 := by simpa [Int.gcd] using h'.gcd
  have hb : b ∣ d := by
    have : b ∣ a * d := ⟨c, by rw [e, Int.mul_comm]⟩
    exact cop_dvd g1 this
  have hd : d ∣ b := by
    have : d ∣ c * b := ⟨a, by rw [← e, Int.mul_comm]⟩
    exact cop_dvd g2 this
  have hbd : b = d := Int.le_antisymm (Int.le_of_dvd h'.pos hb) (Int.le_of_dvd h.pos hd)
  subst hbd
  exact ⟨Int.eq_of_mul_eq_mul_right (Int.ne_of_gt h.pos) e, rfl⟩
end law_k01

set_option Elab.async false
set_option linter.all false
set_option maxRecDepth 100000
set_option maxHeartbeats 2000000
namespace law_k01
open PySem PySem.Spec PyProof.Rows L2 PI
theorem back_eq {a b c d q1 q2 r1 r2 : Int} (hc : c ≠ 0) (hd : d ≠ 0) (hq : q2 ≠ 0) (e1 : q1 * (b * c) = a * d * q2) (e2 : r1 * (q2 * d) = q1 * c * r2) : r1 * b = a * r2 := by
  have hz : q2 * d ≠ 0 := Int.mul_ne_zero hq hd
  apply Int.eq_of_mul_eq_mul_right hz
  have x1 : r1 * b * (q2 * d) = (r1 * (q2 * d)) * b := by rw [Int.mul_assoc, Int.mul_comm b, ← Int.mul_assoc]
  have x2 : a * r2 * (q2 * d) = (a * d * q2) * r2 := by
    simp only [Int.mul_comm, Int.mul_left_comm, Int.mul_assoc]
  rw [x1, e2, x2, ← e1]
  simp only [Int.mul_comm, Int.mul_left_comm, Int.mul_assoc]
end law_k01

set_option Elab.async false
set_option linter.all false
set_option maxRecDepth 100000
set_option maxHeartbeats 2000000
namespace law_k01
open PySem PySem.Spec PyProof.Rows L2 PI
theorem d_back_eq {a b c d : Int} (r0 : Rw a b) (r1 : Rw c d) (hc0 : c ≠ 0) (st : Sto) : d_product_of [lf (a * d) (b * c), fr c d] st = .ok (fr a b) st := by
  show d_product_of [fr (lq (a * d) (b * c)).1 (lq (a * d) (b * c)).2, fr c d] st = _
  have hne : b * c ≠ 0 := Int.mul_ne_zero (Int.ne_of_gt r0.fr.pos) hc0
  have p1 : (a * d).natAbs ≤ 2 ^ 40 * 2 ^ 37 := by rw [Int.natAbs_mul]; exact Nat.mul_le_mul r0.top r1.bot
  have p2 : (b * c).natAbs ≤ 2 ^ 37 * 2 ^ 40 := by rw [Int.natAbs_mul]; exact Nat.mul_le_mul r0.bot r1.top
  have hf : Fr (lq (a * d) (b * c)).1 (lq (a * d) (b * c)).2 := lq_fr hne (Nat.le_trans p1 (by decide)) (Nat.le_trans p2 (by decide))
  obtain ⟨l1, l2⟩ := lq_le (t := a * d) hne
  have q1 := Nat.le_trans l1 p1
  have q2 := Nat.le_trans l2 p2
  have e1 := lq_cross (t := a * d) hne
  generalize (lq (a * d) (b * c)).1 = x at *
  generalize (lq (a * d) (b * c)).2 = y at *
  have p3 : 0 < y * d := Int.mul_pos hf.pos r1.fr.pos
  have t1 : (x * c).natAbs ≤ 2 ^ 40 * 2 ^ 37 * 2 ^ 40 := by rw [Int.natAbs_mul]; exact Nat.mul_le_mul q1 r1.top
  have t2 : (y * d).natAbs ≤ 2 ^ 37 * 2 ^ 40 * 2 ^ 37 := by rw [Int.natAbs_mul]; exact Nat.mul_le_mul q2 r1.bot
  have sx := sm60 (Nat.le_trans q1 (by decide : 2 ^ 40 * 2 ^ 37 ≤ 10 ^ 60))
  have sy := sm60 (Nat.le_trans q2 (by decide : 2 ^ 37 * 2 ^ 40 ≤ 10 ^ 60))
  have sc := sm60 (Nat.le_trans r1.top (by decide : 2 ^ 40 ≤ 10 ^ 60))
  have sd := sm60 (Nat.le_trans r1.bot (by decide : 2 ^ 37 ≤ 10 ^ 60))
  have ht := d_times_eq st sx sy sc sd p3 (Nat.le_trans t1 (by decide)) (by omega)
  have e2 := lq_cross (t := x * c) (Int.ne_of_gt p3)
  have hf2 : Fr (lq (x * c) (y * d)).1 (lq (x * c) (y * d)).2 := lq_fr (Int.ne_of_gt p3) (Nat.le_trans t1 (by decide)) (Nat.le_trans t2 (by decide))
  have hb := back_eq hc0 (Int.ne_of_gt r1.fr.pos) (Int.ne_of_gt hf.pos) e1 e2
  obtain ⟨z1, z2⟩ := fr_one hf2 r0.fr hb
  have ht' : d_times [fr x y, fr c d] st = .ok (fr a b) st := by rw [ht]; show RE.ok (fr (lq (x * c) (y * d)).1 (lq (x * c) (y * d)).2) st = _; rw [z1, z2]
  have hc := check2 st hf r1.fr
  show d_product_of [fr x y, fr c d] st = _
  unfold d_product_of r_product_of
  simp only [callI, startI, List.map_cons, List.map_nil, List.length_cons, List.length_nil, Nat.reduceAdd, Nat.reduceSub, List.replicate_one, List.cons_append, List.nil_append, List.replicate, List.append_nil, sSeq, sExpr, rDef, rTup, rCons, rNil, rVar, List.getElem?_cons_zero, List.getElem?_cons_succ, RE.bind, ble2, cond_true, hc, RS.ofE, RS.seq, sRet, ht']
end law_k01

set_option Elab.async false
set_option linter.all false
set_option maxRecDepth 100000
set_option maxHeartbeats 2000000
namespace law_k01
open PySem PySem.Spec PyProof.Rows L2 PI
/-- a comprehension whose element changes nothing -/
theorem loopC_pure (i : Nat) (env0 : IEnv) (te : SemE) (st : Sto) (g : IV → IV) : ∀ (xs acc : List IV), (∀ x ∈ xs, te (env0.set i (some x)) st = .ok (g x) st) → loopC (.one i) env0 rYes te xs acc st = .ok (acc.reverse ++ xs.map g) st
  | [], acc, _ => by simp [loopC]
  | x :: xs, acc, h => by
    unfold loopC
    simp only [CT.put, rYes, h x List.mem_cons_self]
    rw [loopC_pure i env0 te st g xs (g x :: acc) fun y hy => h y (List.mem_cons_of_mem _ hy)]
    simp
end law_k01

set_option Elab.async false
set_option linter.all false
set_option maxRecDepth 100000
set_option maxHeartbeats 2000000
namespace law_k01
open PySem PySem.Spec PyProof.Rows L2 PI
theorem mem_intsI : ∀ (n : Nat) (lo : Int) (x : IV), x ∈ intsI lo n → ∃ i : Int, x = .int i ∧ lo ≤ i ∧ i < lo + n
  | 0, _, _, h => nomatch h
  | n + 1, lo, x, h => by
    rcases List.mem_cons.mp h with rfl | h
    · exact ⟨lo, rfl, Int.le_refl _, by omega⟩
    · obtain ⟨i, h1, h2, h3⟩ := mem_intsI n (lo + 1) x h
      exact ⟨i, h1, by omega, by omega⟩
/-- a part: the step-th of many -/
def prt (a b many : Int) : IV → IV
  | .int step => lf (a * step) (b * many)
  | v => v
theorem part_lean {a b many i : Int} (r : Rw a b) (hm : 1 ≤ many) (hm2 : many ≤ 12) (hi : 1 ≤ i) (hi2 : i ≤ many) (st : Sto) : d_lean [.int (a * i), .int (b * many)] st = .ok (lf (a * i) (b * many)) st ∧ d__law_lean [.int (a * i), .int (b * many)] st = .ok (lf (a * i) (b * many)) st := by
  have p : 0 < b * many := Int.mul_pos r.fr.pos (by omega)
  have t1 : (a * i).natAbs ≤ 2 ^ 40 * 12 := by rw [Int.natAbs_mul]; exact Nat.mul_le_mul r.top (by omega)
  have t2 : (b * many).natAbs ≤ 2 ^ 37 * 12 := by rw [Int.natAbs_mul]; exact Nat.mul_le_mul r.bot (by omega)
  exact ⟨d_lean_fr st p (Nat.le_trans t1 (by decide)) (by omega), d__law_lean_eq st (Int.ne_of_gt p) (sm60 (Nat.le_trans t1 (by decide))) (sm60 (Nat.le_trans t2 (by decide)))⟩
theorem part_last {a b many : Int} (r : Rw a b) (hm : 1 ≤ many) (hm2 : many ≤ 12) : lf (a * many) (b * many) = fr a b := by
  have p : 0 < b * many := Int.mul_pos r.fr.pos (by omega)
  have t1 : (a * many).natAbs ≤ 2 ^ 40 * 12 := by rw [Int.natAbs_mul]; exact Nat.mul_le_mul r.top (by omega)
  have t2 : (b * many).natAbs ≤ 2 ^ 37 * 12 := by rw [Int.natAbs_mul]; exact Nat.mul_le_mul r.bot (by omega)
  have hf := lq_fr (t := a * many) (Int.ne_of_gt p) (Nat.le_trans t1 (by decide)) (Nat.le_trans t2 (by decide))
  have e := lq_cross (t := a * many) (Int.ne_of_gt p)
  have e2 : (lq (a * many) (b * many)).1 * b = a * (lq (a * many) (b * many)).2 := by
    apply Int.eq_of_mul_eq_mul_right (show many ≠ 0 by omega)
    rw [Int.mul_assoc, e]
    simp only [Int.mul_comm, Int.mul_left_comm, Int.mul_assoc]
  obtain ⟨z1, z2⟩ := fr_one hf r.fr e2
  show fr (lq (a * many) (b * many)).1 (lq (a * many) (b * many)).2 = _
  rw [z1, z2]
end law_k01

set_option Elab.async false
set_option linter.all false
set_option maxRecDepth 100000
set_option maxHeartbeats 2000000
namespace law_k01
open PySem PySem.Spec PyProof.Rows L2 PI
theorem intsI_len : ∀ (n : Nat) (lo : Int), (intsI lo n).length = n
  | 0, _ => rfl
  | n + 1, lo => by show (intsI (lo + 1) n).length + 1 = n + 1; rw [intsI_len]
theorem d_part_eq {a b many : Int} (r : Rw a b) (hm : 1 ≤ many) (hm2 : many ≤ 12) (st : Sto) :
    d_part_of [fr a b, .int many] st = .ok (.tup ((intsI 1 many.toNat).map (prt a b many))) { os := st.os ++ [.lst ((intsI 1 many.toNat).map (prt a b many))], low := st.low } := by
  have hc := check1 st r.fr
  have hle : ∀ (i j : Int) (st : Sto), cLe (.int i) (.int j) st = some (.bl (decide (i ≤ j)), st) := fun _ _ _ => rfl
  have sa := sm60 (Nat.le_trans r.top (by decide : 2 ^ 40 ≤ 10 ^ 60))
  have sb := sm60 (Nat.le_trans r.bot (by decide : 2 ^ 37 ≤ 10 ^ 60))
  have hlc : loopC (.one 2) (wipeI [some (fr a b), some (.int many), none] [2]) rYes (rDef d_lean (rCons (rBin mulI (rBin idxI (rVar 0) (rC (.int (0)))) (rVar 2)) (rCons (rBin mulI (rBin idxI (rVar 0) (rC (.int (1)))) (rVar 1)) rNil))) (intsI 1 many.toNat) [] st = .ok ((intsI 1 many.toNat).map (prt a b many)) st := by
    rw [loopC_pure 2 _ _ st (prt a b many) _ [] fun x hx => ?_]
    · rfl
    · obtain ⟨i, rfl, h1, h2⟩ := mem_intsI _ _ _ hx
      have hl := (part_lean r hm hm2 h1 (by omega) st).1
      have e0 : (wipeI [some (fr a b), some (.int many), none] [2]).set 2 (some (.int i)) = [some (fr a b), some (.int many), some (.int i)] := rfl
      rw [e0]
      simp only [rDef, rCons, rNil, rBin, rVar, rC, List.getElem?_cons_zero, List.getElem?_cons_succ, RE.bind, RE.ofO, i0, i1, mul_ok _ sa (sm_of (show i.natAbs < 2 ^ 100 by omega)), mul_ok _ sb (sm_of (show many.natAbs < 2 ^ 100 by omega)), hl, prt]
  have hb1 : Nat.ble 1 lineI = true := by decide
  have hr : (rngOk 1 && rngOk (many + 1)) = true := by
    unfold rngOk
    simp only [Bool.and_eq_true, decide_eq_true_eq]
    omega
  have hlen : Nat.ble (intsI 1 (many + 1 - 1).toNat).length lineI = true := by
    rw [intsI_len]
    apply Nat.ble_eq_true_of_le
    unfold lineI; omega
  have e1 : many + 1 - 1 = many := by omega
  unfold d_part_of r_part_of
  simp only [callI, startI, List.map_cons, List.map_nil, List.length_cons, List.length_nil, Nat.reduceAdd, Nat.reduceSub, List.replicate_one, List.cons_append, List.nil_append, List.replicate, List.append_nil, sSeq, sExpr, rDef, rTup, rCons, rNil, rVar, rC, rBin, List.getElem?_cons_zero, List.getElem?_cons_succ, RE.bind, RE.ofO, hb1, cond_true, hc, RS.ofE, RS.seq, sIf, rTOr, rTNot, rTru, d_is_whole_int, truI, Bool.not_true, cond_false, rTBl, rChain, hle, decide_eq_true hm, decide_eq_true (show many ≤ 1000 by omega), sPass, sRet, rCall, rLc, fRng2, add_ok, hr, hlen, e1]
  rw [e1] at hlen
  simp only [hlen, cond_true, hlc, Sto.allocO, tupleI, lstAt, List.getElem?_append_right (Nat.le_refl _), Nat.sub_self, List.getElem?_cons_zero]
end law_k01

set_option Elab.async false
set_option linter.all false
set_option maxRecDepth 100000
set_option maxHeartbeats 2000000
namespace law_k01
open PySem PySem.Spec PyProof.Rows L2 PI
theorem atI_int {ns : List Int} {v : Int} (h0 : 0 ≤ v) (h : v < ns.length) : ∃ c, c ∈ ns ∧ L2.atI (ns.map IV.int) v = some (.int c) := by
  obtain ⟨j, rfl⟩ := Int.eq_ofNat_of_zero_le h0
  have hj : j < ns.length := by omega
  exact ⟨ns[j], List.getElem_mem hj, L2.atI_nat (j := j) (by rw [List.getElem?_map, List.getElem?_eq_getElem hj]; rfl)⟩
end law_k01

set_option Elab.async false
set_option linter.all false
set_option maxRecDepth 100000
set_option maxHeartbeats 2000000
namespace law_k01
open PySem PySem.Spec PyProof.Rows L2 PI
theorem d__law_pick_ok (n m t : Nat) (ns ts : List Int) (cnt : Int) (st : Sto) (hn : st.os[n]? = some (.lst [.ref m, .int 0, .int cnt])) (hm : st.os[m]? = some (.lst (ns.map IV.int))) (ht : st.os[t]? = some (.lst (ts.map IV.int))) (hnm : n ≠ m) (hnt : n ≠ t) (hc : 0 ≤ cnt) (hc2 : cnt < 1000) (hts : 0 < ts.length) :
    ∃ c, c ∈ ts ∧ d__law_pick [.ref n, .ref t] st = .ok (.int c) { os := st.os.set n (.lst [.ref m, .int 0, .int (cnt + 1)]), low := st.low } := by
  obtain ⟨v, h0, h1, hv⟩ := d__law_next_ok n m ns cnt ts.length st hn hm hnm hc hc2 (by omega)
  obtain ⟨c, hcm, ha⟩ := atI_int h0 h1
  refine ⟨c, hcm, ?_⟩
  have hl : lenI [.ref t] st = some (.int ts.length, st) := by
    show (match lstAt st t with | some xs => some (IV.int xs.length, st) | none => none) = _
    unfold lstAt
    rw [ht]
    simp
  have hi : idxI (.ref t) (.int v) { os := st.os.set n (.lst [.ref m, .int 0, .int (cnt + 1)]), low := st.low } = some (.int c, { os := st.os.set n (.lst [.ref m, .int 0, .int (cnt + 1)]), low := st.low }) := by
    show (match lstAt _ t with | some xs => (match L2.atI xs v with | some v => some (v, _) | none => none) | none => none) = _
    have e : lstAt { os := st.os.set n (.lst [.ref m, .int 0, .int (cnt + 1)]), low := st.low } t = some (ts.map IV.int) := by
      unfold lstAt
      simp only [List.getElem?_set_ne hnt, ht]
    simp only [e, ha]
  unfold d__law_pick r__law_pick
  simp only [callI, startI, List.map_cons, List.map_nil, List.length_cons, List.length_nil, Nat.reduceAdd, Nat.reduceSub, List.replicate_one, List.cons_append, List.nil_append, List.replicate, List.append_nil, sRet, rBin, rVar, rDef, rCons, rNil, rCall, List.getElem?_cons_zero, List.getElem?_cons_succ, RE.bind, RE.ofO, hl, hv, hi, RS.ofE]
end law_k01

set_option Elab.async false
set_option linter.all false
set_option maxRecDepth 100000
set_option maxHeartbeats 2000000
namespace law_k01
open PySem PySem.Spec PyProof.Rows L2 PI
/-- the store of the law: the script, its cut, the draw, the scales, the rows -/
abbrev stL (s0 : IO) (ns : List Int) (cnt : Int) (s3 : IO) (rows : List IV) (l : Nat) : Sto := { os := [s0, .lst (ns.map IV.int), .lst [.ref 1, .int 0, .int cnt], s3, .lst rows], low := l }
theorem next_L (s0 : IO) (ns : List Int) (cnt : Int) (s3 : IO) (rows : List IV) (l : Nat) (b : Int) (h0 : 0 ≤ cnt) (h1 : cnt < 1000) (hb : 0 < b) :
    ∃ v, 0 ≤ v ∧ v < b ∧ d__law_next [.ref 2, .int b] (stL s0 ns cnt s3 rows l) = .ok (.int v) (stL s0 ns (cnt + 1) s3 rows l) :=
  d__law_next_ok 2 1 ns cnt b (stL s0 ns cnt s3 rows l) rfl rfl (by decide) h0 h1 hb
/-- the body of the law's first loop -/
abbrev bL : SemS := (sSeq (sPar 5 6 (rCons (rBin subI (rBin mulI (rDef d__law_next (rCons (rVar 1) (rCons (rC (.int (997))) rNil))) (rVar 2)) (rDef d__law_next (rCons (rVar 1) (rCons (rC (.int (997))) rNil)))) (rCons (rBin addI (rC (.int (1))) (rBin mulI (rDef d__law_next (rCons (rVar 1) (rCons (rC (.int (97))) rNil))) (rVar 2))) rNil)))
    (sSeq (sAsg (rIfE (rTBl (rBin cEq (rDef d__law_next (rCons (rVar 1) (rCons (rC (.int (2))) rNil))) (rC (.int (0))))) (rVar 6) (rUn negI (rVar 6))) (gN 6))
    (sSeq (sIf (rTOr (rTBl (rBin cNe (rDef d_fraction_of (rCons (rVar 5) (rCons (rVar 6) rNil))) (rDef d__law_lean (rCons (rVar 5) (rCons (rVar 6) rNil))))) (rTNot (rTru (rDef d_is_fraction (rCons (rDef d__law_lean (rCons (rVar 5) (rCons (rVar 6) rNil))) rNil))))) (sRet (rC (.bl false))) sPass)
    (sExpr (rMethL appI (rVar 3) (rCons (rDef d__law_lean (rCons (rVar 5) (rCons (rVar 6) rNil))) rNil))))))
theorem eq_tup {xs : List IV} {d : PyData} (st : Sto) (h : pd st.os 63 (.tup xs) = some d) (hc : d.canLay0 = true) : eqI st (.tup xs) (.tup xs) = some true := by
  show (match pd st.os 63 (.tup xs) with
    | some d => match pd st.os 63 (.tup xs) with
      | some e => some (PyData.eqv d e)
      | none => none
    | none => none) = _
  rw [h]
  simp only
  rw [PySem.SeqAt.eqv_refl d hc]
theorem pd_fr (os : List IO) (n : Nat) (a b : Int) : pd os (n + 2) (fr a b) = some (.tuple [.int a, .int b]) := rfl
theorem eq_fr (a b : Int) (st : Sto) : eqI st (fr a b) (fr a b) = some true := eq_tup st (pd_fr st.os 61 a b) (by simp [PyData.canLay0, PyData.canLayAll0])
theorem ne_fr (a b : Int) (st : Sto) : cNe (fr a b) (fr a b) st = some (.bl false, st) := by
  show blN (eqI st (fr a b) (fr a b)) st = _
  rw [eq_fr]; rfl
/-- a tuple of fractions is itself -/
theorem ne_frs (ps : List (Int × Int)) (st : Sto) : cNe (.tup (ps.map fun p => fr p.1 p.2)) (.tup (ps.map fun p => fr p.1 p.2)) st = some (.bl false, st) := by
  have h1 : ∀ ps : List (Int × Int), allSome (pd st.os 62) (ps.map fun p => fr p.1 p.2) = some (ps.map fun p => PyData.tuple [.int p.1, .int p.2]) := fun ps => by
    induction ps with
    | nil => rfl
    | cons p ps ih =>
      rw [List.map_cons]
      unfold allSome
      rw [pd_fr st.os 60, ih]
      rfl
  have h2 : ∀ ps : List (Int × Int), PyData.canLayAll0 (ps.map fun p => PyData.tuple [.int p.1, .int p.2]) = true := fun ps => by
    induction ps with
    | nil => rfl
    | cons p ps ih => simp only [List.map_cons, PyData.canLayAll0, PyData.canLay0, ih, Bool.and_self]
  have h3 : pd st.os 63 (.tup (ps.map fun p => fr p.1 p.2)) = some (.tuple (ps.map fun p => PyData.tuple [.int p.1, .int p.2])) := by
    show (match allSome (pd st.os 62) (ps.map fun p => fr p.1 p.2) with
      | some ds => some (PyData.tuple ds)
      | none => none) = _
    rw [h1]
  show blN (eqI st _ _) st = _
  rw [eq_tup st h3 (by show PyData.canLayAll0 _ = true; exact h2 ps)]
  rfl
end law_k01

set_option Elab.async false
set_option linter.all false
set_option maxRecDepth 100000
set_option maxHeartbeats 4000000
namespace law_k01
open PySem PySem.Spec PyProof.Rows L2 PI
theorem sub_ok (a b : Int) (st : Sto) : subI (.int a) (.int b) st = some (.int (a - b), st) := rfl
theorem app_L (s0 : IO) (ns : List Int) (cnt : Int) (s3 : IO) (rows : List IV) (l : Nat) (v : IV) (h : rows.length < 4) : appI 4 [v] (stL s0 ns cnt s3 rows l) = some (.non, stL s0 ns cnt s3 (rows ++ [v]) l) := by
  show (bif Nat.blt rows.length lineI then some (IV.non, ({ os := [s0, .lst (ns.map IV.int), .lst [.ref 1, .int 0, .int cnt], s3, .lst rows].set 4 (.lst (rows ++ [v])), low := l } : Sto)) else none) = _
  have : Nat.blt rows.length lineI = true := by simp [Nat.blt, lineI]; omega
  rw [this]; rfl
theorem turn_L (s0 : IO) (ns : List Int) (cnt : Int) (s3 : IO) (rows : List IV) (l : Nat) (scale : Int) (e4 e5 e6 e7 e8 e9 e10 e11 e12 e13 : Option IV) (h0 : 0 ≤ cnt) (h1 : cnt < 900) (hs : scale ∈ ([9, 999, 10 ^ 6, 10 ^ 9] : List Int)) (hr : rows.length < 4) :
    ∃ a b : Int, Rw a b ∧ ∃ t w : Int, bL [some (.ref 0), some (.ref 2), some (.int scale), some (.ref 4), e4, e5, e6, e7, e8, e9, e10, e11, e12, e13] (stL s0 ns cnt s3 rows l) =
      .nx [some (.ref 0), some (.ref 2), some (.int scale), some (.ref 4), e4, some (.int t), some (.int w), e7, e8, e9, e10, e11, e12, e13] (stL s0 ns (cnt + 1 + 1 + 1 + 1) s3 (rows ++ [fr a b]) l) := by
  obtain ⟨t1, a0, a1, n1⟩ := next_L s0 ns cnt s3 rows l 997 h0 (by omega) (by decide)
  obtain ⟨t2, b0, b1, n2⟩ := next_L s0 ns (cnt + 1) s3 rows l 997 (by omega) (by omega) (by decide)
  obtain ⟨w0, c0, c1, n3⟩ := next_L s0 ns (cnt + 1 + 1) s3 rows l 97 (by omega) (by omega) (by decide)
  obtain ⟨z, d0, d1, n4⟩ := next_L s0 ns (cnt + 1 + 1 + 1) s3 rows l 2 (by omega) (by omega) (by decide)
  have hb : (t1 * scale - t2).natAbs ≤ 2 ^ 40 ∧ 1 ≤ 1 + w0 * scale ∧ 1 + w0 * scale ≤ 2 ^ 37 ∧ scale.natAbs < 2 ^ 100 := by
    simp only [List.mem_cons, List.not_mem_nil, or_false] at hs
    rcases hs with rfl | rfl | rfl | rfl <;> omega
  obtain ⟨hb1, hb2, hb3, hb4⟩ := hb
  have m1 : ∀ st, mulI (.int t1) (.int scale) st = some (.int (t1 * scale), st) := fun st => mul_ok st (sm_of (by omega)) (sm_of hb4)
  have m2 : ∀ st, mulI (.int w0) (.int scale) st = some (.int (w0 * scale), st) := fun st => mul_ok st (sm_of (by omega)) (sm_of hb4)
  have key : ∀ w : Int, (w = 1 + w0 * scale ∨ w = -(1 + w0 * scale)) → w ≠ 0 ∧ w.natAbs ≤ 2 ^ 37 := fun w h => by omega
  have q : ∀ (i : Int) (st : Sto), cEq (.int i) (.int 0) st = some (.bl (decide (i = 0)), st) := fun _ _ => rfl
  have fin : ∀ w : Int, (w = 1 + w0 * scale ∨ w = -(1 + w0 * scale)) → ∃ a b : Int, Rw a b ∧ ∀ st : Sto, d_fraction_of [.int (t1 * scale - t2), .int w] st = .ok (fr a b) st ∧ d__law_lean [.int (t1 * scale - t2), .int w] st = .ok (fr a b) st ∧ d_is_fraction [fr a b] st = .ok (.bl true) st := fun w hw => by
    obtain ⟨k1, k2⟩ := key w hw
    have t60 := Nat.le_trans hb1 (by decide : 2 ^ 40 ≤ 10 ^ 60)
    have w60 := Nat.le_trans k2 (by decide : 2 ^ 37 ≤ 10 ^ 60)
    obtain ⟨l1, l2⟩ := lq_le (t := t1 * scale - t2) k1
    have hf := lq_fr (t := t1 * scale - t2) k1 t60 w60
    exact ⟨_, _, ⟨hf, Nat.le_trans l1 hb1, Nat.le_trans l2 k2⟩, fun st => ⟨d_fraction_of_eq st k1 t60 w60, d__law_lean_eq st k1 (sm60 t60) (sm60 w60), d_is_fraction_eq st hf⟩⟩
  by_cases hz : z = 0
  · obtain ⟨a, b, hrw, hst⟩ := fin (1 + w0 * scale) (.inl rfl)
    refine ⟨a, b, hrw, t1 * scale - t2, 1 + w0 * scale, ?_⟩
    simp only [bL, sSeq, sPar, rCons, rNil, rBin, rDef, rVar, rC, List.getElem?_cons_zero, List.getElem?_cons_succ, RE.bind, RE.ofO, n1, n2, n3, m1, m2, sub_ok, add_ok, RS.ofE, List.set_cons_zero, List.set_cons_succ, RS.seq, sAsg, rIfE, rTBl, n4, q, decide_eq_true hz, cond_true, gN, RS.ofG, sIf, rTOr, rTNot, rTru, (hst _).1, (hst _).2.1, (hst _).2.2, ne_fr, cond_false, truI, Bool.not_true, sPass, sExpr, rMethL, lstAt, app_L _ _ _ _ _ _ _ hr]
  · obtain ⟨a, b, hrw, hst⟩ := fin (-(1 + w0 * scale)) (.inr rfl)
    refine ⟨a, b, hrw, t1 * scale - t2, -(1 + w0 * scale), ?_⟩
    simp only [bL, sSeq, sPar, rCons, rNil, rBin, rUn, rDef, rVar, rC, List.getElem?_cons_zero, List.getElem?_cons_succ, RE.bind, RE.ofO, n1, n2, n3, m1, m2, sub_ok, add_ok, RS.ofE, List.set_cons_zero, List.set_cons_succ, RS.seq, sAsg, rIfE, rTBl, n4, q, decide_eq_false hz, cond_false, neg_ok, gN, RS.ofG, sIf, rTOr, rTNot, rTru, (hst _).1, (hst _).2.1, (hst _).2.2, ne_fr, truI, Bool.not_true, sPass, sExpr, rMethL, lstAt, app_L _ _ _ _ _ _ _ hr]
end law_k01

set_option Elab.async false
set_option linter.all false
set_option maxRecDepth 100000
set_option maxHeartbeats 4000000
namespace law_k01
open PySem PySem.Spec PyProof.Rows L2 PI
abbrev L0 : SemS := (sAsg (rLst (rCons (rSl (rVar 0) rNoPart (rPart (rC (.int (63))))) (rCons (rC (.int (0))) (rCons (rC (.int (0))) rNil)))) (gN 1))
abbrev L1 : SemS := (sAsg (rDef d__law_pick (rCons (rVar 1) (rCons (rLst (rCons (rC (.int (9))) (rCons (rC (.int (999))) (rCons (rBin powI (rC (.int (10))) (rC (.int (6)))) (rCons (rBin powI (rC (.int (10))) (rC (.int (9)))) rNil))))) rNil))) (gN 2))
abbrev L2 : SemS := (sAsg (rLst rNil) (gN 3))
abbrev L3 : SemS := (sFor (fRng1 (rCons (rC (.int (4))) rNil)) (gN 4) (sSeq (sPar 5 6 (rCons (rBin subI (rBin mulI (rDef d__law_next (rCons (rVar 1) (rCons (rC (.int (997))) rNil))) (rVar 2)) (rDef d__law_next (rCons (rVar 1) (rCons (rC (.int (997))) rNil)))) (rCons (rBin addI (rC (.int (1))) (rBin mulI (rDef d__law_next (rCons (rVar 1) (rCons (rC (.int (97))) rNil))) (rVar 2))) rNil)))
    (sSeq (sAsg (rIfE (rTBl (rBin cEq (rDef d__law_next (rCons (rVar 1) (rCons (rC (.int (2))) rNil))) (rC (.int (0))))) (rVar 6) (rUn negI (rVar 6))) (gN 6))
    (sSeq (sIf (rTOr (rTBl (rBin cNe (rDef d_fraction_of (rCons (rVar 5) (rCons (rVar 6) rNil))) (rDef d__law_lean (rCons (rVar 5) (rCons (rVar 6) rNil))))) (rTNot (rTru (rDef d_is_fraction (rCons (rDef d__law_lean (rCons (rVar 5) (rCons (rVar 6) rNil))) rNil))))) (sRet (rC (.bl false))) sPass)
    (sExpr (rMethL appI (rVar 3) (rCons (rDef d__law_lean (rCons (rVar 5) (rCons (rVar 6) rNil))) rNil)))))))
abbrev L4 : SemS := (sAsg (rTup (rCons (rBin idxI (rVar 3) (rC (.int (0)))) (rCons (rBin idxI (rVar 3) (rC (.int (1)))) rNil))) (gT 2 (gsCons (gN 12) (gsCons (gN 7) gsNil))))
abbrev L5 : SemS := (sIf (rTOr (rTBl (rBin cNe (rDef d_sum_of (rCons (rCall tupleI (rCons (rVar 3) rNil)) rNil)) (rDef d__law_total (rCons (rVar 3) rNil)))) (rTOr (rTBl (rBin cNe (rDef d_product_of (rCons (rVar 12) (rCons (rVar 7) rNil))) (rDef d__law_times (rCons (rVar 12) (rCons (rVar 7) rNil))))) (rTOr (rTBl (rBin cNe (rDef d_sum_of (rCons (rTup rNil) rNil)) (rTup (rCons (rC (.int (0))) (rCons (rC (.int (1))) rNil))))) (rTBl (rBin cNe (rDef d_is_less (rCons (rVar 12) (rCons (rVar 7) rNil))) (rBin cLt (rBin mulI (rBin idxI (rVar 12) (rC (.int (0)))) (rBin idxI (rVar 7) (rC (.int (1))))) (rBin mulI (rBin idxI (rVar 7) (rC (.int (0)))) (rBin idxI (rVar 12) (rC (.int (1))))))))))) (sRet (rC (.bl false))) sPass)
abbrev L6 : SemS := (sIf (rTAnd (rTBl (rBin cNe (rBin idxI (rVar 7) (rC (.int (0)))) (rC (.int (0))))) (rTOr (rTBl (rBin cNe (rDef d_quotient_of (rCons (rVar 12) (rCons (rVar 7) rNil))) (rDef d__law_lean (rCons (rBin mulI (rBin idxI (rVar 12) (rC (.int (0)))) (rBin idxI (rVar 7) (rC (.int (1))))) (rCons (rBin mulI (rBin idxI (rVar 12) (rC (.int (1)))) (rBin idxI (rVar 7) (rC (.int (0))))) rNil))))) (rTBl (rBin cNe (rDef d_product_of (rCons (rDef d_quotient_of (rCons (rVar 12) (rCons (rVar 7) rNil))) (rCons (rVar 7) rNil))) (rVar 12))))) (sRet (rC (.bl false))) sPass)
abbrev L7 : SemS := (sIf (rTNot (rTru (rRefuses 1 "thing" (rDef d_quotient_of (rCons (rVar 12) (rCons (rTup (rCons (rC (.int (0))) (rCons (rC (.int (1))) rNil))) rNil))) (rTup (rCons (rC (.int (0))) (rCons (rC (.int (1))) rNil)))))) (sRet (rC (.bl false))) sPass)
abbrev L8 : SemS := (sAsg (rBin addI (rC (.int (1))) (rDef d__law_next (rCons (rVar 1) (rCons (rC (.int (12))) rNil)))) (gN 8))
abbrev L9 : SemS := (sAsg (rDef d_part_of (rCons (rVar 12) (rCons (rVar 8) rNil))) (gN 9))
abbrev L10 : SemS := (sIf (rTOr (rTBl (rBin cNe (rVar 9) (rCall tupleI (rCons (rLc (fRng2 (rCons (rC (.int (1))) (rCons (rBin addI (rVar 8) (rC (.int (1)))) rNil))) (.one 13) [13] rYes (rDef d__law_lean (rCons (rBin mulI (rBin idxI (rVar 12) (rC (.int (0)))) (rVar 13)) (rCons (rBin mulI (rBin idxI (rVar 12) (rC (.int (1)))) (rVar 8)) rNil)))) rNil)))) (rTBl (rBin cNe (rBin idxI (rVar 9) (rUn negI (rC (.int (1))))) (rVar 12)))) (sRet (rC (.bl false))) sPass)
abbrev L11 : SemS := (sFor (fSeq (rTup (rCons (rTup (rCons (rC (.str [97])) (rCons (rC (.bl true)) rNil))) (rCons (rTup (rCons (rC (.str [97, 49, 98, 50, 99, 51, 100, 52])) (rCons (rC (.bl true)) rNil))) (rCons (rTup (rCons (rC (.str [97, 49, 98, 50, 99, 51, 100, 52, 101])) (rCons (rC (.bl false)) rNil))) (rCons (rTup (rCons (rC (.str [49, 97])) (rCons (rC (.bl false)) rNil))) (rCons (rTup (rCons (rC (.str [65])) (rCons (rC (.bl false)) rNil))) (rCons (rTup (rCons (rC (.str [])) (rCons (rC (.bl false)) rNil))) (rCons (rTup (rCons (rC .non) (rCons (rC (.bl false)) rNil))) rNil))))))))) (gT 2 (gsCons (gN 10) (gsCons (gN 11) gsNil))) (sIf (rTBl (rBin cNe (rDef d_is_name (rCons (rVar 10) rNil)) (rVar 11))) (sRet (rC (.bl false))) sPass))
abbrev L12 : SemS := (sRet (fun _ st => d__law_refused_right [] st))
theorem r_law_eq : r_law = (sSeq L0 (sSeq L1 (sSeq L2 (sSeq L3 (sSeq L4 (sSeq L5 (sSeq L6 (sSeq L7 (sSeq L8 (sSeq L9 (sSeq L10 (sSeq L11 L12)))))))))))) := rfl
theorem end_L (l : Nat) (s0 s1 s2 s3 s4 s5 s6 : IO) (e0 e1 e2 e3 e4 e5 e6 e7 e8 e9 e10 e11 e12 e13 : Option IV) : (match (sSeq L11 L12) [e0, e1, e2, e3, e4, e5, e6, e7, e8, e9, e10, e11, e12, e13] { os := [s0, s1, s2, s3, s4, s5, s6], low := l } with | .rt (.bl true) _ => true | _ => false) = true := by kernel_rfl
end law_k01

set_option Elab.async false
set_option linter.all false
set_option maxRecDepth 100000
set_option maxHeartbeats 4000000
namespace law_k01
open PySem PySem.Spec PyProof.Rows L2 PI
theorem cut_map (ns : List Int) (lo hi : Option Int) : ∃ ms : List Int, cutI (ns.map IV.int) lo hi = ms.map IV.int := by
  unfold cutI
  exact ⟨_, by rw [List.length_map, ← List.map_drop, ← List.map_take]⟩
/-- up to the loop -/
theorem start_L (ns0 : List Int) (l : Nat) : ∃ (ms : List Int) (scale : Int), scale ∈ ([9, 999, 10 ^ 6, 10 ^ 9] : List Int) ∧ ∃ s3 : IO, ∀ k : SemS,
    (sSeq L0 (sSeq L1 (sSeq L2 k))) [some (.ref 0), none, none, none, none, none, none, none, none, none, none, none, none, none] { os := [.frl (ns0.map IV.int)], low := l } =
      k [some (.ref 0), some (.ref 2), some (.int scale), some (.ref 4), none, none, none, none, none, none, none, none, none, none] (stL (.frl (ns0.map IV.int)) ms 1 s3 [] l) := by
  obtain ⟨ms, hms⟩ := cut_map ns0 none (some 63)
  let st1 : Sto := { os := [.frl (ns0.map IV.int), .lst (ms.map IV.int), .lst [.ref 1, .int 0, .int 0], .lst (([9, 999, 10 ^ 6, 10 ^ 9] : List Int).map IV.int)], low := l }
  obtain ⟨c, hc, hp⟩ := d__law_pick_ok 2 1 3 ms [9, 999, 10 ^ 6, 10 ^ 9] 0 st1 rfl rfl rfl (by decide) (by decide) (by decide) (by decide) (by decide)
  refine ⟨ms, c, hc, .lst (([9, 999, 10 ^ 6, 10 ^ 9] : List Int).map IV.int), fun k => ?_⟩
  have hs : slcI (.ref 0) none (some 63) { os := [.frl (ns0.map IV.int)], low := l } = some (.ref 1, { os := [.frl (ns0.map IV.int), .lst (ms.map IV.int)], low := l }) := by
    show Sto.allocO _ (.lst (cutI (ns0.map IV.int) none (some 63))) = _
    rw [hms]; rfl
  have b3 : Nat.ble 3 lineI = true := by decide
  have b4 : Nat.ble 4 lineI = true := by decide
  have b0 : Nat.ble 0 lineI = true := by decide
  have p6 : ∀ st, powI (.int 10) (.int 6) st = some (.int (10 ^ 6), st) := fun _ => rfl
  have p9 : ∀ st, powI (.int 10) (.int 9) st = some (.int (10 ^ 9), st) := fun _ => rfl
  have hp' : d__law_pick [.ref 2, .ref 3] { os := [.frl (ns0.map IV.int), .lst (ms.map IV.int), .lst [.ref 1, .int 0, .int 0], .lst [.int 9, .int 999, .int (10 ^ 6), .int (10 ^ 9)]], low := l } = .ok (.int c) { os := [.frl (ns0.map IV.int), .lst (ms.map IV.int), .lst [.ref 1, .int 0, .int 1], .lst [.int 9, .int 999, .int (10 ^ 6), .int (10 ^ 9)]], low := l } := hp
  simp only [sSeq, L0, L1, L2, sAsg, rLst, rCons, rNil, rSl, rVar, rNoPart, rPart, rC, List.getElem?_cons_zero, List.getElem?_cons_succ, RE.bind, hs, RE.ofO, List.length_cons, List.length_nil, Nat.reduceAdd, b3, b4, b0, cond_true, Sto.allocO, List.cons_append, List.nil_append, RS.ofE, gN, RS.ofG, List.set_cons_zero, List.set_cons_succ, RS.seq, rDef, rBin, p6, p9, hp']
  rfl
end law_k01

set_option Elab.async false
set_option linter.all false
set_option maxRecDepth 100000
set_option maxHeartbeats 4000000
namespace law_k01
open PySem PySem.Spec PyProof.Rows L2 PI
/-- the four turns -/
theorem rows_L (s0 : IO) (ns : List Int) (s3 : IO) (l : Nat) (scale : Int) (hs : scale ∈ ([9, 999, 10 ^ 6, 10 ^ 9] : List Int)) :
    ∃ a0 b0 a1 b1 a2 b2 a3 b3 : Int, Rw a0 b0 ∧ Rw a1 b1 ∧ Rw a2 b2 ∧ Rw a3 b3 ∧ ∃ t w : Int, ∀ k : SemS,
      (sSeq L3 k) [some (.ref 0), some (.ref 2), some (.int scale), some (.ref 4), none, none, none, none, none, none, none, none, none, none] (stL s0 ns 1 s3 [] l) =
        k [some (.ref 0), some (.ref 2), some (.int scale), some (.ref 4), some (.int 3), some (.int t), some (.int w), none, none, none, none, none, none, none] (stL s0 ns 17 s3 [fr a0 b0, fr a1 b1, fr a2 b2, fr a3 b3] l) := by
  obtain ⟨a0, b0, r0, t0, w0, h0⟩ := turn_L s0 ns 1 s3 [] l scale (some (.int 0)) none none none none none none none none none (by decide) (by decide) hs (by simp)
  obtain ⟨a1, b1, r1, t1, w1, h1⟩ := turn_L s0 ns 5 s3 [fr a0 b0] l scale (some (.int 1)) (some (.int t0)) (some (.int w0)) none none none none none none none (by decide) (by decide) hs (by simp)
  obtain ⟨a2, b2, r2, t2, w2, h2⟩ := turn_L s0 ns 9 s3 [fr a0 b0, fr a1 b1] l scale (some (.int 2)) (some (.int t1)) (some (.int w1)) none none none none none none none (by decide) (by decide) hs (by simp)
  obtain ⟨a3, b3, r3, t3, w3, h3⟩ := turn_L s0 ns 13 s3 [fr a0 b0, fr a1 b1, fr a2 b2] l scale (some (.int 3)) (some (.int t2)) (some (.int w2)) none none none none none none none (by decide) (by decide) hs (by simp)
  refine ⟨a0, b0, a1, b1, a2, b2, a3, b3, r0, r1, r2, r3, t3, w3, fun k => ?_⟩
  have hr : rngOk 4 = true := by decide
  have hi : intsI 0 (Int.toNat 4) = [.int 0, .int 1, .int 2, .int 3] := rfl
  have e5 : (1 : Int) + 1 + 1 + 1 + 1 = 5 := rfl
  have e9 : (5 : Int) + 1 + 1 + 1 + 1 = 9 := rfl
  have e13 : (9 : Int) + 1 + 1 + 1 + 1 = 13 := rfl
  have e17 : (13 : Int) + 1 + 1 + 1 + 1 = 17 := rfl
  rw [e5] at h0
  rw [e9] at h1
  rw [e13] at h2
  rw [e17] at h3
  have hL3 : L3 = sFor (fRng1 (rCons (rC (.int (4))) rNil)) (gN 4) bL := rfl
  rw [hL3]
  generalize hB : bL = B at *
  simp only [sSeq, sFor, fRng1, rCons, rNil, rC, RE.bind, hr, cond_true, RS.ofE, hi, loopT, gN, RS.ofG, List.set_cons_zero, List.set_cons_succ]
  rw [h0]
  simp only [RS.loop, gN, RS.ofG, List.set_cons_zero, List.set_cons_succ, List.nil_append]
  rw [h1]
  simp only [RS.loop, gN, RS.ofG, List.set_cons_zero, List.set_cons_succ, List.nil_append, List.cons_append]
  rw [h2]
  simp only [RS.loop, gN, RS.ofG, List.set_cons_zero, List.set_cons_succ, List.nil_append, List.cons_append]
  rw [h3]
  simp only [RS.loop, RS.seq, List.nil_append, List.cons_append]
end law_k01

set_option Elab.async false
set_option linter.all false
set_option maxRecDepth 100000
set_option maxHeartbeats 4000000
namespace law_k01
open PySem PySem.Spec PyProof.Rows L2 PI
abbrev eL (scale t w : Int) (o7 m8 p9 e10 e11 o12 e13 : Option IV) : IEnv := [some (.ref 0), some (.ref 2), some (.int scale), some (.ref 4), some (.int 3), some (.int t), some (.int w), o7, m8, p9, e10, e11, o12, e13]
theorem L4_eq (scale t w : Int) (x y z u : IV) (m8 p9 e10 e11 e13 e7 e12 : Option IV) (st : Sto) (hst : st.os[4]? = some (.lst [x, y, z, u])) (k : SemS) : (sSeq L4 k) (eL scale t w e7 m8 p9 e10 e11 e12 e13) st = k (eL scale t w (some y) m8 p9 e10 e11 (some x) e13) st := by
  have hl : lstAt st 4 = some [x, y, z, u] := by unfold lstAt; rw [hst]
  have h0 : idxI (.ref 4) (.int 0) st = some (x, st) := by
    show (match lstAt st 4 with | some xs => (match L2.atI xs 0 with | some v => some (v, st) | none => none) | none => none) = _
    rw [hl]; rfl
  have h1 : idxI (.ref 4) (.int 1) st = some (y, st) := by
    show (match lstAt st 4 with | some xs => (match L2.atI xs 1 with | some v => some (v, st) | none => none) | none => none) = _
    rw [hl]; rfl
  have b2 : Nat.ble 2 lineI = true := by decide
  simp only [sSeq, L4, eL, sAsg, rTup, rCons, rNil, rBin, rVar, rC, List.getElem?_cons_zero, List.getElem?_cons_succ, RE.bind, RE.ofO, h0, h1, List.length_cons, List.length_nil, Nat.reduceAdd, b2, cond_true, RS.ofE, gT, gsCons, gsNil, gN, RS.ofG, Nat.beq_eq_true_eq, RS.seq, List.set_cons_zero, List.set_cons_succ]
  rfl
theorem hbb (b : Bool) (st : Sto) : cNe (.bl b) (.bl b) st = some (.bl false, st) := by cases b <;> rfl
theorem L5_eq {a0 b0 a1 b1 a2 b2 a3 b3 : Int} (r0 : Rw a0 b0) (r1 : Rw a1 b1) (r2 : Rw a2 b2) (r3 : Rw a3 b3) (scale t w : Int) (m8 p9 e10 e11 e13 : Option IV) (st : Sto) (hst : st.os[4]? = some (.lst [fr a0 b0, fr a1 b1, fr a2 b2, fr a3 b3])) (k : SemS) :
    (sSeq L5 k) (eL scale t w (some (fr a1 b1)) m8 p9 e10 e11 (some (fr a0 b0)) e13) st = k (eL scale t w (some (fr a1 b1)) m8 p9 e10 e11 (some (fr a0 b0)) e13) st := by
  obtain ⟨e, f, h1, h2⟩ := sums r0 r1 r2 r3 st st 4 hst
  obtain ⟨g, h, h3, h4⟩ := products r0 r1 st st
  have h5 := lesses r0 r1 st
  have h6 : d_sum_of [.tup []] st = .ok (fr 0 1) st := rfl
  have hl : lstAt st 4 = some [fr a0 b0, fr a1 b1, fr a2 b2, fr a3 b3] := by unfold lstAt; rw [hst]
  have ht : tupleI [.ref 4] st = some (.tup [fr a0 b0, fr a1 b1, fr a2 b2, fr a3 b3], st) := by
    simp only [tupleI, hl]
  have hlt : ∀ x y : Int, cLt (.int x) (.int y) st = some (.bl (decide (x < y)), st) := fun _ _ => rfl
  have b2' : Nat.ble 2 lineI = true := by decide
  have b0' : Nat.ble 0 lineI = true := by decide
  have sa := sm60 (Nat.le_trans r0.top (by decide : 2 ^ 40 ≤ 10 ^ 60))
  have sb := sm60 (Nat.le_trans r0.bot (by decide : 2 ^ 37 ≤ 10 ^ 60))
  have sc := sm60 (Nat.le_trans r1.top (by decide : 2 ^ 40 ≤ 10 ^ 60))
  have sd := sm60 (Nat.le_trans r1.bot (by decide : 2 ^ 37 ≤ 10 ^ 60))
  have n01 := ne_fr 0 1 st
  simp only [sSeq, L5, eL, sIf, rTOr, rTBl, rBin, rDef, rCall, rCons, rNil, rVar, rTup, rC, List.getElem?_cons_zero, List.getElem?_cons_succ, RE.bind, RE.ofO, ht, h1, h2, ne_fr, RS.ofE, cond_false, h3, h4, List.length_cons, List.length_nil, Nat.reduceAdd, b2', b0', cond_true, h6, n01, h5, i0, i1, mul_ok st sa sd, mul_ok st sc sb, hlt, hbb, sPass, RS.seq]
theorem L6_eq {a b c d : Int} (r0 : Rw a b) (r1 : Rw c d) (scale t w : Int) (m8 p9 e10 e11 e13 : Option IV) (st : Sto) (k : SemS) :
    (sSeq L6 k) (eL scale t w (some (fr c d)) m8 p9 e10 e11 (some (fr a b)) e13) st = k (eL scale t w (some (fr c d)) m8 p9 e10 e11 (some (fr a b)) e13) st := by
  have hn0 : cNe (.int c) (.int 0) st = some (.bl (!decide (c = 0)), st) := rfl
  have sa := sm60 (Nat.le_trans r0.top (by decide : 2 ^ 40 ≤ 10 ^ 60))
  have sb := sm60 (Nat.le_trans r0.bot (by decide : 2 ^ 37 ≤ 10 ^ 60))
  have sc := sm60 (Nat.le_trans r1.top (by decide : 2 ^ 40 ≤ 10 ^ 60))
  have sd := sm60 (Nat.le_trans r1.bot (by decide : 2 ^ 37 ≤ 10 ^ 60))
  by_cases hc : c = 0
  · simp only [sSeq, L6, eL, sIf, rTAnd, rTBl, rBin, rVar, rC, List.getElem?_cons_zero, List.getElem?_cons_succ, RE.bind, RE.ofO, i0, hn0, decide_eq_true hc, Bool.not_true, cond_false, RS.ofE, sPass, RS.seq]
  · have hq := d_quotient_eq r0 r1 hc st
    have hne : b * c ≠ 0 := Int.mul_ne_zero (Int.ne_of_gt r0.fr.pos) hc
    have p1 : (a * d).natAbs ≤ 2 ^ 40 * 2 ^ 37 := by rw [Int.natAbs_mul]; exact Nat.mul_le_mul r0.top r1.bot
    have p2 : (b * c).natAbs ≤ 2 ^ 37 * 2 ^ 40 := by rw [Int.natAbs_mul]; exact Nat.mul_le_mul r0.bot r1.top
    have hll := d__law_lean_eq (t := a * d) (b := b * c) st hne (sm60 (Nat.le_trans p1 (by decide))) (sm60 (Nat.le_trans p2 (by decide)))
    have hb := d_back_eq r0 r1 hc st
    have hnl : cNe (lf (a * d) (b * c)) (lf (a * d) (b * c)) st = some (.bl false, st) := ne_fr _ _ st
    have hll' : d__law_lean [.int (a * d), .int (b * c)] st = .ok (lf (a * d) (b * c)) st := hll
    simp only [sSeq, L6, eL, sIf, rTAnd, rTOr, rTBl, rBin, rDef, rCons, rNil, rVar, rC, List.getElem?_cons_zero, List.getElem?_cons_succ, RE.bind, RE.ofO, i0, i1, hn0, decide_eq_false hc, Bool.not_false, cond_true, hq, mul_ok st sa sd, mul_ok st sb sc, hll', hnl, cond_false, hb, ne_fr, RS.ofE, sPass, RS.seq]
theorem fr01 : Fr 0 1 := ⟨by decide, by decide, by decide, by decide⟩
theorem quo_bad {a b : Int} (r0 : Rw a b) (st : Sto) : d_quotient_of [fr a b, fr 0 1] st = .exc ⟨1, [("thing", fr 0 1)]⟩ st := by
  have hc := check2 st r0.fr fr01
  have q : ∀ (i : Int) (st : Sto), cEq (.int i) (.int 0) st = some (.bl (decide (i = 0)), st) := fun _ _ => rfl
  have b2' : Nat.ble 2 lineI = true := by decide
  unfold d_quotient_of r_quotient_of
  simp only [callI, startI, List.map_cons, List.map_nil, List.length_cons, List.length_nil, Nat.reduceAdd, Nat.reduceSub, List.replicate, List.cons_append, List.nil_append, List.append_nil, sSeq, sExpr, rDef, rTup, rCons, rNil, rVar, rC, rBin, List.getElem?_cons_zero, List.getElem?_cons_succ, RE.bind, RE.ofO, b2', cond_true, hc, RS.ofE, RS.seq, sIf, rTBl, i0, q, sRaise]
  rfl
theorem L7_eq {a b : Int} (r0 : Rw a b) (scale t w : Int) (o7 m8 p9 e10 e11 e13 : Option IV) (st : Sto) (k : SemS) :
    (sSeq L7 k) (eL scale t w o7 m8 p9 e10 e11 (some (fr a b)) e13) st = k (eL scale t w o7 m8 p9 e10 e11 (some (fr a b)) e13) st := by
  have hq := quo_bad r0 st
  have b2' : Nat.ble 2 lineI = true := by decide
  have hrp : ∀ st, reprI [fr 0 1] st = some (.str [40, 48, 44, 32, 49, 41], st) := fun st => rfl
  have heq : ∀ st, blO (eqI st (.str [40, 48, 44, 32, 49, 41]) (.str [40, 48, 44, 32, 49, 41])) st = some (.bl true, st) := fun _ => rfl
  have hd : decide (("thing" : Str) = "thing") = true := by decide
  have hbq : Nat.beq 1 1 = true := rfl
  simp only [sSeq, L7, eL, sIf, rTNot, rTru, rRefuses, rTup, rDef, rCons, rNil, rVar, rC, List.getElem?_cons_zero, List.getElem?_cons_succ, RE.bind, List.length_cons, List.length_nil, Nat.reduceAdd, b2', cond_true, hq, hbq, hd, hrp, Option.bind_some, heq, RE.ofO, truI, Bool.not_true, cond_false, RS.ofE, sPass, RS.seq]
  rfl
end law_k01

set_option Elab.async false
set_option linter.all false
set_option maxRecDepth 100000
set_option maxHeartbeats 4000000
namespace law_k01
open PySem PySem.Spec PyProof.Rows L2 PI
theorem L8_eq (s0 : IO) (ns : List Int) (s3 : IO) (rows : List IV) (l : Nat) (scale t w : Int) (o7 p9 e10 e11 o12 e13 m8 : Option IV) : ∃ many : Int, 1 ≤ many ∧ many ≤ 12 ∧ ∀ k : SemS,
    (sSeq L8 k) (eL scale t w o7 m8 p9 e10 e11 o12 e13) (stL s0 ns 17 s3 rows l) = k (eL scale t w o7 (some (.int many)) p9 e10 e11 o12 e13) (stL s0 ns 18 s3 rows l) := by
  obtain ⟨v, h0, h1, hn⟩ := next_L s0 ns 17 s3 rows l 12 (by decide) (by decide) (by decide)
  refine ⟨1 + v, by omega, by omega, fun k => ?_⟩
  simp only [sSeq, L8, eL, sAsg, rBin, rC, rDef, rCons, rNil, rVar, List.getElem?_cons_zero, List.getElem?_cons_succ, RE.bind, hn, RE.ofO, add_ok, RS.ofE, gN, RS.ofG, List.set_cons_zero, List.set_cons_succ, RS.seq]
  rfl
theorem L9_eq {a b many : Int} (r : Rw a b) (hm : 1 ≤ many) (hm2 : many ≤ 12) (scale t w : Int) (o7 p9 e10 e11 e13 : Option IV) (st : Sto) (k : SemS) :
    (sSeq L9 k) (eL scale t w o7 (some (.int many)) p9 e10 e11 (some (fr a b)) e13) st = k (eL scale t w o7 (some (.int many)) (some (.tup ((intsI 1 many.toNat).map (prt a b many)))) e10 e11 (some (fr a b)) e13) { os := st.os ++ [.lst ((intsI 1 many.toNat).map (prt a b many))], low := st.low } := by
  have hp := d_part_eq r hm hm2 st
  simp only [sSeq, L9, eL, sAsg, rDef, rCons, rNil, rVar, List.getElem?_cons_zero, List.getElem?_cons_succ, RE.bind, hp, RS.ofE, gN, RS.ofG, List.set_cons_zero, List.set_cons_succ, RS.seq]
theorem prt_frs (a b many : Int) : ∀ (n : Nat) (lo : Int), ∃ ps : List (Int × Int), (intsI lo n).map (prt a b many) = ps.map fun p => fr p.1 p.2
  | 0, _ => ⟨[], rfl⟩
  | n + 1, lo => by
    obtain ⟨ps, h⟩ := prt_frs a b many n (lo + 1)
    refine ⟨lq (a * lo) (b * many) :: ps, ?_⟩
    show prt a b many (.int lo) :: (intsI (lo + 1) n).map (prt a b many) = _
    rw [h]; rfl
theorem prt_last (a b many : Int) : ∀ (n : Nat) (lo : Int), ∃ ys : List IV, (intsI lo (n + 1)).map (prt a b many) = ys ++ [prt a b many (.int (lo + n))]
  | 0, lo => ⟨[], by show [prt a b many (.int lo)] = [prt a b many (.int (lo + (0 : Nat)))]; congr 3; omega⟩
  | n + 1, lo => by
    obtain ⟨ys, h⟩ := prt_last a b many n (lo + 1)
    refine ⟨prt a b many (.int lo) :: ys, ?_⟩
    show prt a b many (.int lo) :: (intsI (lo + 1) (n + 1)).map (prt a b many) = _
    rw [h]
    have e : lo + 1 + (n : Int) = lo + ((n + 1 : Nat) : Int) := by omega
    rw [e]; rfl
theorem L10_eq {a b many : Int} (r : Rw a b) (hm : 1 ≤ many) (hm2 : many ≤ 12) (scale t w : Int) (o7 e10 e11 e13 : Option IV) (st : Sto) (k : SemS) :
    (sSeq L10 k) (eL scale t w o7 (some (.int many)) (some (.tup ((intsI 1 many.toNat).map (prt a b many)))) e10 e11 (some (fr a b)) e13) st = k (eL scale t w o7 (some (.int many)) (some (.tup ((intsI 1 many.toNat).map (prt a b many)))) e10 e11 (some (fr a b)) e13) { os := st.os ++ [.lst ((intsI 1 many.toNat).map (prt a b many))], low := st.low } := by
  have sa := sm60 (Nat.le_trans r.top (by decide : 2 ^ 40 ≤ 10 ^ 60))
  have sb := sm60 (Nat.le_trans r.bot (by decide : 2 ^ 37 ≤ 10 ^ 60))
  have hlc : loopC (.one 13) (wipeI [some (.ref 0), some (.ref 2), some (.int scale), some (.ref 4), some (.int 3), some (.int t), some (.int w), o7, some (.int many), some (.tup ((intsI 1 many.toNat).map (prt a b many))), e10, e11, some (fr a b), e13] [13]) rYes (rDef d__law_lean (rCons (rBin mulI (rBin idxI (rVar 12) (rC (.int (0)))) (rVar 13)) (rCons (rBin mulI (rBin idxI (rVar 12) (rC (.int (1)))) (rVar 8)) rNil))) (intsI 1 many.toNat) [] st = .ok ((intsI 1 many.toNat).map (prt a b many)) st := by
    rw [loopC_pure 13 _ _ st (prt a b many) _ [] fun x hx => ?_]
    · rfl
    · obtain ⟨i, rfl, h1, h2⟩ := mem_intsI _ _ _ hx
      have hl := (part_lean r hm hm2 h1 (by omega) st).2
      simp only [wipeI, List.set_cons_zero, List.set_cons_succ, rDef, rCons, rNil, rBin, rVar, rC, List.getElem?_cons_zero, List.getElem?_cons_succ, RE.bind, RE.ofO, i0, i1, mul_ok _ sa (sm_of (show i.natAbs < 2 ^ 100 by omega)), mul_ok _ sb (sm_of (show many.natAbs < 2 ^ 100 by omega)), hl, prt]
  have hr : (rngOk 1 && rngOk (many + 1)) = true := by
    unfold rngOk
    simp only [Bool.and_eq_true, decide_eq_true_eq]
    omega
  have e1 : many + 1 - 1 = many := by omega
  have hlen : Nat.ble (intsI 1 many.toNat).length lineI = true := by
    rw [intsI_len]
    apply Nat.ble_eq_true_of_le
    unfold lineI; omega
  obtain ⟨ps, hps⟩ := prt_frs a b many many.toNat 1
  have hne : ∀ st, cNe (.tup ((intsI 1 many.toNat).map (prt a b many))) (.tup ((intsI 1 many.toNat).map (prt a b many))) st = some (.bl false, st) := fun st => by
    rw [hps]; exact ne_frs ps st
  have hlast : ∀ st, idxI (.tup ((intsI 1 many.toNat).map (prt a b many))) (.int (-1)) st = some (fr a b, st) := fun st => by
    obtain ⟨m, hmm⟩ : ∃ m : Nat, many.toNat = m + 1 := ⟨many.toNat - 1, by omega⟩
    obtain ⟨ys, hy⟩ := prt_last a b many m 1
    have hmi : (1 : Int) + m = many := by omega
    have hpl : prt a b many (.int many) = fr a b := part_last r hm hm2
    rw [hmi, hpl] at hy
    rw [hmm, hy]
    show (match L2.atI (ys ++ [fr a b]) (-1) with | some v => some (v, st) | none => none) = _
    rw [L2.atI_last]
  have ha : st.allocO (.lst ((intsI 1 many.toNat).map (prt a b many))) = some (.ref st.os.length, { os := st.os ++ [.lst ((intsI 1 many.toNat).map (prt a b many))], low := st.low }) := rfl
  have ht : tupleI [.ref st.os.length] { os := st.os ++ [.lst ((intsI 1 many.toNat).map (prt a b many))], low := st.low } = some (.tup ((intsI 1 many.toNat).map (prt a b many)), { os := st.os ++ [.lst ((intsI 1 many.toNat).map (prt a b many))], low := st.low }) := by
    simp only [tupleI, lstAt, List.getElem?_append_right (Nat.le_refl _), Nat.sub_self, List.getElem?_cons_zero]
  have hrl : rLc (fRng2 (rCons (rC (.int (1))) (rCons (rBin addI (rVar 8) (rC (.int (1)))) rNil))) (.one 13) [13] rYes (rDef d__law_lean (rCons (rBin mulI (rBin idxI (rVar 12) (rC (.int (0)))) (rVar 13)) (rCons (rBin mulI (rBin idxI (rVar 12) (rC (.int (1)))) (rVar 8)) rNil)))
      [some (.ref 0), some (.ref 2), some (.int scale), some (.ref 4), some (.int 3), some (.int t), some (.int w), o7, some (.int many), some (.tup ((intsI 1 many.toNat).map (prt a b many))), e10, e11, some (fr a b), e13] st = .ok (.ref st.os.length) { os := st.os ++ [.lst ((intsI 1 many.toNat).map (prt a b many))], low := st.low } := by
    unfold rLc
    simp only [fRng2, rCons, rNil, rBin, rVar, rC, List.getElem?_cons_zero, List.getElem?_cons_succ, RE.bind, RE.ofO, add_ok, hr, cond_true, e1, hlen, hlc, ha]
  simp only [sSeq, L10, eL, sIf, rTOr, rTBl, rBin, rVar, rCall, rCons, rNil, List.getElem?_cons_zero, List.getElem?_cons_succ, RE.bind, hrl, ht, RE.ofO, hne, cond_false, rUn, rC, neg_ok, hlast, ne_fr, RS.ofE, sPass, RS.seq]
end law_k01

set_option Elab.async false
set_option linter.all false
set_option maxRecDepth 100000
set_option maxHeartbeats 4000000
namespace law_k01
open PySem PySem.Spec PyProof.Rows L2 PI
/-- the plain law: the law's def gives True at every script -/
theorem law_true (ns : List Int) (l : Nat) : ∃ st' : Sto, d_law [.ref 0] { os := [.frl (ns.map IV.int)], low := l } = .ok (.bl true) st' := by
  obtain ⟨ms, scale, hs, s3, h1⟩ := start_L ns l
  obtain ⟨a0, b0, a1, b1, a2, b2, a3, b3, r0, r1, r2, r3, t, w, h2⟩ := rows_L (.frl (ns.map IV.int)) ms s3 l scale hs
  obtain ⟨many, m1, m2, h3⟩ := L8_eq (.frl (ns.map IV.int)) ms s3 [fr a0 b0, fr a1 b1, fr a2 b2, fr a3 b3] l scale t w (some (fr a1 b1)) none none none (some (fr a0 b0)) none none
  have hE := end_L l (.frl (ns.map IV.int)) (.lst (ms.map IV.int)) (.lst [.ref 1, .int 0, .int 18]) s3 (.lst [fr a0 b0, fr a1 b1, fr a2 b2, fr a3 b3]) (.lst ((intsI 1 many.toNat).map (prt a0 b0 many))) (.lst ((intsI 1 many.toNat).map (prt a0 b0 many)))
    (some (.ref 0)) (some (.ref 2)) (some (.int scale)) (some (.ref 4)) (some (.int 3)) (some (.int t)) (some (.int w)) (some (fr a1 b1)) (some (.int many)) (some (.tup ((intsI 1 many.toNat).map (prt a0 b0 many)))) none none (some (fr a0 b0)) none
  have hk : r_law (startI 14 [.ref 0]) { os := [.frl (ns.map IV.int)], low := l } = (sSeq L11 L12) [some (.ref 0), some (.ref 2), some (.int scale), some (.ref 4), some (.int 3), some (.int t), some (.int w), some (fr a1 b1), some (.int many), some (.tup ((intsI 1 many.toNat).map (prt a0 b0 many))), none, none, some (fr a0 b0), none]
      { os := [.frl (ns.map IV.int), .lst (ms.map IV.int), .lst [.ref 1, .int 0, .int 18], s3, .lst [fr a0 b0, fr a1 b1, fr a2 b2, fr a3 b3], .lst ((intsI 1 many.toNat).map (prt a0 b0 many)), .lst ((intsI 1 many.toNat).map (prt a0 b0 many))], low := l } := by
    rw [r_law_eq]
    show (sSeq L0 _) [some (.ref 0), none, none, none, none, none, none, none, none, none, none, none, none, none] _ = _
    rw [h1, h2, L4_eq scale t w (fr a0 b0) (fr a1 b1) (fr a2 b2) (fr a3 b3) none none none none none none none _ rfl, L5_eq r0 r1 r2 r3 scale t w none none none none none _ rfl, L6_eq r0 r1 scale t w none none none none none, L7_eq r0 scale t w, h3, L9_eq r0 m1 m2 scale t w, L10_eq r0 m1 m2 scale t w]
    rfl
  show ∃ st', callI 14 r_law [.ref 0] _ = _
  unfold callI
  rw [hk]
  generalize (sSeq L11 L12) _ _ = R at hE
  cases R with
  | rt v st => cases v with
    | bl b => cases b with
      | true => exact ⟨st, rfl⟩
      | false => cases hE
    | _ => cases hE
  | _ => cases hE
end law_k01

set_option Elab.async false
set_option linter.all false
set_option maxRecDepth 100000
set_option maxHeartbeats 2000000
/-! PE1: what the heap behind the top says, by one look of the kernel. -/
namespace PI
open PySem PySem.Spec PyProof.Rows L2
open LamX (Tabs TabS CodeO ExtN TabB)
abbrev Look := Addr → Option Obj
/-! ### the part of the heap -/
def refsD (o : Obj) : List Addr := match o.data with
  | .seq its _ => its.toList.flatMap He.refV
  | .dict es _ => es.toList.flatMap fun z => He.refV z.val
  | .func fd => He.refV fd.code ++ fd.closure.map (·.2)
  | .cls cd => [cd.ns]
  | _ => []
def atG (g : Look) (a : Addr) : List Addr := match g a with
  | some o => refsD o
  | none => []
def isCG (g : Look) (a : Addr) : Bool := match g a with
  | some ⟨_, _, .cls _, _⟩ => true
  | _ => false
def a1G (g : Look) : List Addr := atG g mainGlobals
def a3G (g : Look) (a1 : List Addr) : List Addr := (a1.filter (isCG g)).flatMap fun c => (atG g c).flatMap (atG g)
def asN (g : Look) : List Addr := let a1 := a1G g; let a3 := a3G g a1; [mainGlobals, cStatics] ++ (a1 ++ (a1.flatMap (atG g) ++ (a3 ++ a3.flatMap (atG g))))
def kN (g : Look) : PySem.W.Frag := He.frG g (asN g)
theorem kN_in {h : Heap} : (kN h.get?).In h := He.frG_in
/-! ### defs -/
def cdA (K : PySem.W.Frag) (x : Str) : Addr := match K.lookup (He.ga K x) with
  | some ⟨_, _, .func fd, _⟩ => (match fd.code with
    | .ref c => c
    | _ => 0)
  | _ => 0
def fnB (K : PySem.W.Frag) (x : Str) : Bool := (He.Fa.glo x).ok K && ((He.Fa.keep x).ok K && (He.Fa.code (x, none) x).ok K)
def fnV (x : Str) (st : Stmt) : He.FnV := He.FnD.val ⟨(x, none), x, x, defArgs st, defBody st, defScope st⟩
theorem codeIn_ref {K : PySem.W.Frag} {cdv : Value} {q : Str} (h : PySem.W.codeIn K cdv q = true) : ∃ c, cdv = .ref c := by
  cases cdv with
  | ref c => exact ⟨c, rfl⟩
  | _ => cases h
section
variable {K : PySem.W.Frag} {h : Heap} {mg : Str → Option Value}
theorem fun_of {x : Str} {st : Stmt} (X : K.In h) (G : h.Ns mainGlobals mg) (c : fnB K x = true) (e : He.fnObs K (x, none) = fnV x st) : ∃ f fd, mg x = some (.ref f) ∧ Fun K x x st f fd ∧ fd.code = .ref (cdA K x) := by
  obtain ⟨c1, c⟩ := He.ba c
  obtain ⟨c2, c3⟩ := He.ba c
  obtain ⟨oc, od, osl, kV, doc, pm, an, cdv, ct, lk, hc⟩ := He.fn_ok (d := ⟨(x, none), x, x, defArgs st, defBody st, defScope st⟩) e c3
  obtain ⟨cc, rfl⟩ := codeIn_ref hc
  refine ⟨He.ga K x, _, He.glo_ok X G c1, fun_mk lk hc c2, ?_⟩
  have lk' : K.lookup (He.ga K x) = _ := lk
  show Value.ref cc = .ref (cdA K x)
  unfold cdA
  rw [lk']
theorem fun_of' {x : Str} {st : Stmt} (X : K.In h) (G : h.Ns mainGlobals mg) (c : fnB K x = true) (e : He.fnObs K (x, none) = fnV x st) : ∃ f fd, mg x = some (.ref f) ∧ Fun K x x st f fd := by
  obtain ⟨f, fd, h1, h2, _⟩ := fun_of X G c e
  exact ⟨f, fd, h1, h2⟩
/-! ### constants -/
def allB2 (f : IV → Value → Bool) : List IV → List Value → Bool
  | [], [] => true
  | x :: xs, u :: us => f x u && allB2 f xs us
  | _, _ => false
def cB (K : PySem.W.Frag) : Nat → IV → Value → Bool
  | n + 1, .tup xs, .ref a => (match K.lookup a with
    | some ⟨.type t, _, .seq its _, _⟩ => decide (t = "tuple") && (Nat.ble its.size 1000 && allB2 (cB K n) xs its.toList)
    | _ => false)
  | _, .int i, .int j _ => decide (j = i)
  | _, .str s, .str y _ => decide (y = ⟨s.toArray⟩) && s.all (fun c => decide (c < 0x110000))
  | _, .bl b, .bool c => decide (c = b)
  | _, .non, .none => true
  | _, _, _ => false
theorem allB2_ok {f : IV → Value → Bool} (hf : ∀ x u, f x u = true → ∃ v, RelV v u ∧ ∀ H ρ, RepV K H ρ x v) : ∀ xs us, allB2 f xs us = true → ∃ vs, Vals vs us ∧ ∀ H ρ, RepVs K H ρ xs vs
  | [], [], _ => ⟨[], .nil, fun _ _ => .nil⟩
  | [], _ :: _, h => by cases h
  | _ :: _, [], h => by cases h
  | x :: xs, u :: us, h => by
    obtain ⟨h1, h2⟩ := He.ba h
    obtain ⟨v, r, p⟩ := hf x u h1
    obtain ⟨vs, rs, ps⟩ := allB2_ok hf xs us h2
    exact ⟨v :: vs, .cons r rs, fun H ρ => .cons (p H ρ) (ps H ρ)⟩
theorem cB_ok : ∀ (n : Nat) (c : IV) (u : Value), cB K n c u = true → ∃ v, RelV v u ∧ ∀ H ρ, RepV K H ρ c v := by
  have simple : ∀ (n : Nat) (c : IV) (u : Value), (∀ xs, c ≠ .tup xs) → cB K n c u = true → ∃ v, RelV v u ∧ ∀ H ρ, RepV K H ρ c v := fun n c u hc h => by
    cases c with
    | non => cases u with
      | none => exact ⟨.non, rfl, fun _ _ => .non⟩
      | _ => cases n <;> cases h
    | bl b => cases u with
      | bool b' =>
        have e : b' = b := by cases n <;> exact of_decide_eq_true h
        subst e
        exact ⟨.bl b', rfl, fun _ _ => .bl _⟩
      | _ => cases n <;> cases h
    | int i => cases u with
      | int j t =>
        have e : j = i := by cases n <;> exact of_decide_eq_true h
        subst e
        exact ⟨.int j, ⟨t, rfl⟩, fun _ _ => .int _⟩
      | _ => cases n <;> cases h
    | str s => cases u with
      | str y t =>
        have e : (decide (y = ⟨s.toArray⟩) && s.all (fun c => decide (c < 0x110000))) = true := by cases n <;> exact h
        obtain ⟨e1, e2⟩ := He.ba e
        obtain rfl := of_decide_eq_true e1
        exact ⟨.str ⟨s.toArray⟩, ⟨t, rfl⟩, fun _ _ => .str e2⟩
      | _ => cases n <;> cases h
    | tup xs => exact absurd rfl (hc xs)
    | ref n' => cases u <;> cases n <;> cases h
  intro n
  induction n with
  | zero =>
    intro c u h
    cases c with
    | tup xs => cases u <;> cases h
    | _ => exact simple 0 _ u (fun _ z => nomatch z) h
  | succ n ih =>
    intro c u h
    cases c with
    | tup xs =>
      cases u with
      | ref a =>
        have h' : (match K.lookup a with
          | some ⟨.type t, _, .seq its _, _⟩ => decide (t = "tuple") && (Nat.ble its.size 1000 && allB2 (cB K n) xs its.toList)
          | _ => false) = true := h
        split at h'
        · rename_i t od its m sl e
          obtain ⟨h1, h2⟩ := He.ba h'
          obtain ⟨h2, h3⟩ := He.ba h2
          obtain rfl := of_decide_eq_true h1
          obtain ⟨vs, rs, ps⟩ := allB2_ok ih xs its.toList h3
          exact ⟨.ref a, rfl, fun H ρ => .tup (.inr ⟨_, its, m, e, rfl, rfl, Nat.le_of_lt (small1000 (Nat.le_of_ble_eq_true h2)), rs⟩) (ps H ρ)⟩
        · cases h'
      | _ => cases h
    | _ => exact simple (n + 1) _ u (fun _ z => nomatch z) h
def constB (K : PySem.W.Frag) (x : Str) (c : IV) : Bool := match PySem.W.nsIn K mainGlobals x with
  | some (some u) => cB K 20 c u
  | _ => false
theorem gc_of {x : Str} {c : IV} (X : K.In h) (G : h.Ns mainGlobals mg) (e : constB K x c = true) : Gc K mg x c := by
  unfold constB at e
  split at e
  · rename_i u q
    obtain ⟨v, r, p⟩ := cB_ok 20 c u e
    exact ⟨v, u, PySem.W.mg_of X G q, r, p⟩
  · cases e
end
end PI

set_option Elab.async false
set_option linter.all false
set_option maxRecDepth 100000
set_option maxHeartbeats 2000000
/-! PE2: the law's call, guards known: the script and the empty tables are what is tracked. -/
namespace PI
open PySem PySem.Spec PyProof.Rows L2
open LamX (TabB)
abbrev tabObj : Obj := { cls := .none, data := .fields #[] }
def H0 (ts : List Addr) (a : Addr) (o : Obj) (u : HO) : Hp := fun b => if b = a then some (.frz o u) else if b ∈ ts then some (.tbl #[]) else none
section
variable {ts : List Addr} {a b : Addr} {o : Obj} {u x : HO}
theorem H0_at : H0 ts a o u a = some (.frz o u) := if_pos rfl
theorem H0_tab (n : b ≠ a) (h : b ∈ ts) : H0 ts a o u b = some (.tbl #[]) := (if_neg n).trans (if_pos h)
theorem H0_non (n : b ≠ a) (h : b ∉ ts) : H0 ts a o u b = none := (if_neg n).trans (if_neg h)
theorem H0_cases (e : H0 ts a o u b = some x) : (b = a ∧ x = .frz o u) ∨ (b ≠ a ∧ b ∈ ts ∧ x = .tbl #[]) := by
  by_cases h1 : b = a
  · subst h1
    rw [H0_at] at e
    exact .inl ⟨rfl, (Option.some.inj e).symm⟩
  · by_cases h2 : b ∈ ts
    · rw [H0_tab h1 h2] at e
      exact .inr ⟨h1, h2, (Option.some.inj e).symm⟩
    · rw [H0_non h1 h2] at e
      cases e
end
/-- what is known where the law is called -/
structure Start (K : PySem.W.Frag) (mg mb : Str → Option Value) (cs : List (Addr × Addr)) (s : Shared) (a : Addr) (so : Obj) : Prop where
  kx : K.In s.heap
  ns : s.heap.Ns mainGlobals mg
  nb : s.heap.Ns builtinsNs mb
  bb : ∀ x : Str, x ≠ "__name__" → mb x = bootBuiltins x
  lim : s.heap.NoLimit
  gens : s.gens = #[]
  tab : ∀ p ∈ cs, s.heap.get? p.2 = some tabObj
  noK : ∀ p ∈ cs, K.lookup p.2 = none
  hd : ∀ p ∈ cs, PySem.W.CodeHd s.heap p.1 p.2
  bm : ∃ (bm : Addr) (ob : Obj), mg "__builtins__" = some (.ref bm) ∧ bm ≠ builtinsNs ∧ s.heap.get? bm = some ob ∧ ob.cls = .type "module" ∧ ob.dict = some builtinsNs ∧ ob.data = .plain
  sg : s.heap.get? a = some so
  sd : ∃ its n, so.data = .seq its n
  nk : K.lookup a = none
section
variable {P : Program} {w : World} {K : PySem.W.Frag} {mg mb : Str → Option Value} {cs : List (Addr × Addr)} {s : Shared} {a : Addr} {so : Obj} {u : HO}
abbrev tsOf (cs : List (Addr × Addr)) : List Addr := cs.map (·.2)
theorem Start.tab' (S : Start K mg mb cs s a so) {b : Addr} (h : b ∈ tsOf cs) : s.heap.get? b = some tabObj := by
  obtain ⟨p, hp, rfl⟩ := List.mem_map.mp h
  exact S.tab p hp
theorem Start.aT (S : Start K mg mb cs s a so) : a ∉ tsOf cs := fun z => by
  have e := S.tab' z
  obtain ⟨its, n, hd⟩ := S.sd
  rw [S.sg] at e
  cases e
  cases hd
theorem Start.shown (S : Start K mg mb cs s a so) {b : Addr} {o : Obj} (e : s.heap.get? b = some o) (n1 : ∀ its n, o.data ≠ .seq its n) (n2 : o.data ≠ .fields #[]) : (hidT s.heap (H0 (tsOf cs) a so u)).get? b = some o := by
  refine hidT_get e (H0_non (fun z => ?_) fun z => ?_)
  · rw [z, S.sg] at e
    cases e
    obtain ⟨its, n, hd⟩ := S.sd
    exact n1 _ _ hd
  · rw [S.tab' z] at e
    cases e
    exact n2 rfl
theorem Start.names (S : Start K mg mb cs s a so) {b : Addr} {m : Str → Option Value} (N : s.heap.Ns b m) : (hidT s.heap (H0 (tsOf cs) a so u)).Ns b m := by
  obtain ⟨o, es, ep, e, d, rest⟩ := N
  refine ⟨o, es, ep, S.shown e (fun its n z => ?_) (fun z => ?_), d, rest⟩ <;> (rw [d] at z; cases z)
theorem Start.kin (S : Start K mg mb cs s a so) : K.In (hidT s.heap (H0 (tsOf cs) a so u)) := fun b o e => by
  refine hidT_get (S.kx b o e) (H0_non (fun z => ?_) fun z => ?_)
  · rw [z, S.nk] at e
    cases e
  · obtain ⟨p, hp, rfl⟩ := List.mem_map.mp z
    rw [S.noK p hp] at e
    cases e
theorem Start.mod (S : Start K mg mb cs s a so) : L2.Mod K mg (hidT s.heap (H0 (tsOf cs) a so u)) := by
  obtain ⟨mc, l1, l2⟩ := S.lim
  exact ⟨S.kin, S.names S.ns, ⟨mb, S.names S.nb, S.bb⟩, mc, S.names l1, l2⟩
theorem Start.tb (S : Start K mg mb cs s a so) (p : Addr × Addr) (hp : p ∈ cs) : TabB (hidT s.heap (H0 (tsOf cs) a so u)) mg p.1 p.2 := by
  have ht := S.tab p hp
  have ng : ∀ {b : Addr} {o : Obj}, s.heap.get? b = some o → (∃ es ep, o.data = .dict es ep) → b ≠ p.2 := fun e ⟨es, ep, d⟩ z => by
    rw [z, ht] at e
    cases e
    cases d
  refine ⟨?_, ?_, ?_⟩
  · obtain ⟨o, us, file, tf, flags, tg, inF, text, tt, e1, r1, r2, r3, rest⟩ := S.hd p hp
    refine ⟨o, us, file, tf, flags, tg, inF, text, tt, S.shown e1 (fun its n z => ?_) (fun z => ?_), r1, r2, r3, rest⟩
    · rw [r2] at z
      cases z
    · rw [r2] at z
      cases z
      simp at r3
  · obtain ⟨bm, ob, b1, b2, b3, b4, b5, b6⟩ := S.bm
    refine ⟨bm, ob, b1, b2, fun q => ?_, fun q => ?_, S.shown b3 (fun its n z => ?_) (fun z => ?_), b4, b5, b6⟩
    · obtain ⟨o, es, ep, e, d, _⟩ := S.ns
      rw [q, e] at b3
      cases b3
      rw [d] at b6
      cases b6
    · rw [q, ht] at b3
      cases b3
      cases b6
    · rw [b6] at z
      cases z
    · rw [b6] at z
      cases z
  · obtain ⟨o, es, ep, e, d, _⟩ := S.ns
    exact ng e ⟨es, ep, d⟩
theorem Start.env0 (S : Start K mg mb cs s a so) (hok : HOk P w (H0 (tsOf cs) a so u) s.heap) : Env0 P w K mg (hidT s.heap (H0 (tsOf cs) a so u)) callerA [] s (H0 (tsOf cs) a so u) where
  frames := rfl
  mod := S.mod
  bs := fun b o e => of_hidT e
  bsz := Nat.le_of_eq (hidT_size _ _)
  funs := trivial
  frf := fun b hb => nomatch (show b ∈ ([] : List Addr) from hb)
  hok := hok
  bare := .of_eq S.gens
/-- what stood before stands, the tables may have grown -/
theorem Start.old (S : Start K mg mb cs s a so) {s' : Shared} {H' : Hp} (hok : HOk P w (H0 (tsOf cs) a so u) s.heap) (un : Un (frs []) [] (H0 (tsOf cs) a so u) H' s.heap s'.heap) (hok' : HOk P w H' s'.heap) : OldK s.heap s'.heap := by
  have grown : ∀ b ∈ tsOf cs, ∃ more : Array Value, s'.heap.get? b = some { cls := .none, data := .fields more } := fun b hb => by
    have nb : b ≠ a := fun z => S.aT (z ▸ hb)
    obtain ⟨more, z⟩ := un.tbls b #[] (H0_tab nb hb)
    exact ⟨_, hok' b _ z⟩
  have kept : ∀ b o, b ∉ tsOf cs → s.heap.get? b = some o → s'.heap.get? b = some o := fun b o nb e => by
    by_cases hb : b = a
    · subst hb
      have z := H0_at (ts := tsOf cs) (a := b) (o := so) (u := u)
      have z2 := un.frzs b _ _ z
      obtain ⟨e1, _⟩ := hok b _ z
      obtain ⟨e2, _⟩ := hok' b _ z2
      rw [e] at e1
      cases e1
      exact e2
    · exact un.keep b o e (H0_non hb nb) (fun z => nomatch (show b ∈ ([] : List Addr) from z)) (by simp)
  refine ⟨fun b o e => ?_, fun b o e => ?_⟩
  · by_cases hb : b ∈ tsOf cs
    · obtain ⟨more, hm⟩ := grown b hb
      obtain ⟨p, hp, rfl⟩ := List.mem_map.mp hb
      rw [S.tab p hp] at e
      cases e
      exact .inr (.inl ⟨((S.hd p hp).tab (S.tab p hp)).isCodeTable, rfl, #[], more, rfl, by rw [Array.empty_append]; exact hm⟩)
    · exact .inl (kept b o hb e)
  · by_cases hb : b ∈ tsOf cs
    · obtain ⟨more, hm⟩ := grown b hb
      exact ⟨_, hm⟩
    · exact ⟨o, kept b o hb e⟩
end
theorem tabs_empty {T : List (Addr × Str)} {H : Hp} (h : ∀ p ∈ T, H p.1 = some (.tbl #[])) : LamX.Tabs T H := fun p hp => ⟨#[], h p hp, trivial, fun pos cv hc => by cases hc⟩
/-- the law's call gives True -/
theorem law_go {P : Program} {w : World} {K : PySem.W.Frag} {mg mb : Str → Option Value} {cs : List (Addr × Addr)} {s : Shared} {a fa : Addr} {k : Nat} {x : Str} {T : List (Addr × Str) × (Nat → Addr)} {g : List IV → Sto → RE IV} {vs : List Value} {ns : List Int}
    (S : Start K mg mb cs s a { cls := .type "list", data := .seq vs.toArray }) (hi : IntsAre vs ns) (hl : ns.length ≤ sizeLine) (hr : Room k callerA) (hT : ∀ p ∈ T.1, p.1 ∈ tsOf cs) (hfa : mg x = some (.ref fa))
    (hg : ∃ st', g [.ref 0] { os := [.frl (ns.map IV.int)], low := 0 } = .ok (.bl true) st')
    (D : ∀ base : Heap, K.In base → base.Ns mainGlobals mg → (∀ p ∈ cs, TabB base mg p.1 p.2) → DnG P w K mg base T k x 1 g) :
    codeAny (model P w) callerA (.call (.ref fa) ⟨[.ref a], []⟩) (fun r s' => r = .ok (.ret (.bool true)) ∧ OldK s.heap s'.heap ∧ s'.os = s.os ∧ AllBare s'.gens) s := by
  let o : Obj := { cls := .type "list", data := .seq vs.toArray }
  let u : HO := .lst (ns.map V.int)
  have hok : HOk P w (H0 (tsOf cs) a o u) s.heap := fun b z e => by
    rcases H0_cases e with ⟨rfl, rfl⟩ | ⟨nb, hb, rfl⟩
    · exact ⟨S.sg, by rw [List.length_map]; exact hl, vs, _, vals_ints hi, S.sg⟩
    · exact S.tab' hb
  have e0 := S.env0 hok
  have hH : ∀ b ∈ tsOf cs, H0 (tsOf cs) a o u b = some (.tbl #[]) := fun b hb => H0_tab (fun z => S.aT (z ▸ hb)) hb
  obtain ⟨f, fd, ps, hps, hf, hkp, hb, F⟩ := (D _ S.kin (S.names S.ns) S.tb).ex
  rw [hfa] at hf
  cases hf
  obtain ⟨st', hst⟩ := hg
  have hrd : Rd (H0 (tsOf cs) a o u) a (.lst (ns.map V.int)) := .inr ⟨o, H0_at⟩
  have reps : ∀ (H : Hp) (ρ : List Addr) (ns : List Int), RepVs K H ρ (ns.map IV.int) (ns.map V.int) := fun H ρ ns => by
    induction ns with
    | nil => exact .nil
    | cons n ns ih => exact .cons (.int n) ih
  have rel : Rel K (H0 (tsOf cs) a o u) [a] { os := [.frl (ns.map IV.int)], low := 0 } := by
    refine ⟨rfl, by simp, fun n ob b e1 e2 => ?_⟩
    cases n with
    | zero =>
      cases e1
      cases e2
      exact ⟨_, hrd, reps _ _ _⟩
    | succ n => cases e1
  have hsp : spI K T 1 g [.ref a] (H0 (tsOf cs) a o u) (fun v _ => v = .bl true) fun _ _ _ => False := by
    refine ⟨rfl, ⟨T.1, T.2, fun _ _ => True, fun _ _ _ => trivial⟩, [a], { os := [.frl (ns.map IV.int)], low := 0 }, [.ref 0], rfl, ⟨rel, tabs_empty fun p hp => hH _ (hT p hp), trivial⟩, .cons (.ref rfl) .nil, ?_⟩
    rw [hst]
    intro ρ' H' y _ _ py
    cases py
    rfl
  have bt := hb s [.ref a] S.kx (by simp [hps])
  have run := F.run callerA [] s _ ⟨[.ref a], []⟩ [.ref a] [.ref a] (fun v _ => v = .bl true) (fun _ _ _ => False) rfl hr e0 bt (.cons rfl .nil) hsp
  refine codeAny_mono run fun r s' h => ?_
  cases r with
  | error e =>
    obtain ⟨_, _, _, _, _, _, _, _, _, _, _, _, hf⟩ := h
    exact False.elim hf
  | ok fl =>
    cases fl with
    | next => exact False.elim h
    | brk => exact False.elim h
    | cont => exact False.elim h
    | ret v =>
      obtain ⟨y, H', os, bare, un, hok', rv, q⟩ := h
      obtain rfl : y = .bl true := q
      obtain rfl : v = Value.bool true := rv
      exact ⟨rfl, S.old hok un hok', os, bare⟩
end PI

set_option Elab.async false
set_option linter.all false
set_option maxRecDepth 100000
set_option maxHeartbeats 2000000
/-! PE3: exceptions, tables of lambdas, what _law_refuses wants: by one look. -/
namespace PI
open PySem PySem.Spec PyProof.Rows L2
open LamX (Tabs TabS CodeO ExtN TabB)
/-! ### an own exception over ValueError -/
def oexB (K : PySem.W.Frag) (C : Addr) : Bool := match K.lookup C with
  | some ⟨.type t, _, .cls cd, sl⟩ => (match cd.mro, sl.toList with
    | .ref C' :: bm, [_, _, _, _, some (.builtin n), _] => decide (t = "type") && (decide (C' = C) && (decide (n = "ValueError.__new__") && (!cd.hasDel && (cd.hasDict && PySem.HandSPX.refsVE bm))))
    | _, _ => false)
  | _ => false
theorem oexB_ok {K : PySem.W.Frag} {C : Addr} (h : oexB K C = true) : ∃ nm q N bs bm sn sub ab col dd k0 k1 k2 k3 k5, K.lookup C = some (excClassObj nm q C N bs bm true sn sub ab col dd k0 k1 k2 k3 k5 "ValueError.__new__") ∧ PySem.HandSPX.refsVE bm = true := by
  unfold oexB at h
  split at h
  · rename_i t dd cd sl e
    split at h
    · rename_i C' bm k0 k1 k2 k3 n k5 e1 e2
      simp only [Bool.and_eq_true, decide_eq_true_eq, Bool.not_eq_true'] at h
      obtain ⟨rfl, rfl, rfl, h4, h5, h6⟩ := h
      obtain ⟨nm, bs, mro, ns, qn, hd, sn, sb, ab, col, del⟩ := cd
      dsimp only at e1 h4 h5
      subst e1 h4 h5
      have esl : sl = #[k0, k1, k2, k3, some (.builtin "ValueError.__new__"), k5] := Array.toList_inj.mp e2
      subst esl
      exact ⟨nm, qn, ns, bs, bm, sn, sb, ab, col, dd, k0, k1, k2, k3, k5, e, h6⟩
    · cases h
  · cases h
def inA (K : PySem.W.Frag) (x : Str) : Addr := He.ma K (He.ga K x) "__init__"
abbrev FnI : Type := Option (Str × Str × Arguments × FuncBody × Scope × Addr × Value × Addr)
def inV (K : PySem.W.Frag) (x : Str) : FnI := match K.lookup (inA K x) with
  | some ⟨_, _, .func fd, _⟩ => some (fd.name, fd.qualname, fd.params, fd.body, fd.scope, fd.globals, fd.defaults, fd.builtins)
  | _ => none
def inW (x : Str) (st : Stmt) : FnI := some ("__init__", x ++ ".__init__", defArgs st, .stmts (defBody st), defScope st, mainGlobals, .none, builtinsNs)
def inB (file : Str) (K : PySem.W.Frag) (x : Str) : Bool := match K.lookup (inA K x) with
  | some ⟨_, _, .func fd, _⟩ => (match fd.closure, fd.code with
    | [(n, cc)], .ref cda => decide (n = "__class__") && (PySem.W.codeIn K (.ref cda) (x ++ ".__init__") && ((match K.lookup cc with
      | some ⟨_, _, .cell (some (.ref D)), _⟩ => decide (D = He.ga K x)
      | _ => false) && (match K.lookup cda with
        | some ⟨_, _, .fields vs, _⟩ => (match (vs[2]? : Option Value) with
          | some (.str f _) => file == f
          | _ => false)
        | _ => false)))
    | _, _ => false)
  | _ => false
theorem inB_ok {file : Str} {K : PySem.W.Frag} {x : Str} {st : Stmt} (c : inB file K x = true) (e : inV K x = inW x st) :
    ∃ oc od osl kV doc pm an cda ct cc, K.lookup (inA K x) = some ⟨oc, od, .func (PySem.W.ksFn "__init__" (x ++ ".__init__") (defArgs st) (defBody st) (defScope st) .none kV doc pm an (.ref cda) ct cc), osl⟩ ∧ PySem.W.codeIn K (.ref cda) (x ++ ".__init__") = true ∧
      (∃ cl cld csl, K.lookup cc = some ⟨cl, cld, .cell (some (.ref (He.ga K x))), csl⟩) ∧ ∃ ccl cdd vs ccs f tf, K.lookup cda = some ⟨ccl, cdd, .fields vs, ccs⟩ ∧ vs[2]? = some (.str f tf) ∧ (file == f) = true := by
  unfold inB at c
  unfold inV inW at e
  split at c
  · rename_i oc od fd osl lk
    rw [lk] at e
    obtain ⟨n1, n2, n3, n4, n5, n6, n7, n8, n9, n10, n11, n12, n13, n14, n15⟩ := fd
    dsimp only at c e
    simp only [Option.some.injEq, Prod.mk.injEq] at e
    obtain ⟨rfl, rfl, rfl, rfl, rfl, rfl, rfl, rfl⟩ := e
    split at c
    · rename_i n cc cda
      obtain ⟨c1, c⟩ := He.ba c
      obtain ⟨c2, c⟩ := He.ba c
      obtain ⟨c3, c4⟩ := He.ba c
      obtain rfl : n = "__class__" := of_decide_eq_true c1
      refine ⟨oc, od, osl, _, _, _, _, cda, _, cc, lk, c2, ?_, ?_⟩
      · split at c3
        · rename_i cl cld D csl l
          obtain rfl : D = _ := of_decide_eq_true c3
          exact ⟨cl, cld, csl, l⟩
        · cases c3
      · split at c4
        · rename_i ccl cdd vs ccs l
          split at c4
          · rename_i f tf l2
            exact ⟨ccl, cdd, vs, ccs, f, tf, l, l2, c4⟩
          · cases c4
        · cases c4
    · cases c
  · cases c
/-- the written __init__ -/
structure InitT (st : Stmt) (par fld : Str) : Prop where
  ex : ∃ (q0 q1 q2 q3 q4 q5 q6 q7 q8 q9 : Pos) (msg : Str) (j : Nat) (pl : Sem Bool), defBody st = [.Expr (.Call (.Attribute (.Call (.Name "super" q0) [] [] q1) "__init__" q2) [.Constant (.str msg) j q3] [] q4) q5, .Assign [.Attribute (.Name "self" q6) fld q7] (.Name par q8) q9] ∧
    (∀ env, eval (.Call (.Attribute (.Call (.Name "super" q0) [] [] q1) "__init__" q2) [.Constant (.str msg) j q3] [] q4) env = (do
      let ov ← attributeBase (.Call (.Name "super" q0) [] [] q1) "__init__" env (eval (.Call (.Name "super" q0) [] [] q1) env)
      standAt q2.atName
      let (f, first) ← holding [ov] (getMethod ov "__init__" pl)
      callWith q4 f first (backTo q4 (starEach [.Constant (.str msg) j q3] env)) [])) ∧
    (∀ env, swapsWith (.Name par q8) (some (.Attribute (.Name "self" q6) fld q7)) q9.line env = pure false) ∧ (∀ env, swapsWith (.Call (.Attribute (.Call (.Name "super" q0) [] [] q1) "__init__" q2) [.Constant (.str msg) j q3] [] q4) none q5.line env = pure false)
  arg : ∃ ar, ((defArgs st).posonlyargs ++ (defArgs st).args).head? = some ar ∧ ar.arg = "self"
  bind : ∀ (q : Str) (kV doc pm cdv ct : Value) (an : Option Addr) (cc : Addr) (us : List Value), us.length = 2 → bindArgs (PySem.W.ksFn "__init__" q (defArgs st) (defBody st) (defScope st) .none kV doc pm an cdv ct cc) ⟨us, []⟩ = pure ([("self" : Str), par].zip us)
  kS : (defScope st).names.lookup ("super" : Str) = some .globalImplicit
  kC : (defScope st).names.lookup ("__class__" : Str) = some .free
  kSelf : (defScope st).names.lookup ("self" : Str) = some .local
  kPar : (defScope st).names.lookup par = some .local
  kind : (defScope st).kind = .function
  co : (defScope st).isCoroutine = false
  gen : (defScope st).isGenerator = false
  noCell : ∀ x ∈ (defScope st).names, x.2 ≠ .cell
  ne : par ≠ "self"
  nd : (par == ("__debug__" : Str)) = false
def exB (file : Str) (K : PySem.W.Frag) (x fld : Str) : Bool :=
  (He.Fa.glo x).ok K && (oexB K (He.ga K x) && (He.eqO (PySem.W.findIn K (.ref (He.ga K x)) "__setattr__") (some (some (.builtin "object.__setattr__"))) && (decide (PySem.W.subIn K (.ref (He.ga K x)) (.type "BaseException") = some true) &&
    (decide (PySem.W.typeIn K (.ref (He.ga K x)) = some (.type "type")) && (PySem.W.keepIn K (.ref (He.ga K x)) && (PySem.W.excInitIn K (He.ga K x) PySem.HandSPX.veTail "ValueError.__new__" &&
    (He.eqO (PySem.W.ks_superIn K (He.ga K x) (He.ga K x) "__init__") (some (some (.builtin "ValueError.__init__"))) && (decide (PySem.W.subIn K (.ref (He.ga K x)) (.type "ValueError") = some true) &&
    (He.eqO (PySem.W.nsIn K cStatics "thirdparty.any") (some none) && (He.eqO (PySem.W.findIn K (.ref (He.ga K x)) fld) (some none) && (He.eqO (PySem.W.findIn K (.ref (He.ga K x)) "__init__") (some (some (.ref (inA K x)))) &&
    (decide (PySem.W.typeIn K (.ref (inA K x)) = some (.type "function")) && (decide (PySem.W.mroIn K (He.ga K x) (.ref (He.ga K x)) = some true) && (inB file K x && (xfB K (He.ga K x) && decide (PySem.W.exmOne K (.ref (He.ga K x)) (.ref (He.ga K x)) = some true))))))))))))))))
section
variable {P : Program} {w : World} {K : PySem.W.Frag} {h base : Heap} {mg : Str → Option Value} {cm : Nat → Addr} {lb : Nat} {x fld par : Str} {st : Stmt}
theorem xn_of (X : K.In h) (G : h.Ns mainGlobals mg) (hcm : cm lb = He.ga K x) (c : exB P.main.file K x fld = true) (e : inV K x = inW x st) (T : InitT st par fld) (hS : mg "super" = none) (hT : (P.main.scope.names.lookup ("super" : Str)).isSome = false) :
    Xn P w K mg base cm lb x fld ∧ Xc K mg cm lb x fld := by
  obtain ⟨c1, c⟩ := He.ba c
  obtain ⟨c2, c⟩ := He.ba c
  obtain ⟨c3, c⟩ := He.ba c
  obtain ⟨c4, c⟩ := He.ba c
  obtain ⟨c5, c⟩ := He.ba c
  obtain ⟨c6, c⟩ := He.ba c
  obtain ⟨c7, c⟩ := He.ba c
  obtain ⟨c8, c⟩ := He.ba c
  obtain ⟨c9, c⟩ := He.ba c
  obtain ⟨c10, c⟩ := He.ba c
  obtain ⟨c11, c⟩ := He.ba c
  obtain ⟨c12, c⟩ := He.ba c
  obtain ⟨c13, c⟩ := He.ba c
  obtain ⟨c14, c⟩ := He.ba c
  obtain ⟨c15, c⟩ := He.ba c
  obtain ⟨c16, c17⟩ := He.ba c
  obtain ⟨oc, od, osl, kV, doc, pm, an, cda, ct, cc, lk, hcd, hcell, hcode⟩ := inB_ok c15 e
  obtain ⟨q0, q1, q2, q3, q4, q5, q6, q7, q8, q9, msg, j, pl, hbo, he, hs, hs0⟩ := T.ex
  have O : OexC K (He.ga K x) := ⟨oexB_ok c2, He.eqO_ok c3, of_decide_eq_true c4, of_decide_eq_true c5, c6⟩
  have hcl : ∃ cd, PySem.W.clsIn K (He.ga K x) = some cd := by
    obtain ⟨nm, q, N, bs, bm, sn, sub, ab, col, dd, k0, k1, k2, k3, k5, l, _⟩ := oexB_ok c2
    exact ⟨_, by unfold PySem.W.clsIn; rw [l] <;> rfl⟩
  have S : SupI P K mg (inA K x) cc cda (He.ga K x) (He.ga K x) (defScope st) par fld := ⟨O, c7, He.eqO_ok c8, of_decide_eq_true c9, He.eqO_ok c10, He.eqO_ok c11, hcode, hcell, hcl, of_decide_eq_true c14, hT, hS, T.kS, T.kC, T.kSelf, T.kPar, T.kind, T.co, T.gen, T.noCell, T.ne, T.nd⟩
  have hb : L2.Binds K (PySem.W.ksFn "__init__" (x ++ ".__init__") (defArgs st) (defBody st) (defScope st) .none kV doc pm an (.ref cda) ct cc) ["self", par] [] := .all fun us hl => T.bind _ _ _ _ _ _ _ _ us hl
  exact ⟨⟨He.ga K x, inA K x, _, _, hcm, He.glo_ok X G c1, O, He.eqO_ok c12, of_decide_eq_true c13, hb, sup_init (k := 0) hbo lk hcd S T.arg he hs hs0⟩, ⟨He.ga K x, hcm, He.glo_ok X G c1, xfB_ok c16, He.eqO_ok c11, of_decide_eq_true c17⟩⟩
/-! ### what told wants -/
theorem tn_of {f : Str} {sf : Stmt} {a due e' : Str} (X : K.In h) (G : h.Ns mainGlobals mg) (c : fnB K f = true) (e : He.fnObs K (f, none) = fnV f sf) (Y : Xc K mg cm lb x fld) (hR : mg ("repr" : Str) = none) : Tn P K mg cm lb f x fld sf a due e' :=
  ⟨fun_of' X G c e, Y.ex, hR⟩
/-! ### tables of lambdas -/
def tbA (K : PySem.W.Frag) (x : Str) : Addr := match K.lookup (cdA K x) with
  | some ⟨_, _, .fields vs, _⟩ => (match (vs[11]? : Option Value) with
    | some (.ref p) => p
    | _ => 0)
  | _ => 0
/-- the def's code object, its table: known where the table stands, not the table -/
def tabB (K : PySem.W.Frag) (x : Str) : Bool := (He.Fa.glo x).ok K && ((match K.lookup (He.ga K x) with
  | some ⟨_, _, .func fd, _⟩ => (match fd.code with
    | .ref c => (match K.lookup c with
      | some ⟨_, _, .fields vs, _⟩ => (match (vs[11]? : Option Value) with
        | some (.ref _) => true
        | _ => false)
      | _ => false)
    | _ => false)
  | _ => false) && (K.lookup (tbA K x)).isNone)
/-- what the ground says of a def's table -/
def TabAt (mg : Str → Option Value) (h : Heap) (x : Str) : Prop := ∃ a o fd c P, mg x = some (.ref a) ∧ h.get? a = some o ∧ o.data = .func fd ∧ fd.code = .ref c ∧ h.IsCode c P #[] ∧ h.TableAt c P #[]
theorem tab_of (X : K.In h) (G : h.Ns mainGlobals mg) (c : tabB K x = true) (T : TabAt mg h x) : h.get? (tbA K x) = some tabObj ∧ K.lookup (tbA K x) = none ∧ PySem.W.CodeHd h (cdA K x) (tbA K x) := by
  obtain ⟨c1, c⟩ := He.ba c
  obtain ⟨c2, c3⟩ := He.ba c
  have hg := He.glo_ok X G c1
  obtain ⟨a, o, fd, cc, PP, h1, h2, h3, h4, h5, h6⟩ := T
  rw [hg] at h1
  cases h1
  refine ⟨?_, Option.isNone_iff_eq_none.mp c3, ?_⟩
  all_goals
    split at c2
    · rename_i oc od fd' osl lk
      have g1 := X _ _ lk
      rw [g1] at h2
      cases h2
      cases h3
      rw [h4] at c2
      dsimp only at c2
      have ec : cdA K x = cc := by unfold cdA; rw [lk]; dsimp only; rw [h4]
      split at c2
      · rename_i o2 d2 vs s2 lk2
        split at c2
        · rename_i p ep
          have et : tbA K x = p := by unfold tbA; rw [ec, lk2]; dsimp only; rw [ep]
          have g2 := X _ _ lk2
          have hcd := PySem.W.CodeHd.of h5 h6
          obtain ⟨⟨o', vs', f1, f2, f3, f4⟩, hP⟩ := h6
          rw [g2] at f1
          cases f1
          cases f3
          rw [ep] at f4
          cases f4
          rw [et]
          first
            | exact hP
            | (rw [ec]; exact hcd)
        · cases c2
      · cases c2
    · cases c2
end
end PI

set_option Elab.async false
set_option linter.all false
set_option maxRecDepth 100000
set_option maxHeartbeats 2000000
/-! PE4: the head's Hook, the law's walk. -/
namespace PI
open PySem PySem.Spec PyProof.Rows L2
open LamX (Tabs TabS CodeO ExtN TabB)
/-- what is looked at: facts by names; defs; exception classes with their __init__; defs that hold lambdas -/
structure HD where
  file : Str
  fas : List He.Fa
  consts : List (Str × IV)
  defs : List (Str × Stmt)
  excs : List (Str × Str × Stmt)
  lams : List Str
def noLst (K : PySem.W.Frag) : Bool := K.all fun p => match p.2.cls with
  | .type t => !decide (t = "list")
  | _ => true
def distB : List Addr → Bool
  | [] => true
  | a :: as => as.all (fun b => !Nat.beq a b) && distB as
def okHD (D : HD) (K : PySem.W.Frag) : Bool := (D.fas.all (fun f => f.ok K) && D.consts.all (fun p => constB K p.1 p.2)) && (D.defs.all (fun p => fnB K p.1) && (D.excs.all (fun p => exB D.file K p.1 p.2.1) && (D.lams.all (fun x => tabB K x) && (distB (D.lams.map (tbA K)) && noLst K))))
abbrev AlN : Type := Bool × List He.FnV × List FnI
def obsK (D : HD) (K : PySem.W.Frag) : AlN := (okHD D K, D.defs.map fun p => He.fnObs K (p.1, none), D.excs.map fun p => inV K p.1)
def obsN (D : HD) (g : Look) : AlN := obsK D (kN g)
def valN (D : HD) : AlN := (true, D.defs.map fun p => fnV p.1 p.2, D.excs.map fun p => inW p.1 p.2.2)
def hookN (D : HD) : PySem.W.Hook where
  α := AlN
  obs := fun s => obsN D s.heap.get?
  val := fun _ => valN D
  says := fun _ h => ∃ K : PySem.W.Frag, K.In h ∧ obsK D K = valN D
  of := fun _ _ e => ⟨_, kN_in, e⟩
  keeps := fun _ _ _ ⟨K, hK, c⟩ k => ⟨K, PySem.W.Frag.In.keeps hK k, c⟩
def obT (D : HD) (s : PySem.W.SharedT) : AlN := obsN D (HandSHeadRun.getT s)
theorem obT_eq (D : HD) (s : PySem.W.SharedT) : obT D s = (hookN D).obs s.abs := by
  have e : HandSHeadRun.getT s = s.abs.heap.get? := funext (HandSHeadRun.getT_eq s)
  show obsN D (HandSHeadRun.getT s) = obsN D s.abs.heap.get?
  rw [e]
section
variable {D : HD} {K : PySem.W.Frag}
theorem hd_ok (c : obsK D K = valN D) : okHD D K = true := congrArg (fun z : AlN => z.1) c
theorem hd_fa (c : obsK D K = valN D) (i : Nat) {f : He.Fa} (h : D.fas[i]? = some f := by rfl) : f.ok K = true := List.all_eq_true.mp (He.ba (He.ba (hd_ok c)).1).1 f (List.mem_of_getElem? h)
theorem hd_const (c : obsK D K = valN D) (i : Nat) {x : Str} {v : IV} (h : D.consts[i]? = some (x, v) := by rfl) : constB K x v = true := List.all_eq_true.mp (He.ba (He.ba (hd_ok c)).1).2 _ (List.mem_of_getElem? h)
theorem hd_fn (c : obsK D K = valN D) (i : Nat) {x : Str} {st : Stmt} (h : D.defs[i]? = some (x, st) := by rfl) : fnB K x = true ∧ He.fnObs K (x, none) = fnV x st := by
  have c1 := (He.ba (He.ba (hd_ok c)).2).1
  have e : D.defs.map (fun p => He.fnObs K (p.1, none)) = D.defs.map fun p => fnV p.1 p.2 := congrArg (fun z : AlN => z.2.1) c
  have e2 : (D.defs.map fun p => He.fnObs K (p.1, none))[i]? = (D.defs.map fun p => fnV p.1 p.2)[i]? := by rw [e]
  rw [List.getElem?_map, List.getElem?_map, h] at e2
  exact ⟨List.all_eq_true.mp c1 _ (List.mem_of_getElem? h), Option.some.inj e2⟩
theorem hd_ex (c : obsK D K = valN D) (i : Nat) {x fld : Str} {st : Stmt} (h : D.excs[i]? = some (x, fld, st) := by rfl) : exB D.file K x fld = true ∧ inV K x = inW x st := by
  have c1 := (He.ba (He.ba (He.ba (hd_ok c)).2).2).1
  have e : D.excs.map (fun p => inV K p.1) = D.excs.map fun p => inW p.1 p.2.2 := congrArg (fun z : AlN => z.2.2) c
  have e2 : (D.excs.map fun p => inV K p.1)[i]? = (D.excs.map fun p => inW p.1 p.2.2)[i]? := by rw [e]
  rw [List.getElem?_map, List.getElem?_map, h] at e2
  exact ⟨List.all_eq_true.mp c1 _ (List.mem_of_getElem? h), Option.some.inj e2⟩
theorem hd_tab (c : obsK D K = valN D) {x : Str} (h : x ∈ D.lams) : tabB K x = true := List.all_eq_true.mp (He.ba (He.ba (He.ba (He.ba (hd_ok c)).2).2).2).1 x h
theorem hd_dist (c : obsK D K = valN D) : distB (D.lams.map (tbA K)) = true := (He.ba (He.ba (He.ba (He.ba (He.ba (hd_ok c)).2).2).2).2).1
theorem hd_noLst (c : obsK D K = valN D) {a : Addr} {o : Obj} (e : K.lookup a = some o) : o.cls ≠ .type "list" := by
  have h := (He.ba (He.ba (He.ba (He.ba (He.ba (hd_ok c)).2).2).2).2).2
  have m : ∀ (l : PySem.W.Frag), l.lookup a = some o → (a, o) ∈ l := fun l => by
    induction l with
    | nil => exact fun e => nomatch (show (none : Option Obj) = some o from e)
    | cons p r ih =>
      intro e
      obtain ⟨b, ob⟩ := p
      by_cases hb : a = b
      · subst hb
        have e' : some ob = some o := by simpa [List.lookup] using e
        cases e'
        exact List.mem_cons_self
      · have hb' : (a == b) = false := by simpa using hb
        have e' : r.lookup a = some o := by simpa [List.lookup, hb'] using e
        exact List.mem_cons_of_mem _ (ih e')
  have := List.all_eq_true.mp h _ (m K e)
  intro z
  dsimp only at this
  rw [z] at this
  simp at this
end
/-- code objects and tables of the defs that hold lambdas -/
def csOf (K : PySem.W.Frag) (lams : List Str) : List (Addr × Addr) := lams.map fun x => (cdA K x, tbA K x)
def lamT (K : PySem.W.Frag) (lams : List Str) : List (Addr × Str) := lams.map fun x => (tbA K x, ((x ++ ".<locals>.") : Str) ++ "<lambda>")
theorem distB_inj : ∀ {l : List Addr}, distB l = true → l.Nodup
  | [], _ => .nil
  | a :: as, h => by
    obtain ⟨h1, h2⟩ := He.ba h
    refine List.nodup_cons.mpr ⟨fun z => ?_, distB_inj h2⟩
    have := List.all_eq_true.mp h1 a z
    simp at this
theorem tb_of {D : HD} {K : PySem.W.Frag} {base : Heap} {mg : Str → Option Value} {x : Str} (c : obsK D K = valN D) (hx : x ∈ D.lams) (hb : ∀ p ∈ csOf K D.lams, TabB base mg p.1 p.2) : Tb base mg (lamT K D.lams) (cdA K x) (((x ++ ".<locals>.") : Str) ++ "<lambda>") := by
  refine ⟨tbA K x, hb (cdA K x, tbA K x) (List.mem_map.mpr ⟨x, hx, rfl⟩), List.mem_map.mpr ⟨x, hx, rfl⟩, fun p hp e => ?_⟩
  obtain ⟨y, hy, rfl⟩ := List.mem_map.mp hp
  have nd := distB_inj (hd_dist c)
  have : y = x := by
    obtain ⟨i, hi, ei⟩ := List.getElem_of_mem hx
    obtain ⟨j, hj, ej⟩ := List.getElem_of_mem hy
    have e1 : (D.lams.map (tbA K))[i]? = some (tbA K x) := by rw [List.getElem?_map, List.getElem?_eq_getElem hi, ei]; rfl
    have e2 : (D.lams.map (tbA K))[j]? = some (tbA K x) := by rw [List.getElem?_map, List.getElem?_eq_getElem hj, ej]; exact congrArg some e
    have := nodup_get nd e1 e2
    subst this
    rw [← ei, ← ej]
  rw [this]
/-- a law over such a head -/
theorem walk_G {l : PySem.W.OpenLaw} {n k : Nat} {q : Program} {loose : List Str} {XP : (Str → Option Value) → Heap → Prop} {d : DefRec} {D : HD} {g : List IV → Sto → RE IV} {T : PySem.W.Frag → List (Addr × Str) × (Nat → Addr)}
    (hn : l.most = some n) (hn2 : n ≤ sizeLine) (hdf : d.params.defaults = []) (hr : Room k callerA) (hrec : ∀ x ∈ D.lams, ((recsOf q).any fun e => e.name == x) = true) (hT : ∀ K, (T K).1 = lamT K D.lams)
    (hg : ∀ ns : List Int, (∀ z ∈ ns, Builtin.Int.intBits z ≤ 1048576) → ∃ st', g [.ref 0] { os := [.frl (ns.map IV.int)], low := 0 } = .ok (.bl true) st')
    (F : ∀ (w : World) (K : PySem.W.Frag) (mg : Str → Option Value) (base : Heap), K.In base → base.Ns mainGlobals mg → obsK D K = valN D → (∀ p ∈ csOf K D.lams, TabB base mg p.1 p.2) → DnG l.prog w K mg base (T K) k d.name 1 g) :
    PySem.W.WalkO q loose XP (hookN D).says l.row.toRowW d [] (fun f vs => PySem.call f vs) := by
  refine Att.attach_callB hn hdf fun w s₀ s₁ mg mb fa o pm cd doc a vs ns G Y ho hd hcd hmg hobj hints hlen hbits hgn => ?_
  obtain ⟨K, KX, c⟩ := Y
  have tabs : ∀ x ∈ D.lams, s₁.heap.get? (tbA K x) = some tabObj ∧ K.lookup (tbA K x) = none ∧ PySem.W.CodeHd s₁.heap (cdA K x) (tbA K x) := fun x hx => by
    refine tab_of KX G.T.g (hd_tab c hx) ?_
    obtain ⟨dL, hm, hn1⟩ := List.any_eq_true.mp (hrec x hx)
    obtain rfl : dL.name = x := beq_iff_eq.mp hn1
    exact G.T.tab dL hm
  have mem : ∀ p ∈ csOf K D.lams, ∃ x ∈ D.lams, p = (cdA K x, tbA K x) := fun p hp => by
    obtain ⟨x, hx, e⟩ := List.mem_map.mp hp
    exact ⟨x, hx, e.symm⟩
  have S : Start K mg mb (csOf K D.lams) s₁ a { cls := .type "list", data := .seq vs.toArray } :=
    { kx := KX, ns := G.T.g, nb := G.T.b, bb := G.T.builtins, lim := G.T.nolimit, gens := hgn, tab := fun p hp => by obtain ⟨x, hx, rfl⟩ := mem p hp; exact (tabs x hx).1, noK := fun p hp => by obtain ⟨x, hx, rfl⟩ := mem p hp; exact (tabs x hx).2.1,
      hd := fun p hp => by obtain ⟨x, hx, rfl⟩ := mem p hp; exact (tabs x hx).2.2, bm := G.T.bmain, sg := hobj, sd := ⟨_, _, rfl⟩, nk := by
        cases e : K.lookup a with
        | none => rfl
        | some o =>
          have h2 := KX _ _ e
          rw [hobj] at h2
          cases h2
          exact absurd rfl (hd_noLst c e) }
  exact law_go S hints (Nat.le_trans hlen hn2) hr (T := T K) (fun p hp => by
      rw [hT K] at hp
      obtain ⟨x, hx, rfl⟩ := List.mem_map.mp hp
      exact List.mem_map.mpr ⟨(cdA K x, tbA K x), List.mem_map.mpr ⟨x, hx, rfl⟩, rfl⟩) hmg (hg ns hbits) fun base h1 h2 h3 => F w K mg base h1 h2 c h3
end PI

set_option Elab.async false
set_option linter.all false
set_option maxRecDepth 100000
set_option maxHeartbeats 0
namespace law_k01
open PySem PySem.Spec PyProof.Rows L2 PI
open LamX (TabB)
def initS (i : Nat) : Stmt := match topS i with
  | .ClassDef _ _ _ b _ _ _ _ _ _ _ => b.getD 0 (.Pass ⟨0, 0, 0, 0⟩)
  | _ => .Pass ⟨0, 0, 0, 0⟩
abbrev R : PySem.W.OpenRow := PySem.W.OpenLaw.row PySem.Challenge.rw_noclicks_k01_whole_fractions
def names0 : List (List PySem.Str) := [["SoundError", "BadThing", "TooGreat", "LETTERS", "FIGURES", "MOST", "is_whole", "is_from", "is_many", "is_name", "common", "is_fraction", "is_small", "NONE", "lean", "check_fractions", "fraction_of", "plus", "times", "over"], ["less", "total", "sum_of", "product_of", "quotient_of", "is_less", "part_of", "_law_cell_at", "_law_draw", "_law_number", "_law_next", "_law_pick", "_law_refuses", "_law_common", "_law_lean", "_law_plus", "_law_times", "_law_total"]]
def names : List PySem.Str := names0.flatten
abbrev qv : Program := PySem.W.view R.prog [42, 43]
def defs0 : List (List (PySem.Str × Stmt)) := [[("is_whole", s_is_whole), ("is_from", s_is_from), ("is_many", s_is_many), ("is_name", s_is_name), ("common", s_common), ("is_fraction", s_is_fraction), ("is_small", s_is_small), ("lean", s_lean), ("check_fractions", s_check_fractions), ("fraction_of", s_fraction_of), ("plus", s_plus), ("times", s_times), ("over", s_over), ("less", s_less), ("total", s_total), ("sum_of", s_sum_of), ("product_of", s_product_of), ("quotient_of", s_quotient_of), ("is_less", s_is_less), ("part_of", s_part_of)], [("_law_cell_at", s__law_cell_at), ("_law_draw", s__law_draw), ("_law_number", s__law_number), ("_law_next", s__law_next), ("_law_pick", s__law_pick), ("_law_common", s__law_common), ("_law_lean", s__law_lean), ("_law_plus", s__law_plus), ("_law_times", s__law_times), ("_law_total", s__law_total), ("_law_refused_right", s__law_refused_right), ("law", s_law), ("_law_refuses", s__law_refuses)]]
def D : HD where
  file := PySem.Challenge.pw_noclicks_k01_whole_fractions.main.file
  fas := [.free "abs", .free "all", .free "bool", .free "int", .free "isinstance", .free "len", .free "range", .free "repr", .free "str", .free "tuple", .free "super"]
  consts := [("FIGURES", g_FIGURES), ("LETTERS", g_LETTERS), ("MOST", g_MOST), ("NONE", g_NONE)]
  defs := defs0.flatten
  excs := [("BadThing", "thing", initS 2), ("TooGreat", "most", initS 3)]
  lams := ["_law_refused_right", "law"]
def TT (K : PySem.W.Frag) : List (Addr × Str) × (Nat → Addr) := (lamT K ["_law_refused_right", "law"], fun i => match i with | 1 => He.ga K "BadThing" | 2 => He.ga K "TooGreat" | _ => 0)
def co (K : PySem.W.Frag) : Nat → Addr := fun i => match i with | 42 => cdA K "_law_refused_right" | 43 => cdA K "law" | _ => 0
theorem it_BadThing : InitT (initS 2) "thing" "thing" := ⟨⟨_, _, _, _, _, _, _, _, _, _, _, _, _, rfl, fun _ => rfl, fun _ => rfl, fun _ => rfl⟩, ⟨_, rfl, rfl⟩, fun _ _ _ _ _ _ _ _ us hl => match us, hl with | [_, _], _ => rfl, rfl, rfl, rfl, rfl, rfl, rfl, rfl, by decide +kernel, by decide, by decide⟩
theorem it_TooGreat : InitT (initS 3) "most" "most" := ⟨⟨_, _, _, _, _, _, _, _, _, _, _, _, _, rfl, fun _ => rfl, fun _ => rfl, fun _ => rfl⟩, ⟨_, rfl, rfl⟩, fun _ _ _ _ _ _ _ _ us hl => match us, hl with | [_, _], _ => rfl, rfl, rfl, rfl, rfl, rfl, rfl, rfl, by decide +kernel, by decide, by decide⟩
theorem hd_all {w : World} {K : PySem.W.Frag} {mg : PySem.Str → Option Value} {base : Heap} (X : K.In base) (G : base.Ns mainGlobals mg) (c : obsK D K = valN D) (hb : ∀ p ∈ csOf K D.lams, TabB base mg p.1 p.2) : Hd PySem.Challenge.pw_noclicks_k01_whole_fractions w K mg base (TT K) (co K) := by
  have b_super := He.free_ok X G (hd_fa c 10)
  have e_BadThing := fun (base : Heap) => xn_of (P := PySem.Challenge.pw_noclicks_k01_whole_fractions) (w := w) (base := base) (cm := (TT K).2) (lb := 1) X G rfl (hd_ex c 0).1 (hd_ex c 0).2 it_BadThing b_super rfl
  have e_TooGreat := fun (base : Heap) => xn_of (P := PySem.Challenge.pw_noclicks_k01_whole_fractions) (w := w) (base := base) (cm := (TT K).2) (lb := 2) X G rfl (hd_ex c 1).1 (hd_ex c 1).2 it_TooGreat b_super rfl
  exact {
    b_abs := He.free_ok X G (hd_fa c 0),
    b_all := He.free_ok X G (hd_fa c 1),
    b_bool := He.free_ok X G (hd_fa c 2),
    b_int := He.free_ok X G (hd_fa c 3),
    b_isinstance := He.free_ok X G (hd_fa c 4),
    b_len := He.free_ok X G (hd_fa c 5),
    b_range := He.free_ok X G (hd_fa c 6),
    b_repr := He.free_ok X G (hd_fa c 7),
    b_str := He.free_ok X G (hd_fa c 8),
    b_tuple := He.free_ok X G (hd_fa c 9),
    c_FIGURES := gc_of X G (hd_const c 0),
    c_LETTERS := gc_of X G (hd_const c 1),
    c_MOST := gc_of X G (hd_const c 2),
    c_NONE := gc_of X G (hd_const c 3),
    x_BadThing := (e_BadThing base).1,
    x_TooGreat := (e_TooGreat base).1,
    f_is_whole := fun_of' X G (hd_fn c 0).1 (hd_fn c 0).2,
    f_is_from := fun_of' X G (hd_fn c 1).1 (hd_fn c 1).2,
    f_is_many := fun_of' X G (hd_fn c 2).1 (hd_fn c 2).2,
    f_is_name := fun_of' X G (hd_fn c 3).1 (hd_fn c 3).2,
    f_common := fun_of' X G (hd_fn c 4).1 (hd_fn c 4).2,
    f_is_fraction := fun_of' X G (hd_fn c 5).1 (hd_fn c 5).2,
    f_is_small := fun_of' X G (hd_fn c 6).1 (hd_fn c 6).2,
    f_lean := fun_of' X G (hd_fn c 7).1 (hd_fn c 7).2,
    f_check_fractions := fun_of' X G (hd_fn c 8).1 (hd_fn c 8).2,
    f_fraction_of := fun_of' X G (hd_fn c 9).1 (hd_fn c 9).2,
    f_plus := fun_of' X G (hd_fn c 10).1 (hd_fn c 10).2,
    f_times := fun_of' X G (hd_fn c 11).1 (hd_fn c 11).2,
    f_over := fun_of' X G (hd_fn c 12).1 (hd_fn c 12).2,
    f_less := fun_of' X G (hd_fn c 13).1 (hd_fn c 13).2,
    f_total := fun_of' X G (hd_fn c 14).1 (hd_fn c 14).2,
    f_sum_of := fun_of' X G (hd_fn c 15).1 (hd_fn c 15).2,
    f_product_of := fun_of' X G (hd_fn c 16).1 (hd_fn c 16).2,
    f_quotient_of := fun_of' X G (hd_fn c 17).1 (hd_fn c 17).2,
    f_is_less := fun_of' X G (hd_fn c 18).1 (hd_fn c 18).2,
    f_part_of := fun_of' X G (hd_fn c 19).1 (hd_fn c 19).2,
    f__law_cell_at := fun_of' X G (hd_fn c 20).1 (hd_fn c 20).2,
    f__law_draw := fun_of' X G (hd_fn c 21).1 (hd_fn c 21).2,
    f__law_number := fun_of' X G (hd_fn c 22).1 (hd_fn c 22).2,
    f__law_next := fun_of' X G (hd_fn c 23).1 (hd_fn c 23).2,
    f__law_pick := fun_of' X G (hd_fn c 24).1 (hd_fn c 24).2,
    f__law_common := fun_of' X G (hd_fn c 25).1 (hd_fn c 25).2,
    f__law_lean := fun_of' X G (hd_fn c 26).1 (hd_fn c 26).2,
    f__law_plus := fun_of' X G (hd_fn c 27).1 (hd_fn c 27).2,
    f__law_times := fun_of' X G (hd_fn c 28).1 (hd_fn c 28).2,
    f__law_total := fun_of' X G (hd_fn c 29).1 (hd_fn c 29).2,
    f__law_refused_right := fun_of X G (hd_fn c 30).1 (hd_fn c 30).2,
    f_law := fun_of X G (hd_fn c 31).1 (hd_fn c 31).2,
    t__law_refused_right := tb_of c List.mem_cons_self hb,
    t_law := tb_of c (List.mem_cons_of_mem _ List.mem_cons_self) hb,
    y_TooGreat := (e_TooGreat base).2,
    o__law_refuses := tn_of X G (hd_fn c 32).1 (hd_fn c 32).2 (e_BadThing base).2 (He.free_ok X G (hd_fa c 7)) }
end law_k01

set_option Elab.async false
set_option linter.all false
set_option maxRecDepth 100000
set_option maxHeartbeats 0
namespace law_k01
open PySem PySem.Spec PyProof.Rows L2 PI
set_option maxHeartbeats 0 in
theorem run (w : World) : HandSHeadRun.RunEq R qv (hookN D) (obT D) 6000 names w := by
  intro os
  kernel_rfl
end law_k01

set_option Elab.async false
set_option linter.all false
set_option maxRecDepth 100000
set_option maxHeartbeats 0
open PySem PySem.W PySem.Calls PyProof.Rows
theorem PySem.Challenge.cw_noclicks_k01_whole_fractions_holds : PySem.Challenge.rw_noclicks_k01_whole_fractions.Holds := by
  w_on; o_law
  refine HandSHeadRun.head_any (r := law_k01.R) (q := law_k01.qv) (H := PI.hookN law_k01.D) (ob := PI.obT law_k01.D) (M := 6000) (loose := law_k01.names) (d := HandSHeadRun.topDef law_k01.R.prog 43) (kwd := []) (PI.obT_eq law_k01.D)
    (by kernel_rfl) (fun s => by kernel_rfl) law_k01.run (by kernel_rfl) (by kernel_rfl) (by kernel_rfl) (by rfl) (by first | assumption | decide +kernel) (by decide +kernel) ⟨rfl, rfl, rfl, rfl, rfl, by decide +kernel⟩ ?hw ?hc
  case hw => w_witness2
  case hc =>
    exact PI.walk_G (l := PySem.Challenge.rw_noclicks_k01_whole_fractions) (n := 63) (k := 12) (D := law_k01.D) (g := law_k01.d_law) (T := law_k01.TT) rfl (by decide) (by kernel_rfl) ⟨rfl, by decide, by decide⟩ (by decide +kernel) (fun _ => rfl) (fun ns _ => law_k01.law_true ns 0)
      fun w K mg base X G c hb => law_k01.dn_law (law_k01.hd_all X G c hb)

