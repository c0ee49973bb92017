import PyProof.Rows.All
import Wide.All
import OpenK.AllK
import Wide.FinOn
import HandS.ForMost
import HandS.ForExc
import HandS.IsInst
import HandS.Small
import PyProof.MaxThree
import HandS.HotCalls
import OpenK.KMeth
import HandS.Comp
import HandS.WideBits
import HandS.ExcInit
import HandS.ExcField
import KE.KExcIs
import KE.KTryMore
import HandS.ExcIs
import HandS.TupLe
import PySem.Challenge.RW_heldproofs_k01_kinds_cover
set_option Elab.async false
set_option linter.all false
set_option maxRecDepth 100000
/-! Ev1: pure data, a store of changing things, and how they lie in the heap. -/
namespace Ev
open PySem L2

/-- pure data -/
inductive Dv where
  | non | bl (b : Bool) | int (i : Int) | str (s : Str)
  | tup (xs : List Dv) | lst (xs : List Dv)
  | dic (ks : List Key) (xs : List Dv)
  | ins (c : Nat) (fs : List Str) (xs : List Dv)
inductive SV where
  | d (x : Dv) | m (i : Nat)
inductive MO where
  | lst (xs : List SV) | dic (ks : List Key) (xs : List SV)
  | ins (c : Nat) (fs : List Str) (xs : List SV) | frz (x : Dv)
abbrev Sto := List MO
abbrev Env := List (Option SV)
structure Exc where
  c : Nat
  fs : List Str
  xs : List Dv
inductive Res (α : Type) where
  | ok (a : α) (S : Sto) | ex (e : Exc) (S : Sto) | bad
def Res.bind {α β : Type} : Res α → (α → Sto → Res β) → Res β
  | .ok a S, g => g a S
  | .ex e S, _ => .ex e S
  | .bad, _ => .bad
@[simp] theorem Res.bind_ok {α β : Type} (a : α) (S : Sto) (g : α → Sto → Res β) : (Res.ok a S).bind g = g a S := rfl
@[simp] theorem Res.bind_ex {α β : Type} (e : Exc) (S : Sto) (g : α → Sto → Res β) : (Res.ex e S : Res α).bind g = .ex e S := rfl
@[simp] theorem Res.bind_bad {α β : Type} (g : α → Sto → Res β) : (Res.bad : Res α).bind g = .bad := rfl

def isMut : MO → Bool
  | .frz _ => false
  | _ => true

/-- a lock is looked through -/
def core : HO → HO
  | .frz _ u => u
  | o => o
def Sim (o o' : HO) : Prop := o' = o ∨ ∃ kvs, core o = .dK kvs ∧ core o' = .dK kvs
structure Wd where
  ρ : Nat → Addr
  G : Hp
structure Le (n : Nat) (W W' : Wd) : Prop where
  g : ∀ a o, W.G a = some o → ∃ o', W'.G a = some o' ∧ Sim o o'
  r : ∀ i, i < n → W'.ρ i = W.ρ i
theorem Sim.refl (o : HO) : Sim o o := .inl rfl
theorem Sim.trans {a b c : HO} (h : Sim a b) (k : Sim b c) : Sim a c := by
  rcases h with rfl | ⟨kvs, h1, h2⟩
  · exact k
  · rcases k with rfl | ⟨kvs', k1, k2⟩
    · exact .inr ⟨kvs, h1, h2⟩
    · rw [h2] at k1
      cases k1
      exact .inr ⟨kvs, h1, k2⟩
theorem Le.refl (n : Nat) (W : Wd) : Le n W W := ⟨fun a o h => ⟨o, h, .refl o⟩, fun _ _ => rfl⟩
theorem Le.trans {n k : Nat} {A B C : Wd} (h : Le n A B) (q : Le k B C) (hn : n ≤ k) : Le n A C :=
  ⟨fun a o e => by
    obtain ⟨o1, e1, s1⟩ := h.g a o e
    obtain ⟨o2, e2, s2⟩ := q.g a o1 e1
    exact ⟨o2, e2, s1.trans s2⟩, fun i hi => (q.r i (Nat.lt_of_lt_of_le hi hn)).trans (h.r i hi)⟩
theorem Le.less {n k : Nat} {A B : Wd} (h : Le k A B) (hn : n ≤ k) : Le n A B := ⟨h.g, fun i hi => h.r i (Nat.lt_of_lt_of_le hi hn)⟩

def plainO : HO → Bool
  | .frz _ _ => false
  | .dK _ => false
  | _ => true
theorem Sim.plain {o o' : HO} (h : Sim o o') (p : plainO (core o) = true) : o' = o := by
  rcases h with h | ⟨kvs, h, _⟩
  · exact h
  · rw [h] at p; cases p
theorem Rd.le {n : Nat} {W W' : Wd} (h : Le n W W') {a : Addr} {u : HO} (p : plainO u = true) (r : Rd W.G a u) : Rd W'.G a u := by
  rcases r with r | ⟨o, r⟩
  · obtain ⟨o', e, s⟩ := h.g _ _ r
    have pc : plainO (core u) = true := by cases u <;> first | exact p | cases p
    rw [s.plain pc] at e
    exact .inl e
  · obtain ⟨o', e, s⟩ := h.g _ _ r
    have pc : plainO (core (.frz o u)) = true := p
    rw [s.plain pc] at e
    exact .inr ⟨o, e⟩
theorem SqL.le {K : PySem.W.Frag} {n : Nat} {W W' : Wd} (h : Le n W W') {a : Addr} {vs : List V} (r : SqL K W.G a vs) : SqL K W'.G a vs := r.imp (Rd.le h rfl) id
theorem SqT.le {K : PySem.W.Frag} {n : Nat} {W W' : Wd} (h : Le n W W') {a : Addr} {vs : List V} (r : SqT K W.G a vs) : SqT K W'.G a vs := r.imp (Rd.le h rfl) id
theorem Rd.up {G H : Hp} (h : ∀ a o, G a = some o → H a = some o) {a : Addr} {u : HO} (r : Rd G a u) : Rd H a u := r.imp (h _ _) fun ⟨o, e⟩ => ⟨o, h _ _ e⟩
theorem SqL.up {K : PySem.W.Frag} {G H : Hp} (h : ∀ a o, G a = some o → H a = some o) {a : Addr} {vs : List V} (r : SqL K G a vs) : SqL K H a vs := r.imp (Rd.up h) id
theorem SqT.up {K : PySem.W.Frag} {G H : Hp} (h : ∀ a o, G a = some o → H a = some o) {a : Addr} {vs : List V} (r : SqT K G a vs) : SqT K H a vs := r.imp (Rd.up h) id

mutual
inductive RelD (K : PySem.W.Frag) (cl : Nat → Addr) (G : Hp) : Dv → V → Prop
  | non : RelD K cl G .non .non
  | bl (b : Bool) : RelD K cl G (.bl b) (.bl b)
  | int (i : Int) : RelD K cl G (.int i) (.int i)
  | str (s : Str) (h : PyData.strOk s = true) : RelD K cl G (.str s) (.str s)
  | tup {a : Addr} {xs : List Dv} {vs : List V} (h : SqT K G a vs) (r : RelDs K cl G xs vs) : RelD K cl G (.tup xs) (.ref a)
  | lst {a : Addr} {xs : List Dv} {vs : List V} (h : SqL K G a vs) (r : RelDs K cl G xs vs) : RelD K cl G (.lst xs) (.ref a)
  | dic {a : Addr} {o : HO} {ks : List Key} {xs : List Dv} {vs : List V} (h : G a = some o) (c : core o = .dK (ks.zip vs)) (l : ks.length = xs.length) (r : RelDs K cl G xs vs) : RelD K cl G (.dic ks xs) (.ref a)
  | ins {a dx : Addr} {c : Nat} {fs : List Str} {xs : List Dv} {vs : List V} (h : G a = some (.ins (cl c) dx (fs.zip vs))) (l : fs.length = xs.length) (r : RelDs K cl G xs vs) : RelD K cl G (.ins c fs xs) (.ref a)
inductive RelDs (K : PySem.W.Frag) (cl : Nat → Addr) (G : Hp) : List Dv → List V → Prop
  | nil : RelDs K cl G [] []
  | cons {x : Dv} {v : V} {xs : List Dv} {vs : List V} (h : RelD K cl G x v) (r : RelDs K cl G xs vs) : RelDs K cl G (x :: xs) (v :: vs)
end

section
variable {K : PySem.W.Frag} {cl : Nat → Addr} {n : Nat} {W W' : Wd}
theorem RelD.le (h : Le n W W') : ∀ {x : Dv} {v : V}, RelD K cl W.G x v → RelD K cl W'.G x v := by
  intro x v r
  refine RelD.rec (motive_1 := fun x v _ => RelD K cl W'.G x v) (motive_2 := fun xs vs _ => RelDs K cl W'.G xs vs) .non .bl .int .str ?_ ?_ ?_ ?_ .nil ?_ r
  · intro a xs vs e _ ih; exact .tup (SqT.le h e) ih
  · intro a xs vs e _ ih; exact .lst (SqL.le h e) ih
  · intro a o ks xs vs e c l _ ih
    obtain ⟨o', e', s⟩ := h.g _ _ e
    refine .dic e' ?_ l ih
    rcases s with rfl | ⟨kvs, s1, s2⟩
    · exact c
    · rw [s2, ← s1, c]
  · intro a dx c fs xs vs e l _ ih
    obtain ⟨o', e', s⟩ := h.g _ _ e
    rw [s.plain rfl] at e'
    exact .ins e' l ih
  · intro x v xs vs _ _ i1 i2; exact .cons i1 i2
theorem RelDs.le (h : Le n W W') : ∀ {xs : List Dv} {vs : List V}, RelDs K cl W.G xs vs → RelDs K cl W'.G xs vs
  | _, _, .nil => .nil
  | _, _, .cons a b => .cons (RelD.le h a) (RelDs.le h b)
theorem RelDs.length {G : Hp} : ∀ {xs : List Dv} {vs : List V}, RelDs K cl G xs vs → xs.length = vs.length
  | _, _, .nil => rfl
  | _, _, .cons _ b => congrArg Nat.succ (RelDs.length b)
theorem RelDs.paired {G : Hp} : ∀ {xs : List Dv} {vs : List V}, RelDs K cl G xs vs → Paired (RelD K cl G) xs vs
  | _, _, .nil => .nil
  | _, _, .cons a b => .cons a (RelDs.paired b)
theorem RelDs.of {G : Hp} : ∀ {xs : List Dv} {vs : List V}, Paired (RelD K cl G) xs vs → RelDs K cl G xs vs
  | _, _, .nil => .nil
  | _, _, .cons a b => .cons a (RelDs.of b)

variable (K cl)
def RelSV (W : Wd) (n : Nat) : SV → V → Prop
  | .d x, v => RelD K cl W.G x v
  | .m i, v => i < n ∧ v = .ref (W.ρ i)
def RelMO (W : Wd) (n : Nat) (H : Hp) (a : Addr) : MO → Prop
  | .lst xs => W.G a = none ∧ ∃ vs, H a = some (.lst vs) ∧ Paired (RelSV K cl W n) xs vs
  | .dic ks xs => W.G a = none ∧ ∃ vs, H a = some (.dK (ks.zip vs)) ∧ ks.length = xs.length ∧ Paired (RelSV K cl W n) xs vs
  | .ins c fs xs => W.G a = none ∧ ∃ vs dx, H a = some (.ins (cl c) dx (fs.zip vs)) ∧ fs.length = xs.length ∧ Paired (RelSV K cl W n) xs vs
  | .frz x => RelD K cl W.G x (.ref a)
structure Rel (W : Wd) (S : Sto) (H : Hp) : Prop where
  fz : ∀ a o, W.G a = some o → H a = some o
  st : ∀ (i : Nat) (mo : MO), S[i]? = some mo → RelMO K cl W S.length H (W.ρ i) mo
  inj : ∀ (i j : Nat) (mi mj : MO), S[i]? = some mi → S[j]? = some mj → isMut mi = true → isMut mj = true → W.ρ i = W.ρ j → i = j
structure EnvR (W : Wd) (n : Nat) (env : Env) (σ : St) : Prop where
  len : σ.length = env.length
  get : ∀ (i : Nat) (sv : SV), env[i]? = some (some sv) → ∃ v, σ[i]? = some (some v) ∧ RelSV K cl W n sv v
/-- an exception: its class, its fields -/
def RelX (W : Wd) (e : Exc) (c : Value) (d : Option Addr) (H : Hp) : Prop :=
  c = .ref (cl e.c) ∧ e.fs.length = e.xs.length ∧ (e.fs = [] ∧ d = none ∨ ∃ dd vs, d = some dd ∧ H dd = some (.xd (e.fs.zip vs)) ∧ RelDs K cl W.G e.xs vs)
variable {K cl}
theorem RelSV.le {k : Nat} (h : Le n W W') (hk : n ≤ k) {sv : SV} {v : V} (r : RelSV K cl W n sv v) : RelSV K cl W' k sv v := by
  cases sv with
  | d x => exact RelD.le h r
  | m i =>
    obtain ⟨r1, r2⟩ := r
    exact ⟨Nat.lt_of_lt_of_le r1 hk, by rw [h.r i r1]; exact r2⟩
theorem RelSVs.le {k : Nat} (h : Le n W W') (hk : n ≤ k) {sv : List SV} {v : List V} (r : Paired (RelSV K cl W n) sv v) : Paired (RelSV K cl W' k) sv v :=
  Paired.mapP r fun _ _ q => RelSV.le h hk q
theorem EnvR.le {k : Nat} {env : Env} {σ : St} (h : Le n W W') (hk : n ≤ k) (r : EnvR K cl W n env σ) : EnvR K cl W' k env σ :=
  ⟨r.len, fun i sv e => let ⟨v, e1, r1⟩ := r.get i sv e; ⟨v, e1, RelSV.le h hk r1⟩⟩
theorem EnvR.set {env : Env} {σ : St} {sv : SV} {v : V} (r : EnvR K cl W n env σ) (i : Nat) (q : RelSV K cl W n sv v) : EnvR K cl W n (env.set i (some sv)) (σ.set i (some v)) := by
  refine ⟨by rw [List.length_set, List.length_set, r.len], fun j w e => ?_⟩
  by_cases hj : i = j
  · subst hj
    rw [List.getElem?_set] at e
    split at e
    · rename_i hl
      split at e
      · rename_i hl2
        cases e
        refine ⟨v, ?_, q⟩
        rw [List.getElem?_set, if_pos rfl, if_pos (by rw [r.len]; exact hl2)]
      · cases e
    · rename_i hl; exact absurd rfl hl
  · rw [List.getElem?_set_ne hj] at e
    obtain ⟨w', e1, r1⟩ := r.get j w e
    exact ⟨w', by rw [List.getElem?_set_ne hj]; exact e1, r1⟩
end

/-! ### what a result asks -/
def SV.below (b : Nat) : SV → Prop
  | .d _ => True
  | .m i => i < b
def MO.below (b : Nat) : MO → Prop
  | .lst xs => ∀ x ∈ xs, SV.below b x
  | .dic _ xs => ∀ x ∈ xs, SV.below b x
  | .ins _ _ xs => ∀ x ∈ xs, SV.below b x
  | .frz _ => True
/-- nothing below b looks above b -/
def WFB (b : Nat) (S : Sto) : Prop := ∀ (i : Nat) (mo : MO), i < b → S[i]? = some mo → mo.below b
structure Gr (b : Nat) (S S' : Sto) : Prop where
  len : S.length ≤ S'.length
  wf : ∀ b', b' ≤ b → WFB b' S → WFB b' S'
theorem Gr.refl (b : Nat) (S : Sto) : Gr b S S := ⟨Nat.le_refl _, fun _ _ h => h⟩
theorem Gr.trans {b c : Nat} {S S1 S2 : Sto} (h : Gr b S S1) (k : Gr c S1 S2) (hb : b ≤ c) : Gr b S S2 := ⟨Nat.le_trans h.len k.len, fun b' hb' w => k.wf b' (Nat.le_trans hb' hb) (h.wf b' hb' w)⟩
theorem Gr.less {b c : Nat} {S S1 : Sto} (h : Gr c S S1) (hb : b ≤ c) : Gr b S S1 := ⟨h.len, fun b' hb' => h.wf b' (Nat.le_trans hb' hb)⟩
/-- a frame: its floor in the store, its names -/
structure Fr where
  b : Nat
  v : Env
section
variable (K : PySem.W.Frag) (cl : Nat → Addr) (Wx : WX)
def Out {α β : Type} (Ra : Wd → Nat → α → β → Prop) (b : Nat) (W : Wd) (S : Sto) (σ : St) (r : Res α) (Q : β → Hp → Prop) : Prop := match r with
  | .ok a S' => ∀ W' H' v, Gr b S S' → Le S.length W W' → Rel K cl W' S' H' → Ra W' S'.length a v → Q v H'
  | .ex e S' => ∀ W' H' c d, Gr b S S' → Le S.length W W' → Rel K cl W' S' H' → RelX K cl W' e c d H' → Wx c d σ H'
  | .bad => False
abbrev RSV : Wd → Nat → SV → V → Prop := fun W n => RelSV K cl W n
abbrev RSVs : Wd → Nat → List SV → List V → Prop := fun W n => Paired (RelSV K cl W n)
abbrev RB : Wd → Nat → Bool → Bool → Prop := fun _ _ a b => b = a
variable {K cl Wx} {α β γ δ : Type} {Ra : Wd → Nat → α → β → Prop} {Rb : Wd → Nat → γ → δ → Prop} {W W1 : Wd} {b : Nat} {S S1 : Sto} {σ : St}
theorem Out.rebase {r : Res α} {Q : β → Hp → Prop} (h : Out K cl Wx Ra b W S σ r Q) (hn : Gr b S S1) (hl : Le S.length W W1) : Out K cl Wx Ra b W1 S1 σ r Q := by
  cases r with
  | ok a S' => exact fun W' H' v h1 h2 => h W' H' v (hn.trans h1 (Nat.le_refl _)) (hl.trans h2 hn.len)
  | ex e S' => exact fun W' H' c d h1 h2 => h W' H' c d (hn.trans h1 (Nat.le_refl _)) (hl.trans h2 hn.len)
  | bad => exact h
/-- behind the first part -/
def Mid (K : PySem.W.Frag) (cl : Nat → Addr) (Ra : Wd → Nat → α → β → Prop) (b : Nat) (W : Wd) (S : Sto) (P : Wd → Sto → α → Prop) (v : β) (H1 : Hp) : Prop :=
  ∃ W1 S1 a, Gr b S S1 ∧ Le S.length W W1 ∧ Rel K cl W1 S1 H1 ∧ Ra W1 S1.length a v ∧ P W1 S1 a
theorem Out.bind {r : Res α} {g : α → Sto → Res γ} {Q : δ → Hp → Prop} (h : Out K cl Wx Rb b W S σ (r.bind g) Q) :
    Out K cl Wx Ra b W S σ r (Mid K cl Ra b W S fun W1 S1 a => Out K cl Wx Rb b W1 S1 σ (g a S1) Q) := by
  cases r with
  | ok a S' => exact fun W' H' v h1 h2 h3 h4 => ⟨W', S', a, h1, h2, h3, h4, Out.rebase h h1 h2⟩
  | ex e S' => exact h
  | bad => exact h
theorem Out.mono {r : Res α} {Q Q' : β → Hp → Prop} (h : Out K cl Wx Ra b W S σ r Q) (hq : ∀ v H, Q v H → Q' v H) : Out K cl Wx Ra b W S σ r Q' := by
  cases r with
  | ok a S' => exact fun W' H' v h1 h2 h3 h4 => hq _ _ (h W' H' v h1 h2 h3 h4)
  | ex e S' => exact h
  | bad => exact h
end
/-- where the classes lie; what else is known of the world for as long as the judgement lasts -/
structure CL where
  f : Nat → Addr
  gh : Wd → Env → St → Prop
  mono : ∀ {n : Nat} {W W' : Wd} {v : Env} {σ : St}, Le n W W' → gh W v σ → gh W' v σ
  put : ∀ {W : Wd} {v : Env} {σ : St} (i : Nat) (x : SV) (y : V), gh W v σ → gh W (v.set i (some x)) (σ.set i (some y))
instance : CoeFun CL (fun _ => Nat → Addr) := ⟨CL.f⟩
instance : Coe CL (Nat → Addr) := ⟨CL.f⟩
abbrev CL.pure (f : Nat → Addr) : CL := ⟨f, fun _ _ _ => True, fun _ _ => trivial, fun _ _ _ _ => trivial⟩
/-- the state of a frame -/
structure At (K : PySem.W.Frag) (cl : CL) (W : Wd) (F : Fr) (S : Sto) (σ : St) (H : Hp) : Prop where
  b : F.b ≤ S.length
  rel : Rel K cl W S H
  env : EnvR K cl W S.length F.v σ
  gh : cl.gh W F.v σ
theorem At.on {K : PySem.W.Frag} {cl : CL} {W W1 : Wd} {F : Fr} {S S1 : Sto} {σ : St} {H H1 : Hp} (h : At K cl W F S σ H) (g : Gr F.b S S1) (l : Le S.length W W1) (r : Rel K cl W1 S1 H1) : At K cl W1 F S1 σ H1 :=
  ⟨Nat.le_trans h.b g.len, r, h.env.le l g.len, cl.mono l h.gh⟩

theorem PE.weak {X : Cx} {e : Expr} {t t' : TE} (h : PE X e t) (k : ∀ σ H Q, t' σ H Q → t σ H Q) : PE X e t' := ⟨fun pins s σ H Q I q => h.run pins s σ H Q I (k σ H Q q)⟩
theorem PT.weak {X : Cx} {e : Expr} {t t' : TT} (h : PT X e t) (k : ∀ σ H Q, t' σ H Q → t σ H Q) : PT X e t' := ⟨fun pins s σ H Q I q => h.run pins s σ H Q I (k σ H Q q)⟩
theorem PA.weak {X : Cx} {e : List Expr} {t t' : TA} (h : PA X e t) (k : ∀ σ H Q, t' σ H Q → t σ H Q) : PA X e t' := ⟨fun pos pins s σ H Q I q => h.run pos pins s σ H Q I (k σ H Q q)⟩
theorem PS.weak {X : Cx} {e : Stmt} {t t' : TS} (h : PS X e t) (k : ∀ D σ H, t' D σ H → t D σ H) : PS X e t' := ⟨fun pins s σ H D I q => h.run pins s σ H D I (k D σ H q)⟩
theorem PSs.weak {X : Cx} {e : List Stmt} {t t' : TS} (h : PSs X e t) (k : ∀ D σ H, t' D σ H → t D σ H) : PSs X e t' := ⟨fun pins s σ H D I q => h.run pins s σ H D I (k D σ H q)⟩
theorem OpR.weak {X : Cx} {f : Value → Value → Sem Value} {r r' : R2} (h : OpR X f r) (k : ∀ x y H Q, r' x y H Q → r x y H Q) : OpR X f r' := by
  intro pins s σ H x y v u Q I h1 h2 q
  exact h pins s σ H x y v u Q I h1 h2 (k _ _ _ _ q)
theorem CallR.weak {X : Cx} {f : Value} {r r' : List V → Hp → VK → Prop} (h : CallR X f r) (k : ∀ x H Q, r' x H Q → r x H Q) : CallR X f r' := by
  intro pins s σ H x us Q I h1 q
  exact h pins s σ H x us Q I h1 (k _ _ _ q)
end Ev

set_option Elab.async false
set_option linter.all false
set_option maxRecDepth 100000
/-! Ev2: freezing, new objects, the plainest expressions. -/
namespace Ev
open PySem L2

/-! ### freezing -/
def rdD (S : Sto) : SV → Option Dv
  | .d x => some x
  | .m i => match S[i]? with
    | some (.frz x) => some x
    | _ => none
def rdDs (S : Sto) : List SV → Option (List Dv)
  | [] => some []
  | x :: r => match rdD S x, rdDs S r with
    | some a, some b => some (a :: b)
    | _, _ => none
def frzO (S : Sto) (i : Nat) (x : List Dv → Dv) (xs : List SV) : Sto := match rdDs S xs with
  | some ds => S.set i (.frz (x ds))
  | none => S
def fz1 (S : Sto) (i : Nat) : Sto := match S[i]? with
  | some (.lst xs) => frzO S i .lst xs
  | some (.dic ks xs) => frzO S i (.dic ks) xs
  | some (.ins c fs xs) => frzO S i (.ins c fs) xs
  | _ => S
def fzD : Nat → Sto → SV → Sto
  | 0, S, _ => S
  | _ + 1, S, .d _ => S
  | k + 1, S, .m i => fz1 (match S[i]? with
    | some (.lst xs) => xs.foldl (fzD k) S
    | some (.dic _ xs) => xs.foldl (fzD k) S
    | some (.ins _ _ xs) => xs.foldl (fzD k) S
    | _ => S) i
def freeze (S : Sto) (x : SV) : Option (Dv × Sto) := match rdD (fzD 6 S x) x with
  | some a => some (a, fzD 6 S x)
  | none => none
def frzs : Sto → List SV → Option (List Dv × Sto)
  | S, [] => some ([], S)
  | S, x :: r => match freeze S x with
    | some (a, S1) => match frzs S1 r with
      | some (as, S2) => some (a :: as, S2)
      | none => none
    | none => none
@[simp] theorem fzD_d (k : Nat) (S : Sto) (x : Dv) : fzD k S (.d x) = S := by cases k <;> rfl
@[simp] theorem rdD_d (S : Sto) (x : Dv) : rdD S (.d x) = some x := rfl
@[simp] theorem freeze_d (S : Sto) (x : Dv) : freeze S (.d x) = some (x, S) := rfl
@[simp] theorem rdDs_d (S : Sto) : ∀ xs : List Dv, rdDs S (xs.map .d) = some xs
  | [] => rfl
  | x :: r => by rw [List.map_cons, rdDs, rdDs_d S r]; rfl
@[simp] theorem frzs_d (S : Sto) : ∀ xs : List Dv, frzs S (xs.map .d) = some (xs, S)
  | [] => rfl
  | x :: r => by rw [List.map_cons, frzs, freeze_d]; simp only; rw [frzs_d S r]
theorem fold_d (k : Nat) (S : Sto) : ∀ xs : List Dv, (xs.map SV.d).foldl (fzD k) S = S
  | [] => rfl
  | x :: r => by rw [List.map_cons, List.foldl_cons, fzD_d, fold_d k S r]
theorem freeze_lst {S : Sto} {i : Nat} {xs : List Dv} (h : S[i]? = some (.lst (xs.map .d))) : freeze S (.m i) = some (.lst xs, S.set i (.frz (.lst xs))) := by
  have hi := (List.getElem?_eq_some_iff.mp h).1
  have e : fzD 6 S (.m i) = S.set i (.frz (.lst xs)) := by
    unfold fzD
    simp only [h, fold_d]
    unfold fz1
    simp only [h]
    unfold frzO
    rw [rdDs_d]
  unfold freeze
  rw [e]
  simp [rdD, hi]
theorem freeze_dic {S : Sto} {i : Nat} {ks : List Key} {xs : List Dv} (h : S[i]? = some (.dic ks (xs.map .d))) : freeze S (.m i) = some (.dic ks xs, S.set i (.frz (.dic ks xs))) := by
  have hi := (List.getElem?_eq_some_iff.mp h).1
  have e : fzD 6 S (.m i) = S.set i (.frz (.dic ks xs)) := by
    unfold fzD
    simp only [h, fold_d]
    unfold fz1
    simp only [h]
    unfold frzO
    rw [rdDs_d]
  unfold freeze
  rw [e]
  simp [rdD, hi]
theorem freeze_ins {S : Sto} {i c : Nat} {fs : List Str} {xs : List Dv} (h : S[i]? = some (.ins c fs (xs.map .d))) : freeze S (.m i) = some (.ins c fs xs, S.set i (.frz (.ins c fs xs))) := by
  have hi := (List.getElem?_eq_some_iff.mp h).1
  have e : fzD 6 S (.m i) = S.set i (.frz (.ins c fs xs)) := by
    unfold fzD
    simp only [h, fold_d]
    unfold fz1
    simp only [h]
    unfold frzO
    rw [rdDs_d]
  unfold freeze
  rw [e]
  simp [rdD, hi]
theorem freeze_frz {S : Sto} {i : Nat} {x : Dv} (h : S[i]? = some (.frz x)) : freeze S (.m i) = some (x, S) := by
  have e : fzD 6 S (.m i) = S := by
    unfold fzD
    simp only [h]
    unfold fz1
    simp only [h]
  unfold freeze
  rw [e]
  simp [rdD, h]

section
variable {K : PySem.W.Frag} {cl : Nat → Addr}
/-- a step of the store alone -/
structure GSt (K : PySem.W.Frag) (cl : Nat → Addr) (S S' : Sto) : Prop where
  len : S'.length = S.length
  wf : ∀ b, WFB b S → WFB b S'
  rel : ∀ W H, Rel K cl W S H → ∃ W', W'.ρ = W.ρ ∧ Le S.length W W' ∧ Rel K cl W' S' H
theorem GSt.refl (S : Sto) : GSt K cl S S := ⟨rfl, fun _ h => h, fun W H r => ⟨W, rfl, .refl _ _, r⟩⟩
theorem GSt.trans {S S1 S2 : Sto} (h : GSt K cl S S1) (k : GSt K cl S1 S2) : GSt K cl S S2 :=
  ⟨k.len.trans h.len, fun b w => k.wf b (h.wf b w), fun W H r => by
    obtain ⟨W1, e1, l1, r1⟩ := h.rel W H r
    obtain ⟨W2, e2, l2, r2⟩ := k.rel W1 H r1
    exact ⟨W2, e2.trans e1, l1.trans l2 (Nat.le_of_eq h.len.symm), r2⟩⟩
theorem rdD_rel {W : Wd} {S : Sto} {H : Hp} {n : Nat} (r : Rel K cl W S H) : ∀ {x : SV} {y : Dv} {v : V}, rdD S x = some y → RelSV K cl W n x v → RelD K cl W.G y v
  | .d x, y, v, e, q => by cases e; exact q
  | .m i, y, v, e, q => by
    simp only [rdD] at e
    split at e
    · rename_i hz
      cases e
      obtain ⟨_, rfl⟩ := q
      exact r.st i _ hz
    · cases e
theorem rdDs_rel {W : Wd} {S : Sto} {H : Hp} {n : Nat} (r : Rel K cl W S H) : ∀ {xs : List SV} {ys : List Dv} {vs : List V}, rdDs S xs = some ys → Paired (RelSV K cl W n) xs vs → RelDs K cl W.G ys vs
  | [], ys, [], e, .nil => by cases e; exact .nil
  | x :: xs, ys, v :: vs, e, .cons q t => by
    unfold rdDs at e
    split at e
    · rename_i a b h1 h2
      cases e
      exact .cons (rdD_rel r h1 q) (rdDs_rel r h2 t)
    · cases e
theorem rdDs_len {S : Sto} : ∀ {xs : List SV} {ys : List Dv}, rdDs S xs = some ys → xs.length = ys.length
  | [], ys, e => by cases e; rfl
  | x :: xs, ys, e => by
    unfold rdDs at e
    split at e
    · rename_i a b h1 h2
      cases e
      exact congrArg Nat.succ (rdDs_len h2)
    · cases e
/-- an entry is frozen -/
theorem frz_set {S : Sto} {i : Nat} {mo : MO} {x : Dv} (hi : S[i]? = some mo) (hm : isMut mo = true)
    (h : ∀ W H, Rel K cl W S H → ∃ ho, H (W.ρ i) = some ho ∧ W.G (W.ρ i) = none ∧ RelD K cl (upd W.G (W.ρ i) ho) x (.ref (W.ρ i))) : GSt K cl S (S.set i (.frz x)) := by
  have hl : i < S.length := (List.getElem?_eq_some_iff.mp hi).1
  refine ⟨by rw [List.length_set], fun b w j mj hj ej => ?_, fun W H r => ?_⟩
  · by_cases e : i = j
    · subst e
      rw [List.getElem?_set, if_pos rfl, if_pos hl] at ej
      cases ej
      trivial
    · rw [List.getElem?_set_ne e] at ej
      exact w j mj hj ej
  · obtain ⟨ho, h1, h2, h3⟩ := h W H r
    have le : Le S.length W ⟨W.ρ, upd W.G (W.ρ i) ho⟩ := ⟨fun a o e => ⟨o, by
      show upd _ _ _ _ = _
      rw [upd_ne (fun q => by rw [q, h2] at e; cases e)]
      exact e, .refl _⟩, fun _ _ => rfl⟩
    refine ⟨⟨W.ρ, upd W.G (W.ρ i) ho⟩, rfl, le, ⟨fun a o e => ?_, fun j mj ej => ?_, fun j k mj mk ej ek a1 a2 q => ?_⟩⟩
    · have e : upd W.G (W.ρ i) ho a = some o := e
      by_cases ea : a = W.ρ i
      · subst ea
        rw [upd_same] at e
        cases e
        exact h1
      · rw [upd_ne ea] at e
        exact r.fz a o e
    · rw [List.length_set]
      by_cases e : i = j
      · subst e
        rw [List.getElem?_set, if_pos rfl, if_pos hl] at ej
        cases ej
        exact h3
      · rw [List.getElem?_set_ne e] at ej
        have q := r.st j mj ej
        have ne : isMut mj = true → W.ρ j ≠ W.ρ i := fun a z => e ((r.inj i j mo mj hi ej hm a z.symm))
        cases mj with
        | lst xs => obtain ⟨q1, vs, q2, q3⟩ := q; exact ⟨by show upd _ _ _ _ = _; rw [upd_ne (ne rfl)]; exact q1, vs, q2, RelSVs.le le (Nat.le_refl _) q3⟩
        | dic ks xs => obtain ⟨q1, vs, q2, q4, q3⟩ := q; exact ⟨by show upd _ _ _ _ = _; rw [upd_ne (ne rfl)]; exact q1, vs, q2, q4, RelSVs.le le (Nat.le_refl _) q3⟩
        | ins c fs xs => obtain ⟨q1, vs, dx, q2, q4, q3⟩ := q; exact ⟨by show upd _ _ _ _ = _; rw [upd_ne (ne rfl)]; exact q1, vs, dx, q2, q4, RelSVs.le le (Nat.le_refl _) q3⟩
        | frz y => exact RelD.le le q
    · have hj : i ≠ j := fun z => by
        subst z
        rw [List.getElem?_set, if_pos rfl, if_pos hl] at ej
        cases ej
        cases a1
      have hk : i ≠ k := fun z => by
        subst z
        rw [List.getElem?_set, if_pos rfl, if_pos hl] at ek
        cases ek
        cases a2
      rw [List.getElem?_set_ne hj] at ej
      rw [List.getElem?_set_ne hk] at ek
      exact r.inj j k mj mk ej ek a1 a2 q
theorem gpin {W : Wd} {a : Addr} {ho : HO} (h2 : W.G a = none) (n : Nat) : Le n W ⟨W.ρ, upd W.G a ho⟩ := ⟨fun b o e => ⟨o, by
      show upd _ _ _ _ = _
      rw [upd_ne (fun q => by rw [q, h2] at e; cases e)]
      exact e, .refl _⟩, fun _ _ => rfl⟩
theorem fz1_ok (S : Sto) (i : Nat) : GSt K cl S (fz1 S i) := by
  unfold fz1
  split
  · rename_i xs hx
    unfold frzO
    split
    · rename_i ds hd
      refine frz_set hx rfl fun W H r => ?_
      obtain ⟨q1, vs, q2, q3⟩ := r.st i _ hx
      exact ⟨_, q2, q1, .lst (.of upd_same) (RelDs.le (gpin q1 0) (rdDs_rel r hd q3))⟩
    · exact .refl _
  · rename_i ks xs hx
    unfold frzO
    split
    · rename_i ds hd
      refine frz_set hx rfl fun W H r => ?_
      obtain ⟨q1, vs, q2, q4, q3⟩ := r.st i _ hx
      exact ⟨_, q2, q1, .dic (upd_same) rfl (q4.trans (rdDs_len hd)) (RelDs.le (gpin q1 0) (rdDs_rel r hd q3))⟩
    · exact .refl _
  · rename_i c fs xs hx
    unfold frzO
    split
    · rename_i ds hd
      refine frz_set hx rfl fun W H r => ?_
      obtain ⟨q1, vs, dx, q2, q4, q3⟩ := r.st i _ hx
      exact ⟨_, q2, q1, .ins (upd_same) (q4.trans (rdDs_len hd)) (RelDs.le (gpin q1 0) (rdDs_rel r hd q3))⟩
    · exact .refl _
  · exact .refl _
theorem fold_ok {k : Nat} (h : ∀ S x, GSt K cl S (fzD k S x)) : ∀ (xs : List SV) (S : Sto), GSt K cl S (xs.foldl (fzD k) S)
  | [], S => .refl S
  | x :: r, S => (h S x).trans (fold_ok h r _)
theorem fzD_ok : ∀ (k : Nat) (S : Sto) (x : SV), GSt K cl S (fzD k S x)
  | 0, S, x => .refl S
  | k + 1, S, .d x => by rw [fzD_d]; exact .refl S
  | k + 1, S, .m i => by
    unfold fzD
    refine GSt.trans ?_ (fz1_ok _ i)
    split
    · exact fold_ok (fzD_ok k) _ _
    · exact fold_ok (fzD_ok k) _ _
    · exact fold_ok (fzD_ok k) _ _
    · exact .refl _
theorem freeze_ok {S S' : Sto} {x : SV} {y : Dv} (h : freeze S x = some (y, S')) : S'.length = S.length ∧ (∀ b, WFB b S → WFB b S') ∧
    ∀ W H v, Rel K cl W S H → RelSV K cl W S.length x v → ∃ W', W'.ρ = W.ρ ∧ Le S.length W W' ∧ Rel K cl W' S' H ∧ RelD K cl W'.G y v := by
  unfold freeze at h
  split at h
  · rename_i a ha
    cases h
    obtain ⟨h1, h2, h3⟩ := fzD_ok (K := K) (cl := cl) 6 S x
    refine ⟨h1, h2, fun W H v r q => ?_⟩
    obtain ⟨W', e, l, r'⟩ := h3 W H r
    exact ⟨W', e, l, r', rdD_rel r' ha (RelSV.le l (Nat.le_refl _) q)⟩
  · cases h
theorem frzs_ok : ∀ {xs : List SV} {S S' : Sto} {ys : List Dv}, frzs S xs = some (ys, S') → S'.length = S.length ∧ (∀ b, WFB b S → WFB b S') ∧
    ∀ W H vs, Rel K cl W S H → Paired (RelSV K cl W S.length) xs vs → ∃ W', W'.ρ = W.ρ ∧ Le S.length W W' ∧ Rel K cl W' S' H ∧ RelDs K cl W'.G ys vs
  | [], S, S', ys, h => by
    cases h
    refine ⟨rfl, fun _ w => w, fun W H vs r q => ?_⟩
    cases q
    exact ⟨W, rfl, .refl _ _, r, .nil⟩
  | x :: xs, S, S', ys, h => by
    unfold frzs at h
    split at h
    · rename_i a S1 h1
      split at h
      · rename_i as S2 h2
        cases h
        obtain ⟨l1, w1, k1⟩ := freeze_ok (K := K) (cl := cl) h1
        obtain ⟨l2, w2, k2⟩ := frzs_ok h2
        refine ⟨l2.trans l1, fun b w => w2 b (w1 b w), fun W H vs r q => ?_⟩
        cases q with
        | cons q t =>
          obtain ⟨W1, e1, le1, r1, q1⟩ := k1 W H _ r q
          obtain ⟨W2, e2, le2, r2, q2⟩ := k2 W1 H _ r1 (RelSVs.le le1 (Nat.le_of_eq l1.symm) t)
          exact ⟨W2, e2.trans e1, le1.trans le2 (Nat.le_of_eq l1.symm), r2, .cons (RelD.le le2 q1) q2⟩
      · cases h
    · cases h

/-! ### new objects -/
theorem Rel.gnone {W : Wd} {S : Sto} {H : Hp} (r : Rel K cl W S H) {p : Addr} (h : H p = none) : W.G p = none := by
  cases e : W.G p with
  | none => rfl
  | some o => rw [r.fz p o e] at h; cases h
theorem Rel.there {W : Wd} {S : Sto} {H : Hp} (r : Rel K cl W S H) {i : Nat} {mo : MO} (e : S[i]? = some mo) (hm : isMut mo = true) : ∃ o, H (W.ρ i) = some o := by
  have q := r.st i mo e
  cases mo with
  | lst xs => obtain ⟨_, _, q, _⟩ := q; exact ⟨_, q⟩
  | dic ks xs => obtain ⟨_, _, q, _⟩ := q; exact ⟨_, q⟩
  | ins c fs xs => obtain ⟨_, _, _, q, _⟩ := q; exact ⟨_, q⟩
  | frz x => cases hm
/-- what is changed or new in the heap touches nothing that is told -/
theorem RelMO.keep {W W' : Wd} {n k : Nat} {H H' : Hp} {a : Addr} {mo : MO} (q : RelMO K cl W n H a mo) (l : Le n W W') (hk : n ≤ k) (hg : isMut mo = true → W.G a = none → W'.G a = none) (hh : isMut mo = true → H' a = H a) : RelMO K cl W' k H' a mo := by
  cases mo with
  | lst xs => obtain ⟨q1, vs, q2, q3⟩ := q; exact ⟨hg rfl q1, vs, by rw [hh rfl]; exact q2, RelSVs.le l hk q3⟩
  | dic ks xs => obtain ⟨q1, vs, q2, q4, q3⟩ := q; exact ⟨hg rfl q1, vs, by rw [hh rfl]; exact q2, q4, RelSVs.le l hk q3⟩
  | ins c fs xs => obtain ⟨q1, vs, dx, q2, q4, q3⟩ := q; exact ⟨hg rfl q1, vs, dx, by rw [hh rfl]; exact q2, q4, RelSVs.le l hk q3⟩
  | frz x => exact RelD.le l q
/-- a new thing that nobody will change -/
theorem Rel.newF {W : Wd} {S : Sto} {H : Hp} (r : Rel K cl W S H) {p : Addr} {ho : HO} (h : H p = none) : Rel K cl ⟨W.ρ, upd W.G p ho⟩ S (upd H p ho) ∧ Le S.length W ⟨W.ρ, upd W.G p ho⟩ := by
  have l : Le S.length W ⟨W.ρ, upd W.G p ho⟩ := gpin (r.gnone h) _
  refine ⟨⟨fun a o e => ?_, fun i mo e => ?_, r.inj⟩, l⟩
  · have e : upd W.G p ho a = some o := e
    by_cases ea : a = p
    · subst ea
      rw [upd_same] at e ⊢
      exact e
    · rw [upd_ne ea] at e ⊢
      exact r.fz a o e
  · refine (r.st i mo e).keep l (Nat.le_refl _) (fun hm g => ?_) fun hm => ?_
    · obtain ⟨o, ho'⟩ := r.there e hm
      show upd _ _ _ _ = _
      rw [upd_ne (ne_of_none ho' h)]
      exact g
    · obtain ⟨o, ho'⟩ := r.there e hm
      rw [upd_ne (ne_of_none ho' h)]
/-- a new thing of the store -/
def Wd.add (W : Wd) (n : Nat) (p : Addr) : Wd := ⟨fun i => if i = n then p else W.ρ i, W.G⟩
theorem Wd.add_at (W : Wd) (n : Nat) (p : Addr) : (W.add n p).ρ n = p := if_pos rfl
theorem Wd.add_le (W : Wd) (n : Nat) (p : Addr) : Le n W (W.add n p) := ⟨fun a o e => ⟨o, e, .refl _⟩, fun i hi => if_neg (Nat.ne_of_lt hi)⟩
theorem Rel.newM {W : Wd} {S : Sto} {H : Hp} (r : Rel K cl W S H) {p : Addr} {ho : HO} {mo : MO} (h : H p = none) (hn : RelMO K cl (W.add S.length p) (S.length + 1) (upd H p ho) p mo) :
    Rel K cl (W.add S.length p) (S ++ [mo]) (upd H p ho) := by
  refine ⟨fun a o e => ?_, fun i mi e => ?_, fun i j mi mj ei ej ai aj q => ?_⟩
  · rw [upd_ne (ne_of_none (r.fz a o e) h)]
    exact r.fz a o e
  · rw [List.length_append, List.length_singleton]
    by_cases hi : i < S.length
    · rw [List.getElem?_append_left hi] at e
      rw [show (W.add S.length p).ρ i = W.ρ i from if_neg (Nat.ne_of_lt hi)]
      refine (r.st i mi e).keep (W.add_le _ _) (Nat.le_succ _) (fun _ g => g) fun hm => ?_
      obtain ⟨o, ho'⟩ := r.there e hm
      rw [upd_ne (ne_of_none ho' h)]
    · rw [List.getElem?_append_right (Nat.le_of_not_lt hi)] at e
      have z : i - S.length = 0 := by
        cases q : i - S.length with
        | zero => rfl
        | succ k => rw [q] at e; cases e
      have ei : i = S.length := by omega
      subst ei
      rw [z] at e
      cases e
      rw [Wd.add_at]
      exact hn
  · have one : ∀ i mi, (S ++ [mo])[i]? = some mi → i < S.length ∧ S[i]? = some mi ∨ i = S.length := fun i mi e => by
      by_cases hi : i < S.length
      · rw [List.getElem?_append_left hi] at e
        exact .inl ⟨hi, e⟩
      · have := (List.getElem?_eq_some_iff.mp e).1
        rw [List.length_append, List.length_singleton] at this
        exact .inr (by omega)
    rcases one i mi ei with ⟨h1, h2⟩ | rfl <;> rcases one j mj ej with ⟨k1, k2⟩ | rfl
    · rw [show (W.add S.length p).ρ i = W.ρ i from if_neg (Nat.ne_of_lt h1), show (W.add S.length p).ρ j = W.ρ j from if_neg (Nat.ne_of_lt k1)] at q
      exact r.inj i j mi mj h2 k2 ai aj q
    · rw [show (W.add S.length p).ρ i = W.ρ i from if_neg (Nat.ne_of_lt h1), Wd.add_at] at q
      obtain ⟨o, e⟩ := r.there h2 ai
      rw [q, h] at e; cases e
    · rw [show (W.add S.length p).ρ j = W.ρ j from if_neg (Nat.ne_of_lt k1), Wd.add_at] at q
      obtain ⟨o, e⟩ := r.there k2 aj
      rw [← q, h] at e; cases e
    · rfl
theorem Gr.add (b : Nat) (S : Sto) (mo : MO) (hb : b ≤ S.length) : Gr b S (S ++ [mo]) := ⟨by rw [List.length_append]; omega, fun b' hb' w i mi hi e => by
  rw [List.getElem?_append_left (by omega)] at e
  exact w i mi hi e⟩
end

/-! ### the judgements' readings -/
section
variable (X : Cx) (cl : CL) (Wx : WX)
def RE (f : Fr → Sto → Res SV) : TE := fun σ H Q => ∃ W F S, At X.K cl W F S σ H ∧ Out X.K cl Wx (RSV X.K cl) F.b W S σ (f F S) Q
def RT (f : Fr → Sto → Res Bool) : TT := fun σ H Q => ∃ W F S, At X.K cl W F S σ H ∧ Out X.K cl Wx RB F.b W S σ (f F S) Q
def RA (f : Fr → Sto → Res (List SV)) : TA := fun σ H Q => ∃ W F S, At X.K cl W F S σ H ∧ Out X.K cl Wx (RSVs X.K cl) F.b W S σ (f F S) Q
end
section
variable {X : Cx} {cl : CL} {Wx : WX} {σ : St} {H : Hp} {W : Wd} {F : Fr} {S : Sto}
theorem Out.here {K : PySem.W.Frag} {α β : Type} {Ra : Wd → Nat → α → β → Prop} {b : Nat} {a : α} {Q : β → Hp → Prop} {v : β} (h : Out K cl Wx Ra b W S σ (.ok a S) Q) (r : Rel K cl W S H) (q : Ra W S.length a v) : Q v H :=
  h W H v (.refl _ _) (.refl _ _) r q
/-- the part that stands first -/
theorem RE.of {f : Fr → Sto → Res SV} {g : SV → Sto → Res SV} {Q Q' : VK} (a : At X.K cl W F S σ H) (h : Out X.K cl Wx (RSV X.K cl) F.b W S σ ((f F S).bind g) Q)
    (k : ∀ W1 S1 x v H1, Gr F.b S S1 → Le S.length W W1 → At X.K cl W1 F S1 σ H1 → RelSV X.K cl W1 S1.length x v → Out X.K cl Wx (RSV X.K cl) F.b W1 S1 σ (g x S1) Q → Q' v H1) : RE X cl Wx f σ H Q' :=
  ⟨W, F, S, a, (Out.bind h).mono fun v H1 ⟨W1, S1, x, g1, l1, r1, q1, o1⟩ => k W1 S1 x v H1 g1 l1 (a.on g1 l1 r1) q1 o1⟩
theorem RT.of {f : Fr → Sto → Res Bool} {α β : Type} {Ra : Wd → Nat → α → β → Prop} {g : Bool → Sto → Res α} {Q : β → Hp → Prop} {Q' : Bool → Hp → Prop} (a : At X.K cl W F S σ H) (h : Out X.K cl Wx Ra F.b W S σ ((f F S).bind g) Q)
    (k : ∀ W1 S1 x H1, Gr F.b S S1 → Le S.length W W1 → At X.K cl W1 F S1 σ H1 → Out X.K cl Wx Ra F.b W1 S1 σ (g x S1) Q → Q' x H1) : RT X cl Wx f σ H Q' :=
  ⟨W, F, S, a, (Out.bind (Ra := RB) h).mono fun v H1 ⟨W1, S1, x, g1, l1, r1, q1, o1⟩ => by
    obtain rfl : v = x := q1
    exact k W1 S1 v H1 g1 l1 (a.on g1 l1 r1) o1⟩
theorem RE.ofT {f : Fr → Sto → Res SV} {g : SV → Sto → Res Bool} {Q : Bool → Hp → Prop} {Q' : VK} (a : At X.K cl W F S σ H) (h : Out X.K cl Wx RB F.b W S σ ((f F S).bind g) Q)
    (k : ∀ W1 S1 x v H1, Gr F.b S S1 → Le S.length W W1 → At X.K cl W1 F S1 σ H1 → RelSV X.K cl W1 S1.length x v → Out X.K cl Wx RB F.b W1 S1 σ (g x S1) Q → Q' v H1) : RE X cl Wx f σ H Q' :=
  ⟨W, F, S, a, (Out.bind h).mono fun v H1 ⟨W1, S1, x, g1, l1, r1, q1, o1⟩ => k W1 S1 x v H1 g1 l1 (a.on g1 l1 r1) q1 o1⟩
theorem RA.of {f : Fr → Sto → Res (List SV)} {g : List SV → Sto → Res SV} {Q : VK} {Q' : List V → Hp → Prop} (a : At X.K cl W F S σ H) (h : Out X.K cl Wx (RSV X.K cl) F.b W S σ ((f F S).bind g) Q)
    (k : ∀ W1 S1 x v H1, Gr F.b S S1 → Le S.length W W1 → At X.K cl W1 F S1 σ H1 → Paired (RelSV X.K cl W1 S1.length) x v → Out X.K cl Wx (RSV X.K cl) F.b W1 S1 σ (g x S1) Q → Q' v H1) : RA X cl Wx f σ H Q' :=
  ⟨W, F, S, a, (Out.bind h).mono fun v H1 ⟨W1, S1, x, g1, l1, r1, q1, o1⟩ => k W1 S1 x v H1 g1 l1 (a.on g1 l1 r1) q1 o1⟩

def eVar (i : Nat) : Fr → Sto → Res SV := fun F S => match F.v[i]? with
  | some (some x) => .ok x S
  | _ => .bad
def eC (x : Dv) : Fr → Sto → Res SV := fun _ S => .ok (.d x) S
theorem ev_var (i : Nat) {x : Str} {pos : Pos} (hN : X.N[i]? = some x := by rfl) (hv : Vis X.env.scope x := by first | exact Or.inl rfl | exact Or.inr (Or.inl rfl) | exact Or.inr (Or.inr rfl))
    (hd : (x == ("__debug__" : Str)) = false := by decide +kernel) (hcd : (x == ("__classdict__" : Str)) = false := by decide +kernel) : PE X (.Name x pos) (RE X cl Wx (eVar i)) :=
  PE.weak (pe_var hN hv hd hcd) fun σ H Q ⟨W, F, S, a, o⟩ => by
    unfold eVar at o
    split at o
    · rename_i sv e
      obtain ⟨v, e1, r1⟩ := a.env.get i sv e
      exact ⟨v, e1, o.here a.rel r1⟩
    · exact o.elim
theorem ev_int {i j pos} : PE X (.Constant (.int i) j pos) (RE X cl Wx (eC (.int i))) := PE.weak pe_int fun σ H Q ⟨W, F, S, a, o⟩ => o.here a.rel (RelD.int i)
theorem ev_bl {i j pos} : PE X (.Constant (.bool i) j pos) (RE X cl Wx (eC (.bl i))) := PE.weak pe_bl fun σ H Q ⟨W, F, S, a, o⟩ => o.here a.rel (RelD.bl i)
theorem ev_str {i j pos} (h : PyData.strOk i = true := by decide +kernel) : PE X (.Constant (.str i) j pos) (RE X cl Wx (eC (.str i))) := PE.weak pe_str fun σ H Q ⟨W, F, S, a, o⟩ => o.here a.rel (RelD.str i h)
theorem ev_non {j pos} : PE X (.Constant .none j pos) (RE X cl Wx (eC .non)) := PE.weak pe_non fun σ H Q ⟨W, F, S, a, o⟩ => o.here a.rel RelD.non

/-! arguments -/
def aNil : Fr → Sto → Res (List SV) := fun _ S => .ok [] S
def aCons (f : Fr → Sto → Res SV) (g : Fr → Sto → Res (List SV)) : Fr → Sto → Res (List SV) := fun F S => (f F S).bind fun x S1 => (g F S1).bind fun xs S2 => .ok (x :: xs) S2
theorem av_nil : PA X [] (RA X cl Wx aNil) := PA.weak pa_nil fun σ H Q ⟨W, F, S, a, o⟩ => Out.here (Ra := RSVs X.K cl) (v := []) o a.rel .nil
theorem av_cons {e : Expr} {es : List Expr} {f : Fr → Sto → Res SV} {g : Fr → Sto → Res (List SV)} (h : PE X e (RE X cl Wx f)) (k : PA X es (RA X cl Wx g))
    (hs : starEach (e :: es) X.env = (false, eval e X.env) :: starEach es X.env := by rfl) : PA X (e :: es) (RA X cl Wx (aCons f g)) :=
  PA.weak (pa_cons h k hs) fun σ H Q ⟨W, F, S, a, o⟩ => by
    refine ⟨W, F, S, a, (Out.bind o).mono fun v H1 ⟨W1, S1, x, g1, l1, r1, q1, o1⟩ => ?_⟩
    refine ⟨W1, F, S1, a.on g1 l1 r1, (Out.bind o1).mono fun vs H2 ⟨W2, S2, xs, g2, l2, r2, q2, o2⟩ => ?_⟩
    exact Out.here (Ra := RSVs X.K cl) (v := v :: vs) o2 r2 (.cons (RelSV.le l2 g2.len q1) q2)

/-! tuples and lists that are written -/
def most : Nat := 16777216
theorem most_eq : most = sizeLine := rfl
def eSeq (mk : List Dv → Dv) (f : Fr → Sto → Res (List SV)) : Fr → Sto → Res SV := fun F S => (f F S).bind fun xs S1 => match frzs S1 xs with
  | some (ds, S2) => if ds.length ≤ most then .ok (.d (mk ds)) S2 else .bad
  | none => .bad
abbrev eTup := eSeq .tup
abbrev eLst := eSeq .lst
/-- a list that will change -/
def eLstM (f : Fr → Sto → Res (List SV)) : Fr → Sto → Res SV := fun F S => (f F S).bind fun xs S1 =>
  if xs.length ≤ most then .ok (.m S1.length) (S1 ++ [.lst xs]) else .bad
theorem ev_tup {es : List Expr} {k : Nat} {pos : Pos} {f : Fr → Sto → Res (List SV)} (h : PA X es (RA X cl Wx f)) : PE X (.Tuple es k pos) (RE X cl Wx (eTup f)) :=
  PE.weak (pe_tup h) fun σ H Q ⟨W, F, S, a, o⟩ => RA.of a o fun W1 S1 xs vs H1 g1 l1 a1 q1 o1 => by
    split at o1
    · rename_i ds S2 hf
      split at o1
      · rename_i hm
        obtain ⟨n2, w2, k2⟩ := frzs_ok (K := X.K) (cl := cl) hf
        obtain ⟨W2, e2, l2, r2, q2⟩ := k2 W1 H1 vs a1.rel q1
        refine ⟨by rw [← q2.length, ← most_eq]; exact hm, fun p hp => ?_⟩
        obtain ⟨r3, l3⟩ := r2.newF (ho := .tup vs) hp
        exact o1 _ _ _ ⟨Nat.le_of_eq n2.symm, fun b _ => w2 b⟩ (l2.trans l3 (Nat.le_of_eq n2.symm)) r3 (RelD.tup (.of upd_same) (RelDs.le l3 q2))
      · exact o1.elim
    · exact o1.elim
theorem ev_lst {es : List Expr} {pos : Pos} {f : Fr → Sto → Res (List SV)} (h : PA X es (RA X cl Wx f)) : PE X (.List es pos) (RE X cl Wx (eLst f)) :=
  PE.weak (pe_lst h) fun σ H Q ⟨W, F, S, a, o⟩ => RA.of a o fun W1 S1 xs vs H1 g1 l1 a1 q1 o1 => by
    split at o1
    · rename_i ds S2 hf
      split at o1
      · rename_i hm
        obtain ⟨n2, w2, k2⟩ := frzs_ok (K := X.K) (cl := cl) hf
        obtain ⟨W2, e2, l2, r2, q2⟩ := k2 W1 H1 vs a1.rel q1
        refine ⟨by rw [← q2.length, ← most_eq]; exact hm, fun p hp => ?_⟩
        obtain ⟨r3, l3⟩ := r2.newF (ho := .lst vs) hp
        exact o1 _ _ _ ⟨Nat.le_of_eq n2.symm, fun b _ => w2 b⟩ (l2.trans l3 (Nat.le_of_eq n2.symm)) r3 (RelD.lst (.of upd_same) (RelDs.le l3 q2))
      · exact o1.elim
    · exact o1.elim
theorem ev_lstM {es : List Expr} {pos : Pos} {f : Fr → Sto → Res (List SV)} (h : PA X es (RA X cl Wx f)) : PE X (.List es pos) (RE X cl Wx (eLstM f)) :=
  PE.weak (pe_lst h) fun σ H Q ⟨W, F, S, a, o⟩ => RA.of a o fun W1 S1 xs vs H1 g1 l1 a1 q1 o1 => by
    split at o1
    · rename_i hm
      refine ⟨by rw [← PySem.Paired.length q1, ← most_eq]; exact hm, fun p hp => ?_⟩
      have r3 := a1.rel.newM (mo := .lst xs) (ho := .lst vs) hp ⟨a1.rel.gnone hp, vs, upd_same, RelSVs.le (W1.add_le _ _) (Nat.le_succ _) q1⟩
      exact o1 _ _ _ (.add _ _ _ a1.b) (W1.add_le _ _) r3 ⟨by rw [List.length_append]; exact Nat.lt_succ_self _, by rw [Wd.add_at]⟩
    · exact o1.elim
end
end Ev

set_option Elab.async false
set_option linter.all false
set_option maxRecDepth 100000
/-! Ev3: operators, comparisons, tests. -/
namespace Ev
open PySem L2

mutual
def Dv.pd : Dv → PyData
  | .non => .none | .bl b => .bool b | .int i => .int i | .str s => .str s
  | .tup xs => .tuple (Dv.pds xs) | .lst xs => .list (Dv.pds xs)
  | .dic _ _ => .dict [] | .ins _ _ _ => .dict []
def Dv.pds : List Dv → List PyData
  | [] => []
  | x :: r => Dv.pd x :: Dv.pds r
end
mutual
def Dv.flat : Dv → Bool
  | .tup xs => Dv.flats xs | .lst xs => Dv.flats xs
  | .dic _ _ => false | .ins _ _ _ => false
  | _ => true
def Dv.flats : List Dv → Bool
  | [] => true
  | x :: r => Dv.flat x && Dv.flats r
end
section
variable {K : PySem.W.Frag} {cl : Nat → Addr} {G H : Hp}
theorem RelD.dp (up : ∀ a o, G a = some o → H a = some o) {x : Dv} {v : V} (r : RelD K cl G x v) : x.flat = true → Dp K H v x.pd ∧ x.pd.canLay0 = true := by
  refine RelD.rec (motive_1 := fun x v _ => x.flat = true → Dp K H v x.pd ∧ x.pd.canLay0 = true) (motive_2 := fun xs vs _ => Dv.flats xs = true → DpAll K H vs (Dv.pds xs) ∧ PyData.canLayAll0 (Dv.pds xs) = true)
    (fun _ => ⟨.non, rfl⟩) (fun b _ => ⟨.bl b, rfl⟩) (fun i _ => ⟨.int i, rfl⟩) (fun s h _ => ⟨.str s, h⟩) ?_ ?_ ?_ ?_ (fun _ => ⟨.nil, rfl⟩) ?_ r
  · intro a xs vs h _ ih f
    obtain ⟨h1, h2⟩ := ih f
    exact ⟨.tup (SqT.up up h) h1, h2⟩
  · intro a xs vs h _ ih f
    obtain ⟨h1, h2⟩ := ih f
    exact ⟨.lst (SqL.up up h) h1, h2⟩
  · intro a o ks xs vs _ _ _ _ _ f; cases f
  · intro a dx c fs xs vs _ _ _ _ f; cases f
  · intro x v xs vs _ _ i1 i2 f
    obtain ⟨f1, f2⟩ := Bool.and_eq_true_iff.mp (show (Dv.flat x && Dv.flats xs) = true from f)
    obtain ⟨a1, a2⟩ := i1 f1
    obtain ⟨b1, b2⟩ := i2 f2
    exact ⟨.cons a1 b1, by show (_ && _) = true; rw [a2, b2]; rfl⟩
end

theorem RelDs.dp {K : PySem.W.Frag} {cl : Nat → Addr} {G H : Hp} (up : ∀ a o, G a = some o → H a = some o) : ∀ {xs : List Dv} {vs : List V}, RelDs K cl G xs vs → Dv.flats xs = true → DpAll K H vs (Dv.pds xs) ∧ PyData.canLayAll0 (Dv.pds xs) = true
  | _, _, .nil, _ => ⟨.nil, rfl⟩
  | _, _, .cons (x := x) (xs := xs) h t, f => by
    obtain ⟨f1, f2⟩ := Bool.and_eq_true_iff.mp (show (Dv.flat x && Dv.flats xs) = true from f)
    obtain ⟨a1, a2⟩ := RelD.dp up h f1
    obtain ⟨b1, b2⟩ := RelDs.dp up t f2
    exact ⟨.cons a1 b1, by show (_ && _) = true; rw [a2, b2]; rfl⟩
/-- what a thing shows when it is read -/
def view (S : Sto) : SV → Option Dv
  | .d x => some x
  | .m i => match S[i]? with
    | some (.lst xs) => (rdDs S xs).map .lst
    | some (.dic ks xs) => (rdDs S xs).map (.dic ks)
    | some (.ins c fs xs) => (rdDs S xs).map (.ins c fs)
    | some (.frz x) => some x
    | none => none
@[simp] theorem view_d (S : Sto) (x : Dv) : view S (.d x) = some x := rfl
section
variable {K : PySem.W.Frag} {cl : Nat → Addr} {W : Wd} {S : Sto} {H : Hp}
/-- a list that is read -/
theorem view_lst (r : Rel K cl W S H) {x : SV} {ds : List Dv} {v : V} {n : Nat} (e : view S x = some (.lst ds)) (q : RelSV K cl W n x v) : ∃ a vs, v = .ref a ∧ SqL K H a vs ∧ RelDs K cl W.G ds vs := by
  cases x with
  | d y =>
    cases e
    cases q with
    | lst h t => exact ⟨_, _, rfl, SqL.up r.fz h, t⟩
  | m i =>
    obtain ⟨_, rfl⟩ := q
    simp only [view] at e
    split at e
    · rename_i xs hx
      obtain ⟨g, vs, h1, h2⟩ := r.st i _ hx
      cases z : rdDs S xs with
      | none => rw [z] at e; cases e
      | some ys =>
        rw [z] at e
        cases e
        exact ⟨_, vs, rfl, .of h1, rdDs_rel r z h2⟩
    · rename_i ks xs hx
      cases z : rdDs S xs with
      | none => rw [z] at e; cases e
      | some ys => rw [z] at e; cases e
    · rename_i c fs xs hx
      cases z : rdDs S xs with
      | none => rw [z] at e; cases e
      | some ys => rw [z] at e; cases e
    · rename_i y hy
      cases e
      have := r.st i _ hy
      cases this with
      | lst h t => exact ⟨_, _, rfl, SqL.up r.fz h, t⟩
    · cases e
theorem view_dp (r : Rel K cl W S H) {x : SV} {y : Dv} {v : V} {n : Nat} (e : view S x = some y) (q : RelSV K cl W n x v) (f : y.flat = true) : Dp K H v y.pd ∧ y.pd.canLay0 = true := by
  cases x with
  | d z => cases e; exact RelD.dp r.fz q f
  | m i =>
    have k := e
    simp only [view] at k
    split at k
    · rename_i xs hx
      cases z : rdDs S xs with
      | none => rw [z] at k; cases k
      | some ys =>
        rw [z] at k
        cases k
        obtain ⟨a, vs, rfl, h, t⟩ := view_lst r e q
        obtain ⟨h1, h2⟩ := RelDs.dp r.fz t f
        exact ⟨.lst h h1, h2⟩
    · rename_i ks xs hx
      cases z : rdDs S xs with
      | none => rw [z] at k; cases k
      | some ys => rw [z] at k; cases k; cases f
    · rename_i c fs xs hx
      cases z : rdDs S xs with
      | none => rw [z] at k; cases k
      | some ys => rw [z] at k; cases k; cases f
    · rename_i y' hy
      cases k
      obtain ⟨_, rfl⟩ := q
      exact RelD.dp r.fz (r.st i _ hy) f
    · cases k
end

/-! ### operators -/
section
variable (X : Cx) (cl : CL)
/-- a pure operation's reading: by values -/
def ROp (g : Sto → SV → SV → Option Dv) : R2 := fun x y H Q => ∃ W S a b z, Rel X.K cl W S H ∧ RelSV X.K cl W S.length a x ∧ RelSV X.K cl W S.length b y ∧ g S a b = some z ∧
  ∀ W' H' v, Le S.length W W' → Rel X.K cl W' S H' → RelD X.K cl W'.G z v → Q v H'
end
def eOp (g : Sto → SV → SV → Option Dv) (f h : Fr → Sto → Res SV) : Fr → Sto → Res SV := fun F S => (f F S).bind fun x S1 => (h F S1).bind fun y S2 => match g S2 x y with
  | some z => .ok (.d z) S2
  | none => .bad
section
variable {X : Cx} {cl : CL} {Wx : WX} {e1 e2 : Expr} {f g h : Fr → Sto → Res SV} {pos : Pos}
theorem eOp_use {o : Sto → SV → SV → Option Dv} {σ : St} {H : Hp} {Q : VK} (q : RE X cl Wx (eOp o f h) σ H Q) : tOp (ROp X cl o) (RE X cl Wx f) (RE X cl Wx h) σ H Q := by
  obtain ⟨W, F, S, a, q⟩ := q
  refine RE.of a q fun W1 S1 x v H1 g1 l1 a1 q1 o1 => ?_
  refine RE.of a1 o1 fun W2 S2 y u H2 g2 l2 a2 q2 o2 => ?_
  cases z : o S2 x y with
  | none => simp only [z] at o2; exact o2.elim
  | some w =>
    simp only [z] at o2
    exact ⟨W2, S2, x, y, w, a2.rel, RelSV.le l2 g2.len q1, q2, z, fun W' H' v l r q => o2 W' H' v (.refl _ _) l r q⟩
theorem ev_bin {op : Operator} {o : Sto → SV → SV → Option Dv} (ho : OpR X (binaryOp op) (ROp X cl o)) (ha : PE X e1 (RE X cl Wx f)) (hb : PE X e2 (RE X cl Wx h)) : PE X (.BinOp e1 op e2 pos) (RE X cl Wx (eOp o f h)) :=
  PE.weak (pe_op ho ha hb) fun _ _ _ q => eOp_use q
theorem ev_cmp {op : CmpOp} {o : Sto → SV → SV → Option Dv} (ho : OpR X (compareOp op) (ROp X cl o)) (ha : PE X e1 (RE X cl Wx f)) (hb : PE X e2 (RE X cl Wx h)) (hm : behindInMarks op e2 = false := by rfl) : PE X (.Compare e1 [op] [e2] pos) (RE X cl Wx (eOp o f h)) :=
  PE.weak (pe_cmpR ho ha hb hm) fun _ _ _ q => eOp_use q
/-- a value that is a bool, as a test -/
def tV (f : Fr → Sto → Res SV) : Fr → Sto → Res Bool := fun F S => (f F S).bind fun x S1 => match x with
  | .d (.bl b) => .ok b S1
  | _ => .bad
theorem tV_use {σ : St} {H : Hp} {Q : Bool → Hp → Prop} (q : RT X cl Wx (tV f) σ H Q) : RE X cl Wx f σ H (fun x H1 => ∃ k, x = .bl k ∧ Q k H1) := by
  obtain ⟨W, F, S, a, q⟩ := q
  refine RE.ofT a q fun W1 S1 x v H1 g1 l1 a1 q1 o1 => ?_
  split at o1
  · rename_i b
    cases q1
    exact ⟨b, rfl, o1.here a1.rel rfl⟩
  · exact o1.elim
theorem tv_cmp {op : CmpOp} {o : Sto → SV → SV → Option Dv} (ho : OpR X (compareOp op) (ROp X cl o)) (ha : PE X e1 (RE X cl Wx f)) (hb : PE X e2 (RE X cl Wx h)) (hm : behindInMarks op e2 = false := by rfl) : PT X (.Compare e1 [op] [e2] pos) (RT X cl Wx (tV (eOp o f h))) :=
  PT.weak (pt_cmpR ho ha hb hm) fun _ _ _ q => eOp_use (tV_use q)
/-- an expression that gives a bool, as a test (no comparison, and, or, not) -/
theorem tv_val (ha : PE X e1 (RE X cl Wx f)) (he : ∀ whole, isTrue e1 X.env whole = (do let v ← whole; standAt e1.pos; holding [v] (truthy v)) := by intro _; rfl) : PT X e1 (RT X cl Wx (tV f)) :=
  PT.weak (pt_val ha he) fun _ _ _ q => tV_use q
/-! and, or, not -/
def tAn (f g : Fr → Sto → Res Bool) : Fr → Sto → Res Bool := fun F S => (f F S).bind fun c S1 => if c = true then g F S1 else .ok false S1
def tOrr (f g : Fr → Sto → Res Bool) : Fr → Sto → Res Bool := fun F S => (f F S).bind fun c S1 => if c = true then .ok true S1 else g F S1
def tNo (f : Fr → Sto → Res Bool) : Fr → Sto → Res Bool := fun F S => (f F S).bind fun c S1 => .ok (!c) S1
theorem PW.weak {X : Cx} {e : Expr} {t t' : TT} (h : PW X e t) (k : ∀ σ H Q, t' σ H Q → t σ H Q) : PW X e t' := ⟨fun wh pins s σ H Q I q => h.run wh pins s σ H Q I (k σ H Q q)⟩
section
variable {tf tg : Fr → Sto → Res Bool} {rest : List Expr}
theorem tv_and1 (ha : PT X e1 (RT X cl Wx tf)) : PW X (.BoolOp .And [e1] pos) (RT X cl Wx tf) := pw_and1 ha
theorem tv_or1 (ha : PT X e1 (RT X cl Wx tf)) : PW X (.BoolOp .Or [e1] pos) (RT X cl Wx tf) := pw_or1 ha
theorem tv_and (ha : PT X e1 (RT X cl Wx tf)) (hb : PW X (.BoolOp .And (e2 :: rest) pos) (RT X cl Wx tg)) : PW X (.BoolOp .And (e1 :: e2 :: rest) pos) (RT X cl Wx (tAn tf tg)) :=
  PW.weak (pw_and ha hb) fun σ H Q ⟨W, F, S, a, q⟩ => RT.of a q fun W1 S1 c H1 g1 l1 a1 o1 => by
    split at o1
    · rename_i hc; rw [if_pos hc]; exact ⟨W1, F, S1, a1, o1⟩
    · rename_i hc; rw [if_neg hc]; exact o1.here a1.rel rfl
theorem tv_or (ha : PT X e1 (RT X cl Wx tf)) (hb : PW X (.BoolOp .Or (e2 :: rest) pos) (RT X cl Wx tg)) : PW X (.BoolOp .Or (e1 :: e2 :: rest) pos) (RT X cl Wx (tOrr tf tg)) :=
  PW.weak (pw_or ha hb) fun σ H Q ⟨W, F, S, a, q⟩ => RT.of a q fun W1 S1 c H1 g1 l1 a1 o1 => by
    split at o1
    · rename_i hc; rw [if_pos hc]; exact o1.here a1.rel rfl
    · rename_i hc; rw [if_neg hc]; exact ⟨W1, F, S1, a1, o1⟩
theorem tv_not (ha : PT X e1 (RT X cl Wx tf)) : PT X (.UnaryOp .Not e1 pos) (RT X cl Wx (tNo tf)) :=
  PT.weak (pt_not ha) fun σ H Q ⟨W, F, S, a, q⟩ => RT.of a q fun W1 S1 c H1 g1 l1 a1 o1 => o1.here a1.rel rfl
theorem tv_pw (h : PW X e1 (RT X cl Wx tf)) : PT X e1 (RT X cl Wx tf) := h.pt
/-! the same as values: all but the last are bools -/
def eAn (f g : Fr → Sto → Res SV) : Fr → Sto → Res SV := fun F S => (f F S).bind fun x S1 => match x with
  | .d (.bl true) => g F S1
  | .d (.bl false) => .ok (.d (.bl false)) S1
  | _ => .bad
def eOr (f g : Fr → Sto → Res SV) : Fr → Sto → Res SV := fun F S => (f F S).bind fun x S1 => match x with
  | .d (.bl true) => .ok (.d (.bl true)) S1
  | .d (.bl false) => g F S1
  | _ => .bad
def eNo (f : Fr → Sto → Res SV) : Fr → Sto → Res SV := fun F S => (f F S).bind fun x S1 => match x with
  | .d (.bl b) => .ok (.d (.bl (!b))) S1
  | _ => .bad
theorem ev_one {op} (h : PE X e1 (RE X cl Wx f)) : PE X (.BoolOp op [e1] pos) (RE X cl Wx f) := pe_one h
theorem ev_and (ha : PE X e1 (RE X cl Wx f)) (hb : PE X (.BoolOp .And (e2 :: rest) pos) (RE X cl Wx g)) : PE X (.BoolOp .And (e1 :: e2 :: rest) pos) (RE X cl Wx (eAn f g)) :=
  PE.weak (pe_and ha hb) fun σ H Q ⟨W, F, S, a, q⟩ => RE.of a q fun W1 S1 x v H1 g1 l1 a1 q1 o1 => by
    split at o1
    · cases q1; exact ⟨true, rfl, by rw [if_pos rfl]; exact ⟨W1, F, S1, a1, o1⟩⟩
    · cases q1; exact ⟨false, rfl, by rw [if_neg Bool.false_ne_true]; exact o1.here a1.rel (RelD.bl false)⟩
    · exact o1.elim
theorem ev_or (ha : PE X e1 (RE X cl Wx f)) (hb : PE X (.BoolOp .Or (e2 :: rest) pos) (RE X cl Wx g)) : PE X (.BoolOp .Or (e1 :: e2 :: rest) pos) (RE X cl Wx (eOr f g)) :=
  PE.weak (pe_or ha hb) fun σ H Q ⟨W, F, S, a, q⟩ => RE.of a q fun W1 S1 x v H1 g1 l1 a1 q1 o1 => by
    split at o1
    · cases q1; exact ⟨true, rfl, by rw [if_pos rfl]; exact o1.here a1.rel (RelD.bl true)⟩
    · cases q1; exact ⟨false, rfl, by rw [if_neg Bool.false_ne_true]; exact ⟨W1, F, S1, a1, o1⟩⟩
    · exact o1.elim
theorem ev_not (ha : PE X e1 (RE X cl Wx f)) : PE X (.UnaryOp .Not e1 pos) (RE X cl Wx (eNo f)) :=
  PE.weak (pe_not ha) fun σ H Q ⟨W, F, S, a, q⟩ => RE.of a q fun W1 S1 x v H1 g1 l1 a1 q1 o1 => by
    split at o1
    · rename_i b; cases q1; exact ⟨b, rfl, o1.here a1.rel (RelD.bl (!b))⟩
    · exact o1.elim
def eIf (t : Fr → Sto → Res Bool) (f g : Fr → Sto → Res SV) : Fr → Sto → Res SV := fun F S => (t F S).bind fun c S1 => if c = true then f F S1 else g F S1
theorem ev_ifExp {c : Expr} (hc : PT X c (RT X cl Wx tf)) (ha : PE X e1 (RE X cl Wx f)) (hb : PE X e2 (RE X cl Wx g)) : PE X (.IfExp c e1 e2 pos) (RE X cl Wx (eIf tf f g)) :=
  PE.weak (pe_ifExp hc ha hb) fun σ H Q ⟨W, F, S, a, q⟩ => RT.of a q fun W1 S1 c H1 g1 l1 a1 o1 => by
    split at o1
    · rename_i hc; rw [if_pos hc]; exact ⟨W1, F, S1, a1, o1⟩
    · rename_i hc; rw [if_neg hc]; exact ⟨W1, F, S1, a1, o1⟩
end
end
end Ev

set_option Elab.async false
set_option linter.all false
set_option maxRecDepth 100000
/-! Ev4: the operators one by one. -/
namespace Ev
open PySem L2

section
variable {K : PySem.W.Frag} {cl : Nat → Addr} {W : Wd} {S : Sto} {H : Hp}
/-- what shows as no list, dict or instance that changes is told by its data -/
def Dv.lone : Dv → Bool
  | .lst _ => false | .dic _ _ => false | .ins _ _ _ => false
  | _ => true
theorem view_lone (r : Rel K cl W S H) {x : SV} {y : Dv} {v : V} {n : Nat} (e : view S x = some y) (q : RelSV K cl W n x v) (f : y.lone = true) : RelD K cl W.G y v := by
  cases x with
  | d z => cases e; exact q
  | m i =>
    have k := e
    simp only [view] at k
    split at k
    · rename_i xs hx
      cases z : rdDs S xs with
      | none => rw [z] at k; cases k
      | some ys => rw [z] at k; cases k; cases f
    · rename_i ks xs hx
      cases z : rdDs S xs with
      | none => rw [z] at k; cases k
      | some ys => rw [z] at k; cases k; cases f
    · rename_i c fs xs hx
      cases z : rdDs S xs with
      | none => rw [z] at k; cases k
      | some ys => rw [z] at k; cases k; cases f
    · rename_i y' hy
      cases k
      obtain ⟨_, rfl⟩ := q
      exact r.st i _ hy
    · cases k
theorem view_int (r : Rel K cl W S H) {x : SV} {i : Int} {v : V} {n : Nat} (e : view S x = some (.int i)) (q : RelSV K cl W n x v) : v = .int i := by
  cases view_lone r e q rfl; rfl
theorem view_bl (r : Rel K cl W S H) {x : SV} {i : Bool} {v : V} {n : Nat} (e : view S x = some (.bl i)) (q : RelSV K cl W n x v) : v = .bl i := by
  cases view_lone r e q rfl; rfl
theorem view_str (r : Rel K cl W S H) {x : SV} {i : Str} {v : V} {n : Nat} (e : view S x = some (.str i)) (q : RelSV K cl W n x v) : v = .str i ∧ PyData.strOk i = true := by
  cases view_lone r e q rfl with
  | str _ h => exact ⟨rfl, h⟩
theorem view_non (r : Rel K cl W S H) {x : SV} {v : V} {n : Nat} (e : view S x = some .non) (q : RelSV K cl W n x v) : v = .non := by
  cases view_lone r e q rfl; rfl
theorem view_tup (r : Rel K cl W S H) {x : SV} {ds : List Dv} {v : V} {n : Nat} (e : view S x = some (.tup ds)) (q : RelSV K cl W n x v) : ∃ a vs, v = .ref a ∧ SqT K H a vs ∧ RelDs K cl W.G ds vs ∧ RelD K cl W.G (.tup ds) v := by
  have z := view_lone r e q rfl
  cases id z with
  | tup h t => exact ⟨_, _, rfl, SqT.up r.fz h, t, z⟩
end
theorem strOk_add {a b : Str} (h : PyData.strOk a = true) (k : PyData.strOk b = true) : PyData.strOk (a ++ b) = true := by
  unfold PyData.strOk at *
  show Array.all (a.cps ++ b.cps) _ = true
  rw [Array.all_append, h, k]; rfl

/-! ### two rules of the model that the layer lacks -/
section
variable {X : Cx}
theorem op_catT0 : OpR X (binaryOp .Add) (fun x y H Q => ∃ a b ys, x = .ref a ∧ y = .ref b ∧ SqT X.K H a [] ∧ SqT X.K H b ys ∧ Q (.ref b) H) := by
  intro pins s σ H x y v u Q I rx ry h
  obtain ⟨a, b, ys, rfl, rfl, ha, hb, q⟩ := h
  cases rx
  cases ry
  obtain ⟨its, r1, p1, _⟩ := I.tuple ha
  obtain ⟨its2, r2, p2, _⟩ := I.tuple hb
  cases r1
  obtain ⟨⟨cls, dd, data, sl⟩, ho, hc, n, hd⟩ := id p1
  obtain ⟨⟨cls2, dd2, data2, sl2⟩, ho2, hc2, n2, hd2⟩ := id p2
  simp only at hc hd hc2 hd2
  subst hc hd hc2 hd2
  exact PySem.concat_meets ⟨_, ho, rfl⟩ ⟨_, ho2, rfl⟩ PySem.noFill_tuple_add PySem.seq_tuple_add PySem.F.slot_tuple_add PySem.F.entry_tuple_add (PySem.F.args_tuple_add_2 _ _)
      (PyProof.Rows.tuple_addW0 a b _ its2.toArray n n2 dd dd2 sl sl2 rfl) ⟨ho, ho2, ⟨.ref b, H, I, rfl, q⟩⟩
theorem op_catL : OpR X (binaryOp .Add) (fun x y H Q => ∃ a b xs ys, x = .ref a ∧ y = .ref b ∧ SqL X.K H a xs ∧ SqL X.K H b ys ∧ xs.length + ys.length ≤ sizeLine ∧ ∀ p, H p = none → Q (.ref p) (upd H p (.lst (xs ++ ys)))) := by
  intro pins s σ H x y v u Q I rx ry h
  obtain ⟨a, b, xs, ys, rfl, rfl, ha, hb, hz, q⟩ := h
  cases rx
  cases ry
  obtain ⟨its, r1, p1, _⟩ := I.list ha
  obtain ⟨its2, r2, p2, _⟩ := I.list hb
  have l1 := r1.length
  have l2 := r2.length
  obtain ⟨⟨cls, dd, data, sl⟩, n, ho, hc, hn, hd⟩ := id p1
  obtain ⟨⟨cls2, dd2, data2, sl2⟩, n2, ho2, hc2, hn2, hd2⟩ := id p2
  simp only at hc hd hn hc2 hd2 hn2
  subst hc hd hc2 hd2
  have e : its.toArray ++ its2.toArray = (its ++ its2).toArray := by simp
  refine PySem.concat_meets ⟨_, ho, rfl⟩ ⟨_, ho2, rfl⟩ PySem.noFill_list_add PySem.seq_list_add PySem.F.slot_list_add PySem.F.entry_list_add (PySem.F.args_list_add_2 _ _)
      (PyProof.Rows.list_addW a b its.toArray its2.toArray n n2 dd dd2 sl sl2 (by rw [List.size_toArray, List.size_toArray]; omega)) ⟨ho, ho2, ?_⟩
  rw [e]
  refine ⟨.ref s.heap.objs.size, _, I.laid (t' := s.toks) (o := .lst (xs ++ ys)) (fun b ob q => Heap.get?_push_of_some _ q) (Nat.le_refl _) ?_, rfl, q _ (I.hok.fresh (Nat.le_refl _))⟩
  exact ⟨by rw [List.length_append]; exact hz, its ++ its2, 0, r1.append r2, Heap.get?_push_size _ rfl⟩
end

/-! ### + - * // % ** -/
def opAdd (S : Sto) (a b : SV) : Option Dv := match view S a, view S b with
  | some (.int i), some (.int j) => some (.int (i + j))
  | some (.str i), some (.str j) => if i.length + j.length ≤ most then some (.str (i ++ j)) else none
  | some (.tup xs), some (.tup ys) => if xs.length + ys.length ≤ most then some (.tup (xs ++ ys)) else none
  | some (.lst xs), some (.lst ys) => if xs.length + ys.length ≤ most then some (.lst (xs ++ ys)) else none
  | _, _ => none
theorem RelDs.append {K : PySem.W.Frag} {cl : Nat → Addr} {G : Hp} : ∀ {xs ys : List Dv} {vs ws : List V}, RelDs K cl G xs vs → RelDs K cl G ys ws → RelDs K cl G (xs ++ ys) (vs ++ ws)
  | _, _, _, _, .nil, s => s
  | _, _, _, _, .cons r t, s => .cons r (RelDs.append t s)
section
variable {X : Cx} {cl : CL}
/-- a new list or tuple as a result -/
theorem new_lst {K : PySem.W.Frag} {W : Wd} {S : Sto} {H : Hp} {Q : VK} {ds : List Dv} {vs : List V} (r : Rel K cl W S H) (t : RelDs K cl W.G ds vs)
    (k : ∀ W' H' v, Le S.length W W' → Rel K cl W' S H' → RelD K cl W'.G (.lst ds) v → Q v H') (p : Addr) (hp : H p = none) : Q (.ref p) (upd H p (.lst vs)) := by
  obtain ⟨r3, l3⟩ := r.newF (ho := .lst vs) hp
  exact k _ _ _ l3 r3 (.lst (.of upd_same) (RelDs.le l3 t))
theorem new_tup {K : PySem.W.Frag} {W : Wd} {S : Sto} {H : Hp} {Q : VK} {ds : List Dv} {vs : List V} (r : Rel K cl W S H) (t : RelDs K cl W.G ds vs)
    (k : ∀ W' H' v, Le S.length W W' → Rel K cl W' S H' → RelD K cl W'.G (.tup ds) v → Q v H') (p : Addr) (hp : H p = none) : Q (.ref p) (upd H p (.tup vs)) := by
  obtain ⟨r3, l3⟩ := r.newF (ho := .tup vs) hp
  exact k _ _ _ l3 r3 (.tup (.of upd_same) (RelDs.le l3 t))
theorem ov_add : OpR X (binaryOp .Add) (ROp X cl opAdd) := by
  refine OpR.weak ((op_add (X := X)).or (op_add_str.or (op_catT.or (op_catT0.or op_catL)))) fun x y H Q ⟨W, S, a, b, z, r, ra, rb, e, k⟩ => ?_
  unfold opAdd at e
  split at e
  · rename_i i j ea eb
    cases e
    exact .inl ⟨i, j, view_int r ea ra, view_int r eb rb, k W H _ (.refl _ _) r (.int _)⟩
  · rename_i i j ea eb
    split at e
    · rename_i hm
      cases e
      obtain ⟨e1, k1⟩ := view_str r ea ra
      obtain ⟨e2, k2⟩ := view_str r eb rb
      exact .inr (.inl ⟨i, j, e1, e2, hm, k W H _ (.refl _ _) r (.str _ (strOk_add k1 k2))⟩)
    · cases e
  · rename_i xs ys ea eb
    split at e
    · rename_i hm
      cases e
      obtain ⟨p, vs, e1, s1, t1, z1⟩ := view_tup r ea ra
      obtain ⟨q, ws, e2, s2, t2, z2⟩ := view_tup r eb rb
      have n1 := t1.length
      have n2 := t2.length
      by_cases hx : vs = []
      · subst hx
        cases t1
        exact .inr (.inr (.inr (.inl ⟨p, q, ws, e1, e2, s1, s2, k W H _ (.refl _ _) r (e2 ▸ z2)⟩)))
      · refine .inr (.inr (.inl ⟨p, q, vs, ws, e1, e2, s1, s2, hx, by rw [← n1, ← n2]; exact hm, fun hy => ?_, fun hy => ?_⟩))
        · subst hy
          cases t2
          rw [List.append_nil] at k
          exact k W H _ (.refl _ _) r (e1 ▸ z1)
        · exact new_tup r (t1.append t2) k
    · cases e
  · rename_i xs ys ea eb
    split at e
    · rename_i hm
      cases e
      obtain ⟨p, vs, e1, s1, t1⟩ := view_lst r ea ra
      obtain ⟨q, ws, e2, s2, t2⟩ := view_lst r eb rb
      exact .inr (.inr (.inr (.inr ⟨p, q, vs, ws, e1, e2, s1, s2, by rw [← t1.length, ← t2.length]; exact hm, new_lst r (t1.append t2) k⟩)))
    · cases e
  · cases e
/-- an operation on ints, by its rule -/
def opInt (C : Int → Int → Bool) (g : Int → Int → Dv) (S : Sto) (a b : SV) : Option Dv := match view S a, view S b with
  | some (.int i), some (.int j) => if C i j = true then some (g i j) else none
  | _, _ => none
theorem ov_int {f : Value → Value → Sem Value} {C : Int → Int → Bool} {D : Int → Int → Prop} {g : Int → Int → Dv} {gv : Int → Int → V} (h : OpR X f (rI D gv)) (hc : ∀ i j, C i j = true → D i j) (hg : ∀ K cl G i j, RelD K cl G (g i j) (gv i j)) : OpR X f (ROp X cl (opInt C g)) :=
  OpR.weak h fun x y H Q ⟨W, S, a, b, z, r, ra, rb, e, k⟩ => by
    unfold opInt at e
    split at e
    · rename_i i j ea eb
      split at e
      · rename_i hcc
        cases e
        exact ⟨i, j, view_int r ea ra, view_int r eb rb, hc i j hcc, k W H _ (.refl _ _) r (hg _ _ _ _ _)⟩
      · cases e
    · cases e
theorem rI_of {f : Value → Value → Sem Value} {g : Int → Int → V} (h : OpR X f (rI0 g)) : OpR X f (rI (fun _ _ => True) g) := OpR.weak h fun x y H Q ⟨i, j, e1, e2, _, q⟩ => ⟨i, j, e1, e2, q⟩
abbrev yes : Int → Int → Bool := fun _ _ => true
def big64 (i : Int) : Bool := decide (-18446744073709551616 < i) && decide (i < 18446744073709551616)
abbrev opSub := opInt yes fun i j => .int (i - j)
abbrev opMul := opInt (fun i j => big64 i || big64 j) fun i j => .int (i * j)
abbrev opDiv := opInt (fun _ j => decide (0 < j) && decide (j < 1073741824)) fun i j => .int (i / j)
abbrev opMod := opInt (fun _ j => decide (0 < j)) fun i j => .int (i % j)
abbrev opPow := opInt (fun i j => decide (0 ≤ j) && decide (j ≤ 1000000) && decide (i.natAbs < 18446744073709551616)) fun i j => .int (i ^ j.toNat)
theorem ov_sub : OpR X (binaryOp .Sub) (ROp X cl opSub) := ov_int (rI_of op_sub) (fun _ _ _ => trivial) fun _ _ _ i j => .int _
theorem ov_mul : OpR X (binaryOp .Mult) (ROp X cl opMul) := ov_int op_mul (fun i j h => by
  unfold big64 at h
  simp only [Bool.or_eq_true, Bool.and_eq_true, decide_eq_true_eq] at h
  unfold CMul
  omega) fun _ _ _ i j => .int _
theorem ov_div : OpR X (binaryOp .FloorDiv) (ROp X cl opDiv) := ov_int op_fdiv (fun i j h => by
  simp only [Bool.and_eq_true, decide_eq_true_eq] at h
  exact h) fun _ _ _ i j => .int _
theorem ov_mod : OpR X (binaryOp .Mod) (ROp X cl opMod) := ov_int op_mod (fun i j h => by simpa using h) fun _ _ _ i j => .int _
theorem ov_pow : OpR X (binaryOp .Pow) (ROp X cl opPow) := ov_int op_pow (fun i j h => by
  simp only [Bool.and_eq_true, decide_eq_true_eq] at h
  unfold CPow
  omega) fun _ _ _ i j => .int _

/-! ### comparisons -/
def deq (x y : Dv) : Option Bool := if x.flat && y.flat && decide (min x.pd.depth y.pd.depth ≤ 199) then some (PyData.eqv x.pd y.pd) else none
def opEq (S : Sto) (a b : SV) : Option Dv := match view S a, view S b with
  | some x, some y => (deq x y).map .bl
  | _, _ => none
def opNe (S : Sto) (a b : SV) : Option Dv := match view S a, view S b with
  | some x, some y => (deq x y).map fun c => .bl (!c)
  | _, _ => none
theorem op_eqR (hu : X.A.units + 200 < cLine) : OpR X (compareOp .Eq) (fun x y H Q => ∃ d e, Dp X.K H x d ∧ Dp X.K H y e ∧ d.canLay0 = true ∧ e.canLay0 = true ∧ min d.depth e.depth ≤ 199 ∧ Q (.bl (PyData.eqv d e)) H) := by
  intro pins s σ H x y v u Q I rx ry h
  obtain ⟨d, e, hd, he, sd, se, hm, q⟩ := h
  obtain ⟨as, r1⟩ := Dp.reads I d x v hd rx
  obtain ⟨bs, r2⟩ := Dp.reads I e y u he ry
  exact PySem.SeqAt.compareEq_reads r1 r2 sd se (by omega) ⟨.bl _, H, I, rfl, q⟩
theorem op_neR (hu : X.A.units + 200 < cLine) : OpR X (compareOp .NotEq) (fun x y H Q => ∃ d e, Dp X.K H x d ∧ Dp X.K H y e ∧ d.canLay0 = true ∧ e.canLay0 = true ∧ min d.depth e.depth ≤ 199 ∧ Q (.bl (!PyData.eqv d e)) H) := by
  intro pins s σ H x y v u Q I rx ry h
  obtain ⟨d, e, hd, he, sd, se, hm, q⟩ := h
  obtain ⟨as, r1⟩ := Dp.reads I d x v hd rx
  obtain ⟨bs, r2⟩ := Dp.reads I e y u he ry
  exact PySem.SeqAt.compareNe_reads r1 r2 sd se (by omega) ⟨.bl _, H, I, rfl, q⟩
theorem ov_eq (hu : X.A.units + 200 < cLine) : OpR X (compareOp .Eq) (ROp X cl opEq) := OpR.weak (op_eqR hu) fun x y H Q ⟨W, S, a, b, z, r, ra, rb, e, k⟩ => by
  unfold opEq at e
  split at e
  · rename_i p q ea eb
    unfold deq at e
    split at e
    · rename_i hc
      cases e
      simp only [Bool.and_eq_true, decide_eq_true_eq] at hc
      obtain ⟨⟨f1, f2⟩, f3⟩ := hc
      obtain ⟨d1, c1⟩ := view_dp r ea ra f1
      obtain ⟨d2, c2⟩ := view_dp r eb rb f2
      exact ⟨_, _, d1, d2, c1, c2, f3, k W H _ (.refl _ _) r (.bl _)⟩
    · cases e
  · cases e
theorem ov_ne (hu : X.A.units + 200 < cLine) : OpR X (compareOp .NotEq) (ROp X cl opNe) := OpR.weak (op_neR hu) fun x y H Q ⟨W, S, a, b, z, r, ra, rb, e, k⟩ => by
  unfold opNe at e
  split at e
  · rename_i p q ea eb
    unfold deq at e
    split at e
    · rename_i hc
      cases e
      simp only [Bool.and_eq_true, decide_eq_true_eq] at hc
      obtain ⟨⟨f1, f2⟩, f3⟩ := hc
      obtain ⟨d1, c1⟩ := view_dp r ea ra f1
      obtain ⟨d2, c2⟩ := view_dp r eb rb f2
      exact ⟨_, _, d1, d2, c1, c2, f3, k W H _ (.refl _ _) r (.bl _)⟩
    · cases e
  · cases e
abbrev opLt := opInt yes fun i j => .bl (decide (i < j))
abbrev opLe := opInt yes fun i j => .bl (decide (i ≤ j))
abbrev opGt := opInt yes fun i j => .bl (decide (j < i))
abbrev opGe := opInt yes fun i j => .bl (decide (j ≤ i))
theorem ov_lt : OpR X (compareOp .Lt) (ROp X cl opLt) := ov_int (rI_of op_lt) (fun _ _ _ => trivial) fun _ _ _ i j => .bl _
theorem ov_le : OpR X (compareOp .LtE) (ROp X cl opLe) := ov_int (rI_of op_le) (fun _ _ _ => trivial) fun _ _ _ i j => .bl _
theorem ov_gt : OpR X (compareOp .Gt) (ROp X cl opGt) := ov_int (rI_of op_gt) (fun _ _ _ => trivial) fun _ _ _ i j => .bl _
theorem ov_ge : OpR X (compareOp .GtE) (ROp X cl opGe) := ov_int (rI_of op_ge) (fun _ _ _ => trivial) fun _ _ _ i j => .bl _
def SV.isNon : SV → Bool
  | .d .non => true
  | _ => false
def opIsN (S : Sto) (a b : SV) : Option Dv := match view S b with
  | some .non => some (.bl a.isNon)
  | _ => none
def opIsNot (S : Sto) (a b : SV) : Option Dv := match view S b with
  | some .non => some (.bl (!a.isNon))
  | _ => none
theorem non_iff {K : PySem.W.Frag} {W : Wd} {n : Nat} {a : SV} {x : V} (r : RelSV K cl W n a x) : decide (x = .non) = a.isNon := by
  cases a with
  | m i => obtain ⟨_, rfl⟩ := r; rfl
  | d y => cases r <;> rfl
theorem ov_is : OpR X (compareOp .Is) (ROp X cl opIsN) := OpR.weak op_isN fun x y H Q ⟨W, S, a, b, z, r, ra, rb, e, k⟩ => by
  unfold opIsN at e
  split at e
  · rename_i eb
    cases e
    refine ⟨view_non r eb rb, ?_⟩
    rw [non_iff ra]
    exact k W H _ (.refl _ _) r (.bl _)
  · cases e
theorem ov_isnot : OpR X (compareOp .IsNot) (ROp X cl opIsNot) := OpR.weak op_notN fun x y H Q ⟨W, S, a, b, z, r, ra, rb, e, k⟩ => by
  unfold opIsNot at e
  split at e
  · rename_i eb
    cases e
    refine ⟨view_non r eb rb, ?_⟩
    rw [non_iff ra]
    exact k W H _ (.refl _ _) r (.bl _)
  · cases e
end
end Ev

set_option Elab.async false
set_option linter.all false
set_option maxRecDepth 100000
/-! Ev5: items, in, built-in functions, isinstance. -/
namespace Ev
open PySem L2

/-- the items of a list or tuple as they lie -/
def itemsOf (S : Sto) : SV → Option (List SV)
  | .d (.lst xs) => some (xs.map .d)
  | .d (.tup xs) => some (xs.map .d)
  | .d _ => none
  | .m i => match S[i]? with
    | some (.lst xs) => some xs
    | some (.frz (.lst xs)) => some (xs.map .d)
    | some (.frz (.tup xs)) => some (xs.map .d)
    | _ => none
/-- the pairs of a dict as they lie -/
def dictOf (S : Sto) : SV → Option (List Key × List SV)
  | .d (.dic ks xs) => some (ks, xs.map .d)
  | .d _ => none
  | .m i => match S[i]? with
    | some (.dic ks xs) => some (ks, xs)
    | some (.frz (.dic ks xs)) => some (ks, xs.map .d)
    | _ => none
def lookK {α : Type} (k : Key) : List Key → List α → Option α
  | a :: ks, x :: xs => if a = k then some x else lookK k ks xs
  | _, _ => none
section
variable {K : PySem.W.Frag} {cl : Nat → Addr} {W : Wd} {S : Sto} {H : Hp} {n : Nat}
theorem RelDs.sv : ∀ {xs : List Dv} {vs : List V}, RelDs K cl W.G xs vs → Paired (RelSV K cl W n) (xs.map .d) vs
  | _, _, .nil => .nil
  | _, _, .cons a b => .cons a (RelDs.sv b)
theorem items_rel (r : Rel K cl W S H) {x : SV} {xs : List SV} {v : V} (e : itemsOf S x = some xs) (q : RelSV K cl W S.length x v) : ∃ a vs, v = .ref a ∧ (SqL K H a vs ∨ SqT K H a vs) ∧ Paired (RelSV K cl W S.length) xs vs := by
  cases x with
  | d y =>
    cases y <;> first | (cases e; done) | skip
    · cases e; cases q with
      | tup h t => exact ⟨_, _, rfl, .inr (SqT.up r.fz h), t.sv⟩
    · cases e; cases q with
      | lst h t => exact ⟨_, _, rfl, .inl (SqL.up r.fz h), t.sv⟩
  | m i =>
    obtain ⟨_, rfl⟩ := q
    simp only [itemsOf] at e
    split at e
    · rename_i ys hy
      cases e
      obtain ⟨_, vs, h1, h2⟩ := r.st i _ hy
      exact ⟨_, vs, rfl, .inl (.of h1), h2⟩
    · rename_i ys hy
      cases e
      have := r.st i _ hy
      cases this with
      | lst h t => exact ⟨_, _, rfl, .inl (SqL.up r.fz h), t.sv⟩
    · rename_i ys hy
      cases e
      have := r.st i _ hy
      cases this with
      | tup h t => exact ⟨_, _, rfl, .inr (SqT.up r.fz h), t.sv⟩
    · cases e
theorem Rd_of_core {a : Addr} {o : HO} {kvs : List (Key × V)} (h : H a = some o) (c : core o = .dK kvs) : Rd H a (.dK kvs) := by
  cases o <;> first
    | (cases c; exact .inl h)
    | (rename_i ob u
       have c' : u = .dK kvs := c
       subst c'
       exact .inr ⟨_, h⟩)
    | (cases c)
theorem dict_rel (r : Rel K cl W S H) {x : SV} {ks : List Key} {xs : List SV} {v : V} (e : dictOf S x = some (ks, xs)) (q : RelSV K cl W S.length x v) : ∃ a vs, v = .ref a ∧ Rd H a (.dK (ks.zip vs)) ∧ ks.length = xs.length ∧ Paired (RelSV K cl W S.length) xs vs := by
  cases x with
  | d y =>
    cases y <;> first | (cases e; done) | skip
    cases e; cases q with
    | dic h c l t => exact ⟨_, _, rfl, Rd_of_core (r.fz _ _ h) c, by rw [List.length_map]; exact l, t.sv⟩
  | m i =>
    obtain ⟨_, rfl⟩ := q
    simp only [dictOf] at e
    split at e
    · rename_i ks' ys hy
      cases e
      obtain ⟨_, vs, h1, h3, h2⟩ := r.st i _ hy
      exact ⟨_, vs, rfl, .inl h1, h3, h2⟩
    · rename_i ks' ys hy
      cases e
      have := r.st i _ hy
      cases this with
      | dic h c l t => exact ⟨_, _, rfl, Rd_of_core (r.fz _ _ h) c, by rw [List.length_map]; exact l, t.sv⟩
    · cases e
theorem look_rel (k : Key) : ∀ {ks : List Key} {xs : List SV} {vs : List V}, ks.length = xs.length → Paired (RelSV K cl W n) xs vs →
    (∀ x, lookK k ks xs = some x → ∃ v, valV (ks.zip vs) k = some v ∧ RelSV K cl W n x v) ∧ (lookK k ks xs = none → valV (ks.zip vs) k = none)
  | [], [], [], _, .nil => ⟨fun _ e => (by cases e), fun _ => rfl⟩
  | a :: ks, x :: xs, v :: vs, l, .cons q t => by
    obtain ⟨i1, i2⟩ := look_rel k (Nat.succ.inj l) t
    have e0 : valV ((a :: ks).zip (v :: vs)) k = if a = k then some v else valV (ks.zip vs) k := by
      unfold valV
      rw [List.zip_cons_cons, List.find?_cons]
      by_cases h : a = k
      · simp [h]
      · simp [h]
    unfold lookK
    rw [e0]
    by_cases h : a = k
    · rw [if_pos h, if_pos h]
      exact ⟨fun y e => (by cases e; exact ⟨v, rfl, q⟩), fun e => (by cases e)⟩
    · rw [if_neg h, if_neg h]
      exact ⟨i1, i2⟩
  | [], _ :: _, _, l, _ => by cases l
  | _ :: _, [], _, l, _ => by cases l
theorem paired_get {α β : Type} {R : α → β → Prop} : ∀ {xs : List α} {ys : List β} {i : Nat} {x : α}, Paired R xs ys → xs[i]? = some x → ∃ y, ys[i]? = some y ∧ R x y
  | _, _, _, _, .nil, e => by simp at e
  | _, _, 0, _, .cons r _, e => by simp at e; subst e; exact ⟨_, rfl, r⟩
  | _, _, i + 1, x, .cons _ t, e => by
    obtain ⟨y, h1, h2⟩ := paired_get (i := i) (x := x) t (by simpa using e)
    exact ⟨y, by simpa using h1, h2⟩
theorem atI_rel {xs : List SV} {vs : List V} {i : Int} {x : SV} (p : Paired (RelSV K cl W n) xs vs) (e : atI xs i = some x) : ∃ v, atI vs i = some v ∧ RelSV K cl W n x v := by
  unfold atI at *
  rw [← PySem.Paired.length p]
  cases h : ixN xs.length i with
  | none => rw [h] at e; cases e
  | some j =>
    rw [h] at e
    exact paired_get p e
end

/-! ### x[i] -/
def kOf : Dv → Option Key
  | .int i => some (.inl i)
  | .str s => some (.inr s)
  | _ => none
def opIx (S : Sto) (a b : SV) : Option SV := match view S b with
  | some k => match itemsOf S a, k with
    | some xs, .int i => atI xs i
    | some _, _ => none
    | none, _ => match dictOf S a with
      | some (ks, xs) => match kOf k with
        | some kk => lookK kk ks xs
        | none => none
      | none => match view S a, k with
        | some (.str z), .int i => if z.length ≤ most then (atI z.cps.toList i).map fun c => .d (.str ⟨#[c]⟩) else none
        | _, _ => none
  | none => none
def ROpS (X : Cx) (cl : Nat → Addr) (g : Sto → SV → SV → Option SV) : R2 := fun x y H Q => ∃ W S a b z, Rel X.K cl W S H ∧ RelSV X.K cl W S.length a x ∧ RelSV X.K cl W S.length b y ∧ g S a b = some z ∧
  ∀ W' H' v, Le S.length W W' → Rel X.K cl W' S H' → RelSV X.K cl W' S.length z v → Q v H'
def eOpS (g : Sto → SV → SV → Option SV) (f h : Fr → Sto → Res SV) : Fr → Sto → Res SV := fun F S => (f F S).bind fun x S1 => (h F S1).bind fun y S2 => match g S2 x y with
  | some z => .ok z S2
  | none => .bad
section
variable {X : Cx} {cl : CL} {Wx : WX} {e1 e2 : Expr} {f g h : Fr → Sto → Res SV} {pos : Pos}
theorem eOpS_use {o : Sto → SV → SV → Option SV} {σ : St} {H : Hp} {Q : VK} (q : RE X cl Wx (eOpS o f h) σ H Q) : tOp (ROpS X cl o) (RE X cl Wx f) (RE X cl Wx h) σ H Q := by
  obtain ⟨W, F, S, a, q⟩ := q
  refine RE.of a q fun W1 S1 x v H1 g1 l1 a1 q1 o1 => ?_
  refine RE.of a1 o1 fun W2 S2 y u H2 g2 l2 a2 q2 o2 => ?_
  cases z : o S2 x y with
  | none => simp only [z] at o2; exact o2.elim
  | some w =>
    simp only [z] at o2
    exact ⟨W2, S2, x, y, w, a2.rel, RelSV.le l2 g2.len q1, q2, z, fun W' H' v l r q => o2 W' H' v (.refl _ _) l r q⟩
theorem ix_dict (hu : X.A.units + 1 < cLine) : IxR X (fun x y H Q => ∃ a v, x = .ref a ∧ DGet H a y (some v) ∧ Q v H) := by
  intro value slice pins s σ H x y v u Q I rx ry h hs
  obtain ⟨a, w, rfl, g, q⟩ := h
  obtain rfl : v = Value.ref a := rx
  have hT := dict_typeIs I g
  unfold PyProof.Rows.subscriptTail
  refine wpAny_bind ?_
  rw [getitemInPython_of_ne hT.not_modules]
  refine wpAny_bind (wpAny_specialOf hT PySem.F.slot_dict_getitem.lookup ?_)
  have fin : wpAny (model X.prog X.w) X.A (subscripted slice false (.ref a) u) (fun r s₃ => wpAny (model X.prog X.w) X.A (letTemporaryGo value (.ref a) r >>= fun _ => pure r) (EP X pins σ Q) X.xe s₃) X.xe s := by
    rw [hs]
    exact wpAny_operating (d_getItem hu I g ry fun w' s' I' rw' => wpAny_bind (wpAny_letTemporaryGo (wpAny_pure ⟨w, H, I', rw', q⟩)))
  first
    | exact wpAny_pure (wpAny_bind fin)
    | exact wpAny_bind (wpAny_pure (wpAny_bind fin))
    | exact wpAny_bind fin
theorem strOk_at {z : Str} {i : Int} {c : Nat} (h : PyData.strOk z = true) (e : atI z.cps.toList i = some c) : PyData.strOk ⟨#[c]⟩ = true := by
  have hm : c ∈ z.cps.toList := by
    unfold atI at e
    cases k : ixN z.cps.toList.length i with
    | none => rw [k] at e; cases e
    | some j => rw [k] at e; exact List.mem_of_getElem? e
  unfold PyData.strOk at *
  rw [Array.all_eq_true'] at h
  have := h c (Array.mem_toList_iff.mp hm)
  simpa using this
theorem key_rel {K : PySem.W.Frag} {cl : Nat → Addr} {W : Wd} {S : Sto} {H : Hp} {b : SV} {y : V} {k : Dv} {kk : Key} (r : Rel K cl W S H) (eb : view S b = some k) (rb : RelSV K cl W S.length b y) (e : kOf k = some kk) : y = kV kk := by
  cases k <;> first | (cases e; done) | skip
  · cases e; exact view_int r eb rb
  · cases e; exact (view_str r eb rb).1
theorem ov_ix (hu : X.A.units + 1 < cLine) (value slice : Expr) (hs : ∀ v u, subscripted slice false v u = operate [v, u] (getItem v u)) : OpR X (fun v u => PyProof.Rows.subscriptTail value slice v u) (ROpS X cl opIx) := by
  intro pins s σ H x y v u Q I rx ry h
  refine ((ix_list (X := X)).or (ix_tup.or (ix_str.or (ix_dict hu)))) value slice pins s σ H x y v u Q I rx ry ?_ (hs v u)
  obtain ⟨W, S, a, b, z, r, ra, rb, e, k⟩ := h
  unfold opIx at e
  split at e
  · rename_i kk eb
    split at e
    · rename_i xs i ea
      obtain ⟨p, vs, e1, s1, t1⟩ := items_rel r ea ra
      obtain ⟨w, hw, rw'⟩ := atI_rel t1 e
      have e2 := view_int r eb rb
      rcases s1 with s1 | s1
      · exact .inl ⟨p, vs, i, w, e1, e2, s1, hw, k W H _ (.refl _ _) r rw'⟩
      · exact .inr (.inl ⟨p, vs, i, w, e1, e2, s1, hw, k W H _ (.refl _ _) r rw'⟩)
    · cases e
    · rename_i ea
      split at e
      · rename_i ks xs ed
        split at e
        · rename_i kk' ek
          obtain ⟨p, vs, e1, s1, l1, t1⟩ := dict_rel r ed ra
          obtain ⟨w, hw, rw'⟩ := (look_rel kk' l1 t1).1 z e
          exact .inr (.inr (.inr ⟨p, w, e1, .inl ⟨_, kk', s1, key_rel r eb rb ek, hw.symm⟩, k W H _ (.refl _ _) r rw'⟩))
        · cases e
      · split at e
        · rename_i zz i ez
          split at e
          · rename_i hm
            cases hc : atI zz.cps.toList i with
            | none => rw [hc] at e; cases e
            | some c =>
              rw [hc] at e
              cases e
              obtain ⟨e1, k1⟩ := view_str r ez ra
              exact .inr (.inr (.inl ⟨zz, i, c, e1, view_int r eb rb, hm, hc, k W H _ (.refl _ _) r (RelD.str _ (strOk_at k1 hc))⟩))
          · cases e
        · cases e
  · cases e
theorem ev_ix (hu : X.A.units + 1 < cLine) (ha : PE X e1 (RE X cl Wx f)) (hb : PE X e2 (RE X cl Wx h)) (hs : PlainIx e2 := by exact fun _ _ => rfl) : PE X (.Subscript e1 e2 pos) (RE X cl Wx (eOpS opIx f h)) := by
  refine PE.weak (t := tOp (ROpS X cl opIx) (RE X cl Wx f) (RE X cl Wx h)) ?_ fun _ _ _ q => eOpS_use q
  refine ⟨fun pins s σ H Q I q => ?_⟩
  exact PyProof.Rows.Subscript_ (binT ha hb I q fun v u s2 x y H2 I2 rx ry q => ov_ix hu e1 e2 hs pins s2 σ H2 x y v u Q I2 rx ry q)
end

/-! ### in, not in -/
section
variable {X : Cx} {cl : CL}
theorem any_reads {h : Heap} {d : PyData} (e : Value → Bool) (he : ∀ y dd as, Reads h y dd as → dd.canLay0 = true → e y = PyData.eqv dd d) : ∀ {ds : List PyData} {its : List Value} {bs : List Addr}, ReadsAll h its ds bs → PyData.canLayAll0 ds = true →
    its.any e = ds.any (fun x => PyData.eqv x d) ∧ ∀ y ∈ its, ∃ dd as, Reads h y dd as ∧ dd.canLay0 = true
  | _, _, _, .nil, _ => ⟨rfl, fun y h => by cases h⟩
  | x :: ds, _, _, .cons (v := y) (vs := its) r t, c => by
    obtain ⟨c1, c2⟩ := Bool.and_eq_true_iff.mp (show (PyData.canLay0 x && PyData.canLayAll0 ds) = true from c)
    obtain ⟨i1, i2⟩ := any_reads e he t c2
    refine ⟨by rw [List.any_cons, List.any_cons, i1, he y x _ r c1], fun z hz => ?_⟩
    rcases List.mem_cons.mp hz with rfl | hz
    · exact ⟨_, _, r, c1⟩
    · exact i2 z hz
def rInD (K : PySem.W.Frag) (neg : Bool) : R2 := fun x y H Q => ∃ p vs d ds, y = .ref p ∧ (SqL K H p vs ∨ SqT K H p vs) ∧ Dp K H x d ∧ DpAll K H vs ds ∧ d.canLay0 = true ∧ PyData.canLayAll0 ds = true ∧ d.depth ≤ 190 ∧ Q (.bl (neg ^^ ds.any fun e => PyData.eqv e d)) H
open Classical in
theorem in_core {pins : List (Addr × Obj)} {σ : St} {H : Hp} {s : Shared} {x : V} {u : Value} {vs : List V} {d : PyData} {ds : List PyData} {its : List Value} (hu : X.A.units + 200 < cLine) (I : Inv X pins σ H s) (rx : RelV x u) (hd : Dp X.K H x d) (hds : DpAll X.K H vs ds) (c1 : d.canLay0 = true) (c2 : PyData.canLayAll0 ds = true)
    (hm : d.depth ≤ 190) (rv : Vals vs its) : ∃ e : Value → Bool, (∀ y, y ∈ its.toArray → PySem.SeqAt.EqAt X.A.in1 s y u (e y)) ∧ its.toArray.any e = ds.any fun z => PyData.eqv z d := by
  obtain ⟨as, r1⟩ := Dp.reads I d x u hd rx
  obtain ⟨bs, r2⟩ := Dp.readsAll I ds vs its hds rv
  let e : Value → Bool := fun y => decide (∃ dd as, Reads s.heap y dd as ∧ dd.canLay0 = true ∧ PyData.eqv dd d = true)
  have he : ∀ y dd as, Reads s.heap y dd as → dd.canLay0 = true → e y = PyData.eqv dd d := fun y dd as r c => by
    by_cases h : PyData.eqv dd d = true
    · rw [h]; exact decide_eq_true ⟨dd, as, r, c, h⟩
    · have h' : PyData.eqv dd d = false := by simpa using h
      rw [h']
      refine decide_eq_false fun ⟨dd', as', r', c', h2⟩ => h ?_
      rw [PySem.SeqAt.Reads.unique dd dd' y as as' c r r']
      exact h2
  obtain ⟨a1, a2⟩ := any_reads e he r2 c2
  refine ⟨e, fun y hy => ?_, by rw [← a1]; simp⟩
  obtain ⟨dd, as', r, c⟩ := a2 y (by simpa using hy)
  rw [he y dd as' r c]
  refine PySem.SeqAt.eqAt_reads dd d X.A.in1 s y u as' as r r1 c c1 ?_
  show X.A.units + 1 + _ < _
  omega
theorem op_inD (hu : X.A.units + 200 < cLine) : OpR X (compareOp .In) (rInD X.K false) := by
  intro pins s σ H x y v u Q I rx ry h
  obtain ⟨p, vs, d, ds, rfl, hq, hd, hds, c1, c2, hm, q⟩ := h
  cases ry
  rw [Bool.false_xor] at q
  rcases hq with hq | hq
  · obtain ⟨its, rv, pl, _⟩ := I.list hq
    obtain ⟨e, he, ha⟩ := in_core hu I rx hd hds c1 c2 hm rv
    exact PySem.SeqAt.in_listAt e pl.isList he (by rw [ha]; exact ⟨.bl _, H, I, rfl, q⟩)
  · obtain ⟨its, rv, pl, _⟩ := I.tuple hq
    obtain ⟨e, he, ha⟩ := in_core hu I rx hd hds c1 c2 hm rv
    exact PySem.SeqAt.in_tupleAt e pl he (by rw [ha]; exact ⟨.bl _, H, I, rfl, q⟩)
theorem op_notInD (hu : X.A.units + 200 < cLine) : OpR X (compareOp .NotIn) (rInD X.K true) := by
  intro pins s σ H x y v u Q I rx ry h
  obtain ⟨p, vs, d, ds, rfl, hq, hd, hds, c1, c2, hm, q⟩ := h
  cases ry
  rw [Bool.true_xor] at q
  rcases hq with hq | hq
  · obtain ⟨its, rv, pl, _⟩ := I.list hq
    obtain ⟨e, he, ha⟩ := in_core hu I rx hd hds c1 c2 hm rv
    exact PySem.SeqAt.notIn_listAt e pl.isList he (by rw [ha]; exact ⟨.bl _, H, I, rfl, q⟩)
  · obtain ⟨its, rv, pl, _⟩ := I.tuple hq
    obtain ⟨e, he, ha⟩ := in_core hu I rx hd hds c1 c2 hm rv
    exact PySem.SeqAt.notIn_tupleAt e pl he (by rw [ha]; exact ⟨.bl _, H, I, rfl, q⟩)
theorem op_inDict (hu : X.A.units + 1 < cLine) : OpR X (compareOp .In) (fun x y H Q => ∃ a o, y = .ref a ∧ DGet H a x o ∧ Q (.bl o.isSome) H) := by
  intro pins s σ H x y v u Q I rx ry h
  obtain ⟨a, o, rfl, g, q⟩ := h
  obtain rfl : u = Value.ref a := ry
  exact d_in hu I g rx fun s3 I3 => ⟨.bl o.isSome, H, I3, rfl, q⟩
theorem op_notInDict (hu : X.A.units + 1 < cLine) : OpR X (compareOp .NotIn) (fun x y H Q => ∃ a o, y = .ref a ∧ DGet H a x o ∧ Q (.bl (!o.isSome)) H) := by
  intro pins s σ H x y v u Q I rx ry h
  obtain ⟨a, o, rfl, g, q⟩ := h
  obtain rfl : u = Value.ref a := ry
  exact d_notIn hu I g rx fun s3 I3 => ⟨.bl (!o.isSome), H, I3, rfl, q⟩
/-- is x among the items, the keys, the signs? -/
def inS (S : Sto) (a b : SV) : Option Bool := match view S a with
  | some x => match view S b with
    | some (.lst ys) => if x.flat && Dv.flats ys && decide (x.pd.depth ≤ 190) then some ((Dv.pds ys).any fun y => PyData.eqv y x.pd) else none
    | some (.tup ys) => if x.flat && Dv.flats ys && decide (x.pd.depth ≤ 190) then some ((Dv.pds ys).any fun y => PyData.eqv y x.pd) else none
    | some (.str t) => match x with
      | .str s => some (!(Builtin.Str.occurrences t s 0 t.length 1).isEmpty)
      | _ => none
    | _ => match dictOf S b, kOf x with
      | some (ks, xs), some k => some (lookK k ks xs).isSome
      | _, _ => none
  | none => none
def opIn (S : Sto) (a b : SV) : Option Dv := (inS S a b).map .bl
def opNotIn (S : Sto) (a b : SV) : Option Dv := (inS S a b).map fun c => .bl (!c)
theorem inS_rel {K : PySem.W.Frag} {W : Wd} {S : Sto} {H : Hp} {a b : SV} {x y : V} {c : Bool} (r : Rel K cl W S H) (ra : RelSV K cl W S.length a x) (rb : RelSV K cl W S.length b y) (e : inS S a b = some c) :
    (∃ p vs d ds, y = .ref p ∧ (SqL K H p vs ∨ SqT K H p vs) ∧ Dp K H x d ∧ DpAll K H vs ds ∧ d.canLay0 = true ∧ PyData.canLayAll0 ds = true ∧ d.depth ≤ 190 ∧ c = ds.any fun e => PyData.eqv e d) ∨
    (∃ i j, x = .str i ∧ y = .str j ∧ c = !(Builtin.Str.occurrences j i 0 j.length 1).isEmpty) ∨ ∃ p o, y = .ref p ∧ DGet H p x o ∧ c = o.isSome := by
  unfold inS at e
  split at e
  · rename_i z ea
    have dct : (match dictOf S b, kOf z with
      | some (ks, xs), some k => some (lookK k ks xs).isSome
      | _, _ => none) = some c → ∃ p o, y = .ref p ∧ DGet H p x o ∧ c = o.isSome := fun e => by
      split at e
      · rename_i ks xs k ed ek
        cases e
        obtain ⟨p, vs, e1, s1, l1, t1⟩ := dict_rel r ed rb
        refine ⟨p, valV (ks.zip vs) k, e1, .inl ⟨_, k, s1, key_rel r ea ra ek, rfl⟩, ?_⟩
        have lr := look_rel k l1 t1
        cases h : lookK k ks xs with
        | none => rw [lr.2 h]; rfl
        | some w =>
          obtain ⟨w', h1, _⟩ := lr.1 w h
          rw [h1]; rfl
      · cases e
    split at e
    · rename_i ys eb
      split at e
      · rename_i hc
        cases e
        simp only [Bool.and_eq_true, decide_eq_true_eq] at hc
        obtain ⟨⟨f1, f2⟩, f3⟩ := hc
        obtain ⟨p, vs, e1, s1, t1⟩ := view_lst r eb rb
        obtain ⟨d1, c1⟩ := view_dp r ea ra f1
        obtain ⟨d2, c2⟩ := RelDs.dp r.fz t1 f2
        exact .inl ⟨p, vs, _, _, e1, .inl s1, d1, d2, c1, c2, f3, rfl⟩
      · cases e
    · rename_i ys eb
      split at e
      · rename_i hc
        cases e
        simp only [Bool.and_eq_true, decide_eq_true_eq] at hc
        obtain ⟨⟨f1, f2⟩, f3⟩ := hc
        obtain ⟨p, vs, e1, s1, t1, _⟩ := view_tup r eb rb
        obtain ⟨d1, c1⟩ := view_dp r ea ra f1
        obtain ⟨d2, c2⟩ := RelDs.dp r.fz t1 f2
        exact .inl ⟨p, vs, _, _, e1, .inr s1, d1, d2, c1, c2, f3, rfl⟩
      · cases e
    · rename_i t eb
      split at e
      · rename_i s
        cases e
        exact .inr (.inl ⟨s, t, (view_str r ea ra).1, (view_str r eb rb).1, rfl⟩)
      · cases e
    · exact .inr (.inr (dct e))
  · cases e
theorem ov_in (hu : X.A.units + 200 < cLine) : OpR X (compareOp .In) (ROp X cl opIn) := OpR.weak ((op_inD hu).or (op_in_str.or (op_inDict (by omega)))) fun x y H Q ⟨W, S, a, b, z, r, ra, rb, e, k⟩ => by
  unfold opIn at e
  cases h : inS S a b with
  | none => rw [h] at e; cases e
  | some c =>
    rw [h] at e
    cases e
    have q := k W H _ (.refl _ _) r (.bl c)
    rcases inS_rel r ra rb h with ⟨p, vs, d, ds, e1, s1, d1, d2, c1, c2, f3, rfl⟩ | ⟨i, j, e1, e2, rfl⟩ | ⟨p, o, e1, g, rfl⟩
    · exact .inl ⟨p, vs, d, ds, e1, s1, d1, d2, c1, c2, f3, by rw [Bool.false_xor]; exact q⟩
    · exact .inr (.inl ⟨i, j, e1, e2, q⟩)
    · exact .inr (.inr ⟨p, o, e1, g, q⟩)
theorem ov_notIn (hu : X.A.units + 200 < cLine) : OpR X (compareOp .NotIn) (ROp X cl opNotIn) := OpR.weak ((op_notInD hu).or (op_notin_str.or (op_notInDict (by omega)))) fun x y H Q ⟨W, S, a, b, z, r, ra, rb, e, k⟩ => by
  unfold opNotIn at e
  cases h : inS S a b with
  | none => rw [h] at e; cases e
  | some c =>
    rw [h] at e
    cases e
    have q := k W H _ (.refl _ _) r (.bl (!c))
    rcases inS_rel r ra rb h with ⟨p, vs, d, ds, e1, s1, d1, d2, c1, c2, f3, rfl⟩ | ⟨i, j, e1, e2, rfl⟩ | ⟨p, o, e1, g, rfl⟩
    · exact .inl ⟨p, vs, d, ds, e1, s1, d1, d2, c1, c2, f3, by rw [Bool.true_xor]; exact q⟩
    · exact .inr (.inl ⟨i, j, e1, e2, q⟩)
    · exact .inr (.inr ⟨p, o, e1, g, q⟩)
end
end Ev

set_option Elab.async false
set_option linter.all false
set_option maxRecDepth 100000
/-! Ev6: built-in functions, isinstance, attributes, calls. -/
namespace Ev
open PySem L2

def RCall (X : Cx) (cl : Nat → Addr) (g : Sto → List SV → Option Dv) : List V → Hp → VK → Prop := fun xs H Q => ∃ W S as z, Rel X.K cl W S H ∧ Paired (RelSV X.K cl W S.length) as xs ∧ g S as = some z ∧
  ∀ W' H' v, Le S.length W W' → Rel X.K cl W' S H' → RelD X.K cl W'.G z v → Q v H'
def eBi (g : Sto → List SV → Option Dv) (f : Fr → Sto → Res (List SV)) : Fr → Sto → Res SV := fun F S => (f F S).bind fun xs S1 => match g S1 xs with
  | some z => .ok (.d z) S1
  | none => .bad
section
variable {X : Cx} {cl : CL} {Wx : WX} {e : Expr} {es : List Expr} {f : Fr → Sto → Res (List SV)} {p pos : Pos} {x : Str}
theorem eBi_use {g : Sto → List SV → Option Dv} {σ : St} {H : Hp} {Q : VK} (q : RE X cl Wx (eBi g f) σ H Q) : tCB (RCall X cl g) (RA X cl Wx f) σ H Q := by
  obtain ⟨W, F, S, a, q⟩ := q
  refine RA.of a q fun W1 S1 xs vs H1 g1 l1 a1 q1 o1 => ?_
  cases z : g S1 xs with
  | none => simp only [z] at o1; exact o1.elim
  | some w =>
    simp only [z] at o1
    exact ⟨W1, S1, xs, w, a1.rel, q1, z, fun W' H' v l r q => o1 W' H' v (.refl _ _) l r q⟩
theorem ev_bi {id : String} {g : Sto → List SV → Option Dv} (hc : CallR X (.builtin id) (RCall X cl g)) (hg : Gl X x) (hm : X.mg x = none) (hv : bootBuiltins x = some (.builtin id)) (ha : PA X (e :: es) (RA X cl Wx f)) (hn : x ≠ "__name__" := by decide +kernel) (hdb : (x == ("__debug__" : Str)) = false := by decide +kernel)
    (he : starEach (e :: es) X.env = (false, eval e X.env) :: starEach es X.env := by rfl) (hpl : (backTo pos (starEach es X.env)).any (·.1) = false := by rfl) : PE X (.Call (.Name x p) (e :: es) [] pos) (RE X cl Wx (eBi g f)) :=
  PE.weak (pe_callB hc hg hm hv ha hn hdb he hpl) fun _ _ _ q => eBi_use q
theorem ev_ty {T : String} {g : Sto → List SV → Option Dv} (hc : CallR X (.type T) (RCall X cl g)) (hg : Gl X x) (hm : X.mg x = none) (hv : bootBuiltins x = some (.type T)) (ha : PA X (e :: es) (RA X cl Wx f)) (hn : x ≠ "__name__" := by decide +kernel) (hdb : (x == ("__debug__" : Str)) = false := by decide +kernel)
    (he : starEach (e :: es) X.env = (false, eval e X.env) :: starEach es X.env := by rfl) (hpl : (backTo pos (starEach es X.env)).any (·.1) = false := by rfl) : PE X (.Call (.Name x p) (e :: es) [] pos) (RE X cl Wx (eBi g f)) :=
  PE.weak (pe_callTy hc hg hm hv ha hn hdb he hpl) fun _ _ _ q => eBi_use q

/-! len, abs, max, min, int, str -/
def biLen (S : Sto) : List SV → Option Dv
  | [a] => match itemsOf S a with
    | some xs => some (.int xs.length)
    | none => match a with
      | .m i => match S[i]? with
        | some (.dic ks _) => some (.int ks.length)
        | _ => none
      | .d (.str z) => if z.length ≤ most then some (.int z.length) else none
      | _ => none
  | _ => none
theorem CallR.or {f : Value} {r r' : List V → Hp → VK → Prop} (h : CallR X f r) (h' : CallR X f r') : CallR X f (fun x H Q => r x H Q ∨ r' x H Q) := by
  intro pins s σ H x us Q I h1 q
  rcases q with q | q
  · exact h pins s σ H x us Q I h1 q
  · exact h' pins s σ H x us Q I h1 q
theorem ov_len : CallR X (.builtin "len") (RCall X cl biLen) := CallR.weak (CallR.or (call_len (X := X)) call_lenD) fun xs H Q ⟨W, S, as, z, r, ra, e, k⟩ => by
  match as, xs, ra, e with
  | [a], [v], .cons ra .nil, e =>
    simp only [biLen] at e
    split at e
    · rename_i ys ea
      cases e
      obtain ⟨p, vs, rfl, s1, t1⟩ := items_rel r ea ra
      have hl := PySem.Paired.length t1
      refine .inl ⟨.ref p, ys.length, rfl, ?_, k W H _ (.refl _ _) r (.int _)⟩
      rcases s1 with s1 | s1
      · exact .inl ⟨vs, s1, hl⟩
      · exact .inr ⟨vs, s1, hl⟩
    · split at e
      · rename_i i _
        split at e
        · rename_i ks ys ed
          cases e
          obtain ⟨_, rfl⟩ := ra
          obtain ⟨_, vs, h1, h2, h3⟩ := r.st i _ ed
          have hz : (ks.zip vs).length = ks.length := by
            rw [List.length_zip, ← PySem.Paired.length h3, ← h2, Nat.min_self]
          exact .inr ⟨_, _, rfl, h1, by rw [hz]; exact k W H _ (.refl _ _) r (.int _)⟩
        · cases e
      · rename_i z _
        split at e
        · rename_i hm
          cases e
          cases ra
          exact .inl ⟨.str z, z.length, rfl, ⟨hm, rfl⟩, k W H _ (.refl _ _) r (.int _)⟩
        · cases e
      · cases e
def biAbs (S : Sto) : List SV → Option Dv
  | [.d (.int i)] => some (.int (if i < 0 then -i else i))
  | _ => none
theorem ov_abs : CallR X (.builtin "abs") (RCall X cl biAbs) := CallR.weak call_abs fun xs H Q ⟨W, S, as, z, r, ra, e, k⟩ => by
  unfold biAbs at e
  split at e
  · rename_i i
    cases e
    cases ra with
    | cons ra t =>
      cases t
      cases ra
      exact ⟨i, rfl, k W H _ (.refl _ _) r (.int _)⟩
  · cases e
def biMax (S : Sto) : List SV → Option Dv
  | [.d (.int i), .d (.int j)] => some (.int (if j > i then j else i))
  | [.d (.int a), .d (.int b), .d (.int c)] => some (.int (if b > a then (if c > b then c else b) else (if c > a then c else a)))
  | _ => none
def biMin (S : Sto) : List SV → Option Dv
  | [.d (.int i), .d (.int j)] => some (.int (if j < i then j else i))
  | [.d (.int a), .d (.int b), .d (.int c)] => some (.int (if b < a then (if c < b then c else b) else (if c < a then c else a)))
  | _ => none
theorem vals3 {x y z : V} {us : List Value} (r : Vals [x, y, z] us) : ∃ u v w, us = [u, v, w] ∧ RelV x u ∧ RelV y v ∧ RelV z w := by
  match us, r with
  | [u, v, w], .cons a (.cons b (.cons c .nil)) => exact ⟨u, v, w, rfl, a, b, c⟩
theorem call_max3 (hc : X.calm = true) : CallR X (.builtin "max") (fun xs H Q => ∃ a b c, xs = [.int a, .int b, .int c] ∧ Q (.int (if b > a then (if c > b then c else b) else (if c > a then c else a))) H) := by
  intro pins s σ H xs us Q I r h
  obtain ⟨a, b, c, rfl, q⟩ := h
  obtain ⟨u, v, w, rfl, ⟨t, rfl⟩, ⟨t', rfl⟩, ⟨t'', rfl⟩⟩ := vals3 r
  refine PySem.max_three_ints (I.ok.hd hc) fun h' tk k => ⟨_, H, I.kept k, ?_, q⟩
  by_cases h1 : b > a
  · rw [if_pos h1, if_pos h1]
    by_cases h2 : c > b
    · rw [if_pos h2, if_pos h2]; exact ⟨_, rfl⟩
    · rw [if_neg h2, if_neg h2]; exact ⟨_, rfl⟩
  · rw [if_neg h1, if_neg h1]
    by_cases h2 : c > a
    · rw [if_pos h2, if_pos h2]; exact ⟨_, rfl⟩
    · rw [if_neg h2, if_neg h2]; exact ⟨_, rfl⟩
theorem call_min3 (hc : X.calm = true) : CallR X (.builtin "min") (fun xs H Q => ∃ a b c, xs = [.int a, .int b, .int c] ∧ Q (.int (if b < a then (if c < b then c else b) else (if c < a then c else a))) H) := by
  intro pins s σ H xs us Q I r h
  obtain ⟨a, b, c, rfl, q⟩ := h
  obtain ⟨u, v, w, rfl, ⟨t, rfl⟩, ⟨t', rfl⟩, ⟨t'', rfl⟩⟩ := vals3 r
  refine PySem.min_three_ints (I.ok.hd hc) fun h' tk k => ⟨_, H, I.kept k, ?_, q⟩
  by_cases h1 : b < a
  · rw [if_pos h1, if_pos h1]
    by_cases h2 : c < b
    · rw [if_pos h2, if_pos h2]; exact ⟨_, rfl⟩
    · rw [if_neg h2, if_neg h2]; exact ⟨_, rfl⟩
  · rw [if_neg h1, if_neg h1]
    by_cases h2 : c < a
    · rw [if_pos h2, if_pos h2]; exact ⟨_, rfl⟩
    · rw [if_neg h2, if_neg h2]; exact ⟨_, rfl⟩
theorem ov_max (hc : X.calm = true) : CallR X (.builtin "max") (RCall X cl biMax) := CallR.weak ((call_max2 hc).or (call_max3 hc)) fun xs H Q ⟨W, S, as, z, r, ra, e, k⟩ => by
  unfold biMax at e
  split at e
  · cases e
    match xs, ra with
    | _, .cons r1 (.cons r2 .nil) => cases r1; cases r2; exact .inl ⟨_, _, rfl, k W H _ (.refl _ _) r (.int _)⟩
  · cases e
    match xs, ra with
    | _, .cons r1 (.cons r2 (.cons r3 .nil)) => cases r1; cases r2; cases r3; exact .inr ⟨_, _, _, rfl, k W H _ (.refl _ _) r (.int _)⟩
  · cases e
theorem ov_min (hc : X.calm = true) : CallR X (.builtin "min") (RCall X cl biMin) := CallR.weak ((call_min2 hc).or (call_min3 hc)) fun xs H Q ⟨W, S, as, z, r, ra, e, k⟩ => by
  unfold biMin at e
  split at e
  · cases e
    match xs, ra with
    | _, .cons r1 (.cons r2 .nil) => cases r1; cases r2; exact .inl ⟨_, _, rfl, k W H _ (.refl _ _) r (.int _)⟩
  · cases e
    match xs, ra with
    | _, .cons r1 (.cons r2 (.cons r3 .nil)) => cases r1; cases r2; cases r3; exact .inr ⟨_, _, _, rfl, k W H _ (.refl _ _) r (.int _)⟩
  · cases e
def biInt (S : Sto) : List SV → Option Dv
  | [.d (.int i)] => some (.int i)
  | [.d (.bl b)] => some (.int (if b then 1 else 0))
  | _ => none
theorem ov_intc : CallR X (.type "int") (RCall X cl biInt) := CallR.weak call_int1 fun xs H Q ⟨W, S, as, z, r, ra, e, k⟩ => by
  unfold biInt at e
  split at e
  · cases e
    match xs, ra with
    | _, .cons r1 .nil => cases r1; exact .inl ⟨_, rfl, k W H _ (.refl _ _) r (.int _)⟩
  · cases e
    match xs, ra with
    | _, .cons r1 .nil => cases r1; exact .inr ⟨_, rfl, k W H _ (.refl _ _) r (.int _)⟩
  · cases e
theorem strOk_of (s : String) : PyData.strOk (Str.ofString s) = true := by
  rw [Str.ofString_eq_toList]
  unfold PyData.strOk
  rw [Array.all_eq_true']
  intro c hc
  rw [List.mem_toArray, List.mem_map] at hc
  obtain ⟨ch, _, rfl⟩ := hc
  have h := ch.valid
  refine decide_eq_true ?_
  rcases h with h | ⟨_, h⟩
  · exact Nat.lt_of_lt_of_le h (by decide)
  · exact h
def biStr (S : Sto) : List SV → Option Dv
  | [.d (.int i)] => if i.natAbs.log2 < 1920 then some (.str (Str.ofString (toString i))) else none
  | _ => none
theorem ov_str : CallR X (.type "str") (RCall X cl biStr) := CallR.weak call_str_int fun xs H Q ⟨W, S, as, z, r, ra, e, k⟩ => by
  unfold biStr at e
  split at e
  · split at e
    · rename_i hz
      cases e
      match xs, ra with
      | _, .cons r1 .nil => cases r1; exact ⟨_, rfl, hz, k W H _ (.refl _ _) r (.str _ (strOk_of _))⟩
    · cases e
  · cases e
/-! list(x), tuple(x): a new list that nobody changes -/
def biList (S : Sto) : List SV → Option Dv
  | [a] => match view S a with
    | some (.lst xs) => some (.lst xs)
    | some (.tup xs) => some (.lst xs)
    | _ => none
  | _ => none
def biTuple (S : Sto) : List SV → Option Dv
  | [a] => match view S a with
    | some (.lst xs) => some (.tup xs)
    | some (.tup xs) => some (.tup xs)
    | _ => none
  | _ => none
theorem ov_list : CallR X (.type "list") (RCall X cl biList) := CallR.weak call_list_of fun xs H Q ⟨W, S, as, z, r, ra, e, k⟩ => by
  match as, xs, ra, e with
  | [a], [v], .cons ra .nil, e =>
    simp only [biList] at e
    split at e
    · rename_i ys ea
      cases e
      obtain ⟨p, vs, rfl, s1, t1⟩ := view_lst r ea ra
      exact ⟨p, vs, rfl, .inl s1, new_lst r t1 k⟩
    · rename_i ys ea
      cases e
      obtain ⟨p, vs, rfl, s1, t1, _⟩ := view_tup r ea ra
      exact ⟨p, vs, rfl, .inr s1, new_lst r t1 k⟩
    · cases e
theorem ov_tuple : CallR X (.type "tuple") (RCall X cl biTuple) := CallR.weak call_tuple_of fun xs H Q ⟨W, S, as, z, r, ra, e, k⟩ => by
  match as, xs, ra, e with
  | [a], [v], .cons ra .nil, e =>
    simp only [biTuple] at e
    split at e
    · rename_i ys ea
      cases e
      obtain ⟨p, vs, rfl, s1, t1⟩ := view_lst r ea ra
      exact ⟨p, vs, rfl, .inl ⟨s1, new_tup r t1 k⟩⟩
    · rename_i ys ea
      cases e
      obtain ⟨p, vs, rfl, s1, t1, q1⟩ := view_tup r ea ra
      exact ⟨p, vs, rfl, .inr ⟨s1, k W H _ (.refl _ _) r q1⟩⟩
    · cases e
end
/-- list(x): a list that will change -/
def eListM (f : Fr → Sto → Res (List SV)) : Fr → Sto → Res SV := fun F S => (f F S).bind fun as S1 => match as with
  | [a] => match itemsOf S1 a with
    | some xs => .ok (.m S1.length) (S1 ++ [.lst xs])
    | none => .bad
  | _ => .bad
section
variable {X : Cx} {cl : CL} {Wx : WX} {e : Expr} {es : List Expr} {f : Fr → Sto → Res (List SV)} {p pos : Pos} {x : Str}
theorem ev_listM (hg : Gl X "list") (hm : X.mg "list" = none) (ha : PA X (e :: es) (RA X cl Wx f))
    (he : starEach (e :: es) X.env = (false, eval e X.env) :: starEach es X.env := by rfl) (hpl : (backTo pos (starEach es X.env)).any (·.1) = false := by rfl) : PE X (.Call (.Name "list" p) (e :: es) [] pos) (RE X cl Wx (eListM f)) :=
  PE.weak (pe_callTy call_list_of hg hm (by decide +kernel) ha (by decide +kernel) (by decide +kernel) he hpl) fun σ H Q ⟨W, F, S, a, q⟩ => by
    refine RA.of a q fun W1 S1 xs vs H1 g1 l1 a1 q1 o1 => ?_
    match xs, vs, q1, o1 with
    | [y], [v], .cons q1 .nil, o1 =>
      simp only at o1
      split at o1
      · rename_i ys ey
        obtain ⟨p, ws, rfl, s1, t1⟩ := items_rel a1.rel ey q1
        refine ⟨p, ws, rfl, s1, fun l hl => ?_⟩
        have r3 := a1.rel.newM (mo := .lst ys) (ho := .lst ws) hl ⟨a1.rel.gnone hl, ws, upd_same, RelSVs.le (W1.add_le _ _) (Nat.le_succ _) t1⟩
        exact o1 _ _ _ (.add _ _ _ a1.b) (W1.add_le _ _) r3 ⟨by rw [List.length_append]; exact Nat.lt_succ_self _, by rw [Wd.add_at]⟩
      · exact o1.elim
end
end Ev

set_option Elab.async false
set_option linter.all false
set_option maxRecDepth 100000
/-! Ev7: isinstance, attributes, calls of one's own. -/
namespace Ev
open PySem L2

/-! ### isinstance -/
inductive Ty where
  | non | bl | int | str | tup | lst | dic | own (c : Nat)
  deriving DecidableEq
def Dv.ty : Dv → Ty
  | .non => .non | .bl _ => .bl | .int _ => .int | .str _ => .str | .tup _ => .tup | .lst _ => .lst | .dic _ _ => .dic | .ins c _ _ => .own c
def tyS (S : Sto) : SV → Option Ty
  | .d x => some x.ty
  | .m i => match S[i]? with
    | some (.lst _) => some .lst | some (.dic _ _) => some .dic | some (.ins c _ _) => some (.own c) | some (.frz x) => some x.ty
    | none => none
def Ty.v (cl : Nat → Addr) : Ty → Value
  | .non => .type "NoneType" | .bl => .type "bool" | .int => .type "int" | .str => .type "str" | .tup => .type "tuple" | .lst => .type "list" | .dic => .type "dict" | .own c => .ref (cl c)
/-- what isinstance wants of one's own class -/
structure OwnC (K : PySem.W.Frag) (C : Addr) : Prop where
  cls : Cls K C
  ha : PySem.W.findIn K (.ref C) "__class__" = some (some (.builtin "object.__class__"))
  hn : PySem.W.specialIn K (.builtin "object.__class__") "__get__" = some (some (.builtin "getset_descriptor.__get__"))
  htk : PySem.W.takesIn K (.builtin "object.__class__") = some true
  hm : PySem.W.mroIn K C (.type "object") = some true
section
variable {K : PySem.W.Frag} {cl : Nat → Addr} {W : Wd} {S : Sto} {H : Hp} {n : Nat}
theorem sql_ty {a : Addr} {vs : List V} (h : SqL K H a vs) : TyX K H (.ref a) (.type "list") := by
  rcases h with (h | ⟨o, h⟩) | ⟨o, _, _, h, c, _⟩
  · exact .base (.lst h)
  · exact .base (.frz h)
  · exact .kList h c
theorem sqt_ty {a : Addr} {vs : List V} (h : SqT K H a vs) : TyX K H (.ref a) (.type "tuple") := by
  rcases h with (h | ⟨o, h⟩) | ⟨o, _, _, h, c, _⟩
  · exact .base (.tup h)
  · exact .fTuple h
  · exact .kTuple h c
theorem rd_ty {a : Addr} {kvs : List (Key × V)} (h : Rd H a (.dK kvs)) : TyX K H (.ref a) (.type "dict") := by
  rcases h with h | ⟨o, h⟩
  · exact .base (.dK h)
  · exact .fDict h
theorem reld_ty (fz : ∀ a o, W.G a = some o → H a = some o) {x : Dv} (hc : ∀ c, x.ty = .own c → OwnC K (cl c)) {v : V} (r : RelD K cl W.G x v) : TyX K H v (x.ty.v cl) := by
  cases r with
  | non => exact .base .non
  | bl b => exact .base (.bl b)
  | int i => exact .base (.int i)
  | str s _ => exact .base (.str s)
  | tup h t => exact sqt_ty (SqT.up fz h)
  | lst h t => exact sql_ty (SqL.up fz h)
  | dic h c l t => exact rd_ty (Rd_of_core (fz _ _ h) c)
  | @ins a dx c fs xs vs h l t =>
    have o := hc c rfl
    exact .base (.ins (fz _ _ h) o.cls o.ha o.hn o.htk o.hm)
theorem ty_rel (r : Rel K cl W S H) {a : SV} {t : Ty} (hc : ∀ c, t = .own c → OwnC K (cl c)) {v : V} (e : tyS S a = some t) (q : RelSV K cl W n a v) : TyX K H v (t.v cl) := by
  cases a with
  | d x => cases e; exact reld_ty r.fz hc q
  | m i =>
    obtain ⟨_, rfl⟩ := q
    simp only [tyS] at e
    split at e
    · rename_i xs hx; cases e; obtain ⟨_, _, h, _⟩ := r.st i _ hx; exact .base (.lst h)
    · rename_i ks xs hx; cases e; obtain ⟨_, _, h, _⟩ := r.st i _ hx; exact .base (.dK h)
    · rename_i c fs xs hx; cases e; obtain ⟨_, _, _, h, _⟩ := r.st i _ hx
      have o := hc c rfl
      exact .base (.ins h o.cls o.ha o.hn o.htk o.hm)
    · rename_i x hx; cases e; exact reld_ty r.fz hc (r.st i _ hx)
    · cases e
end
/-- isinstance(e, T) -/
def eIsi (ans : Ty → Option Bool) (f : Fr → Sto → Res SV) : Fr → Sto → Res SV := fun F S => (f F S).bind fun x S1 => match tyS S1 x with
  | some t => match ans t with
    | some b => .ok (.d (.bl b)) S1
    | none => .bad
  | none => .bad
section
variable {X : Cx} {cl : CL} {Wx : WX} {e : Expr} {es : List Expr} {f : Fr → Sto → Res SV} {p pos : Pos} {x : Str}
theorem eIsi_use {ans : Ty → Option Bool} {σ : St} {H : Hp} {Q : VK} (hc : ∀ c, (ans (.own c)).isSome = true → OwnC X.K (cl c)) {P : V → Hp → Prop} (q : RE X cl Wx (eIsi ans f) σ H Q) (k : ∀ v H1 t b, TyX X.K H1 v (Ty.v cl t) → ans t = some b → Q (.bl b) H1 → P v H1) : RE X cl Wx f σ H P := by
  obtain ⟨W, F, S, a, q⟩ := q
  refine RE.of a q fun W1 S1 y v H1 g1 l1 a1 q1 o1 => ?_
  split at o1
  · rename_i t et
    split at o1
    · rename_i b eb
      exact k v H1 t b (ty_rel a1.rel (fun c ec => hc c (by rw [← ec, eb]; rfl)) et q1) eb (o1.here a1.rel (RelD.bl b))
    · exact o1.elim
  · exact o1.elim
/-- a built-in class -/
theorem ev_isi {T : String} {pc : Pos} {xc : Str} {ans : Ty → Option Bool} (hc : ∀ c, (ans (.own c)).isSome = true → OwnC X.K (cl c)) (hg : Gl X "isinstance") (hm : X.mg "isinstance" = none) (ha : PE X e (RE X cl Wx f)) (hgc : Gl X xc) (hmc : X.mg xc = none) (hv : bootBuiltins xc = some (.type T)) (hk : ∀ t b, ans t = some b → PySem.W.kitOne X.K (t.v cl) (.type T) = some b)
    (h1 : xc ≠ "__name__" := by decide +kernel) (h2 : (xc == ("__debug__" : Str)) = false := by decide +kernel)
    (he : starEach [e, .Name xc pc] X.env = (false, eval e X.env) :: starEach [.Name xc pc] X.env := by rfl) : PE X (.Call (.Name "isinstance" p) [e, .Name xc pc] [] pos) (RE X cl Wx (eIsi ans f)) :=
  PE.weak (pe_callB call_isi hg hm (by decide +kernel) (pa_cons ha (pa_cons (pe_bltn (v := .ty T) hgc hmc hv rfl h1 h2) pa_nil) he) (by decide +kernel) (by decide +kernel) he (by rfl)) fun σ H Q q =>
    eIsi_use hc q fun v H1 t b ty eb q => ⟨v, .ty T, _, _, b, rfl, .ty T, ty, hk t b eb, q⟩
/-- one's own class -/
theorem ev_isiC {pc : Pos} {xc : Str} {C : Addr} {ans : Ty → Option Bool} (hc : ∀ c, (ans (.own c)).isSome = true → OwnC X.K (cl c)) (hg : Gl X "isinstance") (hm : X.mg "isinstance" = none) (ha : PE X e (RE X cl Wx f)) (hgc : Gl X xc) (hmc : X.mg xc = some (.ref C)) (hk : ∀ t b, ans t = some b → PySem.W.kitOne X.K (t.v cl) (.ref C) = some b)
    (h2 : (xc == ("__debug__" : Str)) = false := by decide +kernel)
    (he : starEach [e, .Name xc pc] X.env = (false, eval e X.env) :: starEach [.Name xc pc] X.env := by rfl) : PE X (.Call (.Name "isinstance" p) [e, .Name xc pc] [] pos) (RE X cl Wx (eIsi ans f)) :=
  PE.weak (pe_callB call_isi hg hm (by decide +kernel) (pa_cons ha (pa_cons (pe_glob (v := .ref C) hgc hmc rfl h2) pa_nil) he) (by decide +kernel) (by decide +kernel) he (by rfl)) fun σ H Q q =>
    eIsi_use hc q fun v H1 t b ty eb q => ⟨v, .ref C, _, _, b, rfl, .own C, ty, hk t b eb, q⟩
/-- two built-in classes -/
theorem ev_isi2 {T T' : String} {pc pc' pt : Pos} {kt : Nat} {xc xc' : Str} {ans : Ty → Option Bool} (hc : ∀ c, (ans (.own c)).isSome = true → OwnC X.K (cl c)) (hg : Gl X "isinstance") (hm : X.mg "isinstance" = none) (ha : PE X e (RE X cl Wx f)) (hgc : Gl X xc) (hmc : X.mg xc = none) (hv : bootBuiltins xc = some (.type T))
    (hgc' : Gl X xc') (hmc' : X.mg xc' = none) (hv' : bootBuiltins xc' = some (.type T')) (hk : ∀ t b, ans t = some b → PySem.W.kitAny X.K (t.v cl) [.type T, .type T'] = some b)
    (h1 : xc ≠ "__name__" := by decide +kernel) (h2 : (xc == ("__debug__" : Str)) = false := by decide +kernel) (h1' : xc' ≠ "__name__" := by decide +kernel) (h2' : (xc' == ("__debug__" : Str)) = false := by decide +kernel)
    (he : starEach [e, .Tuple [.Name xc pc, .Name xc' pc'] kt pt] X.env = (false, eval e X.env) :: starEach [.Tuple [.Name xc pc, .Name xc' pc'] kt pt] X.env := by rfl) :
    PE X (.Call (.Name "isinstance" p) [e, .Tuple [.Name xc pc, .Name xc' pc'] kt pt] [] pos) (RE X cl Wx (eIsi ans f)) :=
  PE.weak (pe_callB call_isiT hg hm (by decide +kernel) (pa_cons ha (pa_cons (pe_tup (pa_cons (pe_bltn (v := .ty T) hgc hmc hv rfl h1 h2) (pa_cons (pe_bltn (v := .ty T') hgc' hmc' hv' rfl h1' h2') pa_nil))) pa_nil) he) (by decide +kernel) (by decide +kernel) he (by rfl)) fun σ H Q ⟨W, F, S, a, q⟩ => by
    refine RE.of a q fun W1 S1 y v H1 g1 l1 a1 q1 o1 => ?_
    split at o1
    · rename_i t et
      split at o1
      · rename_i b eb
        refine ⟨by show 2 ≤ sizeLine; decide, fun tp htp => ?_⟩
        obtain ⟨r3, l3⟩ := a1.rel.newF (ho := .tup [.ty T, .ty T']) htp
        exact ⟨v, tp, _, _, _, b, rfl, upd_same, .cons (.ty T) (.cons (.ty T') .nil), ty_rel r3 (fun c ec => hc c (by rw [← ec, eb]; rfl)) et (RelSV.le l3 (Nat.le_refl _) q1), hk t b eb, o1 _ _ _ (.refl _ _) l3 r3 (RelD.bl b)⟩
      · exact o1.elim
    · exact o1.elim
end

/-! ### attributes -/
def instOf (S : Sto) : SV → Option (Nat × List Str × List SV)
  | .d (.ins c fs xs) => some (c, fs, xs.map .d)
  | .d _ => none
  | .m i => match S[i]? with
    | some (.ins c fs xs) => some (c, fs, xs)
    | some (.frz (.ins c fs xs)) => some (c, fs, xs.map .d)
    | _ => none
def lookF {α : Type} (f : Str) : List Str → List α → Option α
  | a :: fs, x :: xs => if f = a then some x else lookF f fs xs
  | _, _ => none
theorem inst_rel {K : PySem.W.Frag} {cl : Nat → Addr} {W : Wd} {S : Sto} {H : Hp} (r : Rel K cl W S H) {a : SV} {c : Nat} {fs : List Str} {xs : List SV} {v : V} (e : instOf S a = some (c, fs, xs)) (q : RelSV K cl W S.length a v) :
    ∃ p dx vs, v = .ref p ∧ H p = some (.ins (cl c) dx (fs.zip vs)) ∧ fs.length = xs.length ∧ Paired (RelSV K cl W S.length) xs vs := by
  cases a with
  | d y =>
    cases y <;> first | (cases e; done) | skip
    cases e; cases q with
    | ins h l t => exact ⟨_, _, _, rfl, r.fz _ _ h, by rw [List.length_map]; exact l, t.sv⟩
  | m i =>
    obtain ⟨_, rfl⟩ := q
    simp only [instOf] at e
    split at e
    · rename_i c' fs' ys hy
      cases e
      obtain ⟨_, vs, dx, h1, h3, h2⟩ := r.st i _ hy
      exact ⟨_, dx, vs, rfl, h1, h3, h2⟩
    · rename_i c' fs' ys hy
      cases e
      have := r.st i _ hy
      cases this with
      | ins h l t => exact ⟨_, _, _, rfl, r.fz _ _ h, by rw [List.length_map]; exact l, t.sv⟩
    · cases e
theorem lookF_rel {R : SV → V → Prop} (f : Str) : ∀ {fs : List Str} {xs : List SV} {vs : List V}, fs.length = xs.length → Paired R xs vs →
    (∀ x, lookF f fs xs = some x → ∃ v, (fs.zip vs).lookup f = some v ∧ R x v) ∧ (lookF f fs xs = none → (fs.zip vs).lookup f = none)
  | [], [], [], _, .nil => ⟨fun _ e => (by cases e), fun _ => rfl⟩
  | a :: fs, x :: xs, v :: vs, l, .cons q t => by
    obtain ⟨i1, i2⟩ := lookF_rel f (Nat.succ.inj l) t
    unfold lookF
    rw [List.zip_cons_cons, List.lookup_cons]
    by_cases h : f = a
    · rw [if_pos h]
      have hb : (f == a) = true := beq_iff_eq.mpr h
      simp only [hb]
      exact ⟨fun y e => (by cases e; exact ⟨v, rfl, q⟩), fun e => (by cases e)⟩
    · rw [if_neg h]
      have hb : (f == a) = false := beq_eq_false_iff_ne.mpr h
      simp only [hb]
      exact ⟨i1, i2⟩
  | [], _ :: _, _, l, _ => by cases l
  | _ :: _, [], _, l, _ => by cases l
def eFld (cs : List Nat) (nm : Str) (f : Fr → Sto → Res SV) : Fr → Sto → Res SV := fun F S => (f F S).bind fun a S1 => match instOf S1 a with
  | some (c, fs, xs) => if cs.contains c then match lookF nm fs xs with
    | some x => .ok x S1
    | none => .bad
    else .bad
  | none => .bad
section
variable {X : Cx} {cl : CL} {Wx : WX} {e : Expr} {es : List Expr} {f : Fr → Sto → Res SV} {p pos : Pos} {x : Str}
theorem ev_fld {cs : List Nat} {nm : Str} (hc : ∀ c, c ∈ cs → Cls X.K (cl c) ∧ NoAttr X.K (cl c) nm) (ha : PE X e (RE X cl Wx f)) (hb : attributeBase e nm X.env (eval e X.env) = eval e X.env := by rfl) : PE X (.Attribute e nm pos) (RE X cl Wx (eFld cs nm f)) :=
  PE.weak (pe_fld ha hb) fun σ H Q ⟨W, F, S, a, q⟩ => by
    refine RE.of a q fun W1 S1 y v H1 g1 l1 a1 q1 o1 => ?_
    split at o1
    · rename_i c fs xs ey
      split at o1
      · rename_i hcs
        obtain ⟨p, dx, vs, rfl, h1, h2, h3⟩ := inst_rel a1.rel ey q1
        split at o1
        · rename_i w ew
          obtain ⟨u, e1, r1⟩ := (lookF_rel nm h2 h3).1 w ew
          obtain ⟨c1, c2⟩ := hc c (by simpa using hcs)
          exact ⟨p, cl c, dx, _, u, rfl, h1, c1, c2, e1, o1.here a1.rel r1⟩
        · exact o1.elim
      · exact o1.elim
    · exact o1.elim
end

/-! ### a def's promise, its call -/
def SpR (K : PySem.W.Frag) (cl : Nat → Addr) (g : Nat → List SV → Sto → Res SV) : Sp := fun vs H Q E => ∃ W S as b, b ≤ S.length ∧ Rel K cl W S H ∧ Paired (RelSV K cl W S.length) as vs ∧ Out K cl (fun c d _ H => E c d H) (RSV K cl) b W S [] (g b as S) Q
/-- the call's end: what it hands back is frozen, what it made is dropped -/
def fin (n : Nat) : Res SV → Res SV
  | .ok x S => match freeze S x with
    | some (y, S1) => .ok (.d y) (S1.take n)
    | none => .bad
  | .ex e S => .ex e (S.take n)
  | .bad => .bad
/-- .. is kept -/
def finK (n : Nat) : Res SV → Res SV
  | .ok x S => .ok x S
  | .ex e S => .ex e (S.take n)
  | .bad => .bad
section
variable {K : PySem.W.Frag} {cl : Nat → Addr} {Wx : WX} {W : Wd} {S : Sto} {H : Hp} {b : Nat} {σ : St}
theorem below_of {n : Nat} {x : SV} {v : V} (q : RelSV K cl W n x v) : x.below n := by
  cases x with
  | d y => trivial
  | m i => exact q.1
theorem belows_of {n : Nat} : ∀ {xs : List SV} {vs : List V}, Paired (RelSV K cl W n) xs vs → ∀ x ∈ xs, x.below n
  | _, _, .nil, x, h => by cases h
  | _, _, .cons q t, x, h => by
    rcases List.mem_cons.mp h with rfl | h
    · exact below_of q
    · exact belows_of t x h
theorem Rel.wfb (r : Rel K cl W S H) : WFB S.length S := fun i mo hi e => by
  have q := r.st i mo e
  cases mo with
  | lst xs => obtain ⟨_, _, _, q⟩ := q; exact belows_of q
  | dic ks xs => obtain ⟨_, _, _, _, q⟩ := q; exact belows_of q
  | ins c fs xs => obtain ⟨_, _, _, _, _, q⟩ := q; exact belows_of q
  | frz x => trivial
theorem relsv_low {n k : Nat} {x : SV} {v : V} (q : RelSV K cl W n x v) (h : x.below k) : RelSV K cl W k x v := by
  cases x with
  | d y => exact q
  | m i => exact ⟨h, q.2⟩
theorem relsvs_low {n k : Nat} : ∀ {xs : List SV} {vs : List V}, Paired (RelSV K cl W n) xs vs → (∀ x ∈ xs, x.below k) → Paired (RelSV K cl W k) xs vs
  | _, _, .nil, _ => .nil
  | _, _, .cons q t, h => .cons (relsv_low q (h _ (List.mem_cons_self ..))) (relsvs_low t fun x hx => h x (List.mem_cons_of_mem _ hx))
theorem Rel.take (r : Rel K cl W S H) {n : Nat} (hn : n ≤ S.length) (w : WFB n S) : Rel K cl W (S.take n) H := by
  have one : ∀ i mo, (S.take n)[i]? = some mo → i < n ∧ S[i]? = some mo := fun i mo e => by
    rw [List.getElem?_take] at e
    split at e
    · rename_i h; exact ⟨h, e⟩
    · cases e
  have hl : (S.take n).length = n := by rw [List.length_take]; omega
  refine ⟨r.fz, fun i mo e => ?_, fun i j mi mj ei ej => r.inj i j mi mj (one i mi ei).2 (one j mj ej).2⟩
  obtain ⟨hi, e⟩ := one i mo e
  have q := r.st i mo e
  have b := w i mo hi e
  rw [hl]
  cases mo with
  | lst xs => obtain ⟨q1, vs, q2, q3⟩ := q; exact ⟨q1, vs, q2, relsvs_low q3 b⟩
  | dic ks xs => obtain ⟨q1, vs, q2, q4, q3⟩ := q; exact ⟨q1, vs, q2, q4, relsvs_low q3 b⟩
  | ins c fs xs => obtain ⟨q1, vs, dx, q2, q4, q3⟩ := q; exact ⟨q1, vs, dx, q2, q4, relsvs_low q3 b⟩
  | frz x => exact q
theorem Gr.take {b n : Nat} {S S' : Sto} (g : Gr b S S') (hn : n ≤ S'.length) (h : S.length ≤ n) (hb : b ≤ n) : Gr b S (S'.take n) :=
  ⟨by rw [List.length_take]; omega, fun b' hb' w i mo hi e => by
    rw [List.getElem?_take] at e
    split at e
    · exact g.wf b' hb' w i mo hi e
    · cases e⟩
theorem fin_out {r : Res SV} {Q : VK} (hr : Rel K cl W S H) (hb : b ≤ S.length) (h : Out K cl Wx (RSV K cl) b W S σ (fin S.length r) Q) : Out K cl Wx (RSV K cl) S.length W S σ r Q := by
  cases r with
  | ok x S' =>
    intro W' H' v g l r' q
    unfold fin at h
    simp only at h
    split at h
    · rename_i y S1 hf
      obtain ⟨n1, w1, k1⟩ := freeze_ok (K := K) (cl := cl) hf
      obtain ⟨W2, e2, l2, r2, q2⟩ := k1 W' H' v r' q
      have hl1 : S.length ≤ S1.length := by rw [n1]; exact g.len
      have w2 : WFB S.length S1 := w1 _ (g.wf _ (Nat.le_refl _) hr.wfb)
      have g1 : Gr b S S1 := ⟨hl1, fun b' hb' w => w1 b' (g.wf b' (Nat.le_trans hb' hb) w)⟩
      exact h W2 H' v (g1.take hl1 (Nat.le_refl _) hb) (l.trans l2 g.len) (r2.take hl1 w2) q2
    · exact h.elim
  | ex e S' =>
    intro W' H' c d g l r' q
    exact h W' H' c d ((g.less hb).take g.len (Nat.le_refl _) hb) l (r'.take g.len (g.wf _ (Nat.le_refl _) hr.wfb)) q
  | bad => exact h
theorem finK_out {r : Res SV} {Q : VK} (hr : Rel K cl W S H) (hb : b ≤ S.length) (h : Out K cl Wx (RSV K cl) b W S σ (finK S.length r) Q) : Out K cl Wx (RSV K cl) S.length W S σ r Q := by
  cases r with
  | ok x S' => exact fun W' H' v g l r' q => h W' H' v (g.less hb) l r' q
  | ex e S' =>
    intro W' H' c d g l r' q
    exact h W' H' c d ((g.less hb).take g.len (Nat.le_refl _) hb) l (r'.take g.len (g.wf _ (Nat.le_refl _) hr.wfb)) q
  | bad => exact h
/-- from what a call's end asks to what the promise asks -/
theorem out_sp {r : Res SV} {Q : VK} {n : Nat} (h : Out K cl Wx (RSV K cl) n W S σ r Q) : Out K cl (fun c d _ H => Wx c d σ H) (RSV K cl) n W S [] r Q := by
  cases r with
  | ok x S' => exact h
  | ex e S' => exact h
  | bad => exact h
end
def eCall (g : Nat → List SV → Sto → Res SV) (f : Fr → Sto → Res (List SV)) : Fr → Sto → Res SV := fun F S => (f F S).bind fun as S1 => fin S1.length (g S1.length as S1)
def eCallK (g : Nat → List SV → Sto → Res SV) (f : Fr → Sto → Res (List SV)) : Fr → Sto → Res SV := fun F S => (f F S).bind fun as S1 => finK S1.length (g S1.length as S1)
end Ev

set_option Elab.async false
set_option linter.all false
set_option maxRecDepth 100000
/-! Ev8: calls of one's own defs, methods, classes, operators. -/
namespace Ev
open PySem L2

section
variable {X : Cx} {cl : CL} {Wx : WX} {k : Nat} {fa C : Addr} {fd : FuncData} {ps : List Str} {g : Nat → List SV → Sto → Res SV} {x m : Str} {p pos apos : Pos} {e o e1 e2 : Expr} {es : List Expr} {f : Fr → Sto → Res (List SV)} {fo f1 f2 : Fr → Sto → Res SV}
/-- the promise of the table's def -/
abbrev FnE (X : Cx) (cl : Nat → Addr) (k : Nat) (fa : Addr) (fd : FuncData) (ps : List Str) (g : Nat → List SV → Sto → Res SV) : Prop := FnOk X.prog X.w X.K X.mg X.base (L2N.CX X.prog X.w) k fa fd ps (SpR X.K cl g)
theorem sp_fin {σ : St} {H1 : Hp} {Q : VK} {W1 : Wd} {F : Fr} {S1 : Sto} {as : List SV} {vs : List V} (a1 : At X.K cl W1 F S1 σ H1) (q1 : Paired (RelSV X.K cl W1 S1.length) as vs)
    (o1 : Out X.K cl Wx (RSV X.K cl) F.b W1 S1 σ (fin S1.length (g S1.length as S1)) Q) : SpR X.K cl g vs H1 Q (WE Wx σ) :=
  ⟨W1, S1, as, S1.length, Nat.le_refl _, a1.rel, q1, out_sp (fin_out a1.rel a1.b o1)⟩
theorem sp_finK {σ : St} {H1 : Hp} {Q : VK} {W1 : Wd} {F : Fr} {S1 : Sto} {as : List SV} {vs : List V} (a1 : At X.K cl W1 F S1 σ H1) (q1 : Paired (RelSV X.K cl W1 S1.length) as vs)
    (o1 : Out X.K cl Wx (RSV X.K cl) F.b W1 S1 σ (finK S1.length (g S1.length as S1)) Q) : SpR X.K cl g vs H1 Q (WE Wx σ) :=
  ⟨W1, S1, as, S1.length, Nat.le_refl _, a1.rel, q1, out_sp (finK_out a1.rel a1.b o1)⟩
theorem ev_call (Fk : FnE X cl k fa fd ps g) (hr : Room k X.A) (tk : L2N.Takes X Wx) (hg : Gl X x) (hm : X.mg x = some (.ref fa)) (hk : PySem.W.keepIn X.K (.ref fa) = true) (hb : Binds X.K fd ps []) (ha : PA X (e :: es) (RA X cl Wx f))
    (hdb : (x == ("__debug__" : Str)) = false := by decide +kernel) (he : starEach (e :: es) X.env = (false, eval e X.env) :: starEach es X.env := by rfl) (hpl : (backTo pos (starEach es X.env)).any (·.1) = false := by rfl) :
    PE X (.Call (.Name x p) (e :: es) [] pos) (RE X cl Wx (eCall g f)) :=
  PE.weak (pe_callS (E := WE Wx) Fk hr hg hm hk hb (fun σ => L2N.passAt tk σ) ha hdb he hpl) fun σ H Q ⟨W, F, S, a, q⟩ =>
    RA.of a q fun W1 S1 as vs H1 g1 l1 a1 q1 o1 => sp_fin a1 q1 o1
theorem ev_callK (Fk : FnE X cl k fa fd ps g) (hr : Room k X.A) (tk : L2N.Takes X Wx) (hg : Gl X x) (hm : X.mg x = some (.ref fa)) (hk : PySem.W.keepIn X.K (.ref fa) = true) (hb : Binds X.K fd ps []) (ha : PA X (e :: es) (RA X cl Wx f))
    (hdb : (x == ("__debug__" : Str)) = false := by decide +kernel) (he : starEach (e :: es) X.env = (false, eval e X.env) :: starEach es X.env := by rfl) (hpl : (backTo pos (starEach es X.env)).any (·.1) = false := by rfl) :
    PE X (.Call (.Name x p) (e :: es) [] pos) (RE X cl Wx (eCallK g f)) :=
  PE.weak (pe_callS (E := WE Wx) Fk hr hg hm hk hb (fun σ => L2N.passAt tk σ) ha hdb he hpl) fun σ H Q ⟨W, F, S, a, q⟩ =>
    RA.of a q fun W1 S1 as vs H1 g1 l1 a1 q1 o1 => sp_finK a1 q1 o1

/-! ### methods -/
def eMeth (c : Nat) (m : Str) (g : Nat → List SV → Sto → Res SV) (fo : Fr → Sto → Res SV) (f : Fr → Sto → Res (List SV)) : Fr → Sto → Res SV := fun F S => (fo F S).bind fun x S1 => match instOf S1 x with
  | some (c', fs, xs) => if c' = c ∧ (lookF m fs xs).isNone = true then (f F S1).bind fun as S2 => fin S2.length (g S2.length (x :: as) S2) else .bad
  | none => .bad
theorem pe_methE {CX : CXT} {sp : Sp} {E : St → XK} {ta : TE} {t : TA} {pl : Sem Bool} (he : PE X o ta) (c : Cls X.K C) (hm : Meth X.K C m fa) (Fk : FnOk X.prog X.w X.K X.mg X.base CX k fa fd ps sp) (hr : Room k X.A) (hb : Binds X.K fd ps []) (hx : ∀ σ, PassesAt CX X σ (E σ)) (ha : PA X (e :: es) t)
    (hst : starEach (e :: es) X.env = (false, eval e X.env) :: starEach es X.env := by rfl) (hpl : (backTo pos (starEach es X.env)).any (·.1) = false := by rfl)
    (ht : eval (.Call (.Attribute o m apos) (e :: es) [] pos) X.env = (do
      let ov ← eval o X.env
      standAt apos.atName
      let (f, first) ← holding [ov] (getMethod ov m pl)
      callWith pos f first (backTo pos (starEach (e :: es) X.env)) (backToKw pos (keywordEach [] X.env))) := by rfl) :
    PE X (.Call (.Attribute o m apos) (e :: es) [] pos) (fun σ H Q => ta σ H fun x H1 => ∃ a dx fs, x = .ref a ∧ H1 a = some (.ins C dx fs) ∧ fs.lookup m = none ∧ t σ H1 fun vs H2 => sp (x :: vs) H2 Q (E σ)) := by
  refine ⟨fun pins s σ H Q I h => ?_⟩
  refine PySem.W.methodCall_KW (pl := pl) (thn (he.run pins s σ H _ I h) fun u s1 ⟨x, H1, I1, rx, a, dx, fs, ex, ea, l, q⟩ => ?_) ht
  subst ex
  obtain rfl : u = Value.ref a := rx
  refine getmeth_ok I1 ea c hm l ?_
  refine PySem.W.callWith_K (first := [.ref a]) (h₀ := X.base) I.ok.mod.kin hm.kp (thn (ha.run pos pins s1 σ H1 _ I1 q) fun us s2 ⟨vs, H2, I2, r, q2⟩ => ⟨I2.kIn, ?_⟩) hst hpl
  exact run_fnS (us := .ref a :: us) (vs := .ref a :: vs) Fk hr hb (hx σ) I2 (.cons rfl r) q2
theorem pe_methE0 {CX : CXT} {sp : Sp} {E : St → XK} {ta : TE} {pl : Sem Bool} (he : PE X o ta) (c : Cls X.K C) (hm : Meth X.K C m fa) (Fk : FnOk X.prog X.w X.K X.mg X.base CX k fa fd ps sp) (hr : Room k X.A) (hb : Binds X.K fd ps []) (hx : ∀ σ, PassesAt CX X σ (E σ))
    (ht : eval (.Call (.Attribute o m apos) [] [] pos) X.env = (do
      let ov ← eval o X.env
      standAt apos.atName
      let (f, first) ← holding [ov] (getMethod ov m pl)
      callWith pos f first (backTo pos (starEach [] X.env)) (backToKw pos (keywordEach [] X.env))) := by rfl) :
    PE X (.Call (.Attribute o m apos) [] [] pos) (fun σ H Q => ta σ H fun x H1 => ∃ a dx fs, x = .ref a ∧ H1 a = some (.ins C dx fs) ∧ fs.lookup m = none ∧ sp [x] H1 Q (E σ)) := by
  refine ⟨fun pins s σ H Q I h => ?_⟩
  refine PySem.W.methodCall_KW (pl := pl) (thn (he.run pins s σ H _ I h) fun u s1 ⟨x, H1, I1, rx, a, dx, fs, ex, ea, l, q⟩ => ?_) ht
  subst ex
  obtain rfl : u = Value.ref a := rx
  refine getmeth_ok I1 ea c hm l ?_
  exact PySem.W.callWith_K0 (first := [.ref a]) I1.kIn hm.kp (run_fnS (us := [.ref a]) (vs := [.ref a]) Fk hr hb (hx σ) I1 (.cons rfl .nil) q)
theorem ev_meth {c : Nat} {pl : Sem Bool} (he : PE X o (RE X cl Wx fo)) (hc : Cls X.K (cl c)) (hm : Meth X.K (cl c) m fa) (Fk : FnE X cl k fa fd ps g) (hr : Room k X.A) (tk : L2N.Takes X Wx) (hb : Binds X.K fd ps []) (ha : PA X (e :: es) (RA X cl Wx f))
    (hst : starEach (e :: es) X.env = (false, eval e X.env) :: starEach es X.env := by rfl) (hpl : (backTo pos (starEach es X.env)).any (·.1) = false := by rfl)
    (ht : eval (.Call (.Attribute o m apos) (e :: es) [] pos) X.env = (do
      let ov ← eval o X.env
      standAt apos.atName
      let (f, first) ← holding [ov] (getMethod ov m pl)
      callWith pos f first (backTo pos (starEach (e :: es) X.env)) (backToKw pos (keywordEach [] X.env))) := by rfl) :
    PE X (.Call (.Attribute o m apos) (e :: es) [] pos) (RE X cl Wx (eMeth c m g fo f)) :=
  PE.weak (pe_methE (E := WE Wx) (pl := pl) he hc hm Fk hr hb (fun σ => L2N.passAt tk σ) ha hst hpl ht) fun σ H Q ⟨W, F, S, a, q⟩ => by
    refine RE.of a q fun W1 S1 y v H1 g1 l1 a1 q1 o1 => ?_
    split at o1
    · rename_i c' fs xs ey
      split at o1
      · rename_i hc'
        obtain ⟨rfl, hn⟩ := hc'
        obtain ⟨pp, dx, vs, rfl, h1, h2, h3⟩ := inst_rel a1.rel ey q1
        refine ⟨pp, dx, _, rfl, h1, (lookF_rel m h2 h3).2 (Option.isNone_iff_eq_none.mp hn), ?_⟩
        refine RA.of a1 o1 fun W2 S2 as ws H2 g2 l2 a2 q2 o2 => ?_
        exact sp_fin a2 (.cons (RelSV.le l2 g2.len q1) q2) o2
      · exact o1.elim
    · exact o1.elim
theorem ev_meth0 {c : Nat} {pl : Sem Bool} (he : PE X o (RE X cl Wx fo)) (hc : Cls X.K (cl c)) (hm : Meth X.K (cl c) m fa) (Fk : FnE X cl k fa fd ps g) (hr : Room k X.A) (tk : L2N.Takes X Wx) (hb : Binds X.K fd ps [])
    (ht : eval (.Call (.Attribute o m apos) [] [] pos) X.env = (do
      let ov ← eval o X.env
      standAt apos.atName
      let (f, first) ← holding [ov] (getMethod ov m pl)
      callWith pos f first (backTo pos (starEach [] X.env)) (backToKw pos (keywordEach [] X.env))) := by rfl) :
    PE X (.Call (.Attribute o m apos) [] [] pos) (RE X cl Wx (eMeth c m g fo aNil)) :=
  PE.weak (pe_methE0 (E := WE Wx) (pl := pl) he hc hm Fk hr hb (fun σ => L2N.passAt tk σ) ht) fun σ H Q ⟨W, F, S, a, q⟩ => by
    refine RE.of a q fun W1 S1 y v H1 g1 l1 a1 q1 o1 => ?_
    split at o1
    · rename_i c' fs xs ey
      split at o1
      · rename_i hc'
        obtain ⟨rfl, hn⟩ := hc'
        obtain ⟨pp, dx, vs, rfl, h1, h2, h3⟩ := inst_rel a1.rel ey q1
        refine ⟨pp, dx, _, rfl, h1, (lookF_rel m h2 h3).2 (Option.isNone_iff_eq_none.mp hn), ?_⟩
        exact sp_fin a1 (.cons q1 .nil) o1
      · exact o1.elim
    · exact o1.elim

/-! ### C(..) -/
def mkd (n : Nat) : Res SV → Res SV
  | .ok (.d .non) S => .ok (.m n) S
  | .ok _ _ => .bad
  | .ex e S => .ex e S
  | .bad => .bad
def eMake (c : Nat) (g : Nat → List SV → Sto → Res SV) (f : Fr → Sto → Res (List SV)) : Fr → Sto → Res SV := fun F S => (f F S).bind fun as S1 => fin S1.length (mkd S1.length (g S1.length (.m S1.length :: as) (S1 ++ [.ins c [] []])))
def eMakeK (c : Nat) (g : Nat → List SV → Sto → Res SV) (f : Fr → Sto → Res (List SV)) : Fr → Sto → Res SV := fun F S => (f F S).bind fun as S1 => finK S1.length (mkd S1.length (g S1.length (.m S1.length :: as) (S1 ++ [.ins c [] []])))
theorem Rel.extra {K : PySem.W.Frag} {W : Wd} {S : Sto} {H : Hp} (r : Rel K cl W S H) {d : Addr} {ho : HO} (h : H d = none) : Rel K cl W S (upd H d ho) := by
  refine ⟨fun a o e => ?_, fun i mo e => ?_, r.inj⟩
  · rw [upd_ne (ne_of_none (r.fz a o e) h)]
    exact r.fz a o e
  · refine (r.st i mo e).keep (.refl _ _) (Nat.le_refl _) (fun _ g => g) fun hm => ?_
    obtain ⟨o, ho'⟩ := r.there e hm
    rw [upd_ne (ne_of_none ho' h)]
/-- at the entry of __init__ -/
theorem make_in {K : PySem.W.Frag} {W1 : Wd} {S1 : Sto} {H1 : Hp} {Q : VK} {σ : St} {c : Nat} {as : List SV} {vs : List V} {E : XK} (hE : E = WE Wx σ) (r : Rel K cl W1 S1 H1) (q1 : Paired (RelSV K cl W1 S1.length) as vs)
    (o1 : Out K cl Wx (RSV K cl) S1.length W1 S1 σ (mkd S1.length (g S1.length (.m S1.length :: as) (S1 ++ [.ins c [] []]))) Q) {y dx : Addr} (hy : H1 y = none) (hd : H1 dx = none) (hne : dx ≠ y) :
    SpR K cl g (.ref y :: vs) (upd (upd H1 dx (.own y)) y (.ins (cl c) dx [])) (fun v H2 => v = .non ∧ Q (.ref y) H2) E := by
  subst hE
  have hy2 : upd H1 dx (.own y) y = none := by rw [upd_ne hne.symm]; exact hy
  have r0 := r.extra (ho := .own y) hd
  have r1 := r0.newM (mo := .ins c [] []) (ho := .ins (cl c) dx []) hy2 ⟨r0.gnone hy2, [], dx, upd_same, rfl, .nil⟩
  have le := W1.add_le S1.length y
  have gr := Gr.add S1.length S1 (.ins c [] []) (Nat.le_refl _)
  have hl : (S1 ++ [MO.ins c [] []]).length = S1.length + 1 := by rw [List.length_append]; rfl
  refine ⟨W1.add S1.length y, S1 ++ [.ins c [] []], .m S1.length :: as, S1.length, by omega, r1, .cons ⟨by omega, by rw [Wd.add_at]⟩ (RelSVs.le le (by omega) q1), ?_⟩
  have o2 := Out.rebase o1 gr le
  cases hq : g S1.length (.m S1.length :: as) (S1 ++ [.ins c [] []]) with
  | ok x S2 =>
    rw [hq] at o2
    intro W' H' v g2 l2 r2 q2
    cases x with
    | m i => exact o2.elim
    | d z =>
      cases z <;> first | exact o2.elim | skip
      cases q2
      refine ⟨rfl, o2 W' H' _ g2 l2 r2 ⟨?_, ?_⟩⟩
      · have := g2.len
        omega
      · rw [l2.r S1.length (by omega), Wd.add_at]
  | ex e S2 => rw [hq] at o2; exact o2
  | bad => rw [hq] at o2; exact o2
theorem pe_makeE {CX : CXT} {sp : Sp} {E : St → XK} {t : TA} (M : Mk X.K C fa) (Fk : FnOk X.prog X.w X.K X.mg X.base CX k fa fd ps sp) (hr : Room (k + 1) X.A) (hg : Gl X x) (hm : X.mg x = some (.ref C)) (hb : Binds X.K fd ps []) (hx : ∀ σ, PassesAt CX X σ (E σ)) (ha : PA X (e :: es) t)
    (hdb : (x == ("__debug__" : Str)) = false := by decide +kernel) (he : starEach (e :: es) X.env = (false, eval e X.env) :: starEach es X.env := by rfl) (hpl : (backTo pos (starEach es X.env)).any (·.1) = false := by rfl) :
    PE X (.Call (.Name x p) (e :: es) [] pos) (fun σ H Q => t σ H fun vs H1 => ∀ y dx, H1 y = none → H1 dx = none → dx ≠ y → sp (.ref y :: vs) (upd (upd H1 dx (.own y)) y (.ins C dx [])) (fun v H2 => v = .non ∧ Q (.ref y) H2) (E σ)) := by
  refine ⟨fun pins s σ H Q I h => ?_⟩
  refine wpAny_Call_Name_kw (ld_glob I hg hm ?_ hdb)
  refine PySem.W.callWith_K (h₀ := X.base) I.ok.mod.kin M.kp (thn (ha.run pos pins s σ H _ I h) fun us s1 ⟨vs, H1, I1, r, q⟩ => ⟨I1.kIn, ?_⟩) he hpl
  have hq := q (s1.heap.objs.size + 1) s1.heap.objs.size (I1.hok.fresh (Nat.le_succ _)) (I1.hok.fresh (Nat.le_refl _)) (Nat.ne_of_lt (Nat.lt_succ_self _))
  have I2 := Inv.made (C := C) I1
  have r2 : Vals (V.ref (s1.heap.objs.size + 1) :: vs) (Value.ref (s1.heap.objs.size + 1) :: us) := .cons rfl r
  have hl : (Value.ref (s1.heap.objs.size + 1) :: us).length = ps.length := by
    have e' := r2.length
    rw [Fk.len _ _ _ _ hq] at e'
    exact e'.symm
  have hbb := hb _ (Value.ref (s1.heap.objs.size + 1) :: us) I2.kIn (by rw [List.append_nil]; exact hl)
  rw [List.append_nil] at hbb
  refine wpAny_call (make_map (f := fa) I1.kIn M.makes M.init (beq_iff_eq.mp M.fn) (codeAny_mono (Fk.run _ X.stack _ _ ⟨Value.ref (s1.heap.objs.size + 1) :: us, []⟩ (Value.ref (s1.heap.objs.size + 1) :: us) _ _ (E σ) (hr.make C us [])
    (I2.env0.make C us []) hbb r2 hq) fun r s' hq' => ?_))
  cases r with
  | error er => exact hx σ pins _ _ er s' I2 hq'
  | ok fl =>
    cases fl with
    | ret u =>
      obtain ⟨v, H', I3, rv, ev, q3⟩ := I2.after hq'
      subst ev
      exact ⟨rv, ⟨V.ref (s1.heap.objs.size + 1), H', I3, rfl, q3⟩⟩
    | next => exact False.elim hq'
    | brk => exact False.elim hq'
    | cont => exact False.elim hq'
theorem ev_make {c : Nat} (M : Mk X.K (cl c) fa) (Fk : FnE X cl k fa fd ps g) (hr : Room (k + 1) X.A) (tk : L2N.Takes X Wx) (hg : Gl X x) (hm : X.mg x = some (.ref (cl c))) (hb : Binds X.K fd ps []) (ha : PA X (e :: es) (RA X cl Wx f))
    (hdb : (x == ("__debug__" : Str)) = false := by decide +kernel) (he : starEach (e :: es) X.env = (false, eval e X.env) :: starEach es X.env := by rfl) (hpl : (backTo pos (starEach es X.env)).any (·.1) = false := by rfl) :
    PE X (.Call (.Name x p) (e :: es) [] pos) (RE X cl Wx (eMake c g f)) :=
  PE.weak (pe_makeE (E := WE Wx) M Fk hr hg hm hb (fun σ => L2N.passAt tk σ) ha hdb he hpl) fun σ H Q ⟨W, F, S, a, q⟩ =>
    RA.of a q fun W1 S1 as vs H1 g1 l1 a1 q1 o1 y dx hy hd hne => make_in rfl a1.rel q1 (fin_out a1.rel a1.b o1) hy hd hne
theorem ev_makeK {c : Nat} (M : Mk X.K (cl c) fa) (Fk : FnE X cl k fa fd ps g) (hr : Room (k + 1) X.A) (tk : L2N.Takes X Wx) (hg : Gl X x) (hm : X.mg x = some (.ref (cl c))) (hb : Binds X.K fd ps []) (ha : PA X (e :: es) (RA X cl Wx f))
    (hdb : (x == ("__debug__" : Str)) = false := by decide +kernel) (he : starEach (e :: es) X.env = (false, eval e X.env) :: starEach es X.env := by rfl) (hpl : (backTo pos (starEach es X.env)).any (·.1) = false := by rfl) :
    PE X (.Call (.Name x p) (e :: es) [] pos) (RE X cl Wx (eMakeK c g f)) :=
  PE.weak (pe_makeE (E := WE Wx) M Fk hr hg hm hb (fun σ => L2N.passAt tk σ) ha hdb he hpl) fun σ H Q ⟨W, F, S, a, q⟩ =>
    RA.of a q fun W1 S1 as vs H1 g1 l1 a1 q1 o1 y dx hy hd hne => make_in rfl a1.rel q1 (finK_out a1.rel a1.b o1) hy hd hne

/-! ### a op b of one's own class -/
def eOwn (o : Sto → SV → SV → Option Dv) (c : Nat) (g : Nat → List SV → Sto → Res SV) (f1 f2 : Fr → Sto → Res SV) : Fr → Sto → Res SV := fun F S => (f1 F S).bind fun x S1 => (f2 F S1).bind fun y S2 => match instOf S2 x, instOf S2 y with
  | some (c1, _, _), some (c2, _, _) => if c1 = c ∧ c2 = c then fin S2.length (g S2.length [x, y] S2) else .bad
  | _, _ => match o S2 x y with
    | some z => .ok (.d z) S2
    | none => .bad
structure OwnOp (K : PySem.W.Frag) (C : Addr) (op : Operator) (fa : Addr) : Prop where
  first : PySem.W.selfFirst K C = true
  at_ : PySem.W.findIn K (.ref C) (PySem.dunder op.info.2) = some (some (.ref fa))
  fn : PySem.W.isFn K (.ref fa) = true
theorem cmpBack_of {Q : Value → Shared → Prop} {v : V} {u : Value} {s' : Shared} (r : RelV v u) (q : Q u s') : PySem.W.CmpBack Q u s' := by
  cases v with
  | non => cases (show u = Value.none from r); exact q
  | bl _ => cases (show u = Value.bool _ from r); exact q
  | int _ => obtain ⟨t, rfl⟩ := r; exact q
  | str _ => obtain ⟨t, rfl⟩ := r; exact q
  | byt _ => obtain ⟨t, rfl⟩ := r; exact q
  | flt _ => obtain ⟨t, rfl⟩ := r; exact q
  | ref _ => cases (show u = Value.ref _ from r); exact q
  | ty _ => cases (show u = Value.type _ from r); exact q
theorem ev_own {c : Nat} {op : Operator} {o : Sto → SV → SV → Option Dv} (O : OwnOp X.K (cl c) op fa) (Fk : FnE X cl k fa fd ps g) (hr : Room k X.A) (tk : L2N.Takes X Wx) (hb : Binds X.K fd ps []) (ho : OpR X (binaryOp op) (ROp X cl o)) (h1 : PE X e1 (RE X cl Wx f1)) (h2 : PE X e2 (RE X cl Wx f2)) :
    PE X (.BinOp e1 op e2 pos) (RE X cl Wx (eOwn o c g f1 f2)) := by
  refine ⟨fun pins s σ H Q I ⟨W, F, S, a, q⟩ => ?_⟩
  let P : V → V → Hp → Prop := fun x y H2 => ROp X cl o x y H2 Q ∨ ∃ p q dx dy fs gs, x = .ref p ∧ y = .ref q ∧ H2 p = some (.ins (cl c) dx fs) ∧ H2 q = some (.ins (cl c) dy gs) ∧ SpR X.K cl g [x, y] H2 Q (WE Wx σ)
  have h0 : RE X cl Wx f1 σ H fun x H1 => RE X cl Wx f2 σ H1 fun y H2 => P x y H2 := by
    refine RE.of a q fun W1 S1 x v H1 g1 l1 a1 q1 o1 => ?_
    refine RE.of a1 o1 fun W2 S2 y u H2 g2 l2 a2 q2 o2 => ?_
    have q1' := RelSV.le l2 g2.len q1
    split at o2
    · rename_i c1 fs xs c2 gs ys ex ey
      split at o2
      · rename_i hc
        obtain ⟨rfl, rfl⟩ := hc
        obtain ⟨pp, dx, vs, rfl, k1, k2, k3⟩ := inst_rel a2.rel ex q1'
        obtain ⟨qq, dy, ws, rfl, m1, m2, m3⟩ := inst_rel a2.rel ey q2
        exact .inr ⟨pp, qq, dx, dy, _, _, rfl, rfl, k1, m1, sp_fin a2 (.cons q1' (.cons q2 .nil)) o2⟩
      · exact o2.elim
    · cases z : o S2 x y with
      | none => simp only [z] at o2; exact o2.elim
      | some w =>
        simp only [z] at o2
        exact .inl ⟨W2, S2, x, y, w, a2.rel, q1', q2, z, fun W' H' v l r q => o2 W' H' v (.refl _ _) l r q⟩
  refine wpAny_BinOp (bin h1 h2 I h0 fun v u s2 x y H2 I2 rx ry q => ?_)
  rcases q with q | ⟨pp, qq, dx, dy, fs, gs, rfl, rfl, k1, m1, q⟩
  · exact ho pins s2 σ H2 x y v u Q I2 rx ry q
  · obtain rfl : v = Value.ref pp := rx
    obtain rfl : u = Value.ref qq := ry
    obtain ⟨mA, O1, _⟩ := ins_get I2.hok k1
    obtain ⟨od, J1, _⟩ := O1.look
    obtain ⟨mB, O2, _⟩ := ins_get I2.hok m1
    obtain ⟨od2, J2, _⟩ := O2.look
    obtain ⟨mm, Fm⟩ := I2.fr
    refine PySem.W.binop_K Fm I2.mod.kin J1 J2.type O.first O.at_ O.fn ?_
    exact thn (run_fnS (us := [.ref pp, .ref qq]) (vs := [.ref pp, .ref qq]) Fk hr hb (L2N.passAt tk σ) I2 (.cons rfl (.cons rfl .nil)) q) fun w s3 ⟨z, H3, I3, r3, q3⟩ => cmpBack_of r3 ⟨z, H3, I3, r3, q3⟩
end
end Ev

set_option Elab.async false
set_option linter.all false
set_option maxRecDepth 100000
/-! Ev9: the store changed, statements. -/
namespace Ev
open PySem L2

/-! ### a thing of the store is changed -/
def okIn (b i : Nat) : SV → Bool
  | .d _ => true
  | .m j => decide (j ≤ i) || decide (b ≤ i)
section
variable {K : PySem.W.Frag} {cl : Nat → Addr} {W : Wd} {S : Sto} {H : Hp}
theorem Rel.set (r : Rel K cl W S H) {i : Nat} {mo mo' : MO} {ho : HO} (e : S[i]? = some mo) (hm : isMut mo = true) (hn : RelMO K cl W S.length (upd H (W.ρ i) ho) (W.ρ i) mo') : Rel K cl W (S.set i mo') (upd H (W.ρ i) ho) := by
  have hl : i < S.length := (List.getElem?_eq_some_iff.mp e).1
  have hg : W.G (W.ρ i) = none := by
    have q := r.st i mo e
    cases mo with
    | lst xs => exact q.1
    | dic ks xs => exact q.1
    | ins c fs xs => exact q.1
    | frz x => cases hm
  refine ⟨fun a o ea => ?_, fun j mj ej => ?_, fun j k mj mk ej ek a1 a2 q => ?_⟩
  · rw [upd_ne (fun z => by rw [z, hg] at ea; cases ea)]
    exact r.fz a o ea
  · rw [List.length_set]
    by_cases h : i = j
    · subst h
      rw [List.getElem?_set, if_pos rfl, if_pos hl] at ej
      cases ej
      exact hn
    · rw [List.getElem?_set_ne h] at ej
      refine (r.st j mj ej).keep (.refl _ _) (Nat.le_refl _) (fun _ g => g) fun a => ?_
      rw [upd_ne fun z => h (r.inj i j mo mj e ej hm a z.symm)]
  · have un : ∀ j mj, (S.set i mo')[j]? = some mj → isMut mj = true → ∃ mj', S[j]? = some mj' ∧ isMut mj' = true := fun j mj ej a => by
      by_cases h : i = j
      · subst h; exact ⟨mo, e, hm⟩
      · rw [List.getElem?_set_ne h] at ej; exact ⟨mj, ej, a⟩
    obtain ⟨mj', e1, b1⟩ := un j mj ej a1
    obtain ⟨mk', e2, b2⟩ := un k mk ek a2
    exact r.inj j k mj' mk' e1 e2 b1 b2 q
theorem Gr.set {b : Nat} {i : Nat} {mo : MO} (h : ∀ b', b' ≤ b → WFB b' S → i < b' → mo.below b') : Gr b S (S.set i mo) :=
  ⟨by rw [List.length_set]; exact Nat.le_refl _, fun b' hb' w j mj hj ej => by
    by_cases e : i = j
    · subst e
      rw [List.getElem?_set, if_pos rfl] at ej
      split at ej
      · cases ej; exact h b' hb' w hj
      · cases ej
    · rw [List.getElem?_set_ne e] at ej
      exact w j mj hj ej⟩
theorem okIn_below {b b' i : Nat} {x : SV} (h : okIn b i x = true) (hb : b' ≤ b) (hi : i < b') : x.below b' := by
  cases x with
  | d y => trivial
  | m j =>
    simp only [okIn, Bool.or_eq_true, decide_eq_true_eq] at h
    show j < b'
    omega
end

/-! ### methods of lists that change them -/
def isL (S : Sto) : SV → Bool
  | .m i => match S[i]? with
    | some (.lst _) => true
    | _ => false
  | _ => false
def eMut (g : Nat → Sto → SV → List SV → Option (SV × Sto)) (fo : Fr → Sto → Res SV) (f : Fr → Sto → Res (List SV)) : Fr → Sto → Res SV := fun F S => (fo F S).bind fun x S1 =>
  if isL S1 x = true then (f F S1).bind fun as S2 => match g F.b S2 x as with
    | some (y, S3) => .ok y S3
    | none => .bad
  else .bad
def RMut (X : Cx) (cl : Nat → Addr) (g : Nat → Sto → SV → List SV → Option (SV × Sto)) : V → List V → Hp → VK → Prop := fun x xs H Q => ∃ W S a as b y S', b ≤ S.length ∧ Rel X.K cl W S H ∧ RelSV X.K cl W S.length a x ∧ Paired (RelSV X.K cl W S.length) as xs ∧ g b S a as = some (y, S') ∧
  ∀ W' H' v, Gr b S S' → Le S.length W W' → Rel X.K cl W' S' H' → RelSV X.K cl W' S'.length y v → Q v H'
section
variable {X : Cx} {cl : CL} {Wx : WX} {o e : Expr} {es : List Expr} {f : Fr → Sto → Res (List SV)} {fo : Fr → Sto → Res SV} {apos cpos : Pos} {name : Str} {id : String} {g : Nat → Sto → SV → List SV → Option (SV × Sto)}
theorem MtR.weak {r r' : V → List V → Hp → VK → Prop} (h : MtR X id r) (k : ∀ x xs H Q, r' x xs H Q → r x xs H Q) : MtR X id r' := by
  intro pins s σ H x xs v us Q I h1 h2 q
  exact h pins s σ H x xs v us Q I h1 h2 (k _ _ _ _ q)
theorem isL_rel {K : PySem.W.Frag} {W : Wd} {S : Sto} {H : Hp} {x : SV} {v : V} (r : Rel K cl W S H) (h : isL S x = true) (q : RelSV K cl W S.length x v) : tyV K "list" v H := by
  cases x with
  | d y => cases h
  | m i =>
    obtain ⟨_, rfl⟩ := q
    simp only [isL] at h
    split at h
    · rename_i xs hx
      obtain ⟨_, vs, h1, _⟩ := r.st i _ hx
      exact .inl ⟨rfl, vs, SqL.of h1⟩
    · cases h
theorem ev_mut (slot : Slot "list" name id) (hty : typeOf (.builtin id) = pure (.type "method_descriptor")) (hm : MtR X id (RMut X cl g)) (ho : PE X o (RE X cl Wx fo)) (ha : PA X (e :: es) (RA X cl Wx f))
    (hbase : attributeBase o name X.env (eval o X.env) = eval o X.env := by rfl)
    (hfew : ((backTo cpos (starEach (e :: es) X.env)).all (fun x => !x.1) && (backToKw cpos (keywordEach [] X.env)).all (fun x => x.1.isSome)
      && decide ((e :: es).length + ([] : List Keyword).length + (if ([] : List Keyword).isEmpty then 0 else 1) < 30)) = true := by rfl)
    (hline : (apos.endLine == cpos.line) = true := by rfl) (hs : starEach (e :: es) X.env = (false, eval e X.env) :: starEach es X.env := by rfl) (hplain : (backTo cpos (starEach es X.env)).any (·.1) = false := by rfl) :
    PE X (.Call (.Attribute o name apos) (e :: es) [] cpos) (RE X cl Wx (eMut g fo f)) :=
  PE.weak (pe_bm PySem.F.plainAttrs_list slot hty hm ho ha hbase hfew hline hs hplain) fun σ H Q ⟨W, F, S, a, q⟩ => by
    refine RE.of a q fun W1 S1 y v H1 g1 l1 a1 q1 o1 => ?_
    split at o1
    · rename_i hl
      refine ⟨isL_rel a1.rel hl q1, ?_⟩
      refine RA.of a1 o1 fun W2 S2 as ws H2 g2 l2 a2 q2 o2 => ?_
      split at o2
      · rename_i z S3 hg
        exact ⟨W2, S2, y, as, F.b, z, S3, a2.b, a2.rel, RelSV.le l2 g2.len q1, q2, hg, o2⟩
      · exact o2.elim
    · exact o1.elim
theorem ev_mut0 (slot : Slot "list" name id) (hty : typeOf (.builtin id) = pure (.type "method_descriptor")) (hm : MtR X id (RMut X cl g)) (ho : PE X o (RE X cl Wx fo))
    (hbase : attributeBase o name X.env (eval o X.env) = eval o X.env := by rfl) (hline : (apos.endLine == cpos.line) = true := by rfl) :
    PE X (.Call (.Attribute o name apos) [] [] cpos) (RE X cl Wx (eMut g fo aNil)) :=
  PE.weak (pe_bm0 PySem.F.plainAttrs_list slot hty hm ho hbase hline) fun σ H Q ⟨W, F, S, a, q⟩ => by
    refine RE.of a q fun W1 S1 y v H1 g1 l1 a1 q1 o1 => ?_
    split at o1
    · rename_i hl
      refine ⟨isL_rel a1.rel hl q1, ?_⟩
      simp only [aNil, Res.bind_ok] at o1
      split at o1
      · rename_i z S3 hg
        exact ⟨W1, S1, y, [], F.b, z, S3, a1.b, a1.rel, q1, .nil, hg, o1⟩
      · exact o1.elim
    · exact o1.elim
def muAppend (b : Nat) (S : Sto) : SV → List SV → Option (SV × Sto)
  | .m i, [y] => match S[i]? with
    | some (.lst xs) => if xs.length < most ∧ okIn b i y = true then some (.d .non, S.set i (.lst (xs ++ [y]))) else none
    | _ => none
  | _, _ => none
theorem paired_snoc {α β : Type} {R : α → β → Prop} : ∀ {xs : List α} {ys : List β} {x : α} {y : β}, Paired R xs ys → R x y → Paired R (xs ++ [x]) (ys ++ [y])
  | _, _, _, _, .nil, r => .cons r .nil
  | _, _, _, _, .cons q t, r => .cons q (paired_snoc t r)
theorem ov_append : MtR X "list.append" (RMut X cl muAppend) := MtR.weak mt_append fun x xs H Q ⟨W, S, a, as, b, y, S', hb, r, ra, ras, e, k⟩ => by
  unfold muAppend at e
  split at e
  · rename_i i z
    split at e
    · rename_i zs hz
      split at e
      · rename_i hc
        cases e
        obtain ⟨_, rfl⟩ := ra
        obtain ⟨g0, vs, h1, h2⟩ := r.st i _ hz
        match xs, ras with
        | [v], .cons rz .nil =>
          refine ⟨_, vs, v, rfl, rfl, h1, by rw [← PySem.Paired.length h2]; exact hc.1, ?_⟩
          refine k W _ _ (.set fun b' hb' w hi x hx => ?_) (.refl _ _) (r.set hz rfl ⟨g0, _, upd_same, paired_snoc h2 rz⟩) RelD.non
          rcases List.mem_append.mp hx with hx | hx
          · exact w i _ hi hz x hx
          · cases List.mem_singleton.mp hx
            exact okIn_below hc.2 hb' hi
      · cases e
    · cases e
  · cases e
def muPop (b : Nat) (S : Sto) : SV → List SV → Option (SV × Sto)
  | .m i, [] => match S[i]? with
    | some (.lst xs) => match xs[xs.length - 1]? with
      | some y => some (y, S.set i (.lst xs.dropLast))
      | none => none
    | _ => none
  | _, _ => none
theorem paired_dropLast {α β : Type} {R : α → β → Prop} : ∀ {xs : List α} {ys : List β}, Paired R xs ys → Paired R xs.dropLast ys.dropLast
  | _, _, .nil => .nil
  | _, _, .cons _ .nil => .nil
  | _, _, .cons q (.cons r t) => .cons q (paired_dropLast (.cons r t))
theorem ov_pop : MtR X "list.pop" (RMut X cl muPop) := MtR.weak mt_pop fun x xs H Q ⟨W, S, a, as, b, y, S', hb, r, ra, ras, e, k⟩ => by
  unfold muPop at e
  split at e
  · rename_i i
    split at e
    · rename_i zs hz
      split at e
      · rename_i w hw
        cases e
        cases ras
        obtain ⟨_, rfl⟩ := ra
        obtain ⟨g0, vs, h1, h2⟩ := r.st i _ hz
        obtain ⟨u, h3, h4⟩ := paired_get h2 hw
        refine ⟨_, vs, u, rfl, rfl, h1, by rw [← PySem.Paired.length h2]; exact h3, ?_⟩
        refine k W _ _ (.set fun b' hb' w hi x hx => ?_) (.refl _ _) (r.set hz rfl ⟨g0, _, upd_same, paired_dropLast h2⟩) (by rw [List.length_set]; exact h4)
        exact w i _ hi hz x (List.dropLast_subset _ hx)
      · cases e
    · cases e
  · cases e
end

/-! ### statements -/
inductive SRes where
  | nx (v : Env) (S : Sto) | rt (x : SV) (S : Sto) | bk (v : Env) (S : Sto) | ct (v : Env) (S : Sto) | ex (e : Exc) (v : Env) (S : Sto) | bad
def Res.st {α : Type} (F : Fr) : Res α → (α → Sto → SRes) → SRes
  | .ok a S, k => k a S
  | .ex e S, _ => .ex e F.v S
  | .bad, _ => .bad
@[simp] theorem Res.st_ok {α : Type} (F : Fr) (a : α) (S : Sto) (k : α → Sto → SRes) : (Res.ok a S).st F k = k a S := rfl
@[simp] theorem Res.st_ex {α : Type} (F : Fr) (e : Exc) (S : Sto) (k : α → Sto → SRes) : (Res.ex e S : Res α).st F k = .ex e F.v S := rfl
@[simp] theorem Res.st_bad {α : Type} (F : Fr) (k : α → Sto → SRes) : (Res.bad : Res α).st F k = .bad := rfl
section
variable (K : PySem.W.Frag) (cl : CL) (Wx : WX)
def OutS (D : Ends) (b : Nat) (W : Wd) (S : Sto) (r : SRes) : Prop := match r with
  | .nx v' S' => ∀ W' σ' H', Gr b S S' → Le S.length W W' → At K cl W' ⟨b, v'⟩ S' σ' H' → D.nx σ' H'
  | .bk v' S' => ∀ W' σ' H', Gr b S S' → Le S.length W W' → At K cl W' ⟨b, v'⟩ S' σ' H' → D.bk σ' H'
  | .ct v' S' => ∀ W' σ' H', Gr b S S' → Le S.length W W' → At K cl W' ⟨b, v'⟩ S' σ' H' → D.ct σ' H'
  | .rt v S' => ∀ W' H' x, Gr b S S' → Le S.length W W' → Rel K cl W' S' H' → RelSV K cl W' S'.length v x → D.rt x H'
  | .ex e v' S' => ∀ W' σ' H' c d, Gr b S S' → Le S.length W W' → At K cl W' ⟨b, v'⟩ S' σ' H' → RelX K cl W' e c d H' → Wx c d σ' H'
  | .bad => False
variable {K cl Wx}
theorem OutS.rebase {D : Ends} {b : Nat} {W W1 : Wd} {S S1 : Sto} {r : SRes} (h : OutS K cl Wx D b W S r) (hn : Gr b S S1) (hl : Le S.length W W1) : OutS K cl Wx D b W1 S1 r := by
  cases r with
  | nx F' S' => exact fun W' σ' H' h1 h2 => h W' σ' H' (hn.trans h1 (Nat.le_refl _)) (hl.trans h2 hn.len)
  | bk F' S' => exact fun W' σ' H' h1 h2 => h W' σ' H' (hn.trans h1 (Nat.le_refl _)) (hl.trans h2 hn.len)
  | ct F' S' => exact fun W' σ' H' h1 h2 => h W' σ' H' (hn.trans h1 (Nat.le_refl _)) (hl.trans h2 hn.len)
  | rt v S' => exact fun W' H' x h1 h2 => h W' H' x (hn.trans h1 (Nat.le_refl _)) (hl.trans h2 hn.len)
  | ex e F' S' => exact fun W' σ' H' c d h1 h2 => h W' σ' H' c d (hn.trans h1 (Nat.le_refl _)) (hl.trans h2 hn.len)
  | bad => exact h
end
section
variable (X : Cx) (cl : CL) (Wx : WX)
def RS (f : Fr → Sto → SRes) : TS := fun D σ H => ∃ W F S, At X.K cl W F S σ H ∧ OutS X.K cl Wx D F.b W S (f F S)
end
section
variable {X : Cx} {cl : CL} {Wx : WX} {e e1 e2 : Expr} {fe : Fr → Sto → Res SV} {t : Fr → Sto → Res Bool} {f g : Fr → Sto → SRes} {st : Stmt} {rest sts : List Stmt} {pos pos' : Pos} {D : Ends} {W : Wd} {F : Fr} {S : Sto} {σ : St} {H : Hp}
theorem RE.ofS {k : SV → Sto → SRes} {Q' : VK} (a : At X.K cl W F S σ H) (h : OutS X.K cl Wx D F.b W S ((fe F S).st F k))
    (kk : ∀ W1 S1 x v H1, Gr F.b S S1 → Le S.length W W1 → At X.K cl W1 F S1 σ H1 → RelSV X.K cl W1 S1.length x v → OutS X.K cl Wx D F.b W1 S1 (k x S1) → Q' v H1) : RE X cl Wx fe σ H Q' := by
  refine ⟨W, F, S, a, ?_⟩
  cases hr : fe F S with
  | ok x S1 =>
    rw [hr] at h
    exact fun W1 H1 v g1 l1 r1 q1 => kk W1 S1 x v H1 g1 l1 (a.on g1 l1 r1) q1 (OutS.rebase h g1 l1)
  | ex ec S1 =>
    rw [hr] at h
    exact fun W1 H1 c d g1 l1 r1 q1 => h W1 σ H1 c d g1 l1 (a.on g1 l1 r1) q1
  | bad => rw [hr] at h; exact h
theorem RT.ofS {k : Bool → Sto → SRes} {Q' : Bool → Hp → Prop} (a : At X.K cl W F S σ H) (h : OutS X.K cl Wx D F.b W S ((t F S).st F k))
    (kk : ∀ W1 S1 x H1, Gr F.b S S1 → Le S.length W W1 → At X.K cl W1 F S1 σ H1 → OutS X.K cl Wx D F.b W1 S1 (k x S1) → Q' x H1) : RT X cl Wx t σ H Q' := by
  refine ⟨W, F, S, a, ?_⟩
  cases hr : t F S with
  | ok x S1 =>
    rw [hr] at h
    intro W1 H1 v g1 l1 r1 q1
    obtain rfl : v = x := q1
    exact kk W1 S1 v H1 g1 l1 (a.on g1 l1 r1) (OutS.rebase h g1 l1)
  | ex ec S1 =>
    rw [hr] at h
    exact fun W1 H1 c d g1 l1 r1 q1 => h W1 σ H1 c d g1 l1 (a.on g1 l1 r1) q1
  | bad => rw [hr] at h; exact h
theorem OutS.here {v' : Env} {b : Nat} (h : OutS X.K cl Wx D b W S (.nx v' S)) (a : At X.K cl W ⟨b, v'⟩ S σ H) : D.nx σ H := h W σ H (.refl _ _) (.refl _ _) a
def Fr.put (F : Fr) (i : Nat) (x : SV) : Env := F.v.set i (some x)
theorem At.put (a : At X.K cl W F S σ H) (i : Nat) {x : SV} {v : V} (q : RelSV X.K cl W S.length x v) : At X.K cl W ⟨F.b, F.put i x⟩ S (σ.set i (some v)) H := ⟨a.b, a.rel, a.env.set i q, cl.put i x v a.gh⟩
/-- one after another -/
theorem OutS.seq {r : SRes} {b : Nat} {k : Env → Sto → SRes} {N : St → Hp → Prop} (h : OutS X.K cl Wx D b W S (match r with | .nx v1 S1 => k v1 S1 | r => r))
    (kk : ∀ v1 S1 W' σ' H', Gr b S S1 → Le S.length W W' → At X.K cl W' ⟨b, v1⟩ S1 σ' H' → OutS X.K cl Wx D b W' S1 (k v1 S1) → N σ' H') : OutS X.K cl Wx { D with nx := N } b W S r := by
  cases r with
  | nx v1 S1 => exact fun W' σ' H' g l a => kk v1 S1 W' σ' H' g l a (OutS.rebase h g l)
  | bk v1 S1 => exact h
  | ct v1 S1 => exact h
  | rt v S1 => exact h
  | ex ec v1 S1 => exact h
  | bad => exact h

def sNil : Fr → Sto → SRes := fun F S => .nx F.v S
def sSeq (f g : Fr → Sto → SRes) : Fr → Sto → SRes := fun F S => match f F S with
  | .nx v1 S1 => g ⟨F.b, v1⟩ S1
  | r => r
theorem sv_nil : PSs X [] (RS X cl Wx sNil) := PSs.weak pss_nil fun D σ H ⟨W, F, S, a, o⟩ => OutS.here o a
theorem sv_one (h : PS X st (RS X cl Wx f)) : PSs X [st] (RS X cl Wx f) := pss_one h
theorem sv_cons (h : PS X st (RS X cl Wx f)) (k : PSs X rest (RS X cl Wx g)) : PSs X (st :: rest) (RS X cl Wx (sSeq f g)) :=
  PSs.weak (pss_cons h k) fun D σ H ⟨W, F, S, a, o⟩ =>
    ⟨W, F, S, a, OutS.seq (k := fun v1 S1 => g ⟨F.b, v1⟩ S1) o fun v1 S1 W' σ' H' g l a' o' => ⟨W', ⟨F.b, v1⟩, S1, a', o'⟩⟩
def sPass : Fr → Sto → SRes := sNil
def sBrk : Fr → Sto → SRes := fun F S => .bk F.v S
def sCont : Fr → Sto → SRes := fun F S => .ct F.v S
theorem sv_pass : PS X (.Pass pos) (RS X cl Wx sPass) := PS.weak ps_pass fun D σ H ⟨W, F, S, a, o⟩ => OutS.here o a
theorem sv_break : PS X (.Break pos) (RS X cl Wx sBrk) := PS.weak ps_break fun D σ H ⟨W, F, S, a, o⟩ => o W σ H (.refl _ _) (.refl _ _) a
theorem sv_continue : PS X (.Continue pos) (RS X cl Wx sCont) := PS.weak ps_continue fun D σ H ⟨W, F, S, a, o⟩ => o W σ H (.refl _ _) (.refl _ _) a
def sSet (i : Nat) (fe : Fr → Sto → Res SV) : Fr → Sto → SRes := fun F S => (fe F S).st F fun x S1 => .nx (F.put i x) S1
theorem sv_set (i : Nat) {x : Str} (he : PE X e (RE X cl Wx fe)) (hN : X.N.Nodup) (hi : X.N[i]? = some x := by rfl) (hx : Loc X.env.scope x := by first | exact Or.inl rfl | exact Or.inr rfl) (hs : swapsWith e (some (.Name x pos')) pos.line X.env = pure false := by rfl)
    (hf : X.fn x = true ∨ X.env.scope.names.lookup x = some .local := by first | exact .inl rfl | exact .inr rfl) : PS X (.Assign [.Name x pos'] e pos) (RS X cl Wx (sSet i fe)) :=
  PS.weak (ps_set hN hi hx he hs hf) fun D σ H ⟨W, F, S, a, o⟩ => RE.ofS a o fun W1 S1 y v H1 g1 l1 a1 q1 o1 => OutS.here o1 (a1.put i q1)
def sExpr (fe : Fr → Sto → Res SV) : Fr → Sto → SRes := fun F S => (fe F S).st F fun _ S1 => .nx F.v S1
theorem sv_expr (he : PE X e (RE X cl Wx fe)) (hs : swapsWith e none pos.line X.env = pure false := by rfl) : PS X (.Expr e pos) (RS X cl Wx (sExpr fe)) :=
  PS.weak (ps_expr he hs) fun D σ H ⟨W, F, S, a, o⟩ => RE.ofS a o fun W1 S1 y v H1 g1 l1 a1 q1 o1 => OutS.here o1 a1
def sRet (fe : Fr → Sto → Res SV) : Fr → Sto → SRes := fun F S => (fe F S).st F fun x S1 => .rt x S1
theorem sv_ret (he : PE X e (RE X cl Wx fe)) : PS X (.Return (some e) pos) (RS X cl Wx (sRet fe)) :=
  PS.weak (ps_ret he) fun D σ H ⟨W, F, S, a, o⟩ => RE.ofS a o fun W1 S1 y v H1 g1 l1 a1 q1 o1 => o1 W1 H1 v (.refl _ _) (.refl _ _) a1.rel q1
def sRetN : Fr → Sto → SRes := fun F S => .rt (.d .non) S
theorem sv_retN : PS X (.Return none pos) (RS X cl Wx sRetN) := PS.weak ps_retN fun D σ H ⟨W, F, S, a, o⟩ => o W H _ (.refl _ _) (.refl _ _) a.rel RelD.non
def sIf (t : Fr → Sto → Res Bool) (f g : Fr → Sto → SRes) : Fr → Sto → SRes := fun F S => (t F S).st F fun c S1 => if c = true then f F S1 else g F S1
theorem sv_if {c : Expr} {as bs : List Stmt} (hc : PT X c (RT X cl Wx t)) (ha : PSs X as (RS X cl Wx f)) (hb : PSs X bs (RS X cl Wx g)) : PS X (.If c as bs pos) (RS X cl Wx (sIf t f g)) :=
  PS.weak (ps_if hc ha hb) fun D σ H ⟨W, F, S, a, o⟩ => RT.ofS a o fun W1 S1 c H1 g1 l1 a1 o1 => by
    split at o1
    · rename_i h; rw [if_pos h]; exact ⟨W1, F, S1, a1, o1⟩
    · rename_i h; rw [if_neg h]; exact ⟨W1, F, S1, a1, o1⟩

/-! targets -/
abbrev Tg := SV → Fr → Sto → Option Env
def RG (X : Cx) (cl : CL) (tg : Tg) : TG := fun v σ H Q => ∃ W F S sv v', At X.K cl W F S σ H ∧ RelSV X.K cl W S.length sv v ∧ tg sv F S = some v' ∧ ∀ σ', At X.K cl W ⟨F.b, v'⟩ S σ' H → Q σ' H
theorem PG.weak {X : Cx} {e : Expr} {t t' : TG} (h : PG X e t) (k : ∀ v σ H Q, t' v σ H Q → t v σ H Q) : PG X e t' := ⟨fun pins s σ H v u Q I r q => h.run pins s σ H v u Q I r (k v σ H Q q)⟩
def gNm (i : Nat) : Tg := fun x F _ => some (F.put i x)
theorem gv_name (i : Nat) {x : Str} (hN : X.N.Nodup) (hi : X.N[i]? = some x := by rfl) (hx : Loc X.env.scope x := by first | exact Or.inl rfl | exact Or.inr rfl) (hf : X.fn x = true ∨ X.env.scope.names.lookup x = some .local := by first | exact .inl rfl | exact .inr rfl) : PG X (.Name x pos) (RG X cl (gNm i)) :=
  PG.weak (pg_name hN hi hx hf) fun v σ H Q ⟨W, F, S, sv, v', a, q, e, k⟩ => by
    cases e
    exact k _ (a.put i q)

/-! for -/
def forL (tg : Tg) (body : Fr → Sto → SRes) (b : Nat) : List SV → Env → Sto → SRes
  | [], v, S => .nx v S
  | x :: r, v, S => match tg x ⟨b, v⟩ S with
    | some v1 => match body ⟨b, v1⟩ S with
      | .nx v2 S2 => forL tg body b r v2 S2
      | .ct v2 S2 => forL tg body b r v2 S2
      | .bk v2 S2 => .nx v2 S2
      | o => o
    | none => .bad
/-- over a list or a tuple, which is frozen -/
def sFor (fe : Fr → Sto → Res SV) (tg : Tg) (body : Fr → Sto → SRes) : Fr → Sto → SRes := fun F S => (fe F S).st F fun x S1 => match freeze S1 x with
  | some (.lst xs, S2) => forL tg body F.b (xs.map .d) F.v S2
  | some (.tup xs, S2) => forL tg body F.b (xs.map .d) F.v S2
  | _ => .bad
theorem turn_out {N : St → Hp → Prop} {b : Nat} {tg : Tg} {body : Fr → Sto → SRes} {r : List SV} {v1 : Env} (h : OutS X.K cl Wx D b W S (match body ⟨b, v1⟩ S with
      | .nx v2 S2 => forL tg body b r v2 S2
      | .ct v2 S2 => forL tg body b r v2 S2
      | .bk v2 S2 => .nx v2 S2
      | o => o)) (kk : ∀ v2 S2 W' σ' H', Gr b S S2 → Le S.length W W' → At X.K cl W' ⟨b, v2⟩ S2 σ' H' → OutS X.K cl Wx D b W' S2 (forL tg body b r v2 S2) → N σ' H') :
    OutS X.K cl Wx { D with nx := N, ct := N, bk := D.nx } b W S (body ⟨b, v1⟩ S) := by
  cases hr : body ⟨b, v1⟩ S with
  | nx v2 S2 => rw [hr] at h; exact fun W' σ' H' g l a => kk v2 S2 W' σ' H' g l a (OutS.rebase h g l)
  | ct v2 S2 => rw [hr] at h; exact fun W' σ' H' g l a => kk v2 S2 W' σ' H' g l a (OutS.rebase h g l)
  | bk v2 S2 => rw [hr] at h; exact h
  | rt v S2 => rw [hr] at h; exact h
  | ex ec v2 S2 => rw [hr] at h; exact h
  | bad => rw [hr] at h; exact h
/-- what holds ahead of turn i -/
def ForP (X : Cx) (cl : CL) (Wx : WX) (D : Ends) (b : Nat) (W0 : Wd) (n0 : Nat) (tg : Tg) (body : Fr → Sto → SRes) (xs : List SV) (i : Nat) (σ : St) (H : Hp) : Prop :=
  ∃ W v S, n0 ≤ S.length ∧ Le n0 W0 W ∧ At X.K cl W ⟨b, v⟩ S σ H ∧ OutS X.K cl Wx D b W S (forL tg body b (xs.drop i) v S)
theorem forP_turn {b : Nat} {W0 : Wd} {n0 : Nat} {tg : Tg} {body : Fr → Sto → SRes} {xs : List SV} {i : Nat} {x : V} {sv : SV} (hx : xs[i]? = some sv) (hq : ∀ W n, Le n0 W0 W → n0 ≤ n → RelSV X.K cl W n sv x) (h : ForP X cl Wx D b W0 n0 tg body xs i σ H) :
    RG X cl tg x σ H fun σ2 H2 => RS X cl Wx body { D with nx := ForP X cl Wx D b W0 n0 tg body xs (i + 1), ct := ForP X cl Wx D b W0 n0 tg body xs (i + 1), bk := D.nx } σ2 H2 := by
  obtain ⟨W, v, S, hn, hl, a, o⟩ := h
  have hi := (List.getElem?_eq_some_iff.mp hx).1
  have hd : xs.drop i = sv :: xs.drop (i + 1) := by
    rw [List.drop_eq_getElem_cons hi]
    congr 1
    exact (List.getElem?_eq_some_iff.mp hx).2
  rw [hd] at o
  unfold forL at o
  cases ht : tg sv ⟨b, v⟩ S with
  | none => simp only [ht] at o; exact o.elim
  | some v1 =>
    simp only [ht] at o
    refine ⟨W, ⟨b, v⟩, S, sv, v1, a, hq W _ hl hn, ht, fun σ' a' => ?_⟩
    refine ⟨W, ⟨b, v1⟩, S, a', turn_out o fun v2 S2 W' σ'' H'' g2 l2 a2 o2 => ?_⟩
    exact ⟨W', v2, S2, Nat.le_trans hn g2.len, hl.trans l2 hn, a2, o2⟩
/-- what a for walks: a list or a tuple -/
def iSeq (K : PySem.W.Frag) (tl : TE) : TI := fun σ H R => tl σ H fun x H1 => ∃ a, x = .ref a ∧ ((∃ xs, SqL K H1 a xs) ∧ R (Itl K a) H1 ∨ (∃ xs, SqT K H1 a xs) ∧ R (Itt K a) H1)
theorem pi_seq {tg l : Expr} {tl : TE} (hl : PE X l tl) : PI X tg l (iSeq X.K tl) := by
  constructor
  intro pins s σ H R I h
  refine thn (hl.run pins s σ H _ I h) fun v s1 ⟨x, H1, I1, r1, a, e, q1⟩ => ?_
  subst e
  obtain rfl : v = Value.ref a := r1
  rcases q1 with ⟨⟨xs, hq⟩, q⟩ | ⟨⟨xs, hq⟩, q⟩
  · obtain ⟨its, rv, p, hz⟩ := I1.list hq
    refine wpAny_pyIter_list p.isList ⟨s1.heap.objs.size, [s1.heap.objs.size], _, _, H1, rfl, I1.kept (t' := s1.toks) fun b o e => Heap.get?_push_of_some _ e, turn_list a _, ⟨_, Heap.get?_push_size _ rfl, rfl, rfl⟩, fun b hb => ?_, q⟩
    rw [List.mem_singleton.mp hb]
    exact I1.fpOk (Nat.le_refl _) (I1.hok.fresh (Nat.le_refl _))
  · obtain ⟨its, rv, p, hz⟩ := I1.tuple hq
    refine wpAny_pyIter_tuple (show s1.heap.IsTuple a its.toArray from p) ⟨s1.heap.objs.size, [s1.heap.objs.size], _, _, H1, rfl, I1.kept (t' := s1.toks) fun b o e => Heap.get?_push_of_some _ e, turn_tuple a _, ⟨_, Heap.get?_push_size _ rfl, rfl, rfl⟩, fun b hb => ?_, q⟩
    rw [List.mem_singleton.mp hb]
    exact I1.fpOk (Nat.le_refl _) (I1.hok.fresh (Nat.le_refl _))
theorem item_of {G : Hp} {xs : List Dv} {vs : List V} {i : Nat} {x : V} (t : RelDs X.K cl G xs vs) (hx : vs[i]? = some x) : ∃ d, xs[i]? = some d ∧ RelD X.K cl G d x := by
  have ht := t.paired
  have hi : i < xs.length := by rw [t.length]; exact (List.getElem?_eq_some_iff.mp hx).1
  obtain ⟨y, h1, h2⟩ := paired_get (i := i) (x := xs[i]) ht (by simp [hi])
  rw [hx] at h1
  cases h1
  exact ⟨_, by simp [hi], h2⟩
theorem sv_for {it tgt : Expr} {body : List Stmt} {tg : Tg} {fb : Fr → Sto → SRes} (hp : PassesOwn (model X.prog X.w) X.A X.env X.xe) (hc : X.calm = true) (hi : PE X it (RE X cl Wx fe)) (hg : PG X tgt (RG X cl tg)) (hb : PSs X body (RS X cl Wx fb))
    (hs : ∀ x, foldedSetIterable it X.env x = pure x := by exact fun _ => rfl) : PS X (.For tgt it body [] pos) (RS X cl Wx (sFor fe tg fb)) :=
  PS.weak (ps_for hp hc (pi_seq hi) hg hb hs) fun D σ H ⟨W, F, S, a, o⟩ => by
    refine RE.ofS a o fun W1 S1 y v H1 g1 l1 a1 q1 o1 => ?_
    split at o1
    · rename_i xs S2 hf
      obtain ⟨n2, w2, k2⟩ := freeze_ok (K := X.K) (cl := cl) hf
      obtain ⟨W2, e2, l2, r2, q2⟩ := k2 W1 H1 v a1.rel q1
      have g2 : Gr F.b S1 S2 := ⟨Nat.le_of_eq n2.symm, fun b _ => w2 b⟩
      have a2 := a1.on g2 l2 r2
      cases q2 with
      | lst h t =>
        refine ⟨_, rfl, .inl ⟨⟨_, SqL.up r2.fz h⟩, for_list (ForP X cl Wx D F.b W2 S2.length tg fb (xs.map .d)) ⟨W2, F.v, S2, Nat.le_refl _, .refl _ _, a2, OutS.rebase o1 g2 l2⟩ (fun i σ H _ ⟨W, v, S, hn, hl, a, _⟩ => SqL.up a.rel.fz (SqL.le hl h)) (fun i x σ H hx hP => ?_) fun σ H hP => ?_⟩⟩
        · obtain ⟨d, hd, rd⟩ := item_of t hx
          exact forP_turn (sv := .d d) (by rw [List.getElem?_map, hd]; rfl) (fun W n hl hn => RelD.le hl rd) hP
        · obtain ⟨W, v, S, hn, hl, a, o⟩ := hP
          rw [List.drop_of_length_le (by rw [List.length_map, t.length]; exact Nat.le_refl _)] at o
          exact OutS.here o a
    · rename_i xs S2 hf
      obtain ⟨n2, w2, k2⟩ := freeze_ok (K := X.K) (cl := cl) hf
      obtain ⟨W2, e2, l2, r2, q2⟩ := k2 W1 H1 v a1.rel q1
      have g2 : Gr F.b S1 S2 := ⟨Nat.le_of_eq n2.symm, fun b _ => w2 b⟩
      have a2 := a1.on g2 l2 r2
      cases q2 with
      | tup h t =>
        refine ⟨_, rfl, .inr ⟨⟨_, SqT.up r2.fz h⟩, for_tup (ForP X cl Wx D F.b W2 S2.length tg fb (xs.map .d)) ⟨W2, F.v, S2, Nat.le_refl _, .refl _ _, a2, OutS.rebase o1 g2 l2⟩ (fun i σ H _ ⟨W, v, S, hn, hl, a, _⟩ => SqT.up a.rel.fz (SqT.le hl h)) (fun i x σ H hx hP => ?_) fun σ H hP => ?_⟩⟩
        · obtain ⟨d, hd, rd⟩ := item_of t hx
          exact forP_turn (sv := .d d) (by rw [List.getElem?_map, hd]; rfl) (fun W n hl hn => RelD.le hl rd) hP
        · obtain ⟨W, v, S, hn, hl, a, o⟩ := hP
          rw [List.drop_of_length_le (by rw [List.length_map, t.length]; exact Nat.le_refl _)] at o
          exact OutS.here o a
    · exact o1.elim
/-- over range(lo, hi) -/
def rng (lo : Int) (n : Nat) : List SV := (List.range n).map fun (i : Nat) => .d (.int (lo + (i : Int)))
def small62 (i : Int) : Bool := decide (-4611686018427387904 ≤ i) && decide (i < 4611686018427387904)
def sForR (fa : Fr → Sto → Res (List SV)) (tg : Tg) (body : Fr → Sto → SRes) : Fr → Sto → SRes := fun F S => (fa F S).st F fun as S1 => match as with
  | [.d (.int n)] => if small62 n = true then forL tg body F.b (rng 0 n.toNat) F.v S1 else .bad
  | _ => .bad
def sForR2 (fa : Fr → Sto → Res (List SV)) (tg : Tg) (body : Fr → Sto → SRes) : Fr → Sto → SRes := fun F S => (fa F S).st F fun as S1 => match as with
  | [.d (.int m), .d (.int n)] => if (small62 m && small62 n) = true then forL tg body F.b (rng m (n - m).toNat) F.v S1 else .bad
  | _ => .bad
theorem rng_at {lo : Int} {n i : Nat} (h : i < n) : (rng lo n)[i]? = some (.d (.int (lo + i))) := by
  unfold rng
  rw [List.getElem?_map, List.getElem?_range h]
  rfl
theorem rng_len (lo : Int) (n : Nat) : (rng lo n).length = n := by unfold rng; rw [List.length_map, List.length_range]
theorem RA.ofS {fa : Fr → Sto → Res (List SV)} {k : List SV → Sto → SRes} {Q' : List V → Hp → Prop} (a : At X.K cl W F S σ H) (h : OutS X.K cl Wx D F.b W S ((fa F S).st F k))
    (kk : ∀ W1 S1 x v H1, Gr F.b S S1 → Le S.length W W1 → At X.K cl W1 F S1 σ H1 → Paired (RelSV X.K cl W1 S1.length) x v → OutS X.K cl Wx D F.b W1 S1 (k x S1) → Q' v H1) : RA X cl Wx fa σ H Q' := by
  refine ⟨W, F, S, a, ?_⟩
  cases hr : fa F S with
  | ok x S1 =>
    rw [hr] at h
    exact fun W1 H1 v g1 l1 r1 q1 => kk W1 S1 x v H1 g1 l1 (a.on g1 l1 r1) q1 (OutS.rebase h g1 l1)
  | ex ec S1 =>
    rw [hr] at h
    exact fun W1 H1 c d g1 l1 r1 q1 => h W1 σ H1 c d g1 l1 (a.on g1 l1 r1) q1
  | bad => rw [hr] at h; exact h
theorem range_turns {g : TG} {tb : TS} {lo : Int} {n : Nat} {tg : Tg} {fb : Fr → Sto → SRes} (a1 : At X.K cl W F S σ H) (o1 : OutS X.K cl Wx D F.b W S (forL tg fb F.b (rng lo n) F.v S)) (hg : g = RG X cl tg) (hb : tb = RS X cl Wx fb) :
    ∃ Wn : Nat → Nat → St → Hp → Prop, (∃ m, Wn 0 m σ H) ∧ ∀ i m σ H, Wn i m σ H →
      ((Itr lo n).stop i H ∧ D.nx σ H) ∨ ((Itr lo n).go i H ∧ ∃ N : St → Hp → Prop, (∀ σ' H', N σ' H' → ∃ m', m' < m ∧ Wn (i + 1) m' σ' H') ∧ ∀ x H', (Itr lo n).yld i H x H' → g x σ H' fun σ2 H2 => tb { D with nx := N, ct := N, bk := D.nx } σ2 H2) := by
  subst hg hb
  refine for_range (ForP X cl Wx D F.b W S.length tg fb (rng lo n)) ⟨W, F.v, S, Nat.le_refl _, .refl _ _, a1, o1⟩ (fun i σ H hi hP => forP_turn (rng_at hi) (fun _ _ _ _ => RelD.int _) hP) fun σ H hP => ?_
  obtain ⟨W, v, S, hn, hl, a, o⟩ := hP
  rw [List.drop_of_length_le (by rw [rng_len]; exact Nat.le_refl _)] at o
  exact OutS.here o a
theorem sv_forR1 {ea tgt : Expr} {p pc : Pos} {body : List Stmt} {tg : Tg} {fa : Fr → Sto → Res (List SV)} {fb : Fr → Sto → SRes} (hp : PassesOwn (model X.prog X.w) X.A X.env X.xe) (hc : X.calm = true) (hgl : Gl X "range") (hm : X.mg "range" = none) (ha : PA X [ea] (RA X cl Wx fa)) (hg : PG X tgt (RG X cl tg)) (hb : PSs X body (RS X cl Wx fb))
    (hs : starEach [ea] X.env = [(false, eval ea X.env)] := by rfl) : PS X (.For tgt (.Call (.Name "range" p) [ea] [] pc) body [] pos) (RS X cl Wx (sForR fa tg fb)) :=
  PS.weak (ps_for hp hc (pi_range1 hgl hm ha hs) hg hb) fun D σ H ⟨W, F, S, a, o⟩ => by
    refine RA.ofS a o fun W1 S1 as vs H1 g1 l1 a1 q1 o1 => ?_
    split at o1
    · split at o1
      · rename_i n hn
        simp only [small62, Bool.and_eq_true, decide_eq_true_eq] at hn
        match vs, q1 with
        | [v], .cons q .nil =>
          cases q
          exact ⟨n, rfl, by omega, by omega, range_turns a1 o1 rfl rfl⟩
      · exact o1.elim
    · exact o1.elim
theorem sv_forR2 {ea eb tgt : Expr} {p pc : Pos} {body : List Stmt} {tg : Tg} {fa : Fr → Sto → Res (List SV)} {fb : Fr → Sto → SRes} (hp : PassesOwn (model X.prog X.w) X.A X.env X.xe) (hc : X.calm = true) (hgl : Gl X "range") (hm : X.mg "range" = none) (ha : PA X [ea, eb] (RA X cl Wx fa)) (hg : PG X tgt (RG X cl tg)) (hb : PSs X body (RS X cl Wx fb))
    (hs : starEach [ea, eb] X.env = [(false, eval ea X.env), (false, eval eb X.env)] := by rfl) (hs2 : starEach [eb] X.env = [(false, eval eb X.env)] := by rfl) : PS X (.For tgt (.Call (.Name "range" p) [ea, eb] [] pc) body [] pos) (RS X cl Wx (sForR2 fa tg fb)) :=
  PS.weak (ps_for hp hc (pi_range2 hgl hm ha hs hs2) hg hb) fun D σ H ⟨W, F, S, a, o⟩ => by
    refine RA.ofS a o fun W1 S1 as vs H1 g1 l1 a1 q1 o1 => ?_
    split at o1
    · split at o1
      · rename_i m n hn
        simp only [small62, Bool.and_eq_true, decide_eq_true_eq] at hn
        match vs, q1 with
        | [v, u], .cons q (.cons q' .nil) =>
          cases q
          cases q'
          exact ⟨m, n, rfl, by omega, range_turns a1 o1 rfl rfl⟩
      · exact o1.elim
    · exact o1.elim
end
end Ev

set_option Elab.async false
set_option linter.all false
set_option maxRecDepth 100000
/-! Ev10: stores into things, while, unpacking; a def's body. -/
namespace Ev
open PySem L2

/-! ### o[i] = e -/
def hasK (k : Key) (ks : List Key) : Bool := ks.any fun a => decide (a = k)
def dPut (k : Key) (x : SV) (ks : List Key) (xs : List SV) : List Key × List SV := if hasK k ks = true then (ks, List.zipWith (fun a y => if a = k then x else y) ks xs) else (ks ++ [k], xs ++ [x])
def putIx (b : Nat) (S : Sto) (o i x : SV) : Option Sto := match o with
  | .m j => match S[j]? with
    | some (.lst xs) => match view S i with
      | some (.int k) => match ixN xs.length k with
        | some n => if okIn b j x = true then some (S.set j (.lst (xs.set n x))) else none
        | none => none
      | _ => none
    | some (.dic ks xs) => match view S i with
      | some kd => match kOf kd with
        | some k => if okIn b j x = true ∧ ks.length < most then some (S.set j (.dic (dPut k x ks xs).1 (dPut k x ks xs).2)) else none
        | none => none
      | none => none
    | _ => none
  | _ => none
section
variable {K : PySem.W.Frag} {cl : Nat → Addr} {W : Wd} {n : Nat}
theorem paired_set {α β : Type} {R : α → β → Prop} {x : α} {y : β} (r : R x y) : ∀ {xs : List α} {ys : List β} (i : Nat), Paired R xs ys → Paired R (xs.set i x) (ys.set i y)
  | _, _, _, .nil => .nil
  | _, _, 0, .cons _ t => .cons r t
  | _, _, i + 1, .cons q t => .cons q (paired_set r i t)
theorem paired_zw {k : Key} {x : SV} {v : V} (r : RelSV K cl W n x v) : ∀ {ks : List Key} {xs : List SV} {vs : List V}, Paired (RelSV K cl W n) xs vs → Paired (RelSV K cl W n) (List.zipWith (fun a y => if a = k then x else y) ks xs) (List.zipWith (fun a y => if a = k then v else y) ks vs)
  | [], _, _, _ => by simp only [List.zipWith_nil_left]; exact .nil
  | _ :: _, _, _, .nil => by simp only [List.zipWith_nil_right]; exact .nil
  | a :: ks, _, _, .cons q t => by
    simp only [List.zipWith_cons_cons]
    refine .cons ?_ (paired_zw r t)
    by_cases h : a = k
    · rw [if_pos h, if_pos h]; exact r
    · rw [if_neg h, if_neg h]; exact q
theorem put_zip {k : Key} {v : V} : ∀ {ks : List Key} {vs : List V}, ks.length = vs.length → putK (ks.zip vs) k v = if hasK k ks = true then ks.zip (List.zipWith (fun a y => if a = k then v else y) ks vs) else (ks ++ [k]).zip (vs ++ [v]) := by
  intro ks vs l
  have hany : ∀ {ks : List Key} {vs : List V}, ks.length = vs.length → ((ks.zip vs).any fun kv => decide (kv.1 = k)) = hasK k ks := by
    intro ks
    induction ks with
    | nil => intro vs _; rfl
    | cons a ks ih =>
      intro vs l
      cases vs with
      | nil => cases l
      | cons y vs =>
        rw [List.zip_cons_cons, List.any_cons, ih (Nat.succ.inj l)]
        rfl
  have hmap : ∀ {ks : List Key} {vs : List V}, (ks.zip vs).map (fun kv => if kv.1 = k then (kv.1, v) else kv) = ks.zip (List.zipWith (fun a y => if a = k then v else y) ks vs) := by
    intro ks
    induction ks with
    | nil => intro vs; rfl
    | cons a ks ih =>
      intro vs
      cases vs with
      | nil => rfl
      | cons y vs =>
        simp only [List.zip_cons_cons, List.map_cons, List.zipWith_cons_cons]
        rw [ih]
        congr 1
        by_cases h : a = k
        · rw [if_pos h, if_pos h]
        · rw [if_neg h, if_neg h]
  unfold putK
  rw [hany l]
  by_cases h : hasK k ks = true
  · rw [if_pos h, if_pos h, hmap]
  · rw [if_neg h, if_neg h, List.zip_append l]
    rfl
end
def RSet (X : Cx) (cl : Nat → Addr) : TSet := fun o i v H Q => ∃ W S a k x b S', b ≤ S.length ∧ Rel X.K cl W S H ∧ RelSV X.K cl W S.length a o ∧ RelSV X.K cl W S.length k i ∧ RelSV X.K cl W S.length x v ∧ putIx b S a k x = some S' ∧
  ∀ H', Gr b S S' → Rel X.K cl W S' H' → Q H'
theorem PSet.or {X : Cx} {t t' : TSet} (h : PSet X t) (h' : PSet X t') : PSet X (fun o i v H Q => t o i v H Q ∨ t' o i v H Q) := by
  intro pins s σ H o i v ov iv u Q I h1 h2 h3 q
  rcases q with q | q
  · exact h pins s σ H o i v ov iv u Q I h1 h2 h3 q
  · exact h' pins s σ H o i v ov iv u Q I h1 h2 h3 q
theorem PSet.weak {X : Cx} {t t' : TSet} (h : PSet X t) (k : ∀ o i v H Q, t' o i v H Q → t o i v H Q) : PSet X t' := by
  intro pins s σ H o i v ov iv u Q I h1 h2 h3 q
  exact h pins s σ H o i v ov iv u Q I h1 h2 h3 (k _ _ _ _ _ q)
theorem zw_len {α β γ : Type} {f : α → β → γ} {xs : List α} {ys : List β} (h : xs.length = ys.length) : xs.length = (List.zipWith f xs ys).length := by
  rw [List.length_zipWith, ← h, Nat.min_self]
theorem mem_zw {k : Key} {x y : SV} : ∀ {ks : List Key} {xs : List SV}, y ∈ List.zipWith (fun a z => if a = k then x else z) ks xs → y = x ∨ y ∈ xs
  | [], _, h => by simp at h
  | _ :: _, [], h => by simp at h
  | a :: ks, z :: xs, h => by
    rw [List.zipWith_cons_cons] at h
    rcases List.mem_cons.mp h with h | h
    · by_cases e : a = k
      · rw [if_pos e] at h; exact .inl h
      · rw [if_neg e] at h; exact .inr (by rw [h]; exact List.mem_cons_self ..)
    · exact (mem_zw h).imp id (List.mem_cons_of_mem _)
theorem ov_setIx {X : Cx} {cl : Nat → Addr} (hu : X.A.units + 1 < cLine) : PSet X (RSet X cl) := PSet.weak (PSet.or (set_list (X := X)) (set_dict hu)) fun o i v H Q ⟨W, S, a, k, x, b, S', hb, r, ra, rk, rx, e, q⟩ => by
  unfold putIx at e
  split at e
  · rename_i j
    obtain ⟨_, rfl⟩ := ra
    split at e
    · rename_i xs hx
      obtain ⟨g0, vs, h1, h2⟩ := r.st j _ hx
      split at e
      · rename_i kk ek
        split at e
        · rename_i m hm
          split at e
          · rename_i hok
            cases e
            refine .inl ⟨_, vs, kk, m, rfl, view_int r ek rk, h1, by rw [← PySem.Paired.length h2]; exact hm, q _ (.set fun b' hb' w hi y hy => ?_) (r.set hx rfl ⟨g0, _, upd_same, paired_set rx m h2⟩)⟩
            rcases List.mem_or_eq_of_mem_set hy with hy | rfl
            · exact w j _ hi hx y hy
            · exact okIn_below hok hb' hi
          · cases e
        · cases e
      · cases e
    · rename_i ks xs hx
      obtain ⟨g0, vs, h1, l1, h2⟩ := r.st j _ hx
      split at e
      · rename_i kd ekd
        split at e
        · rename_i kk ek
          split at e
          · rename_i hok
            cases e
            have lv : ks.length = vs.length := l1.trans (PySem.Paired.length h2)
            have lz : (ks.zip vs).length = ks.length := by rw [List.length_zip, ← lv, Nat.min_self]
            refine .inr ⟨_, _, rfl, .inl ⟨_, kk, h1, key_rel r ekd rk ek, by rw [lz]; exact hok.2, rfl⟩, ?_⟩
            rw [put_zip lv]
            unfold dPut at q
            by_cases hm : hasK kk ks = true
            · simp only [if_pos hm] at q ⊢
              refine q _ (.set fun b' hb' w hi y hy => ?_) (r.set hx rfl ⟨g0, _, upd_same, zw_len l1, paired_zw rx h2⟩)
              rcases mem_zw hy with rfl | hy
              · exact okIn_below hok.1 hb' hi
              · exact w j _ hi hx y hy
            · simp only [if_neg hm] at q ⊢
              refine q _ (.set fun b' hb' w hi y hy => ?_) (r.set hx rfl ⟨g0, _, upd_same, by rw [List.length_append, List.length_append, l1]; rfl, paired_snoc h2 rx⟩)
              rcases List.mem_append.mp hy with hy | hy
              · exact w j _ hi hx y hy
              · cases List.mem_singleton.mp hy
                exact okIn_below hok.1 hb' hi
          · cases e
        · cases e
      · cases e
    · cases e
  · cases e
section
variable {X : Cx} {cl : CL} {Wx : WX} {e eo ei : Expr} {fe fo fi : Fr → Sto → Res SV} {t : Fr → Sto → Res Bool} {fb : Fr → Sto → SRes} {pos pos' : Pos} {D : Ends} {W : Wd} {F : Fr} {S : Sto} {σ : St} {H : Hp}
def sSub (fo fi fe : Fr → Sto → Res SV) : Fr → Sto → SRes := fun F S => (fe F S).st F fun x S1 => (fo F S1).st F fun o S2 => (fi F S2).st F fun i S3 => match putIx F.b S3 o i x with
  | some S4 => .nx F.v S4
  | none => .bad
theorem sv_sub (hu : X.A.units + 1 < cLine) (ho : PE X eo (RE X cl Wx fo)) (hi : PE X ei (RE X cl Wx fi)) (he : PE X e (RE X cl Wx fe))
    (hs : swapsWithSole [.Subscript eo ei pos'] e pos.line X.env = pure false := by rfl) (hw : swappedStores [.Subscript eo ei pos'] e X.env = pure none := by rfl)
    (h1 : (assignEach [.Subscript eo ei pos'] X.env).map (·.2) = [assign (.Subscript eo ei pos') X.env] := by rfl)
    (ha : ∀ v, assign (.Subscript eo ei pos') X.env v = (do
      let ov ← holding [v] (eval eo X.env)
      let iv ← holding [v, ov] (eval ei X.env)
      standAt pos'
      holding [v, ov, iv] (setItem ov iv v)
      release [v, ov, iv] []) := by exact fun _ => rfl) : PS X (.Assign [.Subscript eo ei pos'] e pos) (RS X cl Wx (sSub fo fi fe)) :=
  PS.weak (ps_asg he (pg_sub ho hi (ov_setIx (cl := cl) hu) ha) hs hw h1) fun D σ H ⟨W, F, S, a, o⟩ => by
    refine RE.ofS a o fun W1 S1 x v H1 g1 l1 a1 q1 o1 => ?_
    refine RE.ofS a1 o1 fun W2 S2 y u H2 g2 l2 a2 q2 o2 => ?_
    refine RE.ofS a2 o2 fun W3 S3 z w H3 g3 l3 a3 q3 o3 => ?_
    split at o3
    · rename_i S4 hp
      exact ⟨W3, S3, y, z, x, F.b, S4, a3.b, a3.rel, RelSV.le l3 g3.len q2, q3, RelSV.le (l2.trans l3 g2.len) (Nat.le_trans g2.len g3.len) q1, hp,
        fun H' g r => o3 W3 σ H' g (.refl _ _) (a3.on g (.refl _ _) r)⟩
    · exact o3.elim

/-! ### o.f = e -/
def putX (nm : Str) (x : SV) : List Str → List SV → List Str × List SV
  | g :: fs, y :: xs => if g = nm then (g :: fs, x :: xs) else (g :: (putX nm x fs xs).1, y :: (putX nm x fs xs).2)
  | _, _ => ([nm], [x])
theorem putX_rel {K : PySem.W.Frag} {n : Nat} {nm : Str} {x : SV} {v : V} (r : RelSV K cl W n x v) : ∀ {fs : List Str} {xs : List SV} {vs : List V}, fs.length = xs.length → Paired (RelSV K cl W n) xs vs →
    ∃ ws, putF nm v (fs.zip vs) = (putX nm x fs xs).1.zip ws ∧ (putX nm x fs xs).1.length = (putX nm x fs xs).2.length ∧ Paired (RelSV K cl W n) (putX nm x fs xs).2 ws
  | [], [], [], _, .nil => ⟨[v], rfl, rfl, .cons r .nil⟩
  | g :: fs, y :: xs, u :: vs, l, .cons q t => by
    obtain ⟨ws, h1, h2, h3⟩ := putX_rel r (Nat.succ.inj l) t
    unfold putX
    rw [List.zip_cons_cons]
    unfold putF
    by_cases h : g = nm
    · simp only [if_pos h]
      exact ⟨v :: vs, rfl, by simpa using l, .cons r t⟩
    · simp only [if_neg h]
      exact ⟨u :: ws, by rw [h1, List.zip_cons_cons], by simp [h2], .cons q h3⟩
  | [], _ :: _, _, l, _ => by cases l
  | _ :: _, [], _, l, _ => by cases l
theorem putX_mem {nm : Str} {x z : SV} : ∀ {fs : List Str} {xs : List SV}, z ∈ (putX nm x fs xs).2 → z = x ∨ z ∈ xs
  | [], _, h => by simp [putX] at h; exact .inl h
  | _ :: _, [], h => by simp [putX] at h; exact .inl h
  | g :: fs, y :: xs, h => by
    unfold putX at h
    by_cases e : g = nm
    · simp only [if_pos e] at h
      rcases List.mem_cons.mp h with h | h
      · exact .inl h
      · exact .inr (List.mem_cons_of_mem _ h)
    · simp only [if_neg e] at h
      rcases List.mem_cons.mp h with h | h
      · exact .inr (by rw [h]; exact List.mem_cons_self ..)
      · exact (putX_mem h).imp id (List.mem_cons_of_mem _)
def sAttr (cs : List Nat) (nm : Str) (fo fe : Fr → Sto → Res SV) : Fr → Sto → SRes := fun F S => (fe F S).st F fun x S1 => (fo F S1).st F fun o S2 => match o with
  | .m j => match S2[j]? with
    | some (.ins c fs xs) => if cs.contains c = true ∧ fs.length < 1000 ∧ okIn F.b j x = true then .nx F.v (S2.set j (.ins c (putX nm x fs xs).1 (putX nm x fs xs).2)) else .bad
    | _ => .bad
  | _ => .bad
theorem sv_attr {cs : List Nat} {nm : Str} (hc : ∀ c, c ∈ cs → Cls X.K (cl c) ∧ NoAttr X.K (cl c) nm) (ho : PE X eo (RE X cl Wx fo)) (he : PE X e (RE X cl Wx fe)) (hs : swapsWith e (some (.Attribute eo nm pos')) pos.line X.env = pure false := by rfl) :
    PS X (.Assign [.Attribute eo nm pos'] e pos) (RS X cl Wx (sAttr cs nm fo fe)) :=
  PS.weak (ps_fld ho he hs) fun D σ H ⟨W, F, S, a, o⟩ => by
    refine RE.ofS a o fun W1 S1 x v H1 g1 l1 a1 q1 o1 => ?_
    refine RE.ofS a1 o1 fun W2 S2 y u H2 g2 l2 a2 q2 o2 => ?_
    split at o2
    · rename_i j
      split at o2
      · rename_i c fs xs hx
        split at o2
        · rename_i hcc
          obtain ⟨h1, h2, h3⟩ := hcc
          obtain ⟨_, rfl⟩ := q2
          obtain ⟨g0, vs, dx, k1, k2, k3⟩ := a2.rel.st j _ hx
          obtain ⟨c1, c2⟩ := hc c (by simpa using h1)
          have q1' := RelSV.le l2 g2.len q1
          obtain ⟨ws, m1, m2, m3⟩ := putX_rel (nm := nm) q1' k2 k3
          have lz : (fs.zip vs).length = fs.length := by rw [List.length_zip, ← PySem.Paired.length k3, ← k2, Nat.min_self]
          refine ⟨_, cl c, dx, _, rfl, k1, c1, c2, by rw [lz]; exact h2, ?_⟩
          rw [m1]
          have gr : Gr F.b S2 (S2.set j (.ins c (putX nm x fs xs).1 (putX nm x fs xs).2)) := .set fun b' hb' w hi z hz => by
            rcases putX_mem hz with rfl | hz
            · exact okIn_below h3 hb' hi
            · exact w j _ hi hx z hz
          exact o2 W2 σ _ gr (.refl _ _) (a2.on gr (.refl _ _) (a2.rel.set hx rfl ⟨g0, ws, dx, upd_same, m2, m3⟩))
        · exact o2.elim
      · exact o2.elim
    · exact o2.elim

/-! ### x op= e -/
def sAug (i : Nat) (o : Sto → SV → SV → Option Dv) (fe : Fr → Sto → Res SV) : Fr → Sto → SRes := fun F S => match F.v[i]? with
  | some (some x) => (fe F S).st F fun y S1 => match o S1 x y with
    | some z => .nx (F.put i (.d z)) S1
    | none => .bad
  | _ => .bad
theorem sv_aug (i : Nat) {x : Str} {op : Operator} {o : Sto → SV → SV → Option Dv} (ho : OpR X (inplaceOp op) (ROp X cl o)) (he : PE X e (RE X cl Wx fe)) (hN : X.N.Nodup) (hi : X.N[i]? = some x := by rfl) (hx : Loc X.env.scope x := by first | exact Or.inl rfl | exact Or.inr rfl)
    (hf : X.fn x = true ∨ X.env.scope.names.lookup x = some .local := by first | exact .inl rfl | exact .inr rfl) : PS X (.AugAssign (.Name x pos') op e pos) (RS X cl Wx (sAug i o fe)) :=
  PS.weak (ps_aug (ti := ROp X cl o) hN hi hx he ho hf) fun D σ H ⟨W, F, S, a, o⟩ => by
    unfold sAug at o
    split at o
    · rename_i sv esv
      obtain ⟨v, e1, r1⟩ := a.env.get i sv esv
      refine ⟨v, e1, RE.ofS a o fun W1 S1 y u H1 g1 l1 a1 q1 o1 => ?_⟩
      split at o1
      · rename_i z hz
        exact ⟨W1, S1, sv, y, z, a1.rel, RelSV.le l1 g1.len r1, q1, hz, fun W' H' v' l r q => o1 W' _ H' (.refl _ _) l ((a1.on (.refl _ _) l r).put i q)⟩
      · exact o1.elim
    · exact o.elim
def opIAdd (S : Sto) (a b : SV) : Option Dv := match view S a, view S b with
  | some (.int i), some (.int j) => some (.int (i + j))
  | some (.str i), some (.str j) => if i.length + j.length ≤ most then some (.str (i ++ j)) else none
  | _, _ => none
theorem ov_iadd : OpR X (inplaceOp .Add) (ROp X cl opIAdd) := OpR.weak ((iop_add (X := X)).or iop_add_str) fun x y H Q ⟨W, S, a, b, z, r, ra, rb, e, k⟩ => by
  unfold opIAdd at e
  split at e
  · rename_i i j ea eb
    cases e
    exact .inl ⟨i, j, view_int r ea ra, view_int r eb rb, k W H _ (.refl _ _) r (.int _)⟩
  · rename_i i j ea eb
    split at e
    · rename_i hm
      cases e
      obtain ⟨e1, k1⟩ := view_str r ea ra
      obtain ⟨e2, k2⟩ := view_str r eb rb
      exact .inr ⟨i, j, e1, e2, hm, k W H _ (.refl _ _) r (.str _ (strOk_add k1 k2))⟩
    · cases e
  · cases e
theorem ov_isub : OpR X (inplaceOp .Sub) (ROp X cl opSub) := ov_int (rI_of iop_sub) (fun _ _ _ => trivial) fun _ _ _ i j => .int _

/-! ### while -/
def whl (t : Fr → Sto → Res Bool) (body : Fr → Sto → SRes) (b : Nat) : Nat → Env → Sto → SRes
  | 0, _, _ => .bad
  | k + 1, v, S => (t ⟨b, v⟩ S).st ⟨b, v⟩ fun c S1 => if c = true then (match body ⟨b, v⟩ S1 with
      | .nx v2 S2 => whl t body b k v2 S2
      | .ct v2 S2 => whl t body b k v2 S2
      | .bk v2 S2 => .nx v2 S2
      | o => o) else .nx v S1
def sWhile (n : Nat) (t : Fr → Sto → Res Bool) (body : Fr → Sto → SRes) : Fr → Sto → SRes := fun F S => whl t body F.b n F.v S
theorem sv_while (n : Nat) {c : Expr} {body : List Stmt} (hp : PassesOwn (model X.prog X.w) X.A X.env X.xe) (hc : PT X c (RT X cl Wx t)) (hb : PSs X body (RS X cl Wx fb)) : PS X (.While c body [] pos) (RS X cl Wx (sWhile n t fb)) :=
  PS.weak (ps_while hp hc hb) fun D σ H ⟨W, F, S, a, o⟩ => by
    refine ⟨fun m σ H => ∃ W v S, At X.K cl W ⟨F.b, v⟩ S σ H ∧ OutS X.K cl Wx D F.b W S (whl t fb F.b m v S), ⟨n, W, F.v, S, a, o⟩, ?_⟩
    rintro m σ H ⟨W, v, S, a, o⟩
    cases m with
    | zero => exact o.elim
    | succ m =>
      refine RT.ofS a o fun W1 S1 c H1 g1 l1 a1 o1 => ?_
      split at o1
      · rename_i hcc
        rw [if_pos hcc]
        refine ⟨fun σ' H' => ∃ W v S, At X.K cl W ⟨F.b, v⟩ S σ' H' ∧ OutS X.K cl Wx D F.b W S (whl t fb F.b m v S), fun σ' H' h => ⟨m, Nat.lt_succ_self _, h⟩, W1, ⟨F.b, v⟩, S1, a1, ?_⟩
        cases hr : fb ⟨F.b, v⟩ S1 with
        | nx v2 S2 => rw [hr] at o1; exact fun W' σ' H' g l a => ⟨W', v2, S2, a, OutS.rebase o1 g l⟩
        | ct v2 S2 => rw [hr] at o1; exact fun W' σ' H' g l a => ⟨W', v2, S2, a, OutS.rebase o1 g l⟩
        | bk v2 S2 => rw [hr] at o1; exact o1
        | rt v S2 => rw [hr] at o1; exact o1
        | ex ec v2 S2 => rw [hr] at o1; exact o1
        | bad => rw [hr] at o1; exact o1
      · rename_i hcc
        rw [if_neg hcc]
        exact OutS.here o1 a1

/-! ### a, b = e -/
def gTs : List Tg → List SV → Fr → Sto → Option Env
  | [], [], F, _ => some F.v
  | t :: ts, x :: xs, F, S => match t x F S with
    | some v1 => gTs ts xs ⟨F.b, v1⟩ S
    | none => none
  | _, _, _, _ => none
def RGs (X : Cx) (cl : CL) (tgs : List Tg) : TGs := fun vs σ H Q => ∃ W F S svs v', At X.K cl W F S σ H ∧ Paired (RelSV X.K cl W S.length) svs vs ∧ gTs tgs svs F S = some v' ∧ ∀ σ', At X.K cl W ⟨F.b, v'⟩ S σ' H → Q σ' H
theorem PGs.weak {X : Cx} {e : List Expr} {t t' : TGs} (h : PGs X e t) (k : ∀ v σ H Q, t' v σ H Q → t v σ H Q) : PGs X e t' := ⟨fun pins s σ H v u Q I r q => h.run pins s σ H v u Q I r (k v σ H Q q)⟩
theorem gvs_nil : PGs X [] (RGs X cl []) := PGs.weak pgs_nil fun vs σ H Q ⟨W, F, S, svs, v', a, p, e, k⟩ => by
  cases svs with
  | nil => cases p; cases e; exact ⟨rfl, k σ a⟩
  | cons x xs => cases e
theorem gvs_cons {te : Expr} {tes : List Expr} {tg : Tg} {tgs : List Tg} (h1 : PG X te (RG X cl tg)) (h2 : PGs X tes (RGs X cl tgs)) (hs : (assignEach (te :: tes) X.env).map (·.2) = assign te X.env :: (assignEach tes X.env).map (·.2) := by rfl) : PGs X (te :: tes) (RGs X cl (tg :: tgs)) :=
  PGs.weak (pgs_cons h1 h2 hs) fun vs σ H Q ⟨W, F, S, svs, v', a, p, e, k⟩ => by
    cases p with
    | nil => cases e
    | cons q t =>
      unfold gTs at e
      split at e
      · rename_i v1 h
        exact ⟨_, _, rfl, W, F, S, _, v1, a, q, h, fun σ1 a1 => ⟨W, ⟨F.b, v1⟩, S, _, v', a1, t, e, k⟩⟩
      · cases e
def tupOf (S : Sto) : SV → Option (List SV)
  | .d (.tup xs) => some (xs.map .d)
  | .m i => match S[i]? with
    | some (.frz (.tup xs)) => some (xs.map .d)
    | _ => none
  | _ => none
theorem tup_rel {K : PySem.W.Frag} (r : Rel K cl W S H) {x : SV} {xs : List SV} {v : V} (e : tupOf S x = some xs) (q : RelSV K cl W S.length x v) : ∃ a vs, v = .ref a ∧ SqT K H a vs ∧ Paired (RelSV K cl W S.length) xs vs := by
  unfold tupOf at e
  split at e
  · cases e; cases q with
    | tup h t => exact ⟨_, _, rfl, SqT.up r.fz h, t.sv⟩
  · split at e
    · rename_i hy
      cases e
      obtain ⟨_, rfl⟩ := q
      have := r.st _ _ hy
      cases this with
      | tup h t => exact ⟨_, _, rfl, SqT.up r.fz h, t.sv⟩
    · cases e
  · cases e
def gUn (n : Nat) (tgs : List Tg) : Tg := fun x F S => match tupOf S x with
  | some xs => if xs.length = n then gTs tgs xs F S else none
  | none => none
theorem gv_tup {n : Nat} {es : List Expr} {k : Nat} {tgs : List Tg} (hc : X.calm = true) (h : PGs X es (RGs X cl tgs)) (hn : (assignEach es X.env).length = n := by rfl) (hst : (assignEach es X.env).findIdx? (·.1) = none := by rfl) : PG X (.Tuple es k pos) (RG X cl (gUn n tgs)) :=
  PG.weak (pg_tup hc h hn hst) fun v σ H Q ⟨W, F, S, sv, v', a, q, e, kk⟩ => by
    unfold gUn at e
    split at e
    · rename_i xs hx
      split at e
      · rename_i hl
        obtain ⟨p, vs, rfl, s1, t1⟩ := tup_rel a.rel hx q
        exact ⟨p, vs, rfl, s1, by rw [← PySem.Paired.length t1]; exact hl, W, F, S, xs, v', a, t1, e, kk⟩
      · cases e
    · cases e
def sAsg (fe : Fr → Sto → Res SV) (tg : Tg) : Fr → Sto → SRes := fun F S => (fe F S).st F fun x S1 => match tg x F S1 with
  | some v1 => .nx v1 S1
  | none => .bad
theorem sv_asg {te : Expr} {tg : Tg} (he : PE X e (RE X cl Wx fe)) (hg : PG X te (RG X cl tg)) (hs : swapsWithSole [te] e pos.line X.env = pure false := by rfl) (hw : swappedStores [te] e X.env = pure none := by rfl)
    (h1 : (assignEach [te] X.env).map (·.2) = [assign te X.env] := by rfl) : PS X (.Assign [te] e pos) (RS X cl Wx (sAsg fe tg)) :=
  PS.weak (ps_asg he hg hs hw h1) fun D σ H ⟨W, F, S, a, o⟩ => by
    refine RE.ofS a o fun W1 S1 x v H1 g1 l1 a1 q1 o1 => ?_
    split at o1
    · rename_i v1 hv
      exact ⟨W1, F, S1, x, v1, a1, q1, hv, fun σ' a' => OutS.here o1 a'⟩
    · exact o1.elim
end

/-! ### a def's body -/
def SRes.res : SRes → Res SV
  | .rt x S => .ok x S
  | .nx _ S => .ok (.d .non) S
  | .ex e _ S => .ex e S
  | _ => .bad
def runF (np nn : Nat) (body : Fr → Sto → SRes) (b : Nat) (as : List SV) (S : Sto) : Res SV := if as.length = np then (body ⟨b, as.map some ++ List.replicate (nn - np) none⟩ S).res else .bad
section
variable {K : PySem.W.Frag} {cl : Nat → Addr} {W : Wd} {S : Sto} {H : Hp} {b : Nat}
theorem env_start {as : List SV} {vs : List V} {N : List Str} (p : Paired (RelSV K cl W S.length) as vs) : EnvR K cl W S.length (as.map some ++ List.replicate (N.length - as.length) none) (L2.start N vs) := by
  have hl := PySem.Paired.length p
  refine ⟨?_, fun i sv e => ?_⟩
  · unfold L2.start
    rw [List.length_append, List.length_append, List.length_map, List.length_map, List.length_replicate, List.length_replicate, hl]
  · by_cases hi : i < as.length
    · rw [List.getElem?_append_left (by simpa using hi), List.getElem?_map] at e
      cases h : as[i]? with
      | none => rw [h] at e; cases e
      | some x =>
        rw [h] at e
        cases e
        obtain ⟨v, h1, h2⟩ := paired_get p h
        refine ⟨v, ?_, h2⟩
        unfold L2.start
        rw [List.getElem?_append_left (by rw [List.length_map, ← hl]; exact hi), List.getElem?_map, h1]
        rfl
    · rw [List.getElem?_append_right (by simpa using hi), List.getElem?_replicate] at e
      split at e <;> cases e
end
/-- what a body's rules want of where they stand -/
structure XOk (X : Cx) (Wx : WX) (k : Nat) : Prop where
  hr : Room k X.A
  tk : L2N.Takes X Wx
  hp : PassesOwn (model X.prog X.w) X.A X.env X.xe
  calm : X.calm = true
  hu : X.A.units + 200 < cLine
  hu1 : X.A.units + 1 < cLine
/-- a def by its body, errors being without context -/
theorem okN {P : Program} {w : World} {K : PySem.W.Frag} {mg : Str → Option Value} {base : Heap} {x qual : Str} {st : Stmt} {f : Addr} {fd : FuncData} {N ps : List Str} {k : Nat} {sp : Sp} (Fu : Fun K x qual st f fd) (Sc : FnScope N ps (defScope st)) (len : ∀ vs H Q E, sp vs H Q E → vs.length = ps.length)
    (hb : ∀ (cdv : Value) (A : Around) (outer : List PySem.Env) (s : Shared) (H : Hp) (vs : List V) (Q : VK) (E : XK), Room k (cxOf (L2N.CX P w) P w K mg base N qual (defScope st) f cdv A outer s H E).A → sp vs H Q E →
      ∃ t, PSs (cxOf (L2N.CX P w) P w K mg base N qual (defScope st) f cdv A outer s H E) (defBody st) t ∧ t { nx := fun _ H' => Q .non H', rt := Q } (L2.start N vs) H) : FnOk P w K mg base (L2N.CX P w) (k + 1) f fd ps sp := by
  obtain ⟨oc, od, kV, doc, pm, an, cdv, ct, osl, rfl, lk, hcd⟩ := Fu.ex
  exact fn_of lk hcd Sc len fun A outer s H vs Q E hr hsp => hb cdv A outer s H vs Q E hr hsp
/-- THE RULE: a def keeps what the evaluator says of its body -/
theorem fn_ok {P : Program} {w : World} {K : PySem.W.Frag} {mg : Str → Option Value} {base : Heap} {cl : Nat → Addr} {x qual : Str} {st : Stmt} {f : Addr} {fd : FuncData} {N ps : List Str} {k np nn : Nat} {body : Fr → Sto → SRes} (Fu : Fun K x qual st f fd) (Sc : FnScope N ps (defScope st)) (hnp : ps.length = np) (hnn : N.length = nn)
    (hbody : ∀ (cdv : Value) (A : Around) (outer : List PySem.Env) (s : Shared) (H : Hp) (E : XK), XOk (cxOf (L2N.CX P w) P w K mg base N qual (defScope st) f cdv A outer s H E) (fun c d _ H => E c d H) k →
      PSs (cxOf (L2N.CX P w) P w K mg base N qual (defScope st) f cdv A outer s H E) (defBody st) (RS (cxOf (L2N.CX P w) P w K mg base N qual (defScope st) f cdv A outer s H E) (CL.pure cl) (fun c d _ H => E c d H) body)) :
    FnOk P w K mg base (L2N.CX P w) (k + 1) f fd ps (SpR K cl (runF np nn body)) := by
  refine okN Fu Sc (fun vs H Q E ⟨W, S, as, b, hb, r, p, o⟩ => ?_) fun cdv A outer s H vs Q E hr ⟨W, S, as, b, hb, r, p, o⟩ => ?_
  · unfold runF at o
    split at o
    · rename_i hl; rw [hnp, ← hl, PySem.Paired.length p]
    · exact o.elim
  · refine ⟨_, hbody cdv A outer s H E ⟨hr, L2N.takes_of rfl rfl rfl rfl, passes_of rfl, rfl, ?_, ?_⟩, ?_⟩
    · have := hr.un
      omega
    · have := hr.un
      omega
    unfold runF at o
    split at o
    · rename_i hl
      subst hl
      refine ⟨W, ⟨b, as.map some ++ List.replicate (nn - as.length) none⟩, S, ⟨hb, r, by rw [← hnn]; exact env_start p, trivial⟩, ?_⟩
      cases hr : body ⟨b, as.map some ++ List.replicate (nn - as.length) none⟩ S with
      | nx v2 S2 => rw [hr] at o; exact fun W' σ' H' g l a => o W' H' _ g l a.rel RelD.non
      | ct v2 S2 => rw [hr] at o; exact o.elim
      | bk v2 S2 => rw [hr] at o; exact o.elim
      | rt v S2 => rw [hr] at o; exact o
      | ex ec v2 S2 => rw [hr] at o; exact fun W' σ' H' c d g l a q => o W' H' c d g l a.rel q
      | bad => rw [hr] at o; exact o
    · exact o.elim
theorem fn_bad {P : Program} {w : World} {K : PySem.W.Frag} {mg : Str → Option Value} {base : Heap} {cl : Nat → Addr} {f : Addr} {fd : FuncData} {ps : List Str} {k : Nat} {g : Nat → List SV → Sto → Res SV} (hg : ∀ b as S, g b as S = .bad) :
    FnOk P w K mg base (L2N.CX P w) k f fd ps (SpR K cl g) :=
  ⟨fun vs H Q E ⟨W, S, as, b, hb, r, p, o⟩ => by rw [hg] at o; exact o.elim, fun A outer s H args us vs Q E _ _ _ _ ⟨W, S, as, b, hb, r, p, o⟩ => by rw [hg] at o; exact o.elim⟩

/-! ### the answers of isinstance -/
def anInt : Ty → Option Bool
  | .int => some true | .bl => some true | .own _ => none | _ => some false
def anBool : Ty → Option Bool
  | .bl => some true | .own _ => none | _ => some false
def anStr : Ty → Option Bool
  | .str => some true | .own _ => none | _ => some false
def anTup : Ty → Option Bool
  | .tup => some true | .own _ => none | _ => some false
def anLst : Ty → Option Bool
  | .lst => some true | .own _ => none | _ => some false
def anDic : Ty → Option Bool
  | .dic => some true | .own _ => none | _ => some false
def anTL : Ty → Option Bool
  | .tup => some true | .lst => some true | .own _ => none | _ => some false
/-- one's own class c: others are none of it -/
def anOwn (c : Nat) : Ty → Option Bool
  | .own c' => if c' = c then some true else none
  | _ => some false
section
variable {K : PySem.W.Frag} {cl : Nat → Addr}
theorem an_int : ∀ t b, anInt t = some b → PySem.W.kitOne K (Ty.v cl t) (.type "int") = some b := by
  intro t b h
  cases t <;> first | (cases h; done) | (cases h; exact kit_ty (by decide +kernel))
theorem an_bool : ∀ t b, anBool t = some b → PySem.W.kitOne K (Ty.v cl t) (.type "bool") = some b := by
  intro t b h
  cases t <;> first | (cases h; done) | (cases h; exact kit_ty (by decide +kernel))
theorem an_str : ∀ t b, anStr t = some b → PySem.W.kitOne K (Ty.v cl t) (.type "str") = some b := by
  intro t b h
  cases t <;> first | (cases h; done) | (cases h; exact kit_ty (by decide +kernel))
theorem an_tup : ∀ t b, anTup t = some b → PySem.W.kitOne K (Ty.v cl t) (.type "tuple") = some b := by
  intro t b h
  cases t <;> first | (cases h; done) | (cases h; exact kit_ty (by decide +kernel))
theorem an_lst : ∀ t b, anLst t = some b → PySem.W.kitOne K (Ty.v cl t) (.type "list") = some b := by
  intro t b h
  cases t <;> first | (cases h; done) | (cases h; exact kit_ty (by decide +kernel))
theorem an_dic : ∀ t b, anDic t = some b → PySem.W.kitOne K (Ty.v cl t) (.type "dict") = some b := by
  intro t b h
  cases t <;> first | (cases h; done) | (cases h; exact kit_ty (by decide +kernel))
theorem an_tl : ∀ t b, anTL t = some b → PySem.W.kitAny K (Ty.v cl t) [.type "tuple", .type "list"] = some b := by
  intro t b h
  cases t with
  | own c => cases h
  | tup => cases h; exact kitAny_cons (b := true) (kit_ty (by decide +kernel)) (fun q => by cases q) fun _ => rfl
  | lst => cases h; exact kitAny_cons (b := false) (kit_ty (by decide +kernel)) (fun _ => kitAny_cons (b := true) (kit_ty (by decide +kernel)) (fun q => by cases q) fun _ => rfl) fun q => by cases q
  | _ => cases h; exact kitAny_cons (b := false) (kit_ty (by decide +kernel)) (fun _ => kitAny_cons (b := false) (kit_ty (by decide +kernel)) (fun _ => rfl) fun q => by cases q) fun q => by cases q
/-- what is known of one's own class beside the others -/
structure NotIn (K : PySem.W.Frag) (C : Addr) : Prop where
  ci : PySem.W.isClsIn K C = true
  ct : PySem.W.typeIn K (.ref C) = some (.type "type")
  non : PySem.W.subIn K (.type "NoneType") (.ref C) = some false
  bl : PySem.W.subIn K (.type "bool") (.ref C) = some false
  int : PySem.W.subIn K (.type "int") (.ref C) = some false
  str : PySem.W.subIn K (.type "str") (.ref C) = some false
  tup : PySem.W.subIn K (.type "tuple") (.ref C) = some false
  lst : PySem.W.subIn K (.type "list") (.ref C) = some false
  dic : PySem.W.subIn K (.type "dict") (.ref C) = some false
theorem NotIn.isc {C : Addr} (n : NotIn K C) : ((PySem.W.clsIn K C).isSome && PySem.W.typeIn K (.ref C) == some (.type "type")) = true := by
  have h := n.ci
  unfold PySem.W.isClsIn at h
  rw [h, n.ct]
  exact beq_self_eq_true _
theorem kit_sub {C : Addr} {T : String} {b : Bool} (hc : ((PySem.W.clsIn K C).isSome && PySem.W.typeIn K (.ref C) == some (.type "type")) = true) (h : PySem.W.subIn K (.type T) (.ref C) = some b) : PySem.W.kitOne K (.type T) (.ref C) = some b := by
  unfold PySem.W.kitOne
  rw [if_neg (by intro q; cases (beq_iff_eq.mp q))]
  show PySem.W.kitCls K (.type T) (.ref C) = some b
  unfold PySem.W.kitCls
  simp only
  rw [if_pos hc]
  exact h
theorem an_own {c : Nat} (n : NotIn K (cl c)) : ∀ t b, anOwn c t = some b → PySem.W.kitOne K (Ty.v cl t) (.ref (cl c)) = some b := by
  intro t b h
  cases t with
  | own c' =>
    unfold anOwn at h
    simp only at h
    split at h
    · rename_i e
      subst e
      cases h
      unfold PySem.W.kitOne
      exact if_pos (beq_self_eq_true _)
    · cases h
  | non => cases h; exact kit_sub n.isc n.non
  | bl => cases h; exact kit_sub n.isc n.bl
  | int => cases h; exact kit_sub n.isc n.int
  | str => cases h; exact kit_sub n.isc n.str
  | tup => cases h; exact kit_sub n.isc n.tup
  | lst => cases h; exact kit_sub n.isc n.lst
  | dic => cases h; exact kit_sub n.isc n.dic
end
theorem noOwn {K : PySem.W.Frag} {cl : Nat → Addr} {ans : Ty → Option Bool} (h : ∀ c, ans (.own c) = none) : ∀ c, (ans (.own c)).isSome = true → OwnC K (cl c) := fun c q => by rw [h c] at q; cases q
theorem oneOwn {K : PySem.W.Frag} {cl : Nat → Addr} {c : Nat} (o : OwnC K (cl c)) : ∀ c', (anOwn c (.own c')).isSome = true → OwnC K (cl c') := fun c' q => by
  unfold anOwn at q
  simp only at q
  split at q
  · rename_i e; rw [e]; exact o
  · cases q
end Ev

set_option Elab.async false
set_option linter.all false
set_option maxRecDepth 100000
/-! Ev11: some more operators; the law's end. -/
namespace Ev
open PySem L2
section
variable {X : Cx} {cl : CL}
abbrev opBor := opInt yes fun i j => .int (Builtin.bitOr i j)
theorem ov_bor : OpR X (binaryOp .BitOr) (ROp X cl opBor) := ov_int (rI_of op_or) (fun _ _ _ => trivial) fun _ _ _ i j => .int _
end
/-- what the law's def promises -/
def spL (K : PySem.W.Frag) : Sp := fun vs H Q _ => ∃ (a : Addr) (ns : List Int), vs = [.ref a] ∧ SqL K H a (ns.map V.int) ∧ ns.length ≤ 63 ∧ ∀ H', Q (.bl true) H'
theorem ints_rel {K : PySem.W.Frag} {cl : Nat → Addr} {H : Hp} : ∀ ns : List Int, RelDs K cl H (ns.map Dv.int) (ns.map V.int)
  | [] => .nil
  | n :: r => .cons (.int n) (ints_rel r)
theorem spL_imp {K : PySem.W.Frag} {cl : Nat → Addr} {g : Nat → List SV → Sto → Res SV} (h : ∀ ns : List Int, ns.length ≤ 63 → ∃ S, g 0 [.d (.lst (ns.map .int))] [] = .ok (.d (.bl true)) S) (vs : List V) (H : Hp) (Q : VK) (E : XK) (q : spL K vs H Q E) : SpR K cl g vs H Q E := by
  obtain ⟨a, ns, rfl, hS, hl, hQ⟩ := q
  obtain ⟨S, e⟩ := h ns hl
  refine ⟨⟨fun _ => 0, H⟩, [], [.d (.lst (ns.map .int))], 0, Nat.le_refl _, ⟨fun _ _ q => q, fun i mo q => (by cases q), fun i j mi mj q => (by cases q)⟩, .cons (RelD.lst hS (ints_rel ns)) .nil, ?_⟩
  rw [e]
  intro W' H' v _ _ _ q
  cases q
  exact hQ H'
theorem walk_law {l : PySem.W.OpenLaw} {k : Nat} {q : Program} {loose : List Str} {XP : (Str → Option Value) → Heap → Prop} {YP : World → Heap → Prop} {d : DefRec} {K : Params → PySem.W.Frag} {x : Str} (hn : l.most = some 63) (hdf : d.params.defaults = []) (hr : Room k callerA)
    (hY : ∀ (w : World) (h : Heap), YP w h → (K w.params).In h)
    (F : ∀ (w : World) (mg : Str → Option Value) (fa : Addr) (h : Heap), (K w.params).In h → h.Ns mainGlobals mg → mg d.name = some (.ref fa) →
      ∃ fd : FuncData, (∀ (s : Shared) (u : Value), BindsTo s fd ⟨[u], []⟩ [(x, u)]) ∧ ∀ base : Heap, (K w.params).In base → base.Ns mainGlobals mg → FnOk l.prog w (K w.params) mg base (L2N.CX l.prog w) k fa fd [x] (spL (K w.params))) :
    PySem.W.WalkO q loose XP YP l.row.toRowW d [] (fun f vs => PySem.call f vs) :=
  L2.walk_of (n := 63) (k := k) (x := x) (CX := fun w => L2N.CX l.prog w) (sp := fun w => spL (K w.params)) hn (by decide) hdf hr hY F (fun _ _ a ns hl _ hS => ⟨a, ns, rfl, hS, hl, fun _ => rfl⟩) fun _ _ _ _ _ z => by
    obtain ⟨_, _, _, _, _, _, _, _, _, _, _, _, z⟩ := z
    exact z
end Ev

set_option Elab.async false
set_option linter.all false
set_option maxRecDepth 100000
/-! Ev12: reckoning with the evaluator: what simp is to unfold. No lambda stands in what is left to do. -/
namespace Ev
open PySem L2
def optD : Option Dv → Sto → Res SV
  | some z, S => .ok (.d z) S
  | none, _ => .bad
def optS : Option SV → Sto → Res SV
  | some z, S => .ok z S
  | none, _ => .bad
@[simp] theorem optD_s (z : Dv) (S : Sto) : optD (some z) S = .ok (.d z) S := Eq.trans rfl rfl
@[simp] theorem optS_s (z : SV) (S : Sto) : optS (some z) S = .ok z S := Eq.trans rfl rfl
@[simp] theorem optD_n (S : Sto) : optD none S = .bad := Eq.trans rfl rfl
@[simp] theorem optS_n (S : Sto) : optS none S = .bad := Eq.trans rfl rfl
def optV : Option Env → Sto → SRes
  | some v, S => .nx v S
  | none, _ => .bad
@[simp] theorem optV_s (v : Env) (S : Sto) : optV (some v) S = .nx v S := Eq.trans rfl rfl
def optT : Option Sto → Env → SRes
  | some S, v => .nx v S
  | none, _ => .bad
@[simp] theorem optT_s (v : Env) (S : Sto) : optT (some S) v = .nx v S := Eq.trans rfl rfl
def optM : Option (SV × Sto) → Res SV
  | some (y, S) => .ok y S
  | none => .bad
@[simp] theorem optM_s (y : SV) (S : Sto) : optM (some (y, S)) = .ok y S := Eq.trans rfl rfl

@[simp] theorem eVar_ap (i : Nat) (F : Fr) (S : Sto) : eVar i F S = (match F.v[i]? with | some (some x) => .ok x S | _ => .bad) := Eq.trans rfl rfl
@[simp] theorem eC_ap (x : Dv) (F : Fr) (S : Sto) : eC x F S = .ok (.d x) S := Eq.trans rfl rfl
@[simp] theorem aNil_ap  (F : Fr) (S : Sto) : aNil F S = .ok [] S := Eq.trans rfl rfl
def kA2 (x : SV) (r : Res (List SV)) : Res (List SV) := r.bind fun xs S2 => .ok (x :: xs) S2
@[simp] theorem kA2_ok (x : SV) (xs : (List SV)) (S2 : Sto) : kA2 x (.ok xs S2) = .ok (x :: xs) S2 := Eq.trans rfl rfl
@[simp] theorem kA2_ex (x : SV) (e : Exc) (S : Sto) : kA2 x (.ex e S) = .ex e S := Eq.trans rfl rfl
@[simp] theorem kA2_bad (x : SV) : kA2 x .bad = .bad := Eq.trans rfl rfl
def kA1 (fa : Fr → Sto → Res (List SV)) (F : Fr) (r : Res SV) : Res (List SV) := r.bind fun x S1 => kA2 x (fa F S1)
@[simp] theorem kA1_ok (fa : Fr → Sto → Res (List SV)) (F : Fr) (x : SV) (S1 : Sto) : kA1 fa F (.ok x S1) = kA2 x (fa F S1) := Eq.trans rfl rfl
@[simp] theorem kA1_ex (fa : Fr → Sto → Res (List SV)) (F : Fr) (e : Exc) (S : Sto) : kA1 fa F (.ex e S) = .ex e S := Eq.trans rfl rfl
@[simp] theorem kA1_bad (fa : Fr → Sto → Res (List SV)) (F : Fr) : kA1 fa F .bad = .bad := Eq.trans rfl rfl
@[simp] theorem aCons_ap (f : Fr → Sto → Res SV) (fa : Fr → Sto → Res (List SV)) (F : Fr) (S : Sto) : aCons f fa F S = kA1 fa F (f F S) := Eq.trans rfl rfl
def seqR (mk : List Dv → Dv) : Option (List Dv × Sto) → Res SV
  | some (ds, S2) => if ds.length ≤ most then .ok (.d (mk ds)) S2 else .bad
  | none => .bad
@[simp] theorem seqR_s (mk : List Dv → Dv) (ds : List Dv) (S2 : Sto) : seqR mk (some (ds, S2)) = if ds.length ≤ most then .ok (.d (mk ds)) S2 else .bad := Eq.trans rfl rfl
def kSq (mk : List Dv → Dv) (r : Res (List SV)) : Res SV := r.bind fun xs S1 => seqR mk (frzs S1 xs)
@[simp] theorem kSq_ok (mk : List Dv → Dv) (xs : List SV) (S1 : Sto) : kSq mk (.ok xs S1) = seqR mk (frzs S1 xs) := Eq.trans rfl rfl
@[simp] theorem kSq_ex (mk : List Dv → Dv) (e : Exc) (S : Sto) : kSq mk (.ex e S) = .ex e S := Eq.trans rfl rfl
@[simp] theorem kSq_bad (mk : List Dv → Dv) : kSq mk .bad = .bad := Eq.trans rfl rfl
@[simp] theorem eSeq_ap (mk : List Dv → Dv) (fa : Fr → Sto → Res (List SV)) (F : Fr) (S : Sto) : eSeq mk fa F S = kSq mk (fa F S) := Eq.trans rfl rfl
def kLM  (r : Res (List SV)) : Res SV := r.bind fun xs S1 => if xs.length ≤ most then .ok (.m S1.length) (S1 ++ [.lst xs]) else .bad
@[simp] theorem kLM_ok  (xs : (List SV)) (S1 : Sto) : kLM  (.ok xs S1) = if xs.length ≤ most then .ok (.m S1.length) (S1 ++ [.lst xs]) else .bad := Eq.trans rfl rfl
@[simp] theorem kLM_ex  (e : Exc) (S : Sto) : kLM  (.ex e S) = .ex e S := Eq.trans rfl rfl
@[simp] theorem kLM_bad  : kLM  .bad = .bad := Eq.trans rfl rfl
@[simp] theorem eLstM_ap (fa : Fr → Sto → Res (List SV)) (F : Fr) (S : Sto) : eLstM fa F S = kLM (fa F S) := Eq.trans rfl rfl
def kO2 (o : Sto → SV → SV → Option Dv) (x : SV) (r : Res SV) : Res SV := r.bind fun y S2 => optD (o S2 x y) S2
@[simp] theorem kO2_ok (o : Sto → SV → SV → Option Dv) (x : SV) (y : SV) (S2 : Sto) : kO2 o x (.ok y S2) = optD (o S2 x y) S2 := Eq.trans rfl rfl
@[simp] theorem kO2_ex (o : Sto → SV → SV → Option Dv) (x : SV) (e : Exc) (S : Sto) : kO2 o x (.ex e S) = .ex e S := Eq.trans rfl rfl
@[simp] theorem kO2_bad (o : Sto → SV → SV → Option Dv) (x : SV) : kO2 o x .bad = .bad := Eq.trans rfl rfl
def kO1 (o : Sto → SV → SV → Option Dv) (h : Fr → Sto → Res SV) (F : Fr) (r : Res SV) : Res SV := r.bind fun x S1 => kO2 o x (h F S1)
@[simp] theorem kO1_ok (o : Sto → SV → SV → Option Dv) (h : Fr → Sto → Res SV) (F : Fr) (x : SV) (S1 : Sto) : kO1 o h F (.ok x S1) = kO2 o x (h F S1) := Eq.trans rfl rfl
@[simp] theorem kO1_ex (o : Sto → SV → SV → Option Dv) (h : Fr → Sto → Res SV) (F : Fr) (e : Exc) (S : Sto) : kO1 o h F (.ex e S) = .ex e S := Eq.trans rfl rfl
@[simp] theorem kO1_bad (o : Sto → SV → SV → Option Dv) (h : Fr → Sto → Res SV) (F : Fr) : kO1 o h F .bad = .bad := Eq.trans rfl rfl
@[simp] theorem eOp_ap (o : Sto → SV → SV → Option Dv) (f : Fr → Sto → Res SV) (h : Fr → Sto → Res SV) (F : Fr) (S : Sto) : eOp o f h F S = kO1 o h F (f F S) := by
  show (f F S).bind _ = (f F S).bind _
  congr 1
  funext x S1
  show (h F S1).bind _ = (h F S1).bind _
  congr 1
  funext y S2
  cases o S2 x y <;> rfl
def kP2 (o : Sto → SV → SV → Option SV) (x : SV) (r : Res SV) : Res SV := r.bind fun y S2 => optS (o S2 x y) S2
@[simp] theorem kP2_ok (o : Sto → SV → SV → Option SV) (x : SV) (y : SV) (S2 : Sto) : kP2 o x (.ok y S2) = optS (o S2 x y) S2 := Eq.trans rfl rfl
@[simp] theorem kP2_ex (o : Sto → SV → SV → Option SV) (x : SV) (e : Exc) (S : Sto) : kP2 o x (.ex e S) = .ex e S := Eq.trans rfl rfl
@[simp] theorem kP2_bad (o : Sto → SV → SV → Option SV) (x : SV) : kP2 o x .bad = .bad := Eq.trans rfl rfl
def kP1 (o : Sto → SV → SV → Option SV) (h : Fr → Sto → Res SV) (F : Fr) (r : Res SV) : Res SV := r.bind fun x S1 => kP2 o x (h F S1)
@[simp] theorem kP1_ok (o : Sto → SV → SV → Option SV) (h : Fr → Sto → Res SV) (F : Fr) (x : SV) (S1 : Sto) : kP1 o h F (.ok x S1) = kP2 o x (h F S1) := Eq.trans rfl rfl
@[simp] theorem kP1_ex (o : Sto → SV → SV → Option SV) (h : Fr → Sto → Res SV) (F : Fr) (e : Exc) (S : Sto) : kP1 o h F (.ex e S) = .ex e S := Eq.trans rfl rfl
@[simp] theorem kP1_bad (o : Sto → SV → SV → Option SV) (h : Fr → Sto → Res SV) (F : Fr) : kP1 o h F .bad = .bad := Eq.trans rfl rfl
@[simp] theorem eOpS_ap (o : Sto → SV → SV → Option SV) (f : Fr → Sto → Res SV) (h : Fr → Sto → Res SV) (F : Fr) (S : Sto) : eOpS o f h F S = kP1 o h F (f F S) := by
  show (f F S).bind _ = (f F S).bind _
  congr 1
  funext x S1
  show (h F S1).bind _ = (h F S1).bind _
  congr 1
  funext y S2
  cases o S2 x y <;> rfl
def blR : SV → Sto → Res Bool
  | .d (.bl b), S => .ok b S
  | _, _ => .bad
@[simp] theorem blR_b (b : Bool) (S : Sto) : blR (.d (.bl b)) S = .ok b S := Eq.trans rfl rfl
def kV  (r : Res SV) : Res Bool := r.bind fun x S1 => blR x S1
@[simp] theorem kV_ok  (x : SV) (S1 : Sto) : kV  (.ok x S1) = blR x S1 := Eq.trans rfl rfl
@[simp] theorem kV_ex  (e : Exc) (S : Sto) : kV  (.ex e S) = .ex e S := Eq.trans rfl rfl
@[simp] theorem kV_bad  : kV  .bad = .bad := Eq.trans rfl rfl
@[simp] theorem tV_ap (f : Fr → Sto → Res SV) (F : Fr) (S : Sto) : tV f F S = kV (f F S) := by
  show (f F S).bind _ = (f F S).bind _
  congr 1
  funext x S1
  rcases x with x | x
  · cases x <;> rfl
  · rfl
def kAn (u : Fr → Sto → Res Bool) (F : Fr) (r : Res Bool) : Res Bool := r.bind fun c S1 => if c = true then u F S1 else .ok false S1
@[simp] theorem kAn_ok (u : Fr → Sto → Res Bool) (F : Fr) (c : Bool) (S1 : Sto) : kAn u F (.ok c S1) = if c = true then u F S1 else .ok false S1 := Eq.trans rfl rfl
@[simp] theorem kAn_ex (u : Fr → Sto → Res Bool) (F : Fr) (e : Exc) (S : Sto) : kAn u F (.ex e S) = .ex e S := Eq.trans rfl rfl
@[simp] theorem kAn_bad (u : Fr → Sto → Res Bool) (F : Fr) : kAn u F .bad = .bad := Eq.trans rfl rfl
@[simp] theorem tAn_ap (t : Fr → Sto → Res Bool) (u : Fr → Sto → Res Bool) (F : Fr) (S : Sto) : tAn t u F S = kAn u F (t F S) := Eq.trans rfl rfl
def kOr (u : Fr → Sto → Res Bool) (F : Fr) (r : Res Bool) : Res Bool := r.bind fun c S1 => if c = true then .ok true S1 else u F S1
@[simp] theorem kOr_ok (u : Fr → Sto → Res Bool) (F : Fr) (c : Bool) (S1 : Sto) : kOr u F (.ok c S1) = if c = true then .ok true S1 else u F S1 := Eq.trans rfl rfl
@[simp] theorem kOr_ex (u : Fr → Sto → Res Bool) (F : Fr) (e : Exc) (S : Sto) : kOr u F (.ex e S) = .ex e S := Eq.trans rfl rfl
@[simp] theorem kOr_bad (u : Fr → Sto → Res Bool) (F : Fr) : kOr u F .bad = .bad := Eq.trans rfl rfl
@[simp] theorem tOrr_ap (t : Fr → Sto → Res Bool) (u : Fr → Sto → Res Bool) (F : Fr) (S : Sto) : tOrr t u F S = kOr u F (t F S) := Eq.trans rfl rfl
def kNo  (r : Res Bool) : Res Bool := r.bind fun c S1 => .ok (!c) S1
@[simp] theorem kNo_ok  (c : Bool) (S1 : Sto) : kNo  (.ok c S1) = .ok (!c) S1 := Eq.trans rfl rfl
@[simp] theorem kNo_ex  (e : Exc) (S : Sto) : kNo  (.ex e S) = .ex e S := Eq.trans rfl rfl
@[simp] theorem kNo_bad  : kNo  .bad = .bad := Eq.trans rfl rfl
@[simp] theorem tNo_ap (t : Fr → Sto → Res Bool) (F : Fr) (S : Sto) : tNo t F S = kNo (t F S) := Eq.trans rfl rfl
def anR (g : Fr → Sto → Res SV) (F : Fr) : SV → Sto → Res SV
  | .d (.bl true), S => g F S
  | .d (.bl false), S => .ok (.d (.bl false)) S
  | _, _ => .bad
@[simp] theorem anR_b (g : Fr → Sto → Res SV) (F : Fr) (b : Bool) (S : Sto) : anR g F (.d (.bl b)) S = if b = true then g F S else .ok (.d (.bl false)) S := by cases b <;> rfl
def orR (g : Fr → Sto → Res SV) (F : Fr) : SV → Sto → Res SV
  | .d (.bl true), S => .ok (.d (.bl true)) S
  | .d (.bl false), S => g F S
  | _, _ => .bad
@[simp] theorem orR_b (g : Fr → Sto → Res SV) (F : Fr) (b : Bool) (S : Sto) : orR g F (.d (.bl b)) S = if b = true then .ok (.d (.bl true)) S else g F S := by cases b <;> rfl
def noR : SV → Sto → Res SV
  | .d (.bl b), S => .ok (.d (.bl (!b))) S
  | _, _ => .bad
@[simp] theorem noR_b (b : Bool) (S : Sto) : noR (.d (.bl b)) S = .ok (.d (.bl (!b))) S := Eq.trans rfl rfl
def kEan (g : Fr → Sto → Res SV) (F : Fr) (r : Res SV) : Res SV := r.bind (anR g F)
@[simp] theorem kEan_ok (g : Fr → Sto → Res SV) (F : Fr) (x : SV) (S : Sto) : kEan g F (.ok x S) = anR g F x S := Eq.trans rfl rfl
@[simp] theorem kEan_ex (g : Fr → Sto → Res SV) (F : Fr) (e : Exc) (S : Sto) : kEan g F (.ex e S) = .ex e S := Eq.trans rfl rfl
@[simp] theorem kEan_bad (g : Fr → Sto → Res SV) (F : Fr) : kEan g F .bad = .bad := Eq.trans rfl rfl
def kEor (g : Fr → Sto → Res SV) (F : Fr) (r : Res SV) : Res SV := r.bind (orR g F)
@[simp] theorem kEor_ok (g : Fr → Sto → Res SV) (F : Fr) (x : SV) (S : Sto) : kEor g F (.ok x S) = orR g F x S := Eq.trans rfl rfl
@[simp] theorem kEor_ex (g : Fr → Sto → Res SV) (F : Fr) (e : Exc) (S : Sto) : kEor g F (.ex e S) = .ex e S := Eq.trans rfl rfl
@[simp] theorem kEor_bad (g : Fr → Sto → Res SV) (F : Fr) : kEor g F .bad = .bad := Eq.trans rfl rfl
def kEno  (r : Res SV) : Res SV := r.bind (noR)
@[simp] theorem kEno_ok  (x : SV) (S : Sto) : kEno  (.ok x S) = noR x S := Eq.trans rfl rfl
@[simp] theorem kEno_ex  (e : Exc) (S : Sto) : kEno  (.ex e S) = .ex e S := Eq.trans rfl rfl
@[simp] theorem kEno_bad  : kEno  .bad = .bad := Eq.trans rfl rfl
@[simp] theorem eAn_ap (f : Fr → Sto → Res SV) (g : Fr → Sto → Res SV) (F : Fr) (S : Sto) : eAn f g F S = kEan g F (f F S) := by
  show (f F S).bind _ = (f F S).bind _
  congr 1
  funext x S1
  rcases x with x | x
  · cases x <;> first | rfl | (rename_i b; cases b <;> rfl)
  · rfl
@[simp] theorem eOr_ap (f : Fr → Sto → Res SV) (g : Fr → Sto → Res SV) (F : Fr) (S : Sto) : eOr f g F S = kEor g F (f F S) := by
  show (f F S).bind _ = (f F S).bind _
  congr 1
  funext x S1
  rcases x with x | x
  · cases x <;> first | rfl | (rename_i b; cases b <;> rfl)
  · rfl
@[simp] theorem eNo_ap (f : Fr → Sto → Res SV) (F : Fr) (S : Sto) : eNo f F S = kEno (f F S) := by
  show (f F S).bind _ = (f F S).bind _
  congr 1
  funext x S1
  rcases x with x | x
  · cases x <;> first | rfl | (rename_i b; cases b <;> rfl)
  · rfl
def kEif (f : Fr → Sto → Res SV) (g : Fr → Sto → Res SV) (F : Fr) (r : Res Bool) : Res SV := r.bind fun c S1 => if c = true then f F S1 else g F S1
@[simp] theorem kEif_ok (f : Fr → Sto → Res SV) (g : Fr → Sto → Res SV) (F : Fr) (c : Bool) (S1 : Sto) : kEif f g F (.ok c S1) = if c = true then f F S1 else g F S1 := Eq.trans rfl rfl
@[simp] theorem kEif_ex (f : Fr → Sto → Res SV) (g : Fr → Sto → Res SV) (F : Fr) (e : Exc) (S : Sto) : kEif f g F (.ex e S) = .ex e S := Eq.trans rfl rfl
@[simp] theorem kEif_bad (f : Fr → Sto → Res SV) (g : Fr → Sto → Res SV) (F : Fr) : kEif f g F .bad = .bad := Eq.trans rfl rfl
@[simp] theorem eIf_ap (t : Fr → Sto → Res Bool) (f : Fr → Sto → Res SV) (g : Fr → Sto → Res SV) (F : Fr) (S : Sto) : eIf t f g F S = kEif f g F (t F S) := Eq.trans rfl rfl
def kBi (o : Sto → List SV → Option Dv) (r : Res (List SV)) : Res SV := r.bind fun xs S1 => optD (o S1 xs) S1
@[simp] theorem kBi_ok (o : Sto → List SV → Option Dv) (xs : (List SV)) (S1 : Sto) : kBi o (.ok xs S1) = optD (o S1 xs) S1 := Eq.trans rfl rfl
@[simp] theorem kBi_ex (o : Sto → List SV → Option Dv) (e : Exc) (S : Sto) : kBi o (.ex e S) = .ex e S := Eq.trans rfl rfl
@[simp] theorem kBi_bad (o : Sto → List SV → Option Dv) : kBi o .bad = .bad := Eq.trans rfl rfl
@[simp] theorem eBi_ap (o : Sto → List SV → Option Dv) (fa : Fr → Sto → Res (List SV)) (F : Fr) (S : Sto) : eBi o fa F S = kBi o (fa F S) := by
  show (fa F S).bind _ = (fa F S).bind _
  congr 1
  funext xs S1
  cases o S1 xs <;> rfl
def isiR (ans : Ty → Option Bool) : Option Ty → Sto → Res SV
  | some t, S => optD ((ans t).map .bl) S
  | none, _ => .bad
@[simp] theorem isiR_s (ans : Ty → Option Bool) (t : Ty) (S : Sto) : isiR ans (some t) S = optD ((ans t).map .bl) S := Eq.trans rfl rfl
def kIsi (ans : Ty → Option Bool) (r : Res SV) : Res SV := r.bind fun x S1 => isiR ans (tyS S1 x) S1
@[simp] theorem kIsi_ok (ans : Ty → Option Bool) (x : SV) (S1 : Sto) : kIsi ans (.ok x S1) = isiR ans (tyS S1 x) S1 := Eq.trans rfl rfl
@[simp] theorem kIsi_ex (ans : Ty → Option Bool) (e : Exc) (S : Sto) : kIsi ans (.ex e S) = .ex e S := Eq.trans rfl rfl
@[simp] theorem kIsi_bad (ans : Ty → Option Bool) : kIsi ans .bad = .bad := Eq.trans rfl rfl
@[simp] theorem eIsi_ap (ans : Ty → Option Bool) (f : Fr → Sto → Res SV) (F : Fr) (S : Sto) : eIsi ans f F S = kIsi ans (f F S) := by
  show (f F S).bind _ = (f F S).bind _
  congr 1
  funext x S1
  cases h : tyS S1 x with
  | none => simp only [isiR, h]
  | some t => simp only [isiR, h]; cases ans t <;> rfl
def fldR (cs : List Nat) (nm : Str) : Option (Nat × List Str × List SV) → Sto → Res SV
  | some (c, fs, xs), S => if cs.contains c = true then optS (lookF nm fs xs) S else .bad
  | none, _ => .bad
@[simp] theorem fldR_s (cs : List Nat) (nm : Str) (c : Nat) (fs : List Str) (xs : List SV) (S : Sto) : fldR cs nm (some (c, fs, xs)) S = if cs.contains c = true then optS (lookF nm fs xs) S else .bad := Eq.trans rfl rfl
def kFld (cs : List Nat) (nm : Str) (r : Res SV) : Res SV := r.bind fun x S1 => fldR cs nm (instOf S1 x) S1
@[simp] theorem kFld_ok (cs : List Nat) (nm : Str) (x : SV) (S1 : Sto) : kFld cs nm (.ok x S1) = fldR cs nm (instOf S1 x) S1 := Eq.trans rfl rfl
@[simp] theorem kFld_ex (cs : List Nat) (nm : Str) (e : Exc) (S : Sto) : kFld cs nm (.ex e S) = .ex e S := Eq.trans rfl rfl
@[simp] theorem kFld_bad (cs : List Nat) (nm : Str) : kFld cs nm .bad = .bad := Eq.trans rfl rfl
@[simp] theorem eFld_ap (cs : List Nat) (nm : Str) (f : Fr → Sto → Res SV) (F : Fr) (S : Sto) : eFld cs nm f F S = kFld cs nm (f F S) := by
  show (f F S).bind _ = (f F S).bind _
  congr 1
  funext x S1
  cases h : instOf S1 x with
  | none => simp only [fldR, h]
  | some t =>
    obtain ⟨c, fs, xs⟩ := t
    simp only [fldR, h]
    cases lookF nm fs xs <;> rfl
def kC (gg : Nat → List SV → Sto → Res SV) (r : Res (List SV)) : Res SV := r.bind fun as S1 => fin S1.length (gg S1.length as S1)
@[simp] theorem kC_ok (gg : Nat → List SV → Sto → Res SV) (as : (List SV)) (S1 : Sto) : kC gg (.ok as S1) = fin S1.length (gg S1.length as S1) := Eq.trans rfl rfl
@[simp] theorem kC_ex (gg : Nat → List SV → Sto → Res SV) (e : Exc) (S : Sto) : kC gg (.ex e S) = .ex e S := Eq.trans rfl rfl
@[simp] theorem kC_bad (gg : Nat → List SV → Sto → Res SV) : kC gg .bad = .bad := Eq.trans rfl rfl
@[simp] theorem eCall_ap (gg : Nat → List SV → Sto → Res SV) (fa : Fr → Sto → Res (List SV)) (F : Fr) (S : Sto) : eCall gg fa F S = kC gg (fa F S) := Eq.trans rfl rfl
def kCK (gg : Nat → List SV → Sto → Res SV) (r : Res (List SV)) : Res SV := r.bind fun as S1 => finK S1.length (gg S1.length as S1)
@[simp] theorem kCK_ok (gg : Nat → List SV → Sto → Res SV) (as : (List SV)) (S1 : Sto) : kCK gg (.ok as S1) = finK S1.length (gg S1.length as S1) := Eq.trans rfl rfl
@[simp] theorem kCK_ex (gg : Nat → List SV → Sto → Res SV) (e : Exc) (S : Sto) : kCK gg (.ex e S) = .ex e S := Eq.trans rfl rfl
@[simp] theorem kCK_bad (gg : Nat → List SV → Sto → Res SV) : kCK gg .bad = .bad := Eq.trans rfl rfl
@[simp] theorem eCallK_ap (gg : Nat → List SV → Sto → Res SV) (fa : Fr → Sto → Res (List SV)) (F : Fr) (S : Sto) : eCallK gg fa F S = kCK gg (fa F S) := Eq.trans rfl rfl
def kM2 (gg : Nat → List SV → Sto → Res SV) (x : SV) (r : Res (List SV)) : Res SV := r.bind fun as S2 => fin S2.length (gg S2.length (x :: as) S2)
@[simp] theorem kM2_ok (gg : Nat → List SV → Sto → Res SV) (x : SV) (as : (List SV)) (S2 : Sto) : kM2 gg x (.ok as S2) = fin S2.length (gg S2.length (x :: as) S2) := Eq.trans rfl rfl
@[simp] theorem kM2_ex (gg : Nat → List SV → Sto → Res SV) (x : SV) (e : Exc) (S : Sto) : kM2 gg x (.ex e S) = .ex e S := Eq.trans rfl rfl
@[simp] theorem kM2_bad (gg : Nat → List SV → Sto → Res SV) (x : SV) : kM2 gg x .bad = .bad := Eq.trans rfl rfl
def meR (c : Nat) (m : Str) (gg : Nat → List SV → Sto → Res SV) (fa : Fr → Sto → Res (List SV)) (F : Fr) (x : SV) : Option (Nat × List Str × List SV) → Sto → Res SV
  | some (c', fs, xs), S => if c' = c ∧ (lookF m fs xs).isNone = true then kM2 gg x (fa F S) else .bad
  | none, _ => .bad
@[simp] theorem meR_s (c : Nat) (m : Str) (gg : Nat → List SV → Sto → Res SV) (fa : Fr → Sto → Res (List SV)) (F : Fr) (x : SV) (c' : Nat) (fs : List Str) (xs : List SV) (S : Sto) : meR c m gg fa F x (some (c', fs, xs)) S = if c' = c ∧ (lookF m fs xs).isNone = true then kM2 gg x (fa F S) else .bad := Eq.trans rfl rfl
def kM1 (c : Nat) (m : Str) (gg : Nat → List SV → Sto → Res SV) (fa : Fr → Sto → Res (List SV)) (F : Fr) (r : Res SV) : Res SV := r.bind fun x S1 => meR c m gg fa F x (instOf S1 x) S1
@[simp] theorem kM1_ok (c : Nat) (m : Str) (gg : Nat → List SV → Sto → Res SV) (fa : Fr → Sto → Res (List SV)) (F : Fr) (x : SV) (S1 : Sto) : kM1 c m gg fa F (.ok x S1) = meR c m gg fa F x (instOf S1 x) S1 := Eq.trans rfl rfl
@[simp] theorem kM1_ex (c : Nat) (m : Str) (gg : Nat → List SV → Sto → Res SV) (fa : Fr → Sto → Res (List SV)) (F : Fr) (e : Exc) (S : Sto) : kM1 c m gg fa F (.ex e S) = .ex e S := Eq.trans rfl rfl
@[simp] theorem kM1_bad (c : Nat) (m : Str) (gg : Nat → List SV → Sto → Res SV) (fa : Fr → Sto → Res (List SV)) (F : Fr) : kM1 c m gg fa F .bad = .bad := Eq.trans rfl rfl
@[simp] theorem eMeth_ap (c : Nat) (m : Str) (gg : Nat → List SV → Sto → Res SV) (f : Fr → Sto → Res SV) (fa : Fr → Sto → Res (List SV)) (F : Fr) (S : Sto) : eMeth c m gg f fa F S = kM1 c m gg fa F (f F S) := by
  show (f F S).bind _ = (f F S).bind _
  congr 1
  funext x S1
  cases h : instOf S1 x with
  | none => simp only [meR, h]
  | some t => simp only [meR, h, kM2]
def kMk (c : Nat) (gg : Nat → List SV → Sto → Res SV) (r : Res (List SV)) : Res SV := r.bind fun as S1 => fin S1.length (mkd S1.length (gg S1.length (.m S1.length :: as) (S1 ++ [.ins c [] []])))
@[simp] theorem kMk_ok (c : Nat) (gg : Nat → List SV → Sto → Res SV) (as : (List SV)) (S1 : Sto) : kMk c gg (.ok as S1) = fin S1.length (mkd S1.length (gg S1.length (.m S1.length :: as) (S1 ++ [.ins c [] []]))) := Eq.trans rfl rfl
@[simp] theorem kMk_ex (c : Nat) (gg : Nat → List SV → Sto → Res SV) (e : Exc) (S : Sto) : kMk c gg (.ex e S) = .ex e S := Eq.trans rfl rfl
@[simp] theorem kMk_bad (c : Nat) (gg : Nat → List SV → Sto → Res SV) : kMk c gg .bad = .bad := Eq.trans rfl rfl
@[simp] theorem eMake_ap (c : Nat) (gg : Nat → List SV → Sto → Res SV) (fa : Fr → Sto → Res (List SV)) (F : Fr) (S : Sto) : eMake c gg fa F S = kMk c gg (fa F S) := Eq.trans rfl rfl
def kMkK (c : Nat) (gg : Nat → List SV → Sto → Res SV) (r : Res (List SV)) : Res SV := r.bind fun as S1 => finK S1.length (mkd S1.length (gg S1.length (.m S1.length :: as) (S1 ++ [.ins c [] []])))
@[simp] theorem kMkK_ok (c : Nat) (gg : Nat → List SV → Sto → Res SV) (as : (List SV)) (S1 : Sto) : kMkK c gg (.ok as S1) = finK S1.length (mkd S1.length (gg S1.length (.m S1.length :: as) (S1 ++ [.ins c [] []]))) := Eq.trans rfl rfl
@[simp] theorem kMkK_ex (c : Nat) (gg : Nat → List SV → Sto → Res SV) (e : Exc) (S : Sto) : kMkK c gg (.ex e S) = .ex e S := Eq.trans rfl rfl
@[simp] theorem kMkK_bad (c : Nat) (gg : Nat → List SV → Sto → Res SV) : kMkK c gg .bad = .bad := Eq.trans rfl rfl
@[simp] theorem eMakeK_ap (c : Nat) (gg : Nat → List SV → Sto → Res SV) (fa : Fr → Sto → Res (List SV)) (F : Fr) (S : Sto) : eMakeK c gg fa F S = kMkK c gg (fa F S) := Eq.trans rfl rfl
def owR (o : Sto → SV → SV → Option Dv) (c : Nat) (gg : Nat → List SV → Sto → Res SV) (x y : SV) (S : Sto) : Option (Nat × List Str × List SV) → Option (Nat × List Str × List SV) → Res SV
  | some (c1, _, _), some (c2, _, _) => if c1 = c ∧ c2 = c then fin S.length (gg S.length [x, y] S) else .bad
  | _, _ => optD (o S x y) S
@[simp] theorem owR_ss (o : Sto → SV → SV → Option Dv) (c : Nat) (gg : Nat → List SV → Sto → Res SV) (x y : SV) (S : Sto) (c1 c2 : Nat) (a b : List Str × List SV) : owR o c gg x y S (some (c1, a)) (some (c2, b)) = if c1 = c ∧ c2 = c then fin S.length (gg S.length [x, y] S) else .bad := Eq.trans rfl rfl
@[simp] theorem owR_n (o : Sto → SV → SV → Option Dv) (c : Nat) (gg : Nat → List SV → Sto → Res SV) (x y : SV) (S : Sto) (z : Option (Nat × List Str × List SV)) : owR o c gg x y S none z = optD (o S x y) S := Eq.trans rfl rfl
def kW2 (o : Sto → SV → SV → Option Dv) (c : Nat) (gg : Nat → List SV → Sto → Res SV) (x : SV) (r : Res SV) : Res SV := r.bind fun y S2 => owR o c gg x y S2 (instOf S2 x) (instOf S2 y)
@[simp] theorem kW2_ok (o : Sto → SV → SV → Option Dv) (c : Nat) (gg : Nat → List SV → Sto → Res SV) (x : SV) (y : SV) (S2 : Sto) : kW2 o c gg x (.ok y S2) = owR o c gg x y S2 (instOf S2 x) (instOf S2 y) := Eq.trans rfl rfl
@[simp] theorem kW2_ex (o : Sto → SV → SV → Option Dv) (c : Nat) (gg : Nat → List SV → Sto → Res SV) (x : SV) (e : Exc) (S : Sto) : kW2 o c gg x (.ex e S) = .ex e S := Eq.trans rfl rfl
@[simp] theorem kW2_bad (o : Sto → SV → SV → Option Dv) (c : Nat) (gg : Nat → List SV → Sto → Res SV) (x : SV) : kW2 o c gg x .bad = .bad := Eq.trans rfl rfl
def kW1 (o : Sto → SV → SV → Option Dv) (c : Nat) (gg : Nat → List SV → Sto → Res SV) (g : Fr → Sto → Res SV) (F : Fr) (r : Res SV) : Res SV := r.bind fun x S1 => kW2 o c gg x (g F S1)
@[simp] theorem kW1_ok (o : Sto → SV → SV → Option Dv) (c : Nat) (gg : Nat → List SV → Sto → Res SV) (g : Fr → Sto → Res SV) (F : Fr) (x : SV) (S1 : Sto) : kW1 o c gg g F (.ok x S1) = kW2 o c gg x (g F S1) := Eq.trans rfl rfl
@[simp] theorem kW1_ex (o : Sto → SV → SV → Option Dv) (c : Nat) (gg : Nat → List SV → Sto → Res SV) (g : Fr → Sto → Res SV) (F : Fr) (e : Exc) (S : Sto) : kW1 o c gg g F (.ex e S) = .ex e S := Eq.trans rfl rfl
@[simp] theorem kW1_bad (o : Sto → SV → SV → Option Dv) (c : Nat) (gg : Nat → List SV → Sto → Res SV) (g : Fr → Sto → Res SV) (F : Fr) : kW1 o c gg g F .bad = .bad := Eq.trans rfl rfl
@[simp] theorem eOwn_ap (o : Sto → SV → SV → Option Dv) (c : Nat) (gg : Nat → List SV → Sto → Res SV) (f : Fr → Sto → Res SV) (g : Fr → Sto → Res SV) (F : Fr) (S : Sto) : eOwn o c gg f g F S = kW1 o c gg g F (f F S) := by
  show (f F S).bind _ = (f F S).bind _
  congr 1
  funext x S1
  show (g F S1).bind _ = (g F S1).bind _
  congr 1
  funext y S2
  cases h : instOf S2 x with
  | none => cases instOf S2 y <;> (simp only [owR]; cases o S2 x y <;> rfl)
  | some p =>
    obtain ⟨c1, a, b⟩ := p
    cases h2 : instOf S2 y with
    | none => simp only [owR]; cases o S2 x y <;> rfl
    | some q => rfl
def kU2 (m : Nat → Sto → SV → List SV → Option (SV × Sto)) (b : Nat) (x : SV) (r : Res (List SV)) : Res SV := r.bind fun as S2 => optM (m b S2 x as)
@[simp] theorem kU2_ok (m : Nat → Sto → SV → List SV → Option (SV × Sto)) (b : Nat) (x : SV) (as : List SV) (S2 : Sto) : kU2 m b x (.ok as S2) = optM (m b S2 x as) := Eq.trans rfl rfl
@[simp] theorem kU2_ex (m : Nat → Sto → SV → List SV → Option (SV × Sto)) (b : Nat) (x : SV) (e : Exc) (S2 : Sto) : kU2 m b x (.ex e S2) = .ex e S2 := Eq.trans rfl rfl
def kU1 (m : Nat → Sto → SV → List SV → Option (SV × Sto)) (fa : Fr → Sto → Res (List SV)) (F : Fr) (r : Res SV) : Res SV := r.bind fun x S1 => if isL S1 x = true then kU2 m F.b x (fa F S1) else .bad
@[simp] theorem kU1_ok (m : Nat → Sto → SV → List SV → Option (SV × Sto)) (fa : Fr → Sto → Res (List SV)) (F : Fr) (x : SV) (S1 : Sto) : kU1 m fa F (.ok x S1) = if isL S1 x = true then kU2 m F.b x (fa F S1) else .bad := Eq.trans rfl rfl
@[simp] theorem kU1_ex (m : Nat → Sto → SV → List SV → Option (SV × Sto)) (fa : Fr → Sto → Res (List SV)) (F : Fr) (e : Exc) (S : Sto) : kU1 m fa F (.ex e S) = .ex e S := Eq.trans rfl rfl
@[simp] theorem kU1_bad (m : Nat → Sto → SV → List SV → Option (SV × Sto)) (fa : Fr → Sto → Res (List SV)) (F : Fr) : kU1 m fa F .bad = .bad := Eq.trans rfl rfl
@[simp] theorem eMut_ap (m : Nat → Sto → SV → List SV → Option (SV × Sto)) (f : Fr → Sto → Res SV) (fa : Fr → Sto → Res (List SV)) (F : Fr) (S : Sto) : eMut m f fa F S = kU1 m fa F (f F S) := Eq.trans rfl rfl
def kSeq (s' : Fr → Sto → SRes) (b : Nat) (r : SRes) : SRes := match r with
  | .nx v S => s' ⟨b, v⟩ S
  | r => r
@[simp] theorem kSeq_nx (s' : Fr → Sto → SRes) (b : Nat) (v : Env) (S : Sto) : kSeq s' b (.nx v S) = s' ⟨b, v⟩ S := Eq.trans rfl rfl
@[simp] theorem kSeq_bk (s' : Fr → Sto → SRes) (b : Nat) (v : Env) (S : Sto) : kSeq s' b (.bk v S) = .bk v S := Eq.trans rfl rfl
@[simp] theorem kSeq_ct (s' : Fr → Sto → SRes) (b : Nat) (v : Env) (S : Sto) : kSeq s' b (.ct v S) = .ct v S := Eq.trans rfl rfl
@[simp] theorem kSeq_rt (s' : Fr → Sto → SRes) (b : Nat) (v : SV) (S : Sto) : kSeq s' b (.rt v S) = .rt v S := Eq.trans rfl rfl
@[simp] theorem kSeq_ex (s' : Fr → Sto → SRes) (b : Nat) (e : Exc) (v : Env) (S : Sto) : kSeq s' b (.ex e v S) = .ex e v S := Eq.trans rfl rfl
@[simp] theorem kSeq_bad (s' : Fr → Sto → SRes) (b : Nat) : kSeq s' b .bad = .bad := Eq.trans rfl rfl
@[simp] theorem sSeq_ap (s : Fr → Sto → SRes) (s' : Fr → Sto → SRes) (F : Fr) (S : Sto) : sSeq s s' F S = kSeq s' F.b (s F S) := by
  unfold sSeq kSeq
  cases s F S <;> rfl
@[simp] theorem sNil_ap  (F : Fr) (S : Sto) : sNil F S = .nx F.v S := Eq.trans rfl rfl
@[simp] theorem sPass_ap  (F : Fr) (S : Sto) : sPass F S = .nx F.v S := Eq.trans rfl rfl
@[simp] theorem sBrk_ap  (F : Fr) (S : Sto) : sBrk F S = .bk F.v S := Eq.trans rfl rfl
@[simp] theorem sCont_ap  (F : Fr) (S : Sto) : sCont F S = .ct F.v S := Eq.trans rfl rfl
@[simp] theorem sRetN_ap  (F : Fr) (S : Sto) : sRetN F S = .rt (.d .non) S := Eq.trans rfl rfl
def kSet (i : Nat) (F : Fr) (r : Res SV) : SRes := r.st F fun x S1 => .nx (F.put i x) S1
@[simp] theorem kSet_ok (i : Nat) (F : Fr) (x : SV) (S1 : Sto) : kSet i F (.ok x S1) = .nx (F.put i x) S1 := Eq.trans rfl rfl
@[simp] theorem kSet_ex (i : Nat) (F : Fr) (e : Exc) (S : Sto) : kSet i F (.ex e S) = .ex e F.v S := Eq.trans rfl rfl
@[simp] theorem kSet_bad (i : Nat) (F : Fr) : kSet i F .bad = .bad := Eq.trans rfl rfl
@[simp] theorem sSet_ap (i : Nat) (f : Fr → Sto → Res SV) (F : Fr) (S : Sto) : sSet i f F S = kSet i F (f F S) := Eq.trans rfl rfl
@[simp] theorem put_ap (i : Nat) (x : SV) (b : Nat) (v : Env) : (Fr.mk b v).put i x = v.set i (some x) := Eq.trans rfl rfl
def kEx (F : Fr) (r : Res SV) : SRes := r.st F fun x S1 => .nx F.v S1
@[simp] theorem kEx_ok (F : Fr) (x : SV) (S1 : Sto) : kEx F (.ok x S1) = .nx F.v S1 := Eq.trans rfl rfl
@[simp] theorem kEx_ex (F : Fr) (e : Exc) (S : Sto) : kEx F (.ex e S) = .ex e F.v S := Eq.trans rfl rfl
@[simp] theorem kEx_bad (F : Fr) : kEx F .bad = .bad := Eq.trans rfl rfl
@[simp] theorem sExpr_ap (f : Fr → Sto → Res SV) (F : Fr) (S : Sto) : sExpr f F S = kEx F (f F S) := Eq.trans rfl rfl
def kRt (F : Fr) (r : Res SV) : SRes := r.st F fun x S1 => .rt x S1
@[simp] theorem kRt_ok (F : Fr) (x : SV) (S1 : Sto) : kRt F (.ok x S1) = .rt x S1 := Eq.trans rfl rfl
@[simp] theorem kRt_ex (F : Fr) (e : Exc) (S : Sto) : kRt F (.ex e S) = .ex e F.v S := Eq.trans rfl rfl
@[simp] theorem kRt_bad (F : Fr) : kRt F .bad = .bad := Eq.trans rfl rfl
@[simp] theorem sRet_ap (f : Fr → Sto → Res SV) (F : Fr) (S : Sto) : sRet f F S = kRt F (f F S) := Eq.trans rfl rfl
def kIf (s : Fr → Sto → SRes) (s' : Fr → Sto → SRes) (F : Fr) (r : Res Bool) : SRes := r.st F fun c S1 => if c = true then s F S1 else s' F S1
@[simp] theorem kIf_ok (s : Fr → Sto → SRes) (s' : Fr → Sto → SRes) (F : Fr) (c : Bool) (S1 : Sto) : kIf s s' F (.ok c S1) = if c = true then s F S1 else s' F S1 := Eq.trans rfl rfl
@[simp] theorem kIf_ex (s : Fr → Sto → SRes) (s' : Fr → Sto → SRes) (F : Fr) (e : Exc) (S : Sto) : kIf s s' F (.ex e S) = .ex e F.v S := Eq.trans rfl rfl
@[simp] theorem kIf_bad (s : Fr → Sto → SRes) (s' : Fr → Sto → SRes) (F : Fr) : kIf s s' F .bad = .bad := Eq.trans rfl rfl
@[simp] theorem sIf_ap (t : Fr → Sto → Res Bool) (s : Fr → Sto → SRes) (s' : Fr → Sto → SRes) (F : Fr) (S : Sto) : sIf t s s' F S = kIf s s' F (t F S) := Eq.trans rfl rfl
def kS3 (x o : SV) (F : Fr) (r : Res SV) : SRes := r.st F fun i S3 => optT (putIx F.b S3 o i x) F.v
@[simp] theorem kS3_ok (x o : SV) (F : Fr) (i : SV) (S3 : Sto) : kS3 x o F (.ok i S3) = optT (putIx F.b S3 o i x) F.v := Eq.trans rfl rfl
@[simp] theorem kS3_ex (x o : SV) (F : Fr) (e : Exc) (S : Sto) : kS3 x o F (.ex e S) = .ex e F.v S := Eq.trans rfl rfl
@[simp] theorem kS3_bad (x o : SV) (F : Fr) : kS3 x o F .bad = .bad := Eq.trans rfl rfl
def kS2 (g : Fr → Sto → Res SV) (x : SV) (F : Fr) (r : Res SV) : SRes := r.st F fun o S2 => kS3 x o F (g F S2)
@[simp] theorem kS2_ok (g : Fr → Sto → Res SV) (x : SV) (F : Fr) (o : SV) (S2 : Sto) : kS2 g x F (.ok o S2) = kS3 x o F (g F S2) := Eq.trans rfl rfl
@[simp] theorem kS2_ex (g : Fr → Sto → Res SV) (x : SV) (F : Fr) (e : Exc) (S : Sto) : kS2 g x F (.ex e S) = .ex e F.v S := Eq.trans rfl rfl
@[simp] theorem kS2_bad (g : Fr → Sto → Res SV) (x : SV) (F : Fr) : kS2 g x F .bad = .bad := Eq.trans rfl rfl
def kS1 (f : Fr → Sto → Res SV) (g : Fr → Sto → Res SV) (F : Fr) (r : Res SV) : SRes := r.st F fun x S1 => kS2 g x F (f F S1)
@[simp] theorem kS1_ok (f : Fr → Sto → Res SV) (g : Fr → Sto → Res SV) (F : Fr) (x : SV) (S1 : Sto) : kS1 f g F (.ok x S1) = kS2 g x F (f F S1) := Eq.trans rfl rfl
@[simp] theorem kS1_ex (f : Fr → Sto → Res SV) (g : Fr → Sto → Res SV) (F : Fr) (e : Exc) (S : Sto) : kS1 f g F (.ex e S) = .ex e F.v S := Eq.trans rfl rfl
@[simp] theorem kS1_bad (f : Fr → Sto → Res SV) (g : Fr → Sto → Res SV) (F : Fr) : kS1 f g F .bad = .bad := Eq.trans rfl rfl
@[simp] theorem sSub_ap (f : Fr → Sto → Res SV) (g : Fr → Sto → Res SV) (h : Fr → Sto → Res SV) (F : Fr) (S : Sto) : sSub f g h F S = kS1 f g F (h F S) := by
  show (h F S).st F _ = (h F S).st F _
  congr 1
  funext x S1
  show (f F S1).st F _ = (f F S1).st F _
  congr 1
  funext o S2
  show (g F S2).st F _ = (g F S2).st F _
  congr 1
  funext i S3
  cases putIx F.b S3 o i x <;> rfl
def atR (cs : List Nat) (nm : Str) (F : Fr) (x : SV) (j : Nat) (S2 : Sto) : Option MO → SRes
  | some (.ins c fs xs) => if cs.contains c = true ∧ fs.length < 1000 ∧ okIn F.b j x = true then .nx F.v (S2.set j (.ins c (putX nm x fs xs).1 (putX nm x fs xs).2)) else .bad
  | _ => .bad
@[simp] theorem atR_s (cs : List Nat) (nm : Str) (F : Fr) (x : SV) (j : Nat) (S2 : Sto) (c : Nat) (fs : List Str) (xs : List SV) :
    atR cs nm F x j S2 (some (.ins c fs xs)) = if cs.contains c = true ∧ fs.length < 1000 ∧ okIn F.b j x = true then .nx F.v (S2.set j (.ins c (putX nm x fs xs).1 (putX nm x fs xs).2)) else .bad := rfl
def atQ (cs : List Nat) (nm : Str) (F : Fr) (x : SV) (S2 : Sto) : SV → SRes
  | .m j => atR cs nm F x j S2 S2[j]?
  | _ => .bad
@[simp] theorem atQ_m (cs : List Nat) (nm : Str) (F : Fr) (x : SV) (j : Nat) (S2 : Sto) : atQ cs nm F x S2 (.m j) = atR cs nm F x j S2 S2[j]? := Eq.trans rfl rfl
def kT2 (cs : List Nat) (nm : Str) (x : SV) (F : Fr) (r : Res SV) : SRes := r.st F fun o S2 => atQ cs nm F x S2 o
@[simp] theorem kT2_ok (cs : List Nat) (nm : Str) (x : SV) (F : Fr) (o : SV) (S2 : Sto) : kT2 cs nm x F (.ok o S2) = atQ cs nm F x S2 o := Eq.trans rfl rfl
@[simp] theorem kT2_ex (cs : List Nat) (nm : Str) (x : SV) (F : Fr) (e : Exc) (S : Sto) : kT2 cs nm x F (.ex e S) = .ex e F.v S := Eq.trans rfl rfl
@[simp] theorem kT2_bad (cs : List Nat) (nm : Str) (x : SV) (F : Fr) : kT2 cs nm x F .bad = .bad := Eq.trans rfl rfl
def kT1 (cs : List Nat) (nm : Str) (f : Fr → Sto → Res SV) (F : Fr) (r : Res SV) : SRes := r.st F fun x S1 => kT2 cs nm x F (f F S1)
@[simp] theorem kT1_ok (cs : List Nat) (nm : Str) (f : Fr → Sto → Res SV) (F : Fr) (x : SV) (S1 : Sto) : kT1 cs nm f F (.ok x S1) = kT2 cs nm x F (f F S1) := Eq.trans rfl rfl
@[simp] theorem kT1_ex (cs : List Nat) (nm : Str) (f : Fr → Sto → Res SV) (F : Fr) (e : Exc) (S : Sto) : kT1 cs nm f F (.ex e S) = .ex e F.v S := Eq.trans rfl rfl
@[simp] theorem kT1_bad (cs : List Nat) (nm : Str) (f : Fr → Sto → Res SV) (F : Fr) : kT1 cs nm f F .bad = .bad := Eq.trans rfl rfl
@[simp] theorem sAttr_ap (cs : List Nat) (nm : Str) (f : Fr → Sto → Res SV) (g : Fr → Sto → Res SV) (F : Fr) (S : Sto) : sAttr cs nm f g F S = kT1 cs nm f F (g F S) := by
  show (g F S).st F _ = (g F S).st F _
  congr 1
def gR (i : Nat) (F : Fr) (S : Sto) : Option Dv → SRes
  | some z => .nx (F.put i (.d z)) S
  | none => .bad
@[simp] theorem gR_s (i : Nat) (F : Fr) (S : Sto) (z : Dv) : gR i F S (some z) = .nx (F.put i (.d z)) S := Eq.trans rfl rfl
def kG1 (i : Nat) (o : Sto → SV → SV → Option Dv) (x : SV) (F : Fr) (r : Res SV) : SRes := r.st F fun y S1 => gR i F S1 (o S1 x y)
@[simp] theorem kG1_ok (i : Nat) (o : Sto → SV → SV → Option Dv) (x : SV) (F : Fr) (y : SV) (S1 : Sto) : kG1 i o x F (.ok y S1) = gR i F S1 (o S1 x y) := Eq.trans rfl rfl
@[simp] theorem kG1_ex (i : Nat) (o : Sto → SV → SV → Option Dv) (x : SV) (F : Fr) (e : Exc) (S : Sto) : kG1 i o x F (.ex e S) = .ex e F.v S := Eq.trans rfl rfl
@[simp] theorem kG1_bad (i : Nat) (o : Sto → SV → SV → Option Dv) (x : SV) (F : Fr) : kG1 i o x F .bad = .bad := Eq.trans rfl rfl
def agR (i : Nat) (o : Sto → SV → SV → Option Dv) (f : Fr → Sto → Res SV) (F : Fr) (S : Sto) : Option (Option SV) → SRes
  | some (some x) => kG1 i o x F (f F S)
  | _ => .bad
@[simp] theorem agR_s (i : Nat) (o : Sto → SV → SV → Option Dv) (f : Fr → Sto → Res SV) (F : Fr) (S : Sto) (x : SV) : agR i o f F S (some (some x)) = kG1 i o x F (f F S) := Eq.trans rfl rfl
@[simp] theorem sAug_ap (i : Nat) (o : Sto → SV → SV → Option Dv) (f : Fr → Sto → Res SV) (F : Fr) (S : Sto) : sAug i o f F S = agR i o f F S F.v[i]? := by
  unfold sAug agR
  rcases F.v[i]? with _ | _ | x
  · rfl
  · rfl
  · show (f F S).st F _ = (f F S).st F _
    congr 1
def kAs (tg : Tg) (F : Fr) (r : Res SV) : SRes := r.st F fun x S1 => optV (tg x F S1) S1
@[simp] theorem kAs_ok (tg : Tg) (F : Fr) (x : SV) (S1 : Sto) : kAs tg F (.ok x S1) = optV (tg x F S1) S1 := Eq.trans rfl rfl
@[simp] theorem kAs_ex (tg : Tg) (F : Fr) (e : Exc) (S : Sto) : kAs tg F (.ex e S) = .ex e F.v S := Eq.trans rfl rfl
@[simp] theorem kAs_bad (tg : Tg) (F : Fr) : kAs tg F .bad = .bad := Eq.trans rfl rfl
@[simp] theorem sAsg_ap (f : Fr → Sto → Res SV) (tg : Tg) (F : Fr) (S : Sto) : sAsg f tg F S = kAs tg F (f F S) := by
  show (f F S).st F _ = (f F S).st F _
  congr 1
  funext x S1
  cases tg x F S1 <;> rfl
@[simp] theorem gNm_ap (i : Nat) (x : SV) (F : Fr) (S : Sto) : gNm i x F S = some (F.put i x) := Eq.trans rfl rfl
def unR (n : Nat) (tgs : List Tg) (F : Fr) (S : Sto) : Option (List SV) → Option Env
  | some xs => if xs.length = n then gTs tgs xs F S else none
  | none => none
@[simp] theorem unR_s (n : Nat) (tgs : List Tg) (F : Fr) (S : Sto) (xs : List SV) : unR n tgs F S (some xs) = if xs.length = n then gTs tgs xs F S else none := Eq.trans rfl rfl
@[simp] theorem gUn_ap (n : Nat) (tgs : List Tg) (x : SV) (F : Fr) (S : Sto) : gUn n tgs x F S = unR n tgs F S (tupOf S x) := by
  unfold gUn unR
  cases tupOf S x <;> rfl
def gtK (ts : List Tg) (xs : List SV) (b : Nat) (S : Sto) : Option Env → Option Env
  | some v => gTs ts xs ⟨b, v⟩ S
  | none => none
@[simp] theorem gtK_s (ts : List Tg) (xs : List SV) (b : Nat) (S : Sto) (v : Env) : gtK ts xs b S (some v) = gTs ts xs ⟨b, v⟩ S := Eq.trans rfl rfl
@[simp] theorem gTs_nil (F : Fr) (S : Sto) : gTs [] [] F S = some F.v := Eq.trans rfl rfl
@[simp] theorem gTs_cons (t : Tg) (ts : List Tg) (x : SV) (xs : List SV) (F : Fr) (S : Sto) : gTs (t :: ts) (x :: xs) F S = gtK ts xs F.b S (t x F S) := by
  show (match t x F S with | some v1 => gTs ts xs ⟨F.b, v1⟩ S | none => none) = _
  cases t x F S <;> rfl
@[simp] theorem tupOf_d (S : Sto) (xs : List Dv) : tupOf S (.d (.tup xs)) = some (xs.map .d) := Eq.trans rfl rfl
def fr1 (tg : Tg) (s : Fr → Sto → SRes) (F : Fr) (S : Sto) : List SV → SRes
  | [.d (.int n)] => if small62 n = true then forL tg s F.b (rng 0 n.toNat) F.v S else .bad
  | _ => .bad
@[simp] theorem fr1_i (tg : Tg) (s : Fr → Sto → SRes) (F : Fr) (S : Sto) (n : Int) : fr1 tg s F S [.d (.int n)] = if small62 n = true then forL tg s F.b (rng 0 n.toNat) F.v S else .bad := Eq.trans rfl rfl
def fr2 (tg : Tg) (s : Fr → Sto → SRes) (F : Fr) (S : Sto) : List SV → SRes
  | [.d (.int m), .d (.int n)] => if (small62 m && small62 n) = true then forL tg s F.b (rng m (n - m).toNat) F.v S else .bad
  | _ => .bad
@[simp] theorem fr2_i (tg : Tg) (s : Fr → Sto → SRes) (F : Fr) (S : Sto) (m n : Int) : fr2 tg s F S [.d (.int m), .d (.int n)] = if (small62 m && small62 n) = true then forL tg s F.b (rng m (n - m).toNat) F.v S else .bad := Eq.trans rfl rfl
def kF1 (tg : Tg) (s : Fr → Sto → SRes) (F : Fr) (r : Res (List SV)) : SRes := r.st F fun as S1 => fr1 tg s F S1 as
@[simp] theorem kF1_ok (tg : Tg) (s : Fr → Sto → SRes) (F : Fr) (as : (List SV)) (S1 : Sto) : kF1 tg s F (.ok as S1) = fr1 tg s F S1 as := Eq.trans rfl rfl
@[simp] theorem kF1_ex (tg : Tg) (s : Fr → Sto → SRes) (F : Fr) (e : Exc) (S : Sto) : kF1 tg s F (.ex e S) = .ex e F.v S := Eq.trans rfl rfl
@[simp] theorem kF1_bad (tg : Tg) (s : Fr → Sto → SRes) (F : Fr) : kF1 tg s F .bad = .bad := Eq.trans rfl rfl
@[simp] theorem sForR_ap (fa : Fr → Sto → Res (List SV)) (tg : Tg) (s : Fr → Sto → SRes) (F : Fr) (S : Sto) : sForR fa tg s F S = kF1 tg s F (fa F S) := Eq.trans rfl rfl
def kF2 (tg : Tg) (s : Fr → Sto → SRes) (F : Fr) (r : Res (List SV)) : SRes := r.st F fun as S1 => fr2 tg s F S1 as
@[simp] theorem kF2_ok (tg : Tg) (s : Fr → Sto → SRes) (F : Fr) (as : (List SV)) (S1 : Sto) : kF2 tg s F (.ok as S1) = fr2 tg s F S1 as := Eq.trans rfl rfl
@[simp] theorem kF2_ex (tg : Tg) (s : Fr → Sto → SRes) (F : Fr) (e : Exc) (S : Sto) : kF2 tg s F (.ex e S) = .ex e F.v S := Eq.trans rfl rfl
@[simp] theorem kF2_bad (tg : Tg) (s : Fr → Sto → SRes) (F : Fr) : kF2 tg s F .bad = .bad := Eq.trans rfl rfl
@[simp] theorem sForR2_ap (fa : Fr → Sto → Res (List SV)) (tg : Tg) (s : Fr → Sto → SRes) (F : Fr) (S : Sto) : sForR2 fa tg s F S = kF2 tg s F (fa F S) := Eq.trans rfl rfl
def frR (tg : Tg) (s : Fr → Sto → SRes) (F : Fr) : Option (Dv × Sto) → SRes
  | some (.lst xs, S2) => forL tg s F.b (xs.map .d) F.v S2
  | some (.tup xs, S2) => forL tg s F.b (xs.map .d) F.v S2
  | _ => .bad
@[simp] theorem frR_l (tg : Tg) (s : Fr → Sto → SRes) (F : Fr) (xs : List Dv) (S2 : Sto) : frR tg s F (some (.lst xs, S2)) = forL tg s F.b (xs.map .d) F.v S2 := Eq.trans rfl rfl
@[simp] theorem frR_t (tg : Tg) (s : Fr → Sto → SRes) (F : Fr) (xs : List Dv) (S2 : Sto) : frR tg s F (some (.tup xs, S2)) = forL tg s F.b (xs.map .d) F.v S2 := Eq.trans rfl rfl
def kFo (tg : Tg) (s : Fr → Sto → SRes) (F : Fr) (r : Res SV) : SRes := r.st F fun x S1 => frR tg s F (freeze S1 x)
@[simp] theorem kFo_ok (tg : Tg) (s : Fr → Sto → SRes) (F : Fr) (x : SV) (S1 : Sto) : kFo tg s F (.ok x S1) = frR tg s F (freeze S1 x) := Eq.trans rfl rfl
@[simp] theorem kFo_ex (tg : Tg) (s : Fr → Sto → SRes) (F : Fr) (e : Exc) (S1 : Sto) : kFo tg s F (.ex e S1) = .ex e F.v S1 := Eq.trans rfl rfl
@[simp] theorem kFo_bad (tg : Tg) (s : Fr → Sto → SRes) (F : Fr) : kFo tg s F .bad = .bad := Eq.trans rfl rfl
@[simp] theorem sFor_ap (f : Fr → Sto → Res SV) (tg : Tg) (s : Fr → Sto → SRes) (F : Fr) (S : Sto) : sFor f tg s F S = kFo tg s F (f F S) := Eq.trans rfl rfl
/-! loops, turn by turn -/
@[simp] theorem forL_nil (tg : Tg) (s : Fr → Sto → SRes) (b : Nat) (v : Env) (S : Sto) : forL tg s b [] v S = .nx v S := Eq.trans rfl rfl
def kTu (tg : Tg) (s : Fr → Sto → SRes) (b : Nat) (r : List SV) : SRes → SRes
  | .nx v2 S2 => forL tg s b r v2 S2
  | .ct v2 S2 => forL tg s b r v2 S2
  | .bk v2 S2 => .nx v2 S2
  | o => o
@[simp] theorem kTu_nx (tg : Tg) (s : Fr → Sto → SRes) (b : Nat) (r : List SV) (v : Env) (S : Sto) : kTu tg s b r (.nx v S) = forL tg s b r v S := Eq.trans rfl rfl
@[simp] theorem kTu_ct (tg : Tg) (s : Fr → Sto → SRes) (b : Nat) (r : List SV) (v : Env) (S : Sto) : kTu tg s b r (.ct v S) = forL tg s b r v S := Eq.trans rfl rfl
@[simp] theorem kTu_bk (tg : Tg) (s : Fr → Sto → SRes) (b : Nat) (r : List SV) (v : Env) (S : Sto) : kTu tg s b r (.bk v S) = .nx v S := Eq.trans rfl rfl
@[simp] theorem kTu_rt (tg : Tg) (s : Fr → Sto → SRes) (b : Nat) (r : List SV) (v : SV) (S : Sto) : kTu tg s b r (.rt v S) = .rt v S := Eq.trans rfl rfl
@[simp] theorem kTu_ex (tg : Tg) (s : Fr → Sto → SRes) (b : Nat) (r : List SV) (e : Exc) (v : Env) (S : Sto) : kTu tg s b r (.ex e v S) = .ex e v S := Eq.trans rfl rfl
def kTg (tg : Tg) (s : Fr → Sto → SRes) (b : Nat) (r : List SV) (S : Sto) : Option Env → SRes
  | some v1 => kTu tg s b r (s ⟨b, v1⟩ S)
  | none => .bad
@[simp] theorem kTg_s (tg : Tg) (s : Fr → Sto → SRes) (b : Nat) (r : List SV) (S : Sto) (v1 : Env) : kTg tg s b r S (some v1) = kTu tg s b r (s ⟨b, v1⟩ S) := Eq.trans rfl rfl
theorem forL_cons (tg : Tg) (s : Fr → Sto → SRes) (b : Nat) (x : SV) (r : List SV) (v : Env) (S : Sto) : forL tg s b (x :: r) v S = kTg tg s b r S (tg x ⟨b, v⟩ S) := by
  show (match tg x ⟨b, v⟩ S with | some v1 => _ | none => _) = _
  cases tg x ⟨b, v⟩ S with
  | none => rfl
  | some v1 =>
    show (match s ⟨b, v1⟩ S with | .nx v2 S2 => _ | .ct v2 S2 => _ | .bk v2 S2 => _ | o => o) = kTu tg s b r (s ⟨b, v1⟩ S)
    cases s ⟨b, v1⟩ S <;> rfl
/-! results -/
@[simp] theorem res_rt (x : SV) (S : Sto) : (SRes.rt x S).res = .ok x S := Eq.trans rfl rfl
@[simp] theorem res_nx (v : Env) (S : Sto) : (SRes.nx v S).res = .ok (.d .non) S := Eq.trans rfl rfl
@[simp] theorem res_ex (e : Exc) (v : Env) (S : Sto) : (SRes.ex e v S).res = .ex e S := Eq.trans rfl rfl
@[simp] theorem fin_d (n : Nat) (x : Dv) (S : Sto) : fin n (.ok (.d x) S) = .ok (.d x) (S.take n) := Eq.trans rfl rfl
@[simp] theorem fin_ex (n : Nat) (e : Exc) (S : Sto) : fin n (.ex e S) = .ex e (S.take n) := Eq.trans rfl rfl
@[simp] theorem finK_ok (n : Nat) (x : SV) (S : Sto) : finK n (.ok x S) = .ok x S := Eq.trans rfl rfl
@[simp] theorem finK_ex (n : Nat) (e : Exc) (S : Sto) : finK n (.ex e S) = .ex e (S.take n) := Eq.trans rfl rfl
@[simp] theorem mkd_ok (n : Nat) (S : Sto) : mkd n (.ok (.d .non) S) = .ok (.m n) S := Eq.trans rfl rfl
@[simp] theorem take_len (S : Sto) : S.take S.length = S := List.take_length
@[simp] theorem take_set (S : Sto) (i : Nat) (x : MO) : (S.set i x).take S.length = S.set i x := by rw [← List.length_set (as := S) (i := i) (a := x), List.take_length]
@[simp] theorem take_app (S T : Sto) : (S ++ T).take S.length = S := List.take_left' rfl
@[simp] theorem frzs_nil (S : Sto) : frzs S [] = some ([], S) := Eq.trans rfl rfl
@[simp] theorem frzs_cons (S : Sto) (x : Dv) (r : List SV) : frzs S (.d x :: r) = (match frzs S r with | some (as, S2) => some (x :: as, S2) | none => none) := Eq.trans rfl rfl
@[simp] theorem tyS_d (S : Sto) (x : Dv) : tyS S (.d x) = some x.ty := Eq.trans rfl rfl
@[simp] theorem ty_int (i : Int) : (Dv.int i).ty = .int := Eq.trans rfl rfl
@[simp] theorem ty_bl (i : Bool) : (Dv.bl i).ty = .bl := Eq.trans rfl rfl
@[simp] theorem ty_str (i : Str) : (Dv.str i).ty = .str := Eq.trans rfl rfl
@[simp] theorem ty_non : Dv.non.ty = .non := Eq.trans rfl rfl
@[simp] theorem ty_tup (i : List Dv) : (Dv.tup i).ty = .tup := Eq.trans rfl rfl
@[simp] theorem ty_lst (i : List Dv) : (Dv.lst i).ty = .lst := Eq.trans rfl rfl
@[simp] theorem ty_ins (c : Nat) (fs : List Str) (i : List Dv) : (Dv.ins c fs i).ty = .own c := Eq.trans rfl rfl
@[simp] theorem instOf_ins (S : Sto) (c : Nat) (fs : List Str) (xs : List Dv) : instOf S (.d (.ins c fs xs)) = some (c, fs, xs.map .d) := Eq.trans rfl rfl
@[simp] theorem instOf_int (S : Sto) (i : Int) : instOf S (.d (.int i)) = none := Eq.trans rfl rfl
@[simp] theorem itemsOf_tup (S : Sto) (xs : List Dv) : itemsOf S (.d (.tup xs)) = some (xs.map .d) := Eq.trans rfl rfl
@[simp] theorem itemsOf_lst (S : Sto) (xs : List Dv) : itemsOf S (.d (.lst xs)) = some (xs.map .d) := Eq.trans rfl rfl
@[simp] theorem itemsOf_str (S : Sto) (x : Str) : itemsOf S (.d (.str x)) = none := Eq.trans rfl rfl
@[simp] theorem opInt_dd (C : Int → Int → Bool) (g : Int → Int → Dv) (S : Sto) (i j : Int) : opInt C g S (.d (.int i)) (.d (.int j)) = if C i j = true then some (g i j) else none := Eq.trans rfl rfl
@[simp] theorem opAdd_ii (S : Sto) (i j : Int) : opAdd S (.d (.int i)) (.d (.int j)) = some (.int (i + j)) := Eq.trans rfl rfl
@[simp] theorem biInt_i (S : Sto) (i : Int) : biInt S [.d (.int i)] = some (.int i) := Eq.trans rfl rfl
@[simp] theorem biInt_b (S : Sto) (i : Bool) : biInt S [.d (.bl i)] = some (.int (if i then 1 else 0)) := Eq.trans rfl rfl
@[simp] theorem biAbs_i (S : Sto) (i : Int) : biAbs S [.d (.int i)] = some (.int (if i < 0 then -i else i)) := Eq.trans rfl rfl
@[simp] theorem biMax_2 (S : Sto) (i j : Int) : biMax S [.d (.int i), .d (.int j)] = some (.int (if j > i then j else i)) := Eq.trans rfl rfl
@[simp] theorem biMax_3 (S : Sto) (a b c : Int) : biMax S [.d (.int a), .d (.int b), .d (.int c)] = some (.int (if b > a then (if c > b then c else b) else (if c > a then c else a))) := Eq.trans rfl rfl
@[simp] theorem biMin_2 (S : Sto) (i j : Int) : biMin S [.d (.int i), .d (.int j)] = some (.int (if j < i then j else i)) := Eq.trans rfl rfl
@[simp] theorem biMin_3 (S : Sto) (a b c : Int) : biMin S [.d (.int a), .d (.int b), .d (.int c)] = some (.int (if b < a then (if c < b then c else b) else (if c < a then c else a))) := Eq.trans rfl rfl
@[simp] theorem biLen_t (S : Sto) (xs : List Dv) : biLen S [.d (.tup xs)] = some (.int xs.length) := by simp [biLen]
@[simp] theorem biLen_l (S : Sto) (xs : List Dv) : biLen S [.d (.lst xs)] = some (.int xs.length) := by simp [biLen]
@[simp] theorem deq_ii (i j : Int) : deq (.int i) (.int j) = some (i == j) := Eq.trans rfl rfl
@[simp] theorem deq_ss (i j : Str) : deq (.str i) (.str j) = some (i == j) := Eq.trans rfl rfl
@[simp] theorem deq_bb (i j : Bool) : deq (.bl i) (.bl j) = some (i == j) := Eq.trans rfl rfl
@[simp] theorem eqv_ts (xs : List PyData) (s : Str) : PyData.eqv (.tuple xs) (.str s) = false := by simp [PyData.eqv]
@[simp] theorem deq_ts (s : Str) (xs : List Dv) (h : Dv.flats xs = true) : deq (.tup xs) (.str s) = some false := by
  unfold deq
  simp [Dv.flat, Dv.pd, PyData.depth, PyData.eqv, h]
@[simp] theorem deq_st (s : Str) (xs : List Dv) (h : Dv.flats xs = true) : deq (.str s) (.tup xs) = some false := by
  unfold deq
  simp [Dv.flat, Dv.pd, PyData.depth, PyData.eqv, h]
@[simp] theorem opEq_dd (S : Sto) (x y : Dv) : opEq S (.d x) (.d y) = (deq x y).map .bl := Eq.trans rfl rfl
@[simp] theorem opNe_dd (S : Sto) (x y : Dv) : opNe S (.d x) (.d y) = (deq x y).map fun c => .bl (!c) := Eq.trans rfl rfl
@[simp] theorem opIsN_dd (S : Sto) (x : SV) : opIsN S x (.d .non) = some (.bl x.isNon) := Eq.trans rfl rfl
@[simp] theorem flats_nil : Dv.flats [] = true := Eq.trans rfl rfl
@[simp] theorem flats_cons (x : Dv) (r : List Dv) : Dv.flats (x :: r) = (x.flat && Dv.flats r) := Eq.trans rfl rfl
@[simp] theorem flat_int (i : Int) : (Dv.int i).flat = true := Eq.trans rfl rfl
@[simp] theorem flat_str (i : Str) : (Dv.str i).flat = true := Eq.trans rfl rfl
@[simp] theorem flat_bl (i : Bool) : (Dv.bl i).flat = true := Eq.trans rfl rfl
@[simp] theorem flat_non : Dv.non.flat = true := Eq.trans rfl rfl
@[simp] theorem flat_tup (i : List Dv) : (Dv.tup i).flat = Dv.flats i := Eq.trans rfl rfl
@[simp] theorem flat_lst (i : List Dv) : (Dv.lst i).flat = Dv.flats i := Eq.trans rfl rfl
@[simp] theorem most_pos (n : Nat) (h : n ≤ 1000) : n ≤ most := Nat.le_trans h (by decide)
/-- an item by its place -/
theorem atI_n {α : Type} (xs : List α) (i : Nat) : atI xs (i : Int) = xs[i]? := by
  unfold atI ixN
  rw [if_pos (Int.natCast_nonneg i)]
  by_cases h : i < xs.length
  · rw [if_pos (by omega)]; simp
  · rw [if_neg (by omega)]; simp [List.getElem?_eq_none_iff.mpr (Nat.le_of_not_lt h)]
@[simp] theorem atI_0 {α : Type} (xs : List α) : atI xs 0 = xs[0]? := atI_n xs 0
@[simp] theorem atI_1 {α : Type} (xs : List α) : atI xs 1 = xs[1]? := atI_n xs 1
@[simp] theorem atI_2 {α : Type} (xs : List α) : atI xs 2 = xs[2]? := atI_n xs 2
@[simp] theorem atI_3 {α : Type} (xs : List α) : atI xs 3 = xs[3]? := atI_n xs 3
@[simp] theorem atI_4 {α : Type} (xs : List α) : atI xs 4 = xs[4]? := atI_n xs 4
@[simp] theorem opIx_ti (S : Sto) (xs : List Dv) (i : Int) : opIx S (.d (.tup xs)) (.d (.int i)) = atI (xs.map .d) i := Eq.trans rfl rfl
@[simp] theorem opIx_li (S : Sto) (xs : List Dv) (i : Int) : opIx S (.d (.lst xs)) (.d (.int i)) = atI (xs.map .d) i := Eq.trans rfl rfl
@[simp] theorem ofStr_inj {a b : String} : (Str.ofString a = Str.ofString b) = (a = b) := by
  apply propext
  constructor
  · intro h
    rw [Str.ofString_eq_toList, Str.ofString_eq_toList] at h
    have h2 : a.toList.map Char.toNat = b.toList.map Char.toNat := by simpa using congrArg Str.cps h
    have h3 : a.toList = b.toList := (List.map_inj_right (fun x y e => Char.toNat_inj.mp e)).mp h2
    exact String.toList_inj.mp h3
  · intro h; rw [h]
@[simp] theorem ofStr_beq {a b : String} : (Str.ofString a == Str.ofString b) = (a == b) := by
  rw [Bool.eq_iff_iff, beq_iff_eq, beq_iff_eq, ofStr_inj]
@[simp] theorem lookF_cons {α : Type} (f a : Str) (fs : List Str) (x : α) (xs : List α) : lookF f (a :: fs) (x :: xs) = if f = a then some x else lookF f fs xs := Eq.trans rfl rfl
@[simp] theorem lookF_nil {α : Type} (f : Str) (xs : List α) : lookF f [] xs = none := by cases xs <;> rfl
@[simp] theorem putX_cons (nm : Str) (x : SV) (g : Str) (fs : List Str) (y : SV) (xs : List SV) : putX nm x (g :: fs) (y :: xs) = if g = nm then (g :: fs, x :: xs) else (g :: (putX nm x fs xs).1, y :: (putX nm x fs xs).2) := Eq.trans rfl rfl
@[simp] theorem putX_nil (nm : Str) (x : SV) : putX nm x [] [] = ([nm], [x]) := Eq.trans rfl rfl
@[simp] theorem okIn_d (b i : Nat) (x : Dv) : okIn b i (.d x) = true := Eq.trans rfl rfl
@[simp] theorem okIn_m (b i j : Nat) : okIn b i (.m j) = (decide (j ≤ i) || decide (b ≤ i)) := Eq.trans rfl rfl
theorem small62_ap (i : Int) : small62 i = (decide (-4611686018427387904 ≤ i) && decide (i < 4611686018427387904)) := rfl
@[simp] theorem rng_zero (lo : Int) : rng lo 0 = [] := Eq.trans rfl rfl
theorem rng_succ (lo : Int) (n : Nat) : rng lo (n + 1) = .d (.int lo) :: rng (lo + 1) n := by
  unfold rng
  rw [List.range_succ_eq_map, List.map_cons, List.map_map]
  congr 1
  · simp
  · apply List.map_congr_left
    intro i _
    simp only [Function.comp]
    congr 2
    push_cast
    omega
end Ev

set_option Elab.async false
set_option linter.all false
set_option maxRecDepth 100000
/-! Ev13: list comprehensions. -/
namespace Ev
open PySem L2
def noX {α : Type} : Res α → Res α
  | .ex _ _ => .bad
  | r => r
@[simp] theorem noX_ok {α : Type} (a : α) (S : Sto) : noX (.ok a S) = .ok a S := rfl
@[simp] theorem noX_bad {α : Type} : noX (.bad : Res α) = .bad := rfl
def lcPut (b : Nat) (y : SV) (S : Sto) : Option MO → Option Sto
  | some (.lst acc) => if acc.length < most then some (S.set b (.lst (acc ++ [y]))) else none
  | _ => none
/-- the turns; the new list lies at b -/
def lcL (tg : Tg) (tt : Fr → Sto → Res Bool) (te : Fr → Sto → Res SV) (b : Nat) (ve : Env) : List SV → Sto → Res SV
  | [], S => .ok (.m b) S
  | x :: r, S => match tg x ⟨b, ve⟩ S with
    | some v1 => (noX (tt ⟨b, v1⟩ S)).bind fun c S1 => if c = true then (noX (te ⟨b, v1⟩ S1)).bind fun y S2 => match lcPut b y S2 S2[b]? with
        | some S3 => lcL tg tt te b ve r S3
        | none => .bad
      else lcL tg tt te b ve r S1
    | none => .bad
def wipeE (v : Env) : List Nat → Env
  | [] => v
  | i :: r => (wipeE v r).set i none
def lcAll (fi : Nat → Res SV → Res SV) (vs : List Nat) (tg : Tg) (tt : Fr → Sto → Res Bool) (te : Fr → Sto → Res SV) (v : Env) (xs : List SV) (S : Sto) : Res SV :=
  fi S.length (lcL tg tt te S.length (wipeE v vs) xs (S ++ [.lst []]))
def lcS (fi : Nat → Res SV → Res SV) (vs : List Nat) (tg : Tg) (tt : Fr → Sto → Res Bool) (te : Fr → Sto → Res SV) (v : Env) : Option (Dv × Sto) → Res SV
  | some (.lst xs, S) => lcAll fi vs tg tt te v (xs.map .d) S
  | some (.tup xs, S) => lcAll fi vs tg tt te v (xs.map .d) S
  | _ => .bad
def eLcW (fi : Nat → Res SV → Res SV) (vs : List Nat) (fe : Fr → Sto → Res SV) (tg : Tg) (tt : Fr → Sto → Res Bool) (te : Fr → Sto → Res SV) : Fr → Sto → Res SV := fun F S =>
  (fe F S).bind fun x S1 => lcS fi vs tg tt te F.v (freeze S1 x)
abbrev eLc := eLcW fin
abbrev eLcK := eLcW finK
def lcR (fi : Nat → Res SV → Res SV) (vs : List Nat) (tg : Tg) (tt : Fr → Sto → Res Bool) (te : Fr → Sto → Res SV) (v : Env) (S : Sto) : List SV → Res SV
  | [.d (.int n)] => if small62 n = true then lcAll fi vs tg tt te v (rng 0 n.toNat) S else .bad
  | _ => .bad
def lcR2 (fi : Nat → Res SV → Res SV) (vs : List Nat) (tg : Tg) (tt : Fr → Sto → Res Bool) (te : Fr → Sto → Res SV) (v : Env) (S : Sto) : List SV → Res SV
  | [.d (.int m), .d (.int n)] => if (small62 m && small62 n) = true then lcAll fi vs tg tt te v (rng m (n - m).toNat) S else .bad
  | _ => .bad
def eLcRW (fi : Nat → Res SV → Res SV) (vs : List Nat) (fa : Fr → Sto → Res (List SV)) (tg : Tg) (tt : Fr → Sto → Res Bool) (te : Fr → Sto → Res SV) : Fr → Sto → Res SV := fun F S =>
  (fa F S).bind fun as S1 => lcR fi vs tg tt te F.v S1 as
def eLcR2W (fi : Nat → Res SV → Res SV) (vs : List Nat) (fa : Fr → Sto → Res (List SV)) (tg : Tg) (tt : Fr → Sto → Res Bool) (te : Fr → Sto → Res SV) : Fr → Sto → Res SV := fun F S =>
  (fa F S).bind fun as S1 => lcR2 fi vs tg tt te F.v S1 as
abbrev eLcR := eLcRW fin
abbrev eLcRK := eLcRW finK
abbrev eLcR2 := eLcR2W fin
abbrev eLcR2K := eLcR2W finK
def WF : WX := fun _ _ _ _ => False
theorem EnvR.wipe {K : PySem.W.Frag} {cl : Nat → Addr} {W : Wd} {n : Nat} {env : Env} {σ : St} (r : EnvR K cl W n env σ) : ∀ vs, EnvR K cl W n (wipeE env vs) (L2.wipe σ vs)
  | [] => r
  | i :: vs => by
    have q := EnvR.wipe r vs
    refine ⟨by simp only [L2.wipe, wipeE, List.length_set]; exact q.len, fun j sv e => ?_⟩
    unfold wipeE at e
    unfold L2.wipe
    by_cases h : i = j
    · subst h
      rw [List.getElem?_set] at e
      split at e
      · split at e <;> cases e
      · exact absurd rfl (by assumption)
    · rw [List.getElem?_set_ne h] at e ⊢
      exact q.get j sv e
/-! targets that are the block's own -/
def RGw (X : Cx) (cl : CL) (vs : List Nat) (tg : Tg) : TG := fun v σ H Q => ∃ W F S sv v', At X.K cl W F S σ H ∧ RelSV X.K cl W S.length sv v ∧ tg sv F S = some v' ∧ ∀ σ', L2.wipe σ' vs = L2.wipe σ vs → At X.K cl W ⟨F.b, v'⟩ S σ' H → Q σ' H
def RGws (X : Cx) (cl : CL) (vs : List Nat) (tgs : List Tg) : TGs := fun ws σ H Q => ∃ W F S svs v', At X.K cl W F S σ H ∧ Paired (RelSV X.K cl W S.length) svs ws ∧ gTs tgs svs F S = some v' ∧ ∀ σ', L2.wipe σ' vs = L2.wipe σ vs → At X.K cl W ⟨F.b, v'⟩ S σ' H → Q σ' H
theorem wipe_set {σ : St} {i : Nat} {y : Option V} : ∀ vs, L2.wipe (σ.set i y) vs = (L2.wipe σ vs).set i (if i ∈ vs then none else y) ∨ L2.wipe (σ.set i y) vs = L2.wipe σ vs
  | [] => .inl (by simp [L2.wipe])
  | j :: vs => by
    unfold L2.wipe
    by_cases h : j = i
    · subst h
      refine .inr ?_
      rcases wipe_set (σ := σ) (i := j) (y := y) vs with e | e <;> rw [e]
      rw [List.set_set]
    · rcases wipe_set (σ := σ) (i := i) (y := y) vs with e | e
      · refine .inl ?_
        rw [e, List.set_comm _ _ (Ne.symm h)]
        have : (i ∈ j :: vs) ↔ i ∈ vs := by simp [Ne.symm h]
        simp only [this]
      · exact .inr (by rw [e])
theorem wipe_none {σ : St} {i : Nat} : ∀ {vs}, i ∈ vs → (L2.wipe σ vs).set i none = L2.wipe σ vs
  | j :: vs, h => by
    unfold L2.wipe
    by_cases e : j = i
    · subst e; rw [List.set_set]
    · rw [List.set_comm _ _ e, wipe_none ((List.mem_cons.mp h).resolve_left (Ne.symm e))]
theorem wipe_put {σ : St} {i : Nat} {y : Option V} {vs : List Nat} (h : i ∈ vs) : L2.wipe (σ.set i y) vs = L2.wipe σ vs := by
  rcases wipe_set (σ := σ) (i := i) (y := y) vs with e | e
  · rw [e, if_pos h, wipe_none h]
  · exact e
theorem wipe_idem {σ : St} {vs : List Nat} : L2.wipe (L2.wipe σ vs) vs = L2.wipe σ vs := by
  have : ∀ us : List Nat, (∀ i ∈ us, i ∈ vs) → L2.wipe (L2.wipe σ vs) us = L2.wipe σ vs := fun us => by
    induction us with
    | nil => intro _; rfl
    | cons j us ih =>
      intro h
      show (L2.wipe (L2.wipe σ vs) us).set j none = _
      rw [ih fun i hi => h i (List.mem_cons_of_mem _ hi)]
      exact wipe_none (h j (List.mem_cons_self ..))
  exact this vs fun _ h => h
section
variable {X : Cx} {cl : CL} {Wx : WX}
theorem gw_name (i : Nat) {x : Str} {vs : List Nat} {pos : Pos} (hN : X.N.Nodup) (hi : X.N[i]? = some x) (hx : X.env.scope.names.lookup x = some .local) (hv : i ∈ vs := by decide) : PG X (.Name x pos) (RGw X cl vs (gNm i)) :=
  PG.weak (pg_name hN hi (.inl hx) (.inr hx)) fun v σ H Q ⟨W, F, S, sv, v', a, q, e, k⟩ => by
    cases e
    exact k _ (wipe_put hv) (a.put i q)
theorem gws_nil {vs : List Nat} : PGs X [] (RGws X cl vs []) := PGs.weak pgs_nil fun ws σ H Q ⟨W, F, S, svs, v', a, p, e, k⟩ => by
  cases svs with
  | nil => cases p; cases e; exact ⟨rfl, k σ rfl a⟩
  | cons x xs => cases e
theorem gws_cons {vs : List Nat} {te : Expr} {tes : List Expr} {tg : Tg} {tgs : List Tg} (h1 : PG X te (RGw X cl vs tg)) (h2 : PGs X tes (RGws X cl vs tgs)) (hs : (assignEach (te :: tes) X.env).map (·.2) = assign te X.env :: (assignEach tes X.env).map (·.2) := by rfl) : PGs X (te :: tes) (RGws X cl vs (tg :: tgs)) :=
  PGs.weak (pgs_cons h1 h2 hs) fun ws σ H Q ⟨W, F, S, svs, v', a, p, e, k⟩ => by
    cases p with
    | nil => cases e
    | cons q t =>
      unfold gTs at e
      split at e
      · rename_i v1 h
        exact ⟨_, _, rfl, W, F, S, _, v1, a, q, h, fun σ1 w1 a1 => ⟨W, ⟨F.b, v1⟩, S, _, v', a1, t, e, fun σ2 w2 => k σ2 (w2.trans w1)⟩⟩
      · cases e
theorem gw_tup {vs : List Nat} {n : Nat} {es : List Expr} {k : Nat} {tgs : List Tg} {pos : Pos} (hc : X.calm = true) (h : PGs X es (RGws X cl vs tgs)) (hn : (assignEach es X.env).length = n := by rfl) (hst : (assignEach es X.env).findIdx? (·.1) = none := by rfl) : PG X (.Tuple es k pos) (RGw X cl vs (gUn n tgs)) :=
  PG.weak (pg_tup hc h hn hst) fun v σ H Q ⟨W, F, S, sv, v', a, q, e, kk⟩ => by
    unfold gUn at e
    split at e
    · rename_i xs hx
      split at e
      · rename_i hl
        obtain ⟨p, ws, rfl, s1, t1⟩ := tup_rel a.rel hx q
        exact ⟨p, ws, rfl, s1, by rw [← PySem.Paired.length t1]; exact hl, W, F, S, xs, v', a, t1, e, kk⟩
      · cases e
    · cases e
/-! the block's context -/
theorem lookup_keep {env : PySem.Env} {k : NameKind} (hk : k ≠ .free) : ∀ {names : List (Str × NameKind)} {x : Str}, names.lookup x = some k →
    (names.map fun (n, k) => if (k == NameKind.free && env.scope.kind == .function && env.kindOf n == some .cell) then (n, NameKind.cell) else (n, k)).lookup x = some k
  | [], _, h => by simp at h
  | (n, j) :: r, x, h => by
    rw [List.lookup_cons] at h
    simp only [List.map_cons]
    by_cases e : x == n
    · simp only [e] at h
      cases h
      have : (k == NameKind.free) = false := by cases k <;> first | rfl | exact absurd rfl hk
      simp only [this, Bool.false_and, Bool.false_eq_true, if_false, List.lookup_cons, e]
    · simp only [e] at h
      have ih := lookup_keep (env := env) hk h
      split <;> simp only [List.lookup_cons, e] <;> exact ih
theorem lookup_free {env : PySem.Env} : ∀ {names : List (Str × NameKind)} {x : Str}, names.lookup x = some .free →
    (names.map fun (n, k) => if (k == NameKind.free && env.scope.kind == .function && env.kindOf n == some .cell) then (n, NameKind.cell) else (n, k)).lookup x = some .free ∨
    (names.map fun (n, k) => if (k == NameKind.free && env.scope.kind == .function && env.kindOf n == some .cell) then (n, NameKind.cell) else (n, k)).lookup x = some .cell
  | [], _, h => by simp at h
  | (n, j) :: r, x, h => by
    rw [List.lookup_cons] at h
    simp only [List.map_cons]
    by_cases e : x == n
    · simp only [e] at h
      cases h
      split <;> simp [List.lookup_cons, e]
    · simp only [e] at h
      have ih := lookup_free (env := env) h
      split <;> simp only [List.lookup_cons, e] <;> exact ih
variable {s : Shared} {H0 : Hp} {scope : Scope} {C : Addr} {cls : List (Str × Addr)} {fp : List Addr}
abbrev Blk (X : Cx) (s : Shared) (H : Hp) (scope : Scope) (cls : List (Str × Addr)) (C : Addr) (fp : List Addr) : Cx := X.blk s H scope (compEnvC scope cls C X.env) fp
theorem blk_loc {x : Str} (h : scope.names.lookup x = some .local) : (Blk X s H0 scope cls C fp).env.scope.names.lookup x = some .local := lookup_keep (by decide) h
theorem blk_gl {x : Str} (h : scope.names.lookup x = some .globalImplicit) : Gl (Blk X s H0 scope cls C fp) x := lookup_keep (k := .globalImplicit) (by decide) h
theorem blk_vis {x : Str} (h : scope.names.lookup x = some .free) : Vis (Blk X s H0 scope cls C fp).env.scope x := by
  rcases lookup_free (env := X.env) h with e | e
  · exact .inr (.inr e)
  · exact .inr (.inl e)
theorem XOk.blk {k : Nat} (xo : XOk X Wx k) : XOk (Blk X s H0 scope cls C fp) WF k :=
  ⟨xo.hr, fun u s' ⟨a, B, sI, pins, σ, H, cls, d, e, I, nb, up, sky, na, os, ag, w⟩ => w.elim, PassesOwn.never, xo.calm, xo.hu, xo.hu1⟩

def tYs : Fr → Sto → Res Bool := fun _ S => .ok true S
theorem ptv_nil : PTs X [] (RT X cl Wx tYs) := ⟨fun pins s σ H Q I h => pts_nil.run pins s σ H Q I (by
  obtain ⟨W, F, S, a, o⟩ := h
  exact o.here a.rel rfl)⟩
theorem RE.ofN {f : Fr → Sto → Res SV} {g : SV → Sto → Res SV} {W : Wd} {F : Fr} {S : Sto} {σ σ' : St} {H : Hp} {Q Q' : VK} (a : At X.K cl W F S σ' H) (h : Out X.K cl Wx (RSV X.K cl) F.b W S σ ((noX (f F S)).bind g) Q)
    (k : ∀ W1 S1 x v H1, Gr F.b S S1 → Le S.length W W1 → At X.K cl W1 F S1 σ' H1 → RelSV X.K cl W1 S1.length x v → Out X.K cl Wx (RSV X.K cl) F.b W1 S1 σ (g x S1) Q → Q' v H1) : RE X cl WF f σ' H Q' := by
  refine ⟨W, F, S, a, ?_⟩
  cases hr : f F S with
  | ok x S1 =>
    rw [hr] at h
    exact fun W1 H1 v g1 l1 r1 q1 => k W1 S1 x v H1 g1 l1 (a.on g1 l1 r1) q1 (Out.rebase h g1 l1)
  | ex e S1 => rw [hr] at h; exact h.elim
  | bad => rw [hr] at h; exact h.elim
theorem RT.ofN {f : Fr → Sto → Res Bool} {g : Bool → Sto → Res SV} {W : Wd} {F : Fr} {S : Sto} {σ σ' : St} {H : Hp} {Q : VK} {Q' : Bool → Hp → Prop} (a : At X.K cl W F S σ' H) (h : Out X.K cl Wx (RSV X.K cl) F.b W S σ ((noX (f F S)).bind g) Q)
    (k : ∀ W1 S1 x H1, Gr F.b S S1 → Le S.length W W1 → At X.K cl W1 F S1 σ' H1 → Out X.K cl Wx (RSV X.K cl) F.b W1 S1 σ (g x S1) Q → Q' x H1) : RT X cl WF f σ' H Q' := by
  refine ⟨W, F, S, a, ?_⟩
  cases hr : f F S with
  | ok x S1 =>
    rw [hr] at h
    intro W1 H1 v g1 l1 r1 q1
    obtain rfl : v = x := q1
    exact k W1 S1 v H1 g1 l1 (a.on g1 l1 r1) (Out.rebase h g1 l1)
  | ex e S1 => rw [hr] at h; exact h.elim
  | bad => rw [hr] at h; exact h.elim
variable {W W0 : Wd} {F : Fr} {S : Sto} {σ : St} {H : Hp} {D : Addr} {Q : VK} {n0 : Nat} {vs : List Nat} {tg : Tg} {tt : Fr → Sto → Res Bool} {te : Fr → Sto → Res SV} {ve v : Env} {xs : List SV}
/-- what holds ahead of turn i -/
def LcP (X : Cx) (cl : CL) (Wx : WX) (Q : VK) (σ : St) (vs : List Nat) (n0 : Nat) (W0 : Wd) (tg : Tg) (tt : Fr → Sto → Res Bool) (te : Fr → Sto → Res SV) (ve : Env) (xs : List SV) (i : Nat) (H : Hp) : Prop :=
  ∃ W S, n0 < S.length ∧ Le (n0 + 1) W0 W ∧ At X.K (CL.pure cl) W ⟨n0, ve⟩ S (L2.wipe σ vs) H ∧ Out X.K cl Wx (RSV X.K cl) n0 W S σ (lcL tg tt te n0 ve (xs.drop i) S) Q
theorem lcP_turn {i : Nat} {x : V} {sv : SV} (hx : xs[i]? = some sv) (hD : W0.ρ n0 = D) (hq : ∀ W n, Le (n0 + 1) W0 W → n0 < n → RelSV X.K cl W n sv x) (h : LcP X cl Wx Q σ vs n0 W0 tg tt te ve xs i H) :
    RGw X (CL.pure cl) vs tg x (L2.wipe σ vs) H fun σ2 H2 => L2.wipe σ2 vs = L2.wipe σ vs ∧ RT X (CL.pure cl) WF tt σ2 H2 fun b H3 => if b = true then RE X (CL.pure cl) WF te σ2 H3 fun y H4 => ∃ acc, H4 D = some (.lst acc) ∧ acc.length < sizeLine ∧ LcP X cl Wx Q σ vs n0 W0 tg tt te ve xs (i + 1) (upd H4 D (.lst (acc ++ [y]))) else LcP X cl Wx Q σ vs n0 W0 tg tt te ve xs (i + 1) H3 := by
  obtain ⟨W, S, hn, hl, a, o⟩ := h
  have hi := (List.getElem?_eq_some_iff.mp hx).1
  have hd : xs.drop i = sv :: xs.drop (i + 1) := by
    rw [List.drop_eq_getElem_cons hi]
    congr 1
    exact (List.getElem?_eq_some_iff.mp hx).2
  rw [hd] at o
  unfold lcL at o
  have wp : ∀ {W1 : Wd} {S1 : Sto} {v1 : Env} {σ' : St} {H1 : Hp}, L2.wipe σ' vs = L2.wipe σ vs → Le S.length W W1 → S.length ≤ S1.length → At X.K (CL.pure cl) W1 ⟨n0, v1⟩ S1 σ' H1 → At X.K (CL.pure cl) W1 ⟨n0, ve⟩ S1 (L2.wipe σ vs) H1 :=
    fun _ l1 h1 a1 => ⟨a1.b, a1.rel, a.env.le l1 h1, trivial⟩
  cases ht : tg sv ⟨n0, ve⟩ S with
  | none => simp only [ht] at o; exact o.elim
  | some v1 =>
    simp only [ht] at o
    refine ⟨W, ⟨n0, ve⟩, S, sv, v1, a, hq W _ hl hn, ht, fun σ' w' a' => ⟨by rw [w']; exact wipe_idem, ?_⟩⟩
    have w2 : L2.wipe σ' vs = L2.wipe σ vs := by rw [w']; exact wipe_idem
    refine RT.ofN a' o fun W1 S1 c H1 g1 l1 a1 o1 => ?_
    by_cases hc : c = true
    · rw [if_pos hc] at o1 ⊢
      refine RE.ofN a1 o1 fun W2 S2 y yv H2 g2 l2 a2 q2 o2 => ?_
      split at o2
      · rename_i S3 hp
        unfold lcPut at hp
        split at hp
        · rename_i acc ha
          split at hp
          · rename_i hz
            cases hp
            obtain ⟨g0, us, h1, h2⟩ := a2.rel.st n0 _ ha
            have hD2 : W2.ρ n0 = D := by
              rw [l2.r n0 (Nat.lt_of_lt_of_le hn g1.len), l1.r n0 hn, hl.r n0 (Nat.lt_succ_self _), hD]
            rw [hD2] at h1 g0
            refine ⟨us, h1, by rw [← PySem.Paired.length h2]; exact hz, ?_⟩
            have r3 := a2.rel.set ha (ho := .lst (us ++ [yv])) (mo' := .lst (acc ++ [y])) rfl ⟨by rw [hD2]; exact g0, _, by rw [hD2]; exact upd_same, paired_snoc h2 q2⟩
            rw [hD2] at r3
            have g3 : Gr n0 S2 (S2.set n0 (.lst (acc ++ [y]))) := Gr.set fun b' hb' w hi => absurd hi (Nat.not_lt.mpr hb')
            have l12 := l1.trans l2 g1.len
            refine ⟨W2, S2.set n0 (.lst (acc ++ [y])), ?_, hl.trans l12 hn, ?_, Out.rebase o2 g3 (.refl _ _)⟩
            · rw [List.length_set]; exact Nat.lt_of_lt_of_le hn (Nat.le_trans g1.len g2.len)
            · refine ⟨?_, r3, ?_, trivial⟩
              · have := a2.b; rw [List.length_set]; exact this
              · rw [List.length_set]; exact a.env.le l12 (Nat.le_trans g1.len g2.len)
          · cases hp
        · cases hp
      · exact o2.elim
    · rw [if_neg hc] at o1 ⊢
      exact ⟨W1, S1, Nat.lt_of_lt_of_le hn g1.len, hl.trans l1 hn, wp w2 l1 g1.len a1, o1⟩
theorem lcP_start (a : At X.K cl W F S σ H) (hD : H D = none) (o : Out X.K cl Wx (RSV X.K cl) S.length W S σ (lcL tg tt te S.length (wipeE F.v vs) xs (S ++ [.lst []])) Q) :
    LcP X cl Wx Q σ vs S.length (W.add S.length D) tg tt te (wipeE F.v vs) xs 0 (upd H D (.lst [])) := by
  have r1 := a.rel.newM (p := D) (mo := .lst []) (ho := .lst []) hD ⟨a.rel.gnone hD, [], upd_same, .nil⟩
  have hl : (S ++ [MO.lst []]).length = S.length + 1 := by rw [List.length_append]; rfl
  refine ⟨_, _, by omega, .refl _ _, ⟨by show S.length ≤ _; omega, r1, ?_, trivial⟩, ?_⟩
  · rw [hl]; exact (EnvR.wipe a.env vs).le (W.add_le _ _) (Nat.le_succ _)
  · exact Out.rebase o (Gr.add _ _ _ (Nat.le_refl _)) (W.add_le _ _)
theorem lcP_end {n : Nat} (hD : W0.ρ n0 = D) (hx : n = xs.length) (h : LcP X cl Wx Q σ vs n0 W0 tg tt te ve xs n H) : Q (.ref D) H := by
  subst hx
  obtain ⟨W, S, hn, hl, a, o⟩ := h
  rw [List.drop_of_length_le (Nat.le_refl _)] at o
  exact o W H _ (.refl _ _) (.refl _ _) a.rel ⟨hn, by rw [hl.r n0 (Nat.lt_succ_self _), hD]⟩
/-- how what was made is handed on -/
structure FiOk (fi : Nat → Res SV → Res SV) : Prop where
  out : ∀ {K : PySem.W.Frag} {cl : Nat → Addr} {Wx : WX} {W : Wd} {S : Sto} {H : Hp} {b : Nat} {σ : St} {r : Res SV} {Q : VK}, Rel K cl W S H → b ≤ S.length → Out K cl Wx (RSV K cl) b W S σ (fi S.length r) Q → Out K cl Wx (RSV K cl) S.length W S σ r Q
theorem fi_fin : FiOk fin := ⟨fin_out⟩
theorem fi_finK : FiOk finK := ⟨finK_out⟩
variable {fi : Nat → Res SV → Res SV} {fe : Fr → Sto → Res SV} {fa : Fr → Sto → Res (List SV)}
theorem lc_re (hfi : FiOk fi) (h : RE X cl Wx (eLcW fi vs fe tg tt te) σ H Q) : tLc (iSeq X.K (RE X cl Wx fe)) (RGw X (CL.pure cl) vs tg) (RT X (CL.pure cl) WF tt) (RE X (CL.pure cl) WF te) vs σ H Q := by
  obtain ⟨W, F, S, a, o⟩ := h
  refine RE.of a o fun W1 S1 y v H1 g1 l1 a1 q1 o1 => ?_
  unfold lcS at o1
  split at o1
  · rename_i xs S2 hf
    obtain ⟨n2, w2, k2⟩ := freeze_ok (K := X.K) (cl := cl) hf
    obtain ⟨W2, e2, l2, r2, q2⟩ := k2 W1 H1 v a1.rel q1
    have a2 := a1.on ⟨Nat.le_of_eq n2.symm, fun b _ => w2 b⟩ l2 r2
    have o2 := Out.rebase o1 ⟨Nat.le_of_eq n2.symm, fun b _ => w2 b⟩ l2
    have o3 := hfi.out r2 a2.b o2
    cases q2 with
    | lst h t =>
      refine ⟨_, rfl, .inl ⟨⟨_, SqL.up r2.fz h⟩, fun D hD => ?_⟩⟩
      refine lc_list (xs := _) (LcP X cl Wx Q σ vs S2.length (W2.add S2.length D) tg tt te (wipeE F.v vs) (xs.map .d)) (lcP_start a2 hD o3) (fun i H _ ⟨W, S, hn, hl, a, _⟩ => SqL.up a.rel.fz (SqL.le ((W2.add_le _ _).trans hl (Nat.le_succ _)) h)) (fun i x H hx hP => ?_) fun H hP => ?_
      · obtain ⟨d, hd, rd⟩ := item_of t hx
        exact lcP_turn (sv := .d d) (by rw [List.getElem?_map, hd]; rfl) (Wd.add_at _ _ _) (fun W n hl hn => RelD.le ((W2.add_le _ _).trans hl (Nat.le_succ _)) rd) hP
      · exact lcP_end (Wd.add_at _ _ _) (by rw [List.length_map, t.length]) hP
  · rename_i xs S2 hf
    obtain ⟨n2, w2, k2⟩ := freeze_ok (K := X.K) (cl := cl) hf
    obtain ⟨W2, e2, l2, r2, q2⟩ := k2 W1 H1 v a1.rel q1
    have a2 := a1.on ⟨Nat.le_of_eq n2.symm, fun b _ => w2 b⟩ l2 r2
    have o2 := Out.rebase o1 ⟨Nat.le_of_eq n2.symm, fun b _ => w2 b⟩ l2
    have o3 := hfi.out r2 a2.b o2
    cases q2 with
    | tup h t =>
      refine ⟨_, rfl, .inr ⟨⟨_, SqT.up r2.fz h⟩, fun D hD => ?_⟩⟩
      refine lc_tup (xs := _) (LcP X cl Wx Q σ vs S2.length (W2.add S2.length D) tg tt te (wipeE F.v vs) (xs.map .d)) (lcP_start a2 hD o3) (fun i H _ ⟨W, S, hn, hl, a, _⟩ => SqT.up a.rel.fz (SqT.le ((W2.add_le _ _).trans hl (Nat.le_succ _)) h)) (fun i x H hx hP => ?_) fun H hP => ?_
      · obtain ⟨d, hd, rd⟩ := item_of t hx
        exact lcP_turn (sv := .d d) (by rw [List.getElem?_map, hd]; rfl) (Wd.add_at _ _ _) (fun W n hl hn => RelD.le ((W2.add_le _ _).trans hl (Nat.le_succ _)) rd) hP
      · exact lcP_end (Wd.add_at _ _ _) (by rw [List.length_map, t.length]) hP
  · exact o1.elim
theorem lc_rng {lo : Int} {n : Nat} (hfi : FiOk fi) (a : At X.K cl W F S σ H) (o : Out X.K cl Wx (RSV X.K cl) F.b W S σ (lcAll fi vs tg tt te F.v (rng lo n) S) Q) (D : Addr) (hD : H D = none) :
    ∃ Wn : Nat → Nat → Hp → Prop, (∃ m, Wn 0 m (upd H D (.lst []))) ∧ ∀ i m H, Wn i m H →
      ((Itr lo n).stop i H ∧ Q (.ref D) H) ∨ ((Itr lo n).go i H ∧ ∃ Nx : Hp → Prop, (∀ H', Nx H' → ∃ m', m' < m ∧ Wn (i + 1) m' H') ∧ ∀ x H', (Itr lo n).yld i H x H' → RGw X (CL.pure cl) vs tg x (L2.wipe σ vs) H' fun σ2 H2 => L2.wipe σ2 vs = L2.wipe σ vs ∧ RT X (CL.pure cl) WF tt σ2 H2 fun b H3 =>
        if b = true then RE X (CL.pure cl) WF te σ2 H3 fun y H4 => ∃ acc, H4 D = some (.lst acc) ∧ acc.length < sizeLine ∧ Nx (upd H4 D (.lst (acc ++ [y]))) else Nx H3) := by
  have o3 := hfi.out a.rel a.b o
  refine lc_range (LcP X cl Wx Q σ vs S.length (W.add S.length D) tg tt te (wipeE F.v vs) (rng lo n)) (lcP_start a hD o3) (fun i H hi hP => lcP_turn (rng_at hi) (Wd.add_at _ _ _) (fun _ _ _ _ => RelD.int _) hP) fun H hP => ?_
  exact lcP_end (Wd.add_at _ _ _) (by rw [rng_len]) hP
variable {elt tgt iter ea eb : Expr} {ifs : List Expr} {own : List (Str × Nat)} {pos spos pc p py : Pos} {scope : Scope}
theorem lc_re1 (hfi : FiOk fi) (h : RE X cl Wx (eLcRW fi vs fa tg tt te) σ H Q) : RA X cl Wx fa σ H fun as H1 => ∃ n : Int, as = [.int n] ∧ -4611686018427387904 ≤ n ∧ n < 4611686018427387904 ∧ ∀ D, H1 D = none → ∃ Wn : Nat → Nat → Hp → Prop, (∃ m, Wn 0 m (upd H1 D (.lst []))) ∧ ∀ i m H, Wn i m H →
      ((Itr 0 n.toNat).stop i H ∧ Q (.ref D) H) ∨ ((Itr 0 n.toNat).go i H ∧ ∃ Nx : Hp → Prop, (∀ H', Nx H' → ∃ m', m' < m ∧ Wn (i + 1) m' H') ∧ ∀ x H', (Itr 0 n.toNat).yld i H x H' → RGw X (CL.pure cl) vs tg x (L2.wipe σ vs) H' fun σ2 H2 => L2.wipe σ2 vs = L2.wipe σ vs ∧ RT X (CL.pure cl) WF tt σ2 H2 fun b H3 =>
        if b = true then RE X (CL.pure cl) WF te σ2 H3 fun y H4 => ∃ acc, H4 D = some (.lst acc) ∧ acc.length < sizeLine ∧ Nx (upd H4 D (.lst (acc ++ [y]))) else Nx H3) := by
  obtain ⟨W, F, S, a, o⟩ := h
  refine RA.of a o fun W1 S1 as vs' H1 g1 l1 a1 q1 o1 => ?_
  unfold lcR at o1
  split at o1
  · split at o1
    · rename_i n hn
      simp only [small62, Bool.and_eq_true, decide_eq_true_eq] at hn
      match vs', q1 with
      | [v], .cons q .nil =>
        cases q
        exact ⟨n, rfl, by omega, by omega, fun D hD => lc_rng hfi a1 o1 D hD⟩
    · exact o1.elim
  · exact o1.elim
theorem lc_re2 (hfi : FiOk fi) (h : RE X cl Wx (eLcR2W fi vs fa tg tt te) σ H Q) : RA X cl Wx fa σ H fun as H1 => ∃ m n : Int, as = [.int m, .int n] ∧ (-4611686018427387904 ≤ m ∧ m < 4611686018427387904 ∧ -4611686018427387904 ≤ n ∧ n < 4611686018427387904) ∧ ∀ D, H1 D = none → ∃ Wn : Nat → Nat → Hp → Prop, (∃ m, Wn 0 m (upd H1 D (.lst []))) ∧ ∀ i k H, Wn i k H →
      ((Itr m (n - m).toNat).stop i H ∧ Q (.ref D) H) ∨ ((Itr m (n - m).toNat).go i H ∧ ∃ Nx : Hp → Prop, (∀ H', Nx H' → ∃ m', m' < k ∧ Wn (i + 1) m' H') ∧ ∀ x H', (Itr m (n - m).toNat).yld i H x H' → RGw X (CL.pure cl) vs tg x (L2.wipe σ vs) H' fun σ2 H2 => L2.wipe σ2 vs = L2.wipe σ vs ∧ RT X (CL.pure cl) WF tt σ2 H2 fun b H3 =>
        if b = true then RE X (CL.pure cl) WF te σ2 H3 fun y H4 => ∃ acc, H4 D = some (.lst acc) ∧ acc.length < sizeLine ∧ Nx (upd H4 D (.lst (acc ++ [y]))) else Nx H3) := by
  obtain ⟨W, F, S, a, o⟩ := h
  refine RA.of a o fun W1 S1 as vs' H1 g1 l1 a1 q1 o1 => ?_
  unfold lcR2 at o1
  split at o1
  · split at o1
    · rename_i m n hn
      simp only [small62, Bool.and_eq_true, decide_eq_true_eq] at hn
      match vs', q1 with
      | [v, u], .cons q (.cons q' .nil) =>
        cases q
        cases q'
        exact ⟨m, n, rfl, by omega, fun D hD => lc_rng hfi a1 o1 D hD⟩
    · exact o1.elim
  · exact o1.elim
theorem ev_lc (hfi : FiOk fi) (hc : X.calm = true) (hN : X.N.Nodup) (ok : BlkOk X.N X.env.scope scope own) (hvs : own.map (·.2) = vs := by rfl) (hi : PE X iter (RE X cl Wx fe)) (hg : ∀ (s : Shared) (H : Hp) (C : Addr) (cls : List (Str × Addr)) (fp : List Addr), PG (Blk X s H scope cls C fp) tgt (RGw (Blk X s H scope cls C fp) (CL.pure cl) vs tg)) (ht : ∀ (s : Shared) (H : Hp) (C : Addr) (cls : List (Str × Addr)) (fp : List Addr), PTs (Blk X s H scope cls C fp) ifs (RT (Blk X s H scope cls C fp) (CL.pure cl) WF tt))
    (he : ∀ (s : Shared) (H : Hp) (C : Addr) (cls : List (Str × Addr)) (fp : List Addr), PE (Blk X s H scope cls C fp) elt (RE (Blk X s H scope cls C fp) (CL.pure cl) WF te)) (hs : ∀ x, foldedSetIterable iter X.env x = pure x := by exact fun _ => rfl) :
    PE X (.ListComp elt [⟨tgt, iter, ifs, 0⟩] scope pos) (RE X cl Wx (eLcW fi vs fe tg tt te)) := by
  subst hvs
  exact PE.weak (pe_lc hc hN (pi_seq hi) ok hg ht he hs) fun σ H Q h => lc_re hfi h
theorem sv_setLc (i : Nat) {y : Str} (hfi : FiOk fi) (hc : X.calm = true) (hN : X.N.Nodup) (ok : BlkOk X.N X.env.scope scope own) (hvs : own.map (·.2) = vs := by rfl) (hi : PE X iter (RE X cl Wx fe)) (hy : X.N[i]? = some y) (hyl : X.env.scope.names.lookup y = some .local) (hsw : swapsWith (.ListComp elt [⟨tgt, iter, ifs, 0⟩] scope pos) (some (.Name y py)) spos.line X.env = pure true) (hg : ∀ (s : Shared) (H : Hp) (C : Addr) (cls : List (Str × Addr)) (fp : List Addr), PG (Blk X s H scope cls C fp) tgt (RGw (Blk X s H scope cls C fp) (CL.pure cl) vs tg)) (ht : ∀ (s : Shared) (H : Hp) (C : Addr) (cls : List (Str × Addr)) (fp : List Addr), PTs (Blk X s H scope cls C fp) ifs (RT (Blk X s H scope cls C fp) (CL.pure cl) WF tt))
    (he : ∀ (s : Shared) (H : Hp) (C : Addr) (cls : List (Str × Addr)) (fp : List Addr), PE (Blk X s H scope cls C fp) elt (RE (Blk X s H scope cls C fp) (CL.pure cl) WF te)) (hs : ∀ x, foldedSetIterable iter X.env x = pure x := by exact fun _ => rfl) :
    PS X (.Assign [.Name y py] (.ListComp elt [⟨tgt, iter, ifs, 0⟩] scope pos) spos) (RS X cl Wx (sSet i (eLcW fi vs fe tg tt te))) := by
  subst hvs
  exact PS.weak (ps_setLc hc hN hy hyl hsw (pi_seq hi) ok hg ht he hs) fun D σ H ⟨W, F, S, a, o⟩ => have h := RE.ofS (Q' := fun v H1 => gName i v σ H1 D.nx) a o fun W1 S1 y v H1 g1 l1 a1 q1 o1 => OutS.here o1 (a1.put i q1)
    lc_re hfi h
theorem ev_lcR1 (hfi : FiOk fi) (hc : X.calm = true) (hN : X.N.Nodup) (ok : BlkOk X.N X.env.scope scope own) (hvs : own.map (·.2) = vs := by rfl) (hgl : Gl X "range") (hm : X.mg "range" = none) (ha : PA X [ea] (RA X cl Wx fa)) (hg : ∀ (s : Shared) (H : Hp) (C : Addr) (cls : List (Str × Addr)) (fp : List Addr), PG (Blk X s H scope cls C fp) tgt (RGw (Blk X s H scope cls C fp) (CL.pure cl) vs tg)) (ht : ∀ (s : Shared) (H : Hp) (C : Addr) (cls : List (Str × Addr)) (fp : List Addr), PTs (Blk X s H scope cls C fp) ifs (RT (Blk X s H scope cls C fp) (CL.pure cl) WF tt))
    (he : ∀ (s : Shared) (H : Hp) (C : Addr) (cls : List (Str × Addr)) (fp : List Addr), PE (Blk X s H scope cls C fp) elt (RE (Blk X s H scope cls C fp) (CL.pure cl) WF te)) (hs : starEach [ea] X.env = [(false, eval ea X.env)] := by rfl) :
    PE X (.ListComp elt [⟨tgt, (.Call (.Name "range" p) [ea] [] pc), ifs, 0⟩] scope pos) (RE X cl Wx (eLcRW fi vs fa tg tt te)) := by
  subst hvs
  exact PE.weak (pe_lc hc hN (pi_range1 hgl hm ha hs) ok hg ht he) fun σ H Q h => lc_re1 hfi h
theorem sv_setLcR1 (i : Nat) {y : Str} (hfi : FiOk fi) (hc : X.calm = true) (hN : X.N.Nodup) (ok : BlkOk X.N X.env.scope scope own) (hvs : own.map (·.2) = vs := by rfl) (hgl : Gl X "range") (hm : X.mg "range" = none) (ha : PA X [ea] (RA X cl Wx fa)) (hy : X.N[i]? = some y) (hyl : X.env.scope.names.lookup y = some .local) (hsw : swapsWith (.ListComp elt [⟨tgt, (.Call (.Name "range" p) [ea] [] pc), ifs, 0⟩] scope pos) (some (.Name y py)) spos.line X.env = pure true) (hg : ∀ (s : Shared) (H : Hp) (C : Addr) (cls : List (Str × Addr)) (fp : List Addr), PG (Blk X s H scope cls C fp) tgt (RGw (Blk X s H scope cls C fp) (CL.pure cl) vs tg)) (ht : ∀ (s : Shared) (H : Hp) (C : Addr) (cls : List (Str × Addr)) (fp : List Addr), PTs (Blk X s H scope cls C fp) ifs (RT (Blk X s H scope cls C fp) (CL.pure cl) WF tt))
    (he : ∀ (s : Shared) (H : Hp) (C : Addr) (cls : List (Str × Addr)) (fp : List Addr), PE (Blk X s H scope cls C fp) elt (RE (Blk X s H scope cls C fp) (CL.pure cl) WF te)) (hs : starEach [ea] X.env = [(false, eval ea X.env)] := by rfl) :
    PS X (.Assign [.Name y py] (.ListComp elt [⟨tgt, (.Call (.Name "range" p) [ea] [] pc), ifs, 0⟩] scope pos) spos) (RS X cl Wx (sSet i (eLcRW fi vs fa tg tt te))) := by
  subst hvs
  exact PS.weak (ps_setLc hc hN hy hyl hsw (pi_range1 hgl hm ha hs) ok hg ht he) fun D σ H ⟨W, F, S, a, o⟩ => have h := RE.ofS (Q' := fun v H1 => gName i v σ H1 D.nx) a o fun W1 S1 y v H1 g1 l1 a1 q1 o1 => OutS.here o1 (a1.put i q1)
    lc_re1 hfi h
theorem ev_lcR2 (hfi : FiOk fi) (hc : X.calm = true) (hN : X.N.Nodup) (ok : BlkOk X.N X.env.scope scope own) (hvs : own.map (·.2) = vs := by rfl) (hgl : Gl X "range") (hm : X.mg "range" = none) (ha : PA X [ea, eb] (RA X cl Wx fa)) (hg : ∀ (s : Shared) (H : Hp) (C : Addr) (cls : List (Str × Addr)) (fp : List Addr), PG (Blk X s H scope cls C fp) tgt (RGw (Blk X s H scope cls C fp) (CL.pure cl) vs tg)) (ht : ∀ (s : Shared) (H : Hp) (C : Addr) (cls : List (Str × Addr)) (fp : List Addr), PTs (Blk X s H scope cls C fp) ifs (RT (Blk X s H scope cls C fp) (CL.pure cl) WF tt))
    (he : ∀ (s : Shared) (H : Hp) (C : Addr) (cls : List (Str × Addr)) (fp : List Addr), PE (Blk X s H scope cls C fp) elt (RE (Blk X s H scope cls C fp) (CL.pure cl) WF te)) (hs : starEach [ea, eb] X.env = [(false, eval ea X.env), (false, eval eb X.env)] := by rfl) (hs2 : starEach [eb] X.env = [(false, eval eb X.env)] := by rfl) :
    PE X (.ListComp elt [⟨tgt, (.Call (.Name "range" p) [ea, eb] [] pc), ifs, 0⟩] scope pos) (RE X cl Wx (eLcR2W fi vs fa tg tt te)) := by
  subst hvs
  exact PE.weak (pe_lc hc hN (pi_range2 hgl hm ha hs hs2) ok hg ht he) fun σ H Q h => lc_re2 hfi h
theorem sv_setLcR2 (i : Nat) {y : Str} (hfi : FiOk fi) (hc : X.calm = true) (hN : X.N.Nodup) (ok : BlkOk X.N X.env.scope scope own) (hvs : own.map (·.2) = vs := by rfl) (hgl : Gl X "range") (hm : X.mg "range" = none) (ha : PA X [ea, eb] (RA X cl Wx fa)) (hy : X.N[i]? = some y) (hyl : X.env.scope.names.lookup y = some .local) (hsw : swapsWith (.ListComp elt [⟨tgt, (.Call (.Name "range" p) [ea, eb] [] pc), ifs, 0⟩] scope pos) (some (.Name y py)) spos.line X.env = pure true) (hg : ∀ (s : Shared) (H : Hp) (C : Addr) (cls : List (Str × Addr)) (fp : List Addr), PG (Blk X s H scope cls C fp) tgt (RGw (Blk X s H scope cls C fp) (CL.pure cl) vs tg)) (ht : ∀ (s : Shared) (H : Hp) (C : Addr) (cls : List (Str × Addr)) (fp : List Addr), PTs (Blk X s H scope cls C fp) ifs (RT (Blk X s H scope cls C fp) (CL.pure cl) WF tt))
    (he : ∀ (s : Shared) (H : Hp) (C : Addr) (cls : List (Str × Addr)) (fp : List Addr), PE (Blk X s H scope cls C fp) elt (RE (Blk X s H scope cls C fp) (CL.pure cl) WF te)) (hs : starEach [ea, eb] X.env = [(false, eval ea X.env), (false, eval eb X.env)] := by rfl) (hs2 : starEach [eb] X.env = [(false, eval eb X.env)] := by rfl) :
    PS X (.Assign [.Name y py] (.ListComp elt [⟨tgt, (.Call (.Name "range" p) [ea, eb] [] pc), ifs, 0⟩] scope pos) spos) (RS X cl Wx (sSet i (eLcR2W fi vs fa tg tt te))) := by
  subst hvs
  exact PS.weak (ps_setLc hc hN hy hyl hsw (pi_range2 hgl hm ha hs hs2) ok hg ht he) fun D σ H ⟨W, F, S, a, o⟩ => have h := RE.ofS (Q' := fun v H1 => gName i v σ H1 D.nx) a o fun W1 S1 y v H1 g1 l1 a1 q1 o1 => OutS.here o1 (a1.put i q1)
    lc_re2 hfi h
end
end Ev

set_option Elab.async false
set_option linter.all false
set_option maxRecDepth 100000
/-! Ev14: great products, signs, truth; how comprehensions are reckoned. -/
namespace Ev
open PySem L2
section
variable {X : Cx} {cl : CL} {Wx : WX} {a : Expr} {fe : Fr → Sto → Res SV} {pos : Pos} {W : Wd} {S : Sto} {H : Hp}
def wide (i : Int) : Bool := decide (i.natAbs < 2 ^ 16384)
abbrev opMulX := opInt (fun i j => big64 i || big64 j || (wide i && wide j)) fun i j => .int (i * j)
theorem ov_mulX : OpR X (binaryOp .Mult) (ROp X cl opMulX) := OpR.weak (OpR.or (ov_mul (cl := cl)) (ov_int (cl := cl) (C := fun i j => wide i && wide j) op_mulX (fun i j h => by
  simp only [wide, Bool.and_eq_true, decide_eq_true_eq] at h
  exact mulx_ok h.1 h.2 (by decide)) fun _ _ _ i j => .int _)) fun x y H Q ⟨W, S, a, b, z, r, ra, rb, e, k⟩ => by
    unfold opMulX opInt at e
    split at e
    · rename_i i j ea eb
      split at e
      · rename_i h
        cases e
        by_cases h2 : (big64 i || big64 j) = true
        · exact .inl ⟨W, S, a, b, _, r, ra, rb, by unfold opMul opInt; simp only [ea, eb]; rw [if_pos h2], k⟩
        · refine .inr ⟨W, S, a, b, _, r, ra, rb, ?_, k⟩
          unfold opInt
          simp only [ea, eb]
          rw [if_pos]
          have h3 : (big64 i || big64 j || (wide i && wide j)) = true := h
          rw [Bool.or_eq_true] at h3
          exact h3.resolve_left h2
      · cases e
    · cases e
def eNeg (fe : Fr → Sto → Res SV) : Fr → Sto → Res SV := fun F S => (fe F S).bind fun x S1 => match view S1 x with
  | some (.int i) => .ok (.d (.int (-i))) S1
  | _ => .bad
theorem ev_neg (he : PE X a (RE X cl Wx fe)) : PE X (.UnaryOp .USub a pos) (RE X cl Wx (eNeg fe)) :=
  PE.weak (pe_un un_neg he) fun σ H Q ⟨W, F, S, a, o⟩ => RE.of a o fun W1 S1 x v H1 g1 l1 a1 q1 o1 => by
    split at o1
    · rename_i i e
      exact ⟨i, view_int a1.rel e q1, o1.here a1.rel (RelD.int _)⟩
    · exact o1.elim
def truS (S : Sto) : SV → Option Bool
  | .d .non => some false
  | .d (.bl b) => some b
  | .d (.int i) => some (i != 0)
  | .d (.lst xs) => some (!xs.isEmpty)
  | .d (.tup xs) => some (!xs.isEmpty)
  | .m i => match S[i]? with
    | some (.lst xs) => some (!xs.isEmpty)
    | _ => none
  | _ => none
theorem paired_empty {α β : Type} {R : α → β → Prop} {xs : List α} {ys : List β} (h : Paired R xs ys) : ys.isEmpty = xs.isEmpty := by cases h <;> rfl
theorem truS_rel {K : PySem.W.Frag} (r : Rel K cl W S H) {x : SV} {v : V} {c : Bool} (e : truS S x = some c) (q : RelSV K cl W S.length x v) : TruV K v H c := by
  cases x with
  | d y =>
    cases y <;> first | (cases e; done) | skip
    · cases e; cases q; rfl
    · cases e; cases q; rfl
    · cases e; cases q; rfl
    · cases e; cases q with
      | tup h t => exact .inr (.inl ⟨_, SqT.up r.fz h, by rw [paired_empty t.paired]⟩)
    · cases e; cases q with
      | lst h t => exact .inl ⟨_, SqL.up r.fz h, by rw [paired_empty t.paired]⟩
  | m i =>
    obtain ⟨_, rfl⟩ := q
    simp only [truS] at e
    split at e
    · rename_i xs hx
      cases e
      obtain ⟨_, vs, h1, h2⟩ := r.st i _ hx
      exact .inl ⟨vs, SqL.of h1, by rw [paired_empty h2]⟩
    · cases e
def tTr (fe : Fr → Sto → Res SV) : Fr → Sto → Res Bool := fun F S => (fe F S).bind fun x S1 => match truS S1 x with
  | some c => .ok c S1
  | none => .bad
theorem tv_truth (he : PE X a (RE X cl Wx fe)) (hh : ∀ whole, isTrue a X.env whole = (do let v ← whole; standAt a.pos; holding [v] (truthy v)) := by exact fun _ => rfl) : PT X a (RT X cl Wx (tTr fe)) :=
  ⟨fun pins s σ H Q I h => (pt_truth he hh).run pins s σ H Q I (by
    obtain ⟨W, F, S, a, o⟩ := h
    refine RE.ofT a o fun W1 S1 x v H1 g1 l1 a1 q1 o1 => ?_
    split at o1
    · rename_i c e
      exact ⟨c, truS_rel a1.rel e q1, o1.here a1.rel rfl⟩
    · exact o1.elim)⟩
end
theorem tk_F {X : Cx} : L2N.Takes X WF := fun u s' ⟨a, B, sI, pins, σ, H, cls, d, e, I, nb, up, sky, na, os, ag, w⟩ => w.elim
/-! ### how they are reckoned -/
def negR : Option Dv → Sto → Res SV
  | some (.int i), S => .ok (.d (.int (-i))) S
  | _, _ => .bad
@[simp] theorem negR_i (i : Int) (S : Sto) : negR (some (.int i)) S = .ok (.d (.int (-i))) S := Eq.trans rfl rfl
def kNeg (r : Res SV) : Res SV := r.bind fun x S1 => negR (view S1 x) S1
@[simp] theorem kNeg_ok (x : SV) (S1 : Sto) : kNeg (.ok x S1) = negR (view S1 x) S1 := Eq.trans rfl rfl
@[simp] theorem eNeg_ap (f : Fr → Sto → Res SV) (F : Fr) (S : Sto) : eNeg f F S = kNeg (f F S) := by
  show (f F S).bind _ = (f F S).bind _
  congr 1
  funext x S1
  cases view S1 x with
  | none => rfl
  | some y => cases y <;> rfl
def truR : Option Bool → Sto → Res Bool
  | some c, S => .ok c S
  | none, _ => .bad
@[simp] theorem truR_s (c : Bool) (S : Sto) : truR (some c) S = .ok c S := Eq.trans rfl rfl
def kTr (r : Res SV) : Res Bool := r.bind fun x S1 => truR (truS S1 x) S1
@[simp] theorem kTr_ok (x : SV) (S1 : Sto) : kTr (.ok x S1) = truR (truS S1 x) S1 := Eq.trans rfl rfl
@[simp] theorem tTr_ap (f : Fr → Sto → Res SV) (F : Fr) (S : Sto) : tTr f F S = kTr (f F S) := by
  show (f F S).bind _ = (f F S).bind _
  congr 1
  funext x S1
  cases truS S1 x <;> rfl
@[simp] theorem truS_bl (S : Sto) (b : Bool) : truS S (.d (.bl b)) = some b := Eq.trans rfl rfl
@[simp] theorem truS_non (S : Sto) : truS S (.d .non) = some false := Eq.trans rfl rfl
@[simp] theorem truS_int (S : Sto) (i : Int) : truS S (.d (.int i)) = some (i != 0) := Eq.trans rfl rfl
@[simp] theorem truS_lst (S : Sto) (i : List Dv) : truS S (.d (.lst i)) = some (!i.isEmpty) := Eq.trans rfl rfl
@[simp] theorem truS_tup (S : Sto) (i : List Dv) : truS S (.d (.tup i)) = some (!i.isEmpty) := Eq.trans rfl rfl
def kLc (fi : Nat → Res SV → Res SV) (vs : List Nat) (tg : Tg) (tt : Fr → Sto → Res Bool) (te : Fr → Sto → Res SV) (v : Env) (r : Res SV) : Res SV := r.bind fun x S1 => lcS fi vs tg tt te v (freeze S1 x)
@[simp] theorem kLc_ok (fi : Nat → Res SV → Res SV) (vs : List Nat) (tg : Tg) (tt : Fr → Sto → Res Bool) (te : Fr → Sto → Res SV) (v : Env) (x : SV) (S1 : Sto) : kLc fi vs tg tt te v (.ok x S1) = lcS fi vs tg tt te v (freeze S1 x) := Eq.trans rfl rfl
@[simp] theorem eLcW_ap (fi : Nat → Res SV → Res SV) (vs : List Nat) (fe : Fr → Sto → Res SV) (tg : Tg) (tt : Fr → Sto → Res Bool) (te : Fr → Sto → Res SV) (F : Fr) (S : Sto) : eLcW fi vs fe tg tt te F S = kLc fi vs tg tt te F.v (fe F S) := Eq.trans rfl rfl
@[simp] theorem lcS_l (fi : Nat → Res SV → Res SV) (vs : List Nat) (tg : Tg) (tt : Fr → Sto → Res Bool) (te : Fr → Sto → Res SV) (v : Env) (xs : List Dv) (S : Sto) : lcS fi vs tg tt te v (some (.lst xs, S)) = lcAll fi vs tg tt te v (xs.map .d) S := Eq.trans rfl rfl
@[simp] theorem lcS_t (fi : Nat → Res SV → Res SV) (vs : List Nat) (tg : Tg) (tt : Fr → Sto → Res Bool) (te : Fr → Sto → Res SV) (v : Env) (xs : List Dv) (S : Sto) : lcS fi vs tg tt te v (some (.tup xs, S)) = lcAll fi vs tg tt te v (xs.map .d) S := Eq.trans rfl rfl
def kLcR (fi : Nat → Res SV → Res SV) (vs : List Nat) (tg : Tg) (tt : Fr → Sto → Res Bool) (te : Fr → Sto → Res SV) (v : Env) (r : Res (List SV)) : Res SV := r.bind fun as S1 => lcR fi vs tg tt te v S1 as
@[simp] theorem kLcR_ok (fi : Nat → Res SV → Res SV) (vs : List Nat) (tg : Tg) (tt : Fr → Sto → Res Bool) (te : Fr → Sto → Res SV) (v : Env) (as : List SV) (S1 : Sto) : kLcR fi vs tg tt te v (.ok as S1) = lcR fi vs tg tt te v S1 as := Eq.trans rfl rfl
@[simp] theorem eLcRW_ap (fi : Nat → Res SV → Res SV) (vs : List Nat) (fa : Fr → Sto → Res (List SV)) (tg : Tg) (tt : Fr → Sto → Res Bool) (te : Fr → Sto → Res SV) (F : Fr) (S : Sto) : eLcRW fi vs fa tg tt te F S = kLcR fi vs tg tt te F.v (fa F S) := Eq.trans rfl rfl
@[simp] theorem lcR_i (fi : Nat → Res SV → Res SV) (vs : List Nat) (tg : Tg) (tt : Fr → Sto → Res Bool) (te : Fr → Sto → Res SV) (v : Env) (S : Sto) (n : Int) : lcR fi vs tg tt te v S [.d (.int n)] = if small62 n = true then lcAll fi vs tg tt te v (rng 0 n.toNat) S else .bad := Eq.trans rfl rfl
def kLcR2 (fi : Nat → Res SV → Res SV) (vs : List Nat) (tg : Tg) (tt : Fr → Sto → Res Bool) (te : Fr → Sto → Res SV) (v : Env) (r : Res (List SV)) : Res SV := r.bind fun as S1 => lcR2 fi vs tg tt te v S1 as
@[simp] theorem kLcR2_ok (fi : Nat → Res SV → Res SV) (vs : List Nat) (tg : Tg) (tt : Fr → Sto → Res Bool) (te : Fr → Sto → Res SV) (v : Env) (as : List SV) (S1 : Sto) : kLcR2 fi vs tg tt te v (.ok as S1) = lcR2 fi vs tg tt te v S1 as := Eq.trans rfl rfl
@[simp] theorem eLcR2W_ap (fi : Nat → Res SV → Res SV) (vs : List Nat) (fa : Fr → Sto → Res (List SV)) (tg : Tg) (tt : Fr → Sto → Res Bool) (te : Fr → Sto → Res SV) (F : Fr) (S : Sto) : eLcR2W fi vs fa tg tt te F S = kLcR2 fi vs tg tt te F.v (fa F S) := Eq.trans rfl rfl
@[simp] theorem lcR2_i (fi : Nat → Res SV → Res SV) (vs : List Nat) (tg : Tg) (tt : Fr → Sto → Res Bool) (te : Fr → Sto → Res SV) (v : Env) (S : Sto) (m n : Int) : lcR2 fi vs tg tt te v S [.d (.int m), .d (.int n)] = if (small62 m && small62 n) = true then lcAll fi vs tg tt te v (rng m (n - m).toNat) S else .bad := Eq.trans rfl rfl
@[simp] theorem tYs_ap (F : Fr) (S : Sto) : tYs F S = .ok true S := Eq.trans rfl rfl
@[simp] theorem wipeE_nil (v : Env) : wipeE v [] = v := Eq.trans rfl rfl
@[simp] theorem wipeE_cons (v : Env) (i : Nat) (r : List Nat) : wipeE v (i :: r) = (wipeE v r).set i none := Eq.trans rfl rfl
/-- elements that are reckoned without a change of the store -/
theorem lcL_pure {tg : Tg} {te : Fr → Sto → Res SV} {b : Nat} {ve : Env} (f : SV → Dv) {B : Sto} (hb : B.length = b) : ∀ (xs : List SV) (acc : List Dv), acc.length + xs.length ≤ most →
    (∀ x ∈ xs, ∀ zs, ∃ v1, tg x ⟨b, ve⟩ (B ++ [.lst zs]) = some v1 ∧ te ⟨b, v1⟩ (B ++ [.lst zs]) = .ok (.d (f x)) (B ++ [.lst zs])) →
    lcL tg tYs te b ve xs (B ++ [.lst (acc.map .d)]) = .ok (.m b) (B ++ [.lst ((acc ++ xs.map f).map .d)])
  | [], acc, _, _ => by simp [lcL]
  | x :: r, acc, hl, h => by
    obtain ⟨v1, h1, h2⟩ := h x (List.mem_cons_self ..) (acc.map .d)
    simp only [List.length_cons] at hl
    have ih := lcL_pure (te := te) (tg := tg) (ve := ve) f hb r (acc ++ [f x]) (by simp; omega) fun y hy zs => h y (List.mem_cons_of_mem _ hy) zs
    unfold lcL
    have hg : (B ++ [MO.lst (acc.map SV.d)])[b]? = some (.lst (acc.map .d)) := by subst hb; simp
    simp only [h1, tYs_ap, noX_ok, Res.bind_ok, h2, if_true, hg, lcPut, List.length_map]
    rw [if_pos (by omega)]
    simp only
    have hs : (B ++ [MO.lst (acc.map SV.d)]).set b (.lst (acc.map .d ++ [.d (f x)])) = B ++ [.lst ((acc ++ [f x]).map .d)] := by subst hb; simp
    rw [hs, ih]
    simp
theorem lcAll_pure {tg : Tg} {te : Fr → Sto → Res SV} {vs : List Nat} {v : Env} {S : Sto} {xs : List SV} (f : SV → Dv) (hl : xs.length ≤ most)
    (h : ∀ x ∈ xs, ∀ zs, ∃ v1, tg x ⟨S.length, wipeE v vs⟩ (S ++ [.lst zs]) = some v1 ∧ te ⟨S.length, v1⟩ (S ++ [.lst zs]) = .ok (.d (f x)) (S ++ [.lst zs])) :
    lcAll fin vs tg tYs te v xs S = .ok (.d (.lst (xs.map f))) S := by
  unfold lcAll
  have e := lcL_pure (te := te) (tg := tg) (ve := wipeE v vs) f (B := S) rfl xs [] (by simpa using hl) h
  simp only [List.map_nil, List.nil_append] at e
  rw [e]
  unfold fin
  have q : freeze (S ++ [MO.lst ((xs.map f).map SV.d)]) (SV.m S.length) = _ := freeze_lst (xs := xs.map f) (by simp)
  simp only [q]
  congr 1
  simp
@[simp] theorem instOf_lst (S : Sto) (xs : List Dv) : instOf S (.d (.lst xs)) = none := Eq.trans rfl rfl
@[simp] theorem instOf_tup (S : Sto) (xs : List Dv) : instOf S (.d (.tup xs)) = none := Eq.trans rfl rfl
@[simp] theorem instOf_str (S : Sto) (x : Str) : instOf S (.d (.str x)) = none := Eq.trans rfl rfl
@[simp] theorem opAdd_ll (S : Sto) (xs ys : List Dv) : opAdd S (.d (.lst xs)) (.d (.lst ys)) = if xs.length + ys.length ≤ most then some (.lst (xs ++ ys)) else none := Eq.trans rfl rfl
@[simp] theorem opAdd_tt (S : Sto) (xs ys : List Dv) : opAdd S (.d (.tup xs)) (.d (.tup ys)) = if xs.length + ys.length ≤ most then some (.tup (xs ++ ys)) else none := Eq.trans rfl rfl
@[simp] theorem opAdd_ss (S : Sto) (xs ys : Str) : opAdd S (.d (.str xs)) (.d (.str ys)) = if xs.length + ys.length ≤ most then some (.str (xs ++ ys)) else none := Eq.trans rfl rfl
end Ev

set_option Elab.async false
set_option linter.all false
set_option maxRecDepth 100000
set_option maxHeartbeats 1000000
/-! Ev15: own errors: made, raised, caught, looked at. -/
namespace Ev
open PySem L2
/-- what the base class of the errors says: Base.__init__(self, ..) is ValueError's -/
structure BaseC (K : PySem.W.Frag) (CH : Addr) : Prop where
  sp : PySem.W.specialIn K (.ref CH) "__getattribute__" = some (some (.builtin "type.__getattribute__"))
  rd : PySem.W.readsIn K CH (.type "type") = true
  ini : PySem.W.findCls K (.ref CH) (.type "type") "__init__" = some (.val (.builtin "ValueError.__init__"))
section
variable {X : Cx} {e : Expr} {es : List Expr} {ta : TA} {CH : Addr} {x : Str} {p1 p2 pos : Pos}
theorem pe_baseInit {pl : Sem Bool} (B : BaseC X.K CH) (hg : Gl X x) (hm : X.mg x = some (.ref CH)) (ha : PA X (e :: es) ta) (hdb : (x == ("__debug__" : Str)) = false := by decide +kernel)
    (hc : eval (.Call (.Attribute (.Name x p1) "__init__" p2) (e :: es) [] pos) X.env = (do
      let ov ← eval (.Name x p1) X.env
      standAt p2.atName
      let (f, first) ← holding [ov] (getMethod ov "__init__" pl)
      callWith pos f first (backTo pos (starEach (e :: es) X.env)) (backToKw pos (keywordEach [] X.env))) := by rfl)
    (he : starEach (e :: es) X.env = (false, eval e X.env) :: starEach es X.env := by rfl) (hpl : (backTo pos (starEach es X.env)).any (·.1) = false := by rfl) :
    PE X (.Call (.Attribute (.Name x p1) "__init__" p2) (e :: es) [] pos) (tVeI X.K ta) := by
  constructor
  intro pins s σ H Q I h
  refine PySem.W.methodCall_KW (ld_glob I hg hm ?_ hdb) hc
  refine PySem.W.method_cls I.kIn B.sp (PySem.W.cls_value I.kIn B.rd B.ini (by decide +kernel) ?_)
  have I' := I.tok (s.toks + 1)
  refine PyProof.Rows.callWith_method1 (thn (ha.run pos pins _ σ H _ I' h) fun us s1 ⟨vs, H1, I1, r1, a, C, ws, ev, hl, T, ea, q⟩ => ?_) he hpl
  subst ev
  match us, r1 with
  | u0 :: ur, .cons ra rr =>
    obtain rfl : u0 = Value.ref a := ra
    have hlen : ur.length ≤ sizeLine := by
      have := Paired.length rr
      have := sizeLine_eq
      omega
    exact oinit_ok T I1 ea hlen fun s' J => ⟨.non, H1, J, rfl, q⟩
end
/-! ### __init__ of an error -/
def tSts (K : PySem.W.Frag) : List (Str × Nat) → TS
  | [] => tNext
  | q :: r => tSeq (tOst K q.1 (tVar 0) (tVar q.2)) (tSts K r)
/-- an error's __init__: it keeps its arguments in the fields -/
def SpI (C : Addr) (fs : List Str) : Sp := fun vs H Q _ => ∃ a ws, vs = .ref a :: ws ∧ H a = some (exo a C none) ∧ ws.length = fs.length ∧
  ∀ d H2, H d = none → d ≠ a → H2 a = some (exo a C (some d)) → H2 d = some (exd d (fs.zip ws).reverse) → (∀ b, b ≠ a → b ≠ d → H2 b = H b) → Q .non H2
theorem sts_ok {K : PySem.W.Frag} {C a d : Addr} (T : OexC K C) {D : Ends} {σ : St} (had : d ≠ a) (h0 : σ[0]? = some (some (V.ref a))) : ∀ (l : List (Str × Nat)) (ws : List V) (gs : List (Str × V)) (H : Hp), l.length = ws.length → gs.length + l.length ≤ 900 → (∀ p ∈ l, PySem.W.findIn K (.ref C) p.1 = some none) →
    (∀ (j : Nat) (p : Str × Nat) (w : V), l[j]? = some p → ws[j]? = some w → σ[p.2]? = some (some w)) → H a = some (exo a C (some d)) → H d = some (exd d gs) →
    (∀ H', H' a = H a → H' d = some (exd d (((l.map (·.1)).zip ws).reverse ++ gs)) → (∀ b, b ≠ d → H' b = H b) → D.nx σ H') → tSts K l D σ H
  | [], [], gs, H, _, _, _, _, ha, hd, k => k H rfl (by simpa using hd) fun _ _ => rfl
  | q :: r, w :: ws, gs, H, hl, hz, hf, hw, ha, hd, k => by
    simp only [List.length_cons] at hl hz
    refine ⟨w, hw 0 q w rfl rfl, .ref a, h0, a, C, rfl, T, hf q (List.mem_cons_self ..), .inr ⟨d, gs, ha, hd, by omega, ?_⟩⟩
    refine sts_ok T had h0 r ws ((q.1, w) :: gs) _ (by omega) (by simp only [List.length_cons]; omega) (fun p hp => hf p (List.mem_cons_of_mem _ hp)) (fun j p w' h1 h2 => hw (j + 1) p w' h1 h2) ?_ upd_same fun H' e1 e2 e3 => ?_
    · rw [upd_ne (Ne.symm had)]; exact ha
    · refine k H' ?_ ?_ fun b hb => ?_
      · rw [e1, upd_ne (Ne.symm had)]
      · rw [e2]
        simp
      · rw [e3 b hb, upd_ne hb]
theorem ini_ok {P : Program} {w : World} {K : PySem.W.Frag} {mg : Str → Option Value} {base : Heap} {x qual : Str} {st : Stmt} {f C : Addr} {fd : FuncData} {N ps : List Str} {k : Nat} (Fu : Fun K x qual st f fd) (Sc : FnScope N ps (defScope st)) (T : OexC K C) (fs : List Str) (txt : Str)
    (hp : ps.length = fs.length + 1) (h0 : 0 < fs.length) (hz : fs.length ≤ 900) (hf : ∀ g ∈ fs, PySem.W.findIn K (.ref C) g = some none)
    (hbody : ∀ (cdv : Value) (A : Around) (outer : List PySem.Env) (s : Shared) (H : Hp) (E : XK), Room k (cxOf (L2N.CX P w) P w K mg base N qual (defScope st) f cdv A outer s H E).A →
      PSs (cxOf (L2N.CX P w) P w K mg base N qual (defScope st) f cdv A outer s H E) (defBody st) (tSeq (tDrop (tVeI K (tCons (tVar 0) (tCons (tC (.str txt)) tNil)))) (tSts K (fs.zipIdx 1)))) :
    FnOk P w K mg base (L2N.CX P w) (k + 1) f fd ps (SpI C fs) := by
  refine okN Fu Sc (fun vs H Q E ⟨a, ws, e, _, hl, _⟩ => ?_) fun cdv A outer s H vs Q E hr ⟨a, ws, e, ha, hl, q⟩ => ⟨_, hbody cdv A outer s H E hr, ?_⟩
  · rw [e, List.length_cons, hl, hp]
  · subst e
    have g0 : (L2.start N (V.ref a :: ws))[0]? = some (some (V.ref a)) := rfl
    have gi : ∀ (j : Nat) (v : V), ws[j]? = some v → (L2.start N (V.ref a :: ws))[j + 1]? = some (some v) := fun j v h => by
      unfold L2.start
      have hj := (List.getElem?_eq_some_iff.mp h).1
      rw [List.getElem?_append_left (by simp; omega), List.getElem?_map, List.getElem?_cons_succ, h]
      rfl
    refine ⟨_, g0, a, C, _, rfl, by simp, T, ha, ?_⟩
    match fs, ws, hl, h0 with
    | g :: gs, v :: vs, hl, _ =>
      simp only [List.length_cons] at hl hz
      refine ⟨v, gi 0 v rfl, .ref a, g0, a, C, rfl, T, hf g (List.mem_cons_self ..), .inl ⟨ha, fun d hd hda => ?_⟩⟩
      refine sts_ok T hda g0 (gs.zipIdx 2) vs [(g, v)] _ (by simp; omega) (by simp; omega) (fun p hp => hf p.1 (List.mem_cons_of_mem _ ?_)) (fun j p w h1 h2 => ?_) upd_same ?_ fun H' e1 e2 e3 => ?_
      · obtain ⟨b, i⟩ := p
        have := List.mem_zipIdx hp
        rw [this.2.2]
        exact List.getElem_mem _
      · rw [List.getElem?_zipIdx] at h1
        cases hg : gs[j]? with
        | none => rw [hg] at h1; cases h1
        | some y =>
          rw [hg] at h1
          cases h1
          rw [show 2 + j = (j + 1) + 1 by omega]
          exact gi (j + 1) w h2
      · rw [upd_ne hda, upd_same]
      · refine q d H' hd hda ?_ ?_ fun b hb1 hb2 => ?_
        · rw [e1, upd_same]
        · rw [e2]
          have : ((gs.zipIdx 2).map (·.1)) = gs := by simp
          rw [this]
          simp
        · rw [e3 b hb2, upd_ne hb1, upd_ne hb2]
theorem zip_rev {α β : Type} : ∀ {xs : List α} {ys : List β}, xs.length = ys.length → (xs.zip ys).reverse = xs.reverse.zip ys.reverse
  | [], [], _ => rfl
  | x :: xs, y :: ys, h => by
    have h1 : xs.length = ys.length := Nat.succ.inj h
    rw [List.zip_cons_cons, List.reverse_cons, zip_rev h1, List.reverse_cons, List.reverse_cons, List.zip_append (by rw [List.length_reverse, List.length_reverse, h1])]
    rfl
theorem paired_rev {α β : Type} {R : α → β → Prop} : ∀ {xs : List α} {ys : List β}, Paired R xs ys → Paired R xs.reverse ys.reverse
  | _, _, .nil => .nil
  | _, _, .cons q t => by
    rw [List.reverse_cons, List.reverse_cons]
    exact paired_snoc (paired_rev t) q
/-! ### an error is made, its context None -/
section
variable {X : Cx} {pins : List (Addr × Obj)} {σ : St} {x : Str} {e : Expr} {es : List Expr} {ta : TA} {p pos : Pos}
/-- C(e, ..), C's own __init__ keeping sp -/
theorem pmk_oexN {ct : CXT} {C fi : Addr} {lv : Nat} {fd : FuncData} {names : List Str} {sp : Sp} {ds : List Value} {dvs : List V} (T : OexC X.K C) (hini : PySem.W.findIn X.K (.ref C) "__init__" = some (some (.ref fi))) (hty : PySem.W.typeIn X.K (.ref fi) = some (.type "function"))
    (G : FnOk X.prog X.w X.K X.mg X.base ct lv fi fd names sp) (room : Room (lv + 1) X.A) (bnd : Binds X.K fd names ds) (dv : Vals dvs ds) (hps : Passes ct X (fun _ _ _ => False)) (hgl : Gl X x) (hmg : X.mg x = some (.ref C)) (args : PA X (e :: es) ta)
    (hdb : (x == ("__debug__" : Str)) = false := by decide +kernel) (hst : starEach (e :: es) X.env = (false, eval e X.env) :: starEach es X.env := by rfl) (hns : (backTo pos (starEach es X.env)).any (·.1) = false := by rfl) :
    L2N.PMk X (.Call (.Name x p) (e :: es) [] pos) (tMkO C sp dvs ta) := by
  intro pins s σ H Q I hh
  obtain ⟨nm, qn, N, bs, bm, sn, sub, ab, col, dd, k0, k1, k2, k3, k5, lkC, refs⟩ := T.cls
  refine wpAny_Call_Name_kw (ld_glob I hgl hmg ?_ hdb)
  refine PySem.W.callWith_K (h₀ := X.base) I.ok.mod.kin T.kC ?_ hst hns
  refine thn (args.run pos pins s σ H _ I hh) fun us s1 ⟨vs, H1, J, rel, short, want⟩ => ⟨J.kIn, ?_⟩
  show wpAny _ _ (call (.ref C) us) _ _ _
  obtain ⟨hp, gs, drn, tok, os⟩ := s1
  -- the place of the new object, behind its tuple of arguments
  let at_ := hp.objs.size + 1
  have up : hp.objs.size ≤ at_ := Nat.le_succ _
  have asked := want at_ (J.hok.fresh up)
  have keep : ∀ b o, hp.get? b = some o → ((hp.push (PySem.W.kdv_tup us)).push (PySem.HandSPX.excO C hp.objs.size)).get? b = some o :=
    fun b o h0 => Heap.get?_push_of_some _ (Heap.get?_push_of_some _ h0)
  have there : ((hp.push (PySem.W.kdv_tup us)).push (PySem.HandSPX.excO C hp.objs.size)).get? (hp.objs.size + 1) = some (PySem.HandSPX.excO C hp.objs.size) := by heap_get
  have J2 : Inv X pins σ (upd H1 at_ (exo at_ C none)) ⟨(hp.push (PySem.W.kdv_tup us)).push (PySem.HandSPX.excO C hp.objs.size), gs, drn, tok, os⟩ :=
    J.laid (t' := tok) (a := at_) (o := exo at_ C none) (h' := (hp.push (PySem.W.kdv_tup us)).push (PySem.HandSPX.excO C hp.objs.size)) keep up (exo_ok there)
  have all : Vals (V.ref at_ :: (vs ++ dvs)) (Value.ref at_ :: (us ++ ds)) := Paired.cons rfl (rel.append dv)
  have many : (Value.ref at_ :: us ++ ds).length = names.length := by
    have z := all.length
    rw [G.len _ _ _ _ asked] at z
    exact z.symm
  have fits : us.length ≤ sizeLine := by
    have z := Paired.length rel
    have z2 := sizeLine_eq
    omega
  have inner := G.run _ X.stack _ _ ⟨Value.ref at_ :: us, []⟩ (Value.ref at_ :: (us ++ ds)) _ _ (fun _ _ _ => False) (room.make C us []) (J2.env0.make C us []) (bnd _ (Value.ref at_ :: us) J2.kIn many) all asked
  refine wpAny_call (PySem.HandSPX.call_own F.excBase_ValueError (fun Y => PySem.HandSPX.refsVE_contains Y bm refs) (J.kIn _ _ lkC) (PySem.W.looks_findIn J.kIn hini) (fun self => PySem.W.bind_fn J.kIn self hty) fits (codeAny_mono inner fun r s' hr => ?_))
  match r, hr with
  | .error er, hr => exact hps pins σ _ _ er s' J2 hr
  | .ok (.ret u), hr =>
    obtain ⟨v, H2, os2, bare2, un2, hok2, rv, ev, d, fs, ea, ed, hd1, q2⟩ := hr
    subst ev
    obtain ⟨h2, g2, d2, t2, os'⟩ := s'
    obtain ⟨t0, G', J3, kG, ge, hoe, na⟩ := mk_end0 (d2 := d2) (t2 := t2) J up keep un2 hok2 os2 bare2 ea ed hd1
    refine ⟨rv, at_, _, _, ⟨G', g2, d2, t2, os'⟩, _, .ref C, some d, rfl, J3, kG, ge, hoe, ⟨rfl, rfl, fun vs' z => ?_⟩, rfl, rfl, na, rfl, bare2, raises_own T.exC T.tyC, q2⟩
    cases z
    rfl
  | .ok .next, hr => exact False.elim hr
  | .ok .brk, hr => exact False.elim hr
  | .ok .cont, hr => exact False.elim hr
end
/-! ### raise -/
def rsR (c : Nat) (fs : List Str) (v : Ev.Env) : Option (List Dv × Sto) → SRes
  | some (ds, S) => if ds.length = fs.length then .ex ⟨c, fs.reverse, ds.reverse⟩ v S else .bad
  | none => .bad
/-- raise C(e, ..): fs the fields that __init__ keeps -/
def sRaise (c : Nat) (fs : List Str) (fa : Fr → Sto → Res (List SV)) : Fr → Sto → SRes := fun F S => (fa F S).st F fun as S1 => rsR c fs F.v (frzs S1 as)
section
variable {X : Cx} {cl : CL} {Wx : WX} {e : Expr} {es : List Expr} {fa : Fr → Sto → Res (List SV)} {x : Str} {p pos pos' : Pos} {c k : Nat} {fI : Addr} {fd : FuncData} {ps fs : List Str}
theorem sv_raise (hc : X.calm = true) (tk : L2N.Takes X Wx) (T : OexC X.K (cl c)) (iC : PySem.W.findIn X.K (.ref (cl c)) "__init__" = some (some (.ref fI))) (tI : PySem.W.typeIn X.K (.ref fI) = some (.type "function"))
    (F1 : FnOk X.prog X.w X.K X.mg X.base (L2N.CX X.prog X.w) k fI fd ps (SpI (cl c) fs)) (hr : Room (k + 1) X.A) (hb : Binds X.K fd ps []) (hg : Gl X x) (hm : X.mg x = some (.ref (cl c))) (ha : PA X (e :: es) (RA X cl Wx fa)) (hz : fs.length ≤ 900 := by decide)
    (hdb : (x == ("__debug__" : Str)) = false := by decide +kernel) (he : starEach (e :: es) X.env = (false, eval e X.env) :: starEach es X.env := by rfl) (hpl : (backTo pos (starEach es X.env)).any (·.1) = false := by rfl) :
    PS X (.Raise (some (.Call (.Name x p) (e :: es) [] pos)) none pos') (RS X cl Wx (sRaise c fs fa)) :=
  PS.weak (L2N.ps_raise hc tk (pmk_oexN (dvs := []) (ds := []) T iC tI F1 hr hb .nil (L2N.passes_call (E := fun _ _ _ => False) tk fun _ _ _ _ z => z.elim) hg hm ha hdb he hpl)) fun D σ H ⟨W, F, S, a, o⟩ => by
    refine RA.ofS a o fun W1 S1 as vs H1 g1 l1 a1 q1 o1 => ?_
    unfold rsR at o1
    split at o1
    · rename_i ds S2 hf
      split at o1
      · rename_i hl
        obtain ⟨n2, w2, k2⟩ := frzs_ok (K := X.K) (cl := cl) hf
        obtain ⟨W2, e2, l2, r2, q2⟩ := k2 W1 H1 vs a1.rel q1
        have lv : vs.length = fs.length := by rw [← q2.length, hl]
        have a2 := a1.on ⟨Nat.le_of_eq n2.symm, fun b _ => w2 b⟩ l2 r2
        refine ⟨by omega, fun y hy => ⟨y, vs ++ [], rfl, upd_same, by rw [List.append_nil, lv], fun d H2 hd hda e1 e2' e3 => ⟨rfl, d, _, e1, e2', ?_, ?_⟩⟩⟩
        · rw [upd_ne hda] at hd; exact hd
        · have hd1 : H1 d = none := by rw [upd_ne hda] at hd; exact hd
          have hH : upd (del H2 y) d (.xd (fs.zip (vs ++ [])).reverse) = upd H1 d (.xd (fs.zip (vs ++ [])).reverse) := by
            funext b
            by_cases hb : b = d
            · rw [hb, upd_same, upd_same]
            · rw [upd_ne hb, upd_ne hb]
              by_cases hb2 : b = y
              · rw [hb2, del_same, hy]
              · rw [del_ne hb2, e3 b hb2 hb, upd_ne hb2]
          rw [hH, List.append_nil]
          have r3 := r2.extra (d := d) (ho := .xd (fs.zip vs).reverse) hd1
          refine o1 W2 σ _ _ _ ⟨Nat.le_of_eq n2.symm, fun b _ => w2 b⟩ l2 ⟨a2.b, r3, a2.env, a2.gh⟩ ⟨rfl, by simp [hl], .inr ⟨d, vs.reverse, rfl, ?_, RelDs.of ?_⟩⟩
          · rw [upd_same]
            congr 2
            exact zip_rev lv.symm
          · exact paired_rev q2.paired
      · exact o1.elim
    · exact o1.elim
end
/-! ### try .. except -/
/-- the suite's end: e's name is gone -/
def tryE (i : Nat) : SRes → SRes
  | .nx v S => .nx (v.set i none) S
  | .bk v S => .bk (v.set i none) S
  | .ct v S => .ct (v.set i none) S
  | .rt x S => .rt x S
  | .ex _ _ _ => .bad
  | .bad => .bad
def tryC (i : Nat) (h : Exc → Fr → Sto → SRes) (b : Nat) (e : Exc) (v : Ev.Env) (S : Sto) : Option Bool → SRes
  | some true => tryE i (h e ⟨b, v.set i none⟩ S)
  | some false => .ex e v S
  | none => .bad
def tryR (ok : Nat → Option Bool) (i : Nat) (h : Exc → Fr → Sto → SRes) (b : Nat) : SRes → SRes
  | .ex e v S => tryC i h b e v S (ok e.c)
  | r => r
/-- try: f, except C as n (slot i): h -/
def sTryAs (ok : Nat → Option Bool) (i : Nat) (f : Fr → Sto → SRes) (h : Exc → Fr → Sto → SRes) : Fr → Sto → SRes := fun F S => tryR ok i h F.b (f F S)
/-- what the world keeps of a caught error -/
def XG (K : PySem.W.Frag) (cl : Nat → Addr) (W : Wd) (e : Exc) (c : Value) (d : Option Addr) : Prop :=
  c = .ref (cl e.c) ∧ e.fs.length = e.xs.length ∧ (e.fs = [] ∧ d = none ∨ ∃ dd vs, d = some dd ∧ W.G dd = some (.xd (e.fs.zip vs)) ∧ RelDs K cl W.G e.xs vs)
theorem XG.le {K : PySem.W.Frag} {cl : Nat → Addr} {n : Nat} {W W' : Wd} {e : Exc} {c : Value} {d : Option Addr} (l : Le n W W') (h : XG K cl W e c d) : XG K cl W' e c d := by
  obtain ⟨h1, h2, h3⟩ := h
  refine ⟨h1, h2, h3.imp id fun ⟨dd, vs, h4, h5, h6⟩ => ?_⟩
  obtain ⟨o', e', s⟩ := l.g _ _ h5
  rw [s.plain rfl] at e'
  exact ⟨dd, vs, h4, e', h6.le l⟩
/-- within the suite: slot i is the error at a, as long as nobody stores there -/
def CL.exc (cl : Nat → Addr) (K : PySem.W.Frag) (i : Nat) (a : Addr) (e : Exc) (c : Value) (d : Option Addr) : CL where
  f := cl
  gh := fun W v σ => XG K cl W e c d ∧ (v[i]? = some none → σ[i]? = some (some (.ref a)))
  mono := fun l h => ⟨h.1.le l, h.2⟩
  put := fun {W v σ} j x y h => ⟨h.1, fun hv => by
    by_cases hj : j = i
    · subst hj
      rw [List.getElem?_set] at hv
      split at hv
      · split at hv <;> cases hv
      · exact absurd rfl (by assumption)
    · rw [List.getElem?_set_ne hj] at hv ⊢
      exact h.2 hv⟩
theorem EnvR.del {K : PySem.W.Frag} {cl : Nat → Addr} {W : Wd} {n : Nat} {env : Ev.Env} {σ : St} (r : EnvR K cl W n env σ) (i : Nat) (z : Option V) : EnvR K cl W n (env.set i none) (σ.set i z) := by
  refine ⟨by rw [List.length_set, List.length_set]; exact r.len, fun j sv e => ?_⟩
  by_cases h : i = j
  · subst h
    rw [List.getElem?_set] at e
    split at e
    · split at e <;> cases e
    · exact absurd rfl (by assumption)
  · rw [List.getElem?_set_ne h] at e ⊢
    exact r.get j sv e
section
variable {X : Cx} {f0 : Nat → Addr} {Wx : WX} {f : Fr → Sto → SRes} {h : Exc → Fr → Sto → SRes} {n x : Str} {i : Nat} {c0 : Value} {body suite : List Stmt} {b₀ : Stmt} {np pos pos' : Pos} {ok : Nat → Option Bool}
/-- the suite, as told to the rule -/
def tSui (X : Cx) (f0 : Nat → Addr) (i : Nat) (h : Exc → Fr → Sto → SRes) (a : Addr) (cls : Value) (d : Option Addr) : TS := fun D σ H => ∃ e, RS X (CL.exc f0 X.K i a e cls d) WF (h e) D σ H
theorem sv_tryAs (i : Nat) (hs : X.stack = X.env :: X.outer) (hf : X.env.frame = some X.env.locals) (hN : X.N.Nodup) (hi : X.N[i]? = some n) (hln : X.env.kindOf n = some .local) (hc : Names X x c0) (tk : L2N.Takes X Wx)
    (hm : ∀ k b, ok k = some b → PySem.W.exmOne X.K (.ref (f0 k)) c0 = some b)
    (hb : ∀ (W : WX) (pn : List (Addr × Obj)) (xe : Value → Shared → Prop), L2N.Takes (X.tr pn xe) W → PassesOwn (model X.prog X.w) X.A X.env xe → PSs (X.tr pn xe) body (RS (X.tr pn xe) (CL.pure f0) W f))
    (hsu : ∀ (e : Exc) (a : Addr) (oe : Obj) (cls : Value) (d : Option Addr) (pn : List (Addr × Obj)), L2N.Zn cls d oe → (∃ vs, oe.data = .fields vs) → PSs (X.suite a ((a, oe) :: pn)) (b₀ :: suite) (RS (X.suite a ((a, oe) :: pn)) (CL.exc f0 X.K i a e cls d) WF (h e))) :
    PS X (.Try body [.ExceptHandler (some (.Name x np)) (some n) (b₀ :: suite) pos'] [] [] pos) (RS X (CL.pure f0) Wx (sTryAs ok i f h)) :=
  PS.weak (L2N.ps_try_as (tb := fun W => RS X (CL.pure f0) W f) (ts := tSui X f0 i h) hs hf hN hi hln hc tk (fun W pn xe tk' pa => hb W pn xe tk' pa) (fun a oe cls d pn hz hf => ⟨fun pins s σ H D I ⟨e, q⟩ => (hsu e a oe cls d pn hz hf).run pins s σ H D I q⟩)) fun D σ H ⟨W, F, S, a, o⟩ => by
    refine ⟨W, F, S, a, ?_⟩
    unfold sTryAs at o
    cases hr : f F S with
    | nx v S1 => rw [hr] at o; exact o
    | bk v S1 => rw [hr] at o; exact o
    | ct v S1 => rw [hr] at o; exact o
    | rt v S1 => rw [hr] at o; exact o
    | bad => rw [hr] at o; exact o.elim
    | ex e v S1 =>
      rw [hr] at o
      intro W' σ' H' c d g l a1 rx
      have o1 : OutS X.K (CL.pure f0) Wx D F.b W S (tryC i h F.b e v S1 (ok e.c)) := o
      have rc : c = .ref (f0 e.c) := rx.1
      unfold tryC at o1
      split at o1
      · rename_i hk
        refine ⟨true, by rw [rc]; exact hm _ _ hk, fun _ y hy => ?_, fun z => nomatch z⟩
        -- what the error's dict holds stays
        obtain ⟨_, rl, rd⟩ := rx
        have pin : ∃ W2, W2.ρ = W'.ρ ∧ Le S1.length W' W2 ∧ Rel X.K f0 W2 S1 H' ∧ XG X.K f0 W2 e c d := by
          rcases rd with rd | ⟨dd, vs, h1, h2, h3⟩
          · exact ⟨W', rfl, .refl _ _, a1.rel, rc, rl, .inl rd⟩
          · cases hg : W'.G dd with
            | some u =>
              have := a1.rel.fz dd u hg
              rw [h2] at this
              cases this
              exact ⟨W', rfl, .refl _ _, a1.rel, rc, rl, .inr ⟨dd, vs, h1, hg, h3⟩⟩
            | none =>
              have l2 : Le S1.length W' ⟨W'.ρ, upd W'.G dd (.xd (e.fs.zip vs))⟩ := gpin hg _
              refine ⟨⟨W'.ρ, upd W'.G dd (.xd (e.fs.zip vs))⟩, rfl, l2, ⟨fun b u e1 => ?_, fun j mo e1 => ?_, a1.rel.inj⟩, rc, rl, .inr ⟨dd, vs, h1, upd_same, h3.le l2⟩⟩
              · have e1 : upd W'.G dd (.xd (e.fs.zip vs)) b = some u := e1
                by_cases hb : b = dd
                · rw [hb, upd_same] at e1
                  rw [hb, h2, e1]
                · rw [upd_ne hb] at e1
                  exact a1.rel.fz b u e1
              · refine (a1.rel.st j mo e1).keep l2 (Nat.le_refl _) (fun hm g0 => ?_) fun _ => rfl
                show upd _ _ _ _ = _
                rw [upd_ne fun z => ?_]
                · exact g0
                · have q := a1.rel.st j mo e1
                  rw [z] at q
                  cases mo with
                  | lst xs => obtain ⟨_, _, q, _⟩ := q; rw [h2] at q; cases q
                  | dic ks xs => obtain ⟨_, _, q, _⟩ := q; rw [h2] at q; cases q
                  | ins c fs xs => obtain ⟨_, _, _, q, _⟩ := q; rw [h2] at q; cases q
                  | frz x => cases hm
        obtain ⟨W2, e2, l2, r2, xg⟩ := pin
        refine ⟨e, W2, ⟨F.b, v.set i none⟩, S1, ⟨a1.b, r2, (a1.env.le l2 (Nat.le_refl _)).del i _, xg, fun hv => ?_⟩, ?_⟩
        · rw [List.getElem?_set] at hv ⊢
          rw [if_pos rfl] at hv ⊢
          split at hv
          · rename_i hl
            rw [if_pos (by rw [a1.env.len]; exact hl)]
          · cases hv
        · have gg : Gr F.b S1 S1 := .refl _ _
          have o2 := OutS.rebase (OutS.rebase o1 g l) gg l2
          cases hh : h e ⟨F.b, v.set i none⟩ S1 with
          | nx v2 S2 => rw [hh] at o2; exact fun W3 σ3 H3 g3 l3 a3 => o2 W3 _ H3 g3 l3 ⟨a3.b, a3.rel, a3.env.del i none, trivial⟩
          | bk v2 S2 => rw [hh] at o2; exact fun W3 σ3 H3 g3 l3 a3 => o2 W3 _ H3 g3 l3 ⟨a3.b, a3.rel, a3.env.del i none, trivial⟩
          | ct v2 S2 => rw [hh] at o2; exact fun W3 σ3 H3 g3 l3 a3 => o2 W3 _ H3 g3 l3 ⟨a3.b, a3.rel, a3.env.del i none, trivial⟩
          | rt v2 S2 => rw [hh] at o2; exact o2
          | ex e' v2 S2 => rw [hh] at o2; exact o2.elim
          | bad => rw [hh] at o2; exact o2.elim
      · rename_i hk
        exact ⟨false, by rw [rc]; exact hm _ _ hk, fun z => absurd z (by decide), fun _ => o1 W' σ' H' c d g l a1 rx⟩
      · exact o1.elim
end
/-! ### the caught error is looked at -/
/-- what an error's class says, so that its instances may be looked at -/
structure ErrC (K : PySem.W.Frag) (C : Addr) : Prop where
  hcl : (PySem.W.clsIn K C).isSome = true
  ga : PySem.W.findIn K (.ref C) "__getattribute__" = some (some (.builtin "BaseException.__getattribute__"))
  gg : PySem.W.findIn K (.ref C) "__getattr__" = some none
  exC : PySem.W.subIn K (.ref C) (.type "BaseException") = some true
  hdC : PySem.W.hasDictIn K C = true
  ha : PySem.W.findIn K (.ref C) "__class__" = some (some (.builtin "object.__class__"))
  hn : PySem.W.specialIn K (.builtin "object.__class__") "__get__" = some (some (.builtin "getset_descriptor.__get__"))
  ht : PySem.W.takesIn K (.builtin "object.__class__") = some true
  hm : PySem.W.mroIn K C (.type "object") = some true
theorem ErrC.xf {K : PySem.W.Frag} {C : Addr} (E : ErrC K C) : XfC K C := ⟨E.ga, E.gg, E.exC, E.hdC⟩
theorem lookA_rel {α : Type} {R : α → V → Prop} (f : Str) : ∀ {fs : List Str} {xs : List α} {vs : List V}, fs.length = xs.length → Paired R xs vs → ∀ x, lookF f fs xs = some x → ∃ v, (fs.zip vs).lookup f = some v ∧ R x v
  | [], [], [], _, .nil, _, e => by cases e
  | a :: fs, x :: xs, v :: vs, l, .cons q t, y, e => by
    unfold lookF at e
    rw [List.zip_cons_cons, List.lookup_cons]
    by_cases h : f = a
    · rw [if_pos h] at e
      have hb : (f == a) = true := beq_iff_eq.mpr h
      simp only [hb]
      cases e
      exact ⟨v, rfl, q⟩
    · rw [if_neg h] at e
      have hb : (f == a) = false := beq_eq_false_iff_ne.mpr h
      simp only [hb]
      exact lookA_rel f (Nat.succ.inj l) t y e
def isHole : Option (Option SV) → Bool
  | some none => true
  | _ => false
theorem isHole_eq {x : Option (Option SV)} (h : isHole x = true) : x = some none := by
  unfold isHole at h
  split at h
  · rfl
  · cases h
def xfR (nm : Str) (e : Exc) (S : Sto) : Option Dv → Res SV
  | some y => .ok (.d y) S
  | none => .bad
/-- e.nm -/
def eXf (i : Nat) (e : Exc) (cs : List Nat) (nm : Str) : Fr → Sto → Res SV := fun F S => if isHole F.v[i]? = true ∧ cs.contains e.c = true then xfR nm e S (lookF nm e.fs e.xs) else .bad
def xiR (S : Sto) : Option Bool → Res SV
  | some b => .ok (.d (.bl b)) S
  | none => .bad
/-- isinstance(e, ..) -/
def eXi (i : Nat) (e : Exc) (ans : Nat → Option Bool) : Fr → Sto → Res SV := fun F S => if isHole F.v[i]? = true then xiR S (ans e.c) else .bad
section
variable {X : Cx} {f0 : Nat → Addr} {i : Nat} {a : Addr} {e : Exc} {cls : Value} {d : Option Addr} {oe : Obj} {pn : List (Addr × Obj)} {n : Str} {p pos : Pos}
theorem ev_xf {cs : List Nat} {nm : Str} (hT : ∀ c, c ∈ cs → ErrC X.K (f0 c) ∧ PySem.W.findIn X.K (.ref (f0 c)) nm = some none) (hz : Zc cls d oe) (hf : ∃ vs, oe.data = .fields vs) (hN : X.N[i]? = some n) (hv : Vis X.env.scope n)
    (hd : (n == ("__debug__" : Str)) = false := by decide +kernel) (hcd : (n == ("__classdict__" : Str)) = false := by decide +kernel) (hb : attributeBase (.Name n p) nm X.env (eval (.Name n p) X.env) = eval (.Name n p) X.env := by rfl) :
    PE (X.suite a ((a, oe) :: pn)) (.Attribute (.Name n p) nm pos) (RE (X.suite a ((a, oe) :: pn)) (CL.exc f0 X.K i a e cls d) WF (eXf i e cs nm)) := by
  by_cases hcs : cs.contains e.c = true
  · obtain ⟨T, hno⟩ := hT e.c (by simpa using hcs)
    refine PE.weak (pe_xf T.xf hno hz hf (pe_var (X := X.suite a ((a, oe) :: pn)) hN hv hd hcd) hb) fun σ H Q ⟨W, F, S, t, o⟩ => ?_
    unfold eXf at o
    split at o
    · rename_i hh
      obtain ⟨⟨h1, h2, h3⟩, h4⟩ := t.gh
      unfold xfR at o
      split at o
      · rename_i y hy
        rcases h3 with h3 | ⟨dd, vs, h5, h6, h7⟩
        · rw [h3.1] at hy; cases hy
        · obtain ⟨v, e1, e2⟩ := lookA_rel nm h2 h7.paired y hy
          exact ⟨_, h4 (isHole_eq hh.1), rfl, h1, dd, _, v, h5, t.rel.fz _ _ h6, e1, o.here t.rel e2⟩
      · exact o.elim
    · exact o.elim
  · refine ⟨fun pins s σ H Q I ⟨W, F, S, t, o⟩ => ?_⟩
    unfold eXf at o
    rw [if_neg fun z => hcs z.2] at o
    exact o.elim
/-- isinstance of the caught error -/
def rXi (X : Cx) (C a : Addr) (d : Option Addr) : List V → Hp → VK → Prop := fun xs H Q => (d = none ∨ ∃ dd fs, d = some dd ∧ H dd = some (.xd fs)) ∧
  ((∃ (c : V) (u : Value) (b : Bool), xs = [.ref a, c] ∧ ClsV c u ∧ PySem.W.kitOne X.K (.ref C) u = some b ∧ Q (.bl b) H) ∨
   ∃ (tp : Addr) (cs : List V) (us : List Value) (b : Bool), xs = [.ref a, .ref tp] ∧ H tp = some (.tup cs) ∧ Paired ClsV cs us ∧ PySem.W.kitAny X.K (.ref C) us = some b ∧ Q (.bl b) H)
theorem call_xi {C : Addr} (E : ErrC X.K C) (hz : Zc (.ref C) d oe) (hf : ∃ vs, oe.data = .fields vs) : CallR (X.suite a ((a, oe) :: pn)) (.builtin "isinstance") (rXi X C a d) := by
  intro pins s σ H xs us Q I r ⟨hd, h⟩
  obtain ⟨hget, _⟩ := I.pin (a, oe) (List.mem_append_left _ List.mem_cons_self)
  obtain ⟨vs, hv⟩ := hf
  have J : ∃ od, PySem.W.InstAt s.heap a oe C od := by
    rcases hd with hd | ⟨dd, fs, hd, hx⟩
    · exact ⟨none, hget, hz.1, by unfold PySem.W.notCls; rw [hv] <;> rfl, by rw [hz.2, hd]; trivial⟩
    · have hx : ObjOk X.prog X.w H s.heap dd (.xd fs) := I.hok dd _ hx
      obtain ⟨mA, hns, _⟩ := hx
      obtain ⟨od, ho, _⟩ := lookIn_ns hns
      exact ⟨some od, hget, hz.1, by unfold PySem.W.notCls; rw [hv] <;> rfl, by rw [hz.2, hd]; exact ho⟩
  obtain ⟨od, J⟩ := J
  have Z := PySem.W.kitx_exc (K := X.K) (x := a) (ox := oe) (od := od) E.hcl E.ga E.gg E.exC E.ha E.hn E.ht E.hm
  rcases h with ⟨c, u, b, rfl, k, e1, q⟩ | ⟨tp, cs, ws, b, rfl, hT, k, e1, q⟩
  · obtain ⟨u1, u2, rfl, r1, r2⟩ := vals2 r
    have e2 := k.eq r2
    subst e2
    obtain rfl : u1 = Value.ref a := r1
    exact PySem.W.kia_one Z I.kIn J e1 (fun z => nomatch z) fun tk => ⟨.bl b, H, I.tok tk, rfl, q⟩
  · obtain ⟨u1, u2, rfl, r1, r2⟩ := vals2 r
    obtain rfl : u1 = Value.ref a := r1
    obtain rfl : u2 = Value.ref tp := r2
    obtain ⟨_, its, rv, o, h1, h2, m, h3⟩ := (show ObjOk X.prog X.w H s.heap tp (.tup cs) from I.hok tp _ hT)
    have e3 := ClsV.all k rv
    subst e3
    obtain ⟨oc, od', dt, sl⟩ := o
    simp only at h2 h3
    subst h2 h3
    exact PySem.W.kia_tup Z I.kIn J h1 e1 (fun z => nomatch z) fun tk => ⟨.bl b, H, I.tok tk, rfl, q⟩
variable {ans : Nat → Option Bool} {ec : Expr} {c : V} {u : Value} {pc : Pos}
theorem ev_xi (hE : ∀ k b, ans k = some b → ErrC X.K (f0 k)) (hk : ∀ k b, ans k = some b → PySem.W.kitOne X.K (.ref (f0 k)) u = some b) (hz : Zc cls d oe) (hf : ∃ vs, oe.data = .fields vs) (hN : X.N[i]? = some n) (hv : Vis X.env.scope n)
    (hg : Gl X "isinstance") (hm : X.mg "isinstance" = none) (hcl : PE (X.suite a ((a, oe) :: pn)) ec (tC c)) (hcv : ClsV c u)
    (hd : (n == ("__debug__" : Str)) = false := by decide +kernel) (hcd : (n == ("__classdict__" : Str)) = false := by decide +kernel)
    (he : starEach [.Name n p, ec] X.env = (false, eval (.Name n p) X.env) :: starEach [ec] X.env := by rfl) (he2 : starEach [ec] X.env = (false, eval ec X.env) :: starEach [] X.env := by rfl) (hpl : (backTo pos (starEach [ec] X.env)).any (·.1) = false := by rfl) :
    PE (X.suite a ((a, oe) :: pn)) (.Call (.Name "isinstance" pc) [.Name n p, ec] [] pos) (RE (X.suite a ((a, oe) :: pn)) (CL.exc f0 X.K i a e cls d) WF (eXi i e ans)) := by
  by_cases hc : cls = .ref (f0 e.c)
  · cases ha : ans e.c with
    | none =>
      refine ⟨fun pins s σ H Q I ⟨W, F, S, t, o⟩ => ?_⟩
      unfold eXi at o
      rw [ha] at o
      split at o <;> exact o.elim
    | some b =>
      subst hc
      refine PE.weak (pe_callB (X := X.suite a ((a, oe) :: pn)) (call_xi (X := X) (hE _ _ ha) hz hf) hg hm (by decide +kernel) (pa_cons (pe_var (X := X.suite a ((a, oe) :: pn)) hN hv hd hcd) (pa_cons hcl pa_nil he2) he) (by decide +kernel) (by decide +kernel) he hpl) fun σ H Q ⟨W, F, S, t, o⟩ => ?_
      unfold eXi at o
      split at o
      · rename_i hh
        rw [ha] at o
        obtain ⟨⟨h1, h2, h3⟩, h4⟩ := t.gh
        refine ⟨_, h4 (isHole_eq hh), ?_, .inl ⟨c, u, b, rfl, hcv, hk _ _ ha, o.here t.rel (RelD.bl b)⟩⟩
        exact h3.imp And.right fun ⟨dd, vs, h5, h6, _⟩ => ⟨dd, _, h5, t.rel.fz _ _ h6⟩
      · exact o.elim
  · refine ⟨fun pins s σ H Q I ⟨W, F, S, t, o⟩ => absurd t.gh.1.1 hc⟩
def tKs : List V → TA
  | [] => tNil
  | c :: r => tCons (tC c) (tKs r)
theorem tKs_of {cs : List V} {σ : St} {H : Hp} {Q : List V → Hp → Prop} (h : Q cs H) : tKs cs σ H Q := by
  induction cs generalizing Q with
  | nil => exact h
  | cons c r ih => exact ih (Q := fun xs H => Q (c :: xs) H) h
variable {ecs : List Expr} {cs : List V} {us : List Value} {kt : Nat} {pt : Pos}
/-- isinstance(e, (C1, C2, ..)) -/
theorem ev_xis (hE : ∀ k b, ans k = some b → ErrC X.K (f0 k)) (hk : ∀ k b, ans k = some b → PySem.W.kitAny X.K (.ref (f0 k)) us = some b) (hz : Zc cls d oe) (hf : ∃ vs, oe.data = .fields vs) (hN : X.N[i]? = some n) (hv : Vis X.env.scope n)
    (hg : Gl X "isinstance") (hm : X.mg "isinstance" = none) (hcl : PA (X.suite a ((a, oe) :: pn)) ecs (tKs cs)) (hcv : Paired ClsV cs us) (hsz : cs.length ≤ 1000 := by decide)
    (hd : (n == ("__debug__" : Str)) = false := by decide +kernel) (hcd : (n == ("__classdict__" : Str)) = false := by decide +kernel)
    (he : starEach [.Name n p, .Tuple ecs kt pt] X.env = (false, eval (.Name n p) X.env) :: starEach [.Tuple ecs kt pt] X.env := by rfl) (he2 : starEach [.Tuple ecs kt pt] X.env = (false, eval (.Tuple ecs kt pt) X.env) :: starEach [] X.env := by rfl) (hpl : (backTo pos (starEach [.Tuple ecs kt pt] X.env)).any (·.1) = false := by rfl) :
    PE (X.suite a ((a, oe) :: pn)) (.Call (.Name "isinstance" pc) [.Name n p, .Tuple ecs kt pt] [] pos) (RE (X.suite a ((a, oe) :: pn)) (CL.exc f0 X.K i a e cls d) WF (eXi i e ans)) := by
  by_cases hc : cls = .ref (f0 e.c)
  · cases ha : ans e.c with
    | none =>
      refine ⟨fun pins s σ H Q I ⟨W, F, S, t, o⟩ => ?_⟩
      unfold eXi at o
      rw [ha] at o
      split at o <;> exact o.elim
    | some b =>
      subst hc
      refine PE.weak (pe_callB (X := X.suite a ((a, oe) :: pn)) (call_xi (X := X) (hE _ _ ha) hz hf) hg hm (by decide +kernel) (pa_cons (pe_var (X := X.suite a ((a, oe) :: pn)) hN hv hd hcd) (pa_cons (pe_tup hcl) pa_nil he2) he) (by decide +kernel) (by decide +kernel) he hpl) fun σ H Q ⟨W, F, S, t, o⟩ => ?_
      unfold eXi at o
      split at o
      · rename_i hh
        rw [ha] at o
        obtain ⟨⟨h1, h2, h3⟩, h4⟩ := t.gh
        refine ⟨_, h4 (isHole_eq hh), tKs_of ⟨Nat.le_trans hsz (by decide), fun tp htp => ?_⟩⟩
        obtain ⟨r3, l3⟩ := t.rel.newF (ho := .tup cs) htp
        refine ⟨h3.imp And.right fun ⟨dd, vs, h5, h6, _⟩ => ⟨dd, e.fs.zip vs, h5, ?_⟩, .inr ⟨tp, cs, us, b, rfl, upd_same, hcv, hk _ _ ha, o _ _ _ (.refl _ _) l3 r3 (RelD.bl b)⟩⟩
        have q := t.rel.fz _ _ h6
        rw [upd_ne fun z => by rw [z, htp] at q; cases q]
        exact q
      · exact o.elim
  · refine ⟨fun pins s σ H Q I ⟨W, F, S, t, o⟩ => absurd t.gh.1.1 hc⟩
end
end Ev

set_option Elab.async false
set_option linter.all false
set_option maxRecDepth 100000
/-! Ev16: own calls within an except suite; how errors are reckoned. -/
namespace Ev
open PySem L2
/-- what is at hand in a body that runs while an error is handled -/
structure XOkH (X : Cx) (Wx : WX) (k : Nat) : Prop where
  hr : L2H.RoomH k X.A
  hot : L2H.HotC X
  tk : L2N.Takes X Wx
  hp : PassesOwn (model X.prog X.w) X.A X.env X.xe
  hu : X.A.units + 200 < cLine
  hu1 : X.A.units + 1 < cLine
abbrev FnHE (X : Cx) (cl : Nat → Addr) (k : Nat) (fa : Addr) (fd : FuncData) (ps : List Str) (g : Nat → List SV → Sto → Res SV) : Prop := L2H.FnH X.prog X.w X.K X.mg X.base (L2N.CX X.prog X.w) k fa fd ps (SpR X.K cl g)
theorem fn_okH {P : Program} {w : World} {K : PySem.W.Frag} {mg : Str → Option Value} {base : Heap} {cl : Nat → Addr} {x qual : Str} {st : Stmt} {f : Addr} {fd : FuncData} {N ps : List Str} {k np nn : Nat} {body : Fr → Sto → SRes} (Fu : Fun K x qual st f fd) (Sc : FnScope N ps (defScope st)) (hnp : ps.length = np) (hnn : N.length = nn)
    (hbody : ∀ (cdv : Value) (A : Around) (outer : List PySem.Env) (s : Shared) (H : Hp) (E : XK) (q : Addr × Obj), XOkH (L2H.cxH (L2N.CX P w) P w K mg base N qual (defScope st) f cdv A outer s H E q) (fun c d _ H => E c d H) k →
      PSs (L2H.cxH (L2N.CX P w) P w K mg base N qual (defScope st) f cdv A outer s H E q) (defBody st) (RS (L2H.cxH (L2N.CX P w) P w K mg base N qual (defScope st) f cdv A outer s H E q) (CL.pure cl) (fun c d _ H => E c d H) body)) :
    L2H.FnH P w K mg base (L2N.CX P w) (k + 1) f fd ps (SpR K cl (runF np nn body)) := by
  obtain ⟨oc, od, kV, doc, pm, an, cdv, ct, osl, rfl, lk, hcd⟩ := Fu.ex
  refine L2H.fn_ofH lk hcd Sc (fun vs H Q E ⟨W, S, as, b, hb, r, p, o⟩ => ?_) fun A outer s H vs Q E q hot hr ⟨W, S, as, b, hb, r, p, o⟩ => ?_
  · unfold runF at o
    split at o
    · rename_i hl; rw [hnp, ← hl, PySem.Paired.length p]
    · exact o.elim
  · refine ⟨_, hbody cdv A outer s H E q ⟨hr, ⟨q, ⟨hot.1, hot.2⟩, List.mem_cons_self ..⟩, L2N.takes_of rfl rfl rfl rfl, passes_of rfl, ?_, ?_⟩, ?_⟩
    · have := hr.un
      show (A.deeper _).units + 200 < cLine
      omega
    · have := hr.un
      show (A.deeper _).units + 1 < cLine
      omega
    unfold runF at o
    split at o
    · rename_i hl
      subst hl
      refine ⟨W, ⟨b, as.map some ++ List.replicate (nn - as.length) none⟩, S, ⟨hb, r, by rw [← hnn]; exact env_start p, trivial⟩, ?_⟩
      cases hr : body ⟨b, as.map some ++ List.replicate (nn - as.length) none⟩ S with
      | nx v2 S2 => rw [hr] at o; exact fun W' σ' H' g l a => o W' H' _ g l a.rel RelD.non
      | ct v2 S2 => rw [hr] at o; exact o.elim
      | bk v2 S2 => rw [hr] at o; exact o.elim
      | rt v S2 => rw [hr] at o; exact o
      | ex ec v2 S2 => rw [hr] at o; exact fun W' σ' H' c d g l a q => o W' H' c d g l a.rel q
      | bad => rw [hr] at o; exact o
    · exact o.elim
theorem fn_badH {P : Program} {w : World} {K : PySem.W.Frag} {mg : Str → Option Value} {base : Heap} {cl : Nat → Addr} {f : Addr} {fd : FuncData} {ps : List Str} {k : Nat} {g : Nat → List SV → Sto → Res SV} (h : ∀ b as S, g b as S = .bad) :
    L2H.FnH P w K mg base (L2N.CX P w) k f fd ps (SpR K cl g) :=
  ⟨fun vs H Q E ⟨W, S, as, b, hb, r, p, o⟩ => by rw [h] at o; exact o.elim, fun A outer s H args us vs Q E q _ _ _ _ _ _ ⟨W, S, as, b, hb, r, p, o⟩ => by rw [h] at o; exact o.elim⟩
section
variable {X : Cx} {cl : CL} {Wx : WX} {k : Nat} {fa : Addr} {fd : FuncData} {ps : List Str} {g : Nat → List SV → Sto → Res SV} {x : Str} {p pos : Pos} {e : Expr} {es : List Expr} {f : Fr → Sto → Res (List SV)}
theorem ev_callH (Fk : FnHE X cl k fa fd ps g) (hr : L2H.RoomH k X.A) (hot : L2H.HotC X) (tk : L2N.Takes X Wx) (hg : Gl X x) (hm : X.mg x = some (.ref fa)) (hk : PySem.W.keepIn X.K (.ref fa) = true) (hb : Binds X.K fd ps []) (ha : PA X (e :: es) (RA X cl Wx f))
    (hdb : (x == ("__debug__" : Str)) = false := by decide +kernel) (he : starEach (e :: es) X.env = (false, eval e X.env) :: starEach es X.env := by rfl) (hpl : (backTo pos (starEach es X.env)).any (·.1) = false := by rfl) :
    PE X (.Call (.Name x p) (e :: es) [] pos) (RE X cl Wx (eCall g f)) :=
  PE.weak (L2H.pe_callH (E := WE Wx) Fk hr hot hg hm hk hb (fun σ => L2N.passAt tk σ) ha hdb he hpl) fun σ H Q ⟨W, F, S, a, q⟩ =>
    RA.of a q fun W1 S1 as vs H1 g1 l1 a1 q1 o1 => sp_fin a1 q1 o1
theorem sv_forR1H {ea tgt : Expr} {p pc : Pos} {body : List Stmt} {tg : Tg} {fa : Fr → Sto → Res (List SV)} {fb : Fr → Sto → SRes} (hp : PassesOwn (model X.prog X.w) X.A X.env X.xe) (hot : L2H.HotC X) (hgl : Gl X "range") (hm : X.mg "range" = none) (ha : PA X [ea] (RA X cl Wx fa)) (hg : PG X tgt (RG X cl tg)) (hb : PSs X body (RS X cl Wx fb))
    (hs : starEach [ea] X.env = [(false, eval ea X.env)] := by rfl) : PS X (.For tgt (.Call (.Name "range" p) [ea] [] pc) body [] pos) (RS X cl Wx (sForR fa tg fb)) :=
  PS.weak (L2H.ps_forH hp hot (L2H.pi_range1H hgl hm ha hs) hg hb) fun D σ H ⟨W, F, S, a, o⟩ => by
    refine RA.ofS a o fun W1 S1 as vs H1 g1 l1 a1 q1 o1 => ?_
    split at o1
    · split at o1
      · rename_i n hn
        simp only [small62, Bool.and_eq_true, decide_eq_true_eq] at hn
        match vs, q1 with
        | [v], .cons q .nil =>
          cases q
          exact ⟨n, rfl, by omega, by omega, range_turns a1 o1 rfl rfl⟩
      · exact o1.elim
    · exact o1.elim
end
section
variable {X : Cx} {Wx : WX} {k : Nat} {a : Addr} {oe : Obj} {cls : Value} {d : Option Addr} {pn : List (Addr × Obj)}
theorem hot_suite (hz : L2N.Zn cls d oe) (hf : ∃ vs, oe.data = .fields vs) : L2H.HotC (X.suite a ((a, oe) :: pn)) := by
  obtain ⟨vs, hv⟩ := hf
  exact ⟨(a, oe), ⟨rfl, vs, hv, hz.2.2 vs hv⟩, List.mem_cons_self ..⟩
theorem XOk.suite (xo : XOk X Wx k) (hz : L2N.Zn cls d oe) (hf : ∃ vs, oe.data = .fields vs) : XOkH (X.suite a ((a, oe) :: pn)) WF k :=
  ⟨⟨xo.hr.dp, xo.hr.un⟩, hot_suite hz hf, tk_F, PassesOwn.never, xo.hu, xo.hu1⟩
theorem XOk.tr {W : WX} {pn : List (Addr × Obj)} {xe : Value → Shared → Prop} (xo : XOk X Wx k) (tk : L2N.Takes (X.tr pn xe) W) (pa : PassesOwn (model X.prog X.w) X.A X.env xe) : XOk (X.tr pn xe) W k :=
  ⟨xo.hr, tk, pa, xo.calm, xo.hu, xo.hu1⟩
end
/-! ### how errors are reckoned -/
def okF (l : List (Nat × Bool)) : Nat → Option Bool := fun k => l.lookup k
theorem okF_all {P : Nat → Bool → Prop} {l : List (Nat × Bool)} (h : ∀ q ∈ l, P q.1 q.2) : ∀ k b, okF l k = some b → P k b := by
  induction l with
  | nil => intro k b e; cases e
  | cons q r ih =>
    intro k b e
    unfold okF at e
    rw [List.lookup_cons] at e
    split at e
    · rename_i hk
      cases e
      rw [beq_iff_eq.mp hk]
      exact h q (List.mem_cons_self ..)
    · exact ih (fun z hz => h z (List.mem_cons_of_mem _ hz)) k b e
theorem okF_dom {P : Nat → Prop} {ks : List Nat} {l : List (Nat × Bool)} (h : ∀ k, k ∈ ks → P k) (hl : l.map (·.1) = ks := by rfl) : ∀ k b, okF l k = some b → P k := fun k b e =>
  okF_all (P := fun k _ => P k) (fun q hq => h q.1 (by rw [← hl]; exact List.mem_map_of_mem hq)) k b e
def kRs (c : Nat) (fs : List Str) (F : Fr) (r : Res (List SV)) : SRes := r.st F fun as S1 => rsR c fs F.v (frzs S1 as)
@[simp] theorem kRs_ok (c : Nat) (fs : List Str) (F : Fr) (as : List SV) (S : Sto) : kRs c fs F (.ok as S) = rsR c fs F.v (frzs S as) := Eq.trans rfl rfl
@[simp] theorem sRaise_ap (c : Nat) (fs : List Str) (fa : Fr → Sto → Res (List SV)) (F : Fr) (S : Sto) : sRaise c fs fa F S = kRs c fs F (fa F S) := Eq.trans rfl rfl
@[simp] theorem rsR_s (c : Nat) (fs : List Str) (v : Ev.Env) (ds : List Dv) (S : Sto) : rsR c fs v (some (ds, S)) = if ds.length = fs.length then .ex ⟨c, fs.reverse, ds.reverse⟩ v S else .bad := Eq.trans rfl rfl
@[simp] theorem sTryAs_ap (ok : Nat → Option Bool) (i : Nat) (f : Fr → Sto → SRes) (h : Exc → Fr → Sto → SRes) (F : Fr) (S : Sto) : sTryAs ok i f h F S = tryR ok i h F.b (f F S) := Eq.trans rfl rfl
@[simp] theorem tryR_ex (ok : Nat → Option Bool) (i : Nat) (h : Exc → Fr → Sto → SRes) (b : Nat) (e : Exc) (v : Ev.Env) (S : Sto) : tryR ok i h b (.ex e v S) = tryC i h b e v S (ok e.c) := Eq.trans rfl rfl
@[simp] theorem tryR_nx (ok : Nat → Option Bool) (i : Nat) (h : Exc → Fr → Sto → SRes) (b : Nat) (v : Ev.Env) (S : Sto) : tryR ok i h b (.nx v S) = .nx v S := Eq.trans rfl rfl
@[simp] theorem tryR_rt (ok : Nat → Option Bool) (i : Nat) (h : Exc → Fr → Sto → SRes) (b : Nat) (v : SV) (S : Sto) : tryR ok i h b (.rt v S) = .rt v S := Eq.trans rfl rfl
@[simp] theorem tryR_bk (ok : Nat → Option Bool) (i : Nat) (h : Exc → Fr → Sto → SRes) (b : Nat) (v : Ev.Env) (S : Sto) : tryR ok i h b (.bk v S) = .bk v S := Eq.trans rfl rfl
@[simp] theorem tryR_ct (ok : Nat → Option Bool) (i : Nat) (h : Exc → Fr → Sto → SRes) (b : Nat) (v : Ev.Env) (S : Sto) : tryR ok i h b (.ct v S) = .ct v S := Eq.trans rfl rfl
@[simp] theorem tryC_t (i : Nat) (h : Exc → Fr → Sto → SRes) (b : Nat) (e : Exc) (v : Ev.Env) (S : Sto) : tryC i h b e v S (some true) = tryE i (h e ⟨b, v.set i none⟩ S) := Eq.trans rfl rfl
@[simp] theorem tryC_f (i : Nat) (h : Exc → Fr → Sto → SRes) (b : Nat) (e : Exc) (v : Ev.Env) (S : Sto) : tryC i h b e v S (some false) = .ex e v S := Eq.trans rfl rfl
@[simp] theorem tryE_nx (i : Nat) (v : Ev.Env) (S : Sto) : tryE i (.nx v S) = .nx (v.set i none) S := Eq.trans rfl rfl
@[simp] theorem tryE_bk (i : Nat) (v : Ev.Env) (S : Sto) : tryE i (.bk v S) = .bk (v.set i none) S := Eq.trans rfl rfl
@[simp] theorem tryE_ct (i : Nat) (v : Ev.Env) (S : Sto) : tryE i (.ct v S) = .ct (v.set i none) S := Eq.trans rfl rfl
@[simp] theorem tryE_rt (i : Nat) (v : SV) (S : Sto) : tryE i (.rt v S) = .rt v S := Eq.trans rfl rfl
@[simp] theorem okF_nil (k : Nat) : okF [] k = none := Eq.trans rfl rfl
@[simp] theorem okF_cons (q : Nat × Bool) (r : List (Nat × Bool)) (k : Nat) : okF (q :: r) k = if k = q.1 then some q.2 else okF r k := by
  unfold okF
  rw [List.lookup_cons]
  by_cases h : k = q.1
  · rw [if_pos h, beq_iff_eq.mpr h]
  · rw [if_neg h, beq_eq_false_iff_ne.mpr h]
@[simp] theorem eXf_ap (i : Nat) (e : Exc) (cs : List Nat) (nm : Str) (F : Fr) (S : Sto) : eXf i e cs nm F S = if isHole F.v[i]? = true ∧ cs.contains e.c = true then xfR nm e S (lookF nm e.fs e.xs) else .bad := Eq.trans rfl rfl
@[simp] theorem xfR_s (nm : Str) (e : Exc) (S : Sto) (y : Dv) : xfR nm e S (some y) = .ok (.d y) S := Eq.trans rfl rfl
@[simp] theorem eXi_ap (i : Nat) (e : Exc) (ans : Nat → Option Bool) (F : Fr) (S : Sto) : eXi i e ans F S = if isHole F.v[i]? = true then xiR S (ans e.c) else .bad := Eq.trans rfl rfl
@[simp] theorem xiR_s (S : Sto) (b : Bool) : xiR S (some b) = .ok (.d (.bl b)) S := Eq.trans rfl rfl
@[simp] theorem isHole_t : isHole (some none) = true := Eq.trans rfl rfl
/-! ### which errors are which -/
section
variable {K : PySem.W.Frag}
theorem kit_err {C D : Addr} {b : Bool} (hi : PySem.W.isClsIn K D = true) (ht : PySem.W.typeIn K (.ref D) = some (.type "type")) (sf : PySem.W.subIn K (.ref C) (.ref C) = some true) (h : PySem.W.subIn K (.ref C) (.ref D) = some b) : PySem.W.kitOne K (.ref C) (.ref D) = some b := by
  unfold PySem.W.kitOne
  by_cases e : C = D
  · subst e
    rw [sf] at h
    cases h
    rw [if_pos (beq_self_eq_true _)]
  · rw [if_neg fun q => e (Value.ref.inj (beq_iff_eq.mp q))]
    show PySem.W.kitCls K (.ref C) (.ref D) = some b
    unfold PySem.W.kitCls
    simp only
    unfold PySem.W.isClsIn at hi
    rw [if_pos (by rw [hi, ht]; exact beq_self_eq_true _)]
    exact h
theorem kit_errT {C : Addr} {T : String} {b : Bool} (hm : PySem.W.kitMeta T = true) (h : PySem.W.subIn K (.ref C) (.type T) = some b) : PySem.W.kitOne K (.ref C) (.type T) = some b := by
  unfold PySem.W.kitOne
  rw [if_neg (by intro q; cases (beq_iff_eq.mp q))]
  show PySem.W.kitCls K (.ref C) (.type T) = some b
  unfold PySem.W.kitCls
  simp only
  rw [if_pos hm]
  exact h
theorem kit_nil {t : Value} : PySem.W.kitAny K t [] = some false := rfl
theorem kit_t {t u : Value} {r : List Value} (h : PySem.W.kitOne K t u = some true) : PySem.W.kitAny K t (u :: r) = some true := by unfold PySem.W.kitAny; rw [h]
theorem kit_f {t u : Value} {r : List Value} {b : Bool} (h : PySem.W.kitOne K t u = some false) (k : PySem.W.kitAny K t r = some b) : PySem.W.kitAny K t (u :: r) = some b := by unfold PySem.W.kitAny; rw [h]; exact k
end
end Ev

set_option Elab.async false
set_option linter.all false
set_option maxRecDepth 100000
/-! Ev17: is True, is False. -/
namespace Ev
open PySem L2
section
variable {X : Cx} {cl : CL}
def opIsB (S : Sto) (a b : SV) : Option Dv := match view S a, view S b with
  | some (.bl i), some (.bl j) => some (.bl (decide (i = j)))
  | _, _ => none
def opIsNotB (S : Sto) (a b : SV) : Option Dv := match view S a, view S b with
  | some (.bl i), some (.bl j) => some (.bl (!decide (i = j)))
  | _, _ => none
theorem ov_isb : OpR X (compareOp .Is) (ROp X cl opIsB) := OpR.weak op_is_bl fun x y H Q ⟨W, S, a, b, z, r, ra, rb, e, k⟩ => by
  unfold opIsB at e
  split at e
  · rename_i i j ea eb
    cases e
    exact ⟨i, j, view_bl r ea ra, view_bl r eb rb, k W H _ (.refl _ _) r (.bl _)⟩
  · cases e
theorem ov_isnotb : OpR X (compareOp .IsNot) (ROp X cl opIsNotB) := OpR.weak op_isnot_bl fun x y H Q ⟨W, S, a, b, z, r, ra, rb, e, k⟩ => by
  unfold opIsNotB at e
  split at e
  · rename_i i j ea eb
    cases e
    exact ⟨i, j, view_bl r ea ra, view_bl r eb rb, k W H _ (.refl _ _) r (.bl _)⟩
  · cases e
def eDic0 : Fr → Sto → Res SV := fun _ S => .ok (.d (.dic [] [])) S
theorem ev_dic0 {Wx : WX} {pos : Pos} : PE X (.Dict [] [] pos) (RE X cl Wx eDic0) :=
  PE.weak pe_dnewK fun σ H Q ⟨W, F, S, a, o⟩ => fun p hp => by
    obtain ⟨r3, l3⟩ := a.rel.newF (ho := .dK []) hp
    exact o _ _ _ (.refl _ _) l3 r3 (RelD.dic (ks := []) (vs := []) upd_same rfl rfl .nil)
def eDic0M : Fr → Sto → Res SV := fun _ S => .ok (.m S.length) (S ++ [.dic [] []])
theorem ev_dic0M {Wx : WX} {pos : Pos} : PE X (.Dict [] [] pos) (RE X cl Wx eDic0M) :=
  PE.weak pe_dnewK fun σ H Q ⟨W, F, S, a, o⟩ => fun p hp => by
    have r3 := a.rel.newM (p := p) (mo := .dic [] []) (ho := .dK []) hp ⟨a.rel.gnone hp, [], upd_same, rfl, .nil⟩
    refine o _ _ _ (Gr.add _ _ _ a.b) (W.add_le _ _) r3 ⟨?_, by rw [Wd.add_at]⟩
    rw [List.length_append]
    exact Nat.lt_succ_self _
end
@[simp] theorem eDic0_ap (F : Fr) (S : Sto) : eDic0 F S = .ok (.d (.dic [] [])) S := Eq.trans rfl rfl
@[simp] theorem eDic0M_ap (F : Fr) (S : Sto) : eDic0M F S = .ok (.m S.length) (S ++ [.dic [] []]) := Eq.trans rfl rfl
@[simp] theorem opIsB_bb (S : Sto) (i j : Bool) : opIsB S (.d (.bl i)) (.d (.bl j)) = some (.bl (decide (i = j))) := Eq.trans rfl rfl
@[simp] theorem opIsNotB_bb (S : Sto) (i j : Bool) : opIsNotB S (.d (.bl i)) (.d (.bl j)) = some (.bl (!decide (i = j))) := Eq.trans rfl rfl
end Ev

set_option Elab.async false
set_option linter.all false
set_option maxRecDepth 100000
/-! EvLaw: the drawing that all laws share. -/
namespace Ev
open PySem L2
/-- a pool of digits -/
structure Po where
  a : Int
  b : Int
  c : Int
def Po.l (p : Po) : MO := .lst [.d (.int p.a), .d (.int p.b), .d (.int p.c)]
theorem itemsOf_m {S : Sto} {i : Nat} {xs : List SV} (h : S[i]? = some (.lst xs)) : itemsOf S (.m i) = some xs := by simp [itemsOf, h]
theorem view_mi {S : Sto} {i : Nat} : view S (.d (.int i)) = some (.int i) := rfl
theorem opIx_m {S : Sto} {i : Nat} {xs : List SV} {k : Int} (h : S[i]? = some (.lst xs)) : opIx S (.m i) (.d (.int k)) = atI xs k := by simp [opIx, itemsOf_m h]
theorem putIx_m {S : Sto} {i b : Nat} {xs : List SV} {k : Int} {n : Nat} {x : Dv} (h : S[i]? = some (.lst xs)) (hn : ixN xs.length k = some n) : putIx b S (.m i) (.d (.int k)) (.d x) = some (S.set i (.lst (xs.set n (.d x)))) := by
  simp [putIx, h, hn, okIn]
def bNext : Fr → Sto → SRes :=
   sSeq (sIf (tV (eOp opGt (eOpS opIx (eVar 0) (eC (.int 0))) (eC (.int 0)))) (sSeq (sSet 2 (eOp opMod (eBi biInt (aCons (eOpS opIx (eVar 0) (eC (.int 0))) (aNil))) (eVar 1)))
    (sSeq (sSub (eVar 0) (eC (.int 0)) (eOp opDiv (eOpS opIx (eVar 0) (eC (.int 0))) (eVar 1)))
    (sRet (eVar 2)))) (sNil))
    (sSeq (sSub (eVar 0) (eC (.int 1)) (eOp opAdd (eOpS opIx (eVar 0) (eC (.int 1))) (eC (.int 1))))
    (sSeq (sSet 3 (eOp opMod (eBi biInt (aCons (eOp opAdd (eOp opAdd (eOpS opIx (eVar 0) (eC (.int 2))) (eOp opMul (eC (.int 7919)) (eOpS opIx (eVar 0) (eC (.int 1))))) (eC (.int 13))) (aNil))) (eC (.int 2147483647))))
    (sSeq (sSet 3 (eOp opMod (eBi biInt (aCons (eOp opMul (eVar 3) (eOp opAdd (eVar 3) (eC (.int 48271)))) (aNil))) (eC (.int 2147483629))))
    (sSeq (sSet 3 (eOp opMod (eBi biInt (aCons (eOp opAdd (eOp opMul (eVar 3) (eOp opAdd (eVar 3) (eC (.int 69621)))) (eOp opMul (eC (.int 31)) (eOpS opIx (eVar 0) (eC (.int 1))))) (aNil))) (eC (.int 2147483647))))
    (sRet (eOp opMod (eBi biInt (aCons (eOp opDiv (eVar 3) (eC (.int 9))) (aNil))) (eVar 1)))))))
theorem big_of {i : Int} (h0 : 0 ≤ i) (h : i < 2147483648) : big64 i = true := by
  unfold big64
  simp only [Bool.and_eq_true, decide_eq_true_eq]
  omega
theorem ixN0 : ixN 3 0 = some 0 := rfl
theorem ixN1 : ixN 3 1 = some 1 := rfl
theorem next_ok {S : Sto} {i b : Nat} {p : Po} {m : Int} (hS : S[i]? = some p.l) (h0 : 0 < m) (h1 : m < 1073741824) :
    ∃ (d : Int) (q : Po), 0 ≤ d ∧ d < m ∧ runF 2 4 bNext b [.m i, .d (.int m)] S = .ok (.d (.int d)) (S.set i q.l) := by
  have hi : i < S.length := (List.getElem?_eq_some_iff.mp hS).1
  obtain ⟨a, bb, c⟩ := p
  unfold Po.l at hS
  by_cases ha : 0 < a
  · refine ⟨a % m, ⟨a / m, bb, c⟩, Int.emod_nonneg _ (by omega), Int.emod_lt_of_pos _ h0, ?_⟩
    simp [runF, bNext, opIx_m hS, putIx_m hS ixN0, ha, h0, h1, Po.l]
  · have h8 : ∀ x : Int, 0 ≤ x % 2147483647 ∧ x % 2147483647 < 2147483647 := fun x => ⟨Int.emod_nonneg _ (by omega), Int.emod_lt_of_pos _ (by omega)⟩
    have h9 : ∀ x : Int, 0 ≤ x % 2147483629 ∧ x % 2147483629 < 2147483629 := fun x => ⟨Int.emod_nonneg _ (by omega), Int.emod_lt_of_pos _ (by omega)⟩
    have hS' : ∀ z, (S.set i (.lst z))[i]? = some (.lst z) := fun z => by simp [hi]
    have b1 : big64 7919 = true := by decide
    have b2 : big64 31 = true := by decide
    have b3 : ∀ x : Int, big64 (x % 2147483647) = true := fun x => big_of (h8 x).1 (by have := (h8 x).2; omega)
    have b4 : ∀ x : Int, big64 (x % 2147483629) = true := fun x => big_of (h9 x).1 (by have := (h9 x).2; omega)
    let m1 := (c + 7919 * (bb + 1) + 13) % 2147483647
    let m2 := m1 * (m1 + 48271) % 2147483629
    let m3 := (m2 * (m2 + 69621) + 31 * (bb + 1)) % 2147483647
    refine ⟨m3 / 9 % m, ⟨a, bb + 1, c⟩, Int.emod_nonneg _ (by omega), Int.emod_lt_of_pos _ h0, ?_⟩
    simp [runF, bNext, opIx_m hS, putIx_m hS ixN1, ha, h0, h1, Po.l, opIx_m (hS' _), b1, b2, b3, b4, m1, m2, m3]
/-! ### stores that stand apart -/
/-- one thing of the store is another -/
structure Up1 (i : Nat) (S S' : Sto) : Prop where
  len : S'.length = S.length
  oth : ∀ j, j ≠ i → S'[j]? = S[j]?
theorem Up1.refl (i : Nat) (S : Sto) : Up1 i S S := ⟨rfl, fun _ _ => rfl⟩
theorem Up1.trans {i : Nat} {S S1 S2 : Sto} (h : Up1 i S S1) (k : Up1 i S1 S2) : Up1 i S S2 := ⟨k.len.trans h.len, fun j hj => (k.oth j hj).trans (h.oth j hj)⟩
theorem take_eq {S : Sto} {n : Nat} (h : S.length = n) : S.take n = S := by rw [← h]; exact List.take_length
@[simp] theorem set_last (S : Sto) (x y : MO) : (S ++ [x]).set S.length y = S ++ [y] := by
  rw [List.set_append_right _ _ (Nat.le_refl _)]
  simp
/-- a draw, as a call -/
theorem draw_ok {g : Nat → List SV → Sto → Res SV} (hg : ∀ b as S, g b as S = runF 2 4 bNext b as S) {S : Sto} {i : Nat} {p : Po} {m : Int} (hS : S[i]? = some p.l) (h0 : 0 < m) (h1 : m < 1073741824) :
    ∃ (d : Int) (q : Po) (S' : Sto), 0 ≤ d ∧ d < m ∧ S'[i]? = some q.l ∧ Up1 i S S' ∧ fin S.length (g S.length [.m i, .d (.int m)] S) = .ok (.d (.int d)) S' := by
  obtain ⟨d, q, a, b, e⟩ := next_ok (b := S.length) hS h0 h1
  have hi : i < S.length := (List.getElem?_eq_some_iff.mp hS).1
  refine ⟨d, q, S.set i q.l, a, b, by simp [hi], ⟨by simp, fun j hj => by rw [List.getElem?_set_ne (fun z => hj z.symm)]⟩, ?_⟩
  rw [hg, e]
  simp
theorem fin_ins {S : Sto} {c : Nat} {fs : List Str} (xs : List Dv) : fin S.length (.ok (.m S.length) (S ++ [.ins c fs (xs.map .d)])) = .ok (.d (.ins c fs xs)) S := by
  unfold fin
  simp only
  have h : freeze (S ++ [MO.ins c fs (xs.map SV.d)]) (SV.m S.length) = _ := freeze_ins (c := c) (fs := fs) (xs := xs) (by simp)
  rw [h]
  simp
def bCell : Fr → Sto → SRes :=
   sSeq (sIf (tV (eOp opLt (eVar 1) (eBi biLen (aCons (eVar 0) (aNil))))) (sRet (eBi biAbs (aCons (eOpS opIx (eVar 0) (eVar 1)) (aNil)))) (sNil))
    (sRet (eC (.int 0)))
/-- the k-th cell of the script -/
def cellOf (ns : List Int) (k : Nat) : Int := match ns[k]? with
  | some n => if n < 0 then -n else n
  | none => 0
theorem cell_ok {S : Sto} {ns : List Int} {k : Nat} {b : Nat} : runF 2 2 bCell b [.d (.lst (ns.map .int)), .d (.int k)] S = .ok (.d (.int (cellOf ns k))) S := by
  unfold cellOf
  by_cases h : k < ns.length
  · have e : ns[k]? = some ns[k] := by simp [h]
    simp [runF, bCell, h, atI_n, e]
  · have e : ns[k]? = none := by simp; omega
    simp [runF, bCell, h, e]
theorem cellOf_nn (ns : List Int) (k : Nat) : 0 ≤ cellOf ns k := by
  unfold cellOf
  split
  · split <;> omega
  · omega
def bPool (c : Nat → List SV → Sto → Res SV) : Fr → Sto → SRes :=
   sSeq (sSet 2 (eCall c (aCons (eVar 0) (aCons (eVar 1) (aNil)))))
    (sSeq (sIf (tV (eOp opGe (eVar 2) (eOp opPow (eC (.int 10)) (eC (.int 18))))) (sRet (eLstM (aCons (eVar 2) (aCons (eC (.int 0)) (aCons (eOp opMod (eBi biInt (aCons (eVar 2) (aNil))) (eC (.int 1000003))) (aNil)))))) (sNil))
    (sRet (eLstM (aCons (eC (.int 0)) (aCons (eC (.int 0)) (aCons (eVar 2) (aNil)))))))
/-- a new pool -/
theorem pool_ok {g c : Nat → List SV → Sto → Res SV} (hg : ∀ b as S, g b as S = runF 2 3 (bPool c) b as S) (hc : ∀ b as S, c b as S = runF 2 2 bCell b as S) {S : Sto} {ns : List Int} {k : Nat} :
    ∃ (p : Po) (S' : Sto), S'[S.length]? = some p.l ∧ S'.length = S.length + 1 ∧ (∀ j, j ≠ S.length → S'[j]? = S[j]?) ∧ finK S.length (g S.length [.d (.lst (ns.map .int)), .d (.int k)] S) = .ok (.m S.length) S' := by
  have hcc : fin S.length (c S.length [.d (.lst (ns.map .int)), .d (.int k)] S) = .ok (.d (.int (cellOf ns k))) S := by rw [hc, cell_ok]; simp
  have oth : ∀ (x : MO) (j : Nat), j ≠ S.length → (S ++ [x])[j]? = S[j]? := fun x j hj => by
    by_cases h : j < S.length
    · rw [List.getElem?_append_left h]
    · rw [List.getElem?_append_right (by omega), List.getElem?_eq_none_iff.mpr (show S.length ≤ j by omega)]
      exact List.getElem?_eq_none_iff.mpr (by simp; omega)
  have p18 : (10 : Int) ^ (Int.toNat 18) = 1000000000000000000 := by decide
  by_cases h : 1000000000000000000 ≤ cellOf ns k
  · refine ⟨⟨cellOf ns k, 0, cellOf ns k % 1000003⟩, S ++ [Po.l ⟨cellOf ns k, 0, cellOf ns k % 1000003⟩], by simp, by simp, oth _, ?_⟩
    rw [hg]
    simp [runF, bPool, hcc, p18, h, Po.l]
  · refine ⟨⟨0, 0, cellOf ns k⟩, S ++ [Po.l ⟨0, 0, cellOf ns k⟩], by simp, by simp, oth _, ?_⟩
    rw [hg]
    simp [runF, bPool, hcc, p18, h, Po.l]
/-! ### comprehensions whose elements are drawn -/
theorem lcL_draws {i b j : Nat} {ve : Env} {te : Fr → Sto → Res SV} {P : Dv → Prop} (hib : i < b) (hte : ∀ (x : SV) (T : Sto) (p : Po), T[i]? = some p.l → ∃ (y : Dv) (q : Po) (T' : Sto), P y ∧ T'[i]? = some q.l ∧ Up1 i T T' ∧ te ⟨b, ve.set j (some x)⟩ T = .ok (.d y) T') :
    ∀ (xs : List SV) (acc : List Dv) (T : Sto) (p : Po), T.length = b + 1 → T[b]? = some (.lst (acc.map .d)) → T[i]? = some p.l → acc.length + xs.length ≤ 1000 →
      ∃ (ys : List Dv) (q : Po) (T' : Sto), ys.length = xs.length ∧ (∀ y ∈ ys, P y) ∧ T'.length = b + 1 ∧ T'[b]? = some (.lst ((acc ++ ys).map .d)) ∧ T'[i]? = some q.l ∧ (∀ m, m ≠ i → m < b → T'[m]? = T[m]?) ∧ lcL (gNm j) tYs te b ve xs T = .ok (.m b) T'
  | [], acc, T, p, h1, h2, h3, _ => ⟨[], p, T, rfl, fun _ h => absurd h (by simp), h1, by simpa using h2, h3, fun _ _ _ => rfl, rfl⟩
  | x :: r, acc, T, p, h1, h2, h3, h4 => by
    obtain ⟨y, q, T1, py, g1, u1, e1⟩ := hte x T p h3
    simp only [List.length_cons] at h4
    have gb : T1[b]? = some (.lst (acc.map .d)) := by rw [u1.oth b (by omega)]; exact h2
    have l1 : T1.length = b + 1 := by rw [u1.len, h1]
    have bl : b < T1.length := by omega
    obtain ⟨ys, q', T2, ly, pys, l2, g2, g3, o2, e2⟩ := lcL_draws hib hte r (acc ++ [y]) (T1.set b (.lst (acc.map .d ++ [.d y]))) q (by simp [l1]) (by simp [bl]) (by rw [List.getElem?_set_ne (by omega)]; exact g1) (by simp; omega)
    refine ⟨y :: ys, q', T2, by simp [ly], fun z hz => ?_, l2, by simpa using g2, g3, fun m hm hb => ?_, ?_⟩
    · rcases List.mem_cons.mp hz with rfl | hz
      · exact py
      · exact pys z hz
    · rw [o2 m hm hb, List.getElem?_set_ne (by omega), u1.oth m hm]
    · unfold lcL
      have hm : acc.length < most := Nat.lt_of_lt_of_le (show acc.length < 1000 by omega) (by decide)
      simp only [gNm_ap, put_ap, tYs_ap, noX_ok, Res.bind_ok, if_true, e1, gb, lcPut, List.length_map, hm]
      exact e2
theorem lcAll_draws {i j : Nat} {vs : List Nat} {v : Env} {te : Fr → Sto → Res SV} {P : Dv → Prop} {S : Sto} {p : Po} {xs : List SV} (hS : S[i]? = some p.l) (hl : xs.length ≤ 1000)
    (hte : ∀ (x : SV) (T : Sto) (p : Po), T[i]? = some p.l → ∃ (y : Dv) (q : Po) (T' : Sto), P y ∧ T'[i]? = some q.l ∧ Up1 i T T' ∧ te ⟨S.length, (wipeE v vs).set j (some x)⟩ T = .ok (.d y) T') :
    ∃ (ys : List Dv) (q : Po) (S' : Sto), ys.length = xs.length ∧ (∀ y ∈ ys, P y) ∧ S'[i]? = some q.l ∧ Up1 i S S' ∧ lcAll fin vs (gNm j) tYs te v xs S = .ok (.d (.lst ys)) S' := by
  have hi : i < S.length := (List.getElem?_eq_some_iff.mp hS).1
  obtain ⟨ys, q, T, ly, py, l2, g2, g3, o2, e2⟩ := lcL_draws hi hte xs [] (S ++ [.lst []]) p (by simp) (by simp) (by rw [List.getElem?_append_left hi]; exact hS) (by simpa using hl)
  have hf := freeze_lst (xs := ys) (by simpa using g2)
  have tk : ∀ m, m < S.length → ((T.set S.length (.frz (.lst ys))).take S.length)[m]? = T[m]? := fun m hm => by
    rw [List.getElem?_take, if_pos hm, List.getElem?_set_ne (by omega)]
  refine ⟨ys, q, (T.set S.length (.frz (.lst ys))).take S.length, ly, py, by rw [tk i hi]; exact g3, ⟨by simp [l2], fun m hm => ?_⟩, ?_⟩
  · by_cases hb : m < S.length
    · rw [tk m hb, o2 m hm hb, List.getElem?_append_left hb]
    · rw [List.getElem?_eq_none_iff.mpr (by simp [l2]; omega), List.getElem?_eq_none_iff.mpr (by omega)]
  · unfold lcAll
    rw [e2]
    unfold fin
    simp only [hf]
end Ev

set_option Elab.async false
set_option linter.all false
set_option maxRecDepth 100000
namespace Lw
open PySem L2 Ev
def H20_0 (c : Nat → Nat → List SV → Sto → Res SV) (ex : Exc) : Fr → Sto → SRes :=
   sSeq (sIf (tV (eXi 2 ex (okF [(5, false)]))) (sRet (eC (.bl false))) (sNil))
    (sRet (eAn (eXi 2 ex (okF [(5, true)])) (eAn (eXi 2 ex (okF [(5, true)])) (eCall (c 13) (aCons (eXf 2 ex [5] "kind") (aCons (eC (.str "once")) (aNil)))))))
def H21_0 (c : Nat → Nat → List SV → Sto → Res SV) (ex : Exc) : Fr → Sto → SRes :=
   sRet (eXi 2 ex (okF [(5, true)]))
def B5 (c : Nat → Nat → List SV → Sto → Res SV) : Fr → Sto → SRes :=
  -- is_number ['value']
   sRet (eAn (eIsi anInt (eVar 0)) (eNo (eIsi anBool (eVar 0))))
def B6 (c : Nat → Nat → List SV → Sto → Res SV) : Fr → Sto → SRes :=
  -- is_kind ['value']
   sSeq (sIf (tV (eIsi anStr (eVar 0))) (sRet (eOp opEq (eVar 0) (eC (.str "once")))) (sNil))
    (sSeq (sIf (tOrr (tNo (tV (eIsi anTup (eVar 0)))) (tV (eOp opNe (eBi biLen (aCons (eVar 0) (aNil))) (eC (.int 2))))) (sRet (eC (.bl false))) (sNil))
    (sSeq (sIf (tOrr (tNo (tV (eCall (c 5) (aCons (eOpS opIx (eVar 0) (eC (.int 0))) (aNil))))) (tNo (tV (eCall (c 5) (aCons (eOpS opIx (eVar 0) (eC (.int 1))) (aNil)))))) (sRet (eC (.bl false))) (sNil))
    (sRet (eAn (eOp opGe (eOpS opIx (eVar 0) (eC (.int 0))) (eC (.int 1))) (eOp opGe (eOpS opIx (eVar 0) (eC (.int 1))) (eC (.int 0)))))))
def B7 (c : Nat → Nat → List SV → Sto → Res SV) : Fr → Sto → SRes :=
  -- nested ['outer', 'inner']
   sSeq (sIf (tV (eOp opEq (eVar 0) (eC (.str "once")))) (sRet (eVar 1)) (sNil))
    (sSeq (sIf (tV (eOp opEq (eVar 1) (eC (.str "once")))) (sRet (eVar 0)) (sNil))
    (sRet (eTup (aCons (eOp opMul (eOpS opIx (eVar 0) (eC (.int 0))) (eOpS opIx (eVar 1) (eC (.int 0)))) (aCons (eOp opAdd (eOpS opIx (eVar 0) (eC (.int 1))) (eOpS opIx (eVar 1) (eC (.int 1)))) (aNil))))))
def B8 (c : Nat → Nat → List SV → Sto → Res SV) : Fr → Sto → SRes :=
  -- pooled ['first', 'second', 'kind']
   sSeq (sFor (eTup (aCons (eVar 0) (aCons (eVar 1) (aNil)))) (gNm 2) (sIf (tV (eOp opEq (eVar 2) (eC (.str "once")))) (sRaise 5 ["kind"] (aCons (eVar 2) (aNil))) (sNil)))
    (sRet (eTup (aCons (eOp opAdd (eOpS opIx (eVar 0) (eC (.int 0))) (eOpS opIx (eVar 1) (eC (.int 0)))) (aCons (eBi biMax (aCons (eOpS opIx (eVar 0) (eC (.int 1))) (aCons (eOpS opIx (eVar 1) (eC (.int 1))) (aNil)))) (aNil)))))
def B9 (c : Nat → Nat → List SV → Sto → Res SV) : Fr → Sto → SRes :=
  -- covers ['room', 'kind']
   sSeq (sIf (tV (eOp opEq (eVar 1) (eC (.str "once")))) (sRet (eC (.bl true))) (sNil))
    (sSeq (sIf (tV (eOp opEq (eVar 0) (eC (.str "once")))) (sRet (eC (.bl false))) (sNil))
    (sRet (eAn (eOp opLe (eOpS opIx (eVar 1) (eC (.int 0))) (eOpS opIx (eVar 0) (eC (.int 0)))) (eOp opLe (eOpS opIx (eVar 1) (eC (.int 1))) (eOpS opIx (eVar 0) (eC (.int 1)))))))
def B10 (c : Nat → Nat → List SV → Sto → Res SV) : Fr → Sto → SRes :=
  -- _law_cell ['_law_script', '_law_k']
   sSeq (sIf (tV (eOp opLt (eVar 1) (eBi biLen (aCons (eVar 0) (aNil))))) (sRet (eBi biAbs (aCons (eOpS opIx (eVar 0) (eVar 1)) (aNil)))) (sNil))
    (sRet (eC (.int 0)))
def B11 (c : Nat → Nat → List SV → Sto → Res SV) : Fr → Sto → SRes :=
  -- _law_pool ['_law_script', '_law_k', '_law_cell_here']
   sSeq (sSet 2 (eCall (c 10) (aCons (eVar 0) (aCons (eVar 1) (aNil)))))
    (sSeq (sIf (tV (eOp opGe (eVar 2) (eOp opPow (eC (.int 10)) (eC (.int 18))))) (sRet (eLstM (aCons (eVar 2) (aCons (eC (.int 0)) (aCons (eOp opMod (eBi biInt (aCons (eVar 2) (aNil))) (eC (.int 1000003))) (aNil)))))) (sNil))
    (sRet (eLstM (aCons (eC (.int 0)) (aCons (eC (.int 0)) (aCons (eVar 2) (aNil)))))))
def B12 (c : Nat → Nat → List SV → Sto → Res SV) : Fr → Sto → SRes :=
  -- _law_next ['_law_pool_here', '_law_many', '_law_digit', '_law_mixed']
   sSeq (sIf (tV (eOp opGt (eOpS opIx (eVar 0) (eC (.int 0))) (eC (.int 0)))) (sSeq (sSet 2 (eOp opMod (eBi biInt (aCons (eOpS opIx (eVar 0) (eC (.int 0))) (aNil))) (eVar 1)))
    (sSeq (sSub (eVar 0) (eC (.int 0)) (eOp opDiv (eOpS opIx (eVar 0) (eC (.int 0))) (eVar 1)))
    (sRet (eVar 2)))) (sNil))
    (sSeq (sSub (eVar 0) (eC (.int 1)) (eOp opAdd (eOpS opIx (eVar 0) (eC (.int 1))) (eC (.int 1))))
    (sSeq (sSet 3 (eOp opMod (eBi biInt (aCons (eOp opAdd (eOp opAdd (eOpS opIx (eVar 0) (eC (.int 2))) (eOp opMul (eC (.int 7919)) (eOpS opIx (eVar 0) (eC (.int 1))))) (eC (.int 13))) (aNil))) (eC (.int 2147483647))))
    (sSeq (sSet 3 (eOp opMod (eBi biInt (aCons (eOp opMul (eVar 3) (eOp opAdd (eVar 3) (eC (.int 48271)))) (aNil))) (eC (.int 2147483629))))
    (sSeq (sSet 3 (eOp opMod (eBi biInt (aCons (eOp opAdd (eOp opMul (eVar 3) (eOp opAdd (eVar 3) (eC (.int 69621)))) (eOp opMul (eC (.int 31)) (eOpS opIx (eVar 0) (eC (.int 1))))) (aNil))) (eC (.int 2147483647))))
    (sRet (eOp opMod (eBi biInt (aCons (eOp opDiv (eVar 3) (eC (.int 9))) (aNil))) (eVar 1)))))))
def B13 (c : Nat → Nat → List SV → Sto → Res SV) : Fr → Sto → SRes :=
  -- _law_same ['_law_told', '_law_due', '_law_k']
   sSeq (sIf (tV (eOp opIsN (eVar 1) (eC .non))) (sRet (eOp opIsN (eVar 0) (eC .non))) (sNil))
    (sSeq (sIf (tV (eIsi anBool (eVar 1))) (sRet (eAn (eIsi anBool (eVar 0)) (eOp opEq (eVar 0) (eVar 1)))) (sNil))
    (sSeq (sIf (tV (eIsi anInt (eVar 1))) (sRet (eAn (eIsi anInt (eVar 0)) (eAn (eNo (eIsi anBool (eVar 0))) (eOp opEq (eVar 0) (eVar 1))))) (sNil))
    (sSeq (sIf (tV (eIsi anStr (eVar 1))) (sRet (eAn (eIsi anStr (eVar 0)) (eOp opEq (eVar 0) (eVar 1)))) (sNil))
    (sSeq (sIf (tAn (tV (eIsi anLst (eVar 1))) (tNo (tV (eIsi anLst (eVar 0))))) (sRet (eC (.bl false))) (sNil))
    (sSeq (sIf (tAn (tV (eIsi anTup (eVar 1))) (tNo (tV (eIsi anTup (eVar 0))))) (sRet (eC (.bl false))) (sNil))
    (sSeq (sIf (tV (eOp opNe (eBi biLen (aCons (eVar 0) (aNil))) (eBi biLen (aCons (eVar 1) (aNil))))) (sRet (eC (.bl false))) (sNil))
    (sSeq (sForR (aCons (eBi biLen (aCons (eVar 1) (aNil))) (aNil)) (gNm 2) (sIf (tNo (tV (eCall (c 13) (aCons (eOpS opIx (eVar 0) (eVar 2)) (aCons (eOpS opIx (eVar 1) (eVar 2)) (aNil)))))) (sRet (eC (.bl false))) (sNil)))
    (sRet (eC (.bl true))))))))))
def B14 (c : Nat → Nat → List SV → Sto → Res SV) : Fr → Sto → SRes :=
  -- _law_mode ['_law_pool_here', '_law_near', '_law_pick', '_law_uses', '_law_days']
   sSeq (sSet 2 (eCall (c 12) (aCons (eVar 0) (aCons (eC (.int 4)) (aNil)))))
    (sSeq (sIf (tV (eOp opEq (eVar 2) (eC (.int 0)))) (sRet (eC (.str "once"))) (sNil))
    (sSeq (sIf (tAn (tV (eOp opLt (eVar 2) (eC (.int 3)))) (tV (eOp opNe (eVar 1) (eC (.str "once"))))) (sSeq (sSet 3 (eOp opSub (eOp opAdd (eOpS opIx (eVar 1) (eC (.int 0))) (eCall (c 12) (aCons (eVar 0) (aCons (eC (.int 3)) (aNil))))) (eC (.int 1))))
    (sSeq (sSet 4 (eOp opSub (eOp opAdd (eOpS opIx (eVar 1) (eC (.int 1))) (eCall (c 12) (aCons (eVar 0) (aCons (eC (.int 3)) (aNil))))) (eC (.int 1))))
    (sRet (eTup (aCons (eBi biMin (aCons (eC (.int 50)) (aCons (eBi biMax (aCons (eC (.int 1)) (aCons (eVar 3) (aNil)))) (aNil)))) (aCons (eBi biMin (aCons (eC (.int 50)) (aCons (eBi biMax (aCons (eC (.int 0)) (aCons (eVar 4) (aNil)))) (aNil)))) (aNil))))))) (sNil))
    (sRet (eTup (aCons (eOp opAdd (eC (.int 1)) (eCall (c 12) (aCons (eVar 0) (aCons (eC (.int 50)) (aNil))))) (aCons (eCall (c 12) (aCons (eVar 0) (aCons (eC (.int 51)) (aNil)))) (aNil)))))))
def B15 (c : Nat → Nat → List SV → Sto → Res SV) : Fr → Sto → SRes :=
  -- _law_fits ['_law_told', '_law_mode_here']
   sSeq (sIf (tV (eOp opEq (eVar 1) (eC (.str "once")))) (sRet (eAn (eOp opEq (eOpS opIx (eVar 0) (eC (.int 0))) (eC (.int 1))) (eOp opEq (eOpS opIx (eVar 0) (eC (.int 1))) (eC (.int 1))))) (sNil))
    (sRet (eAn (eOp opLe (eOpS opIx (eVar 0) (eC (.int 1))) (eOpS opIx (eVar 1) (eC (.int 0)))) (eOp opLe (eOpS opIx (eVar 0) (eC (.int 2))) (eOpS opIx (eVar 1) (eC (.int 1))))))
def B16 (c : Nat → Nat → List SV → Sto → Res SV) : Fr → Sto → SRes :=
  -- _law_extremes ['_law_mode_here']
   sSeq (sIf (tV (eOp opEq (eVar 0) (eC (.str "once")))) (sRet (eLst (aCons (eTup (aCons (eC (.int 1)) (aCons (eC (.int 1)) (aCons (eC (.int 0)) (aNil))))) (aNil)))) (sNil))
    (sRet (eLst (aCons (eTup (aCons (eC (.int 0)) (aCons (eOpS opIx (eVar 0) (eC (.int 0))) (aCons (eOpS opIx (eVar 0) (eC (.int 1))) (aNil))))) (aCons (eTup (aCons (eC (.int 0)) (aCons (eC (.int 1)) (aCons (eC (.int 0)) (aNil))))) (aCons (eTup (aCons (eC (.int 0)) (aCons (eC (.int 0)) (aCons (eC (.int 0)) (aNil))))) (aCons (eTup (aCons (eC (.int 1)) (aCons (eC (.int 1)) (aCons (eC (.int 0)) (aNil))))) (aNil)))))))
def B17 (c : Nat → Nat → List SV → Sto → Res SV) : Fr → Sto → SRes :=
  -- _law_covers ['_law_room', '_law_mode_here', '_law_told']
   sSeq (sFor (eCall (c 16) (aCons (eVar 1) (aNil))) (gNm 2) (sIf (tNo (tV (eCall (c 15) (aCons (eVar 2) (aCons (eVar 0) (aNil)))))) (sRet (eC (.bl false))) (sNil)))
    (sRet (eC (.bl true)))
def B18 (c : Nat → Nat → List SV → Sto → Res SV) : Fr → Sto → SRes :=
  -- _law_boxed ['_law_told', '_law_mode_here']
   sSeq (sIf (tV (eOp opEq (eVar 1) (eC (.str "once")))) (sRet (eVar 0)) (sNil))
    (sRet (eTup (aCons (eC (.int 0)) (aCons (eOp opMul (eOpS opIx (eVar 1) (eC (.int 0))) (eOpS opIx (eVar 0) (eC (.int 1)))) (aCons (eOp opAdd (eOpS opIx (eVar 1) (eC (.int 1))) (eOpS opIx (eVar 0) (eC (.int 2)))) (aNil))))))
def B19 (c : Nat → Nat → List SV → Sto → Res SV) : Fr → Sto → SRes :=
  -- _law_nested ['_law_outer', '_law_inner', '_law_told']
   sSeq (sIf (tAn (tV (eOp opEq (eVar 0) (eC (.str "once")))) (tV (eOp opEq (eVar 1) (eC (.str "once"))))) (sRet (eC (.str "once"))) (sNil))
    (sSeq (sSet 2 (eCall (c 18) (aCons (eCall (c 18) (aCons (eTup (aCons (eC (.int 1)) (aCons (eC (.int 1)) (aCons (eC (.int 0)) (aNil))))) (aCons (eVar 1) (aNil)))) (aCons (eVar 0) (aNil)))))
    (sRet (eTup (aCons (eOpS opIx (eVar 2) (eC (.int 1))) (aCons (eOpS opIx (eVar 2) (eC (.int 2))) (aNil))))))
def B20 (c : Nat → Nat → List SV → Sto → Res SV) : Fr → Sto → SRes :=
  -- _law_refused ['_law_one', '_law_two', 'e']
   sSeq (sTryAs (okF [(5, true)]) 2 (sExpr (eCall (c 8) (aCons (eVar 0) (aCons (eVar 1) (aNil))))) (H20_0 c))
    (sRet (eC (.bl false)))
def B21 (c : Nat → Nat → List SV → Sto → Res SV) : Fr → Sto → SRes :=
  -- _law_refused_at_all ['_law_one', '_law_two', 'e']
   sSeq (sTryAs (okF [(5, true)]) 2 (sExpr (eCall (c 8) (aCons (eVar 0) (aCons (eVar 1) (aNil))))) (H21_0 c))
    (sRet (eC (.bl false)))
def B22 (c : Nat → Nat → List SV → Sto → Res SV) : Fr → Sto → SRes :=
  -- _law_pair ['_law_one', '_law_two']
   sSeq (sIf (tNo (tV (eCall (c 13) (aCons (eCall (c 9) (aCons (eVar 0) (aCons (eVar 1) (aNil)))) (aCons (eCall (c 17) (aCons (eVar 0) (aCons (eVar 1) (aNil)))) (aNil)))))) (sRet (eC (.bl false))) (sNil))
    (sSeq (sIf (tNo (tV (eCall (c 13) (aCons (eCall (c 7) (aCons (eVar 0) (aCons (eVar 1) (aNil)))) (aCons (eCall (c 19) (aCons (eVar 0) (aCons (eVar 1) (aNil)))) (aNil)))))) (sRet (eC (.bl false))) (sNil))
    (sSeq (sIf (tOrr (tV (eOp opEq (eVar 0) (eC (.str "once")))) (tV (eOp opEq (eVar 1) (eC (.str "once"))))) (sRet (eAn (eCall (c 20) (aCons (eVar 0) (aCons (eVar 1) (aNil)))) (eCall (c 21) (aCons (eVar 0) (aCons (eVar 1) (aNil)))))) (sNil))
    (sRet (eCall (c 13) (aCons (eCall (c 8) (aCons (eVar 0) (aCons (eVar 1) (aNil)))) (aCons (eTup (aCons (eOp opAdd (eOpS opIx (eVar 0) (eC (.int 0))) (eOpS opIx (eVar 1) (eC (.int 0)))) (aCons (eBi biMax (aCons (eC (.int 0)) (aCons (eOpS opIx (eVar 0) (eC (.int 1))) (aCons (eOpS opIx (eVar 1) (eC (.int 1))) (aNil))))) (aNil)))) (aNil)))))))
def B23 (c : Nat → Nat → List SV → Sto → Res SV) : Fr → Sto → SRes :=
  -- _law_odd ['_law_mode_here', '_law_uses', '_law_days', '_law_odd_here']
   sSeq (sSet 1 (eC (.int 3)))
    (sSeq (sSet 2 (eC (.int 2)))
    (sSeq (sIf (tV (eOp opNe (eVar 0) (eC (.str "once")))) (sSeq (sSet 1 (eOpS opIx (eVar 0) (eC (.int 0))))
    (sSet 2 (eOpS opIx (eVar 0) (eC (.int 1))))) (sNil))
    (sSeq (sSet 3 (eLst (aCons (eC .non) (aCons (eC (.int 0)) (aCons (eC (.int 1)) (aCons (eC (.bl true)) (aCons (eC (.bl false)) (aCons (eVar 1) (aCons (eC (.str "")) (aCons (eC (.str "Once")) (aCons (eC (.str "ONCE")) (aCons (eC (.str "once ")) (aCons (eC (.str " once")) (aCons (eC (.str "onc")) (aCons (eC (.str "twice")) (aCons (eBi biStr (aCons (eVar 1) (aNil))) (aCons (eTup (aNil)) (aCons (eLst (aNil)) (aNil)))))))))))))))))))
    (sSeq (sSet 3 (eOp opAdd (eVar 3) (eLst (aCons (eDic0) (aCons (eTup (aCons (eC (.str "once")) (aNil))) (aCons (eLst (aCons (eC (.str "once")) (aNil))) (aCons (eTup (aCons (eC (.str "once")) (aCons (eC (.str "once")) (aNil)))) (aCons (eTup (aCons (eC (.str "once")) (aCons (eC (.int 0)) (aNil)))) (aCons (eTup (aCons (eC (.str "word")) (aCons (eC (.str "a")) (aNil)))) (aCons (eTup (aCons (eC .non) (aCons (eC .non) (aNil)))) (aCons (eTup (aCons (eVar 1) (aNil))) (aNil))))))))))))
    (sSeq (sSet 3 (eOp opAdd (eVar 3) (eLst (aCons (eTup (aCons (eVar 1) (aCons (eVar 2) (aCons (eC (.int 0)) (aNil))))) (aCons (eTup (aCons (eVar 1) (aCons (eVar 2) (aCons (eVar 1) (aNil))))) (aCons (eLst (aCons (eVar 1) (aCons (eVar 2) (aNil)))) (aCons (eTup (aCons (eC (.int 0)) (aCons (eVar 2) (aNil)))) (aCons (eTup (aCons (eOp opSub (eC (.int 0)) (eVar 1)) (aCons (eVar 2) (aNil)))) (aCons (eTup (aCons (eVar 1) (aCons (eOp opSub (eNeg (eC (.int 1))) (eVar 2)) (aNil)))) (aNil))))))))))
    (sSeq (sSet 3 (eOp opAdd (eVar 3) (eLst (aCons (eTup (aCons (eC (.bl true)) (aCons (eVar 2) (aNil)))) (aCons (eTup (aCons (eC (.bl false)) (aCons (eVar 2) (aNil)))) (aCons (eTup (aCons (eVar 1) (aCons (eC (.bl true)) (aNil)))) (aCons (eTup (aCons (eVar 1) (aCons (eC (.bl false)) (aNil)))) (aCons (eTup (aCons (eBi biStr (aCons (eVar 1) (aNil))) (aCons (eVar 2) (aNil)))) (aCons (eTup (aCons (eVar 1) (aCons (eBi biStr (aCons (eVar 2) (aNil))) (aNil)))) (aNil))))))))))
    (sRet (eOp opAdd (eVar 3) (eLst (aCons (eTup (aCons (eTup (aCons (eVar 1) (aCons (eVar 2) (aNil)))) (aCons (eVar 2) (aNil)))) (aCons (eTup (aCons (eVar 1) (aCons (eTup (aCons (eVar 2) (aNil))) (aNil)))) (aCons (eTup (aCons (eVar 1) (aCons (eC .non) (aNil)))) (aCons (eTup (aCons (eC .non) (aCons (eVar 2) (aNil)))) (aCons (eTup (aCons (eLst (aCons (eVar 1) (aNil))) (aCons (eVar 2) (aNil)))) (aCons (eTup (aCons (eTup (aCons (eVar 1) (aCons (eVar 2) (aNil)))) (aNil))) (aNil))))))))))))))))
def B24 (c : Nat → Nat → List SV → Sto → Res SV) : Fr → Sto → SRes :=
  -- _law_kinds_alone ['_law_pool_here', '_law_mode_here', '_law_value', '_law_k', '_law_uses', '_law_days']
   sSeq (sFor (eCall (c 23) (aCons (eVar 1) (aNil))) (gNm 2) (sIf (tV (eOp opIsNotB (eCall (c 6) (aCons (eVar 2) (aNil))) (eC (.bl false)))) (sRet (eC (.bl false))) (sNil)))
    (sSeq (sForR (aCons (eC (.int 3)) (aNil)) (gNm 3) (sSeq (sSet 4 (eOp opSub (eCall (c 12) (aCons (eVar 0) (aCons (eC (.int 6)) (aNil)))) (eC (.int 2))))
    (sSeq (sSet 5 (eOp opSub (eCall (c 12) (aCons (eVar 0) (aCons (eC (.int 6)) (aNil)))) (eC (.int 2))))
    (sIf (tNo (tV (eCall (c 13) (aCons (eCall (c 6) (aCons (eTup (aCons (eVar 4) (aCons (eVar 5) (aNil)))) (aNil))) (aCons (eAn (eOp opGe (eVar 4) (eC (.int 1))) (eOp opGe (eVar 5) (eC (.int 0)))) (aNil)))))) (sRet (eC (.bl false))) (sNil)))))
    (sRet (eOp opIsB (eCall (c 6) (aCons (eTup (aCons (eOp opAdd (eC (.int 1)) (eCall (c 12) (aCons (eVar 0) (aCons (eOp opPow (eC (.int 10)) (eC (.int 6))) (aNil))))) (aCons (eCall (c 12) (aCons (eVar 0) (aCons (eOp opPow (eC (.int 10)) (eC (.int 6))) (aNil)))) (aNil)))) (aNil))) (eC (.bl true)))))
def B25 (c : Nat → Nat → List SV → Sto → Res SV) : Fr → Sto → SRes :=
  -- law ['_law_script', '_law_pool_here', '_law_first', '_law_second', '_law_third', '_law_modes', '_law_one', '_law_two', '_law_due']
   sSeq (sSet 1 (eCallK (c 11) (aCons (eVar 0) (aCons (eC (.int 0)) (aNil)))))
    (sSeq (sSet 2 (eCall (c 14) (aCons (eVar 1) (aCons (eC (.str "once")) (aNil)))))
    (sSeq (sSet 3 (eCall (c 14) (aCons (eVar 1) (aCons (eVar 2) (aNil)))))
    (sSeq (sSet 4 (eCall (c 14) (aCons (eVar 1) (aCons (eVar 3) (aNil)))))
    (sSeq (sSet 5 (eLst (aCons (eVar 2) (aCons (eVar 3) (aCons (eVar 4) (aCons (eCall (c 19) (aCons (eVar 2) (aCons (eVar 3) (aNil)))) (aCons (eCall (c 19) (aCons (eVar 3) (aCons (eVar 4) (aNil)))) (aNil))))))))
    (sSeq (sFor (eVar 5) (gNm 6) (sSeq (sIf (tV (eOp opIsNotB (eCall (c 6) (aCons (eVar 6) (aNil))) (eC (.bl true)))) (sRet (eC (.bl false))) (sNil))
    (sFor (eVar 5) (gNm 7) (sIf (tNo (tV (eCall (c 22) (aCons (eVar 6) (aCons (eVar 7) (aNil)))))) (sRet (eC (.bl false))) (sNil)))))
    (sSeq (sSet 8 (eCall (c 19) (aCons (eVar 2) (aCons (eCall (c 19) (aCons (eVar 3) (aCons (eVar 4) (aNil)))) (aNil)))))
    (sSeq (sIf (tNo (tV (eCall (c 13) (aCons (eCall (c 7) (aCons (eCall (c 7) (aCons (eVar 2) (aCons (eVar 3) (aNil)))) (aCons (eVar 4) (aNil)))) (aCons (eVar 8) (aNil)))))) (sRet (eC (.bl false))) (sNil))
    (sSeq (sIf (tNo (tV (eCall (c 13) (aCons (eCall (c 7) (aCons (eVar 2) (aCons (eCall (c 7) (aCons (eVar 3) (aCons (eVar 4) (aNil)))) (aNil)))) (aCons (eVar 8) (aNil)))))) (sRet (eC (.bl false))) (sNil))
    (sRet (eAn (eCall (c 24) (aCons (eVar 1) (aCons (eVar 4) (aNil)))) (eAn (eCall (c 22) (aCons (eVar 2) (aCons (eVar 3) (aNil)))) (eCall (c 22) (aCons (eVar 3) (aCons (eVar 2) (aNil)))))))))))))))
def tb : Nat → Nat → Nat → List SV → Sto → Res SV
  | 0, _, _, _, _ => .bad
  | k + 1, 5, b, as, S => runF 1 1 (B5 (tb k)) b as S
  | k + 1, 6, b, as, S => runF 1 1 (B6 (tb k)) b as S
  | k + 1, 7, b, as, S => runF 2 2 (B7 (tb k)) b as S
  | k + 1, 8, b, as, S => runF 2 3 (B8 (tb k)) b as S
  | k + 1, 9, b, as, S => runF 2 2 (B9 (tb k)) b as S
  | k + 1, 10, b, as, S => runF 2 2 (B10 (tb k)) b as S
  | k + 1, 11, b, as, S => runF 2 3 (B11 (tb k)) b as S
  | k + 1, 12, b, as, S => runF 2 4 (B12 (tb k)) b as S
  | k + 1, 13, b, as, S => runF 2 3 (B13 (tb k)) b as S
  | k + 1, 14, b, as, S => runF 2 5 (B14 (tb k)) b as S
  | k + 1, 15, b, as, S => runF 2 2 (B15 (tb k)) b as S
  | k + 1, 16, b, as, S => runF 1 1 (B16 (tb k)) b as S
  | k + 1, 17, b, as, S => runF 2 3 (B17 (tb k)) b as S
  | k + 1, 18, b, as, S => runF 2 2 (B18 (tb k)) b as S
  | k + 1, 19, b, as, S => runF 2 3 (B19 (tb k)) b as S
  | k + 1, 20, b, as, S => runF 2 3 (B20 (tb k)) b as S
  | k + 1, 21, b, as, S => runF 2 3 (B21 (tb k)) b as S
  | k + 1, 22, b, as, S => runF 2 2 (B22 (tb k)) b as S
  | k + 1, 23, b, as, S => runF 1 4 (B23 (tb k)) b as S
  | k + 1, 24, b, as, S => runF 2 6 (B24 (tb k)) b as S
  | k + 1, 25, b, as, S => runF 1 9 (B25 (tb k)) b as S
  | _ + 1, _, _, _, _ => .bad
theorem t_5 (k b : Nat) (as : List SV) (S : Sto) : tb (k + 1) 5 b as S = runF 1 1 (B5 (tb k)) b as S := rfl
theorem t_6 (k b : Nat) (as : List SV) (S : Sto) : tb (k + 1) 6 b as S = runF 1 1 (B6 (tb k)) b as S := rfl
theorem t_7 (k b : Nat) (as : List SV) (S : Sto) : tb (k + 1) 7 b as S = runF 2 2 (B7 (tb k)) b as S := rfl
theorem t_8 (k b : Nat) (as : List SV) (S : Sto) : tb (k + 1) 8 b as S = runF 2 3 (B8 (tb k)) b as S := rfl
theorem t_9 (k b : Nat) (as : List SV) (S : Sto) : tb (k + 1) 9 b as S = runF 2 2 (B9 (tb k)) b as S := rfl
theorem t_10 (k b : Nat) (as : List SV) (S : Sto) : tb (k + 1) 10 b as S = runF 2 2 (B10 (tb k)) b as S := rfl
theorem t_11 (k b : Nat) (as : List SV) (S : Sto) : tb (k + 1) 11 b as S = runF 2 3 (B11 (tb k)) b as S := rfl
theorem t_12 (k b : Nat) (as : List SV) (S : Sto) : tb (k + 1) 12 b as S = runF 2 4 (B12 (tb k)) b as S := rfl
theorem t_13 (k b : Nat) (as : List SV) (S : Sto) : tb (k + 1) 13 b as S = runF 2 3 (B13 (tb k)) b as S := rfl
theorem t_14 (k b : Nat) (as : List SV) (S : Sto) : tb (k + 1) 14 b as S = runF 2 5 (B14 (tb k)) b as S := rfl
theorem t_15 (k b : Nat) (as : List SV) (S : Sto) : tb (k + 1) 15 b as S = runF 2 2 (B15 (tb k)) b as S := rfl
theorem t_16 (k b : Nat) (as : List SV) (S : Sto) : tb (k + 1) 16 b as S = runF 1 1 (B16 (tb k)) b as S := rfl
theorem t_17 (k b : Nat) (as : List SV) (S : Sto) : tb (k + 1) 17 b as S = runF 2 3 (B17 (tb k)) b as S := rfl
theorem t_18 (k b : Nat) (as : List SV) (S : Sto) : tb (k + 1) 18 b as S = runF 2 2 (B18 (tb k)) b as S := rfl
theorem t_19 (k b : Nat) (as : List SV) (S : Sto) : tb (k + 1) 19 b as S = runF 2 3 (B19 (tb k)) b as S := rfl
theorem t_20 (k b : Nat) (as : List SV) (S : Sto) : tb (k + 1) 20 b as S = runF 2 3 (B20 (tb k)) b as S := rfl
theorem t_21 (k b : Nat) (as : List SV) (S : Sto) : tb (k + 1) 21 b as S = runF 2 3 (B21 (tb k)) b as S := rfl
theorem t_22 (k b : Nat) (as : List SV) (S : Sto) : tb (k + 1) 22 b as S = runF 2 2 (B22 (tb k)) b as S := rfl
theorem t_23 (k b : Nat) (as : List SV) (S : Sto) : tb (k + 1) 23 b as S = runF 1 4 (B23 (tb k)) b as S := rfl
theorem t_24 (k b : Nat) (as : List SV) (S : Sto) : tb (k + 1) 24 b as S = runF 2 6 (B24 (tb k)) b as S := rfl
theorem t_25 (k b : Nat) (as : List SV) (S : Sto) : tb (k + 1) 25 b as S = runF 1 9 (B25 (tb k)) b as S := rfl
end Lw

set_option Elab.async false
set_option linter.all false
set_option maxRecDepth 100000
namespace Lw
open PySem L2 Ev
abbrev stk (u v : Int) : Dv := .tup [.int u, .int v]
abbrev tri (l m d : Int) : Dv := .tup [.int l, .int m, .int d]
abbrev once : Dv := .str "once"
abbrev exK : Exc := ⟨5, ["kind"], [once]⟩
theorem big_lt {i : Int} (h0 : 0 ≤ i) (h : i < 18446744073709551616) : big64 i = true := by
  unfold big64
  simp only [Bool.and_eq_true, decide_eq_true_eq]
  omega
section
variable {k : Nat} {S : Sto}
theorem s5_int (i : Int) : fin S.length (tb (k + 1) 5 S.length [.d (.int i)] S) = .ok (.d (.bl true)) S := by
  rw [t_5]; simp [runF, B5, anInt, anBool]
theorem s5_bl (i : Bool) : fin S.length (tb (k + 1) 5 S.length [.d (.bl i)] S) = .ok (.d (.bl false)) S := by
  rw [t_5]; simp [runF, B5, anInt, anBool]
theorem s5_str (i : Str) : fin S.length (tb (k + 1) 5 S.length [.d (.str i)] S) = .ok (.d (.bl false)) S := by
  rw [t_5]; simp [runF, B5, anInt, anBool]
theorem s5_non : fin S.length (tb (k + 1) 5 S.length [.d .non] S) = .ok (.d (.bl false)) S := by
  rw [t_5]; simp [runF, B5, anInt, anBool]
theorem s5_tup (i : List Dv) : fin S.length (tb (k + 1) 5 S.length [.d (.tup i)] S) = .ok (.d (.bl false)) S := by
  rw [t_5]; simp [runF, B5, anInt, anBool]
theorem s5_lst (i : List Dv) : fin S.length (tb (k + 1) 5 S.length [.d (.lst i)] S) = .ok (.d (.bl false)) S := by
  rw [t_5]; simp [runF, B5, anInt, anBool]
theorem s6_stk (u v : Int) : fin S.length (tb (k + 2) 6 S.length [.d (stk u v)] S) = .ok (.d (.bl (decide (1 ≤ u ∧ 0 ≤ v)))) S := by
  rw [t_6]
  by_cases h : 1 ≤ u <;> by_cases h2 : 0 ≤ v <;> simp [runF, B6, anStr, anTup, s5_int, h, h2]
theorem s6_str (x : Str) : fin S.length (tb (k + 2) 6 S.length [.d (.str x)] S) = .ok (.d (.bl (x == "once"))) S := by
  rw [t_6]
  simp [runF, B6, anStr]
theorem s13_b (a b : Bool) : fin S.length (tb (k + 1) 13 S.length [.d (.bl a), .d (.bl b)] S) = .ok (.d (.bl (a == b))) S := by
  rw [t_13]
  simp [runF, B13, anBool, SV.isNon]
theorem s13_s (a b : Str) : fin S.length (tb (k + 1) 13 S.length [.d (.str a), .d (.str b)] S) = .ok (.d (.bl (a == b))) S := by
  rw [t_13]
  simp [runF, B13, anBool, anInt, anStr, SV.isNon]
theorem s13_i (a b : Int) : fin S.length (tb (k + 1) 13 S.length [.d (.int a), .d (.int b)] S) = .ok (.d (.bl (a == b))) S := by
  rw [t_13]
  simp [runF, B13, anBool, anInt, SV.isNon]
theorem s13_stk (a b u v : Int) : fin S.length (tb (k + 2) 13 S.length [.d (stk a b), .d (stk u v)] S) = .ok (.d (.bl (decide (a = u ∧ b = v)))) S := by
  rw [t_13]
  by_cases h : a = u <;> by_cases h2 : b = v <;> simp [runF, B13, anBool, anInt, anStr, anLst, anTup, SV.isNon, s13_i, small62_ap, rng_succ, forL_cons, h, h2]
theorem s7_oo : fin S.length (tb (k + 1) 7 S.length [.d once, .d once] S) = .ok (.d once) S := by
  rw [t_7]; simp [runF, B7]
theorem s7_os (u v : Int) : fin S.length (tb (k + 1) 7 S.length [.d once, .d (stk u v)] S) = .ok (.d (stk u v)) S := by
  rw [t_7]; simp [runF, B7]
theorem s7_so (u v : Int) : fin S.length (tb (k + 1) 7 S.length [.d (stk u v), .d once] S) = .ok (.d (stk u v)) S := by
  rw [t_7]; simp [runF, B7]
theorem s7_ss (u v u' v' : Int) (h : big64 u = true) : fin S.length (tb (k + 1) 7 S.length [.d (stk u v), .d (stk u' v')] S) = .ok (.d (stk (u * u') (v + v'))) S := by
  rw [t_7]; simp [runF, B7, h]
theorem s9_o (r : Dv) : fin S.length (tb (k + 1) 9 S.length [.d r, .d once] S) = .ok (.d (.bl true)) S := by
  rw [t_9]; simp [runF, B9]
theorem s9_os (u v : Int) : fin S.length (tb (k + 1) 9 S.length [.d once, .d (stk u v)] S) = .ok (.d (.bl false)) S := by
  rw [t_9]; simp [runF, B9]
theorem s9_ss (u v u' v' : Int) : fin S.length (tb (k + 1) 9 S.length [.d (stk u v), .d (stk u' v')] S) = .ok (.d (.bl (decide (u' ≤ u ∧ v' ≤ v)))) S := by
  rw [t_9]
  by_cases h : u' ≤ u <;> by_cases h2 : v' ≤ v <;> simp [runF, B9, h, h2]
theorem s8_ss (u v u' v' : Int) : fin S.length (tb (k + 1) 8 S.length [.d (stk u v), .d (stk u' v')] S) = .ok (.d (stk (u + u') (max v v'))) S := by
  rw [t_8]
  have e : (if v' > v then v' else v) = max v v' := by omega
  simp [runF, B8, forL_cons, e]
theorem s8_o (r : Dv) : fin S.length (tb (k + 1) 8 S.length [.d once, .d r] S) = .ex exK S := by
  rw [t_8]
  simp [runF, B8, forL_cons]
theorem s8_so (u v : Int) : fin S.length (tb (k + 1) 8 S.length [.d (stk u v), .d once] S) = .ex exK S := by
  rw [t_8]
  simp [runF, B8, forL_cons]
theorem s15_o (l m d : Int) : fin S.length (tb (k + 1) 15 S.length [.d (tri l m d), .d once] S) = .ok (.d (.bl (decide (l = 1 ∧ m = 1)))) S := by
  rw [t_15]
  by_cases h : l = 1 <;> by_cases h2 : m = 1 <;> simp [runF, B15, h, h2]
theorem s15_s (l m d u v : Int) : fin S.length (tb (k + 1) 15 S.length [.d (tri l m d), .d (stk u v)] S) = .ok (.d (.bl (decide (m ≤ u ∧ d ≤ v)))) S := by
  rw [t_15]
  by_cases h : m ≤ u <;> by_cases h2 : d ≤ v <;> simp [runF, B15, h, h2]
theorem s16_o : fin S.length (tb (k + 1) 16 S.length [.d once] S) = .ok (.d (.lst [tri 1 1 0])) S := by
  rw [t_16]; simp [runF, B16]
theorem s16_s (u v : Int) : fin S.length (tb (k + 1) 16 S.length [.d (stk u v)] S) = .ok (.d (.lst [tri 0 u v, tri 0 1 0, tri 0 0 0, tri 1 1 0])) S := by
  rw [t_16]; simp [runF, B16]
theorem s17_oo : fin S.length (tb (k + 2) 17 S.length [.d once, .d once] S) = .ok (.d (.bl true)) S := by
  rw [t_17]; simp [runF, B17, s16_o, s15_o, forL_cons]
theorem s17_so (u v : Int) (h : 1 ≤ u) (h2 : 0 ≤ v) : fin S.length (tb (k + 2) 17 S.length [.d (stk u v), .d once] S) = .ok (.d (.bl true)) S := by
  rw [t_17]; simp [runF, B17, s16_o, s15_s, forL_cons, h, h2]
theorem s17_os (u v : Int) : fin S.length (tb (k + 2) 17 S.length [.d once, .d (stk u v)] S) = .ok (.d (.bl false)) S := by
  rw [t_17]; simp [runF, B17, s16_s, s15_o, forL_cons]
theorem s17_ss (u v u' v' : Int) (h : 1 ≤ u) (h2 : 0 ≤ v) : fin S.length (tb (k + 2) 17 S.length [.d (stk u v), .d (stk u' v')] S) = .ok (.d (.bl (decide (u' ≤ u ∧ v' ≤ v)))) S := by
  rw [t_17]
  have h0 : 0 ≤ u := by omega
  by_cases h3 : u' ≤ u <;> by_cases h4 : v' ≤ v <;> simp [runF, B17, s16_s, s15_s, forL_cons, h, h2, h3, h4, h0]
theorem s18_o (t : Dv) : fin S.length (tb (k + 1) 18 S.length [.d t, .d once] S) = .ok (.d t) S := by
  rw [t_18]; simp [runF, B18]
theorem s18_s (l m d u v : Int) (h : big64 u = true) : fin S.length (tb (k + 1) 18 S.length [.d (tri l m d), .d (stk u v)] S) = .ok (.d (tri 0 (u * m) (v + d))) S := by
  rw [t_18]; simp [runF, B18, h]
theorem s19_oo : fin S.length (tb (k + 2) 19 S.length [.d once, .d once] S) = .ok (.d once) S := by
  rw [t_19]; simp [runF, B19]
theorem s19_os (u v : Int) (h : big64 u = true) : fin S.length (tb (k + 2) 19 S.length [.d once, .d (stk u v)] S) = .ok (.d (stk u v)) S := by
  rw [t_19]; simp [runF, B19, s18_s, s18_o, h]
theorem s19_so (u v : Int) (h : big64 u = true) : fin S.length (tb (k + 2) 19 S.length [.d (stk u v), .d once] S) = .ok (.d (stk u v)) S := by
  rw [t_19]; simp [runF, B19, s18_s, s18_o, h]
theorem s19_ss (u v u' v' : Int) (h : big64 u = true) (h2 : big64 u' = true) : fin S.length (tb (k + 2) 19 S.length [.d (stk u v), .d (stk u' v')] S) = .ok (.d (stk (u * u') (v + v'))) S := by
  rw [t_19]; simp [runF, B19, s18_s, h, h2]
theorem s20_x {x y : Dv} (h : fin S.length (tb (k + 1) 8 S.length [.d x, .d y] S) = .ex exK S) : fin S.length (tb (k + 2) 20 S.length [.d x, .d y] S) = .ok (.d (.bl true)) S := by
  rw [t_20]
  simp [runF, B20, H20_0, h, s13_s]
theorem s21_x {x y : Dv} (h : fin S.length (tb (k + 1) 8 S.length [.d x, .d y] S) = .ex exK S) : fin S.length (tb (k + 2) 21 S.length [.d x, .d y] S) = .ok (.d (.bl true)) S := by
  rw [t_21]
  simp [runF, B21, H21_0, h]
/-- a kind -/
def Mo (B : Int) (d : Dv) : Prop := d = once ∨ ∃ u v, d = stk u v ∧ 1 ≤ u ∧ u ≤ B ∧ 0 ≤ v
theorem s22 {x y : Dv} (hx : Mo 1000000000 x) (hy : Mo 1000000000 y) : fin S.length (tb (k + 3) 22 S.length [.d x, .d y] S) = .ok (.d (.bl true)) S := by
  rw [t_22]
  rcases hx with rfl | ⟨u, v, rfl, h1, h2, h3⟩ <;> rcases hy with rfl | ⟨u', v', rfl, h1', h2', h3'⟩
  · simp [runF, B22, s13_b, s13_s, s9_o, s17_oo, s7_oo, s19_oo, s20_x (s8_o _), s21_x (s8_o _)]
  · have b : big64 u' = true := big_lt (by omega) (by omega)
    simp [runF, B22, s13_b, s13_stk, s9_os, s17_os, s7_os, s19_os, b, s20_x (s8_o _), s21_x (s8_o _)]
  · have b : big64 u = true := big_lt (by omega) (by omega)
    simp [runF, B22, s13_b, s13_stk, s9_o, s17_so, s7_so, s19_so, b, h1, h3, s20_x (s8_so _ _), s21_x (s8_so _ _)]
  · have b : big64 u = true := big_lt (by omega) (by omega)
    have b' : big64 u' = true := big_lt (by omega) (by omega)
    have e : (if v > 0 then (if v' > v then v' else v) else (if v' > 0 then v' else 0)) = max v v' := by omega
    simp [runF, B22, s13_b, s13_stk, s9_ss, s17_ss, s7_ss, s19_ss, s8_ss, b, b', h1, h3, e]
/-- the draws -/
theorem nx {i : Nat} {p : Po} {m : Int} (hS : S[i]? = some p.l) (h0 : 0 < m) (h1 : m < 1073741824) :
    ∃ (d : Int) (q : Po) (S' : Sto), 0 ≤ d ∧ d < m ∧ S'[i]? = some q.l ∧ Up1 i S S' ∧ fin S.length (tb (k + 1) 12 S.length [.m i, .d (.int m)] S) = .ok (.d (.int d)) S' :=
  draw_ok (g := tb (k + 1) 12) (fun b as S => rfl) hS h0 h1
theorem pl0 {ns : List Int} : ∃ (p : Po) (S' : Sto), S'[S.length]? = some p.l ∧ S'.length = S.length + 1 ∧ (∀ j, j ≠ S.length → S'[j]? = S[j]?) ∧ finK S.length (tb (k + 2) 11 S.length [.d (.lst (ns.map .int)), .d (.int 0)] S) = .ok (.m S.length) S' :=
  pool_ok (k := 0) (g := tb (k + 2) 11) (c := tb (k + 1) 10) (fun b as S => rfl) (fun b as S => rfl)
/-- a drawn kind -/
def Md (d : Dv) : Prop := d = once ∨ ∃ u v, d = stk u v ∧ 1 ≤ u ∧ u ≤ 50 ∧ 0 ≤ v ∧ v ≤ 50
theorem s14 {i : Nat} {p : Po} {near : Dv} (hn : Md near) (hS : S[i]? = some p.l) : ∃ (d : Dv) (q : Po) (S' : Sto), Md d ∧ S'[i]? = some q.l ∧ Up1 i S S' ∧ fin S.length (tb (k + 2) 14 S.length [.m i, .d near] S) = .ok (.d d) S' := by
  obtain ⟨x, p1, S1, a1, b1, g1, u1, e1⟩ := nx (k := k) hS (show (0 : Int) < 4 by decide) (by decide)
  by_cases c : x = 0
  · subst c
    refine ⟨once, p1, S1, .inl rfl, g1, u1, ?_⟩
    rw [t_14]
    simp [runF, B14, e1, take_eq u1.len]
  · have fresh : ∃ (d : Dv) (q : Po) (S2 S3 : Sto) (y z : Int), Md d ∧ d = stk (1 + y) z ∧ S3[i]? = some q.l ∧ Up1 i S S3 ∧ fin S1.length (tb (k + 1) 12 S1.length [.m i, .d (.int 50)] S1) = .ok (.d (.int y)) S2 ∧ fin S2.length (tb (k + 1) 12 S2.length [.m i, .d (.int 51)] S2) = .ok (.d (.int z)) S3 := by
      obtain ⟨y, p2, S2, a2, b2, g2, u2, e2⟩ := nx (k := k) g1 (show (0 : Int) < 50 by decide) (by decide)
      obtain ⟨z, p3, S3, a3, b3, g3, u3, e3⟩ := nx (k := k) g2 (show (0 : Int) < 51 by decide) (by decide)
      exact ⟨_, p3, S2, S3, y, z, .inr ⟨1 + y, z, rfl, by omega, by omega, by omega, by omega⟩, rfl, g3, (u1.trans u2).trans u3, e2, e3⟩
    rcases hn with rfl | ⟨u, v, rfl, h1, h2, h3, h4⟩
    · obtain ⟨d, q, S2, S3, y, z, hd, rfl, g, uu, e2, e3⟩ := fresh
      refine ⟨_, q, S3, hd, g, uu, ?_⟩
      rw [t_14]
      by_cases c2 : x < 3 <;> simp [runF, B14, e1, e2, e3, c, c2, take_eq uu.len]
    · by_cases c2 : x < 3
      · obtain ⟨y, p2, S2, a2, b2, g2, u2, e2⟩ := nx (k := k) g1 (show (0 : Int) < 3 by decide) (by decide)
        obtain ⟨z, p3, S3, a3, b3, g3, u3, e3⟩ := nx (k := k) g2 (show (0 : Int) < 3 by decide) (by decide)
        have uu := (u1.trans u2).trans u3
        refine ⟨stk (min 50 (max 1 (u + y - 1))) (min 50 (max 0 (v + z - 1))), p3, S3, .inr ⟨_, _, rfl, by omega, by omega, by omega, by omega⟩, g3, uu, ?_⟩
        rw [t_14]
        have q1 : ∀ t : Int, (if (if t > 1 then t else 1) < 50 then (if t > 1 then t else 1) else 50) = min 50 (max 1 t) := fun t => by omega
        have q2 : ∀ t : Int, (if (if t > 0 then t else 0) < 50 then (if t > 0 then t else 0) else 50) = min 50 (max 0 t) := fun t => by omega
        simp [runF, B14, e1, e2, e3, c, c2, take_eq uu.len]
        constructor <;> (repeat' split) <;> omega
      · obtain ⟨d, q, S2, S3, y, z, hd, rfl, g, uu, e2, e3⟩ := fresh
        refine ⟨_, q, S3, hd, g, uu, ?_⟩
        rw [t_14]
        simp [runF, B14, e1, e2, e3, c, c2, take_eq uu.len]
def odd (u d : Int) : List Dv := [.non, .int 0, .int 1, .bl true, .bl false, .int u, .str "", .str "Once", .str "ONCE", .str "once ", .str " once", .str "onc", .str "twice", .str (Str.ofString (toString u)), .tup [], .lst [],
  .dic [] [], .tup [once], .lst [once], .tup [once, once], .tup [once, .int 0], .tup [.str "word", .str "a"], .tup [.non, .non], .tup [.int u],
  tri u d 0, tri u d u, .lst [.int u, .int d], stk 0 d, stk (0 - u) d, stk u (-1 - d),
  .tup [.bl true, .int d], .tup [.bl false, .int d], .tup [.int u, .bl true], .tup [.int u, .bl false], .tup [.str (Str.ofString (toString u)), .int d], .tup [.int u, .str (Str.ofString (toString d))],
  .tup [stk u d, .int d], .tup [.int u, .tup [.int d]], .tup [.int u, .non], .tup [.non, .int d], .tup [.lst [.int u], .int d], .tup [stk u d]]
theorem small_str : ∀ n : Nat, n < 51 → ((n : Int).natAbs.log2 < 1920) ∧ toString (n : Int) ≠ "once" := by decide +kernel
theorem ty_dic0 : (Dv.dic [] []).ty = .dic := rfl
theorem biStr_i (S : Sto) (i : Int) (h : i.natAbs.log2 < 1920) : biStr S [.d (.int i)] = some (.str (Str.ofString (toString i))) := if_pos h
theorem odd_not {u d : Int} (hu : 1 ≤ u) (hu2 : u ≤ 50) (hd : 0 ≤ d) (hd2 : d ≤ 50) : ∀ x ∈ odd u d, ∀ T : Sto, fin T.length (tb (k + 2) 6 T.length [.d x] T) = .ok (.d (.bl false)) T := by
  have hs : toString u ≠ "once" := by
    obtain ⟨n, rfl⟩ := Int.eq_ofNat_of_zero_le (show 0 ≤ u by omega)
    exact (small_str n (by omega)).2
  have hs2 : ¬ (1 ≤ -u) := by omega
  have hs3 : ¬ (d ≤ -1) := by omega
  simp at hs
  intro x hx T
  unfold odd at hx
  simp only [List.mem_cons, List.not_mem_nil, or_false] at hx
  rcases hx with rfl | rfl | rfl | rfl | rfl | rfl | rfl | rfl | rfl | rfl | rfl | rfl | rfl | rfl | rfl | rfl | rfl | rfl | rfl | rfl | rfl | rfl | rfl | rfl | rfl | rfl | rfl | rfl | rfl | rfl | rfl | rfl | rfl | rfl | rfl | rfl | rfl | rfl | rfl | rfl | rfl | rfl
  all_goals first
    | (rw [s6_str]; simp [hs]; done)
    | (rw [s6_stk]; simp [hs2]; done)
    | (rw [s6_stk]; simp; omega)
    | (rw [t_6]; simp [runF, B6, ty_dic0, anStr, anTup, s5_int, s5_bl, s5_str, s5_non, s5_tup, s5_lst]; done)
theorem s23_s {u d : Int} (hu : 1 ≤ u) (hu2 : u ≤ 50) (hd : 0 ≤ d) (hd2 : d ≤ 50) : fin S.length (tb (k + 1) 23 S.length [.d (stk u d)] S) = .ok (.d (.lst (odd u d))) S := by
  have h1 : ∀ T : Sto, biStr T [.d (.int u)] = some (.str (Str.ofString (toString u))) := fun T => biStr_i T u (by
    obtain ⟨n, rfl⟩ := Int.eq_ofNat_of_zero_le (show 0 ≤ u by omega)
    exact (small_str n (by omega)).1)
  have h2 : ∀ T : Sto, biStr T [.d (.int d)] = some (.str (Str.ofString (toString d))) := fun T => biStr_i T d (by
    obtain ⟨n, rfl⟩ := Int.eq_ofNat_of_zero_le hd
    exact (small_str n (by omega)).1)
  rw [t_23]
  generalize hx : Dv.str (Str.ofString (toString u)) = x at h1
  generalize hy : Dv.str (Str.ofString (toString d)) = y at h2
  unfold odd
  simp only [hx, hy]
  simp [runF, B23, h1, h2]
theorem s23_o : fin S.length (tb (k + 1) 23 S.length [.d once] S) = .ok (.d (.lst (odd 3 2))) S := by
  have h1 : ∀ T : Sto, biStr T [.d (.int 3)] = some (.str (Str.ofString (toString (3 : Int)))) := fun T => biStr_i T 3 (by decide +kernel)
  have h2 : ∀ T : Sto, biStr T [.d (.int 2)] = some (.str (Str.ofString (toString (2 : Int)))) := fun T => biStr_i T 2 (by decide +kernel)
  rw [t_23]
  generalize hx : Dv.str (Str.ofString (toString (3 : Int))) = x at h1
  generalize hy : Dv.str (Str.ofString (toString (2 : Int))) = y at h2
  unfold odd
  simp only [hx, hy]
  simp [runF, B23, h1, h2]
theorem odd_loop (xs : List Dv) (h : ∀ x ∈ xs, ∀ T : Sto, fin T.length (tb (k + 2) 6 T.length [.d x] T) = .ok (.d (.bl false)) T) : ∀ (x0 x1 z : Option SV) (b : Nat) (T : Sto), ∃ z', forL (gNm 2) (sIf (tV (eOp opIsNotB (eCall (tb (k + 2) 6) (aCons (eVar 2) (aNil))) (eC (.bl false)))) (sRet (eC (.bl false))) (sNil)) b (xs.map .d) [x0, x1, z, none, none, none] T
      = .nx [x0, x1, z', none, none, none] T := by
  induction xs with
  | nil => intro x0 x1 z b T; exact ⟨z, by simp⟩
  | cons x r ih =>
    intro x0 x1 z b T
    obtain ⟨z', e⟩ := ih (fun y hy => h y (List.mem_cons_of_mem _ hy)) x0 x1 (some (.d x)) b T
    refine ⟨z', ?_⟩
    have e1 := h x (List.mem_cons_self ..) T
    simp only [List.map_cons, forL_cons]
    simp [e1]
    exact e
theorem draw_loop {i : Nat} : ∀ (n : Nat) (lo : Int) (x0 z y3 y4 y5 : Option SV) (b : Nat) (T : Sto) (p : Po), T[i]? = some p.l → ∃ (y3' y4' y5' : Option SV) (q : Po) (T' : Sto), T'[i]? = some q.l ∧ Up1 i T T' ∧ forL (gNm 3) (sSeq (sSet 4 (eOp opSub (eCall (tb (k + 2) 12) (aCons (eVar 0) (aCons (eC (.int 6)) (aNil)))) (eC (.int 2))))
    (sSeq (sSet 5 (eOp opSub (eCall (tb (k + 2) 12) (aCons (eVar 0) (aCons (eC (.int 6)) (aNil)))) (eC (.int 2))))
    (sIf (tNo (tV (eCall (tb (k + 2) 13) (aCons (eCall (tb (k + 2) 6) (aCons (eTup (aCons (eVar 4) (aCons (eVar 5) (aNil)))) (aNil))) (aCons (eAn (eOp opGe (eVar 4) (eC (.int 1))) (eOp opGe (eVar 5) (eC (.int 0)))) (aNil)))))) (sRet (eC (.bl false))) (sNil)))) b (rng lo n) [some (.m i), x0, z, y3, y4, y5] T
      = .nx [some (.m i), x0, z, y3', y4', y5'] T' := by
  intro n
  induction n with
  | zero => intro lo x0 z y3 y4 y5 b T p hT; exact ⟨y3, y4, y5, p, T, hT, .refl _ _, by simp⟩
  | succ n ih =>
    intro lo x0 z y3 y4 y5 b T p hT
    obtain ⟨d1, p1, T1, a1, b1, g1, u1, e1⟩ := nx (k := k + 1) hT (show (0 : Int) < 6 by decide) (by decide)
    obtain ⟨d2, p2, T2, a2, b2, g2, u2, e2⟩ := nx (k := k + 1) g1 (show (0 : Int) < 6 by decide) (by decide)
    obtain ⟨y3', y4', y5', q, T', g, u, e⟩ := ih (lo + 1) x0 z (some (.d (.int lo))) (some (.d (.int (d1 - 2)))) (some (.d (.int (d2 - 2)))) b T2 p2 g2
    refine ⟨y3', y4', y5', q, T', g, (u1.trans u2).trans u, ?_⟩
    rw [rng_succ, forL_cons]
    have s6 := s6_stk (k := k) (S := T2) (d1 - 2) (d2 - 2)
    have k1 : (1 ≤ d1 - 2) = (3 ≤ d1) := propext (by omega)
    have k2 : (0 ≤ d2 - 2) = (2 ≤ d2) := propext (by omega)
    simp only [k1, k2] at s6
    by_cases c1 : 3 ≤ d1 <;> by_cases c2 : 2 ≤ d2 <;> (simp only [c1, c2, and_true, and_false, true_and, false_and, decide_true, decide_false] at s6; simp [e1, e2, s6, k1, k2, c1, c2, s13_b]; exact e)
theorem s24 {i : Nat} {p : Po} {m : Dv} (hm : Md m) (hS : S[i]? = some p.l) : ∃ (S' : Sto), fin S.length (tb (k + 3) 24 S.length [.m i, .d m] S) = .ok (.d (.bl true)) S' := by
  obtain ⟨u, d, e0, hu, hu2, hd, hd2⟩ : ∃ u d, fin S.length (tb (k + 2) 23 S.length [.d m] S) = .ok (.d (.lst (odd u d))) S ∧ 1 ≤ u ∧ u ≤ 50 ∧ 0 ≤ d ∧ d ≤ 50 := by
    rcases hm with rfl | ⟨u, v, rfl, h1, h2, h3, h4⟩
    · exact ⟨3, 2, s23_o, by decide, by decide, by decide, by decide⟩
    · exact ⟨u, v, s23_s h1 h2 h3 h4, h1, h2, h3, h4⟩
  obtain ⟨z', e1⟩ := odd_loop (k := k) (odd u d) (odd_not hu hu2 hd hd2) (some (.m i)) (some (.d m)) none S.length S
  obtain ⟨y3, y4, y5, q, T, g, uu, e2⟩ := draw_loop (k := k) 3 0 (some (.d m)) z' none none none S.length S p hS
  obtain ⟨d1, p1, T1, a1, b1, g1, u1, f1⟩ := nx (k := k + 1) g (show (0 : Int) < 1000000 by decide) (by decide)
  obtain ⟨d2, p2, T2, a2, b2, g2, u2, f2⟩ := nx (k := k + 1) g1 (show (0 : Int) < 1000000 by decide) (by decide)
  refine ⟨T2, ?_⟩
  have p6 : (10 : Int) ^ (Int.toNat 6) = 1000000 := by decide
  have h1 : 1 ≤ 1 + d1 := by omega
  generalize odd u d = xs at e0 e1
  rw [t_24]
  simp [runF, B24, e0, e1, small62_ap]
  rw [e2]
  simp [p6, f1, f2, s6_stk, h1, a2, take_eq ((uu.trans u1).trans u2).len]
/-- packed -/
def nz : Dv → Dv → Dv
  | .str _, y => y
  | x, .str _ => x
  | .tup [.int u, .int v], .tup [.int u', .int v'] => stk (u * u') (v + v')
  | x, _ => x
theorem nz_ok {x y : Dv} (hx : Mo 1000000 x) (hy : Mo 1000000 y) : fin S.length (tb (k + 2) 19 S.length [.d x, .d y] S) = .ok (.d (nz x y)) S ∧ fin S.length (tb (k + 1) 7 S.length [.d x, .d y] S) = .ok (.d (nz x y)) S := by
  rcases hx with rfl | ⟨u, v, rfl, h1, h2, h3⟩ <;> rcases hy with rfl | ⟨u', v', rfl, h1', h2', h3'⟩
  · exact ⟨s19_oo, s7_oo⟩
  · exact ⟨s19_os _ _ (big_lt (by omega) (by omega)), s7_os _ _⟩
  · exact ⟨s19_so _ _ (big_lt (by omega) (by omega)), s7_so _ _⟩
  · exact ⟨s19_ss _ _ _ _ (big_lt (by omega) (by omega)) (big_lt (by omega) (by omega)), s7_ss _ _ _ _ (big_lt (by omega) (by omega))⟩
theorem nz_mo {A B : Int} {x y : Dv} (hA : 1 ≤ A) (hB : 1 ≤ B) (hx : Mo A x) (hy : Mo B y) : Mo (A * B) (nz x y) := by
  rcases hx with rfl | ⟨u, v, rfl, h1, h2, h3⟩ <;> rcases hy with rfl | ⟨u', v', rfl, h1', h2', h3'⟩
  · exact .inl rfl
  · refine .inr ⟨u', v', rfl, h1', ?_, h3'⟩
    have := Int.mul_le_mul hA h2' (by omega) (by omega)
    omega
  · refine .inr ⟨u, v, rfl, h1, ?_, h3⟩
    have := Int.mul_le_mul h2 hB (by omega) (by omega)
    omega
  · refine .inr ⟨u * u', v + v', rfl, ?_, Int.mul_le_mul h2 h2' (by omega) (by omega), by omega⟩
    have := Int.mul_le_mul h1 h1' (by omega) (by omega)
    omega
theorem nz_assoc {A B C : Int} {x y z : Dv} (hx : Mo A x) (hy : Mo B y) (hz : Mo C z) : nz (nz x y) z = nz x (nz y z) := by
  rcases hx with rfl | ⟨u, v, rfl, h1, h2, h3⟩ <;> rcases hy with rfl | ⟨u', v', rfl, h1', h2', h3'⟩ <;> rcases hz with rfl | ⟨u2, v2, rfl, _, _, _⟩ <;> simp [nz, Int.mul_assoc, Int.add_assoc]
theorem mo_le {A B : Int} {x : Dv} (h : A ≤ B) (hx : Mo A x) : Mo B x := hx.imp id fun ⟨u, v, e, h1, h2, h3⟩ => ⟨u, v, e, h1, Int.le_trans h2 h, h3⟩
theorem md_mo {x : Dv} (hx : Md x) : Mo 50 x := hx.imp id fun ⟨u, v, e, h1, h2, h3, _⟩ => ⟨u, v, e, h1, h2, h3⟩
theorem s6_mo {B : Int} {x : Dv} (hx : Mo B x) : fin S.length (tb (k + 2) 6 S.length [.d x] S) = .ok (.d (.bl true)) S := by
  rcases hx with rfl | ⟨u, v, rfl, h1, h2, h3⟩
  · rw [s6_str]; simp
  · rw [s6_stk]; simp [h1, h3]
theorem s13_mo {B : Int} {x : Dv} (hx : Mo B x) : fin S.length (tb (k + 2) 13 S.length [.d x, .d x] S) = .ok (.d (.bl true)) S := by
  rcases hx with rfl | ⟨u, v, rfl, h1, h2, h3⟩
  · rw [s13_s]; simp
  · rw [s13_stk]; simp
theorem in_loop {x : Dv} (hx : Mo 1000000000 x) (ys : List Dv) (hy : ∀ y ∈ ys, Mo 1000000000 y) : ∀ (x0 x1 x2 x3 x4 x5 z : Option SV) (b : Nat) (T : Sto), ∃ z', forL (gNm 7) (sIf (tNo (tV (eCall (tb (k + 3) 22) (aCons (eVar 6) (aCons (eVar 7) (aNil)))))) (sRet (eC (.bl false))) (sNil)) b (ys.map .d) [x0, x1, x2, x3, x4, x5, some (.d x), z, none] T
      = .nx [x0, x1, x2, x3, x4, x5, some (.d x), z', none] T := by
  induction ys with
  | nil => intro x0 x1 x2 x3 x4 x5 z b T; exact ⟨z, by simp⟩
  | cons y r ih =>
    intro x0 x1 x2 x3 x4 x5 z b T
    obtain ⟨z', e⟩ := ih (fun w hw => hy w (List.mem_cons_of_mem _ hw)) x0 x1 x2 x3 x4 x5 (some (.d y)) b T
    refine ⟨z', ?_⟩
    have e1 := s22 (k := k) (S := T) hx (hy y (List.mem_cons_self ..))
    simp only [List.map_cons, forL_cons]
    simp [e1]
    exact e
theorem out_loop (ys : List Dv) (hy : ∀ y ∈ ys, Mo 1000000000 y) (xs : List Dv) (hx : ∀ y ∈ xs, Mo 1000000000 y) : ∀ (x0 x1 x2 x3 x4 z z2 : Option SV) (b : Nat) (T : Sto), ∃ z' z2', forL (gNm 6) (sSeq (sIf (tV (eOp opIsNotB (eCall (tb (k + 3) 6) (aCons (eVar 6) (aNil))) (eC (.bl true)))) (sRet (eC (.bl false))) (sNil))
    (sFor (eVar 5) (gNm 7) (sIf (tNo (tV (eCall (tb (k + 3) 22) (aCons (eVar 6) (aCons (eVar 7) (aNil)))))) (sRet (eC (.bl false))) (sNil)))) b (xs.map .d) [x0, x1, x2, x3, x4, some (.d (.lst ys)), z, z2, none] T
      = .nx [x0, x1, x2, x3, x4, some (.d (.lst ys)), z', z2', none] T := by
  induction xs with
  | nil => intro x0 x1 x2 x3 x4 z z2 b T; exact ⟨z, z2, by simp⟩
  | cons x r ih =>
    intro x0 x1 x2 x3 x4 z z2 b T
    obtain ⟨w, e1⟩ := in_loop (k := k) (hx x (List.mem_cons_self ..)) ys hy x0 x1 x2 x3 x4 (some (.d (.lst ys))) z2 b T
    obtain ⟨z', z2', e⟩ := ih (fun w hw => hx w (List.mem_cons_of_mem _ hw)) x0 x1 x2 x3 x4 (some (.d x)) w b T
    refine ⟨z', z2', ?_⟩
    have e2 := s6_mo (k := k + 1) (S := T) (hx x (List.mem_cons_self ..))
    simp only [List.map_cons, forL_cons]
    simp [e2]
    rw [e1]
    simp
    exact e
theorem s25 (ns : List Int) : ∃ S', tb (k + 5) 25 S.length [.d (.lst (ns.map .int))] S = .ok (.d (.bl true)) S' := by
  obtain ⟨p0, S0, g0, l0, -, e0⟩ := pl0 (k := k + 2) (S := S) (ns := ns)
  obtain ⟨m1, p1, S1, h1, g1, u1, e1⟩ := s14 (k := k + 2) (near := once) (.inl rfl) g0
  obtain ⟨m2, p2, S2, h2, g2, u2, e2⟩ := s14 (k := k + 2) h1 g1
  obtain ⟨m3, p3, S3, h3, g3, u3, e3⟩ := s14 (k := k + 2) h2 g2
  have q1 := md_mo h1
  have q2 := md_mo h2
  have q3 := md_mo h3
  have n12 : Mo (50 * 50) (nz m1 m2) := nz_mo (by decide) (by decide) q1 q2
  have n23 : Mo (50 * 50) (nz m2 m3) := nz_mo (by decide) (by decide) q2 q3
  have n13 : Mo (50 * (50 * 50)) (nz m1 (nz m2 m3)) := nz_mo (by decide) (by decide) q1 n23
  have a12 := nz_ok (k := k + 2) (S := S3) (mo_le (by decide) q1) (mo_le (by decide) q2)
  have a23 := nz_ok (k := k + 2) (S := S3) (mo_le (by decide) q2) (mo_le (by decide) q3)
  have a123 := nz_ok (k := k + 2) (S := S3) (mo_le (by decide) q1) (mo_le (by decide) n23)
  have b123 := nz_ok (k := k + 2) (S := S3) (mo_le (by decide) n12) (mo_le (by decide) q3)
  have c12 := nz_ok (k := k + 3) (S := S3) (mo_le (by decide) q1) (mo_le (by decide) q2)
  have c23 := nz_ok (k := k + 3) (S := S3) (mo_le (by decide) q2) (mo_le (by decide) q3)
  have c123 := nz_ok (k := k + 3) (S := S3) (mo_le (by decide) q1) (mo_le (by decide) n23)
  have d123 := nz_ok (k := k + 3) (S := S3) (mo_le (by decide) n12) (mo_le (by decide) q3)
  rw [nz_assoc q1 q2 q3] at b123 d123
  have t13 := s13_mo (k := k + 2) (S := S3) n13
  have big : (50 : Int) ≤ 1000000000 := by decide
  have p12 := s22 (k := k + 1) (S := S3) (mo_le big q1) (mo_le big q2)
  have p21 := s22 (k := k + 1) (S := S3) (mo_le big q2) (mo_le big q1)
  have all : ∀ y ∈ [m1, m2, m3, nz m1 m2, nz m2 m3], Mo 1000000000 y := fun y hy => by
    simp only [List.mem_cons, List.not_mem_nil, or_false] at hy
    rcases hy with rfl | rfl | rfl | rfl | rfl
    · exact mo_le big q1
    · exact mo_le big q2
    · exact mo_le big q3
    · exact mo_le (by decide) n12
    · exact mo_le (by decide) n23
  obtain ⟨S4, e4⟩ := s24 (k := k + 1) h3 g3
  obtain ⟨z, z2, ol⟩ := out_loop (k := k + 1) _ all _ all (some (.d (.lst (ns.map .int)))) (some (.m S.length)) (some (.d m1)) (some (.d m2)) (some (.d m3)) none none S.length S3
  have p12' := s22 (k := k + 1) (S := S4) (mo_le big q1) (mo_le big q2)
  have p21' := s22 (k := k + 1) (S := S4) (mo_le big q2) (mo_le big q1)
  refine ⟨S4, ?_⟩
  generalize nz m1 m2 = w12 at *
  generalize nz m2 m3 = w23 at *
  generalize nz m1 w23 = w13 at *
  rw [t_25]
  simp only [List.map_cons, List.map_nil] at ol
  simp [runF, B25, e0, e1, e2, e3, a12.1, a23.1, c12.2, c23.2, c12.1, c23.1]
  rw [ol]
  simp [a23.1, a12.1, a123.1, b123.2, c123.1, c123.2, d123.2, c12.2, c23.2, t13, e4, p12', p21', a12.2, a23.2, a123.2]
end
theorem law_true : ∀ ns : List Int, ns.length ≤ 63 → ∃ S, tb 20 25 0 [.d (.lst (ns.map .int))] [] = .ok (.d (.bl true)) S := fun ns _ => s25 (k := 15) (S := []) ns
end Lw

set_option Elab.async false
set_option linter.all false
set_option maxRecDepth 100000
namespace Lw
open PySem L2 Ev
/-! ### the text by places -/
def top (i : Nat) : Stmt := PySem.Challenge.pw_heldproofs_k01_kinds_cover.main.body.getD i (.Pass ⟨0, 0, 0, 0⟩)
theorem nd_0 : (("value" : Str) == ("__debug__" : Str)) = false ∧ (("value" : Str) == ("__classdict__" : Str)) = false := ⟨by decide +kernel, by decide +kernel⟩
theorem nd_1 : (("is_number" : Str) == ("__debug__" : Str)) = false ∧ (("is_number" : Str) == ("__classdict__" : Str)) = false := ⟨by decide +kernel, by decide +kernel⟩
theorem nd_2 : (("outer" : Str) == ("__debug__" : Str)) = false ∧ (("outer" : Str) == ("__classdict__" : Str)) = false := ⟨by decide +kernel, by decide +kernel⟩
theorem nd_3 : (("inner" : Str) == ("__debug__" : Str)) = false ∧ (("inner" : Str) == ("__classdict__" : Str)) = false := ⟨by decide +kernel, by decide +kernel⟩
theorem nd_4 : (("first" : Str) == ("__debug__" : Str)) = false ∧ (("first" : Str) == ("__classdict__" : Str)) = false := ⟨by decide +kernel, by decide +kernel⟩
theorem nd_5 : (("second" : Str) == ("__debug__" : Str)) = false ∧ (("second" : Str) == ("__classdict__" : Str)) = false := ⟨by decide +kernel, by decide +kernel⟩
theorem nd_6 : (("kind" : Str) == ("__debug__" : Str)) = false ∧ (("kind" : Str) == ("__classdict__" : Str)) = false := ⟨by decide +kernel, by decide +kernel⟩
theorem nd_7 : (("BadKind" : Str) == ("__debug__" : Str)) = false ∧ (("BadKind" : Str) == ("__classdict__" : Str)) = false := ⟨by decide +kernel, by decide +kernel⟩
theorem nd_8 : (("room" : Str) == ("__debug__" : Str)) = false ∧ (("room" : Str) == ("__classdict__" : Str)) = false := ⟨by decide +kernel, by decide +kernel⟩
theorem nd_9 : (("_law_k" : Str) == ("__debug__" : Str)) = false ∧ (("_law_k" : Str) == ("__classdict__" : Str)) = false := ⟨by decide +kernel, by decide +kernel⟩
theorem nd_10 : (("_law_script" : Str) == ("__debug__" : Str)) = false ∧ (("_law_script" : Str) == ("__classdict__" : Str)) = false := ⟨by decide +kernel, by decide +kernel⟩
theorem nd_11 : (("_law_cell_here" : Str) == ("__debug__" : Str)) = false ∧ (("_law_cell_here" : Str) == ("__classdict__" : Str)) = false := ⟨by decide +kernel, by decide +kernel⟩
theorem nd_12 : (("_law_cell" : Str) == ("__debug__" : Str)) = false ∧ (("_law_cell" : Str) == ("__classdict__" : Str)) = false := ⟨by decide +kernel, by decide +kernel⟩
theorem nd_13 : (("_law_mixed" : Str) == ("__debug__" : Str)) = false ∧ (("_law_mixed" : Str) == ("__classdict__" : Str)) = false := ⟨by decide +kernel, by decide +kernel⟩
theorem nd_14 : (("_law_many" : Str) == ("__debug__" : Str)) = false ∧ (("_law_many" : Str) == ("__classdict__" : Str)) = false := ⟨by decide +kernel, by decide +kernel⟩
theorem nd_15 : (("_law_pool_here" : Str) == ("__debug__" : Str)) = false ∧ (("_law_pool_here" : Str) == ("__classdict__" : Str)) = false := ⟨by decide +kernel, by decide +kernel⟩
theorem nd_16 : (("_law_digit" : Str) == ("__debug__" : Str)) = false ∧ (("_law_digit" : Str) == ("__classdict__" : Str)) = false := ⟨by decide +kernel, by decide +kernel⟩
theorem nd_17 : (("_law_told" : Str) == ("__debug__" : Str)) = false ∧ (("_law_told" : Str) == ("__classdict__" : Str)) = false := ⟨by decide +kernel, by decide +kernel⟩
theorem nd_18 : (("_law_due" : Str) == ("__debug__" : Str)) = false ∧ (("_law_due" : Str) == ("__classdict__" : Str)) = false := ⟨by decide +kernel, by decide +kernel⟩
theorem nd_19 : (("_law_same" : Str) == ("__debug__" : Str)) = false ∧ (("_law_same" : Str) == ("__classdict__" : Str)) = false := ⟨by decide +kernel, by decide +kernel⟩
theorem nd_20 : (("_law_next" : Str) == ("__debug__" : Str)) = false ∧ (("_law_next" : Str) == ("__classdict__" : Str)) = false := ⟨by decide +kernel, by decide +kernel⟩
theorem nd_21 : (("_law_near" : Str) == ("__debug__" : Str)) = false ∧ (("_law_near" : Str) == ("__classdict__" : Str)) = false := ⟨by decide +kernel, by decide +kernel⟩
theorem nd_22 : (("_law_pick" : Str) == ("__debug__" : Str)) = false ∧ (("_law_pick" : Str) == ("__classdict__" : Str)) = false := ⟨by decide +kernel, by decide +kernel⟩
theorem nd_23 : (("_law_uses" : Str) == ("__debug__" : Str)) = false ∧ (("_law_uses" : Str) == ("__classdict__" : Str)) = false := ⟨by decide +kernel, by decide +kernel⟩
theorem nd_24 : (("_law_days" : Str) == ("__debug__" : Str)) = false ∧ (("_law_days" : Str) == ("__classdict__" : Str)) = false := ⟨by decide +kernel, by decide +kernel⟩
theorem nd_25 : (("_law_mode_here" : Str) == ("__debug__" : Str)) = false ∧ (("_law_mode_here" : Str) == ("__classdict__" : Str)) = false := ⟨by decide +kernel, by decide +kernel⟩
theorem nd_26 : (("_law_room" : Str) == ("__debug__" : Str)) = false ∧ (("_law_room" : Str) == ("__classdict__" : Str)) = false := ⟨by decide +kernel, by decide +kernel⟩
theorem nd_27 : (("_law_fits" : Str) == ("__debug__" : Str)) = false ∧ (("_law_fits" : Str) == ("__classdict__" : Str)) = false := ⟨by decide +kernel, by decide +kernel⟩
theorem nd_28 : (("_law_extremes" : Str) == ("__debug__" : Str)) = false ∧ (("_law_extremes" : Str) == ("__classdict__" : Str)) = false := ⟨by decide +kernel, by decide +kernel⟩
theorem nd_29 : (("_law_inner" : Str) == ("__debug__" : Str)) = false ∧ (("_law_inner" : Str) == ("__classdict__" : Str)) = false := ⟨by decide +kernel, by decide +kernel⟩
theorem nd_30 : (("_law_boxed" : Str) == ("__debug__" : Str)) = false ∧ (("_law_boxed" : Str) == ("__classdict__" : Str)) = false := ⟨by decide +kernel, by decide +kernel⟩
theorem nd_31 : (("_law_outer" : Str) == ("__debug__" : Str)) = false ∧ (("_law_outer" : Str) == ("__classdict__" : Str)) = false := ⟨by decide +kernel, by decide +kernel⟩
theorem nd_32 : (("_law_one" : Str) == ("__debug__" : Str)) = false ∧ (("_law_one" : Str) == ("__classdict__" : Str)) = false := ⟨by decide +kernel, by decide +kernel⟩
theorem nd_33 : (("_law_two" : Str) == ("__debug__" : Str)) = false ∧ (("_law_two" : Str) == ("__classdict__" : Str)) = false := ⟨by decide +kernel, by decide +kernel⟩
theorem nd_34 : (("pooled" : Str) == ("__debug__" : Str)) = false ∧ (("pooled" : Str) == ("__classdict__" : Str)) = false := ⟨by decide +kernel, by decide +kernel⟩
theorem nd_35 : (("e" : Str) == ("__debug__" : Str)) = false ∧ (("e" : Str) == ("__classdict__" : Str)) = false := ⟨by decide +kernel, by decide +kernel⟩
theorem nd_36 : (("HeldError" : Str) == ("__debug__" : Str)) = false ∧ (("HeldError" : Str) == ("__classdict__" : Str)) = false := ⟨by decide +kernel, by decide +kernel⟩
theorem nd_37 : (("UnknownName" : Str) == ("__debug__" : Str)) = false ∧ (("UnknownName" : Str) == ("__classdict__" : Str)) = false := ⟨by decide +kernel, by decide +kernel⟩
theorem nd_38 : (("NoRoom" : Str) == ("__debug__" : Str)) = false ∧ (("NoRoom" : Str) == ("__classdict__" : Str)) = false := ⟨by decide +kernel, by decide +kernel⟩
theorem nd_39 : (("NameTaken" : Str) == ("__debug__" : Str)) = false ∧ (("NameTaken" : Str) == ("__classdict__" : Str)) = false := ⟨by decide +kernel, by decide +kernel⟩
theorem nd_40 : (("BadName" : Str) == ("__debug__" : Str)) = false ∧ (("BadName" : Str) == ("__classdict__" : Str)) = false := ⟨by decide +kernel, by decide +kernel⟩
theorem nd_41 : (("_law_refused_at_all" : Str) == ("__debug__" : Str)) = false ∧ (("_law_refused_at_all" : Str) == ("__classdict__" : Str)) = false := ⟨by decide +kernel, by decide +kernel⟩
theorem nd_42 : (("_law_refused" : Str) == ("__debug__" : Str)) = false ∧ (("_law_refused" : Str) == ("__classdict__" : Str)) = false := ⟨by decide +kernel, by decide +kernel⟩
theorem nd_43 : (("nested" : Str) == ("__debug__" : Str)) = false ∧ (("nested" : Str) == ("__classdict__" : Str)) = false := ⟨by decide +kernel, by decide +kernel⟩
theorem nd_44 : (("_law_nested" : Str) == ("__debug__" : Str)) = false ∧ (("_law_nested" : Str) == ("__classdict__" : Str)) = false := ⟨by decide +kernel, by decide +kernel⟩
theorem nd_45 : (("covers" : Str) == ("__debug__" : Str)) = false ∧ (("covers" : Str) == ("__classdict__" : Str)) = false := ⟨by decide +kernel, by decide +kernel⟩
theorem nd_46 : (("_law_covers" : Str) == ("__debug__" : Str)) = false ∧ (("_law_covers" : Str) == ("__classdict__" : Str)) = false := ⟨by decide +kernel, by decide +kernel⟩
theorem nd_47 : (("_law_odd_here" : Str) == ("__debug__" : Str)) = false ∧ (("_law_odd_here" : Str) == ("__classdict__" : Str)) = false := ⟨by decide +kernel, by decide +kernel⟩
theorem nd_48 : (("is_kind" : Str) == ("__debug__" : Str)) = false ∧ (("is_kind" : Str) == ("__classdict__" : Str)) = false := ⟨by decide +kernel, by decide +kernel⟩
theorem nd_49 : (("_law_value" : Str) == ("__debug__" : Str)) = false ∧ (("_law_value" : Str) == ("__classdict__" : Str)) = false := ⟨by decide +kernel, by decide +kernel⟩
theorem nd_50 : (("_law_odd" : Str) == ("__debug__" : Str)) = false ∧ (("_law_odd" : Str) == ("__classdict__" : Str)) = false := ⟨by decide +kernel, by decide +kernel⟩
theorem nd_51 : (("_law_second" : Str) == ("__debug__" : Str)) = false ∧ (("_law_second" : Str) == ("__classdict__" : Str)) = false := ⟨by decide +kernel, by decide +kernel⟩
theorem nd_52 : (("_law_first" : Str) == ("__debug__" : Str)) = false ∧ (("_law_first" : Str) == ("__classdict__" : Str)) = false := ⟨by decide +kernel, by decide +kernel⟩
theorem nd_53 : (("_law_pair" : Str) == ("__debug__" : Str)) = false ∧ (("_law_pair" : Str) == ("__classdict__" : Str)) = false := ⟨by decide +kernel, by decide +kernel⟩
theorem nd_54 : (("_law_third" : Str) == ("__debug__" : Str)) = false ∧ (("_law_third" : Str) == ("__classdict__" : Str)) = false := ⟨by decide +kernel, by decide +kernel⟩
theorem nd_55 : (("_law_kinds_alone" : Str) == ("__debug__" : Str)) = false ∧ (("_law_kinds_alone" : Str) == ("__classdict__" : Str)) = false := ⟨by decide +kernel, by decide +kernel⟩
theorem nd_56 : (("_law_modes" : Str) == ("__debug__" : Str)) = false ∧ (("_law_modes" : Str) == ("__classdict__" : Str)) = false := ⟨by decide +kernel, by decide +kernel⟩
theorem nd_57 : (("_law_mode" : Str) == ("__debug__" : Str)) = false ∧ (("_law_mode" : Str) == ("__classdict__" : Str)) = false := ⟨by decide +kernel, by decide +kernel⟩
theorem nd_58 : (("_law_pool" : Str) == ("__debug__" : Str)) = false ∧ (("_law_pool" : Str) == ("__classdict__" : Str)) = false := ⟨by decide +kernel, by decide +kernel⟩
theorem nd_59 : (("self" : Str) == ("__debug__" : Str)) = false ∧ (("self" : Str) == ("__classdict__" : Str)) = false := ⟨by decide +kernel, by decide +kernel⟩
theorem v_5_0 : (defScope (top 8)).names.lookup ("value" : Str) = some .local := by decide +kernel
theorem g_5_isinstance : (defScope (top 8)).names.lookup ("isinstance" : Str) = some .globalImplicit := by decide +kernel
theorem g_5_bool : (defScope (top 8)).names.lookup ("bool" : Str) = some .globalImplicit := by decide +kernel
theorem g_5_int : (defScope (top 8)).names.lookup ("int" : Str) = some .globalImplicit := by decide +kernel
theorem v_6_0 : (defScope (top 9)).names.lookup ("value" : Str) = some .local := by decide +kernel
theorem g_6_is_number : (defScope (top 9)).names.lookup ("is_number" : Str) = some .globalImplicit := by decide +kernel
theorem g_6_len : (defScope (top 9)).names.lookup ("len" : Str) = some .globalImplicit := by decide +kernel
theorem g_6_isinstance : (defScope (top 9)).names.lookup ("isinstance" : Str) = some .globalImplicit := by decide +kernel
theorem g_6_tuple : (defScope (top 9)).names.lookup ("tuple" : Str) = some .globalImplicit := by decide +kernel
theorem g_6_str : (defScope (top 9)).names.lookup ("str" : Str) = some .globalImplicit := by decide +kernel
theorem v_7_0 : (defScope (top 10)).names.lookup ("outer" : Str) = some .local := by decide +kernel
theorem v_7_1 : (defScope (top 10)).names.lookup ("inner" : Str) = some .local := by decide +kernel
theorem v_8_0 : (defScope (top 11)).names.lookup ("first" : Str) = some .local := by decide +kernel
theorem v_8_1 : (defScope (top 11)).names.lookup ("second" : Str) = some .local := by decide +kernel
theorem g_8_max : (defScope (top 11)).names.lookup ("max" : Str) = some .globalImplicit := by decide +kernel
theorem v_8_2 : (defScope (top 11)).names.lookup ("kind" : Str) = some .local := by decide +kernel
theorem g_8_BadKind : (defScope (top 11)).names.lookup ("BadKind" : Str) = some .globalImplicit := by decide +kernel
theorem v_9_1 : (defScope (top 12)).names.lookup ("kind" : Str) = some .local := by decide +kernel
theorem v_9_0 : (defScope (top 12)).names.lookup ("room" : Str) = some .local := by decide +kernel
theorem v_10_1 : (defScope (top 14)).names.lookup ("_law_k" : Str) = some .local := by decide +kernel
theorem v_10_0 : (defScope (top 14)).names.lookup ("_law_script" : Str) = some .local := by decide +kernel
theorem g_10_len : (defScope (top 14)).names.lookup ("len" : Str) = some .globalImplicit := by decide +kernel
theorem g_10_abs : (defScope (top 14)).names.lookup ("abs" : Str) = some .globalImplicit := by decide +kernel
theorem v_11_2 : (defScope (top 15)).names.lookup ("_law_cell_here" : Str) = some .local := by decide +kernel
theorem g_11_int : (defScope (top 15)).names.lookup ("int" : Str) = some .globalImplicit := by decide +kernel
theorem v_11_0 : (defScope (top 15)).names.lookup ("_law_script" : Str) = some .local := by decide +kernel
theorem v_11_1 : (defScope (top 15)).names.lookup ("_law_k" : Str) = some .local := by decide +kernel
theorem g_11__law_cell : (defScope (top 15)).names.lookup ("_law_cell" : Str) = some .globalImplicit := by decide +kernel
theorem v_12_3 : (defScope (top 16)).names.lookup ("_law_mixed" : Str) = some .local := by decide +kernel
theorem g_12_int : (defScope (top 16)).names.lookup ("int" : Str) = some .globalImplicit := by decide +kernel
theorem v_12_1 : (defScope (top 16)).names.lookup ("_law_many" : Str) = some .local := by decide +kernel
theorem v_12_0 : (defScope (top 16)).names.lookup ("_law_pool_here" : Str) = some .local := by decide +kernel
theorem v_12_2 : (defScope (top 16)).names.lookup ("_law_digit" : Str) = some .local := by decide +kernel
theorem v_13_2 : (defScope (top 17)).names.lookup ("_law_k" : Str) = some .local := by decide +kernel
theorem v_13_0 : (defScope (top 17)).names.lookup ("_law_told" : Str) = some .local := by decide +kernel
theorem v_13_1 : (defScope (top 17)).names.lookup ("_law_due" : Str) = some .local := by decide +kernel
theorem g_13__law_same : (defScope (top 17)).names.lookup ("_law_same" : Str) = some .globalImplicit := by decide +kernel
theorem g_13_len : (defScope (top 17)).names.lookup ("len" : Str) = some .globalImplicit := by decide +kernel
theorem g_13_range : (defScope (top 17)).names.lookup ("range" : Str) = some .globalImplicit := by decide +kernel
theorem g_13_isinstance : (defScope (top 17)).names.lookup ("isinstance" : Str) = some .globalImplicit := by decide +kernel
theorem g_13_tuple : (defScope (top 17)).names.lookup ("tuple" : Str) = some .globalImplicit := by decide +kernel
theorem g_13_list : (defScope (top 17)).names.lookup ("list" : Str) = some .globalImplicit := by decide +kernel
theorem g_13_str : (defScope (top 17)).names.lookup ("str" : Str) = some .globalImplicit := by decide +kernel
theorem g_13_int : (defScope (top 17)).names.lookup ("int" : Str) = some .globalImplicit := by decide +kernel
theorem g_13_bool : (defScope (top 17)).names.lookup ("bool" : Str) = some .globalImplicit := by decide +kernel
theorem v_14_0 : (defScope (top 18)).names.lookup ("_law_pool_here" : Str) = some .local := by decide +kernel
theorem g_14__law_next : (defScope (top 18)).names.lookup ("_law_next" : Str) = some .globalImplicit := by decide +kernel
theorem v_14_1 : (defScope (top 18)).names.lookup ("_law_near" : Str) = some .local := by decide +kernel
theorem v_14_2 : (defScope (top 18)).names.lookup ("_law_pick" : Str) = some .local := by decide +kernel
theorem v_14_3 : (defScope (top 18)).names.lookup ("_law_uses" : Str) = some .local := by decide +kernel
theorem g_14_max : (defScope (top 18)).names.lookup ("max" : Str) = some .globalImplicit := by decide +kernel
theorem g_14_min : (defScope (top 18)).names.lookup ("min" : Str) = some .globalImplicit := by decide +kernel
theorem v_14_4 : (defScope (top 18)).names.lookup ("_law_days" : Str) = some .local := by decide +kernel
theorem v_15_0 : (defScope (top 19)).names.lookup ("_law_told" : Str) = some .local := by decide +kernel
theorem v_15_1 : (defScope (top 19)).names.lookup ("_law_mode_here" : Str) = some .local := by decide +kernel
theorem v_16_0 : (defScope (top 20)).names.lookup ("_law_mode_here" : Str) = some .local := by decide +kernel
theorem v_17_2 : (defScope (top 21)).names.lookup ("_law_told" : Str) = some .local := by decide +kernel
theorem v_17_0 : (defScope (top 21)).names.lookup ("_law_room" : Str) = some .local := by decide +kernel
theorem g_17__law_fits : (defScope (top 21)).names.lookup ("_law_fits" : Str) = some .globalImplicit := by decide +kernel
theorem v_17_1 : (defScope (top 21)).names.lookup ("_law_mode_here" : Str) = some .local := by decide +kernel
theorem g_17__law_extremes : (defScope (top 21)).names.lookup ("_law_extremes" : Str) = some .globalImplicit := by decide +kernel
theorem v_18_1 : (defScope (top 22)).names.lookup ("_law_mode_here" : Str) = some .local := by decide +kernel
theorem v_18_0 : (defScope (top 22)).names.lookup ("_law_told" : Str) = some .local := by decide +kernel
theorem v_19_2 : (defScope (top 23)).names.lookup ("_law_told" : Str) = some .local := by decide +kernel
theorem v_19_1 : (defScope (top 23)).names.lookup ("_law_inner" : Str) = some .local := by decide +kernel
theorem g_19__law_boxed : (defScope (top 23)).names.lookup ("_law_boxed" : Str) = some .globalImplicit := by decide +kernel
theorem v_19_0 : (defScope (top 23)).names.lookup ("_law_outer" : Str) = some .local := by decide +kernel
theorem v_20_0 : (defScope (top 24)).names.lookup ("_law_one" : Str) = some .local := by decide +kernel
theorem v_20_1 : (defScope (top 24)).names.lookup ("_law_two" : Str) = some .local := by decide +kernel
theorem g_20_pooled : (defScope (top 24)).names.lookup ("pooled" : Str) = some .globalImplicit := by decide +kernel
theorem v_20_2 : (defScope (top 24)).names.lookup ("e" : Str) = some .local := by decide +kernel
theorem g_20__law_same : (defScope (top 24)).names.lookup ("_law_same" : Str) = some .globalImplicit := by decide +kernel
theorem g_20_isinstance : (defScope (top 24)).names.lookup ("isinstance" : Str) = some .globalImplicit := by decide +kernel
theorem g_20_ValueError : (defScope (top 24)).names.lookup ("ValueError" : Str) = some .globalImplicit := by decide +kernel
theorem g_20_HeldError : (defScope (top 24)).names.lookup ("HeldError" : Str) = some .globalImplicit := by decide +kernel
theorem g_20_UnknownName : (defScope (top 24)).names.lookup ("UnknownName" : Str) = some .globalImplicit := by decide +kernel
theorem g_20_NoRoom : (defScope (top 24)).names.lookup ("NoRoom" : Str) = some .globalImplicit := by decide +kernel
theorem g_20_NameTaken : (defScope (top 24)).names.lookup ("NameTaken" : Str) = some .globalImplicit := by decide +kernel
theorem g_20_BadName : (defScope (top 24)).names.lookup ("BadName" : Str) = some .globalImplicit := by decide +kernel
theorem g_20_BadKind : (defScope (top 24)).names.lookup ("BadKind" : Str) = some .globalImplicit := by decide +kernel
theorem v_21_0 : (defScope (top 25)).names.lookup ("_law_one" : Str) = some .local := by decide +kernel
theorem v_21_1 : (defScope (top 25)).names.lookup ("_law_two" : Str) = some .local := by decide +kernel
theorem g_21_pooled : (defScope (top 25)).names.lookup ("pooled" : Str) = some .globalImplicit := by decide +kernel
theorem v_21_2 : (defScope (top 25)).names.lookup ("e" : Str) = some .local := by decide +kernel
theorem g_21_isinstance : (defScope (top 25)).names.lookup ("isinstance" : Str) = some .globalImplicit := by decide +kernel
theorem g_21_BadKind : (defScope (top 25)).names.lookup ("BadKind" : Str) = some .globalImplicit := by decide +kernel
theorem g_21_HeldError : (defScope (top 25)).names.lookup ("HeldError" : Str) = some .globalImplicit := by decide +kernel
theorem v_22_0 : (defScope (top 26)).names.lookup ("_law_one" : Str) = some .local := by decide +kernel
theorem v_22_1 : (defScope (top 26)).names.lookup ("_law_two" : Str) = some .local := by decide +kernel
theorem g_22_pooled : (defScope (top 26)).names.lookup ("pooled" : Str) = some .globalImplicit := by decide +kernel
theorem g_22_max : (defScope (top 26)).names.lookup ("max" : Str) = some .globalImplicit := by decide +kernel
theorem g_22__law_same : (defScope (top 26)).names.lookup ("_law_same" : Str) = some .globalImplicit := by decide +kernel
theorem g_22__law_refused_at_all : (defScope (top 26)).names.lookup ("_law_refused_at_all" : Str) = some .globalImplicit := by decide +kernel
theorem g_22__law_refused : (defScope (top 26)).names.lookup ("_law_refused" : Str) = some .globalImplicit := by decide +kernel
theorem g_22_nested : (defScope (top 26)).names.lookup ("nested" : Str) = some .globalImplicit := by decide +kernel
theorem g_22__law_nested : (defScope (top 26)).names.lookup ("_law_nested" : Str) = some .globalImplicit := by decide +kernel
theorem g_22_covers : (defScope (top 26)).names.lookup ("covers" : Str) = some .globalImplicit := by decide +kernel
theorem g_22__law_covers : (defScope (top 26)).names.lookup ("_law_covers" : Str) = some .globalImplicit := by decide +kernel
theorem v_23_3 : (defScope (top 27)).names.lookup ("_law_odd_here" : Str) = some .local := by decide +kernel
theorem v_23_1 : (defScope (top 27)).names.lookup ("_law_uses" : Str) = some .local := by decide +kernel
theorem v_23_2 : (defScope (top 27)).names.lookup ("_law_days" : Str) = some .local := by decide +kernel
theorem g_23_str : (defScope (top 27)).names.lookup ("str" : Str) = some .globalImplicit := by decide +kernel
theorem v_23_0 : (defScope (top 27)).names.lookup ("_law_mode_here" : Str) = some .local := by decide +kernel
theorem v_24_0 : (defScope (top 28)).names.lookup ("_law_pool_here" : Str) = some .local := by decide +kernel
theorem g_24__law_next : (defScope (top 28)).names.lookup ("_law_next" : Str) = some .globalImplicit := by decide +kernel
theorem g_24_is_kind : (defScope (top 28)).names.lookup ("is_kind" : Str) = some .globalImplicit := by decide +kernel
theorem v_24_3 : (defScope (top 28)).names.lookup ("_law_k" : Str) = some .local := by decide +kernel
theorem v_24_4 : (defScope (top 28)).names.lookup ("_law_uses" : Str) = some .local := by decide +kernel
theorem v_24_5 : (defScope (top 28)).names.lookup ("_law_days" : Str) = some .local := by decide +kernel
theorem g_24__law_same : (defScope (top 28)).names.lookup ("_law_same" : Str) = some .globalImplicit := by decide +kernel
theorem g_24_range : (defScope (top 28)).names.lookup ("range" : Str) = some .globalImplicit := by decide +kernel
theorem v_24_2 : (defScope (top 28)).names.lookup ("_law_value" : Str) = some .local := by decide +kernel
theorem v_24_1 : (defScope (top 28)).names.lookup ("_law_mode_here" : Str) = some .local := by decide +kernel
theorem g_24__law_odd : (defScope (top 28)).names.lookup ("_law_odd" : Str) = some .globalImplicit := by decide +kernel
theorem v_25_3 : (defScope (top 29)).names.lookup ("_law_second" : Str) = some .local := by decide +kernel
theorem v_25_2 : (defScope (top 29)).names.lookup ("_law_first" : Str) = some .local := by decide +kernel
theorem g_25__law_pair : (defScope (top 29)).names.lookup ("_law_pair" : Str) = some .globalImplicit := by decide +kernel
theorem v_25_1 : (defScope (top 29)).names.lookup ("_law_pool_here" : Str) = some .local := by decide +kernel
theorem v_25_4 : (defScope (top 29)).names.lookup ("_law_third" : Str) = some .local := by decide +kernel
theorem g_25__law_kinds_alone : (defScope (top 29)).names.lookup ("_law_kinds_alone" : Str) = some .globalImplicit := by decide +kernel
theorem g_25_nested : (defScope (top 29)).names.lookup ("nested" : Str) = some .globalImplicit := by decide +kernel
theorem v_25_8 : (defScope (top 29)).names.lookup ("_law_due" : Str) = some .local := by decide +kernel
theorem g_25__law_same : (defScope (top 29)).names.lookup ("_law_same" : Str) = some .globalImplicit := by decide +kernel
theorem g_25__law_nested : (defScope (top 29)).names.lookup ("_law_nested" : Str) = some .globalImplicit := by decide +kernel
theorem v_25_6 : (defScope (top 29)).names.lookup ("_law_one" : Str) = some .local := by decide +kernel
theorem v_25_7 : (defScope (top 29)).names.lookup ("_law_two" : Str) = some .local := by decide +kernel
theorem v_25_5 : (defScope (top 29)).names.lookup ("_law_modes" : Str) = some .local := by decide +kernel
theorem g_25_is_kind : (defScope (top 29)).names.lookup ("is_kind" : Str) = some .globalImplicit := by decide +kernel
theorem g_25__law_mode : (defScope (top 29)).names.lookup ("_law_mode" : Str) = some .globalImplicit := by decide +kernel
theorem v_25_0 : (defScope (top 29)).names.lookup ("_law_script" : Str) = some .local := by decide +kernel
theorem g_25__law_pool : (defScope (top 29)).names.lookup ("_law_pool" : Str) = some .globalImplicit := by decide +kernel
theorem v_4_0 : (defScope (inClass (top 6) 0)).names.lookup ("self" : Str) = some .local := by decide +kernel
theorem v_4_1 : (defScope (inClass (top 6) 0)).names.lookup ("kind" : Str) = some .local := by decide +kernel
theorem g_4_HeldError : (defScope (inClass (top 6) 0)).names.lookup ("HeldError" : Str) = some .globalImplicit := by decide +kernel
theorem sc_0 : FnScope ["self", "name"] ["self", "name"] (defScope (inClass (top 2) 0)) := ⟨rfl, rfl, rfl, by decide +kernel, rfl, by decide +kernel, by decide +kernel⟩
theorem sc_1 : FnScope ["self", "name"] ["self", "name"] (defScope (inClass (top 3) 0)) := ⟨rfl, rfl, rfl, by decide +kernel, rfl, by decide +kernel, by decide +kernel⟩
theorem sc_2 : FnScope ["self", "name"] ["self", "name"] (defScope (inClass (top 4) 0)) := ⟨rfl, rfl, rfl, by decide +kernel, rfl, by decide +kernel, by decide +kernel⟩
theorem sc_3 : FnScope ["self", "name"] ["self", "name"] (defScope (inClass (top 5) 0)) := ⟨rfl, rfl, rfl, by decide +kernel, rfl, by decide +kernel, by decide +kernel⟩
theorem sc_4 : FnScope ["self", "kind"] ["self", "kind"] (defScope (inClass (top 6) 0)) := ⟨rfl, rfl, rfl, by decide +kernel, rfl, by decide +kernel, by decide +kernel⟩
theorem sc_5 : FnScope ["value"] ["value"] (defScope (top 8)) := ⟨rfl, rfl, rfl, by decide +kernel, rfl, by decide +kernel, by decide +kernel⟩
theorem sc_6 : FnScope ["value"] ["value"] (defScope (top 9)) := ⟨rfl, rfl, rfl, by decide +kernel, rfl, by decide +kernel, by decide +kernel⟩
theorem sc_7 : FnScope ["outer", "inner"] ["outer", "inner"] (defScope (top 10)) := ⟨rfl, rfl, rfl, by decide +kernel, rfl, by decide +kernel, by decide +kernel⟩
theorem sc_8 : FnScope ["first", "second", "kind"] ["first", "second"] (defScope (top 11)) := ⟨rfl, rfl, rfl, by decide +kernel, rfl, by decide +kernel, by decide +kernel⟩
theorem sc_9 : FnScope ["room", "kind"] ["room", "kind"] (defScope (top 12)) := ⟨rfl, rfl, rfl, by decide +kernel, rfl, by decide +kernel, by decide +kernel⟩
theorem sc_10 : FnScope ["_law_script", "_law_k"] ["_law_script", "_law_k"] (defScope (top 14)) := ⟨rfl, rfl, rfl, by decide +kernel, rfl, by decide +kernel, by decide +kernel⟩
theorem sc_11 : FnScope ["_law_script", "_law_k", "_law_cell_here"] ["_law_script", "_law_k"] (defScope (top 15)) := ⟨rfl, rfl, rfl, by decide +kernel, rfl, by decide +kernel, by decide +kernel⟩
theorem sc_12 : FnScope ["_law_pool_here", "_law_many", "_law_digit", "_law_mixed"] ["_law_pool_here", "_law_many"] (defScope (top 16)) := ⟨rfl, rfl, rfl, by decide +kernel, rfl, by decide +kernel, by decide +kernel⟩
theorem sc_13 : FnScope ["_law_told", "_law_due", "_law_k"] ["_law_told", "_law_due"] (defScope (top 17)) := ⟨rfl, rfl, rfl, by decide +kernel, rfl, by decide +kernel, by decide +kernel⟩
theorem sc_14 : FnScope ["_law_pool_here", "_law_near", "_law_pick", "_law_uses", "_law_days"] ["_law_pool_here", "_law_near"] (defScope (top 18)) := ⟨rfl, rfl, rfl, by decide +kernel, rfl, by decide +kernel, by decide +kernel⟩
theorem sc_15 : FnScope ["_law_told", "_law_mode_here"] ["_law_told", "_law_mode_here"] (defScope (top 19)) := ⟨rfl, rfl, rfl, by decide +kernel, rfl, by decide +kernel, by decide +kernel⟩
theorem sc_16 : FnScope ["_law_mode_here"] ["_law_mode_here"] (defScope (top 20)) := ⟨rfl, rfl, rfl, by decide +kernel, rfl, by decide +kernel, by decide +kernel⟩
theorem sc_17 : FnScope ["_law_room", "_law_mode_here", "_law_told"] ["_law_room", "_law_mode_here"] (defScope (top 21)) := ⟨rfl, rfl, rfl, by decide +kernel, rfl, by decide +kernel, by decide +kernel⟩
theorem sc_18 : FnScope ["_law_told", "_law_mode_here"] ["_law_told", "_law_mode_here"] (defScope (top 22)) := ⟨rfl, rfl, rfl, by decide +kernel, rfl, by decide +kernel, by decide +kernel⟩
theorem sc_19 : FnScope ["_law_outer", "_law_inner", "_law_told"] ["_law_outer", "_law_inner"] (defScope (top 23)) := ⟨rfl, rfl, rfl, by decide +kernel, rfl, by decide +kernel, by decide +kernel⟩
theorem sc_20 : FnScope ["_law_one", "_law_two", "e"] ["_law_one", "_law_two"] (defScope (top 24)) := ⟨rfl, rfl, rfl, by decide +kernel, rfl, by decide +kernel, by decide +kernel⟩
theorem sc_21 : FnScope ["_law_one", "_law_two", "e"] ["_law_one", "_law_two"] (defScope (top 25)) := ⟨rfl, rfl, rfl, by decide +kernel, rfl, by decide +kernel, by decide +kernel⟩
theorem sc_22 : FnScope ["_law_one", "_law_two"] ["_law_one", "_law_two"] (defScope (top 26)) := ⟨rfl, rfl, rfl, by decide +kernel, rfl, by decide +kernel, by decide +kernel⟩
theorem sc_23 : FnScope ["_law_mode_here", "_law_uses", "_law_days", "_law_odd_here"] ["_law_mode_here"] (defScope (top 27)) := ⟨rfl, rfl, rfl, by decide +kernel, rfl, by decide +kernel, by decide +kernel⟩
theorem sc_24 : FnScope ["_law_pool_here", "_law_mode_here", "_law_value", "_law_k", "_law_uses", "_law_days"] ["_law_pool_here", "_law_mode_here"] (defScope (top 28)) := ⟨rfl, rfl, rfl, by decide +kernel, rfl, by decide +kernel, by decide +kernel⟩
theorem sc_25 : FnScope ["_law_script", "_law_pool_here", "_law_first", "_law_second", "_law_third", "_law_modes", "_law_one", "_law_two", "_law_due"] ["_law_script"] (defScope (top 29)) := ⟨rfl, rfl, rfl, by decide +kernel, rfl, by decide +kernel, by decide +kernel⟩
def ps : Nat → List Str
  | 0 => ["self", "name"]
  | 1 => ["self", "name"]
  | 2 => ["self", "name"]
  | 3 => ["self", "name"]
  | 4 => ["self", "kind"]
  | 5 => ["value"]
  | 6 => ["value"]
  | 7 => ["outer", "inner"]
  | 8 => ["first", "second"]
  | 9 => ["room", "kind"]
  | 10 => ["_law_script", "_law_k"]
  | 11 => ["_law_script", "_law_k"]
  | 12 => ["_law_pool_here", "_law_many"]
  | 13 => ["_law_told", "_law_due"]
  | 14 => ["_law_pool_here", "_law_near"]
  | 15 => ["_law_told", "_law_mode_here"]
  | 16 => ["_law_mode_here"]
  | 17 => ["_law_room", "_law_mode_here"]
  | 18 => ["_law_told", "_law_mode_here"]
  | 19 => ["_law_outer", "_law_inner"]
  | 20 => ["_law_one", "_law_two"]
  | 21 => ["_law_one", "_law_two"]
  | 22 => ["_law_one", "_law_two"]
  | 23 => ["_law_mode_here"]
  | 24 => ["_law_pool_here", "_law_mode_here"]
  | 25 => ["_law_script"]
  | _ => []
structure Txt (K : PySem.W.Frag) (mg : Str → Option Value) (cl : Nat → Addr) (fa : Nat → Addr) (fd : Nat → FuncData) : Prop where
  F0 : Fun K "__init__" "BadName.__init__" (inClass (top 2) 0) (fa 0) (fd 0)
  b0 : Binds K (fd 0) ["self", "name"] []
  F1 : Fun K "__init__" "NameTaken.__init__" (inClass (top 3) 0) (fa 1) (fd 1)
  b1 : Binds K (fd 1) ["self", "name"] []
  F2 : Fun K "__init__" "UnknownName.__init__" (inClass (top 4) 0) (fa 2) (fd 2)
  b2 : Binds K (fd 2) ["self", "name"] []
  F3 : Fun K "__init__" "NoRoom.__init__" (inClass (top 5) 0) (fa 3) (fd 3)
  b3 : Binds K (fd 3) ["self", "name"] []
  F4 : Fun K "__init__" "BadKind.__init__" (inClass (top 6) 0) (fa 4) (fd 4)
  b4 : Binds K (fd 4) ["self", "kind"] []
  F5 : Fun K "is_number" "is_number" (top 8) (fa 5) (fd 5)
  b5 : Binds K (fd 5) ["value"] []
  g5 : mg "is_number" = some (.ref (fa 5))
  F6 : Fun K "is_kind" "is_kind" (top 9) (fa 6) (fd 6)
  b6 : Binds K (fd 6) ["value"] []
  g6 : mg "is_kind" = some (.ref (fa 6))
  F7 : Fun K "nested" "nested" (top 10) (fa 7) (fd 7)
  b7 : Binds K (fd 7) ["outer", "inner"] []
  g7 : mg "nested" = some (.ref (fa 7))
  F8 : Fun K "pooled" "pooled" (top 11) (fa 8) (fd 8)
  b8 : Binds K (fd 8) ["first", "second"] []
  g8 : mg "pooled" = some (.ref (fa 8))
  F9 : Fun K "covers" "covers" (top 12) (fa 9) (fd 9)
  b9 : Binds K (fd 9) ["room", "kind"] []
  g9 : mg "covers" = some (.ref (fa 9))
  F10 : Fun K "_law_cell" "_law_cell" (top 14) (fa 10) (fd 10)
  b10 : Binds K (fd 10) ["_law_script", "_law_k"] []
  g10 : mg "_law_cell" = some (.ref (fa 10))
  F11 : Fun K "_law_pool" "_law_pool" (top 15) (fa 11) (fd 11)
  b11 : Binds K (fd 11) ["_law_script", "_law_k"] []
  g11 : mg "_law_pool" = some (.ref (fa 11))
  F12 : Fun K "_law_next" "_law_next" (top 16) (fa 12) (fd 12)
  b12 : Binds K (fd 12) ["_law_pool_here", "_law_many"] []
  g12 : mg "_law_next" = some (.ref (fa 12))
  F13 : Fun K "_law_same" "_law_same" (top 17) (fa 13) (fd 13)
  b13 : Binds K (fd 13) ["_law_told", "_law_due"] []
  g13 : mg "_law_same" = some (.ref (fa 13))
  F14 : Fun K "_law_mode" "_law_mode" (top 18) (fa 14) (fd 14)
  b14 : Binds K (fd 14) ["_law_pool_here", "_law_near"] []
  g14 : mg "_law_mode" = some (.ref (fa 14))
  F15 : Fun K "_law_fits" "_law_fits" (top 19) (fa 15) (fd 15)
  b15 : Binds K (fd 15) ["_law_told", "_law_mode_here"] []
  g15 : mg "_law_fits" = some (.ref (fa 15))
  F16 : Fun K "_law_extremes" "_law_extremes" (top 20) (fa 16) (fd 16)
  b16 : Binds K (fd 16) ["_law_mode_here"] []
  g16 : mg "_law_extremes" = some (.ref (fa 16))
  F17 : Fun K "_law_covers" "_law_covers" (top 21) (fa 17) (fd 17)
  b17 : Binds K (fd 17) ["_law_room", "_law_mode_here"] []
  g17 : mg "_law_covers" = some (.ref (fa 17))
  F18 : Fun K "_law_boxed" "_law_boxed" (top 22) (fa 18) (fd 18)
  b18 : Binds K (fd 18) ["_law_told", "_law_mode_here"] []
  g18 : mg "_law_boxed" = some (.ref (fa 18))
  F19 : Fun K "_law_nested" "_law_nested" (top 23) (fa 19) (fd 19)
  b19 : Binds K (fd 19) ["_law_outer", "_law_inner"] []
  g19 : mg "_law_nested" = some (.ref (fa 19))
  F20 : Fun K "_law_refused" "_law_refused" (top 24) (fa 20) (fd 20)
  b20 : Binds K (fd 20) ["_law_one", "_law_two"] []
  g20 : mg "_law_refused" = some (.ref (fa 20))
  F21 : Fun K "_law_refused_at_all" "_law_refused_at_all" (top 25) (fa 21) (fd 21)
  b21 : Binds K (fd 21) ["_law_one", "_law_two"] []
  g21 : mg "_law_refused_at_all" = some (.ref (fa 21))
  F22 : Fun K "_law_pair" "_law_pair" (top 26) (fa 22) (fd 22)
  b22 : Binds K (fd 22) ["_law_one", "_law_two"] []
  g22 : mg "_law_pair" = some (.ref (fa 22))
  F23 : Fun K "_law_odd" "_law_odd" (top 27) (fa 23) (fd 23)
  b23 : Binds K (fd 23) ["_law_mode_here"] []
  g23 : mg "_law_odd" = some (.ref (fa 23))
  F24 : Fun K "_law_kinds_alone" "_law_kinds_alone" (top 28) (fa 24) (fd 24)
  b24 : Binds K (fd 24) ["_law_pool_here", "_law_mode_here"] []
  g24 : mg "_law_kinds_alone" = some (.ref (fa 24))
  F25 : Fun K "law" "law" (top 29) (fa 25) (fd 25)
  b25 : Binds K (fd 25) ["_law_script"] []
  g25 : mg "law" = some (.ref (fa 25))
  gC0 : mg "HeldError" = some (.ref (cl 0))
  gC1 : mg "BadName" = some (.ref (cl 1))
  gC2 : mg "NameTaken" = some (.ref (cl 2))
  gC3 : mg "UnknownName" = some (.ref (cl 3))
  gC4 : mg "NoRoom" = some (.ref (cl 4))
  gC5 : mg "BadKind" = some (.ref (cl 5))
  bC : BaseC K (cl 0)
  x5 : OexC K (cl 5)
  xi5 : PySem.W.findIn K (.ref (cl 5)) "__init__" = some (some (.ref (fa 4)))
  xt5 : PySem.W.typeIn K (.ref (fa 4)) = some (.type "function")
  xn5_kind : PySem.W.findIn K (.ref (cl 5)) "kind" = some none
  errs : ∀ c, c ∈ ([5] : List Nat) → ErrC K (cl c)
  exm_BadKind : ∀ q : Nat × Bool, q ∈ [(5, true)] → PySem.W.exmOne K (.ref (cl q.1)) (.ref (cl 5)) = some q.2
  exm_HeldError : ∀ q : Nat × Bool, q ∈ [(5, true)] → PySem.W.exmOne K (.ref (cl q.1)) (.ref (cl 0)) = some q.2
  kit_ValueError : ∀ q : Nat × Bool, q ∈ [(5, true)] → PySem.W.kitOne K (.ref (cl q.1)) (.type "ValueError") = some q.2
  kit_HeldError : ∀ q : Nat × Bool, q ∈ [(5, true)] → PySem.W.kitOne K (.ref (cl q.1)) (.ref (cl 0)) = some q.2
  kit_BadName_NameTaken_NoRoom_UnknownName : ∀ q : Nat × Bool, q ∈ [(5, false)] → PySem.W.kitAny K (.ref (cl q.1)) [.ref (cl 1), .ref (cl 2), .ref (cl 4), .ref (cl 3)] = some q.2
  kit_BadKind : ∀ q : Nat × Bool, q ∈ [(5, true)] → PySem.W.kitOne K (.ref (cl q.1)) (.ref (cl 5)) = some q.2
  xf_kind : ∀ c, c ∈ ([5] : List Nat) → ErrC K (cl c) ∧ PySem.W.findIn K (.ref (cl c)) "kind" = some none
  z_ValueError : mg "ValueError" = none
  z_abs : mg "abs" = none
  z_bool : mg "bool" = none
  z_int : mg "int" = none
  z_isinstance : mg "isinstance" = none
  z_len : mg "len" = none
  z_list : mg "list" = none
  z_max : mg "max" = none
  z_min : mg "min" = none
  z_range : mg "range" = none
  z_str : mg "str" = none
  z_tuple : mg "tuple" = none
section
variable {P : Program} {w : World} {K : PySem.W.Frag} {mg : Str → Option Value} {base : Heap} {cl : Nat → Addr} {fa : Nat → Addr} {fd : Nat → FuncData}
abbrev IHt (P : Program) (w : World) (K : PySem.W.Frag) (mg : Str → Option Value) (base : Heap) (cl fa : Nat → Addr) (fd : Nat → FuncData) (k : Nat) : Prop := ∀ i, FnOk P w K mg base (L2N.CX P w) (2 * k + 2) (fa i) (fd i) (ps i) (SpR K cl (tb k i))
theorem okI_4 {k : Nat} (T : Txt K mg cl fa fd) : FnOk P w K mg base (L2N.CX P w) (k + 1) (fa 4) (fd 4) ["self", "kind"] (SpI (cl 5) ["kind"]) :=
  ini_ok T.F4 sc_4 T.x5 ["kind"] "not a kind that fits" rfl (by decide) (by decide) (fun z hz => by
    simp only [List.mem_cons, List.not_mem_nil, or_false] at hz
    rcases hz with rfl
    · exact T.xn5_kind) fun cdv A outer s H E hr =>
    pss_cons (ps_expr (pe_baseInit T.bC g_4_HeldError T.gC0 (pa_cons (pe_var (i := 0) rfl (.inl v_4_0) nd_59.1 nd_59.2) (pa_cons pe_str pa_nil)) nd_36.1)) (pss_cons (ps_ost (pe_var (i := 0) rfl (.inl v_4_0) nd_59.1 nd_59.2) (pe_var (i := 1) rfl (.inl v_4_1) nd_6.1 nd_6.2)) (pss_nil))
structure HotT (P : Program) (w : World) (K : PySem.W.Frag) (mg : Str → Option Value) (base : Heap) (cl fa : Nat → Addr) (fd : Nat → FuncData) (k : Nat) : Prop where
  h : True
  h13 : L2H.FnH P w K mg base (L2N.CX P w) (2 * k + 2) (fa 13) (fd 13) ["_law_told", "_law_due"] (SpR K cl (tb k 13))
theorem okH_13 {k : Nat} (T : Txt K mg cl fa fd) (HI : HotT P w K mg base cl fa fd k) : L2H.FnH P w K mg base (L2N.CX P w) (2 * k + 3 + 1) (fa 13) (fd 13) ["_law_told", "_law_due"] (SpR K cl (runF 2 3 (B13 (tb k)))) :=
  fn_okH T.F13 sc_13 rfl rfl fun cdv A outer s H E q xo =>
    sv_cons (sv_if (tv_cmp ov_is (ev_var 1 rfl (.inl v_13_1) nd_18.1 nd_18.2) (ev_non)) (sv_one (sv_ret (ev_cmp ov_is (ev_var 0 rfl (.inl v_13_0) nd_17.1 nd_17.2) (ev_non)))) (sv_nil))
    (sv_cons (sv_if (tv_val (ev_isi (noOwn fun _ => rfl) g_13_isinstance T.z_isinstance (ev_var 1 rfl (.inl v_13_1) nd_18.1 nd_18.2) g_13_bool T.z_bool (by decide +kernel) an_bool)) (sv_one (sv_ret (ev_and (ev_isi (noOwn fun _ => rfl) g_13_isinstance T.z_isinstance (ev_var 0 rfl (.inl v_13_0) nd_17.1 nd_17.2) g_13_bool T.z_bool (by decide +kernel) an_bool) (ev_one (ev_cmp (ov_eq xo.hu) (ev_var 0 rfl (.inl v_13_0) nd_17.1 nd_17.2) (ev_var 1 rfl (.inl v_13_1) nd_18.1 nd_18.2)))))) (sv_nil))
    (sv_cons (sv_if (tv_val (ev_isi (noOwn fun _ => rfl) g_13_isinstance T.z_isinstance (ev_var 1 rfl (.inl v_13_1) nd_18.1 nd_18.2) g_13_int T.z_int (by decide +kernel) an_int)) (sv_one (sv_ret (ev_and (ev_isi (noOwn fun _ => rfl) g_13_isinstance T.z_isinstance (ev_var 0 rfl (.inl v_13_0) nd_17.1 nd_17.2) g_13_int T.z_int (by decide +kernel) an_int) (ev_and (ev_not (ev_isi (noOwn fun _ => rfl) g_13_isinstance T.z_isinstance (ev_var 0 rfl (.inl v_13_0) nd_17.1 nd_17.2) g_13_bool T.z_bool (by decide +kernel) an_bool)) (ev_one (ev_cmp (ov_eq xo.hu) (ev_var 0 rfl (.inl v_13_0) nd_17.1 nd_17.2) (ev_var 1 rfl (.inl v_13_1) nd_18.1 nd_18.2))))))) (sv_nil))
    (sv_cons (sv_if (tv_val (ev_isi (noOwn fun _ => rfl) g_13_isinstance T.z_isinstance (ev_var 1 rfl (.inl v_13_1) nd_18.1 nd_18.2) g_13_str T.z_str (by decide +kernel) an_str)) (sv_one (sv_ret (ev_and (ev_isi (noOwn fun _ => rfl) g_13_isinstance T.z_isinstance (ev_var 0 rfl (.inl v_13_0) nd_17.1 nd_17.2) g_13_str T.z_str (by decide +kernel) an_str) (ev_one (ev_cmp (ov_eq xo.hu) (ev_var 0 rfl (.inl v_13_0) nd_17.1 nd_17.2) (ev_var 1 rfl (.inl v_13_1) nd_18.1 nd_18.2)))))) (sv_nil))
    (sv_cons (sv_if (tv_pw (tv_and (tv_val (ev_isi (noOwn fun _ => rfl) g_13_isinstance T.z_isinstance (ev_var 1 rfl (.inl v_13_1) nd_18.1 nd_18.2) g_13_list T.z_list (by decide +kernel) an_lst)) (tv_and1 (tv_not (tv_val (ev_isi (noOwn fun _ => rfl) g_13_isinstance T.z_isinstance (ev_var 0 rfl (.inl v_13_0) nd_17.1 nd_17.2) g_13_list T.z_list (by decide +kernel) an_lst)))))) (sv_one (sv_ret (ev_bl))) (sv_nil))
    (sv_cons (sv_if (tv_pw (tv_and (tv_val (ev_isi (noOwn fun _ => rfl) g_13_isinstance T.z_isinstance (ev_var 1 rfl (.inl v_13_1) nd_18.1 nd_18.2) g_13_tuple T.z_tuple (by decide +kernel) an_tup)) (tv_and1 (tv_not (tv_val (ev_isi (noOwn fun _ => rfl) g_13_isinstance T.z_isinstance (ev_var 0 rfl (.inl v_13_0) nd_17.1 nd_17.2) g_13_tuple T.z_tuple (by decide +kernel) an_tup)))))) (sv_one (sv_ret (ev_bl))) (sv_nil))
    (sv_cons (sv_if (tv_cmp (ov_ne xo.hu) (ev_bi ov_len g_13_len T.z_len (by decide +kernel) (av_cons (ev_var 0 rfl (.inl v_13_0) nd_17.1 nd_17.2) (av_nil))) (ev_bi ov_len g_13_len T.z_len (by decide +kernel) (av_cons (ev_var 1 rfl (.inl v_13_1) nd_18.1 nd_18.2) (av_nil)))) (sv_one (sv_ret (ev_bl))) (sv_nil))
    (sv_cons (sv_forR1H xo.hp xo.hot g_13_range T.z_range (av_cons (ev_bi ov_len g_13_len T.z_len (by decide +kernel) (av_cons (ev_var 1 rfl (.inl v_13_1) nd_18.1 nd_18.2) (av_nil))) (av_nil)) (gv_name 2 sc_13.nd rfl (.inl v_13_2) (hf := .inr v_13_2)) (sv_one (sv_if (tv_not (tv_val (ev_callH HI.h13 (xo.hr.mono (Nat.le_succ _)) xo.hot xo.tk g_13__law_same T.g13 T.F13.kp T.b13 (av_cons (ev_ix xo.hu1 (ev_var 0 rfl (.inl v_13_0) nd_17.1 nd_17.2) (ev_var 2 rfl (.inl v_13_2) nd_9.1 nd_9.2)) (av_cons (ev_ix xo.hu1 (ev_var 1 rfl (.inl v_13_1) nd_18.1 nd_18.2) (ev_var 2 rfl (.inl v_13_2) nd_9.1 nd_9.2)) (av_nil))) nd_19.1))) (sv_one (sv_ret (ev_bl))) (sv_nil))))
    (sv_one (sv_ret (ev_bl))))))))))
theorem all_hot (T : Txt K mg cl fa fd) : ∀ k, HotT P w K mg base cl fa fd k
  | 0 => ⟨trivial, fn_badH fun _ _ _ => rfl⟩
  | k + 1 => ⟨trivial, okH_13 T (all_hot T k)⟩
theorem ok_5 {k : Nat} (T : Txt K mg cl fa fd) (IH : IHt P w K mg base cl fa fd k) : FnOk P w K mg base (L2N.CX P w) (2 * k + 3 + 1) (fa 5) (fd 5) ["value"] (SpR K cl (runF 1 1 (B5 (tb k)))) :=
  fn_ok T.F5 sc_5 rfl rfl fun cdv A outer s H E xo =>
    sv_one (sv_ret (ev_and (ev_isi (noOwn fun _ => rfl) g_5_isinstance T.z_isinstance (ev_var 0 rfl (.inl v_5_0) nd_0.1 nd_0.2) g_5_int T.z_int (by decide +kernel) an_int) (ev_one (ev_not (ev_isi (noOwn fun _ => rfl) g_5_isinstance T.z_isinstance (ev_var 0 rfl (.inl v_5_0) nd_0.1 nd_0.2) g_5_bool T.z_bool (by decide +kernel) an_bool)))))
theorem ok_6 {k : Nat} (T : Txt K mg cl fa fd) (IH : IHt P w K mg base cl fa fd k) : FnOk P w K mg base (L2N.CX P w) (2 * k + 3 + 1) (fa 6) (fd 6) ["value"] (SpR K cl (runF 1 1 (B6 (tb k)))) :=
  fn_ok T.F6 sc_6 rfl rfl fun cdv A outer s H E xo =>
    sv_cons (sv_if (tv_val (ev_isi (noOwn fun _ => rfl) g_6_isinstance T.z_isinstance (ev_var 0 rfl (.inl v_6_0) nd_0.1 nd_0.2) g_6_str T.z_str (by decide +kernel) an_str)) (sv_one (sv_ret (ev_cmp (ov_eq xo.hu) (ev_var 0 rfl (.inl v_6_0) nd_0.1 nd_0.2) (ev_str)))) (sv_nil))
    (sv_cons (sv_if (tv_pw (tv_or (tv_not (tv_val (ev_isi (noOwn fun _ => rfl) g_6_isinstance T.z_isinstance (ev_var 0 rfl (.inl v_6_0) nd_0.1 nd_0.2) g_6_tuple T.z_tuple (by decide +kernel) an_tup))) (tv_or1 (tv_cmp (ov_ne xo.hu) (ev_bi ov_len g_6_len T.z_len (by decide +kernel) (av_cons (ev_var 0 rfl (.inl v_6_0) nd_0.1 nd_0.2) (av_nil))) (ev_int))))) (sv_one (sv_ret (ev_bl))) (sv_nil))
    (sv_cons (sv_if (tv_pw (tv_or (tv_not (tv_val (ev_call (IH 5) (xo.hr.mono (Nat.le_succ _)) xo.tk g_6_is_number T.g5 T.F5.kp T.b5 (av_cons (ev_ix xo.hu1 (ev_var 0 rfl (.inl v_6_0) nd_0.1 nd_0.2) (ev_int)) (av_nil)) nd_1.1))) (tv_or1 (tv_not (tv_val (ev_call (IH 5) (xo.hr.mono (Nat.le_succ _)) xo.tk g_6_is_number T.g5 T.F5.kp T.b5 (av_cons (ev_ix xo.hu1 (ev_var 0 rfl (.inl v_6_0) nd_0.1 nd_0.2) (ev_int)) (av_nil)) nd_1.1)))))) (sv_one (sv_ret (ev_bl))) (sv_nil))
    (sv_one (sv_ret (ev_and (ev_cmp ov_ge (ev_ix xo.hu1 (ev_var 0 rfl (.inl v_6_0) nd_0.1 nd_0.2) (ev_int)) (ev_int)) (ev_one (ev_cmp ov_ge (ev_ix xo.hu1 (ev_var 0 rfl (.inl v_6_0) nd_0.1 nd_0.2) (ev_int)) (ev_int))))))))
theorem ok_7 {k : Nat} (T : Txt K mg cl fa fd) (IH : IHt P w K mg base cl fa fd k) : FnOk P w K mg base (L2N.CX P w) (2 * k + 3 + 1) (fa 7) (fd 7) ["outer", "inner"] (SpR K cl (runF 2 2 (B7 (tb k)))) :=
  fn_ok T.F7 sc_7 rfl rfl fun cdv A outer s H E xo =>
    sv_cons (sv_if (tv_cmp (ov_eq xo.hu) (ev_var 0 rfl (.inl v_7_0) nd_2.1 nd_2.2) (ev_str)) (sv_one (sv_ret (ev_var 1 rfl (.inl v_7_1) nd_3.1 nd_3.2))) (sv_nil))
    (sv_cons (sv_if (tv_cmp (ov_eq xo.hu) (ev_var 1 rfl (.inl v_7_1) nd_3.1 nd_3.2) (ev_str)) (sv_one (sv_ret (ev_var 0 rfl (.inl v_7_0) nd_2.1 nd_2.2))) (sv_nil))
    (sv_one (sv_ret (ev_tup (av_cons (ev_bin ov_mul (ev_ix xo.hu1 (ev_var 0 rfl (.inl v_7_0) nd_2.1 nd_2.2) (ev_int)) (ev_ix xo.hu1 (ev_var 1 rfl (.inl v_7_1) nd_3.1 nd_3.2) (ev_int))) (av_cons (ev_bin ov_add (ev_ix xo.hu1 (ev_var 0 rfl (.inl v_7_0) nd_2.1 nd_2.2) (ev_int)) (ev_ix xo.hu1 (ev_var 1 rfl (.inl v_7_1) nd_3.1 nd_3.2) (ev_int))) (av_nil)))))))
theorem ok_8 {k : Nat} (T : Txt K mg cl fa fd) (IH : IHt P w K mg base cl fa fd k) : FnOk P w K mg base (L2N.CX P w) (2 * k + 3 + 1) (fa 8) (fd 8) ["first", "second"] (SpR K cl (runF 2 3 (B8 (tb k)))) :=
  fn_ok T.F8 sc_8 rfl rfl fun cdv A outer s H E xo =>
    sv_cons (sv_for xo.hp xo.calm (ev_tup (av_cons (ev_var 0 rfl (.inl v_8_0) nd_4.1 nd_4.2) (av_cons (ev_var 1 rfl (.inl v_8_1) nd_5.1 nd_5.2) (av_nil)))) (gv_name 2 sc_8.nd rfl (.inl v_8_2) (hf := .inr v_8_2)) (sv_one (sv_if (tv_cmp (ov_eq xo.hu) (ev_var 2 rfl (.inl v_8_2) nd_6.1 nd_6.2) (ev_str)) (sv_one (sv_raise xo.calm xo.tk T.x5 T.xi5 T.xt5 (okI_4 T (k := 0)) (xo.hr.mono (by omega)) T.b4 g_8_BadKind T.gC5 (av_cons (ev_var 2 rfl (.inl v_8_2) nd_6.1 nd_6.2) (av_nil)) (hdb := nd_7.1))) (sv_nil))))
    (sv_one (sv_ret (ev_tup (av_cons (ev_bin ov_add (ev_ix xo.hu1 (ev_var 0 rfl (.inl v_8_0) nd_4.1 nd_4.2) (ev_int)) (ev_ix xo.hu1 (ev_var 1 rfl (.inl v_8_1) nd_5.1 nd_5.2) (ev_int))) (av_cons (ev_bi (ov_max xo.calm) g_8_max T.z_max (by decide +kernel) (av_cons (ev_ix xo.hu1 (ev_var 0 rfl (.inl v_8_0) nd_4.1 nd_4.2) (ev_int)) (av_cons (ev_ix xo.hu1 (ev_var 1 rfl (.inl v_8_1) nd_5.1 nd_5.2) (ev_int)) (av_nil)))) (av_nil))))))
theorem ok_9 {k : Nat} (T : Txt K mg cl fa fd) (IH : IHt P w K mg base cl fa fd k) : FnOk P w K mg base (L2N.CX P w) (2 * k + 3 + 1) (fa 9) (fd 9) ["room", "kind"] (SpR K cl (runF 2 2 (B9 (tb k)))) :=
  fn_ok T.F9 sc_9 rfl rfl fun cdv A outer s H E xo =>
    sv_cons (sv_if (tv_cmp (ov_eq xo.hu) (ev_var 1 rfl (.inl v_9_1) nd_6.1 nd_6.2) (ev_str)) (sv_one (sv_ret (ev_bl))) (sv_nil))
    (sv_cons (sv_if (tv_cmp (ov_eq xo.hu) (ev_var 0 rfl (.inl v_9_0) nd_8.1 nd_8.2) (ev_str)) (sv_one (sv_ret (ev_bl))) (sv_nil))
    (sv_one (sv_ret (ev_and (ev_cmp ov_le (ev_ix xo.hu1 (ev_var 1 rfl (.inl v_9_1) nd_6.1 nd_6.2) (ev_int)) (ev_ix xo.hu1 (ev_var 0 rfl (.inl v_9_0) nd_8.1 nd_8.2) (ev_int))) (ev_one (ev_cmp ov_le (ev_ix xo.hu1 (ev_var 1 rfl (.inl v_9_1) nd_6.1 nd_6.2) (ev_int)) (ev_ix xo.hu1 (ev_var 0 rfl (.inl v_9_0) nd_8.1 nd_8.2) (ev_int))))))))
theorem ok_10 {k : Nat} (T : Txt K mg cl fa fd) (IH : IHt P w K mg base cl fa fd k) : FnOk P w K mg base (L2N.CX P w) (2 * k + 3 + 1) (fa 10) (fd 10) ["_law_script", "_law_k"] (SpR K cl (runF 2 2 (B10 (tb k)))) :=
  fn_ok T.F10 sc_10 rfl rfl fun cdv A outer s H E xo =>
    sv_cons (sv_if (tv_cmp ov_lt (ev_var 1 rfl (.inl v_10_1) nd_9.1 nd_9.2) (ev_bi ov_len g_10_len T.z_len (by decide +kernel) (av_cons (ev_var 0 rfl (.inl v_10_0) nd_10.1 nd_10.2) (av_nil)))) (sv_one (sv_ret (ev_bi ov_abs g_10_abs T.z_abs (by decide +kernel) (av_cons (ev_ix xo.hu1 (ev_var 0 rfl (.inl v_10_0) nd_10.1 nd_10.2) (ev_var 1 rfl (.inl v_10_1) nd_9.1 nd_9.2)) (av_nil))))) (sv_nil))
    (sv_one (sv_ret (ev_int)))
theorem ok_11 {k : Nat} (T : Txt K mg cl fa fd) (IH : IHt P w K mg base cl fa fd k) : FnOk P w K mg base (L2N.CX P w) (2 * k + 3 + 1) (fa 11) (fd 11) ["_law_script", "_law_k"] (SpR K cl (runF 2 3 (B11 (tb k)))) :=
  fn_ok T.F11 sc_11 rfl rfl fun cdv A outer s H E xo =>
    sv_cons (sv_set 2 (ev_call (IH 10) (xo.hr.mono (Nat.le_succ _)) xo.tk g_11__law_cell T.g10 T.F10.kp T.b10 (av_cons (ev_var 0 rfl (.inl v_11_0) nd_10.1 nd_10.2) (av_cons (ev_var 1 rfl (.inl v_11_1) nd_9.1 nd_9.2) (av_nil))) nd_12.1) sc_11.nd rfl (.inl v_11_2) (hf := .inr v_11_2))
    (sv_cons (sv_if (tv_cmp ov_ge (ev_var 2 rfl (.inl v_11_2) nd_11.1 nd_11.2) (ev_bin ov_pow (ev_int) (ev_int))) (sv_one (sv_ret (ev_lstM (av_cons (ev_var 2 rfl (.inl v_11_2) nd_11.1 nd_11.2) (av_cons (ev_int) (av_cons (ev_bin ov_mod (ev_ty ov_intc g_11_int T.z_int (by decide +kernel) (av_cons (ev_var 2 rfl (.inl v_11_2) nd_11.1 nd_11.2) (av_nil))) (ev_int)) (av_nil))))))) (sv_nil))
    (sv_one (sv_ret (ev_lstM (av_cons (ev_int) (av_cons (ev_int) (av_cons (ev_var 2 rfl (.inl v_11_2) nd_11.1 nd_11.2) (av_nil))))))))
theorem ok_12 {k : Nat} (T : Txt K mg cl fa fd) (IH : IHt P w K mg base cl fa fd k) : FnOk P w K mg base (L2N.CX P w) (2 * k + 3 + 1) (fa 12) (fd 12) ["_law_pool_here", "_law_many"] (SpR K cl (runF 2 4 (B12 (tb k)))) :=
  fn_ok T.F12 sc_12 rfl rfl fun cdv A outer s H E xo =>
    sv_cons (sv_if (tv_cmp ov_gt (ev_ix xo.hu1 (ev_var 0 rfl (.inl v_12_0) nd_15.1 nd_15.2) (ev_int)) (ev_int)) (sv_cons (sv_set 2 (ev_bin ov_mod (ev_ty ov_intc g_12_int T.z_int (by decide +kernel) (av_cons (ev_ix xo.hu1 (ev_var 0 rfl (.inl v_12_0) nd_15.1 nd_15.2) (ev_int)) (av_nil))) (ev_var 1 rfl (.inl v_12_1) nd_14.1 nd_14.2)) sc_12.nd rfl (.inl v_12_2) (hf := .inr v_12_2))
    (sv_cons (sv_sub xo.hu1 (ev_var 0 rfl (.inl v_12_0) nd_15.1 nd_15.2) (ev_int) (ev_bin ov_div (ev_ix xo.hu1 (ev_var 0 rfl (.inl v_12_0) nd_15.1 nd_15.2) (ev_int)) (ev_var 1 rfl (.inl v_12_1) nd_14.1 nd_14.2)))
    (sv_one (sv_ret (ev_var 2 rfl (.inl v_12_2) nd_16.1 nd_16.2))))) (sv_nil))
    (sv_cons (sv_sub xo.hu1 (ev_var 0 rfl (.inl v_12_0) nd_15.1 nd_15.2) (ev_int) (ev_bin ov_add (ev_ix xo.hu1 (ev_var 0 rfl (.inl v_12_0) nd_15.1 nd_15.2) (ev_int)) (ev_int)))
    (sv_cons (sv_set 3 (ev_bin ov_mod (ev_ty ov_intc g_12_int T.z_int (by decide +kernel) (av_cons (ev_bin ov_add (ev_bin ov_add (ev_ix xo.hu1 (ev_var 0 rfl (.inl v_12_0) nd_15.1 nd_15.2) (ev_int)) (ev_bin ov_mul (ev_int) (ev_ix xo.hu1 (ev_var 0 rfl (.inl v_12_0) nd_15.1 nd_15.2) (ev_int)))) (ev_int)) (av_nil))) (ev_int)) sc_12.nd rfl (.inl v_12_3) (hf := .inr v_12_3))
    (sv_cons (sv_set 3 (ev_bin ov_mod (ev_ty ov_intc g_12_int T.z_int (by decide +kernel) (av_cons (ev_bin ov_mul (ev_var 3 rfl (.inl v_12_3) nd_13.1 nd_13.2) (ev_bin ov_add (ev_var 3 rfl (.inl v_12_3) nd_13.1 nd_13.2) (ev_int))) (av_nil))) (ev_int)) sc_12.nd rfl (.inl v_12_3) (hf := .inr v_12_3))
    (sv_cons (sv_set 3 (ev_bin ov_mod (ev_ty ov_intc g_12_int T.z_int (by decide +kernel) (av_cons (ev_bin ov_add (ev_bin ov_mul (ev_var 3 rfl (.inl v_12_3) nd_13.1 nd_13.2) (ev_bin ov_add (ev_var 3 rfl (.inl v_12_3) nd_13.1 nd_13.2) (ev_int))) (ev_bin ov_mul (ev_int) (ev_ix xo.hu1 (ev_var 0 rfl (.inl v_12_0) nd_15.1 nd_15.2) (ev_int)))) (av_nil))) (ev_int)) sc_12.nd rfl (.inl v_12_3) (hf := .inr v_12_3))
    (sv_one (sv_ret (ev_bin ov_mod (ev_ty ov_intc g_12_int T.z_int (by decide +kernel) (av_cons (ev_bin ov_div (ev_var 3 rfl (.inl v_12_3) nd_13.1 nd_13.2) (ev_int)) (av_nil))) (ev_var 1 rfl (.inl v_12_1) nd_14.1 nd_14.2))))))))
theorem ok_13 {k : Nat} (T : Txt K mg cl fa fd) (IH : IHt P w K mg base cl fa fd k) : FnOk P w K mg base (L2N.CX P w) (2 * k + 3 + 1) (fa 13) (fd 13) ["_law_told", "_law_due"] (SpR K cl (runF 2 3 (B13 (tb k)))) :=
  fn_ok T.F13 sc_13 rfl rfl fun cdv A outer s H E xo =>
    sv_cons (sv_if (tv_cmp ov_is (ev_var 1 rfl (.inl v_13_1) nd_18.1 nd_18.2) (ev_non)) (sv_one (sv_ret (ev_cmp ov_is (ev_var 0 rfl (.inl v_13_0) nd_17.1 nd_17.2) (ev_non)))) (sv_nil))
    (sv_cons (sv_if (tv_val (ev_isi (noOwn fun _ => rfl) g_13_isinstance T.z_isinstance (ev_var 1 rfl (.inl v_13_1) nd_18.1 nd_18.2) g_13_bool T.z_bool (by decide +kernel) an_bool)) (sv_one (sv_ret (ev_and (ev_isi (noOwn fun _ => rfl) g_13_isinstance T.z_isinstance (ev_var 0 rfl (.inl v_13_0) nd_17.1 nd_17.2) g_13_bool T.z_bool (by decide +kernel) an_bool) (ev_one (ev_cmp (ov_eq xo.hu) (ev_var 0 rfl (.inl v_13_0) nd_17.1 nd_17.2) (ev_var 1 rfl (.inl v_13_1) nd_18.1 nd_18.2)))))) (sv_nil))
    (sv_cons (sv_if (tv_val (ev_isi (noOwn fun _ => rfl) g_13_isinstance T.z_isinstance (ev_var 1 rfl (.inl v_13_1) nd_18.1 nd_18.2) g_13_int T.z_int (by decide +kernel) an_int)) (sv_one (sv_ret (ev_and (ev_isi (noOwn fun _ => rfl) g_13_isinstance T.z_isinstance (ev_var 0 rfl (.inl v_13_0) nd_17.1 nd_17.2) g_13_int T.z_int (by decide +kernel) an_int) (ev_and (ev_not (ev_isi (noOwn fun _ => rfl) g_13_isinstance T.z_isinstance (ev_var 0 rfl (.inl v_13_0) nd_17.1 nd_17.2) g_13_bool T.z_bool (by decide +kernel) an_bool)) (ev_one (ev_cmp (ov_eq xo.hu) (ev_var 0 rfl (.inl v_13_0) nd_17.1 nd_17.2) (ev_var 1 rfl (.inl v_13_1) nd_18.1 nd_18.2))))))) (sv_nil))
    (sv_cons (sv_if (tv_val (ev_isi (noOwn fun _ => rfl) g_13_isinstance T.z_isinstance (ev_var 1 rfl (.inl v_13_1) nd_18.1 nd_18.2) g_13_str T.z_str (by decide +kernel) an_str)) (sv_one (sv_ret (ev_and (ev_isi (noOwn fun _ => rfl) g_13_isinstance T.z_isinstance (ev_var 0 rfl (.inl v_13_0) nd_17.1 nd_17.2) g_13_str T.z_str (by decide +kernel) an_str) (ev_one (ev_cmp (ov_eq xo.hu) (ev_var 0 rfl (.inl v_13_0) nd_17.1 nd_17.2) (ev_var 1 rfl (.inl v_13_1) nd_18.1 nd_18.2)))))) (sv_nil))
    (sv_cons (sv_if (tv_pw (tv_and (tv_val (ev_isi (noOwn fun _ => rfl) g_13_isinstance T.z_isinstance (ev_var 1 rfl (.inl v_13_1) nd_18.1 nd_18.2) g_13_list T.z_list (by decide +kernel) an_lst)) (tv_and1 (tv_not (tv_val (ev_isi (noOwn fun _ => rfl) g_13_isinstance T.z_isinstance (ev_var 0 rfl (.inl v_13_0) nd_17.1 nd_17.2) g_13_list T.z_list (by decide +kernel) an_lst)))))) (sv_one (sv_ret (ev_bl))) (sv_nil))
    (sv_cons (sv_if (tv_pw (tv_and (tv_val (ev_isi (noOwn fun _ => rfl) g_13_isinstance T.z_isinstance (ev_var 1 rfl (.inl v_13_1) nd_18.1 nd_18.2) g_13_tuple T.z_tuple (by decide +kernel) an_tup)) (tv_and1 (tv_not (tv_val (ev_isi (noOwn fun _ => rfl) g_13_isinstance T.z_isinstance (ev_var 0 rfl (.inl v_13_0) nd_17.1 nd_17.2) g_13_tuple T.z_tuple (by decide +kernel) an_tup)))))) (sv_one (sv_ret (ev_bl))) (sv_nil))
    (sv_cons (sv_if (tv_cmp (ov_ne xo.hu) (ev_bi ov_len g_13_len T.z_len (by decide +kernel) (av_cons (ev_var 0 rfl (.inl v_13_0) nd_17.1 nd_17.2) (av_nil))) (ev_bi ov_len g_13_len T.z_len (by decide +kernel) (av_cons (ev_var 1 rfl (.inl v_13_1) nd_18.1 nd_18.2) (av_nil)))) (sv_one (sv_ret (ev_bl))) (sv_nil))
    (sv_cons (sv_forR1 xo.hp xo.calm g_13_range T.z_range (av_cons (ev_bi ov_len g_13_len T.z_len (by decide +kernel) (av_cons (ev_var 1 rfl (.inl v_13_1) nd_18.1 nd_18.2) (av_nil))) (av_nil)) (gv_name 2 sc_13.nd rfl (.inl v_13_2) (hf := .inr v_13_2)) (sv_one (sv_if (tv_not (tv_val (ev_call (IH 13) (xo.hr.mono (Nat.le_succ _)) xo.tk g_13__law_same T.g13 T.F13.kp T.b13 (av_cons (ev_ix xo.hu1 (ev_var 0 rfl (.inl v_13_0) nd_17.1 nd_17.2) (ev_var 2 rfl (.inl v_13_2) nd_9.1 nd_9.2)) (av_cons (ev_ix xo.hu1 (ev_var 1 rfl (.inl v_13_1) nd_18.1 nd_18.2) (ev_var 2 rfl (.inl v_13_2) nd_9.1 nd_9.2)) (av_nil))) nd_19.1))) (sv_one (sv_ret (ev_bl))) (sv_nil))))
    (sv_one (sv_ret (ev_bl))))))))))
theorem ok_14 {k : Nat} (T : Txt K mg cl fa fd) (IH : IHt P w K mg base cl fa fd k) : FnOk P w K mg base (L2N.CX P w) (2 * k + 3 + 1) (fa 14) (fd 14) ["_law_pool_here", "_law_near"] (SpR K cl (runF 2 5 (B14 (tb k)))) :=
  fn_ok T.F14 sc_14 rfl rfl fun cdv A outer s H E xo =>
    sv_cons (sv_set 2 (ev_call (IH 12) (xo.hr.mono (Nat.le_succ _)) xo.tk g_14__law_next T.g12 T.F12.kp T.b12 (av_cons (ev_var 0 rfl (.inl v_14_0) nd_15.1 nd_15.2) (av_cons (ev_int) (av_nil))) nd_20.1) sc_14.nd rfl (.inl v_14_2) (hf := .inr v_14_2))
    (sv_cons (sv_if (tv_cmp (ov_eq xo.hu) (ev_var 2 rfl (.inl v_14_2) nd_22.1 nd_22.2) (ev_int)) (sv_one (sv_ret (ev_str))) (sv_nil))
    (sv_cons (sv_if (tv_pw (tv_and (tv_cmp ov_lt (ev_var 2 rfl (.inl v_14_2) nd_22.1 nd_22.2) (ev_int)) (tv_and1 (tv_cmp (ov_ne xo.hu) (ev_var 1 rfl (.inl v_14_1) nd_21.1 nd_21.2) (ev_str))))) (sv_cons (sv_set 3 (ev_bin ov_sub (ev_bin ov_add (ev_ix xo.hu1 (ev_var 1 rfl (.inl v_14_1) nd_21.1 nd_21.2) (ev_int)) (ev_call (IH 12) (xo.hr.mono (Nat.le_succ _)) xo.tk g_14__law_next T.g12 T.F12.kp T.b12 (av_cons (ev_var 0 rfl (.inl v_14_0) nd_15.1 nd_15.2) (av_cons (ev_int) (av_nil))) nd_20.1)) (ev_int)) sc_14.nd rfl (.inl v_14_3) (hf := .inr v_14_3))
    (sv_cons (sv_set 4 (ev_bin ov_sub (ev_bin ov_add (ev_ix xo.hu1 (ev_var 1 rfl (.inl v_14_1) nd_21.1 nd_21.2) (ev_int)) (ev_call (IH 12) (xo.hr.mono (Nat.le_succ _)) xo.tk g_14__law_next T.g12 T.F12.kp T.b12 (av_cons (ev_var 0 rfl (.inl v_14_0) nd_15.1 nd_15.2) (av_cons (ev_int) (av_nil))) nd_20.1)) (ev_int)) sc_14.nd rfl (.inl v_14_4) (hf := .inr v_14_4))
    (sv_one (sv_ret (ev_tup (av_cons (ev_bi (ov_min xo.calm) g_14_min T.z_min (by decide +kernel) (av_cons (ev_int) (av_cons (ev_bi (ov_max xo.calm) g_14_max T.z_max (by decide +kernel) (av_cons (ev_int) (av_cons (ev_var 3 rfl (.inl v_14_3) nd_23.1 nd_23.2) (av_nil)))) (av_nil)))) (av_cons (ev_bi (ov_min xo.calm) g_14_min T.z_min (by decide +kernel) (av_cons (ev_int) (av_cons (ev_bi (ov_max xo.calm) g_14_max T.z_max (by decide +kernel) (av_cons (ev_int) (av_cons (ev_var 4 rfl (.inl v_14_4) nd_24.1 nd_24.2) (av_nil)))) (av_nil)))) (av_nil)))))))) (sv_nil))
    (sv_one (sv_ret (ev_tup (av_cons (ev_bin ov_add (ev_int) (ev_call (IH 12) (xo.hr.mono (Nat.le_succ _)) xo.tk g_14__law_next T.g12 T.F12.kp T.b12 (av_cons (ev_var 0 rfl (.inl v_14_0) nd_15.1 nd_15.2) (av_cons (ev_int) (av_nil))) nd_20.1)) (av_cons (ev_call (IH 12) (xo.hr.mono (Nat.le_succ _)) xo.tk g_14__law_next T.g12 T.F12.kp T.b12 (av_cons (ev_var 0 rfl (.inl v_14_0) nd_15.1 nd_15.2) (av_cons (ev_int) (av_nil))) nd_20.1) (av_nil))))))))
theorem ok_15 {k : Nat} (T : Txt K mg cl fa fd) (IH : IHt P w K mg base cl fa fd k) : FnOk P w K mg base (L2N.CX P w) (2 * k + 3 + 1) (fa 15) (fd 15) ["_law_told", "_law_mode_here"] (SpR K cl (runF 2 2 (B15 (tb k)))) :=
  fn_ok T.F15 sc_15 rfl rfl fun cdv A outer s H E xo =>
    sv_cons (sv_if (tv_cmp (ov_eq xo.hu) (ev_var 1 rfl (.inl v_15_1) nd_25.1 nd_25.2) (ev_str)) (sv_one (sv_ret (ev_and (ev_cmp (ov_eq xo.hu) (ev_ix xo.hu1 (ev_var 0 rfl (.inl v_15_0) nd_17.1 nd_17.2) (ev_int)) (ev_int)) (ev_one (ev_cmp (ov_eq xo.hu) (ev_ix xo.hu1 (ev_var 0 rfl (.inl v_15_0) nd_17.1 nd_17.2) (ev_int)) (ev_int)))))) (sv_nil))
    (sv_one (sv_ret (ev_and (ev_cmp ov_le (ev_ix xo.hu1 (ev_var 0 rfl (.inl v_15_0) nd_17.1 nd_17.2) (ev_int)) (ev_ix xo.hu1 (ev_var 1 rfl (.inl v_15_1) nd_25.1 nd_25.2) (ev_int))) (ev_one (ev_cmp ov_le (ev_ix xo.hu1 (ev_var 0 rfl (.inl v_15_0) nd_17.1 nd_17.2) (ev_int)) (ev_ix xo.hu1 (ev_var 1 rfl (.inl v_15_1) nd_25.1 nd_25.2) (ev_int)))))))
theorem ok_16 {k : Nat} (T : Txt K mg cl fa fd) (IH : IHt P w K mg base cl fa fd k) : FnOk P w K mg base (L2N.CX P w) (2 * k + 3 + 1) (fa 16) (fd 16) ["_law_mode_here"] (SpR K cl (runF 1 1 (B16 (tb k)))) :=
  fn_ok T.F16 sc_16 rfl rfl fun cdv A outer s H E xo =>
    sv_cons (sv_if (tv_cmp (ov_eq xo.hu) (ev_var 0 rfl (.inl v_16_0) nd_25.1 nd_25.2) (ev_str)) (sv_one (sv_ret (ev_lst (av_cons (ev_tup (av_cons (ev_int) (av_cons (ev_int) (av_cons (ev_int) (av_nil))))) (av_nil))))) (sv_nil))
    (sv_one (sv_ret (ev_lst (av_cons (ev_tup (av_cons (ev_int) (av_cons (ev_ix xo.hu1 (ev_var 0 rfl (.inl v_16_0) nd_25.1 nd_25.2) (ev_int)) (av_cons (ev_ix xo.hu1 (ev_var 0 rfl (.inl v_16_0) nd_25.1 nd_25.2) (ev_int)) (av_nil))))) (av_cons (ev_tup (av_cons (ev_int) (av_cons (ev_int) (av_cons (ev_int) (av_nil))))) (av_cons (ev_tup (av_cons (ev_int) (av_cons (ev_int) (av_cons (ev_int) (av_nil))))) (av_cons (ev_tup (av_cons (ev_int) (av_cons (ev_int) (av_cons (ev_int) (av_nil))))) (av_nil))))))))
theorem ok_17 {k : Nat} (T : Txt K mg cl fa fd) (IH : IHt P w K mg base cl fa fd k) : FnOk P w K mg base (L2N.CX P w) (2 * k + 3 + 1) (fa 17) (fd 17) ["_law_room", "_law_mode_here"] (SpR K cl (runF 2 3 (B17 (tb k)))) :=
  fn_ok T.F17 sc_17 rfl rfl fun cdv A outer s H E xo =>
    sv_cons (sv_for xo.hp xo.calm (ev_call (IH 16) (xo.hr.mono (Nat.le_succ _)) xo.tk g_17__law_extremes T.g16 T.F16.kp T.b16 (av_cons (ev_var 1 rfl (.inl v_17_1) nd_25.1 nd_25.2) (av_nil)) nd_28.1) (gv_name 2 sc_17.nd rfl (.inl v_17_2) (hf := .inr v_17_2)) (sv_one (sv_if (tv_not (tv_val (ev_call (IH 15) (xo.hr.mono (Nat.le_succ _)) xo.tk g_17__law_fits T.g15 T.F15.kp T.b15 (av_cons (ev_var 2 rfl (.inl v_17_2) nd_17.1 nd_17.2) (av_cons (ev_var 0 rfl (.inl v_17_0) nd_26.1 nd_26.2) (av_nil))) nd_27.1))) (sv_one (sv_ret (ev_bl))) (sv_nil))))
    (sv_one (sv_ret (ev_bl)))
theorem ok_18 {k : Nat} (T : Txt K mg cl fa fd) (IH : IHt P w K mg base cl fa fd k) : FnOk P w K mg base (L2N.CX P w) (2 * k + 3 + 1) (fa 18) (fd 18) ["_law_told", "_law_mode_here"] (SpR K cl (runF 2 2 (B18 (tb k)))) :=
  fn_ok T.F18 sc_18 rfl rfl fun cdv A outer s H E xo =>
    sv_cons (sv_if (tv_cmp (ov_eq xo.hu) (ev_var 1 rfl (.inl v_18_1) nd_25.1 nd_25.2) (ev_str)) (sv_one (sv_ret (ev_var 0 rfl (.inl v_18_0) nd_17.1 nd_17.2))) (sv_nil))
    (sv_one (sv_ret (ev_tup (av_cons (ev_int) (av_cons (ev_bin ov_mul (ev_ix xo.hu1 (ev_var 1 rfl (.inl v_18_1) nd_25.1 nd_25.2) (ev_int)) (ev_ix xo.hu1 (ev_var 0 rfl (.inl v_18_0) nd_17.1 nd_17.2) (ev_int))) (av_cons (ev_bin ov_add (ev_ix xo.hu1 (ev_var 1 rfl (.inl v_18_1) nd_25.1 nd_25.2) (ev_int)) (ev_ix xo.hu1 (ev_var 0 rfl (.inl v_18_0) nd_17.1 nd_17.2) (ev_int))) (av_nil)))))))
theorem ok_19 {k : Nat} (T : Txt K mg cl fa fd) (IH : IHt P w K mg base cl fa fd k) : FnOk P w K mg base (L2N.CX P w) (2 * k + 3 + 1) (fa 19) (fd 19) ["_law_outer", "_law_inner"] (SpR K cl (runF 2 3 (B19 (tb k)))) :=
  fn_ok T.F19 sc_19 rfl rfl fun cdv A outer s H E xo =>
    sv_cons (sv_if (tv_pw (tv_and (tv_cmp (ov_eq xo.hu) (ev_var 0 rfl (.inl v_19_0) nd_31.1 nd_31.2) (ev_str)) (tv_and1 (tv_cmp (ov_eq xo.hu) (ev_var 1 rfl (.inl v_19_1) nd_29.1 nd_29.2) (ev_str))))) (sv_one (sv_ret (ev_str))) (sv_nil))
    (sv_cons (sv_set 2 (ev_call (IH 18) (xo.hr.mono (Nat.le_succ _)) xo.tk g_19__law_boxed T.g18 T.F18.kp T.b18 (av_cons (ev_call (IH 18) (xo.hr.mono (Nat.le_succ _)) xo.tk g_19__law_boxed T.g18 T.F18.kp T.b18 (av_cons (ev_tup (av_cons (ev_int) (av_cons (ev_int) (av_cons (ev_int) (av_nil))))) (av_cons (ev_var 1 rfl (.inl v_19_1) nd_29.1 nd_29.2) (av_nil))) nd_30.1) (av_cons (ev_var 0 rfl (.inl v_19_0) nd_31.1 nd_31.2) (av_nil))) nd_30.1) sc_19.nd rfl (.inl v_19_2) (hf := .inr v_19_2))
    (sv_one (sv_ret (ev_tup (av_cons (ev_ix xo.hu1 (ev_var 2 rfl (.inl v_19_2) nd_17.1 nd_17.2) (ev_int)) (av_cons (ev_ix xo.hu1 (ev_var 2 rfl (.inl v_19_2) nd_17.1 nd_17.2) (ev_int)) (av_nil)))))))
theorem ok_20 {k : Nat} (T : Txt K mg cl fa fd) (IH : IHt P w K mg base cl fa fd k) (HI : HotT P w K mg base cl fa fd k) : FnOk P w K mg base (L2N.CX P w) (2 * k + 3 + 1) (fa 20) (fd 20) ["_law_one", "_law_two"] (SpR K cl (runF 2 3 (B20 (tb k)))) :=
  fn_ok T.F20 sc_20 rfl rfl fun cdv A outer s H E xo =>
    sv_cons (sv_tryAs 2 rfl rfl sc_20.nd rfl v_20_2 ⟨g_20_BadKind, nd_7.1, .inl T.gC5⟩ xo.tk (okF_all T.exm_BadKind) (fun W pn xe tk pa => have xo := XOk.tr xo tk pa; sv_one (sv_expr (ev_call (IH 8) (xo.hr.mono (Nat.le_succ _)) xo.tk g_20_pooled T.g8 T.F8.kp T.b8 (av_cons (ev_var 0 rfl (.inl v_20_0) nd_32.1 nd_32.2) (av_cons (ev_var 1 rfl (.inl v_20_1) nd_33.1 nd_33.2) (av_nil))) nd_34.1))) (fun ex a oe cls dd pn hz hf => have xo := XOk.suite (a := a) (pn := pn) xo hz hf; sv_cons (sv_if (tv_val (ev_xis (okF_dom T.errs) (okF_all T.kit_BadName_NameTaken_NoRoom_UnknownName) hz.zc hf rfl (.inl v_20_2) g_20_isinstance T.z_isinstance (cs := [.ref (cl 1), .ref (cl 2), .ref (cl 4), .ref (cl 3)]) (pa_cons (pe_glob (v := .ref (cl 1)) g_20_BadName T.gC1 rfl nd_40.1) (pa_cons (pe_glob (v := .ref (cl 2)) g_20_NameTaken T.gC2 rfl nd_39.1) (pa_cons (pe_glob (v := .ref (cl 4)) g_20_NoRoom T.gC4 rfl nd_38.1) (pa_cons (pe_glob (v := .ref (cl 3)) g_20_UnknownName T.gC3 rfl nd_37.1) (pa_nil))))) (.cons (.own _) (.cons (.own _) (.cons (.own _) (.cons (.own _) (.nil))))) (by simp) nd_35.1 nd_35.2)) (sv_one (sv_ret (ev_bl))) (sv_nil))
    (sv_one (sv_ret (ev_and (ev_xi (okF_dom T.errs) (okF_all T.kit_HeldError) hz.zc hf rfl (.inl v_20_2) g_20_isinstance T.z_isinstance (pe_glob (v := .ref (cl 0)) g_20_HeldError T.gC0 rfl nd_36.1) (.own _) nd_35.1 nd_35.2) (ev_and (ev_xi (okF_dom T.errs) (okF_all T.kit_ValueError) hz.zc hf rfl (.inl v_20_2) g_20_isinstance T.z_isinstance (pe_bltn (v := .ty "ValueError") g_20_ValueError T.z_ValueError (by decide +kernel) rfl (by decide +kernel) (by decide +kernel)) (.ty _) nd_35.1 nd_35.2) (ev_one (ev_callH HI.h13 (xo.hr.mono (Nat.le_succ _)) xo.hot xo.tk g_20__law_same T.g13 T.F13.kp T.b13 (av_cons (ev_xf T.xf_kind hz.zc hf rfl (.inl v_20_2) nd_35.1 nd_35.2) (av_cons (ev_str) (av_nil))) nd_19.1))))))))
    (sv_one (sv_ret (ev_bl)))
theorem ok_21 {k : Nat} (T : Txt K mg cl fa fd) (IH : IHt P w K mg base cl fa fd k) (HI : HotT P w K mg base cl fa fd k) : FnOk P w K mg base (L2N.CX P w) (2 * k + 3 + 1) (fa 21) (fd 21) ["_law_one", "_law_two"] (SpR K cl (runF 2 3 (B21 (tb k)))) :=
  fn_ok T.F21 sc_21 rfl rfl fun cdv A outer s H E xo =>
    sv_cons (sv_tryAs 2 rfl rfl sc_21.nd rfl v_21_2 ⟨g_21_HeldError, nd_36.1, .inl T.gC0⟩ xo.tk (okF_all T.exm_HeldError) (fun W pn xe tk pa => have xo := XOk.tr xo tk pa; sv_one (sv_expr (ev_call (IH 8) (xo.hr.mono (Nat.le_succ _)) xo.tk g_21_pooled T.g8 T.F8.kp T.b8 (av_cons (ev_var 0 rfl (.inl v_21_0) nd_32.1 nd_32.2) (av_cons (ev_var 1 rfl (.inl v_21_1) nd_33.1 nd_33.2) (av_nil))) nd_34.1))) (fun ex a oe cls dd pn hz hf => have xo := XOk.suite (a := a) (pn := pn) xo hz hf; sv_one (sv_ret (ev_xi (okF_dom T.errs) (okF_all T.kit_BadKind) hz.zc hf rfl (.inl v_21_2) g_21_isinstance T.z_isinstance (pe_glob (v := .ref (cl 5)) g_21_BadKind T.gC5 rfl nd_7.1) (.own _) nd_35.1 nd_35.2))))
    (sv_one (sv_ret (ev_bl)))
theorem ok_22 {k : Nat} (T : Txt K mg cl fa fd) (IH : IHt P w K mg base cl fa fd k) : FnOk P w K mg base (L2N.CX P w) (2 * k + 3 + 1) (fa 22) (fd 22) ["_law_one", "_law_two"] (SpR K cl (runF 2 2 (B22 (tb k)))) :=
  fn_ok T.F22 sc_22 rfl rfl fun cdv A outer s H E xo =>
    sv_cons (sv_if (tv_not (tv_val (ev_call (IH 13) (xo.hr.mono (Nat.le_succ _)) xo.tk g_22__law_same T.g13 T.F13.kp T.b13 (av_cons (ev_call (IH 9) (xo.hr.mono (Nat.le_succ _)) xo.tk g_22_covers T.g9 T.F9.kp T.b9 (av_cons (ev_var 0 rfl (.inl v_22_0) nd_32.1 nd_32.2) (av_cons (ev_var 1 rfl (.inl v_22_1) nd_33.1 nd_33.2) (av_nil))) nd_45.1) (av_cons (ev_call (IH 17) (xo.hr.mono (Nat.le_succ _)) xo.tk g_22__law_covers T.g17 T.F17.kp T.b17 (av_cons (ev_var 0 rfl (.inl v_22_0) nd_32.1 nd_32.2) (av_cons (ev_var 1 rfl (.inl v_22_1) nd_33.1 nd_33.2) (av_nil))) nd_46.1) (av_nil))) nd_19.1))) (sv_one (sv_ret (ev_bl))) (sv_nil))
    (sv_cons (sv_if (tv_not (tv_val (ev_call (IH 13) (xo.hr.mono (Nat.le_succ _)) xo.tk g_22__law_same T.g13 T.F13.kp T.b13 (av_cons (ev_call (IH 7) (xo.hr.mono (Nat.le_succ _)) xo.tk g_22_nested T.g7 T.F7.kp T.b7 (av_cons (ev_var 0 rfl (.inl v_22_0) nd_32.1 nd_32.2) (av_cons (ev_var 1 rfl (.inl v_22_1) nd_33.1 nd_33.2) (av_nil))) nd_43.1) (av_cons (ev_call (IH 19) (xo.hr.mono (Nat.le_succ _)) xo.tk g_22__law_nested T.g19 T.F19.kp T.b19 (av_cons (ev_var 0 rfl (.inl v_22_0) nd_32.1 nd_32.2) (av_cons (ev_var 1 rfl (.inl v_22_1) nd_33.1 nd_33.2) (av_nil))) nd_44.1) (av_nil))) nd_19.1))) (sv_one (sv_ret (ev_bl))) (sv_nil))
    (sv_cons (sv_if (tv_pw (tv_or (tv_cmp (ov_eq xo.hu) (ev_var 0 rfl (.inl v_22_0) nd_32.1 nd_32.2) (ev_str)) (tv_or1 (tv_cmp (ov_eq xo.hu) (ev_var 1 rfl (.inl v_22_1) nd_33.1 nd_33.2) (ev_str))))) (sv_one (sv_ret (ev_and (ev_call (IH 20) (xo.hr.mono (Nat.le_succ _)) xo.tk g_22__law_refused T.g20 T.F20.kp T.b20 (av_cons (ev_var 0 rfl (.inl v_22_0) nd_32.1 nd_32.2) (av_cons (ev_var 1 rfl (.inl v_22_1) nd_33.1 nd_33.2) (av_nil))) nd_42.1) (ev_one (ev_call (IH 21) (xo.hr.mono (Nat.le_succ _)) xo.tk g_22__law_refused_at_all T.g21 T.F21.kp T.b21 (av_cons (ev_var 0 rfl (.inl v_22_0) nd_32.1 nd_32.2) (av_cons (ev_var 1 rfl (.inl v_22_1) nd_33.1 nd_33.2) (av_nil))) nd_41.1))))) (sv_nil))
    (sv_one (sv_ret (ev_call (IH 13) (xo.hr.mono (Nat.le_succ _)) xo.tk g_22__law_same T.g13 T.F13.kp T.b13 (av_cons (ev_call (IH 8) (xo.hr.mono (Nat.le_succ _)) xo.tk g_22_pooled T.g8 T.F8.kp T.b8 (av_cons (ev_var 0 rfl (.inl v_22_0) nd_32.1 nd_32.2) (av_cons (ev_var 1 rfl (.inl v_22_1) nd_33.1 nd_33.2) (av_nil))) nd_34.1) (av_cons (ev_tup (av_cons (ev_bin ov_add (ev_ix xo.hu1 (ev_var 0 rfl (.inl v_22_0) nd_32.1 nd_32.2) (ev_int)) (ev_ix xo.hu1 (ev_var 1 rfl (.inl v_22_1) nd_33.1 nd_33.2) (ev_int))) (av_cons (ev_bi (ov_max xo.calm) g_22_max T.z_max (by decide +kernel) (av_cons (ev_int) (av_cons (ev_ix xo.hu1 (ev_var 0 rfl (.inl v_22_0) nd_32.1 nd_32.2) (ev_int)) (av_cons (ev_ix xo.hu1 (ev_var 1 rfl (.inl v_22_1) nd_33.1 nd_33.2) (ev_int)) (av_nil))))) (av_nil)))) (av_nil))) nd_19.1)))))
theorem ok_23 {k : Nat} (T : Txt K mg cl fa fd) (IH : IHt P w K mg base cl fa fd k) : FnOk P w K mg base (L2N.CX P w) (2 * k + 3 + 1) (fa 23) (fd 23) ["_law_mode_here"] (SpR K cl (runF 1 4 (B23 (tb k)))) :=
  fn_ok T.F23 sc_23 rfl rfl fun cdv A outer s H E xo =>
    sv_cons (sv_set 1 (ev_int) sc_23.nd rfl (.inl v_23_1) (hf := .inr v_23_1))
    (sv_cons (sv_set 2 (ev_int) sc_23.nd rfl (.inl v_23_2) (hf := .inr v_23_2))
    (sv_cons (sv_if (tv_cmp (ov_ne xo.hu) (ev_var 0 rfl (.inl v_23_0) nd_25.1 nd_25.2) (ev_str)) (sv_cons (sv_set 1 (ev_ix xo.hu1 (ev_var 0 rfl (.inl v_23_0) nd_25.1 nd_25.2) (ev_int)) sc_23.nd rfl (.inl v_23_1) (hf := .inr v_23_1))
    (sv_one (sv_set 2 (ev_ix xo.hu1 (ev_var 0 rfl (.inl v_23_0) nd_25.1 nd_25.2) (ev_int)) sc_23.nd rfl (.inl v_23_2) (hf := .inr v_23_2)))) (sv_nil))
    (sv_cons (sv_set 3 (ev_lst (av_cons (ev_non) (av_cons (ev_int) (av_cons (ev_int) (av_cons (ev_bl) (av_cons (ev_bl) (av_cons (ev_var 1 rfl (.inl v_23_1) nd_23.1 nd_23.2) (av_cons (ev_str) (av_cons (ev_str) (av_cons (ev_str) (av_cons (ev_str) (av_cons (ev_str) (av_cons (ev_str) (av_cons (ev_str) (av_cons (ev_ty ov_str g_23_str T.z_str (by decide +kernel) (av_cons (ev_var 1 rfl (.inl v_23_1) nd_23.1 nd_23.2) (av_nil))) (av_cons (ev_tup (av_nil)) (av_cons (ev_lst (av_nil)) (av_nil)))))))))))))))))) sc_23.nd rfl (.inl v_23_3) (hf := .inr v_23_3))
    (sv_cons (sv_set 3 (ev_bin ov_add (ev_var 3 rfl (.inl v_23_3) nd_47.1 nd_47.2) (ev_lst (av_cons (ev_dic0) (av_cons (ev_tup (av_cons (ev_str) (av_nil))) (av_cons (ev_lst (av_cons (ev_str) (av_nil))) (av_cons (ev_tup (av_cons (ev_str) (av_cons (ev_str) (av_nil)))) (av_cons (ev_tup (av_cons (ev_str) (av_cons (ev_int) (av_nil)))) (av_cons (ev_tup (av_cons (ev_str) (av_cons (ev_str) (av_nil)))) (av_cons (ev_tup (av_cons (ev_non) (av_cons (ev_non) (av_nil)))) (av_cons (ev_tup (av_cons (ev_var 1 rfl (.inl v_23_1) nd_23.1 nd_23.2) (av_nil))) (av_nil))))))))))) sc_23.nd rfl (.inl v_23_3) (hf := .inr v_23_3))
    (sv_cons (sv_set 3 (ev_bin ov_add (ev_var 3 rfl (.inl v_23_3) nd_47.1 nd_47.2) (ev_lst (av_cons (ev_tup (av_cons (ev_var 1 rfl (.inl v_23_1) nd_23.1 nd_23.2) (av_cons (ev_var 2 rfl (.inl v_23_2) nd_24.1 nd_24.2) (av_cons (ev_int) (av_nil))))) (av_cons (ev_tup (av_cons (ev_var 1 rfl (.inl v_23_1) nd_23.1 nd_23.2) (av_cons (ev_var 2 rfl (.inl v_23_2) nd_24.1 nd_24.2) (av_cons (ev_var 1 rfl (.inl v_23_1) nd_23.1 nd_23.2) (av_nil))))) (av_cons (ev_lst (av_cons (ev_var 1 rfl (.inl v_23_1) nd_23.1 nd_23.2) (av_cons (ev_var 2 rfl (.inl v_23_2) nd_24.1 nd_24.2) (av_nil)))) (av_cons (ev_tup (av_cons (ev_int) (av_cons (ev_var 2 rfl (.inl v_23_2) nd_24.1 nd_24.2) (av_nil)))) (av_cons (ev_tup (av_cons (ev_bin ov_sub (ev_int) (ev_var 1 rfl (.inl v_23_1) nd_23.1 nd_23.2)) (av_cons (ev_var 2 rfl (.inl v_23_2) nd_24.1 nd_24.2) (av_nil)))) (av_cons (ev_tup (av_cons (ev_var 1 rfl (.inl v_23_1) nd_23.1 nd_23.2) (av_cons (ev_bin ov_sub (ev_neg (ev_int)) (ev_var 2 rfl (.inl v_23_2) nd_24.1 nd_24.2)) (av_nil)))) (av_nil))))))))) sc_23.nd rfl (.inl v_23_3) (hf := .inr v_23_3))
    (sv_cons (sv_set 3 (ev_bin ov_add (ev_var 3 rfl (.inl v_23_3) nd_47.1 nd_47.2) (ev_lst (av_cons (ev_tup (av_cons (ev_bl) (av_cons (ev_var 2 rfl (.inl v_23_2) nd_24.1 nd_24.2) (av_nil)))) (av_cons (ev_tup (av_cons (ev_bl) (av_cons (ev_var 2 rfl (.inl v_23_2) nd_24.1 nd_24.2) (av_nil)))) (av_cons (ev_tup (av_cons (ev_var 1 rfl (.inl v_23_1) nd_23.1 nd_23.2) (av_cons (ev_bl) (av_nil)))) (av_cons (ev_tup (av_cons (ev_var 1 rfl (.inl v_23_1) nd_23.1 nd_23.2) (av_cons (ev_bl) (av_nil)))) (av_cons (ev_tup (av_cons (ev_ty ov_str g_23_str T.z_str (by decide +kernel) (av_cons (ev_var 1 rfl (.inl v_23_1) nd_23.1 nd_23.2) (av_nil))) (av_cons (ev_var 2 rfl (.inl v_23_2) nd_24.1 nd_24.2) (av_nil)))) (av_cons (ev_tup (av_cons (ev_var 1 rfl (.inl v_23_1) nd_23.1 nd_23.2) (av_cons (ev_ty ov_str g_23_str T.z_str (by decide +kernel) (av_cons (ev_var 2 rfl (.inl v_23_2) nd_24.1 nd_24.2) (av_nil))) (av_nil)))) (av_nil))))))))) sc_23.nd rfl (.inl v_23_3) (hf := .inr v_23_3))
    (sv_one (sv_ret (ev_bin ov_add (ev_var 3 rfl (.inl v_23_3) nd_47.1 nd_47.2) (ev_lst (av_cons (ev_tup (av_cons (ev_tup (av_cons (ev_var 1 rfl (.inl v_23_1) nd_23.1 nd_23.2) (av_cons (ev_var 2 rfl (.inl v_23_2) nd_24.1 nd_24.2) (av_nil)))) (av_cons (ev_var 2 rfl (.inl v_23_2) nd_24.1 nd_24.2) (av_nil)))) (av_cons (ev_tup (av_cons (ev_var 1 rfl (.inl v_23_1) nd_23.1 nd_23.2) (av_cons (ev_tup (av_cons (ev_var 2 rfl (.inl v_23_2) nd_24.1 nd_24.2) (av_nil))) (av_nil)))) (av_cons (ev_tup (av_cons (ev_var 1 rfl (.inl v_23_1) nd_23.1 nd_23.2) (av_cons (ev_non) (av_nil)))) (av_cons (ev_tup (av_cons (ev_non) (av_cons (ev_var 2 rfl (.inl v_23_2) nd_24.1 nd_24.2) (av_nil)))) (av_cons (ev_tup (av_cons (ev_lst (av_cons (ev_var 1 rfl (.inl v_23_1) nd_23.1 nd_23.2) (av_nil))) (av_cons (ev_var 2 rfl (.inl v_23_2) nd_24.1 nd_24.2) (av_nil)))) (av_cons (ev_tup (av_cons (ev_tup (av_cons (ev_var 1 rfl (.inl v_23_1) nd_23.1 nd_23.2) (av_cons (ev_var 2 rfl (.inl v_23_2) nd_24.1 nd_24.2) (av_nil)))) (av_nil))) (av_nil)))))))))))))))))
theorem ok_24 {k : Nat} (T : Txt K mg cl fa fd) (IH : IHt P w K mg base cl fa fd k) : FnOk P w K mg base (L2N.CX P w) (2 * k + 3 + 1) (fa 24) (fd 24) ["_law_pool_here", "_law_mode_here"] (SpR K cl (runF 2 6 (B24 (tb k)))) :=
  fn_ok T.F24 sc_24 rfl rfl fun cdv A outer s H E xo =>
    sv_cons (sv_for xo.hp xo.calm (ev_call (IH 23) (xo.hr.mono (Nat.le_succ _)) xo.tk g_24__law_odd T.g23 T.F23.kp T.b23 (av_cons (ev_var 1 rfl (.inl v_24_1) nd_25.1 nd_25.2) (av_nil)) nd_50.1) (gv_name 2 sc_24.nd rfl (.inl v_24_2) (hf := .inr v_24_2)) (sv_one (sv_if (tv_cmp ov_isnotb (ev_call (IH 6) (xo.hr.mono (Nat.le_succ _)) xo.tk g_24_is_kind T.g6 T.F6.kp T.b6 (av_cons (ev_var 2 rfl (.inl v_24_2) nd_49.1 nd_49.2) (av_nil)) nd_48.1) (ev_bl)) (sv_one (sv_ret (ev_bl))) (sv_nil))))
    (sv_cons (sv_forR1 xo.hp xo.calm g_24_range T.z_range (av_cons (ev_int) (av_nil)) (gv_name 3 sc_24.nd rfl (.inl v_24_3) (hf := .inr v_24_3)) (sv_cons (sv_set 4 (ev_bin ov_sub (ev_call (IH 12) (xo.hr.mono (Nat.le_succ _)) xo.tk g_24__law_next T.g12 T.F12.kp T.b12 (av_cons (ev_var 0 rfl (.inl v_24_0) nd_15.1 nd_15.2) (av_cons (ev_int) (av_nil))) nd_20.1) (ev_int)) sc_24.nd rfl (.inl v_24_4) (hf := .inr v_24_4))
    (sv_cons (sv_set 5 (ev_bin ov_sub (ev_call (IH 12) (xo.hr.mono (Nat.le_succ _)) xo.tk g_24__law_next T.g12 T.F12.kp T.b12 (av_cons (ev_var 0 rfl (.inl v_24_0) nd_15.1 nd_15.2) (av_cons (ev_int) (av_nil))) nd_20.1) (ev_int)) sc_24.nd rfl (.inl v_24_5) (hf := .inr v_24_5))
    (sv_one (sv_if (tv_not (tv_val (ev_call (IH 13) (xo.hr.mono (Nat.le_succ _)) xo.tk g_24__law_same T.g13 T.F13.kp T.b13 (av_cons (ev_call (IH 6) (xo.hr.mono (Nat.le_succ _)) xo.tk g_24_is_kind T.g6 T.F6.kp T.b6 (av_cons (ev_tup (av_cons (ev_var 4 rfl (.inl v_24_4) nd_23.1 nd_23.2) (av_cons (ev_var 5 rfl (.inl v_24_5) nd_24.1 nd_24.2) (av_nil)))) (av_nil)) nd_48.1) (av_cons (ev_and (ev_cmp ov_ge (ev_var 4 rfl (.inl v_24_4) nd_23.1 nd_23.2) (ev_int)) (ev_one (ev_cmp ov_ge (ev_var 5 rfl (.inl v_24_5) nd_24.1 nd_24.2) (ev_int)))) (av_nil))) nd_19.1))) (sv_one (sv_ret (ev_bl))) (sv_nil))))))
    (sv_one (sv_ret (ev_cmp ov_isb (ev_call (IH 6) (xo.hr.mono (Nat.le_succ _)) xo.tk g_24_is_kind T.g6 T.F6.kp T.b6 (av_cons (ev_tup (av_cons (ev_bin ov_add (ev_int) (ev_call (IH 12) (xo.hr.mono (Nat.le_succ _)) xo.tk g_24__law_next T.g12 T.F12.kp T.b12 (av_cons (ev_var 0 rfl (.inl v_24_0) nd_15.1 nd_15.2) (av_cons (ev_bin ov_pow (ev_int) (ev_int)) (av_nil))) nd_20.1)) (av_cons (ev_call (IH 12) (xo.hr.mono (Nat.le_succ _)) xo.tk g_24__law_next T.g12 T.F12.kp T.b12 (av_cons (ev_var 0 rfl (.inl v_24_0) nd_15.1 nd_15.2) (av_cons (ev_bin ov_pow (ev_int) (ev_int)) (av_nil))) nd_20.1) (av_nil)))) (av_nil)) nd_48.1) (ev_bl)))))
theorem ok_25 {k : Nat} (T : Txt K mg cl fa fd) (IH : IHt P w K mg base cl fa fd k) : FnOk P w K mg base (L2N.CX P w) (2 * k + 3 + 1) (fa 25) (fd 25) ["_law_script"] (SpR K cl (runF 1 9 (B25 (tb k)))) :=
  fn_ok T.F25 sc_25 rfl rfl fun cdv A outer s H E xo =>
    sv_cons (sv_set 1 (ev_callK (IH 11) (xo.hr.mono (Nat.le_succ _)) xo.tk g_25__law_pool T.g11 T.F11.kp T.b11 (av_cons (ev_var 0 rfl (.inl v_25_0) nd_10.1 nd_10.2) (av_cons (ev_int) (av_nil))) nd_58.1) sc_25.nd rfl (.inl v_25_1) (hf := .inr v_25_1))
    (sv_cons (sv_set 2 (ev_call (IH 14) (xo.hr.mono (Nat.le_succ _)) xo.tk g_25__law_mode T.g14 T.F14.kp T.b14 (av_cons (ev_var 1 rfl (.inl v_25_1) nd_15.1 nd_15.2) (av_cons (ev_str) (av_nil))) nd_57.1) sc_25.nd rfl (.inl v_25_2) (hf := .inr v_25_2))
    (sv_cons (sv_set 3 (ev_call (IH 14) (xo.hr.mono (Nat.le_succ _)) xo.tk g_25__law_mode T.g14 T.F14.kp T.b14 (av_cons (ev_var 1 rfl (.inl v_25_1) nd_15.1 nd_15.2) (av_cons (ev_var 2 rfl (.inl v_25_2) nd_52.1 nd_52.2) (av_nil))) nd_57.1) sc_25.nd rfl (.inl v_25_3) (hf := .inr v_25_3))
    (sv_cons (sv_set 4 (ev_call (IH 14) (xo.hr.mono (Nat.le_succ _)) xo.tk g_25__law_mode T.g14 T.F14.kp T.b14 (av_cons (ev_var 1 rfl (.inl v_25_1) nd_15.1 nd_15.2) (av_cons (ev_var 3 rfl (.inl v_25_3) nd_51.1 nd_51.2) (av_nil))) nd_57.1) sc_25.nd rfl (.inl v_25_4) (hf := .inr v_25_4))
    (sv_cons (sv_set 5 (ev_lst (av_cons (ev_var 2 rfl (.inl v_25_2) nd_52.1 nd_52.2) (av_cons (ev_var 3 rfl (.inl v_25_3) nd_51.1 nd_51.2) (av_cons (ev_var 4 rfl (.inl v_25_4) nd_54.1 nd_54.2) (av_cons (ev_call (IH 19) (xo.hr.mono (Nat.le_succ _)) xo.tk g_25__law_nested T.g19 T.F19.kp T.b19 (av_cons (ev_var 2 rfl (.inl v_25_2) nd_52.1 nd_52.2) (av_cons (ev_var 3 rfl (.inl v_25_3) nd_51.1 nd_51.2) (av_nil))) nd_44.1) (av_cons (ev_call (IH 19) (xo.hr.mono (Nat.le_succ _)) xo.tk g_25__law_nested T.g19 T.F19.kp T.b19 (av_cons (ev_var 3 rfl (.inl v_25_3) nd_51.1 nd_51.2) (av_cons (ev_var 4 rfl (.inl v_25_4) nd_54.1 nd_54.2) (av_nil))) nd_44.1) (av_nil))))))) sc_25.nd rfl (.inl v_25_5) (hf := .inr v_25_5))
    (sv_cons (sv_for xo.hp xo.calm (ev_var 5 rfl (.inl v_25_5) nd_56.1 nd_56.2) (gv_name 6 sc_25.nd rfl (.inl v_25_6) (hf := .inr v_25_6)) (sv_cons (sv_if (tv_cmp ov_isnotb (ev_call (IH 6) (xo.hr.mono (Nat.le_succ _)) xo.tk g_25_is_kind T.g6 T.F6.kp T.b6 (av_cons (ev_var 6 rfl (.inl v_25_6) nd_32.1 nd_32.2) (av_nil)) nd_48.1) (ev_bl)) (sv_one (sv_ret (ev_bl))) (sv_nil))
    (sv_one (sv_for xo.hp xo.calm (ev_var 5 rfl (.inl v_25_5) nd_56.1 nd_56.2) (gv_name 7 sc_25.nd rfl (.inl v_25_7) (hf := .inr v_25_7)) (sv_one (sv_if (tv_not (tv_val (ev_call (IH 22) (xo.hr.mono (Nat.le_succ _)) xo.tk g_25__law_pair T.g22 T.F22.kp T.b22 (av_cons (ev_var 6 rfl (.inl v_25_6) nd_32.1 nd_32.2) (av_cons (ev_var 7 rfl (.inl v_25_7) nd_33.1 nd_33.2) (av_nil))) nd_53.1))) (sv_one (sv_ret (ev_bl))) (sv_nil)))))))
    (sv_cons (sv_set 8 (ev_call (IH 19) (xo.hr.mono (Nat.le_succ _)) xo.tk g_25__law_nested T.g19 T.F19.kp T.b19 (av_cons (ev_var 2 rfl (.inl v_25_2) nd_52.1 nd_52.2) (av_cons (ev_call (IH 19) (xo.hr.mono (Nat.le_succ _)) xo.tk g_25__law_nested T.g19 T.F19.kp T.b19 (av_cons (ev_var 3 rfl (.inl v_25_3) nd_51.1 nd_51.2) (av_cons (ev_var 4 rfl (.inl v_25_4) nd_54.1 nd_54.2) (av_nil))) nd_44.1) (av_nil))) nd_44.1) sc_25.nd rfl (.inl v_25_8) (hf := .inr v_25_8))
    (sv_cons (sv_if (tv_not (tv_val (ev_call (IH 13) (xo.hr.mono (Nat.le_succ _)) xo.tk g_25__law_same T.g13 T.F13.kp T.b13 (av_cons (ev_call (IH 7) (xo.hr.mono (Nat.le_succ _)) xo.tk g_25_nested T.g7 T.F7.kp T.b7 (av_cons (ev_call (IH 7) (xo.hr.mono (Nat.le_succ _)) xo.tk g_25_nested T.g7 T.F7.kp T.b7 (av_cons (ev_var 2 rfl (.inl v_25_2) nd_52.1 nd_52.2) (av_cons (ev_var 3 rfl (.inl v_25_3) nd_51.1 nd_51.2) (av_nil))) nd_43.1) (av_cons (ev_var 4 rfl (.inl v_25_4) nd_54.1 nd_54.2) (av_nil))) nd_43.1) (av_cons (ev_var 8 rfl (.inl v_25_8) nd_18.1 nd_18.2) (av_nil))) nd_19.1))) (sv_one (sv_ret (ev_bl))) (sv_nil))
    (sv_cons (sv_if (tv_not (tv_val (ev_call (IH 13) (xo.hr.mono (Nat.le_succ _)) xo.tk g_25__law_same T.g13 T.F13.kp T.b13 (av_cons (ev_call (IH 7) (xo.hr.mono (Nat.le_succ _)) xo.tk g_25_nested T.g7 T.F7.kp T.b7 (av_cons (ev_var 2 rfl (.inl v_25_2) nd_52.1 nd_52.2) (av_cons (ev_call (IH 7) (xo.hr.mono (Nat.le_succ _)) xo.tk g_25_nested T.g7 T.F7.kp T.b7 (av_cons (ev_var 3 rfl (.inl v_25_3) nd_51.1 nd_51.2) (av_cons (ev_var 4 rfl (.inl v_25_4) nd_54.1 nd_54.2) (av_nil))) nd_43.1) (av_nil))) nd_43.1) (av_cons (ev_var 8 rfl (.inl v_25_8) nd_18.1 nd_18.2) (av_nil))) nd_19.1))) (sv_one (sv_ret (ev_bl))) (sv_nil))
    (sv_one (sv_ret (ev_and (ev_call (IH 24) (xo.hr.mono (Nat.le_succ _)) xo.tk g_25__law_kinds_alone T.g24 T.F24.kp T.b24 (av_cons (ev_var 1 rfl (.inl v_25_1) nd_15.1 nd_15.2) (av_cons (ev_var 4 rfl (.inl v_25_4) nd_54.1 nd_54.2) (av_nil))) nd_55.1) (ev_and (ev_call (IH 22) (xo.hr.mono (Nat.le_succ _)) xo.tk g_25__law_pair T.g22 T.F22.kp T.b22 (av_cons (ev_var 2 rfl (.inl v_25_2) nd_52.1 nd_52.2) (av_cons (ev_var 3 rfl (.inl v_25_3) nd_51.1 nd_51.2) (av_nil))) nd_53.1) (ev_one (ev_call (IH 22) (xo.hr.mono (Nat.le_succ _)) xo.tk g_25__law_pair T.g22 T.F22.kp T.b22 (av_cons (ev_var 3 rfl (.inl v_25_3) nd_51.1 nd_51.2) (av_cons (ev_var 2 rfl (.inl v_25_2) nd_52.1 nd_52.2) (av_nil))) nd_53.1))))))))))))))
theorem all_ok (T : Txt K mg cl fa fd) : ∀ k, IHt P w K mg base cl fa fd k
  | 0, i => fn_bad fun _ _ _ => rfl
  | k + 1, 0 => fn_bad fun _ _ _ => rfl
  | k + 1, 1 => fn_bad fun _ _ _ => rfl
  | k + 1, 2 => fn_bad fun _ _ _ => rfl
  | k + 1, 3 => fn_bad fun _ _ _ => rfl
  | k + 1, 4 => fn_bad fun _ _ _ => rfl
  | k + 1, 5 => ok_5 T (all_ok T k)
  | k + 1, 6 => ok_6 T (all_ok T k)
  | k + 1, 7 => ok_7 T (all_ok T k)
  | k + 1, 8 => ok_8 T (all_ok T k)
  | k + 1, 9 => ok_9 T (all_ok T k)
  | k + 1, 10 => ok_10 T (all_ok T k)
  | k + 1, 11 => ok_11 T (all_ok T k)
  | k + 1, 12 => ok_12 T (all_ok T k)
  | k + 1, 13 => ok_13 T (all_ok T k)
  | k + 1, 14 => ok_14 T (all_ok T k)
  | k + 1, 15 => ok_15 T (all_ok T k)
  | k + 1, 16 => ok_16 T (all_ok T k)
  | k + 1, 17 => ok_17 T (all_ok T k)
  | k + 1, 18 => ok_18 T (all_ok T k)
  | k + 1, 19 => ok_19 T (all_ok T k)
  | k + 1, 20 => ok_20 T (all_ok T k) (all_hot T k)
  | k + 1, 21 => ok_21 T (all_ok T k) (all_hot T k)
  | k + 1, 22 => ok_22 T (all_ok T k)
  | k + 1, 23 => ok_23 T (all_ok T k)
  | k + 1, 24 => ok_24 T (all_ok T k)
  | k + 1, 25 => ok_25 T (all_ok T k)
  | k + 1, i + 26 => fn_bad fun _ _ _ => rfl
end
/-! ### the end -/
theorem all_mk (hlaw : ∀ ns : List Int, ns.length ≤ 63 → ∃ S, tb 20 25 0 [.d (.lst (ns.map .int))] [] = .ok (.d (.bl true)) S) {l : PySem.W.OpenLaw} {w : World} {K : PySem.W.Frag} {h : Heap} {mg : Str → Option Value} {fa C0 C1 C2 C3 C4 C5 f0 f1 f2 f3 f4 f5 f6 f7 f8 f9 f10 f11 f12 f13 f14 f15 f16 f17 f18 f19 f20 f21 f22 f23 f24 f25 : Addr} (X : K.In h) (G : h.Ns mainGlobals mg) (hfa : mg "law" = some (.ref fa))
    {od0 od1 od2 od3 od4 od5 od6 od7 od8 od9 od10 od11 od12 od13 od14 od15 od16 od17 od18 od19 od20 od21 od22 od23 od24 od25 an0 an1 an2 an3 an4 an5 an6 an7 an8 an9 an10 an11 an12 an13 an14 an15 an16 an17 an18 an19 an20 an21 an22 an23 an24 an25 : Option Addr} {sl0 sl1 sl2 sl3 sl4 sl5 sl6 sl7 sl8 sl9 sl10 sl11 sl12 sl13 sl14 sl15 sl16 sl17 sl18 sl19 sl20 sl21 sl22 sl23 sl24 sl25 : Array (Option Value)} {oc0 oc1 oc2 oc3 oc4 oc5 oc6 oc7 oc8 oc9 oc10 oc11 oc12 oc13 oc14 oc15 oc16 oc17 oc18 oc19 oc20 oc21 oc22 oc23 oc24 oc25 kV0 kV1 kV2 kV3 kV4 kV5 kV6 kV7 kV8 kV9 kV10 kV11 kV12 kV13 kV14 kV15 kV16 kV17 kV18 kV19 kV20 kV21 kV22 kV23 kV24 kV25 dc0 dc1 dc2 dc3 dc4 dc5 dc6 dc7 dc8 dc9 dc10 dc11 dc12 dc13 dc14 dc15 dc16 dc17 dc18 dc19 dc20 dc21 dc22 dc23 dc24 dc25 pm0 pm1 pm2 pm3 pm4 pm5 pm6 pm7 pm8 pm9 pm10 pm11 pm12 pm13 pm14 pm15 pm16 pm17 pm18 pm19 pm20 pm21 pm22 pm23 pm24 pm25 cd0 cd1 cd2 cd3 cd4 cd5 cd6 cd7 cd8 cd9 cd10 cd11 cd12 cd13 cd14 cd15 cd16 cd17 cd18 cd19 cd20 cd21 cd22 cd23 cd24 cd25 ct0 ct1 ct2 ct3 ct4 ct5 ct6 ct7 ct8 ct9 ct10 ct11 ct12 ct13 ct14 ct15 ct16 ct17 ct18 ct19 ct20 ct21 ct22 ct23 ct24 ct25 : Value}
    {xnm5 xqn5 : Str} {xN5 : Addr} {xbs5 xbm5 : List Value} {xsn5 : List Str} {xsub5 : List Value} {xab5 : Bool} {xcol5 : Option Bool} {xdd5 : Option Addr} {xk0_5 xk1_5 xk2_5 xk3_5 xk5_5 : Option Value}
    (aC0 : PySem.W.nsIn K mainGlobals "HeldError" = some (some (.ref C0)))
    (aC1 : PySem.W.nsIn K mainGlobals "BadName" = some (some (.ref C1)))
    (aC2 : PySem.W.nsIn K mainGlobals "NameTaken" = some (some (.ref C2)))
    (aC3 : PySem.W.nsIn K mainGlobals "UnknownName" = some (some (.ref C3)))
    (aC4 : PySem.W.nsIn K mainGlobals "NoRoom" = some (some (.ref C4)))
    (aC5 : PySem.W.nsIn K mainGlobals "BadKind" = some (some (.ref C5)))
    (a0 : PySem.W.findIn K (.ref C1) "__init__" = some (some (.ref f0)))
    (i0 : PySem.W.isFn K (.ref f0) = true)
    (l0 : K.lookup f0 = some ⟨oc0, od0, .func (PySem.W.fnOf "__init__" "BadName.__init__" (defArgs (inClass (top 2) 0)) (defBody (inClass (top 2) 0)) (defScope (inClass (top 2) 0)) .none kV0 dc0 pm0 an0 cd0 ct0), sl0⟩)
    (c0 : PySem.W.codeIn K cd0 "BadName.__init__" = true)
    (k0 : PySem.W.keepIn K (.ref f0) = true)
    (a1 : PySem.W.findIn K (.ref C2) "__init__" = some (some (.ref f1)))
    (i1 : PySem.W.isFn K (.ref f1) = true)
    (l1 : K.lookup f1 = some ⟨oc1, od1, .func (PySem.W.fnOf "__init__" "NameTaken.__init__" (defArgs (inClass (top 3) 0)) (defBody (inClass (top 3) 0)) (defScope (inClass (top 3) 0)) .none kV1 dc1 pm1 an1 cd1 ct1), sl1⟩)
    (c1 : PySem.W.codeIn K cd1 "NameTaken.__init__" = true)
    (k1 : PySem.W.keepIn K (.ref f1) = true)
    (a2 : PySem.W.findIn K (.ref C3) "__init__" = some (some (.ref f2)))
    (i2 : PySem.W.isFn K (.ref f2) = true)
    (l2 : K.lookup f2 = some ⟨oc2, od2, .func (PySem.W.fnOf "__init__" "UnknownName.__init__" (defArgs (inClass (top 4) 0)) (defBody (inClass (top 4) 0)) (defScope (inClass (top 4) 0)) .none kV2 dc2 pm2 an2 cd2 ct2), sl2⟩)
    (c2 : PySem.W.codeIn K cd2 "UnknownName.__init__" = true)
    (k2 : PySem.W.keepIn K (.ref f2) = true)
    (a3 : PySem.W.findIn K (.ref C4) "__init__" = some (some (.ref f3)))
    (i3 : PySem.W.isFn K (.ref f3) = true)
    (l3 : K.lookup f3 = some ⟨oc3, od3, .func (PySem.W.fnOf "__init__" "NoRoom.__init__" (defArgs (inClass (top 5) 0)) (defBody (inClass (top 5) 0)) (defScope (inClass (top 5) 0)) .none kV3 dc3 pm3 an3 cd3 ct3), sl3⟩)
    (c3 : PySem.W.codeIn K cd3 "NoRoom.__init__" = true)
    (k3 : PySem.W.keepIn K (.ref f3) = true)
    (a4 : PySem.W.findIn K (.ref C5) "__init__" = some (some (.ref f4)))
    (i4 : PySem.W.isFn K (.ref f4) = true)
    (l4 : K.lookup f4 = some ⟨oc4, od4, .func (PySem.W.fnOf "__init__" "BadKind.__init__" (defArgs (inClass (top 6) 0)) (defBody (inClass (top 6) 0)) (defScope (inClass (top 6) 0)) .none kV4 dc4 pm4 an4 cd4 ct4), sl4⟩)
    (c4 : PySem.W.codeIn K cd4 "BadKind.__init__" = true)
    (k4 : PySem.W.keepIn K (.ref f4) = true)
    (a5 : PySem.W.nsIn K mainGlobals "is_number" = some (some (.ref f5)))
    (l5 : K.lookup f5 = some ⟨oc5, od5, .func (PySem.W.fnOf "is_number" "is_number" (defArgs (top 8)) (defBody (top 8)) (defScope (top 8)) .none kV5 dc5 pm5 an5 cd5 ct5), sl5⟩)
    (c5 : PySem.W.codeIn K cd5 "is_number" = true)
    (k5 : PySem.W.keepIn K (.ref f5) = true)
    (a6 : PySem.W.nsIn K mainGlobals "is_kind" = some (some (.ref f6)))
    (l6 : K.lookup f6 = some ⟨oc6, od6, .func (PySem.W.fnOf "is_kind" "is_kind" (defArgs (top 9)) (defBody (top 9)) (defScope (top 9)) .none kV6 dc6 pm6 an6 cd6 ct6), sl6⟩)
    (c6 : PySem.W.codeIn K cd6 "is_kind" = true)
    (k6 : PySem.W.keepIn K (.ref f6) = true)
    (a7 : PySem.W.nsIn K mainGlobals "nested" = some (some (.ref f7)))
    (l7 : K.lookup f7 = some ⟨oc7, od7, .func (PySem.W.fnOf "nested" "nested" (defArgs (top 10)) (defBody (top 10)) (defScope (top 10)) .none kV7 dc7 pm7 an7 cd7 ct7), sl7⟩)
    (c7 : PySem.W.codeIn K cd7 "nested" = true)
    (k7 : PySem.W.keepIn K (.ref f7) = true)
    (a8 : PySem.W.nsIn K mainGlobals "pooled" = some (some (.ref f8)))
    (l8 : K.lookup f8 = some ⟨oc8, od8, .func (PySem.W.fnOf "pooled" "pooled" (defArgs (top 11)) (defBody (top 11)) (defScope (top 11)) .none kV8 dc8 pm8 an8 cd8 ct8), sl8⟩)
    (c8 : PySem.W.codeIn K cd8 "pooled" = true)
    (k8 : PySem.W.keepIn K (.ref f8) = true)
    (a9 : PySem.W.nsIn K mainGlobals "covers" = some (some (.ref f9)))
    (l9 : K.lookup f9 = some ⟨oc9, od9, .func (PySem.W.fnOf "covers" "covers" (defArgs (top 12)) (defBody (top 12)) (defScope (top 12)) .none kV9 dc9 pm9 an9 cd9 ct9), sl9⟩)
    (c9 : PySem.W.codeIn K cd9 "covers" = true)
    (k9 : PySem.W.keepIn K (.ref f9) = true)
    (a10 : PySem.W.nsIn K mainGlobals "_law_cell" = some (some (.ref f10)))
    (l10 : K.lookup f10 = some ⟨oc10, od10, .func (PySem.W.fnOf "_law_cell" "_law_cell" (defArgs (top 14)) (defBody (top 14)) (defScope (top 14)) .none kV10 dc10 pm10 an10 cd10 ct10), sl10⟩)
    (c10 : PySem.W.codeIn K cd10 "_law_cell" = true)
    (k10 : PySem.W.keepIn K (.ref f10) = true)
    (a11 : PySem.W.nsIn K mainGlobals "_law_pool" = some (some (.ref f11)))
    (l11 : K.lookup f11 = some ⟨oc11, od11, .func (PySem.W.fnOf "_law_pool" "_law_pool" (defArgs (top 15)) (defBody (top 15)) (defScope (top 15)) .none kV11 dc11 pm11 an11 cd11 ct11), sl11⟩)
    (c11 : PySem.W.codeIn K cd11 "_law_pool" = true)
    (k11 : PySem.W.keepIn K (.ref f11) = true)
    (a12 : PySem.W.nsIn K mainGlobals "_law_next" = some (some (.ref f12)))
    (l12 : K.lookup f12 = some ⟨oc12, od12, .func (PySem.W.fnOf "_law_next" "_law_next" (defArgs (top 16)) (defBody (top 16)) (defScope (top 16)) .none kV12 dc12 pm12 an12 cd12 ct12), sl12⟩)
    (c12 : PySem.W.codeIn K cd12 "_law_next" = true)
    (k12 : PySem.W.keepIn K (.ref f12) = true)
    (a13 : PySem.W.nsIn K mainGlobals "_law_same" = some (some (.ref f13)))
    (l13 : K.lookup f13 = some ⟨oc13, od13, .func (PySem.W.fnOf "_law_same" "_law_same" (defArgs (top 17)) (defBody (top 17)) (defScope (top 17)) .none kV13 dc13 pm13 an13 cd13 ct13), sl13⟩)
    (c13 : PySem.W.codeIn K cd13 "_law_same" = true)
    (k13 : PySem.W.keepIn K (.ref f13) = true)
    (a14 : PySem.W.nsIn K mainGlobals "_law_mode" = some (some (.ref f14)))
    (l14 : K.lookup f14 = some ⟨oc14, od14, .func (PySem.W.fnOf "_law_mode" "_law_mode" (defArgs (top 18)) (defBody (top 18)) (defScope (top 18)) .none kV14 dc14 pm14 an14 cd14 ct14), sl14⟩)
    (c14 : PySem.W.codeIn K cd14 "_law_mode" = true)
    (k14 : PySem.W.keepIn K (.ref f14) = true)
    (a15 : PySem.W.nsIn K mainGlobals "_law_fits" = some (some (.ref f15)))
    (l15 : K.lookup f15 = some ⟨oc15, od15, .func (PySem.W.fnOf "_law_fits" "_law_fits" (defArgs (top 19)) (defBody (top 19)) (defScope (top 19)) .none kV15 dc15 pm15 an15 cd15 ct15), sl15⟩)
    (c15 : PySem.W.codeIn K cd15 "_law_fits" = true)
    (k15 : PySem.W.keepIn K (.ref f15) = true)
    (a16 : PySem.W.nsIn K mainGlobals "_law_extremes" = some (some (.ref f16)))
    (l16 : K.lookup f16 = some ⟨oc16, od16, .func (PySem.W.fnOf "_law_extremes" "_law_extremes" (defArgs (top 20)) (defBody (top 20)) (defScope (top 20)) .none kV16 dc16 pm16 an16 cd16 ct16), sl16⟩)
    (c16 : PySem.W.codeIn K cd16 "_law_extremes" = true)
    (k16 : PySem.W.keepIn K (.ref f16) = true)
    (a17 : PySem.W.nsIn K mainGlobals "_law_covers" = some (some (.ref f17)))
    (l17 : K.lookup f17 = some ⟨oc17, od17, .func (PySem.W.fnOf "_law_covers" "_law_covers" (defArgs (top 21)) (defBody (top 21)) (defScope (top 21)) .none kV17 dc17 pm17 an17 cd17 ct17), sl17⟩)
    (c17 : PySem.W.codeIn K cd17 "_law_covers" = true)
    (k17 : PySem.W.keepIn K (.ref f17) = true)
    (a18 : PySem.W.nsIn K mainGlobals "_law_boxed" = some (some (.ref f18)))
    (l18 : K.lookup f18 = some ⟨oc18, od18, .func (PySem.W.fnOf "_law_boxed" "_law_boxed" (defArgs (top 22)) (defBody (top 22)) (defScope (top 22)) .none kV18 dc18 pm18 an18 cd18 ct18), sl18⟩)
    (c18 : PySem.W.codeIn K cd18 "_law_boxed" = true)
    (k18 : PySem.W.keepIn K (.ref f18) = true)
    (a19 : PySem.W.nsIn K mainGlobals "_law_nested" = some (some (.ref f19)))
    (l19 : K.lookup f19 = some ⟨oc19, od19, .func (PySem.W.fnOf "_law_nested" "_law_nested" (defArgs (top 23)) (defBody (top 23)) (defScope (top 23)) .none kV19 dc19 pm19 an19 cd19 ct19), sl19⟩)
    (c19 : PySem.W.codeIn K cd19 "_law_nested" = true)
    (k19 : PySem.W.keepIn K (.ref f19) = true)
    (a20 : PySem.W.nsIn K mainGlobals "_law_refused" = some (some (.ref f20)))
    (l20 : K.lookup f20 = some ⟨oc20, od20, .func (PySem.W.fnOf "_law_refused" "_law_refused" (defArgs (top 24)) (defBody (top 24)) (defScope (top 24)) .none kV20 dc20 pm20 an20 cd20 ct20), sl20⟩)
    (c20 : PySem.W.codeIn K cd20 "_law_refused" = true)
    (k20 : PySem.W.keepIn K (.ref f20) = true)
    (a21 : PySem.W.nsIn K mainGlobals "_law_refused_at_all" = some (some (.ref f21)))
    (l21 : K.lookup f21 = some ⟨oc21, od21, .func (PySem.W.fnOf "_law_refused_at_all" "_law_refused_at_all" (defArgs (top 25)) (defBody (top 25)) (defScope (top 25)) .none kV21 dc21 pm21 an21 cd21 ct21), sl21⟩)
    (c21 : PySem.W.codeIn K cd21 "_law_refused_at_all" = true)
    (k21 : PySem.W.keepIn K (.ref f21) = true)
    (a22 : PySem.W.nsIn K mainGlobals "_law_pair" = some (some (.ref f22)))
    (l22 : K.lookup f22 = some ⟨oc22, od22, .func (PySem.W.fnOf "_law_pair" "_law_pair" (defArgs (top 26)) (defBody (top 26)) (defScope (top 26)) .none kV22 dc22 pm22 an22 cd22 ct22), sl22⟩)
    (c22 : PySem.W.codeIn K cd22 "_law_pair" = true)
    (k22 : PySem.W.keepIn K (.ref f22) = true)
    (a23 : PySem.W.nsIn K mainGlobals "_law_odd" = some (some (.ref f23)))
    (l23 : K.lookup f23 = some ⟨oc23, od23, .func (PySem.W.fnOf "_law_odd" "_law_odd" (defArgs (top 27)) (defBody (top 27)) (defScope (top 27)) .none kV23 dc23 pm23 an23 cd23 ct23), sl23⟩)
    (c23 : PySem.W.codeIn K cd23 "_law_odd" = true)
    (k23 : PySem.W.keepIn K (.ref f23) = true)
    (a24 : PySem.W.nsIn K mainGlobals "_law_kinds_alone" = some (some (.ref f24)))
    (l24 : K.lookup f24 = some ⟨oc24, od24, .func (PySem.W.fnOf "_law_kinds_alone" "_law_kinds_alone" (defArgs (top 28)) (defBody (top 28)) (defScope (top 28)) .none kV24 dc24 pm24 an24 cd24 ct24), sl24⟩)
    (c24 : PySem.W.codeIn K cd24 "_law_kinds_alone" = true)
    (k24 : PySem.W.keepIn K (.ref f24) = true)
    (a25 : PySem.W.nsIn K mainGlobals "law" = some (some (.ref f25)))
    (l25 : K.lookup f25 = some ⟨oc25, od25, .func (PySem.W.fnOf "law" "law" (defArgs (top 29)) (defBody (top 29)) (defScope (top 29)) .none kV25 dc25 pm25 an25 cd25 ct25), sl25⟩)
    (c25 : PySem.W.codeIn K cd25 "law" = true)
    (k25 : PySem.W.keepIn K (.ref f25) = true)
    (lx5 : K.lookup C5 = some (excClassObj xnm5 xqn5 C5 xN5 xbs5 xbm5 true xsn5 xsub5 xab5 xcol5 xdd5 xk0_5 xk1_5 xk2_5 xk3_5 xk5_5 "ValueError.__new__"))
    (rv5 : PySem.HandSPX.refsVE xbm5 = true)
    (sa5 : PySem.W.findIn K (.ref C5) "__setattr__" = some (some (.builtin "object.__setattr__")))
    (xb5 : PySem.W.subIn K (.ref C5) (.type "BaseException") = some true)
    (xty5 : PySem.W.typeIn K (.ref C5) = some (.type "type"))
    (kc5 : PySem.W.keepIn K (.ref C5) = true)
    (xcl5 : PySem.W.isClsIn K C5 = true)
    (xga5 : PySem.W.findIn K (.ref C5) "__getattribute__" = some (some (.builtin "BaseException.__getattribute__")))
    (xgg5 : PySem.W.findIn K (.ref C5) "__getattr__" = some none)
    (xhd5 : PySem.W.hasDictIn K C5 = true)
    (xha5 : PySem.W.findIn K (.ref C5) "__class__" = some (some (.builtin "object.__class__")))
    (xhn5 : PySem.W.specialIn K (.builtin "object.__class__") "__get__" = some (some (.builtin "getset_descriptor.__get__")))
    (xht5 : PySem.W.takesIn K (.builtin "object.__class__") = some true)
    (xhm5 : PySem.W.mroIn K C5 (.type "object") = some true)
    (xn5_kind : PySem.W.findIn K (.ref C5) "kind" = some none)
    (bsp : PySem.W.specialIn K (.ref C0) "__getattribute__" = some (some (.builtin "type.__getattribute__")))
    (brd : PySem.W.readsIn K C0 (.type "type") = true)
    (bin : PySem.W.findCls K (.ref C0) (.type "type") "__init__" = some (.val (.builtin "ValueError.__init__")))
    (exb_BadKind : PySem.W.subIn K (.ref C5) (.type "BaseException") = some true)
    (exd_BadKind : PySem.W.hasDictIn K C5 = true)
    (ext_BadKind : PySem.W.typeIn K (.ref C5) = some (.type "type"))
    (sub_BadKind_5 : PySem.W.subIn K (.ref C5) (.ref C5) = some true)
    (exb_HeldError : PySem.W.subIn K (.ref C0) (.type "BaseException") = some true)
    (exd_HeldError : PySem.W.hasDictIn K C0 = true)
    (ext_HeldError : PySem.W.typeIn K (.ref C0) = some (.type "type"))
    (sub_HeldError_5 : PySem.W.subIn K (.ref C5) (.ref C0) = some true)
    (sub_ValueError_5 : PySem.W.subIn K (.ref C5) (.type "ValueError") = some true)
    (eci_HeldError : PySem.W.isClsIn K C0 = true)
    (esf_5 : PySem.W.subIn K (.ref C5) (.ref C5) = some true)
    (eci_BadName : PySem.W.isClsIn K C1 = true)
    (ext_BadName : PySem.W.typeIn K (.ref C1) = some (.type "type"))
    (sub_BadName_5 : PySem.W.subIn K (.ref C5) (.ref C1) = some false)
    (eci_NameTaken : PySem.W.isClsIn K C2 = true)
    (ext_NameTaken : PySem.W.typeIn K (.ref C2) = some (.type "type"))
    (sub_NameTaken_5 : PySem.W.subIn K (.ref C5) (.ref C2) = some false)
    (eci_NoRoom : PySem.W.isClsIn K C4 = true)
    (ext_NoRoom : PySem.W.typeIn K (.ref C4) = some (.type "type"))
    (sub_NoRoom_5 : PySem.W.subIn K (.ref C5) (.ref C4) = some false)
    (eci_UnknownName : PySem.W.isClsIn K C3 = true)
    (ext_UnknownName : PySem.W.typeIn K (.ref C3) = some (.type "type"))
    (sub_UnknownName_5 : PySem.W.subIn K (.ref C5) (.ref C3) = some false)
    (eci_BadKind : PySem.W.isClsIn K C5 = true)
    (z_ValueError : PySem.W.nsIn K mainGlobals "ValueError" = some none)
    (z_abs : PySem.W.nsIn K mainGlobals "abs" = some none)
    (z_bool : PySem.W.nsIn K mainGlobals "bool" = some none)
    (z_int : PySem.W.nsIn K mainGlobals "int" = some none)
    (z_isinstance : PySem.W.nsIn K mainGlobals "isinstance" = some none)
    (z_len : PySem.W.nsIn K mainGlobals "len" = some none)
    (z_list : PySem.W.nsIn K mainGlobals "list" = some none)
    (z_max : PySem.W.nsIn K mainGlobals "max" = some none)
    (z_min : PySem.W.nsIn K mainGlobals "min" = some none)
    (z_range : PySem.W.nsIn K mainGlobals "range" = some none)
    (z_str : PySem.W.nsIn K mainGlobals "str" = some none)
    (z_tuple : PySem.W.nsIn K mainGlobals "tuple" = some none)
    : ∃ fd : FuncData, (∀ (s : Shared) (v : Value), BindsTo s fd ⟨[v], []⟩ [("_law_script", v)]) ∧ ∀ base : Heap, K.In base → base.Ns mainGlobals mg → FnOk l.prog w K mg base (L2N.CX l.prog w) 42 fa fd ["_law_script"] (spL K) := by
  have e : f25 = fa := by
    have z := (PySem.W.mg_of X G a25).symm.trans hfa
    injection z with z
    injection z
  subst e
  let cl : Nat → Addr := fun i => [C0, C1, C2, C3, C4, C5].getD i 0
  let fas : Nat → Addr := fun i => [f0, f1, f2, f3, f4, f5, f6, f7, f8, f9, f10, f11, f12, f13, f14, f15, f16, f17, f18, f19, f20, f21, f22, f23, f24, f25].getD i 0
  let fds : Nat → FuncData := fun i => [PySem.W.fnOf "__init__" "BadName.__init__" (defArgs (inClass (top 2) 0)) (defBody (inClass (top 2) 0)) (defScope (inClass (top 2) 0)) .none kV0 dc0 pm0 an0 cd0 ct0, PySem.W.fnOf "__init__" "NameTaken.__init__" (defArgs (inClass (top 3) 0)) (defBody (inClass (top 3) 0)) (defScope (inClass (top 3) 0)) .none kV1 dc1 pm1 an1 cd1 ct1, PySem.W.fnOf "__init__" "UnknownName.__init__" (defArgs (inClass (top 4) 0)) (defBody (inClass (top 4) 0)) (defScope (inClass (top 4) 0)) .none kV2 dc2 pm2 an2 cd2 ct2, PySem.W.fnOf "__init__" "NoRoom.__init__" (defArgs (inClass (top 5) 0)) (defBody (inClass (top 5) 0)) (defScope (inClass (top 5) 0)) .none kV3 dc3 pm3 an3 cd3 ct3, PySem.W.fnOf "__init__" "BadKind.__init__" (defArgs (inClass (top 6) 0)) (defBody (inClass (top 6) 0)) (defScope (inClass (top 6) 0)) .none kV4 dc4 pm4 an4 cd4 ct4, PySem.W.fnOf "is_number" "is_number" (defArgs (top 8)) (defBody (top 8)) (defScope (top 8)) .none kV5 dc5 pm5 an5 cd5 ct5, PySem.W.fnOf "is_kind" "is_kind" (defArgs (top 9)) (defBody (top 9)) (defScope (top 9)) .none kV6 dc6 pm6 an6 cd6 ct6, PySem.W.fnOf "nested" "nested" (defArgs (top 10)) (defBody (top 10)) (defScope (top 10)) .none kV7 dc7 pm7 an7 cd7 ct7, PySem.W.fnOf "pooled" "pooled" (defArgs (top 11)) (defBody (top 11)) (defScope (top 11)) .none kV8 dc8 pm8 an8 cd8 ct8, PySem.W.fnOf "covers" "covers" (defArgs (top 12)) (defBody (top 12)) (defScope (top 12)) .none kV9 dc9 pm9 an9 cd9 ct9, PySem.W.fnOf "_law_cell" "_law_cell" (defArgs (top 14)) (defBody (top 14)) (defScope (top 14)) .none kV10 dc10 pm10 an10 cd10 ct10, PySem.W.fnOf "_law_pool" "_law_pool" (defArgs (top 15)) (defBody (top 15)) (defScope (top 15)) .none kV11 dc11 pm11 an11 cd11 ct11, PySem.W.fnOf "_law_next" "_law_next" (defArgs (top 16)) (defBody (top 16)) (defScope (top 16)) .none kV12 dc12 pm12 an12 cd12 ct12, PySem.W.fnOf "_law_same" "_law_same" (defArgs (top 17)) (defBody (top 17)) (defScope (top 17)) .none kV13 dc13 pm13 an13 cd13 ct13, PySem.W.fnOf "_law_mode" "_law_mode" (defArgs (top 18)) (defBody (top 18)) (defScope (top 18)) .none kV14 dc14 pm14 an14 cd14 ct14, PySem.W.fnOf "_law_fits" "_law_fits" (defArgs (top 19)) (defBody (top 19)) (defScope (top 19)) .none kV15 dc15 pm15 an15 cd15 ct15, PySem.W.fnOf "_law_extremes" "_law_extremes" (defArgs (top 20)) (defBody (top 20)) (defScope (top 20)) .none kV16 dc16 pm16 an16 cd16 ct16, PySem.W.fnOf "_law_covers" "_law_covers" (defArgs (top 21)) (defBody (top 21)) (defScope (top 21)) .none kV17 dc17 pm17 an17 cd17 ct17, PySem.W.fnOf "_law_boxed" "_law_boxed" (defArgs (top 22)) (defBody (top 22)) (defScope (top 22)) .none kV18 dc18 pm18 an18 cd18 ct18, PySem.W.fnOf "_law_nested" "_law_nested" (defArgs (top 23)) (defBody (top 23)) (defScope (top 23)) .none kV19 dc19 pm19 an19 cd19 ct19, PySem.W.fnOf "_law_refused" "_law_refused" (defArgs (top 24)) (defBody (top 24)) (defScope (top 24)) .none kV20 dc20 pm20 an20 cd20 ct20, PySem.W.fnOf "_law_refused_at_all" "_law_refused_at_all" (defArgs (top 25)) (defBody (top 25)) (defScope (top 25)) .none kV21 dc21 pm21 an21 cd21 ct21, PySem.W.fnOf "_law_pair" "_law_pair" (defArgs (top 26)) (defBody (top 26)) (defScope (top 26)) .none kV22 dc22 pm22 an22 cd22 ct22, PySem.W.fnOf "_law_odd" "_law_odd" (defArgs (top 27)) (defBody (top 27)) (defScope (top 27)) .none kV23 dc23 pm23 an23 cd23 ct23, PySem.W.fnOf "_law_kinds_alone" "_law_kinds_alone" (defArgs (top 28)) (defBody (top 28)) (defScope (top 28)) .none kV24 dc24 pm24 an24 cd24 ct24, PySem.W.fnOf "law" "law" (defArgs (top 29)) (defBody (top 29)) (defScope (top 29)) .none kV25 dc25 pm25 an25 cd25 ct25].getD i (PySem.W.fnOf "__init__" "BadName.__init__" (defArgs (inClass (top 2) 0)) (defBody (inClass (top 2) 0)) (defScope (inClass (top 2) 0)) .none kV0 dc0 pm0 an0 cd0 ct0)
  have T : Txt K mg cl fas fds := {
    F0 := fun_mk (st := (inClass (top 2) 0)) l0 c0 k0
    b0 := (fun_mk (st := (inClass (top 2) 0)) l0 c0 k0).binds (ps := ["self", "name"]) fun _ _ _ _ _ _ us hl => match us, hl with | [_, _], _ => rfl
    F1 := fun_mk (st := (inClass (top 3) 0)) l1 c1 k1
    b1 := (fun_mk (st := (inClass (top 3) 0)) l1 c1 k1).binds (ps := ["self", "name"]) fun _ _ _ _ _ _ us hl => match us, hl with | [_, _], _ => rfl
    F2 := fun_mk (st := (inClass (top 4) 0)) l2 c2 k2
    b2 := (fun_mk (st := (inClass (top 4) 0)) l2 c2 k2).binds (ps := ["self", "name"]) fun _ _ _ _ _ _ us hl => match us, hl with | [_, _], _ => rfl
    F3 := fun_mk (st := (inClass (top 5) 0)) l3 c3 k3
    b3 := (fun_mk (st := (inClass (top 5) 0)) l3 c3 k3).binds (ps := ["self", "name"]) fun _ _ _ _ _ _ us hl => match us, hl with | [_, _], _ => rfl
    F4 := fun_mk (st := (inClass (top 6) 0)) l4 c4 k4
    b4 := (fun_mk (st := (inClass (top 6) 0)) l4 c4 k4).binds (ps := ["self", "kind"]) fun _ _ _ _ _ _ us hl => match us, hl with | [_, _], _ => rfl
    F5 := fun_mk (st := (top 8)) l5 c5 k5
    b5 := (fun_mk (st := (top 8)) l5 c5 k5).binds (ps := ["value"]) fun _ _ _ _ _ _ us hl => match us, hl with | [_], _ => rfl
    g5 := PySem.W.mg_of X G a5
    F6 := fun_mk (st := (top 9)) l6 c6 k6
    b6 := (fun_mk (st := (top 9)) l6 c6 k6).binds (ps := ["value"]) fun _ _ _ _ _ _ us hl => match us, hl with | [_], _ => rfl
    g6 := PySem.W.mg_of X G a6
    F7 := fun_mk (st := (top 10)) l7 c7 k7
    b7 := (fun_mk (st := (top 10)) l7 c7 k7).binds (ps := ["outer", "inner"]) fun _ _ _ _ _ _ us hl => match us, hl with | [_, _], _ => rfl
    g7 := PySem.W.mg_of X G a7
    F8 := fun_mk (st := (top 11)) l8 c8 k8
    b8 := (fun_mk (st := (top 11)) l8 c8 k8).binds (ps := ["first", "second"]) fun _ _ _ _ _ _ us hl => match us, hl with | [_, _], _ => rfl
    g8 := PySem.W.mg_of X G a8
    F9 := fun_mk (st := (top 12)) l9 c9 k9
    b9 := (fun_mk (st := (top 12)) l9 c9 k9).binds (ps := ["room", "kind"]) fun _ _ _ _ _ _ us hl => match us, hl with | [_, _], _ => rfl
    g9 := PySem.W.mg_of X G a9
    F10 := fun_mk (st := (top 14)) l10 c10 k10
    b10 := (fun_mk (st := (top 14)) l10 c10 k10).binds (ps := ["_law_script", "_law_k"]) fun _ _ _ _ _ _ us hl => match us, hl with | [_, _], _ => rfl
    g10 := PySem.W.mg_of X G a10
    F11 := fun_mk (st := (top 15)) l11 c11 k11
    b11 := (fun_mk (st := (top 15)) l11 c11 k11).binds (ps := ["_law_script", "_law_k"]) fun _ _ _ _ _ _ us hl => match us, hl with | [_, _], _ => rfl
    g11 := PySem.W.mg_of X G a11
    F12 := fun_mk (st := (top 16)) l12 c12 k12
    b12 := (fun_mk (st := (top 16)) l12 c12 k12).binds (ps := ["_law_pool_here", "_law_many"]) fun _ _ _ _ _ _ us hl => match us, hl with | [_, _], _ => rfl
    g12 := PySem.W.mg_of X G a12
    F13 := fun_mk (st := (top 17)) l13 c13 k13
    b13 := (fun_mk (st := (top 17)) l13 c13 k13).binds (ps := ["_law_told", "_law_due"]) fun _ _ _ _ _ _ us hl => match us, hl with | [_, _], _ => rfl
    g13 := PySem.W.mg_of X G a13
    F14 := fun_mk (st := (top 18)) l14 c14 k14
    b14 := (fun_mk (st := (top 18)) l14 c14 k14).binds (ps := ["_law_pool_here", "_law_near"]) fun _ _ _ _ _ _ us hl => match us, hl with | [_, _], _ => rfl
    g14 := PySem.W.mg_of X G a14
    F15 := fun_mk (st := (top 19)) l15 c15 k15
    b15 := (fun_mk (st := (top 19)) l15 c15 k15).binds (ps := ["_law_told", "_law_mode_here"]) fun _ _ _ _ _ _ us hl => match us, hl with | [_, _], _ => rfl
    g15 := PySem.W.mg_of X G a15
    F16 := fun_mk (st := (top 20)) l16 c16 k16
    b16 := (fun_mk (st := (top 20)) l16 c16 k16).binds (ps := ["_law_mode_here"]) fun _ _ _ _ _ _ us hl => match us, hl with | [_], _ => rfl
    g16 := PySem.W.mg_of X G a16
    F17 := fun_mk (st := (top 21)) l17 c17 k17
    b17 := (fun_mk (st := (top 21)) l17 c17 k17).binds (ps := ["_law_room", "_law_mode_here"]) fun _ _ _ _ _ _ us hl => match us, hl with | [_, _], _ => rfl
    g17 := PySem.W.mg_of X G a17
    F18 := fun_mk (st := (top 22)) l18 c18 k18
    b18 := (fun_mk (st := (top 22)) l18 c18 k18).binds (ps := ["_law_told", "_law_mode_here"]) fun _ _ _ _ _ _ us hl => match us, hl with | [_, _], _ => rfl
    g18 := PySem.W.mg_of X G a18
    F19 := fun_mk (st := (top 23)) l19 c19 k19
    b19 := (fun_mk (st := (top 23)) l19 c19 k19).binds (ps := ["_law_outer", "_law_inner"]) fun _ _ _ _ _ _ us hl => match us, hl with | [_, _], _ => rfl
    g19 := PySem.W.mg_of X G a19
    F20 := fun_mk (st := (top 24)) l20 c20 k20
    b20 := (fun_mk (st := (top 24)) l20 c20 k20).binds (ps := ["_law_one", "_law_two"]) fun _ _ _ _ _ _ us hl => match us, hl with | [_, _], _ => rfl
    g20 := PySem.W.mg_of X G a20
    F21 := fun_mk (st := (top 25)) l21 c21 k21
    b21 := (fun_mk (st := (top 25)) l21 c21 k21).binds (ps := ["_law_one", "_law_two"]) fun _ _ _ _ _ _ us hl => match us, hl with | [_, _], _ => rfl
    g21 := PySem.W.mg_of X G a21
    F22 := fun_mk (st := (top 26)) l22 c22 k22
    b22 := (fun_mk (st := (top 26)) l22 c22 k22).binds (ps := ["_law_one", "_law_two"]) fun _ _ _ _ _ _ us hl => match us, hl with | [_, _], _ => rfl
    g22 := PySem.W.mg_of X G a22
    F23 := fun_mk (st := (top 27)) l23 c23 k23
    b23 := (fun_mk (st := (top 27)) l23 c23 k23).binds (ps := ["_law_mode_here"]) fun _ _ _ _ _ _ us hl => match us, hl with | [_], _ => rfl
    g23 := PySem.W.mg_of X G a23
    F24 := fun_mk (st := (top 28)) l24 c24 k24
    b24 := (fun_mk (st := (top 28)) l24 c24 k24).binds (ps := ["_law_pool_here", "_law_mode_here"]) fun _ _ _ _ _ _ us hl => match us, hl with | [_, _], _ => rfl
    g24 := PySem.W.mg_of X G a24
    F25 := fun_mk (st := (top 29)) l25 c25 k25
    b25 := (fun_mk (st := (top 29)) l25 c25 k25).binds (ps := ["_law_script"]) fun _ _ _ _ _ _ us hl => match us, hl with | [_], _ => rfl
    g25 := PySem.W.mg_of X G a25
    gC0 := PySem.W.mg_of X G aC0
    gC1 := PySem.W.mg_of X G aC1
    gC2 := PySem.W.mg_of X G aC2
    gC3 := PySem.W.mg_of X G aC3
    gC4 := PySem.W.mg_of X G aC4
    gC5 := PySem.W.mg_of X G aC5
    bC := ⟨bsp, brd, bin⟩
    x5 := ⟨⟨_, _, _, _, _, _, _, _, _, _, _, _, _, _, _, lx5, rv5⟩, sa5, xb5, xty5, kc5⟩
    xi5 := a4
    xt5 := beq_iff_eq.mp i4
    xn5_kind := xn5_kind
    errs := (fun q hq => by
      simp only [List.mem_cons, List.not_mem_nil, or_false] at hq
      rcases hq with rfl
      · exact ⟨xcl5, xga5, xgg5, xb5, xhd5, xha5, xhn5, xht5, xhm5⟩)
    exm_BadKind := (fun q hq => by
      simp only [List.mem_cons, List.not_mem_nil, or_false] at hq
      rcases hq with rfl
      · exact PySem.W.exm_ref exb_BadKind exd_BadKind ext_BadKind sub_BadKind_5)
    exm_HeldError := (fun q hq => by
      simp only [List.mem_cons, List.not_mem_nil, or_false] at hq
      rcases hq with rfl
      · exact PySem.W.exm_ref exb_HeldError exd_HeldError ext_HeldError sub_HeldError_5)
    kit_ValueError := (fun q hq => by
      simp only [List.mem_cons, List.not_mem_nil, or_false] at hq
      rcases hq with rfl
      · exact (kit_errT (by decide +kernel) sub_ValueError_5))
    kit_HeldError := (fun q hq => by
      simp only [List.mem_cons, List.not_mem_nil, or_false] at hq
      rcases hq with rfl
      · exact (kit_err eci_HeldError ext_HeldError esf_5 sub_HeldError_5))
    kit_BadName_NameTaken_NoRoom_UnknownName := (fun q hq => by
      simp only [List.mem_cons, List.not_mem_nil, or_false] at hq
      rcases hq with rfl
      · exact kit_f (kit_err eci_BadName ext_BadName esf_5 sub_BadName_5) (kit_f (kit_err eci_NameTaken ext_NameTaken esf_5 sub_NameTaken_5) (kit_f (kit_err eci_NoRoom ext_NoRoom esf_5 sub_NoRoom_5) (kit_f (kit_err eci_UnknownName ext_UnknownName esf_5 sub_UnknownName_5) (kit_nil)))))
    kit_BadKind := (fun q hq => by
      simp only [List.mem_cons, List.not_mem_nil, or_false] at hq
      rcases hq with rfl
      · exact (kit_err eci_BadKind ext_BadKind esf_5 sub_BadKind_5))
    xf_kind := (fun q hq => by
      simp only [List.mem_cons, List.not_mem_nil, or_false] at hq
      rcases hq with rfl
      · exact ⟨⟨xcl5, xga5, xgg5, xb5, xhd5, xha5, xhn5, xht5, xhm5⟩, xn5_kind⟩)
    z_ValueError := PySem.W.mg_none_of X G z_ValueError
    z_abs := PySem.W.mg_none_of X G z_abs
    z_bool := PySem.W.mg_none_of X G z_bool
    z_int := PySem.W.mg_none_of X G z_int
    z_isinstance := PySem.W.mg_none_of X G z_isinstance
    z_len := PySem.W.mg_none_of X G z_len
    z_list := PySem.W.mg_none_of X G z_list
    z_max := PySem.W.mg_none_of X G z_max
    z_min := PySem.W.mg_none_of X G z_min
    z_range := PySem.W.mg_none_of X G z_range
    z_str := PySem.W.mg_none_of X G z_str
    z_tuple := PySem.W.mg_none_of X G z_tuple
  }
  exact ⟨PySem.W.fnOf "law" "law" (defArgs (top 29)) (defBody (top 29)) (defScope (top 29)) .none kV25 dc25 pm25 an25 cd25 ct25, fun s v => .of_eq rfl, fun base _ _ => FnOk.imp (all_ok T 20 25) (spL_imp hlaw)⟩
end Lw

open PySem PySem.W PyProof.Rows in
set_option maxRecDepth 100000 in
set_option maxHeartbeats 0 in
theorem PySem.Challenge.cw_heldproofs_k01_kinds_cover_holds : PySem.Challenge.rw_heldproofs_k01_kinds_cover.Holds := by
  w_on; o_law; k_head; (case hw => w_witness2)
  k_fill
  refine Ev.walk_law (l := PySem.Challenge.rw_heldproofs_k01_kinds_cover) (x := "_law_script") (k := 42) rfl rfl ⟨rfl, by decide, by decide⟩ (fun w h Y => PySem.W.kIn_of Y) ?F
  case F =>
    intro w mg fa h KX G hmg
    refine' Lw.all_mk Lw.law_true KX G hmg ?aC0 ?aC1 ?aC2 ?aC3 ?aC4 ?aC5 ?a0 ?i0 ?l0 ?c0 ?k0 ?a1 ?i1 ?l1 ?c1 ?k1 ?a2 ?i2 ?l2 ?c2 ?k2 ?a3 ?i3 ?l3 ?c3 ?k3 ?a4 ?i4 ?l4 ?c4 ?k4 ?a5 ?l5 ?c5 ?k5 ?a6 ?l6 ?c6 ?k6 ?a7 ?l7 ?c7 ?k7 ?a8 ?l8 ?c8 ?k8 ?a9 ?l9 ?c9 ?k9 ?a10 ?l10 ?c10 ?k10 ?a11 ?l11 ?c11 ?k11 ?a12 ?l12 ?c12 ?k12 ?a13 ?l13 ?c13 ?k13 ?a14 ?l14 ?c14 ?k14 ?a15 ?l15 ?c15 ?k15 ?a16 ?l16 ?c16 ?k16 ?a17 ?l17 ?c17 ?k17 ?a18 ?l18 ?c18 ?k18 ?a19 ?l19 ?c19 ?k19 ?a20 ?l20 ?c20 ?k20 ?a21 ?l21 ?c21 ?k21 ?a22 ?l22 ?c22 ?k22 ?a23 ?l23 ?c23 ?k23 ?a24 ?l24 ?c24 ?k24 ?a25 ?l25 ?c25 ?k25 ?lx5 ?rv5 ?sa5 ?xb5 ?xty5 ?kc5 ?xcl5 ?xga5 ?xgg5 ?xhd5 ?xha5 ?xhn5 ?xht5 ?xhm5 ?xn5_kind ?bsp ?brd ?bin ?exb_BadKind ?exd_BadKind ?ext_BadKind ?sub_BadKind_5 ?exb_HeldError ?exd_HeldError ?ext_HeldError ?sub_HeldError_5 ?sub_ValueError_5 ?eci_HeldError ?esf_5 ?eci_BadName ?ext_BadName ?sub_BadName_5 ?eci_NameTaken ?ext_NameTaken ?sub_NameTaken_5 ?eci_NoRoom ?ext_NoRoom ?sub_NoRoom_5 ?eci_UnknownName ?ext_UnknownName ?sub_UnknownName_5 ?eci_BadKind ?z_ValueError ?z_abs ?z_bool ?z_int ?z_isinstance ?z_len ?z_list ?z_max ?z_min ?z_range ?z_str ?z_tuple
    (case aC0 => k_is)
    (case aC1 => k_is)
    (case aC2 => k_is)
    (case aC3 => k_is)
    (case aC4 => k_is)
    (case aC5 => k_is)
    (case a0 => k_is)
    (case i0 => k_is)
    (case l0 => k_is)
    (case c0 => k_is)
    (case k0 => k_is)
    (case a1 => k_is)
    (case i1 => k_is)
    (case l1 => k_is)
    (case c1 => k_is)
    (case k1 => k_is)
    (case a2 => k_is)
    (case i2 => k_is)
    (case l2 => k_is)
    (case c2 => k_is)
    (case k2 => k_is)
    (case a3 => k_is)
    (case i3 => k_is)
    (case l3 => k_is)
    (case c3 => k_is)
    (case k3 => k_is)
    (case a4 => k_is)
    (case i4 => k_is)
    (case l4 => k_is)
    (case c4 => k_is)
    (case k4 => k_is)
    (case a5 => k_is)
    (case l5 => k_is)
    (case c5 => k_is)
    (case k5 => k_is)
    (case a6 => k_is)
    (case l6 => k_is)
    (case c6 => k_is)
    (case k6 => k_is)
    (case a7 => k_is)
    (case l7 => k_is)
    (case c7 => k_is)
    (case k7 => k_is)
    (case a8 => k_is)
    (case l8 => k_is)
    (case c8 => k_is)
    (case k8 => k_is)
    (case a9 => k_is)
    (case l9 => k_is)
    (case c9 => k_is)
    (case k9 => k_is)
    (case a10 => k_is)
    (case l10 => k_is)
    (case c10 => k_is)
    (case k10 => k_is)
    (case a11 => k_is)
    (case l11 => k_is)
    (case c11 => k_is)
    (case k11 => k_is)
    (case a12 => k_is)
    (case l12 => k_is)
    (case c12 => k_is)
    (case k12 => k_is)
    (case a13 => k_is)
    (case l13 => k_is)
    (case c13 => k_is)
    (case k13 => k_is)
    (case a14 => k_is)
    (case l14 => k_is)
    (case c14 => k_is)
    (case k14 => k_is)
    (case a15 => k_is)
    (case l15 => k_is)
    (case c15 => k_is)
    (case k15 => k_is)
    (case a16 => k_is)
    (case l16 => k_is)
    (case c16 => k_is)
    (case k16 => k_is)
    (case a17 => k_is)
    (case l17 => k_is)
    (case c17 => k_is)
    (case k17 => k_is)
    (case a18 => k_is)
    (case l18 => k_is)
    (case c18 => k_is)
    (case k18 => k_is)
    (case a19 => k_is)
    (case l19 => k_is)
    (case c19 => k_is)
    (case k19 => k_is)
    (case a20 => k_is)
    (case l20 => k_is)
    (case c20 => k_is)
    (case k20 => k_is)
    (case a21 => k_is)
    (case l21 => k_is)
    (case c21 => k_is)
    (case k21 => k_is)
    (case a22 => k_is)
    (case l22 => k_is)
    (case c22 => k_is)
    (case k22 => k_is)
    (case a23 => k_is)
    (case l23 => k_is)
    (case c23 => k_is)
    (case k23 => k_is)
    (case a24 => k_is)
    (case l24 => k_is)
    (case c24 => k_is)
    (case k24 => k_is)
    (case a25 => k_is)
    (case l25 => k_is)
    (case c25 => k_is)
    (case k25 => k_is)
    (case lx5 => k_is)
    (case rv5 => first | rfl | decide +kernel)
    (case sa5 => k_is)
    (case xb5 => k_is)
    (case xty5 => k_is)
    (case kc5 => k_is)
    (case xcl5 => k_is)
    (case xga5 => k_is)
    (case xgg5 => k_is)
    (case xhd5 => k_is)
    (case xha5 => k_is)
    (case xhn5 => k_is)
    (case xht5 => k_is)
    (case xhm5 => k_is)
    (case xn5_kind => k_is)
    (case bsp => k_is)
    (case brd => k_is)
    (case bin => k_is)
    (case exb_BadKind => k_is)
    (case exd_BadKind => k_is)
    (case ext_BadKind => k_is)
    (case sub_BadKind_5 => k_is)
    (case exb_HeldError => k_is)
    (case exd_HeldError => k_is)
    (case ext_HeldError => k_is)
    (case sub_HeldError_5 => k_is)
    (case sub_ValueError_5 => k_is)
    (case eci_HeldError => k_is)
    (case esf_5 => k_is)
    (case eci_BadName => k_is)
    (case ext_BadName => k_is)
    (case sub_BadName_5 => k_is)
    (case eci_NameTaken => k_is)
    (case ext_NameTaken => k_is)
    (case sub_NameTaken_5 => k_is)
    (case eci_NoRoom => k_is)
    (case ext_NoRoom => k_is)
    (case sub_NoRoom_5 => k_is)
    (case eci_UnknownName => k_is)
    (case ext_UnknownName => k_is)
    (case sub_UnknownName_5 => k_is)
    (case eci_BadKind => k_is)
    (case z_ValueError => k_is)
    (case z_abs => k_is)
    (case z_bool => k_is)
    (case z_int => k_is)
    (case z_isinstance => k_is)
    (case z_len => k_is)
    (case z_list => k_is)
    (case z_max => k_is)
    (case z_min => k_is)
    (case z_range => k_is)
    (case z_str => k_is)
    (case z_tuple => k_is)
