import PyProof.Rows.All
import Wide.All
import OpenK.AllK
import Wide.FinOn
import HandS.ForMost
import HandS.ForExc
import HandS.IsInst
import HandS.Small
import PyProof.MaxThree
import HandS.HotCalls
import OpenK.KMeth
import HandS.Iter
import HandS.Comp
import HandS.WideBits
import HandS.ExcInit
import HandS.ExcField
import KE.KExcIs
import KE.KTryMore
import HandS.ExcIs
import HandS.TupLe
import HandS.TupAny
import HandS.DictComp
import HandS.More
import HandS.HeadHook3
import HandS.Finally
import HandS.CallSlots
import PySem.Challenge.RW_heldproofs_k27_whole_counts_by_choices
set_option Elab.async false
set_option linter.all false
set_option maxRecDepth 100000
/-! Ev1: pure data, a store of changing things, and how they lie in the heap. -/
namespace Ev
open PySem L2

/-- pure data -/
inductive Dv where
  | non | bl (b : Bool) | int (i : Int) | str (s : Str)
  | tup (xs : List Dv) | lst (xs : List Dv)
  | dic (ks : List Key) (xs : List Dv)
  | ins (c : Nat) (fs : List Str) (xs : List Dv)
inductive SV where
  | d (x : Dv) | m (i : Nat)
inductive MO where
  | lst (xs : List SV) | dic (ks : List Key) (xs : List SV)
  | ins (c : Nat) (fs : List Str) (xs : List SV) | frz (x : Dv)
  | tup (xs : List SV) | lck (ks : List Key) (xs : List SV)
abbrev Sto := List MO
abbrev Env := List (Option SV)
structure Exc where
  c : Nat
  fs : List Str
  xs : List Dv
inductive Res (α : Type) where
  | ok (a : α) (S : Sto) | ex (e : Exc) (S : Sto) | bad
def Res.bind {α β : Type} : Res α → (α → Sto → Res β) → Res β
  | .ok a S, g => g a S
  | .ex e S, _ => .ex e S
  | .bad, _ => .bad
@[simp] theorem Res.bind_ok {α β : Type} (a : α) (S : Sto) (g : α → Sto → Res β) : (Res.ok a S).bind g = g a S := rfl
@[simp] theorem Res.bind_ex {α β : Type} (e : Exc) (S : Sto) (g : α → Sto → Res β) : (Res.ex e S : Res α).bind g = .ex e S := rfl
@[simp] theorem Res.bind_bad {α β : Type} (g : α → Sto → Res β) : (Res.bad : Res α).bind g = .bad := rfl

def isMut : MO → Bool
  | .frz _ => false
  | _ => true

def isLck : MO → Bool
  | .lck _ _ => true
  | _ => false
/-- a lock is looked through -/
def core : HO → HO
  | .frz _ u => u
  | o => o
def Sim (o o' : HO) : Prop := o' = o ∨ ∃ kvs od, o = .dK kvs ∧ o' = .frz od (.dK kvs)
def keyOk : Key → Bool
  | .inl _ => true
  | .inr s => PyData.strOk s
/-- a dict's keys: as many as things, each of good signs -/
def DKl (ks : List Key) (n : Nat) : Prop := ks.length = n ∧ ks.all keyOk = true
/-- where the store's things lie, what nobody will change, what is locked for a while -/
structure Wd where
  ρ : Nat → Addr
  G : Hp
  L : Hp
structure Le (n : Nat) (W W' : Wd) : Prop where
  g : ∀ a o, W.G a = some o → ∃ o', W'.G a = some o' ∧ Sim o o'
  r : ∀ i, i < n → W'.ρ i = W.ρ i
  l : ∀ a o, W.L a = some o → W'.L a = some o
theorem Sim.refl (o : HO) : Sim o o := .inl rfl
theorem Sim.trans {a b c : HO} (h : Sim a b) (k : Sim b c) : Sim a c := by
  rcases h with rfl | ⟨kvs, od, rfl, rfl⟩
  · exact k
  · rcases k with rfl | ⟨kvs', od', k1, k2⟩
    · exact .inr ⟨kvs, od, rfl, rfl⟩
    · cases k1
theorem Le.refl (n : Nat) (W : Wd) : Le n W W := ⟨fun a o h => ⟨o, h, .refl o⟩, fun _ _ => rfl, fun _ _ h => h⟩
theorem Le.trans {n k : Nat} {A B C : Wd} (h : Le n A B) (q : Le k B C) (hn : n ≤ k) : Le n A C :=
  ⟨fun a o e => by
    obtain ⟨o1, e1, s1⟩ := h.g a o e
    obtain ⟨o2, e2, s2⟩ := q.g a o1 e1
    exact ⟨o2, e2, s1.trans s2⟩, fun i hi => (q.r i (Nat.lt_of_lt_of_le hi hn)).trans (h.r i hi), fun a o e => q.l a o (h.l a o e)⟩
theorem Le.less {n k : Nat} {A B : Wd} (h : Le k A B) (hn : n ≤ k) : Le n A B := ⟨h.g, fun i hi => h.r i (Nat.lt_of_lt_of_le hi hn), h.l⟩

def plainO : HO → Bool
  | .frz _ _ => false
  | .dK _ => false
  | _ => true
theorem Sim.plain {o o' : HO} (h : Sim o o') (p : plainO (core o) = true) : o' = o := by
  rcases h with h | ⟨kvs, od, rfl, _⟩
  · exact h
  · cases p
theorem Rd.le {n : Nat} {W W' : Wd} (h : Le n W W') {a : Addr} {u : HO} (p : plainO u = true) (r : Rd W.G a u) : Rd W'.G a u := by
  rcases r with r | ⟨o, r⟩
  · obtain ⟨o', e, s⟩ := h.g _ _ r
    have pc : plainO (core u) = true := by cases u <;> first | exact p | cases p
    rw [s.plain pc] at e
    exact .inl e
  · obtain ⟨o', e, s⟩ := h.g _ _ r
    have pc : plainO (core (.frz o u)) = true := p
    rw [s.plain pc] at e
    exact .inr ⟨o, e⟩
theorem SqL.le {K : PySem.W.Frag} {n : Nat} {W W' : Wd} (h : Le n W W') {a : Addr} {vs : List V} (r : SqL K W.G a vs) : SqL K W'.G a vs := r.imp (Rd.le h rfl) id
theorem SqT.le {K : PySem.W.Frag} {n : Nat} {W W' : Wd} (h : Le n W W') {a : Addr} {vs : List V} (r : SqT K W.G a vs) : SqT K W'.G a vs := r.imp (Rd.le h rfl) id
theorem Rd.up {G H : Hp} (h : ∀ a o, G a = some o → H a = some o) {a : Addr} {u : HO} (r : Rd G a u) : Rd H a u := r.imp (h _ _) fun ⟨o, e⟩ => ⟨o, h _ _ e⟩
theorem SqL.up {K : PySem.W.Frag} {G H : Hp} (h : ∀ a o, G a = some o → H a = some o) {a : Addr} {vs : List V} (r : SqL K G a vs) : SqL K H a vs := r.imp (Rd.up h) id
theorem SqT.up {K : PySem.W.Frag} {G H : Hp} (h : ∀ a o, G a = some o → H a = some o) {a : Addr} {vs : List V} (r : SqT K G a vs) : SqT K H a vs := r.imp (Rd.up h) id

mutual
inductive RelD (K : PySem.W.Frag) (cl : Nat → Addr) (G : Hp) : Dv → V → Prop
  | non : RelD K cl G .non .non
  | bl (b : Bool) : RelD K cl G (.bl b) (.bl b)
  | int (i : Int) : RelD K cl G (.int i) (.int i)
  | str (s : Str) (h : PyData.strOk s = true) : RelD K cl G (.str s) (.str s)
  | tup {a : Addr} {xs : List Dv} {vs : List V} (h : SqT K G a vs) (r : RelDs K cl G xs vs) : RelD K cl G (.tup xs) (.ref a)
  | lst {a : Addr} {xs : List Dv} {vs : List V} (h : SqL K G a vs) (r : RelDs K cl G xs vs) : RelD K cl G (.lst xs) (.ref a)
  | dic {a : Addr} {o : HO} {ks : List Key} {xs : List Dv} {vs : List V} (h : G a = some o) (c : core o = .dK (ks.zip vs)) (l : DKl ks xs.length) (r : RelDs K cl G xs vs) : RelD K cl G (.dic ks xs) (.ref a)
  | ins {a dx : Addr} {c : Nat} {fs : List Str} {xs : List Dv} {vs : List V} (h : G a = some (.ins (cl c) dx (fs.zip vs))) (l : fs.length = xs.length) (r : RelDs K cl G xs vs) : RelD K cl G (.ins c fs xs) (.ref a)
inductive RelDs (K : PySem.W.Frag) (cl : Nat → Addr) (G : Hp) : List Dv → List V → Prop
  | nil : RelDs K cl G [] []
  | cons {x : Dv} {v : V} {xs : List Dv} {vs : List V} (h : RelD K cl G x v) (r : RelDs K cl G xs vs) : RelDs K cl G (x :: xs) (v :: vs)
end

section
variable {K : PySem.W.Frag} {cl : Nat → Addr} {n : Nat} {W W' : Wd}
theorem RelD.le (h : Le n W W') : ∀ {x : Dv} {v : V}, RelD K cl W.G x v → RelD K cl W'.G x v := by
  intro x v r
  refine RelD.rec (motive_1 := fun x v _ => RelD K cl W'.G x v) (motive_2 := fun xs vs _ => RelDs K cl W'.G xs vs) .non .bl .int .str ?_ ?_ ?_ ?_ .nil ?_ r
  · intro a xs vs e _ ih; exact .tup (SqT.le h e) ih
  · intro a xs vs e _ ih; exact .lst (SqL.le h e) ih
  · intro a o ks xs vs e c l _ ih
    obtain ⟨o', e', s⟩ := h.g _ _ e
    refine .dic e' ?_ l ih
    rcases s with rfl | ⟨kvs, od, rfl, rfl⟩
    · exact c
    · exact c
  · intro a dx c fs xs vs e l _ ih
    obtain ⟨o', e', s⟩ := h.g _ _ e
    rw [s.plain rfl] at e'
    exact .ins e' l ih
  · intro x v xs vs _ _ i1 i2; exact .cons i1 i2
theorem RelDs.le (h : Le n W W') : ∀ {xs : List Dv} {vs : List V}, RelDs K cl W.G xs vs → RelDs K cl W'.G xs vs
  | _, _, .nil => .nil
  | _, _, .cons a b => .cons (RelD.le h a) (RelDs.le h b)
theorem RelDs.length {G : Hp} : ∀ {xs : List Dv} {vs : List V}, RelDs K cl G xs vs → xs.length = vs.length
  | _, _, .nil => rfl
  | _, _, .cons _ b => congrArg Nat.succ (RelDs.length b)
theorem RelDs.paired {G : Hp} : ∀ {xs : List Dv} {vs : List V}, RelDs K cl G xs vs → Paired (RelD K cl G) xs vs
  | _, _, .nil => .nil
  | _, _, .cons a b => .cons a (RelDs.paired b)
theorem RelDs.of {G : Hp} : ∀ {xs : List Dv} {vs : List V}, Paired (RelD K cl G) xs vs → RelDs K cl G xs vs
  | _, _, .nil => .nil
  | _, _, .cons a b => .cons a (RelDs.of b)

variable (K cl)
def RelSV (W : Wd) (n : Nat) : SV → V → Prop
  | .d x, v => RelD K cl W.G x v
  | .m i, v => i < n ∧ v = .ref (W.ρ i)
def Wd.un (W : Wd) (a : Addr) : Prop := W.G a = none ∧ W.L a = none
def RelMO (W : Wd) (n : Nat) (H : Hp) (a : Addr) : MO → Prop
  | .lst xs => W.un a ∧ ∃ vs, H a = some (.lst vs) ∧ Paired (RelSV K cl W n) xs vs
  | .dic ks xs => W.un a ∧ ∃ vs, H a = some (.dK (ks.zip vs)) ∧ DKl ks xs.length ∧ Paired (RelSV K cl W n) xs vs
  | .ins c fs xs => W.un a ∧ ∃ vs dx, H a = some (.ins (cl c) dx (fs.zip vs)) ∧ fs.length = xs.length ∧ Paired (RelSV K cl W n) xs vs
  | .frz x => RelD K cl W.G x (.ref a)
  | .tup xs => W.un a ∧ ∃ vs, H a = some (.tup vs) ∧ Paired (RelSV K cl W n) xs vs
  | .lck ks xs => W.G a = none ∧ ∃ vs od, (H a = some (.frz od (.dK (ks.zip vs))) ∧ W.L a = some (.frz od (.dK (ks.zip vs)))) ∧ DKl ks xs.length ∧ Paired (RelSV K cl W n) xs vs
structure Rel (W : Wd) (S : Sto) (H : Hp) : Prop where
  fz : ∀ a o, W.G a = some o → H a = some o
  st : ∀ (i : Nat) (mo : MO), S[i]? = some mo → RelMO K cl W S.length H (W.ρ i) mo
  inj : ∀ (i j : Nat) (mi mj : MO), S[i]? = some mi → S[j]? = some mj → isMut mi = true → isMut mj = true → W.ρ i = W.ρ j → i = j
  lk : ∀ a o, W.L a = some o → H a = some o ∧ ∃ od u, o = .frz od u
structure EnvR (W : Wd) (n : Nat) (env : Env) (σ : St) : Prop where
  len : σ.length = env.length
  get : ∀ (i : Nat) (sv : SV), env[i]? = some (some sv) → ∃ v, σ[i]? = some (some v) ∧ RelSV K cl W n sv v
/-- an exception: its class, its fields -/
def RelX (W : Wd) (e : Exc) (c : Value) (d : Option Addr) (H : Hp) : Prop :=
  c = .ref (cl e.c) ∧ e.fs.length = e.xs.length ∧ (e.fs = [] ∧ d = none ∨ ∃ dd vs, d = some dd ∧ H dd = some (.xd (e.fs.zip vs)) ∧ RelDs K cl W.G e.xs vs)
variable {K cl}
theorem RelSV.le {k : Nat} (h : Le n W W') (hk : n ≤ k) {sv : SV} {v : V} (r : RelSV K cl W n sv v) : RelSV K cl W' k sv v := by
  cases sv with
  | d x => exact RelD.le h r
  | m i =>
    obtain ⟨r1, r2⟩ := r
    exact ⟨Nat.lt_of_lt_of_le r1 hk, by rw [h.r i r1]; exact r2⟩
theorem RelSVs.le {k : Nat} (h : Le n W W') (hk : n ≤ k) {sv : List SV} {v : List V} (r : Paired (RelSV K cl W n) sv v) : Paired (RelSV K cl W' k) sv v :=
  Paired.mapP r fun _ _ q => RelSV.le h hk q
theorem EnvR.le {k : Nat} {env : Env} {σ : St} (h : Le n W W') (hk : n ≤ k) (r : EnvR K cl W n env σ) : EnvR K cl W' k env σ :=
  ⟨r.len, fun i sv e => let ⟨v, e1, r1⟩ := r.get i sv e; ⟨v, e1, RelSV.le h hk r1⟩⟩
theorem EnvR.set {env : Env} {σ : St} {sv : SV} {v : V} (r : EnvR K cl W n env σ) (i : Nat) (q : RelSV K cl W n sv v) : EnvR K cl W n (env.set i (some sv)) (σ.set i (some v)) := by
  refine ⟨by rw [List.length_set, List.length_set, r.len], fun j w e => ?_⟩
  by_cases hj : i = j
  · subst hj
    rw [List.getElem?_set] at e
    split at e
    · rename_i hl
      split at e
      · rename_i hl2
        cases e
        refine ⟨v, ?_, q⟩
        rw [List.getElem?_set, if_pos rfl, if_pos (by rw [r.len]; exact hl2)]
      · cases e
    · rename_i hl; exact absurd rfl hl
  · rw [List.getElem?_set_ne hj] at e
    obtain ⟨w', e1, r1⟩ := r.get j w e
    exact ⟨w', by rw [List.getElem?_set_ne hj]; exact e1, r1⟩
end

/-! ### what a result asks -/
def SV.below (b : Nat) : SV → Prop
  | .d _ => True
  | .m i => i < b
def MO.below (b : Nat) : MO → Prop
  | .lst xs => ∀ x ∈ xs, SV.below b x
  | .dic _ xs => ∀ x ∈ xs, SV.below b x
  | .ins _ _ xs => ∀ x ∈ xs, SV.below b x
  | .frz _ => True
  | .tup xs => ∀ x ∈ xs, SV.below b x
  | .lck _ xs => ∀ x ∈ xs, SV.below b x
/-- nothing below b looks above b -/
def WFB (b : Nat) (S : Sto) : Prop := ∀ (i : Nat) (mo : MO), i < b → S[i]? = some mo → mo.below b
structure Gr (b : Nat) (S S' : Sto) : Prop where
  len : S.length ≤ S'.length
  wf : ∀ b', b' ≤ b → WFB b' S → WFB b' S'
theorem Gr.refl (b : Nat) (S : Sto) : Gr b S S := ⟨Nat.le_refl _, fun _ _ h => h⟩
theorem Gr.trans {b c : Nat} {S S1 S2 : Sto} (h : Gr b S S1) (k : Gr c S1 S2) (hb : b ≤ c) : Gr b S S2 := ⟨Nat.le_trans h.len k.len, fun b' hb' w => k.wf b' (Nat.le_trans hb' hb) (h.wf b' hb' w)⟩
theorem Gr.less {b c : Nat} {S S1 : Sto} (h : Gr c S S1) (hb : b ≤ c) : Gr b S S1 := ⟨h.len, fun b' hb' => h.wf b' (Nat.le_trans hb' hb)⟩
/-- a frame: its floor in the store, its names -/
structure Fr where
  b : Nat
  v : Env
section
variable (K : PySem.W.Frag) (cl : Nat → Addr) (Wx : WX)
def Out {α β : Type} (Ra : Wd → Nat → α → β → Prop) (b : Nat) (W : Wd) (S : Sto) (σ : St) (r : Res α) (Q : β → Hp → Prop) : Prop := match r with
  | .ok a S' => ∀ W' H' v, Gr b S S' → Le S.length W W' → Rel K cl W' S' H' → Ra W' S'.length a v → Q v H'
  | .ex e S' => ∀ W' H' c d, Gr b S S' → Le S.length W W' → Rel K cl W' S' H' → RelX K cl W' e c d H' → Wx c d σ H'
  | .bad => False
abbrev RSV : Wd → Nat → SV → V → Prop := fun W n => RelSV K cl W n
abbrev RSVs : Wd → Nat → List SV → List V → Prop := fun W n => Paired (RelSV K cl W n)
abbrev RB : Wd → Nat → Bool → Bool → Prop := fun _ _ a b => b = a
variable {K cl Wx} {α β γ δ : Type} {Ra : Wd → Nat → α → β → Prop} {Rb : Wd → Nat → γ → δ → Prop} {W W1 : Wd} {b : Nat} {S S1 : Sto} {σ : St}
theorem Out.rebase {r : Res α} {Q : β → Hp → Prop} (h : Out K cl Wx Ra b W S σ r Q) (hn : Gr b S S1) (hl : Le S.length W W1) : Out K cl Wx Ra b W1 S1 σ r Q := by
  cases r with
  | ok a S' => exact fun W' H' v h1 h2 => h W' H' v (hn.trans h1 (Nat.le_refl _)) (hl.trans h2 hn.len)
  | ex e S' => exact fun W' H' c d h1 h2 => h W' H' c d (hn.trans h1 (Nat.le_refl _)) (hl.trans h2 hn.len)
  | bad => exact h
/-- behind the first part -/
def Mid (K : PySem.W.Frag) (cl : Nat → Addr) (Ra : Wd → Nat → α → β → Prop) (b : Nat) (W : Wd) (S : Sto) (P : Wd → Sto → α → Prop) (v : β) (H1 : Hp) : Prop :=
  ∃ W1 S1 a, Gr b S S1 ∧ Le S.length W W1 ∧ Rel K cl W1 S1 H1 ∧ Ra W1 S1.length a v ∧ P W1 S1 a
theorem Out.bind {r : Res α} {g : α → Sto → Res γ} {Q : δ → Hp → Prop} (h : Out K cl Wx Rb b W S σ (r.bind g) Q) :
    Out K cl Wx Ra b W S σ r (Mid K cl Ra b W S fun W1 S1 a => Out K cl Wx Rb b W1 S1 σ (g a S1) Q) := by
  cases r with
  | ok a S' => exact fun W' H' v h1 h2 h3 h4 => ⟨W', S', a, h1, h2, h3, h4, Out.rebase h h1 h2⟩
  | ex e S' => exact h
  | bad => exact h
theorem Out.mono {r : Res α} {Q Q' : β → Hp → Prop} (h : Out K cl Wx Ra b W S σ r Q) (hq : ∀ v H, Q v H → Q' v H) : Out K cl Wx Ra b W S σ r Q' := by
  cases r with
  | ok a S' => exact fun W' H' v h1 h2 h3 h4 => hq _ _ (h W' H' v h1 h2 h3 h4)
  | ex e S' => exact h
  | bad => exact h
end
/-- where the classes lie; what else is known of the world for as long as the judgement lasts -/
structure CL where
  f : Nat → Addr
  gh : Wd → Env → St → Prop
  mono : ∀ {n : Nat} {W W' : Wd} {v : Env} {σ : St}, Le n W W' → gh W v σ → gh W' v σ
  put : ∀ {W : Wd} {v : Env} {σ : St} (i : Nat) (x : SV) (y : V), gh W v σ → gh W (v.set i (some x)) (σ.set i (some y))
instance : CoeFun CL (fun _ => Nat → Addr) := ⟨CL.f⟩
instance : Coe CL (Nat → Addr) := ⟨CL.f⟩
abbrev CL.pure (f : Nat → Addr) : CL := ⟨f, fun _ _ _ => True, fun _ _ => trivial, fun _ _ _ _ => trivial⟩
/-- the state of a frame -/
structure At (K : PySem.W.Frag) (cl : CL) (W : Wd) (F : Fr) (S : Sto) (σ : St) (H : Hp) : Prop where
  b : F.b ≤ S.length
  rel : Rel K cl W S H
  env : EnvR K cl W S.length F.v σ
  gh : cl.gh W F.v σ
theorem At.on {K : PySem.W.Frag} {cl : CL} {W W1 : Wd} {F : Fr} {S S1 : Sto} {σ : St} {H H1 : Hp} (h : At K cl W F S σ H) (g : Gr F.b S S1) (l : Le S.length W W1) (r : Rel K cl W1 S1 H1) : At K cl W1 F S1 σ H1 :=
  ⟨Nat.le_trans h.b g.len, r, h.env.le l g.len, cl.mono l h.gh⟩

theorem PE.weak {X : Cx} {e : Expr} {t t' : TE} (h : PE X e t) (k : ∀ σ H Q, t' σ H Q → t σ H Q) : PE X e t' := ⟨fun pins s σ H Q I q => h.run pins s σ H Q I (k σ H Q q)⟩
theorem PT.weak {X : Cx} {e : Expr} {t t' : TT} (h : PT X e t) (k : ∀ σ H Q, t' σ H Q → t σ H Q) : PT X e t' := ⟨fun pins s σ H Q I q => h.run pins s σ H Q I (k σ H Q q)⟩
theorem PA.weak {X : Cx} {e : List Expr} {t t' : TA} (h : PA X e t) (k : ∀ σ H Q, t' σ H Q → t σ H Q) : PA X e t' := ⟨fun pos pins s σ H Q I q => h.run pos pins s σ H Q I (k σ H Q q)⟩
theorem PS.weak {X : Cx} {e : Stmt} {t t' : TS} (h : PS X e t) (k : ∀ D σ H, t' D σ H → t D σ H) : PS X e t' := ⟨fun pins s σ H D I q => h.run pins s σ H D I (k D σ H q)⟩
theorem PSs.weak {X : Cx} {e : List Stmt} {t t' : TS} (h : PSs X e t) (k : ∀ D σ H, t' D σ H → t D σ H) : PSs X e t' := ⟨fun pins s σ H D I q => h.run pins s σ H D I (k D σ H q)⟩
theorem OpR.weak {X : Cx} {f : Value → Value → Sem Value} {r r' : R2} (h : OpR X f r) (k : ∀ x y H Q, r' x y H Q → r x y H Q) : OpR X f r' := by
  intro pins s σ H x y v u Q I h1 h2 q
  exact h pins s σ H x y v u Q I h1 h2 (k _ _ _ _ q)
theorem CallR.weak {X : Cx} {f : Value} {r r' : List V → Hp → VK → Prop} (h : CallR X f r) (k : ∀ x H Q, r' x H Q → r x H Q) : CallR X f r' := by
  intro pins s σ H x us Q I h1 q
  exact h pins s σ H x us Q I h1 (k _ _ _ q)
end Ev

set_option Elab.async false
set_option linter.all false
set_option maxRecDepth 100000
/-! Ev2: freezing, new objects, the plainest expressions. -/
namespace Ev
open PySem L2

/-! ### freezing -/
def rdD (S : Sto) : SV → Option Dv
  | .d x => some x
  | .m i => match S[i]? with
    | some (.frz x) => some x
    | _ => none
def rdDs (S : Sto) : List SV → Option (List Dv)
  | [] => some []
  | x :: r => match rdD S x, rdDs S r with
    | some a, some b => some (a :: b)
    | _, _ => none
def frzO (S : Sto) (i : Nat) (x : List Dv → Dv) (xs : List SV) : Sto := match rdDs S xs with
  | some ds => S.set i (.frz (x ds))
  | none => S
def fz1 (S : Sto) (i : Nat) : Sto := match S[i]? with
  | some (.lst xs) => frzO S i .lst xs
  | some (.dic ks xs) => frzO S i (.dic ks) xs
  | some (.ins c fs xs) => frzO S i (.ins c fs) xs
  | some (.tup xs) => frzO S i .tup xs
  | _ => S
def fzD : Nat → Sto → SV → Sto
  | 0, S, _ => S
  | _ + 1, S, .d _ => S
  | k + 1, S, .m i => fz1 (match S[i]? with
    | some (.lst xs) => xs.foldl (fzD k) S
    | some (.dic _ xs) => xs.foldl (fzD k) S
    | some (.ins _ _ xs) => xs.foldl (fzD k) S
    | some (.tup xs) => xs.foldl (fzD k) S
    | _ => S) i
def freeze (S : Sto) (x : SV) : Option (Dv × Sto) := match rdD (fzD 6 S x) x with
  | some a => some (a, fzD 6 S x)
  | none => none
def frzs : Sto → List SV → Option (List Dv × Sto)
  | S, [] => some ([], S)
  | S, x :: r => match freeze S x with
    | some (a, S1) => match frzs S1 r with
      | some (as, S2) => some (a :: as, S2)
      | none => none
    | none => none
@[simp] theorem fzD_d (k : Nat) (S : Sto) (x : Dv) : fzD k S (.d x) = S := by cases k <;> rfl
@[simp] theorem rdD_d (S : Sto) (x : Dv) : rdD S (.d x) = some x := rfl
@[simp] theorem freeze_d (S : Sto) (x : Dv) : freeze S (.d x) = some (x, S) := rfl
@[simp] theorem rdDs_d (S : Sto) : ∀ xs : List Dv, rdDs S (xs.map .d) = some xs
  | [] => rfl
  | x :: r => by rw [List.map_cons, rdDs, rdDs_d S r]; rfl
@[simp] theorem frzs_d (S : Sto) : ∀ xs : List Dv, frzs S (xs.map .d) = some (xs, S)
  | [] => rfl
  | x :: r => by rw [List.map_cons, frzs, freeze_d]; simp only; rw [frzs_d S r]
theorem fold_d (k : Nat) (S : Sto) : ∀ xs : List Dv, (xs.map SV.d).foldl (fzD k) S = S
  | [] => rfl
  | x :: r => by rw [List.map_cons, List.foldl_cons, fzD_d, fold_d k S r]
theorem freeze_lst {S : Sto} {i : Nat} {xs : List Dv} (h : S[i]? = some (.lst (xs.map .d))) : freeze S (.m i) = some (.lst xs, S.set i (.frz (.lst xs))) := by
  have hi := (List.getElem?_eq_some_iff.mp h).1
  have e : fzD 6 S (.m i) = S.set i (.frz (.lst xs)) := by
    unfold fzD
    simp only [h, fold_d]
    unfold fz1
    simp only [h]
    unfold frzO
    rw [rdDs_d]
  unfold freeze
  rw [e]
  simp [rdD, hi]
theorem freeze_tup {S : Sto} {i : Nat} {xs : List Dv} (h : S[i]? = some (.tup (xs.map .d))) : freeze S (.m i) = some (.tup xs, S.set i (.frz (.tup xs))) := by
  have hi := (List.getElem?_eq_some_iff.mp h).1
  have e : fzD 6 S (.m i) = S.set i (.frz (.tup xs)) := by
    unfold fzD
    simp only [h, fold_d]
    unfold fz1
    simp only [h]
    unfold frzO
    rw [rdDs_d]
  unfold freeze
  rw [e]
  simp [rdD, hi]
theorem freeze_dic {S : Sto} {i : Nat} {ks : List Key} {xs : List Dv} (h : S[i]? = some (.dic ks (xs.map .d))) : freeze S (.m i) = some (.dic ks xs, S.set i (.frz (.dic ks xs))) := by
  have hi := (List.getElem?_eq_some_iff.mp h).1
  have e : fzD 6 S (.m i) = S.set i (.frz (.dic ks xs)) := by
    unfold fzD
    simp only [h, fold_d]
    unfold fz1
    simp only [h]
    unfold frzO
    rw [rdDs_d]
  unfold freeze
  rw [e]
  simp [rdD, hi]
theorem freeze_ins {S : Sto} {i c : Nat} {fs : List Str} {xs : List Dv} (h : S[i]? = some (.ins c fs (xs.map .d))) : freeze S (.m i) = some (.ins c fs xs, S.set i (.frz (.ins c fs xs))) := by
  have hi := (List.getElem?_eq_some_iff.mp h).1
  have e : fzD 6 S (.m i) = S.set i (.frz (.ins c fs xs)) := by
    unfold fzD
    simp only [h, fold_d]
    unfold fz1
    simp only [h]
    unfold frzO
    rw [rdDs_d]
  unfold freeze
  rw [e]
  simp [rdD, hi]
theorem freeze_frz {S : Sto} {i : Nat} {x : Dv} (h : S[i]? = some (.frz x)) : freeze S (.m i) = some (x, S) := by
  have e : fzD 6 S (.m i) = S := by
    unfold fzD
    simp only [h]
    unfold fz1
    simp only [h]
  unfold freeze
  rw [e]
  simp [rdD, h]

section
variable {K : PySem.W.Frag} {cl : Nat → Addr}
/-- a step of the store alone -/
structure GSt (K : PySem.W.Frag) (cl : Nat → Addr) (S S' : Sto) : Prop where
  len : S'.length = S.length
  wf : ∀ b, WFB b S → WFB b S'
  rel : ∀ W H, Rel K cl W S H → ∃ W', W'.ρ = W.ρ ∧ Le S.length W W' ∧ Rel K cl W' S' H
theorem GSt.refl (S : Sto) : GSt K cl S S := ⟨rfl, fun _ h => h, fun W H r => ⟨W, rfl, .refl _ _, r⟩⟩
theorem GSt.trans {S S1 S2 : Sto} (h : GSt K cl S S1) (k : GSt K cl S1 S2) : GSt K cl S S2 :=
  ⟨k.len.trans h.len, fun b w => k.wf b (h.wf b w), fun W H r => by
    obtain ⟨W1, e1, l1, r1⟩ := h.rel W H r
    obtain ⟨W2, e2, l2, r2⟩ := k.rel W1 H r1
    exact ⟨W2, e2.trans e1, l1.trans l2 (Nat.le_of_eq h.len.symm), r2⟩⟩
theorem rdD_rel {W : Wd} {S : Sto} {H : Hp} {n : Nat} (r : Rel K cl W S H) : ∀ {x : SV} {y : Dv} {v : V}, rdD S x = some y → RelSV K cl W n x v → RelD K cl W.G y v
  | .d x, y, v, e, q => by cases e; exact q
  | .m i, y, v, e, q => by
    simp only [rdD] at e
    split at e
    · rename_i hz
      cases e
      obtain ⟨_, rfl⟩ := q
      exact r.st i _ hz
    · cases e
theorem rdDs_rel {W : Wd} {S : Sto} {H : Hp} {n : Nat} (r : Rel K cl W S H) : ∀ {xs : List SV} {ys : List Dv} {vs : List V}, rdDs S xs = some ys → Paired (RelSV K cl W n) xs vs → RelDs K cl W.G ys vs
  | [], ys, [], e, .nil => by cases e; exact .nil
  | x :: xs, ys, v :: vs, e, .cons q t => by
    unfold rdDs at e
    split at e
    · rename_i a b h1 h2
      cases e
      exact .cons (rdD_rel r h1 q) (rdDs_rel r h2 t)
    · cases e
theorem rdDs_len {S : Sto} : ∀ {xs : List SV} {ys : List Dv}, rdDs S xs = some ys → xs.length = ys.length
  | [], ys, e => by cases e; rfl
  | x :: xs, ys, e => by
    unfold rdDs at e
    split at e
    · rename_i a b h1 h2
      cases e
      exact congrArg Nat.succ (rdDs_len h2)
    · cases e
/-- an entry is frozen -/
theorem frz_set {S : Sto} {i : Nat} {mo : MO} {x : Dv} (hi : S[i]? = some mo) (hm : isMut mo = true)
    (h : ∀ W H, Rel K cl W S H → ∃ ho, H (W.ρ i) = some ho ∧ W.G (W.ρ i) = none ∧ RelD K cl (upd W.G (W.ρ i) ho) x (.ref (W.ρ i))) : GSt K cl S (S.set i (.frz x)) := by
  have hl : i < S.length := (List.getElem?_eq_some_iff.mp hi).1
  refine ⟨by rw [List.length_set], fun b w j mj hj ej => ?_, fun W H r => ?_⟩
  · by_cases e : i = j
    · subst e
      rw [List.getElem?_set, if_pos rfl, if_pos hl] at ej
      cases ej
      trivial
    · rw [List.getElem?_set_ne e] at ej
      exact w j mj hj ej
  · obtain ⟨ho, h1, h2, h3⟩ := h W H r
    have le : Le S.length W ⟨W.ρ, upd W.G (W.ρ i) ho, W.L⟩ := ⟨fun a o e => ⟨o, by
      show upd _ _ _ _ = _
      rw [upd_ne (fun q => by rw [q, h2] at e; cases e)]
      exact e, .refl _⟩, fun _ _ => rfl, fun _ _ h => h⟩
    refine ⟨⟨W.ρ, upd W.G (W.ρ i) ho, W.L⟩, rfl, le, ⟨fun a o e => ?_, fun j mj ej => ?_, fun j k mj mk ej ek a1 a2 q => ?_, r.lk⟩⟩
    · have e : upd W.G (W.ρ i) ho a = some o := e
      by_cases ea : a = W.ρ i
      · subst ea
        rw [upd_same] at e
        cases e
        exact h1
      · rw [upd_ne ea] at e
        exact r.fz a o e
    · rw [List.length_set]
      by_cases e : i = j
      · subst e
        rw [List.getElem?_set, if_pos rfl, if_pos hl] at ej
        cases ej
        exact h3
      · rw [List.getElem?_set_ne e] at ej
        have q := r.st j mj ej
        have ne : isMut mj = true → W.ρ j ≠ W.ρ i := fun a z => e ((r.inj i j mo mj hi ej hm a z.symm))
        cases mj with
        | lst xs => obtain ⟨q1, vs, q2, q3⟩ := q; exact ⟨⟨by show upd _ _ _ _ = _; rw [upd_ne (ne rfl)]; exact q1.1, q1.2⟩, vs, q2, RelSVs.le le (Nat.le_refl _) q3⟩
        | dic ks xs => obtain ⟨q1, vs, q2, q4, q3⟩ := q; exact ⟨⟨by show upd _ _ _ _ = _; rw [upd_ne (ne rfl)]; exact q1.1, q1.2⟩, vs, q2, q4, RelSVs.le le (Nat.le_refl _) q3⟩
        | ins c fs xs => obtain ⟨q1, vs, dx, q2, q4, q3⟩ := q; exact ⟨⟨by show upd _ _ _ _ = _; rw [upd_ne (ne rfl)]; exact q1.1, q1.2⟩, vs, dx, q2, q4, RelSVs.le le (Nat.le_refl _) q3⟩
        | frz y => exact RelD.le le q
        | tup xs => obtain ⟨q1, vs, q2, q3⟩ := q; exact ⟨⟨by show upd _ _ _ _ = _; rw [upd_ne (ne rfl)]; exact q1.1, q1.2⟩, vs, q2, RelSVs.le le (Nat.le_refl _) q3⟩
        | lck ks xs => obtain ⟨q1, vs, od, q2, q4, q3⟩ := q; exact ⟨by show upd _ _ _ _ = _; rw [upd_ne (ne rfl)]; exact q1, vs, od, q2, q4, RelSVs.le le (Nat.le_refl _) q3⟩
    · have hj : i ≠ j := fun z => by
        subst z
        rw [List.getElem?_set, if_pos rfl, if_pos hl] at ej
        cases ej
        cases a1
      have hk : i ≠ k := fun z => by
        subst z
        rw [List.getElem?_set, if_pos rfl, if_pos hl] at ek
        cases ek
        cases a2
      rw [List.getElem?_set_ne hj] at ej
      rw [List.getElem?_set_ne hk] at ek
      exact r.inj j k mj mk ej ek a1 a2 q
theorem gpin {W : Wd} {a : Addr} {ho : HO} (h2 : W.G a = none) (n : Nat) : Le n W ⟨W.ρ, upd W.G a ho, W.L⟩ := ⟨fun b o e => ⟨o, by
      show upd _ _ _ _ = _
      rw [upd_ne (fun q => by rw [q, h2] at e; cases e)]
      exact e, .refl _⟩, fun _ _ => rfl, fun _ _ h => h⟩
theorem fz1_ok (S : Sto) (i : Nat) : GSt K cl S (fz1 S i) := by
  unfold fz1
  split
  · rename_i xs hx
    unfold frzO
    split
    · rename_i ds hd
      refine frz_set hx rfl fun W H r => ?_
      obtain ⟨q1, vs, q2, q3⟩ := r.st i _ hx
      exact ⟨_, q2, q1.1, .lst (.of upd_same) (RelDs.le (gpin q1.1 0) (rdDs_rel r hd q3))⟩
    · exact .refl _
  · rename_i ks xs hx
    unfold frzO
    split
    · rename_i ds hd
      refine frz_set hx rfl fun W H r => ?_
      obtain ⟨q1, vs, q2, q4, q3⟩ := r.st i _ hx
      exact ⟨_, q2, q1.1, .dic (upd_same) rfl (rdDs_len hd ▸ q4) (RelDs.le (gpin q1.1 0) (rdDs_rel r hd q3))⟩
    · exact .refl _
  · rename_i c fs xs hx
    unfold frzO
    split
    · rename_i ds hd
      refine frz_set hx rfl fun W H r => ?_
      obtain ⟨q1, vs, dx, q2, q4, q3⟩ := r.st i _ hx
      exact ⟨_, q2, q1.1, .ins (upd_same) (q4.trans (rdDs_len hd)) (RelDs.le (gpin q1.1 0) (rdDs_rel r hd q3))⟩
    · exact .refl _
  · rename_i xs hx
    unfold frzO
    split
    · rename_i ds hd
      refine frz_set hx rfl fun W H r => ?_
      obtain ⟨q1, vs, q2, q3⟩ := r.st i _ hx
      exact ⟨_, q2, q1.1, .tup (.of upd_same) (RelDs.le (gpin q1.1 0) (rdDs_rel r hd q3))⟩
    · exact .refl _
  · exact .refl _
theorem fold_ok {k : Nat} (h : ∀ S x, GSt K cl S (fzD k S x)) : ∀ (xs : List SV) (S : Sto), GSt K cl S (xs.foldl (fzD k) S)
  | [], S => .refl S
  | x :: r, S => (h S x).trans (fold_ok h r _)
theorem fzD_ok : ∀ (k : Nat) (S : Sto) (x : SV), GSt K cl S (fzD k S x)
  | 0, S, x => .refl S
  | k + 1, S, .d x => by rw [fzD_d]; exact .refl S
  | k + 1, S, .m i => by
    unfold fzD
    refine GSt.trans ?_ (fz1_ok _ i)
    split
    · exact fold_ok (fzD_ok k) _ _
    · exact fold_ok (fzD_ok k) _ _
    · exact fold_ok (fzD_ok k) _ _
    · exact fold_ok (fzD_ok k) _ _
    · exact .refl _
theorem freeze_ok {S S' : Sto} {x : SV} {y : Dv} (h : freeze S x = some (y, S')) : S'.length = S.length ∧ (∀ b, WFB b S → WFB b S') ∧
    ∀ W H v, Rel K cl W S H → RelSV K cl W S.length x v → ∃ W', W'.ρ = W.ρ ∧ Le S.length W W' ∧ Rel K cl W' S' H ∧ RelD K cl W'.G y v := by
  unfold freeze at h
  split at h
  · rename_i a ha
    cases h
    obtain ⟨h1, h2, h3⟩ := fzD_ok (K := K) (cl := cl) 6 S x
    refine ⟨h1, h2, fun W H v r q => ?_⟩
    obtain ⟨W', e, l, r'⟩ := h3 W H r
    exact ⟨W', e, l, r', rdD_rel r' ha (RelSV.le l (Nat.le_refl _) q)⟩
  · cases h
theorem frzs_ok : ∀ {xs : List SV} {S S' : Sto} {ys : List Dv}, frzs S xs = some (ys, S') → S'.length = S.length ∧ (∀ b, WFB b S → WFB b S') ∧
    ∀ W H vs, Rel K cl W S H → Paired (RelSV K cl W S.length) xs vs → ∃ W', W'.ρ = W.ρ ∧ Le S.length W W' ∧ Rel K cl W' S' H ∧ RelDs K cl W'.G ys vs
  | [], S, S', ys, h => by
    cases h
    refine ⟨rfl, fun _ w => w, fun W H vs r q => ?_⟩
    cases q
    exact ⟨W, rfl, .refl _ _, r, .nil⟩
  | x :: xs, S, S', ys, h => by
    unfold frzs at h
    split at h
    · rename_i a S1 h1
      split at h
      · rename_i as S2 h2
        cases h
        obtain ⟨l1, w1, k1⟩ := freeze_ok (K := K) (cl := cl) h1
        obtain ⟨l2, w2, k2⟩ := frzs_ok h2
        refine ⟨l2.trans l1, fun b w => w2 b (w1 b w), fun W H vs r q => ?_⟩
        cases q with
        | cons q t =>
          obtain ⟨W1, e1, le1, r1, q1⟩ := k1 W H _ r q
          obtain ⟨W2, e2, le2, r2, q2⟩ := k2 W1 H _ r1 (RelSVs.le le1 (Nat.le_of_eq l1.symm) t)
          exact ⟨W2, e2.trans e1, le1.trans le2 (Nat.le_of_eq l1.symm), r2, .cons (RelD.le le2 q1) q2⟩
      · cases h
    · cases h

/-! ### new objects -/
theorem Rel.gnone {W : Wd} {S : Sto} {H : Hp} (r : Rel K cl W S H) {p : Addr} (h : H p = none) : W.G p = none := by
  cases e : W.G p with
  | none => rfl
  | some o => rw [r.fz p o e] at h; cases h
theorem Rel.unone {W : Wd} {S : Sto} {H : Hp} (r : Rel K cl W S H) {p : Addr} (h : H p = none) : W.un p := ⟨r.gnone h, by
  cases e : W.L p with
  | none => rfl
  | some o => rw [(r.lk p o e).1] at h; cases h⟩
theorem Rel.there {W : Wd} {S : Sto} {H : Hp} (r : Rel K cl W S H) {i : Nat} {mo : MO} (e : S[i]? = some mo) (hm : isMut mo = true) : ∃ o, H (W.ρ i) = some o := by
  have q := r.st i mo e
  cases mo with
  | lst xs => obtain ⟨_, _, q, _⟩ := q; exact ⟨_, q⟩
  | dic ks xs => obtain ⟨_, _, q, _⟩ := q; exact ⟨_, q⟩
  | ins c fs xs => obtain ⟨_, _, _, q, _⟩ := q; exact ⟨_, q⟩
  | frz x => cases hm
  | tup xs => obtain ⟨_, _, q, _⟩ := q; exact ⟨_, q⟩
  | lck ks xs => obtain ⟨_, _, _, q, _⟩ := q; exact ⟨_, q.1⟩
/-- what is changed or new in the heap touches nothing that is told -/
theorem RelMO.keep {W W' : Wd} {n k : Nat} {H H' : Hp} {a : Addr} {mo : MO} (q : RelMO K cl W n H a mo) (l : Le n W W') (hk : n ≤ k) (hL : W'.L = W.L) (hg : isMut mo = true → W.G a = none → W'.G a = none) (hh : isMut mo = true → H' a = H a) : RelMO K cl W' k H' a mo := by
  cases mo with
  | lst xs => obtain ⟨q1, vs, q2, q3⟩ := q; exact ⟨⟨hg rfl q1.1, by rw [hL]; exact q1.2⟩, vs, by rw [hh rfl]; exact q2, RelSVs.le l hk q3⟩
  | dic ks xs => obtain ⟨q1, vs, q2, q4, q3⟩ := q; exact ⟨⟨hg rfl q1.1, by rw [hL]; exact q1.2⟩, vs, by rw [hh rfl]; exact q2, q4, RelSVs.le l hk q3⟩
  | ins c fs xs => obtain ⟨q1, vs, dx, q2, q4, q3⟩ := q; exact ⟨⟨hg rfl q1.1, by rw [hL]; exact q1.2⟩, vs, dx, by rw [hh rfl]; exact q2, q4, RelSVs.le l hk q3⟩
  | frz x => exact RelD.le l q
  | tup xs => obtain ⟨q1, vs, q2, q3⟩ := q; exact ⟨⟨hg rfl q1.1, by rw [hL]; exact q1.2⟩, vs, by rw [hh rfl]; exact q2, RelSVs.le l hk q3⟩
  | lck ks xs => obtain ⟨q1, vs, od, q2, q4, q3⟩ := q; exact ⟨hg rfl q1, vs, od, ⟨by rw [hh rfl]; exact q2.1, by rw [hL]; exact q2.2⟩, q4, RelSVs.le l hk q3⟩
/-- a new thing that nobody will change -/
theorem Rel.newF {W : Wd} {S : Sto} {H : Hp} (r : Rel K cl W S H) {p : Addr} {ho : HO} (h : H p = none) : Rel K cl ⟨W.ρ, upd W.G p ho, W.L⟩ S (upd H p ho) ∧ Le S.length W ⟨W.ρ, upd W.G p ho, W.L⟩ := by
  have l : Le S.length W ⟨W.ρ, upd W.G p ho, W.L⟩ := gpin (r.gnone h) _
  refine ⟨⟨fun a o e => ?_, fun i mo e => ?_, r.inj, fun a o e => by rw [upd_ne (ne_of_none (r.lk a o e).1 h)]; exact r.lk a o e⟩, l⟩
  · have e : upd W.G p ho a = some o := e
    by_cases ea : a = p
    · subst ea
      rw [upd_same] at e ⊢
      exact e
    · rw [upd_ne ea] at e ⊢
      exact r.fz a o e
  · refine (r.st i mo e).keep l (Nat.le_refl _) rfl (fun hm g => ?_) fun hm => ?_
    · obtain ⟨o, ho'⟩ := r.there e hm
      show upd _ _ _ _ = _
      rw [upd_ne (ne_of_none ho' h)]
      exact g
    · obtain ⟨o, ho'⟩ := r.there e hm
      rw [upd_ne (ne_of_none ho' h)]
/-- a new thing of the store -/
def Wd.add (W : Wd) (n : Nat) (p : Addr) : Wd := ⟨fun i => if i = n then p else W.ρ i, W.G, W.L⟩
theorem Wd.add_at (W : Wd) (n : Nat) (p : Addr) : (W.add n p).ρ n = p := if_pos rfl
theorem Wd.add_le (W : Wd) (n : Nat) (p : Addr) : Le n W (W.add n p) := ⟨fun a o e => ⟨o, e, .refl _⟩, fun i hi => if_neg (Nat.ne_of_lt hi), fun _ _ h => h⟩
theorem Rel.newM {W : Wd} {S : Sto} {H : Hp} (r : Rel K cl W S H) {p : Addr} {ho : HO} {mo : MO} (h : H p = none) (hn : RelMO K cl (W.add S.length p) (S.length + 1) (upd H p ho) p mo) :
    Rel K cl (W.add S.length p) (S ++ [mo]) (upd H p ho) := by
  refine ⟨fun a o e => ?_, fun i mi e => ?_, fun i j mi mj ei ej ai aj q => ?_, fun a o e => by rw [upd_ne (ne_of_none (r.lk a o e).1 h)]; exact r.lk a o e⟩
  · rw [upd_ne (ne_of_none (r.fz a o e) h)]
    exact r.fz a o e
  · rw [List.length_append, List.length_singleton]
    by_cases hi : i < S.length
    · rw [List.getElem?_append_left hi] at e
      rw [show (W.add S.length p).ρ i = W.ρ i from if_neg (Nat.ne_of_lt hi)]
      refine (r.st i mi e).keep (W.add_le _ _) (Nat.le_succ _) rfl (fun _ g => g) fun hm => ?_
      obtain ⟨o, ho'⟩ := r.there e hm
      rw [upd_ne (ne_of_none ho' h)]
    · rw [List.getElem?_append_right (Nat.le_of_not_lt hi)] at e
      have z : i - S.length = 0 := by
        cases q : i - S.length with
        | zero => rfl
        | succ k => rw [q] at e; cases e
      have ei : i = S.length := by omega
      subst ei
      rw [z] at e
      cases e
      rw [Wd.add_at]
      exact hn
  · have one : ∀ i mi, (S ++ [mo])[i]? = some mi → i < S.length ∧ S[i]? = some mi ∨ i = S.length := fun i mi e => by
      by_cases hi : i < S.length
      · rw [List.getElem?_append_left hi] at e
        exact .inl ⟨hi, e⟩
      · have := (List.getElem?_eq_some_iff.mp e).1
        rw [List.length_append, List.length_singleton] at this
        exact .inr (by omega)
    rcases one i mi ei with ⟨h1, h2⟩ | rfl <;> rcases one j mj ej with ⟨k1, k2⟩ | rfl
    · rw [show (W.add S.length p).ρ i = W.ρ i from if_neg (Nat.ne_of_lt h1), show (W.add S.length p).ρ j = W.ρ j from if_neg (Nat.ne_of_lt k1)] at q
      exact r.inj i j mi mj h2 k2 ai aj q
    · rw [show (W.add S.length p).ρ i = W.ρ i from if_neg (Nat.ne_of_lt h1), Wd.add_at] at q
      obtain ⟨o, e⟩ := r.there h2 ai
      rw [q, h] at e; cases e
    · rw [show (W.add S.length p).ρ j = W.ρ j from if_neg (Nat.ne_of_lt k1), Wd.add_at] at q
      obtain ⟨o, e⟩ := r.there k2 aj
      rw [← q, h] at e; cases e
    · rfl
theorem Gr.add (b : Nat) (S : Sto) (mo : MO) (hb : b ≤ S.length) : Gr b S (S ++ [mo]) := ⟨by rw [List.length_append]; omega, fun b' hb' w i mi hi e => by
  rw [List.getElem?_append_left (by omega)] at e
  exact w i mi hi e⟩
end

/-! ### the judgements' readings -/
section
variable (X : Cx) (cl : CL) (Wx : WX)
def RE (f : Fr → Sto → Res SV) : TE := fun σ H Q => ∃ W F S, At X.K cl W F S σ H ∧ Out X.K cl Wx (RSV X.K cl) F.b W S σ (f F S) Q
def RT (f : Fr → Sto → Res Bool) : TT := fun σ H Q => ∃ W F S, At X.K cl W F S σ H ∧ Out X.K cl Wx RB F.b W S σ (f F S) Q
def RA (f : Fr → Sto → Res (List SV)) : TA := fun σ H Q => ∃ W F S, At X.K cl W F S σ H ∧ Out X.K cl Wx (RSVs X.K cl) F.b W S σ (f F S) Q
end
section
variable {X : Cx} {cl : CL} {Wx : WX} {σ : St} {H : Hp} {W : Wd} {F : Fr} {S : Sto}
theorem Out.here {K : PySem.W.Frag} {α β : Type} {Ra : Wd → Nat → α → β → Prop} {b : Nat} {a : α} {Q : β → Hp → Prop} {v : β} (h : Out K cl Wx Ra b W S σ (.ok a S) Q) (r : Rel K cl W S H) (q : Ra W S.length a v) : Q v H :=
  h W H v (.refl _ _) (.refl _ _) r q
/-- the part that stands first -/
theorem RE.of {f : Fr → Sto → Res SV} {g : SV → Sto → Res SV} {Q Q' : VK} (a : At X.K cl W F S σ H) (h : Out X.K cl Wx (RSV X.K cl) F.b W S σ ((f F S).bind g) Q)
    (k : ∀ W1 S1 x v H1, Gr F.b S S1 → Le S.length W W1 → At X.K cl W1 F S1 σ H1 → RelSV X.K cl W1 S1.length x v → Out X.K cl Wx (RSV X.K cl) F.b W1 S1 σ (g x S1) Q → Q' v H1) : RE X cl Wx f σ H Q' :=
  ⟨W, F, S, a, (Out.bind h).mono fun v H1 ⟨W1, S1, x, g1, l1, r1, q1, o1⟩ => k W1 S1 x v H1 g1 l1 (a.on g1 l1 r1) q1 o1⟩
theorem RT.of {f : Fr → Sto → Res Bool} {α β : Type} {Ra : Wd → Nat → α → β → Prop} {g : Bool → Sto → Res α} {Q : β → Hp → Prop} {Q' : Bool → Hp → Prop} (a : At X.K cl W F S σ H) (h : Out X.K cl Wx Ra F.b W S σ ((f F S).bind g) Q)
    (k : ∀ W1 S1 x H1, Gr F.b S S1 → Le S.length W W1 → At X.K cl W1 F S1 σ H1 → Out X.K cl Wx Ra F.b W1 S1 σ (g x S1) Q → Q' x H1) : RT X cl Wx f σ H Q' :=
  ⟨W, F, S, a, (Out.bind (Ra := RB) h).mono fun v H1 ⟨W1, S1, x, g1, l1, r1, q1, o1⟩ => by
    obtain rfl : v = x := q1
    exact k W1 S1 v H1 g1 l1 (a.on g1 l1 r1) o1⟩
theorem RE.ofT {f : Fr → Sto → Res SV} {g : SV → Sto → Res Bool} {Q : Bool → Hp → Prop} {Q' : VK} (a : At X.K cl W F S σ H) (h : Out X.K cl Wx RB F.b W S σ ((f F S).bind g) Q)
    (k : ∀ W1 S1 x v H1, Gr F.b S S1 → Le S.length W W1 → At X.K cl W1 F S1 σ H1 → RelSV X.K cl W1 S1.length x v → Out X.K cl Wx RB F.b W1 S1 σ (g x S1) Q → Q' v H1) : RE X cl Wx f σ H Q' :=
  ⟨W, F, S, a, (Out.bind h).mono fun v H1 ⟨W1, S1, x, g1, l1, r1, q1, o1⟩ => k W1 S1 x v H1 g1 l1 (a.on g1 l1 r1) q1 o1⟩
theorem RA.of {f : Fr → Sto → Res (List SV)} {g : List SV → Sto → Res SV} {Q : VK} {Q' : List V → Hp → Prop} (a : At X.K cl W F S σ H) (h : Out X.K cl Wx (RSV X.K cl) F.b W S σ ((f F S).bind g) Q)
    (k : ∀ W1 S1 x v H1, Gr F.b S S1 → Le S.length W W1 → At X.K cl W1 F S1 σ H1 → Paired (RelSV X.K cl W1 S1.length) x v → Out X.K cl Wx (RSV X.K cl) F.b W1 S1 σ (g x S1) Q → Q' v H1) : RA X cl Wx f σ H Q' :=
  ⟨W, F, S, a, (Out.bind h).mono fun v H1 ⟨W1, S1, x, g1, l1, r1, q1, o1⟩ => k W1 S1 x v H1 g1 l1 (a.on g1 l1 r1) q1 o1⟩

def eVar (i : Nat) : Fr → Sto → Res SV := fun F S => match F.v[i]? with
  | some (some x) => .ok x S
  | _ => .bad
def eC (x : Dv) : Fr → Sto → Res SV := fun _ S => .ok (.d x) S
theorem ev_var (i : Nat) {x : Str} {pos : Pos} (hN : X.N[i]? = some x := by rfl) (hv : Vis X.env.scope x := by first | exact Or.inl rfl | exact Or.inr (Or.inl rfl) | exact Or.inr (Or.inr rfl))
    (hd : (x == ("__debug__" : Str)) = false := by decide +kernel) (hcd : (x == ("__classdict__" : Str)) = false := by decide +kernel) : PE X (.Name x pos) (RE X cl Wx (eVar i)) :=
  PE.weak (pe_var hN hv hd hcd) fun σ H Q ⟨W, F, S, a, o⟩ => by
    unfold eVar at o
    split at o
    · rename_i sv e
      obtain ⟨v, e1, r1⟩ := a.env.get i sv e
      exact ⟨v, e1, o.here a.rel r1⟩
    · exact o.elim
theorem ev_int {i j pos} : PE X (.Constant (.int i) j pos) (RE X cl Wx (eC (.int i))) := PE.weak pe_int fun σ H Q ⟨W, F, S, a, o⟩ => o.here a.rel (RelD.int i)
theorem ev_bl {i j pos} : PE X (.Constant (.bool i) j pos) (RE X cl Wx (eC (.bl i))) := PE.weak pe_bl fun σ H Q ⟨W, F, S, a, o⟩ => o.here a.rel (RelD.bl i)
theorem ev_str {i j pos} (h : PyData.strOk i = true := by decide +kernel) : PE X (.Constant (.str i) j pos) (RE X cl Wx (eC (.str i))) := PE.weak pe_str fun σ H Q ⟨W, F, S, a, o⟩ => o.here a.rel (RelD.str i h)
theorem ev_non {j pos} : PE X (.Constant .none j pos) (RE X cl Wx (eC .non)) := PE.weak pe_non fun σ H Q ⟨W, F, S, a, o⟩ => o.here a.rel RelD.non

/-! arguments -/
def aNil : Fr → Sto → Res (List SV) := fun _ S => .ok [] S
def aCons (f : Fr → Sto → Res SV) (g : Fr → Sto → Res (List SV)) : Fr → Sto → Res (List SV) := fun F S => (f F S).bind fun x S1 => (g F S1).bind fun xs S2 => .ok (x :: xs) S2
theorem av_nil : PA X [] (RA X cl Wx aNil) := PA.weak pa_nil fun σ H Q ⟨W, F, S, a, o⟩ => Out.here (Ra := RSVs X.K cl) (v := []) o a.rel .nil
theorem av_cons {e : Expr} {es : List Expr} {f : Fr → Sto → Res SV} {g : Fr → Sto → Res (List SV)} (h : PE X e (RE X cl Wx f)) (k : PA X es (RA X cl Wx g))
    (hs : starEach (e :: es) X.env = (false, eval e X.env) :: starEach es X.env := by rfl) : PA X (e :: es) (RA X cl Wx (aCons f g)) :=
  PA.weak (pa_cons h k hs) fun σ H Q ⟨W, F, S, a, o⟩ => by
    refine ⟨W, F, S, a, (Out.bind o).mono fun v H1 ⟨W1, S1, x, g1, l1, r1, q1, o1⟩ => ?_⟩
    refine ⟨W1, F, S1, a.on g1 l1 r1, (Out.bind o1).mono fun vs H2 ⟨W2, S2, xs, g2, l2, r2, q2, o2⟩ => ?_⟩
    exact Out.here (Ra := RSVs X.K cl) (v := v :: vs) o2 r2 (.cons (RelSV.le l2 g2.len q1) q2)

/-! tuples and lists that are written -/
def most : Nat := 16777216
theorem most_eq : most = sizeLine := rfl
def eSeq (mk : List Dv → Dv) (f : Fr → Sto → Res (List SV)) : Fr → Sto → Res SV := fun F S => (f F S).bind fun xs S1 => match frzs S1 xs with
  | some (ds, S2) => if ds.length ≤ most then .ok (.d (mk ds)) S2 else .bad
  | none => .bad
abbrev eTup := eSeq .tup
abbrev eLst := eSeq .lst
/-- a list that will change -/
def eLstM (f : Fr → Sto → Res (List SV)) : Fr → Sto → Res SV := fun F S => (f F S).bind fun xs S1 =>
  if xs.length ≤ most then .ok (.m S1.length) (S1 ++ [.lst xs]) else .bad
theorem ev_tup {es : List Expr} {k : Nat} {pos : Pos} {f : Fr → Sto → Res (List SV)} (h : PA X es (RA X cl Wx f)) : PE X (.Tuple es k pos) (RE X cl Wx (eTup f)) :=
  PE.weak (pe_tup h) fun σ H Q ⟨W, F, S, a, o⟩ => RA.of a o fun W1 S1 xs vs H1 g1 l1 a1 q1 o1 => by
    split at o1
    · rename_i ds S2 hf
      split at o1
      · rename_i hm
        obtain ⟨n2, w2, k2⟩ := frzs_ok (K := X.K) (cl := cl) hf
        obtain ⟨W2, e2, l2, r2, q2⟩ := k2 W1 H1 vs a1.rel q1
        refine ⟨by rw [← q2.length, ← most_eq]; exact hm, fun p hp => ?_⟩
        obtain ⟨r3, l3⟩ := r2.newF (ho := .tup vs) hp
        exact o1 _ _ _ ⟨Nat.le_of_eq n2.symm, fun b _ => w2 b⟩ (l2.trans l3 (Nat.le_of_eq n2.symm)) r3 (RelD.tup (.of upd_same) (RelDs.le l3 q2))
      · exact o1.elim
    · exact o1.elim
theorem ev_lst {es : List Expr} {pos : Pos} {f : Fr → Sto → Res (List SV)} (h : PA X es (RA X cl Wx f)) : PE X (.List es pos) (RE X cl Wx (eLst f)) :=
  PE.weak (pe_lst h) fun σ H Q ⟨W, F, S, a, o⟩ => RA.of a o fun W1 S1 xs vs H1 g1 l1 a1 q1 o1 => by
    split at o1
    · rename_i ds S2 hf
      split at o1
      · rename_i hm
        obtain ⟨n2, w2, k2⟩ := frzs_ok (K := X.K) (cl := cl) hf
        obtain ⟨W2, e2, l2, r2, q2⟩ := k2 W1 H1 vs a1.rel q1
        refine ⟨by rw [← q2.length, ← most_eq]; exact hm, fun p hp => ?_⟩
        obtain ⟨r3, l3⟩ := r2.newF (ho := .lst vs) hp
        exact o1 _ _ _ ⟨Nat.le_of_eq n2.symm, fun b _ => w2 b⟩ (l2.trans l3 (Nat.le_of_eq n2.symm)) r3 (RelD.lst (.of upd_same) (RelDs.le l3 q2))
      · exact o1.elim
    · exact o1.elim
theorem ev_lstM {es : List Expr} {pos : Pos} {f : Fr → Sto → Res (List SV)} (h : PA X es (RA X cl Wx f)) : PE X (.List es pos) (RE X cl Wx (eLstM f)) :=
  PE.weak (pe_lst h) fun σ H Q ⟨W, F, S, a, o⟩ => RA.of a o fun W1 S1 xs vs H1 g1 l1 a1 q1 o1 => by
    split at o1
    · rename_i hm
      refine ⟨by rw [← PySem.Paired.length q1, ← most_eq]; exact hm, fun p hp => ?_⟩
      have r3 := a1.rel.newM (mo := .lst xs) (ho := .lst vs) hp ⟨a1.rel.unone hp, vs, upd_same, RelSVs.le (W1.add_le _ _) (Nat.le_succ _) q1⟩
      exact o1 _ _ _ (.add _ _ _ a1.b) (W1.add_le _ _) r3 ⟨by rw [List.length_append]; exact Nat.lt_succ_self _, by rw [Wd.add_at]⟩
    · exact o1.elim
end
end Ev

set_option Elab.async false
set_option linter.all false
set_option maxRecDepth 100000
/-! Ev3: operators, comparisons, tests. -/
namespace Ev
open PySem L2

mutual
def Dv.pd : Dv → PyData
  | .non => .none | .bl b => .bool b | .int i => .int i | .str s => .str s
  | .tup xs => .tuple (Dv.pds xs) | .lst xs => .list (Dv.pds xs)
  | .dic _ _ => .dict [] | .ins _ _ _ => .dict []
def Dv.pds : List Dv → List PyData
  | [] => []
  | x :: r => Dv.pd x :: Dv.pds r
end
mutual
def Dv.flat : Dv → Bool
  | .tup xs => Dv.flats xs | .lst xs => Dv.flats xs
  | .dic _ _ => false | .ins _ _ _ => false
  | _ => true
def Dv.flats : List Dv → Bool
  | [] => true
  | x :: r => Dv.flat x && Dv.flats r
end
section
variable {K : PySem.W.Frag} {cl : Nat → Addr} {G H : Hp}
theorem RelD.dp (up : ∀ a o, G a = some o → H a = some o) {x : Dv} {v : V} (r : RelD K cl G x v) : x.flat = true → Dp K H v x.pd ∧ x.pd.canLay0 = true := by
  refine RelD.rec (motive_1 := fun x v _ => x.flat = true → Dp K H v x.pd ∧ x.pd.canLay0 = true) (motive_2 := fun xs vs _ => Dv.flats xs = true → DpAll K H vs (Dv.pds xs) ∧ PyData.canLayAll0 (Dv.pds xs) = true)
    (fun _ => ⟨.non, rfl⟩) (fun b _ => ⟨.bl b, rfl⟩) (fun i _ => ⟨.int i, rfl⟩) (fun s h _ => ⟨.str s, h⟩) ?_ ?_ ?_ ?_ (fun _ => ⟨.nil, rfl⟩) ?_ r
  · intro a xs vs h _ ih f
    obtain ⟨h1, h2⟩ := ih f
    exact ⟨.tup (SqT.up up h) h1, h2⟩
  · intro a xs vs h _ ih f
    obtain ⟨h1, h2⟩ := ih f
    exact ⟨.lst (SqL.up up h) h1, h2⟩
  · intro a o ks xs vs _ _ _ _ _ f; cases f
  · intro a dx c fs xs vs _ _ _ _ f; cases f
  · intro x v xs vs _ _ i1 i2 f
    obtain ⟨f1, f2⟩ := Bool.and_eq_true_iff.mp (show (Dv.flat x && Dv.flats xs) = true from f)
    obtain ⟨a1, a2⟩ := i1 f1
    obtain ⟨b1, b2⟩ := i2 f2
    exact ⟨.cons a1 b1, by show (_ && _) = true; rw [a2, b2]; rfl⟩
end

theorem RelDs.dp {K : PySem.W.Frag} {cl : Nat → Addr} {G H : Hp} (up : ∀ a o, G a = some o → H a = some o) : ∀ {xs : List Dv} {vs : List V}, RelDs K cl G xs vs → Dv.flats xs = true → DpAll K H vs (Dv.pds xs) ∧ PyData.canLayAll0 (Dv.pds xs) = true
  | _, _, .nil, _ => ⟨.nil, rfl⟩
  | _, _, .cons (x := x) (xs := xs) h t, f => by
    obtain ⟨f1, f2⟩ := Bool.and_eq_true_iff.mp (show (Dv.flat x && Dv.flats xs) = true from f)
    obtain ⟨a1, a2⟩ := RelD.dp up h f1
    obtain ⟨b1, b2⟩ := RelDs.dp up t f2
    exact ⟨.cons a1 b1, by show (_ && _) = true; rw [a2, b2]; rfl⟩
/-- what a thing shows when it is read -/
def view (S : Sto) : SV → Option Dv
  | .d x => some x
  | .m i => match S[i]? with
    | some (.lst xs) => (rdDs S xs).map .lst
    | some (.dic ks xs) => (rdDs S xs).map (.dic ks)
    | some (.ins c fs xs) => (rdDs S xs).map (.ins c fs)
    | some (.frz x) => some x
    | some (.tup _) => none
    | some (.lck ks xs) => (rdDs S xs).map (.dic ks)
    | none => none
@[simp] theorem view_d (S : Sto) (x : Dv) : view S (.d x) = some x := rfl
section
variable {K : PySem.W.Frag} {cl : Nat → Addr} {W : Wd} {S : Sto} {H : Hp}
/-- a list that is read -/
theorem view_lst (r : Rel K cl W S H) {x : SV} {ds : List Dv} {v : V} {n : Nat} (e : view S x = some (.lst ds)) (q : RelSV K cl W n x v) : ∃ a vs, v = .ref a ∧ SqL K H a vs ∧ RelDs K cl W.G ds vs := by
  cases x with
  | d y =>
    cases e
    cases q with
    | lst h t => exact ⟨_, _, rfl, SqL.up r.fz h, t⟩
  | m i =>
    obtain ⟨_, rfl⟩ := q
    simp only [view] at e
    split at e
    · rename_i xs hx
      obtain ⟨g, vs, h1, h2⟩ := r.st i _ hx
      cases z : rdDs S xs with
      | none => rw [z] at e; cases e
      | some ys =>
        rw [z] at e
        cases e
        exact ⟨_, vs, rfl, .of h1, rdDs_rel r z h2⟩
    · rename_i ks xs hx
      cases z : rdDs S xs with
      | none => rw [z] at e; cases e
      | some ys => rw [z] at e; cases e
    · rename_i c fs xs hx
      cases z : rdDs S xs with
      | none => rw [z] at e; cases e
      | some ys => rw [z] at e; cases e
    · rename_i y hy
      cases e
      have := r.st i _ hy
      cases this with
      | lst h t => exact ⟨_, _, rfl, SqL.up r.fz h, t⟩
    · cases e
    · rename_i ks xs hx
      cases z : rdDs S xs with
      | none => rw [z] at e; cases e
      | some ys => rw [z] at e; cases e
    · cases e
theorem view_dp (r : Rel K cl W S H) {x : SV} {y : Dv} {v : V} {n : Nat} (e : view S x = some y) (q : RelSV K cl W n x v) (f : y.flat = true) : Dp K H v y.pd ∧ y.pd.canLay0 = true := by
  cases x with
  | d z => cases e; exact RelD.dp r.fz q f
  | m i =>
    have k := e
    simp only [view] at k
    split at k
    · rename_i xs hx
      cases z : rdDs S xs with
      | none => rw [z] at k; cases k
      | some ys =>
        rw [z] at k
        cases k
        obtain ⟨a, vs, rfl, h, t⟩ := view_lst r e q
        obtain ⟨h1, h2⟩ := RelDs.dp r.fz t f
        exact ⟨.lst h h1, h2⟩
    · rename_i ks xs hx
      cases z : rdDs S xs with
      | none => rw [z] at k; cases k
      | some ys => rw [z] at k; cases k; cases f
    · rename_i c fs xs hx
      cases z : rdDs S xs with
      | none => rw [z] at k; cases k
      | some ys => rw [z] at k; cases k; cases f
    · rename_i y' hy
      cases k
      obtain ⟨_, rfl⟩ := q
      exact RelD.dp r.fz (r.st i _ hy) f
    · cases k
    · rename_i ks xs hx
      cases z : rdDs S xs with
      | none => rw [z] at k; cases k
      | some ys => rw [z] at k; cases k; cases f
    · cases k
end

/-! ### operators -/
section
variable (X : Cx) (cl : CL)
/-- a pure operation's reading: by values -/
def ROp (g : Sto → SV → SV → Option Dv) : R2 := fun x y H Q => ∃ W S a b z, Rel X.K cl W S H ∧ RelSV X.K cl W S.length a x ∧ RelSV X.K cl W S.length b y ∧ g S a b = some z ∧
  ∀ W' H' v, Le S.length W W' → Rel X.K cl W' S H' → RelD X.K cl W'.G z v → Q v H'
end
def eOp (g : Sto → SV → SV → Option Dv) (f h : Fr → Sto → Res SV) : Fr → Sto → Res SV := fun F S => (f F S).bind fun x S1 => (h F S1).bind fun y S2 => match g S2 x y with
  | some z => .ok (.d z) S2
  | none => .bad
section
variable {X : Cx} {cl : CL} {Wx : WX} {e1 e2 : Expr} {f g h : Fr → Sto → Res SV} {pos : Pos}
theorem eOp_use {o : Sto → SV → SV → Option Dv} {σ : St} {H : Hp} {Q : VK} (q : RE X cl Wx (eOp o f h) σ H Q) : tOp (ROp X cl o) (RE X cl Wx f) (RE X cl Wx h) σ H Q := by
  obtain ⟨W, F, S, a, q⟩ := q
  refine RE.of a q fun W1 S1 x v H1 g1 l1 a1 q1 o1 => ?_
  refine RE.of a1 o1 fun W2 S2 y u H2 g2 l2 a2 q2 o2 => ?_
  cases z : o S2 x y with
  | none => simp only [z] at o2; exact o2.elim
  | some w =>
    simp only [z] at o2
    exact ⟨W2, S2, x, y, w, a2.rel, RelSV.le l2 g2.len q1, q2, z, fun W' H' v l r q => o2 W' H' v (.refl _ _) l r q⟩
theorem ev_bin {op : Operator} {o : Sto → SV → SV → Option Dv} (ho : OpR X (binaryOp op) (ROp X cl o)) (ha : PE X e1 (RE X cl Wx f)) (hb : PE X e2 (RE X cl Wx h)) : PE X (.BinOp e1 op e2 pos) (RE X cl Wx (eOp o f h)) :=
  PE.weak (pe_op ho ha hb) fun _ _ _ q => eOp_use q
theorem ev_cmp {op : CmpOp} {o : Sto → SV → SV → Option Dv} (ho : OpR X (compareOp op) (ROp X cl o)) (ha : PE X e1 (RE X cl Wx f)) (hb : PE X e2 (RE X cl Wx h)) (hm : behindInMarks op e2 = false := by rfl) : PE X (.Compare e1 [op] [e2] pos) (RE X cl Wx (eOp o f h)) :=
  PE.weak (pe_cmpR ho ha hb hm) fun _ _ _ q => eOp_use q
/-- a value that is a bool, as a test -/
def tV (f : Fr → Sto → Res SV) : Fr → Sto → Res Bool := fun F S => (f F S).bind fun x S1 => match x with
  | .d (.bl b) => .ok b S1
  | _ => .bad
theorem tV_use {σ : St} {H : Hp} {Q : Bool → Hp → Prop} (q : RT X cl Wx (tV f) σ H Q) : RE X cl Wx f σ H (fun x H1 => ∃ k, x = .bl k ∧ Q k H1) := by
  obtain ⟨W, F, S, a, q⟩ := q
  refine RE.ofT a q fun W1 S1 x v H1 g1 l1 a1 q1 o1 => ?_
  split at o1
  · rename_i b
    cases q1
    exact ⟨b, rfl, o1.here a1.rel rfl⟩
  · exact o1.elim
theorem tv_cmp {op : CmpOp} {o : Sto → SV → SV → Option Dv} (ho : OpR X (compareOp op) (ROp X cl o)) (ha : PE X e1 (RE X cl Wx f)) (hb : PE X e2 (RE X cl Wx h)) (hm : behindInMarks op e2 = false := by rfl) : PT X (.Compare e1 [op] [e2] pos) (RT X cl Wx (tV (eOp o f h))) :=
  PT.weak (pt_cmpR ho ha hb hm) fun _ _ _ q => eOp_use (tV_use q)
/-- an expression that gives a bool, as a test (no comparison, and, or, not) -/
theorem tv_val (ha : PE X e1 (RE X cl Wx f)) (he : ∀ whole, isTrue e1 X.env whole = (do let v ← whole; standAt e1.pos; holding [v] (truthy v)) := by intro _; rfl) : PT X e1 (RT X cl Wx (tV f)) :=
  PT.weak (pt_val ha he) fun _ _ _ q => tV_use q
/-! and, or, not -/
def tAn (f g : Fr → Sto → Res Bool) : Fr → Sto → Res Bool := fun F S => (f F S).bind fun c S1 => if c = true then g F S1 else .ok false S1
def tOrr (f g : Fr → Sto → Res Bool) : Fr → Sto → Res Bool := fun F S => (f F S).bind fun c S1 => if c = true then .ok true S1 else g F S1
def tNo (f : Fr → Sto → Res Bool) : Fr → Sto → Res Bool := fun F S => (f F S).bind fun c S1 => .ok (!c) S1
theorem PW.weak {X : Cx} {e : Expr} {t t' : TT} (h : PW X e t) (k : ∀ σ H Q, t' σ H Q → t σ H Q) : PW X e t' := ⟨fun wh pins s σ H Q I q => h.run wh pins s σ H Q I (k σ H Q q)⟩
section
variable {tf tg : Fr → Sto → Res Bool} {rest : List Expr}
theorem tv_and1 (ha : PT X e1 (RT X cl Wx tf)) : PW X (.BoolOp .And [e1] pos) (RT X cl Wx tf) := pw_and1 ha
theorem tv_or1 (ha : PT X e1 (RT X cl Wx tf)) : PW X (.BoolOp .Or [e1] pos) (RT X cl Wx tf) := pw_or1 ha
theorem tv_and (ha : PT X e1 (RT X cl Wx tf)) (hb : PW X (.BoolOp .And (e2 :: rest) pos) (RT X cl Wx tg)) : PW X (.BoolOp .And (e1 :: e2 :: rest) pos) (RT X cl Wx (tAn tf tg)) :=
  PW.weak (pw_and ha hb) fun σ H Q ⟨W, F, S, a, q⟩ => RT.of a q fun W1 S1 c H1 g1 l1 a1 o1 => by
    split at o1
    · rename_i hc; rw [if_pos hc]; exact ⟨W1, F, S1, a1, o1⟩
    · rename_i hc; rw [if_neg hc]; exact o1.here a1.rel rfl
theorem tv_or (ha : PT X e1 (RT X cl Wx tf)) (hb : PW X (.BoolOp .Or (e2 :: rest) pos) (RT X cl Wx tg)) : PW X (.BoolOp .Or (e1 :: e2 :: rest) pos) (RT X cl Wx (tOrr tf tg)) :=
  PW.weak (pw_or ha hb) fun σ H Q ⟨W, F, S, a, q⟩ => RT.of a q fun W1 S1 c H1 g1 l1 a1 o1 => by
    split at o1
    · rename_i hc; rw [if_pos hc]; exact o1.here a1.rel rfl
    · rename_i hc; rw [if_neg hc]; exact ⟨W1, F, S1, a1, o1⟩
theorem tv_not (ha : PT X e1 (RT X cl Wx tf)) : PT X (.UnaryOp .Not e1 pos) (RT X cl Wx (tNo tf)) :=
  PT.weak (pt_not ha) fun σ H Q ⟨W, F, S, a, q⟩ => RT.of a q fun W1 S1 c H1 g1 l1 a1 o1 => o1.here a1.rel rfl
theorem tv_pw (h : PW X e1 (RT X cl Wx tf)) : PT X e1 (RT X cl Wx tf) := h.pt
/-! the same as values: all but the last are bools -/
def eAn (f g : Fr → Sto → Res SV) : Fr → Sto → Res SV := fun F S => (f F S).bind fun x S1 => match x with
  | .d (.bl true) => g F S1
  | .d (.bl false) => .ok (.d (.bl false)) S1
  | _ => .bad
def eOr (f g : Fr → Sto → Res SV) : Fr → Sto → Res SV := fun F S => (f F S).bind fun x S1 => match x with
  | .d (.bl true) => .ok (.d (.bl true)) S1
  | .d (.bl false) => g F S1
  | _ => .bad
def eNo (f : Fr → Sto → Res SV) : Fr → Sto → Res SV := fun F S => (f F S).bind fun x S1 => match x with
  | .d (.bl b) => .ok (.d (.bl (!b))) S1
  | _ => .bad
theorem ev_one {op} (h : PE X e1 (RE X cl Wx f)) : PE X (.BoolOp op [e1] pos) (RE X cl Wx f) := pe_one h
theorem ev_and (ha : PE X e1 (RE X cl Wx f)) (hb : PE X (.BoolOp .And (e2 :: rest) pos) (RE X cl Wx g)) : PE X (.BoolOp .And (e1 :: e2 :: rest) pos) (RE X cl Wx (eAn f g)) :=
  PE.weak (pe_and ha hb) fun σ H Q ⟨W, F, S, a, q⟩ => RE.of a q fun W1 S1 x v H1 g1 l1 a1 q1 o1 => by
    split at o1
    · cases q1; exact ⟨true, rfl, by rw [if_pos rfl]; exact ⟨W1, F, S1, a1, o1⟩⟩
    · cases q1; exact ⟨false, rfl, by rw [if_neg Bool.false_ne_true]; exact o1.here a1.rel (RelD.bl false)⟩
    · exact o1.elim
theorem ev_or (ha : PE X e1 (RE X cl Wx f)) (hb : PE X (.BoolOp .Or (e2 :: rest) pos) (RE X cl Wx g)) : PE X (.BoolOp .Or (e1 :: e2 :: rest) pos) (RE X cl Wx (eOr f g)) :=
  PE.weak (pe_or ha hb) fun σ H Q ⟨W, F, S, a, q⟩ => RE.of a q fun W1 S1 x v H1 g1 l1 a1 q1 o1 => by
    split at o1
    · cases q1; exact ⟨true, rfl, by rw [if_pos rfl]; exact o1.here a1.rel (RelD.bl true)⟩
    · cases q1; exact ⟨false, rfl, by rw [if_neg Bool.false_ne_true]; exact ⟨W1, F, S1, a1, o1⟩⟩
    · exact o1.elim
theorem ev_not (ha : PE X e1 (RE X cl Wx f)) : PE X (.UnaryOp .Not e1 pos) (RE X cl Wx (eNo f)) :=
  PE.weak (pe_not ha) fun σ H Q ⟨W, F, S, a, q⟩ => RE.of a q fun W1 S1 x v H1 g1 l1 a1 q1 o1 => by
    split at o1
    · rename_i b; cases q1; exact ⟨b, rfl, o1.here a1.rel (RelD.bl (!b))⟩
    · exact o1.elim
def eIf (t : Fr → Sto → Res Bool) (f g : Fr → Sto → Res SV) : Fr → Sto → Res SV := fun F S => (t F S).bind fun c S1 => if c = true then f F S1 else g F S1
theorem ev_ifExp {c : Expr} (hc : PT X c (RT X cl Wx tf)) (ha : PE X e1 (RE X cl Wx f)) (hb : PE X e2 (RE X cl Wx g)) : PE X (.IfExp c e1 e2 pos) (RE X cl Wx (eIf tf f g)) :=
  PE.weak (pe_ifExp hc ha hb) fun σ H Q ⟨W, F, S, a, q⟩ => RT.of a q fun W1 S1 c H1 g1 l1 a1 o1 => by
    split at o1
    · rename_i hc; rw [if_pos hc]; exact ⟨W1, F, S1, a1, o1⟩
    · rename_i hc; rw [if_neg hc]; exact ⟨W1, F, S1, a1, o1⟩
end
end
end Ev

set_option Elab.async false
set_option linter.all false
set_option maxRecDepth 100000
/-! Ev4: the operators one by one. -/
namespace Ev
open PySem L2

section
variable {K : PySem.W.Frag} {cl : Nat → Addr} {W : Wd} {S : Sto} {H : Hp}
/-- what shows as no list, dict or instance that changes is told by its data -/
def Dv.lone : Dv → Bool
  | .lst _ => false | .dic _ _ => false | .ins _ _ _ => false
  | _ => true
theorem view_lone (r : Rel K cl W S H) {x : SV} {y : Dv} {v : V} {n : Nat} (e : view S x = some y) (q : RelSV K cl W n x v) (f : y.lone = true) : RelD K cl W.G y v := by
  cases x with
  | d z => cases e; exact q
  | m i =>
    have k := e
    simp only [view] at k
    split at k
    · rename_i xs hx
      cases z : rdDs S xs with
      | none => rw [z] at k; cases k
      | some ys => rw [z] at k; cases k; cases f
    · rename_i ks xs hx
      cases z : rdDs S xs with
      | none => rw [z] at k; cases k
      | some ys => rw [z] at k; cases k; cases f
    · rename_i c fs xs hx
      cases z : rdDs S xs with
      | none => rw [z] at k; cases k
      | some ys => rw [z] at k; cases k; cases f
    · rename_i y' hy
      cases k
      obtain ⟨_, rfl⟩ := q
      exact r.st i _ hy
    · cases k
    · rename_i ks xs hx
      cases z : rdDs S xs with
      | none => rw [z] at k; cases k
      | some ys => rw [z] at k; cases k; cases f
    · cases k
theorem view_int (r : Rel K cl W S H) {x : SV} {i : Int} {v : V} {n : Nat} (e : view S x = some (.int i)) (q : RelSV K cl W n x v) : v = .int i := by
  cases view_lone r e q rfl; rfl
theorem view_bl (r : Rel K cl W S H) {x : SV} {i : Bool} {v : V} {n : Nat} (e : view S x = some (.bl i)) (q : RelSV K cl W n x v) : v = .bl i := by
  cases view_lone r e q rfl; rfl
theorem view_str (r : Rel K cl W S H) {x : SV} {i : Str} {v : V} {n : Nat} (e : view S x = some (.str i)) (q : RelSV K cl W n x v) : v = .str i ∧ PyData.strOk i = true := by
  cases view_lone r e q rfl with
  | str _ h => exact ⟨rfl, h⟩
theorem view_non (r : Rel K cl W S H) {x : SV} {v : V} {n : Nat} (e : view S x = some .non) (q : RelSV K cl W n x v) : v = .non := by
  cases view_lone r e q rfl; rfl
theorem view_tup (r : Rel K cl W S H) {x : SV} {ds : List Dv} {v : V} {n : Nat} (e : view S x = some (.tup ds)) (q : RelSV K cl W n x v) : ∃ a vs, v = .ref a ∧ SqT K H a vs ∧ RelDs K cl W.G ds vs ∧ RelD K cl W.G (.tup ds) v := by
  have z := view_lone r e q rfl
  cases id z with
  | tup h t => exact ⟨_, _, rfl, SqT.up r.fz h, t, z⟩
end
theorem strOk_add {a b : Str} (h : PyData.strOk a = true) (k : PyData.strOk b = true) : PyData.strOk (a ++ b) = true := by
  unfold PyData.strOk at *
  show Array.all (a.cps ++ b.cps) _ = true
  rw [Array.all_append, h, k]; rfl

/-! ### two rules of the model that the layer lacks -/
section
variable {X : Cx}
theorem op_catT0 : OpR X (binaryOp .Add) (fun x y H Q => ∃ a b ys, x = .ref a ∧ y = .ref b ∧ SqT X.K H a [] ∧ SqT X.K H b ys ∧ Q (.ref b) H) := by
  intro pins s σ H x y v u Q I rx ry h
  obtain ⟨a, b, ys, rfl, rfl, ha, hb, q⟩ := h
  cases rx
  cases ry
  obtain ⟨its, r1, p1, _⟩ := I.tuple ha
  obtain ⟨its2, r2, p2, _⟩ := I.tuple hb
  cases r1
  obtain ⟨⟨cls, dd, data, sl⟩, ho, hc, n, hd⟩ := id p1
  obtain ⟨⟨cls2, dd2, data2, sl2⟩, ho2, hc2, n2, hd2⟩ := id p2
  simp only at hc hd hc2 hd2
  subst hc hd hc2 hd2
  exact PySem.concat_meets ⟨_, ho, rfl⟩ ⟨_, ho2, rfl⟩ PySem.noFill_tuple_add PySem.seq_tuple_add PySem.F.slot_tuple_add PySem.F.entry_tuple_add (PySem.F.args_tuple_add_2 _ _)
      (PyProof.Rows.tuple_addW0 a b _ its2.toArray n n2 dd dd2 sl sl2 rfl) ⟨ho, ho2, ⟨.ref b, H, I, rfl, q⟩⟩
theorem op_catL : OpR X (binaryOp .Add) (fun x y H Q => ∃ a b xs ys, x = .ref a ∧ y = .ref b ∧ SqL X.K H a xs ∧ SqL X.K H b ys ∧ xs.length + ys.length ≤ sizeLine ∧ ∀ p, H p = none → Q (.ref p) (upd H p (.lst (xs ++ ys)))) := by
  intro pins s σ H x y v u Q I rx ry h
  obtain ⟨a, b, xs, ys, rfl, rfl, ha, hb, hz, q⟩ := h
  cases rx
  cases ry
  obtain ⟨its, r1, p1, _⟩ := I.list ha
  obtain ⟨its2, r2, p2, _⟩ := I.list hb
  have l1 := r1.length
  have l2 := r2.length
  obtain ⟨⟨cls, dd, data, sl⟩, n, ho, hc, hn, hd⟩ := id p1
  obtain ⟨⟨cls2, dd2, data2, sl2⟩, n2, ho2, hc2, hn2, hd2⟩ := id p2
  simp only at hc hd hn hc2 hd2 hn2
  subst hc hd hc2 hd2
  have e : its.toArray ++ its2.toArray = (its ++ its2).toArray := by simp
  refine PySem.concat_meets ⟨_, ho, rfl⟩ ⟨_, ho2, rfl⟩ PySem.noFill_list_add PySem.seq_list_add PySem.F.slot_list_add PySem.F.entry_list_add (PySem.F.args_list_add_2 _ _)
      (PyProof.Rows.list_addW a b its.toArray its2.toArray n n2 dd dd2 sl sl2 (by rw [List.size_toArray, List.size_toArray]; omega)) ⟨ho, ho2, ?_⟩
  rw [e]
  refine ⟨.ref s.heap.objs.size, _, I.laid (t' := s.toks) (o := .lst (xs ++ ys)) (fun b ob q => Heap.get?_push_of_some _ q) (Nat.le_refl _) ?_, rfl, q _ (I.hok.fresh (Nat.le_refl _))⟩
  exact ⟨by rw [List.length_append]; exact hz, its ++ its2, 0, r1.append r2, Heap.get?_push_size _ rfl⟩
end

/-! ### + - * // % ** -/
def opAdd (S : Sto) (a b : SV) : Option Dv := match view S a, view S b with
  | some (.int i), some (.int j) => some (.int (i + j))
  | some (.str i), some (.str j) => if i.length + j.length ≤ most then some (.str (i ++ j)) else none
  | some (.tup xs), some (.tup ys) => if xs.length + ys.length ≤ most then some (.tup (xs ++ ys)) else none
  | some (.lst xs), some (.lst ys) => if xs.length + ys.length ≤ most then some (.lst (xs ++ ys)) else none
  | _, _ => none
theorem RelDs.append {K : PySem.W.Frag} {cl : Nat → Addr} {G : Hp} : ∀ {xs ys : List Dv} {vs ws : List V}, RelDs K cl G xs vs → RelDs K cl G ys ws → RelDs K cl G (xs ++ ys) (vs ++ ws)
  | _, _, _, _, .nil, s => s
  | _, _, _, _, .cons r t, s => .cons r (RelDs.append t s)
section
variable {X : Cx} {cl : CL}
/-- a new list or tuple as a result -/
theorem new_lst {K : PySem.W.Frag} {W : Wd} {S : Sto} {H : Hp} {Q : VK} {ds : List Dv} {vs : List V} (r : Rel K cl W S H) (t : RelDs K cl W.G ds vs)
    (k : ∀ W' H' v, Le S.length W W' → Rel K cl W' S H' → RelD K cl W'.G (.lst ds) v → Q v H') (p : Addr) (hp : H p = none) : Q (.ref p) (upd H p (.lst vs)) := by
  obtain ⟨r3, l3⟩ := r.newF (ho := .lst vs) hp
  exact k _ _ _ l3 r3 (.lst (.of upd_same) (RelDs.le l3 t))
theorem new_tup {K : PySem.W.Frag} {W : Wd} {S : Sto} {H : Hp} {Q : VK} {ds : List Dv} {vs : List V} (r : Rel K cl W S H) (t : RelDs K cl W.G ds vs)
    (k : ∀ W' H' v, Le S.length W W' → Rel K cl W' S H' → RelD K cl W'.G (.tup ds) v → Q v H') (p : Addr) (hp : H p = none) : Q (.ref p) (upd H p (.tup vs)) := by
  obtain ⟨r3, l3⟩ := r.newF (ho := .tup vs) hp
  exact k _ _ _ l3 r3 (.tup (.of upd_same) (RelDs.le l3 t))
theorem ov_add : OpR X (binaryOp .Add) (ROp X cl opAdd) := by
  refine OpR.weak ((op_add (X := X)).or (op_add_str.or (op_catT.or (op_catT0.or op_catL)))) fun x y H Q ⟨W, S, a, b, z, r, ra, rb, e, k⟩ => ?_
  unfold opAdd at e
  split at e
  · rename_i i j ea eb
    cases e
    exact .inl ⟨i, j, view_int r ea ra, view_int r eb rb, k W H _ (.refl _ _) r (.int _)⟩
  · rename_i i j ea eb
    split at e
    · rename_i hm
      cases e
      obtain ⟨e1, k1⟩ := view_str r ea ra
      obtain ⟨e2, k2⟩ := view_str r eb rb
      exact .inr (.inl ⟨i, j, e1, e2, hm, k W H _ (.refl _ _) r (.str _ (strOk_add k1 k2))⟩)
    · cases e
  · rename_i xs ys ea eb
    split at e
    · rename_i hm
      cases e
      obtain ⟨p, vs, e1, s1, t1, z1⟩ := view_tup r ea ra
      obtain ⟨q, ws, e2, s2, t2, z2⟩ := view_tup r eb rb
      have n1 := t1.length
      have n2 := t2.length
      by_cases hx : vs = []
      · subst hx
        cases t1
        exact .inr (.inr (.inr (.inl ⟨p, q, ws, e1, e2, s1, s2, k W H _ (.refl _ _) r (e2 ▸ z2)⟩)))
      · refine .inr (.inr (.inl ⟨p, q, vs, ws, e1, e2, s1, s2, hx, by rw [← n1, ← n2]; exact hm, fun hy => ?_, fun hy => ?_⟩))
        · subst hy
          cases t2
          rw [List.append_nil] at k
          exact k W H _ (.refl _ _) r (e1 ▸ z1)
        · exact new_tup r (t1.append t2) k
    · cases e
  · rename_i xs ys ea eb
    split at e
    · rename_i hm
      cases e
      obtain ⟨p, vs, e1, s1, t1⟩ := view_lst r ea ra
      obtain ⟨q, ws, e2, s2, t2⟩ := view_lst r eb rb
      exact .inr (.inr (.inr (.inr ⟨p, q, vs, ws, e1, e2, s1, s2, by rw [← t1.length, ← t2.length]; exact hm, new_lst r (t1.append t2) k⟩)))
    · cases e
  · cases e
/-- an operation on ints, by its rule -/
def opInt (C : Int → Int → Bool) (g : Int → Int → Dv) (S : Sto) (a b : SV) : Option Dv := match view S a, view S b with
  | some (.int i), some (.int j) => if C i j = true then some (g i j) else none
  | _, _ => none
theorem ov_int {f : Value → Value → Sem Value} {C : Int → Int → Bool} {D : Int → Int → Prop} {g : Int → Int → Dv} {gv : Int → Int → V} (h : OpR X f (rI D gv)) (hc : ∀ i j, C i j = true → D i j) (hg : ∀ K cl G i j, RelD K cl G (g i j) (gv i j)) : OpR X f (ROp X cl (opInt C g)) :=
  OpR.weak h fun x y H Q ⟨W, S, a, b, z, r, ra, rb, e, k⟩ => by
    unfold opInt at e
    split at e
    · rename_i i j ea eb
      split at e
      · rename_i hcc
        cases e
        exact ⟨i, j, view_int r ea ra, view_int r eb rb, hc i j hcc, k W H _ (.refl _ _) r (hg _ _ _ _ _)⟩
      · cases e
    · cases e
theorem rI_of {f : Value → Value → Sem Value} {g : Int → Int → V} (h : OpR X f (rI0 g)) : OpR X f (rI (fun _ _ => True) g) := OpR.weak h fun x y H Q ⟨i, j, e1, e2, _, q⟩ => ⟨i, j, e1, e2, q⟩
abbrev yes : Int → Int → Bool := fun _ _ => true
def big64 (i : Int) : Bool := decide (-18446744073709551616 < i) && decide (i < 18446744073709551616)
abbrev opSub := opInt yes fun i j => .int (i - j)
abbrev opMul := opInt (fun i j => big64 i || big64 j) fun i j => .int (i * j)
abbrev opDiv := opInt (fun _ j => decide (0 < j) && decide (j < 1073741824)) fun i j => .int (i / j)
abbrev opMod := opInt (fun _ j => decide (0 < j)) fun i j => .int (i % j)
abbrev opPow := opInt (fun i j => decide (0 ≤ j) && decide (j ≤ 1000000) && decide (i.natAbs < 18446744073709551616)) fun i j => .int (i ^ j.toNat)
theorem ov_sub : OpR X (binaryOp .Sub) (ROp X cl opSub) := ov_int (rI_of op_sub) (fun _ _ _ => trivial) fun _ _ _ i j => .int _
theorem ov_mul : OpR X (binaryOp .Mult) (ROp X cl opMul) := ov_int op_mul (fun i j h => by
  unfold big64 at h
  simp only [Bool.or_eq_true, Bool.and_eq_true, decide_eq_true_eq] at h
  unfold CMul
  omega) fun _ _ _ i j => .int _
theorem ov_div : OpR X (binaryOp .FloorDiv) (ROp X cl opDiv) := ov_int op_fdiv (fun i j h => by
  simp only [Bool.and_eq_true, decide_eq_true_eq] at h
  exact h) fun _ _ _ i j => .int _
theorem ov_mod : OpR X (binaryOp .Mod) (ROp X cl opMod) := ov_int op_mod (fun i j h => by simpa using h) fun _ _ _ i j => .int _
theorem ov_pow : OpR X (binaryOp .Pow) (ROp X cl opPow) := ov_int op_pow (fun i j h => by
  simp only [Bool.and_eq_true, decide_eq_true_eq] at h
  unfold CPow
  omega) fun _ _ _ i j => .int _

/-! ### comparisons -/
def deq (x y : Dv) : Option Bool := if x.flat && y.flat && decide (min x.pd.depth y.pd.depth ≤ 199) then some (PyData.eqv x.pd y.pd) else none
def opEq (S : Sto) (a b : SV) : Option Dv := match view S a, view S b with
  | some x, some y => (deq x y).map .bl
  | _, _ => none
def opNe (S : Sto) (a b : SV) : Option Dv := match view S a, view S b with
  | some x, some y => (deq x y).map fun c => .bl (!c)
  | _, _ => none
theorem op_eqR (hu : X.A.units + 200 < cLine) : OpR X (compareOp .Eq) (fun x y H Q => ∃ d e, Dp X.K H x d ∧ Dp X.K H y e ∧ d.canLay0 = true ∧ e.canLay0 = true ∧ min d.depth e.depth ≤ 199 ∧ Q (.bl (PyData.eqv d e)) H) := by
  intro pins s σ H x y v u Q I rx ry h
  obtain ⟨d, e, hd, he, sd, se, hm, q⟩ := h
  obtain ⟨as, r1⟩ := Dp.reads I d x v hd rx
  obtain ⟨bs, r2⟩ := Dp.reads I e y u he ry
  exact PySem.SeqAt.compareEq_reads r1 r2 sd se (by omega) ⟨.bl _, H, I, rfl, q⟩
theorem op_neR (hu : X.A.units + 200 < cLine) : OpR X (compareOp .NotEq) (fun x y H Q => ∃ d e, Dp X.K H x d ∧ Dp X.K H y e ∧ d.canLay0 = true ∧ e.canLay0 = true ∧ min d.depth e.depth ≤ 199 ∧ Q (.bl (!PyData.eqv d e)) H) := by
  intro pins s σ H x y v u Q I rx ry h
  obtain ⟨d, e, hd, he, sd, se, hm, q⟩ := h
  obtain ⟨as, r1⟩ := Dp.reads I d x v hd rx
  obtain ⟨bs, r2⟩ := Dp.reads I e y u he ry
  exact PySem.SeqAt.compareNe_reads r1 r2 sd se (by omega) ⟨.bl _, H, I, rfl, q⟩
theorem ov_eq (hu : X.A.units + 200 < cLine) : OpR X (compareOp .Eq) (ROp X cl opEq) := OpR.weak (op_eqR hu) fun x y H Q ⟨W, S, a, b, z, r, ra, rb, e, k⟩ => by
  unfold opEq at e
  split at e
  · rename_i p q ea eb
    unfold deq at e
    split at e
    · rename_i hc
      cases e
      simp only [Bool.and_eq_true, decide_eq_true_eq] at hc
      obtain ⟨⟨f1, f2⟩, f3⟩ := hc
      obtain ⟨d1, c1⟩ := view_dp r ea ra f1
      obtain ⟨d2, c2⟩ := view_dp r eb rb f2
      exact ⟨_, _, d1, d2, c1, c2, f3, k W H _ (.refl _ _) r (.bl _)⟩
    · cases e
  · cases e
theorem ov_ne (hu : X.A.units + 200 < cLine) : OpR X (compareOp .NotEq) (ROp X cl opNe) := OpR.weak (op_neR hu) fun x y H Q ⟨W, S, a, b, z, r, ra, rb, e, k⟩ => by
  unfold opNe at e
  split at e
  · rename_i p q ea eb
    unfold deq at e
    split at e
    · rename_i hc
      cases e
      simp only [Bool.and_eq_true, decide_eq_true_eq] at hc
      obtain ⟨⟨f1, f2⟩, f3⟩ := hc
      obtain ⟨d1, c1⟩ := view_dp r ea ra f1
      obtain ⟨d2, c2⟩ := view_dp r eb rb f2
      exact ⟨_, _, d1, d2, c1, c2, f3, k W H _ (.refl _ _) r (.bl _)⟩
    · cases e
  · cases e
abbrev opLt := opInt yes fun i j => .bl (decide (i < j))
abbrev opLe := opInt yes fun i j => .bl (decide (i ≤ j))
abbrev opGt := opInt yes fun i j => .bl (decide (j < i))
abbrev opGe := opInt yes fun i j => .bl (decide (j ≤ i))
theorem ov_lt : OpR X (compareOp .Lt) (ROp X cl opLt) := ov_int (rI_of op_lt) (fun _ _ _ => trivial) fun _ _ _ i j => .bl _
theorem ov_le : OpR X (compareOp .LtE) (ROp X cl opLe) := ov_int (rI_of op_le) (fun _ _ _ => trivial) fun _ _ _ i j => .bl _
theorem ov_gt : OpR X (compareOp .Gt) (ROp X cl opGt) := ov_int (rI_of op_gt) (fun _ _ _ => trivial) fun _ _ _ i j => .bl _
theorem ov_ge : OpR X (compareOp .GtE) (ROp X cl opGe) := ov_int (rI_of op_ge) (fun _ _ _ => trivial) fun _ _ _ i j => .bl _
def SV.isNon : SV → Bool
  | .d .non => true
  | _ => false
def opIsN (S : Sto) (a b : SV) : Option Dv := match view S b with
  | some .non => some (.bl a.isNon)
  | _ => none
def opIsNot (S : Sto) (a b : SV) : Option Dv := match view S b with
  | some .non => some (.bl (!a.isNon))
  | _ => none
theorem non_iff {K : PySem.W.Frag} {W : Wd} {n : Nat} {a : SV} {x : V} (r : RelSV K cl W n a x) : decide (x = .non) = a.isNon := by
  cases a with
  | m i => obtain ⟨_, rfl⟩ := r; rfl
  | d y => cases r <;> rfl
theorem ov_is : OpR X (compareOp .Is) (ROp X cl opIsN) := OpR.weak op_isN fun x y H Q ⟨W, S, a, b, z, r, ra, rb, e, k⟩ => by
  unfold opIsN at e
  split at e
  · rename_i eb
    cases e
    refine ⟨view_non r eb rb, ?_⟩
    rw [non_iff ra]
    exact k W H _ (.refl _ _) r (.bl _)
  · cases e
theorem ov_isnot : OpR X (compareOp .IsNot) (ROp X cl opIsNot) := OpR.weak op_notN fun x y H Q ⟨W, S, a, b, z, r, ra, rb, e, k⟩ => by
  unfold opIsNot at e
  split at e
  · rename_i eb
    cases e
    refine ⟨view_non r eb rb, ?_⟩
    rw [non_iff ra]
    exact k W H _ (.refl _ _) r (.bl _)
  · cases e
end
end Ev

set_option Elab.async false
set_option linter.all false
set_option maxRecDepth 100000
/-! Ev5: items, in, built-in functions, isinstance. -/
namespace Ev
open PySem L2

/-- the items of a list or tuple as they lie -/
def itemsOf (S : Sto) : SV → Option (List SV)
  | .d (.lst xs) => some (xs.map .d)
  | .d (.tup xs) => some (xs.map .d)
  | .d _ => none
  | .m i => match S[i]? with
    | some (.lst xs) => some xs
    | some (.frz (.lst xs)) => some (xs.map .d)
    | some (.frz (.tup xs)) => some (xs.map .d)
    | some (.tup xs) => some xs
    | _ => none
/-- the pairs of a dict as they lie -/
def dictOf (S : Sto) : SV → Option (List Key × List SV)
  | .d (.dic ks xs) => some (ks, xs.map .d)
  | .d _ => none
  | .m i => match S[i]? with
    | some (.dic ks xs) => some (ks, xs)
    | some (.frz (.dic ks xs)) => some (ks, xs.map .d)
    | some (.lck ks xs) => some (ks, xs)
    | _ => none
def keyD : Key → Dv
  | .inl i => .int i
  | .inr s => .str s
abbrev keyS (k : Key) : SV := .d (keyD k)
def lookK {α : Type} (k : Key) : List Key → List α → Option α
  | a :: ks, x :: xs => if a = k then some x else lookK k ks xs
  | _, _ => none
section
variable {K : PySem.W.Frag} {cl : Nat → Addr} {W : Wd} {S : Sto} {H : Hp} {n : Nat}
theorem RelDs.sv : ∀ {xs : List Dv} {vs : List V}, RelDs K cl W.G xs vs → Paired (RelSV K cl W n) (xs.map .d) vs
  | _, _, .nil => .nil
  | _, _, .cons a b => .cons a (RelDs.sv b)
theorem items_rel (r : Rel K cl W S H) {x : SV} {xs : List SV} {v : V} (e : itemsOf S x = some xs) (q : RelSV K cl W S.length x v) : ∃ a vs, v = .ref a ∧ (SqL K H a vs ∨ SqT K H a vs) ∧ Paired (RelSV K cl W S.length) xs vs := by
  cases x with
  | d y =>
    cases y <;> first | (cases e; done) | skip
    · cases e; cases q with
      | tup h t => exact ⟨_, _, rfl, .inr (SqT.up r.fz h), t.sv⟩
    · cases e; cases q with
      | lst h t => exact ⟨_, _, rfl, .inl (SqL.up r.fz h), t.sv⟩
  | m i =>
    obtain ⟨_, rfl⟩ := q
    simp only [itemsOf] at e
    split at e
    · rename_i ys hy
      cases e
      obtain ⟨_, vs, h1, h2⟩ := r.st i _ hy
      exact ⟨_, vs, rfl, .inl (.of h1), h2⟩
    · rename_i ys hy
      cases e
      have := r.st i _ hy
      cases this with
      | lst h t => exact ⟨_, _, rfl, .inl (SqL.up r.fz h), t.sv⟩
    · rename_i ys hy
      cases e
      have := r.st i _ hy
      cases this with
      | tup h t => exact ⟨_, _, rfl, .inr (SqT.up r.fz h), t.sv⟩
    · rename_i ys hy
      cases e
      obtain ⟨_, vs, h1, h2⟩ := r.st i _ hy
      exact ⟨_, vs, rfl, .inr (.of h1), h2⟩
    · cases e
theorem Rd_of_core {a : Addr} {o : HO} {kvs : List (Key × V)} (h : H a = some o) (c : core o = .dK kvs) : Rd H a (.dK kvs) := by
  cases o <;> first
    | (cases c; exact .inl h)
    | (rename_i ob u
       have c' : u = .dK kvs := c
       subst c'
       exact .inr ⟨_, h⟩)
    | (cases c)
theorem dict_rel (r : Rel K cl W S H) {x : SV} {ks : List Key} {xs : List SV} {v : V} (e : dictOf S x = some (ks, xs)) (q : RelSV K cl W S.length x v) : ∃ a vs, v = .ref a ∧ Rd H a (.dK (ks.zip vs)) ∧ DKl ks xs.length ∧ Paired (RelSV K cl W S.length) xs vs := by
  cases x with
  | d y =>
    cases y <;> first | (cases e; done) | skip
    cases e; cases q with
    | dic h c l t => exact ⟨_, _, rfl, Rd_of_core (r.fz _ _ h) c, by rw [List.length_map]; exact l, t.sv⟩
  | m i =>
    obtain ⟨_, rfl⟩ := q
    simp only [dictOf] at e
    split at e
    · rename_i ks' ys hy
      cases e
      obtain ⟨_, vs, h1, h3, h2⟩ := r.st i _ hy
      exact ⟨_, vs, rfl, .inl h1, h3, h2⟩
    · rename_i ks' ys hy
      cases e
      have := r.st i _ hy
      cases this with
      | dic h c l t => exact ⟨_, _, rfl, Rd_of_core (r.fz _ _ h) c, by rw [List.length_map]; exact l, t.sv⟩
    · rename_i ks' ys hy
      cases e
      obtain ⟨_, vs, od, h1, h3, h2⟩ := r.st i _ hy
      exact ⟨_, vs, rfl, .inr ⟨od, h1.1⟩, h3, h2⟩
    · cases e
theorem look_rel (k : Key) : ∀ {ks : List Key} {xs : List SV} {vs : List V}, ks.length = xs.length → Paired (RelSV K cl W n) xs vs →
    (∀ x, lookK k ks xs = some x → ∃ v, valV (ks.zip vs) k = some v ∧ RelSV K cl W n x v) ∧ (lookK k ks xs = none → valV (ks.zip vs) k = none)
  | [], [], [], _, .nil => ⟨fun _ e => (by cases e), fun _ => rfl⟩
  | a :: ks, x :: xs, v :: vs, l, .cons q t => by
    obtain ⟨i1, i2⟩ := look_rel k (Nat.succ.inj l) t
    have e0 : valV ((a :: ks).zip (v :: vs)) k = if a = k then some v else valV (ks.zip vs) k := by
      unfold valV
      rw [List.zip_cons_cons, List.find?_cons]
      by_cases h : a = k
      · simp [h]
      · simp [h]
    unfold lookK
    rw [e0]
    by_cases h : a = k
    · rw [if_pos h, if_pos h]
      exact ⟨fun y e => (by cases e; exact ⟨v, rfl, q⟩), fun e => (by cases e)⟩
    · rw [if_neg h, if_neg h]
      exact ⟨i1, i2⟩
  | [], _ :: _, _, l, _ => by cases l
  | _ :: _, [], _, l, _ => by cases l
theorem paired_get {α β : Type} {R : α → β → Prop} : ∀ {xs : List α} {ys : List β} {i : Nat} {x : α}, Paired R xs ys → xs[i]? = some x → ∃ y, ys[i]? = some y ∧ R x y
  | _, _, _, _, .nil, e => by simp at e
  | _, _, 0, _, .cons r _, e => by simp at e; subst e; exact ⟨_, rfl, r⟩
  | _, _, i + 1, x, .cons _ t, e => by
    obtain ⟨y, h1, h2⟩ := paired_get (i := i) (x := x) t (by simpa using e)
    exact ⟨y, by simpa using h1, h2⟩
theorem atI_rel {xs : List SV} {vs : List V} {i : Int} {x : SV} (p : Paired (RelSV K cl W n) xs vs) (e : atI xs i = some x) : ∃ v, atI vs i = some v ∧ RelSV K cl W n x v := by
  unfold atI at *
  rw [← PySem.Paired.length p]
  cases h : ixN xs.length i with
  | none => rw [h] at e; cases e
  | some j =>
    rw [h] at e
    exact paired_get p e
end

/-! ### x[i] -/
def kOf : Dv → Option Key
  | .int i => some (.inl i)
  | .str s => some (.inr s)
  | _ => none
def opIx (S : Sto) (a b : SV) : Option SV := match view S b with
  | some k => match itemsOf S a, k with
    | some xs, .int i => atI xs i
    | some _, _ => none
    | none, _ => match dictOf S a with
      | some (ks, xs) => match kOf k with
        | some kk => lookK kk ks xs
        | none => none
      | none => match view S a, k with
        | some (.str z), .int i => if z.length ≤ most then (atI z.cps.toList i).map fun c => .d (.str ⟨#[c]⟩) else none
        | _, _ => none
  | none => none
def ROpS (X : Cx) (cl : Nat → Addr) (g : Sto → SV → SV → Option SV) : R2 := fun x y H Q => ∃ W S a b z, Rel X.K cl W S H ∧ RelSV X.K cl W S.length a x ∧ RelSV X.K cl W S.length b y ∧ g S a b = some z ∧
  ∀ W' H' v, Le S.length W W' → Rel X.K cl W' S H' → RelSV X.K cl W' S.length z v → Q v H'
def eOpS (g : Sto → SV → SV → Option SV) (f h : Fr → Sto → Res SV) : Fr → Sto → Res SV := fun F S => (f F S).bind fun x S1 => (h F S1).bind fun y S2 => match g S2 x y with
  | some z => .ok z S2
  | none => .bad
section
variable {X : Cx} {cl : CL} {Wx : WX} {e1 e2 : Expr} {f g h : Fr → Sto → Res SV} {pos : Pos}
theorem eOpS_use {o : Sto → SV → SV → Option SV} {σ : St} {H : Hp} {Q : VK} (q : RE X cl Wx (eOpS o f h) σ H Q) : tOp (ROpS X cl o) (RE X cl Wx f) (RE X cl Wx h) σ H Q := by
  obtain ⟨W, F, S, a, q⟩ := q
  refine RE.of a q fun W1 S1 x v H1 g1 l1 a1 q1 o1 => ?_
  refine RE.of a1 o1 fun W2 S2 y u H2 g2 l2 a2 q2 o2 => ?_
  cases z : o S2 x y with
  | none => simp only [z] at o2; exact o2.elim
  | some w =>
    simp only [z] at o2
    exact ⟨W2, S2, x, y, w, a2.rel, RelSV.le l2 g2.len q1, q2, z, fun W' H' v l r q => o2 W' H' v (.refl _ _) l r q⟩
theorem ix_dict (hu : X.A.units + 1 < cLine) : IxR X (fun x y H Q => ∃ a v, x = .ref a ∧ DGet H a y (some v) ∧ Q v H) := by
  intro value slice pins s σ H x y v u Q I rx ry h hs
  obtain ⟨a, w, rfl, g, q⟩ := h
  obtain rfl : v = Value.ref a := rx
  have hT := dict_typeIs I g
  unfold PyProof.Rows.subscriptTail
  refine wpAny_bind ?_
  rw [getitemInPython_of_ne hT.not_modules]
  refine wpAny_bind (wpAny_specialOf hT PySem.F.slot_dict_getitem.lookup ?_)
  have fin : wpAny (model X.prog X.w) X.A (subscripted slice false (.ref a) u) (fun r s₃ => wpAny (model X.prog X.w) X.A (letTemporaryGo value (.ref a) r >>= fun _ => pure r) (EP X pins σ Q) X.xe s₃) X.xe s := by
    rw [hs]
    exact wpAny_operating (d_getItem hu I g ry fun w' s' I' rw' => wpAny_bind (wpAny_letTemporaryGo (wpAny_pure ⟨w, H, I', rw', q⟩)))
  first
    | exact wpAny_pure (wpAny_bind fin)
    | exact wpAny_bind (wpAny_pure (wpAny_bind fin))
    | exact wpAny_bind fin
theorem strOk_at {z : Str} {i : Int} {c : Nat} (h : PyData.strOk z = true) (e : atI z.cps.toList i = some c) : PyData.strOk ⟨#[c]⟩ = true := by
  have hm : c ∈ z.cps.toList := by
    unfold atI at e
    cases k : ixN z.cps.toList.length i with
    | none => rw [k] at e; cases e
    | some j => rw [k] at e; exact List.mem_of_getElem? e
  unfold PyData.strOk at *
  rw [Array.all_eq_true'] at h
  have := h c (Array.mem_toList_iff.mp hm)
  simpa using this
theorem key_rel {K : PySem.W.Frag} {cl : Nat → Addr} {W : Wd} {S : Sto} {H : Hp} {b : SV} {y : V} {k : Dv} {kk : Key} (r : Rel K cl W S H) (eb : view S b = some k) (rb : RelSV K cl W S.length b y) (e : kOf k = some kk) : y = kV kk := by
  cases k <;> first | (cases e; done) | skip
  · cases e; exact view_int r eb rb
  · cases e; exact (view_str r eb rb).1
theorem ov_ix (hu : X.A.units + 1 < cLine) (value slice : Expr) (hs : ∀ v u, subscripted slice false v u = operate [v, u] (getItem v u)) : OpR X (fun v u => PyProof.Rows.subscriptTail value slice v u) (ROpS X cl opIx) := by
  intro pins s σ H x y v u Q I rx ry h
  refine ((ix_list (X := X)).or (ix_tup.or (ix_str.or (ix_dict hu)))) value slice pins s σ H x y v u Q I rx ry ?_ (hs v u)
  obtain ⟨W, S, a, b, z, r, ra, rb, e, k⟩ := h
  unfold opIx at e
  split at e
  · rename_i kk eb
    split at e
    · rename_i xs i ea
      obtain ⟨p, vs, e1, s1, t1⟩ := items_rel r ea ra
      obtain ⟨w, hw, rw'⟩ := atI_rel t1 e
      have e2 := view_int r eb rb
      rcases s1 with s1 | s1
      · exact .inl ⟨p, vs, i, w, e1, e2, s1, hw, k W H _ (.refl _ _) r rw'⟩
      · exact .inr (.inl ⟨p, vs, i, w, e1, e2, s1, hw, k W H _ (.refl _ _) r rw'⟩)
    · cases e
    · rename_i ea
      split at e
      · rename_i ks xs ed
        split at e
        · rename_i kk' ek
          obtain ⟨p, vs, e1, s1, l1, t1⟩ := dict_rel r ed ra
          obtain ⟨w, hw, rw'⟩ := (look_rel kk' l1.1 t1).1 z e
          exact .inr (.inr (.inr ⟨p, w, e1, .inl ⟨_, kk', s1, key_rel r eb rb ek, hw.symm⟩, k W H _ (.refl _ _) r rw'⟩))
        · cases e
      · split at e
        · rename_i zz i ez
          split at e
          · rename_i hm
            cases hc : atI zz.cps.toList i with
            | none => rw [hc] at e; cases e
            | some c =>
              rw [hc] at e
              cases e
              obtain ⟨e1, k1⟩ := view_str r ez ra
              exact .inr (.inr (.inl ⟨zz, i, c, e1, view_int r eb rb, hm, hc, k W H _ (.refl _ _) r (RelD.str _ (strOk_at k1 hc))⟩))
          · cases e
        · cases e
  · cases e
theorem ev_ix (hu : X.A.units + 1 < cLine) (ha : PE X e1 (RE X cl Wx f)) (hb : PE X e2 (RE X cl Wx h)) (hs : PlainIx e2 := by exact fun _ _ => rfl) : PE X (.Subscript e1 e2 pos) (RE X cl Wx (eOpS opIx f h)) := by
  refine PE.weak (t := tOp (ROpS X cl opIx) (RE X cl Wx f) (RE X cl Wx h)) ?_ fun _ _ _ q => eOpS_use q
  refine ⟨fun pins s σ H Q I q => ?_⟩
  exact PyProof.Rows.Subscript_ (binT ha hb I q fun v u s2 x y H2 I2 rx ry q => ov_ix hu e1 e2 hs pins s2 σ H2 x y v u Q I2 rx ry q)
end

/-! ### in, not in -/
section
variable {X : Cx} {cl : CL}
theorem any_reads {h : Heap} {d : PyData} (e : Value → Bool) (he : ∀ y dd as, Reads h y dd as → dd.canLay0 = true → e y = PyData.eqv dd d) : ∀ {ds : List PyData} {its : List Value} {bs : List Addr}, ReadsAll h its ds bs → PyData.canLayAll0 ds = true →
    its.any e = ds.any (fun x => PyData.eqv x d) ∧ ∀ y ∈ its, ∃ dd as, Reads h y dd as ∧ dd.canLay0 = true
  | _, _, _, .nil, _ => ⟨rfl, fun y h => by cases h⟩
  | x :: ds, _, _, .cons (v := y) (vs := its) r t, c => by
    obtain ⟨c1, c2⟩ := Bool.and_eq_true_iff.mp (show (PyData.canLay0 x && PyData.canLayAll0 ds) = true from c)
    obtain ⟨i1, i2⟩ := any_reads e he t c2
    refine ⟨by rw [List.any_cons, List.any_cons, i1, he y x _ r c1], fun z hz => ?_⟩
    rcases List.mem_cons.mp hz with rfl | hz
    · exact ⟨_, _, r, c1⟩
    · exact i2 z hz
def rInD (K : PySem.W.Frag) (neg : Bool) : R2 := fun x y H Q => ∃ p vs d ds, y = .ref p ∧ (SqL K H p vs ∨ SqT K H p vs) ∧ Dp K H x d ∧ DpAll K H vs ds ∧ d.canLay0 = true ∧ PyData.canLayAll0 ds = true ∧ d.depth ≤ 190 ∧ Q (.bl (neg ^^ ds.any fun e => PyData.eqv e d)) H
open Classical in
theorem in_core {pins : List (Addr × Obj)} {σ : St} {H : Hp} {s : Shared} {x : V} {u : Value} {vs : List V} {d : PyData} {ds : List PyData} {its : List Value} (hu : X.A.units + 200 < cLine) (I : Inv X pins σ H s) (rx : RelV x u) (hd : Dp X.K H x d) (hds : DpAll X.K H vs ds) (c1 : d.canLay0 = true) (c2 : PyData.canLayAll0 ds = true)
    (hm : d.depth ≤ 190) (rv : Vals vs its) : ∃ e : Value → Bool, (∀ y, y ∈ its.toArray → PySem.SeqAt.EqAt X.A.in1 s y u (e y)) ∧ its.toArray.any e = ds.any fun z => PyData.eqv z d := by
  obtain ⟨as, r1⟩ := Dp.reads I d x u hd rx
  obtain ⟨bs, r2⟩ := Dp.readsAll I ds vs its hds rv
  let e : Value → Bool := fun y => decide (∃ dd as, Reads s.heap y dd as ∧ dd.canLay0 = true ∧ PyData.eqv dd d = true)
  have he : ∀ y dd as, Reads s.heap y dd as → dd.canLay0 = true → e y = PyData.eqv dd d := fun y dd as r c => by
    by_cases h : PyData.eqv dd d = true
    · rw [h]; exact decide_eq_true ⟨dd, as, r, c, h⟩
    · have h' : PyData.eqv dd d = false := by simpa using h
      rw [h']
      refine decide_eq_false fun ⟨dd', as', r', c', h2⟩ => h ?_
      rw [PySem.SeqAt.Reads.unique dd dd' y as as' c r r']
      exact h2
  obtain ⟨a1, a2⟩ := any_reads e he r2 c2
  refine ⟨e, fun y hy => ?_, by rw [← a1]; simp⟩
  obtain ⟨dd, as', r, c⟩ := a2 y (by simpa using hy)
  rw [he y dd as' r c]
  refine PySem.SeqAt.eqAt_reads dd d X.A.in1 s y u as' as r r1 c c1 ?_
  show X.A.units + 1 + _ < _
  omega
theorem op_inD (hu : X.A.units + 200 < cLine) : OpR X (compareOp .In) (rInD X.K false) := by
  intro pins s σ H x y v u Q I rx ry h
  obtain ⟨p, vs, d, ds, rfl, hq, hd, hds, c1, c2, hm, q⟩ := h
  cases ry
  rw [Bool.false_xor] at q
  rcases hq with hq | hq
  · obtain ⟨its, rv, pl, _⟩ := I.list hq
    obtain ⟨e, he, ha⟩ := in_core hu I rx hd hds c1 c2 hm rv
    exact PySem.SeqAt.in_listAt e pl.isList he (by rw [ha]; exact ⟨.bl _, H, I, rfl, q⟩)
  · obtain ⟨its, rv, pl, _⟩ := I.tuple hq
    obtain ⟨e, he, ha⟩ := in_core hu I rx hd hds c1 c2 hm rv
    exact PySem.SeqAt.in_tupleAt e pl he (by rw [ha]; exact ⟨.bl _, H, I, rfl, q⟩)
theorem op_notInD (hu : X.A.units + 200 < cLine) : OpR X (compareOp .NotIn) (rInD X.K true) := by
  intro pins s σ H x y v u Q I rx ry h
  obtain ⟨p, vs, d, ds, rfl, hq, hd, hds, c1, c2, hm, q⟩ := h
  cases ry
  rw [Bool.true_xor] at q
  rcases hq with hq | hq
  · obtain ⟨its, rv, pl, _⟩ := I.list hq
    obtain ⟨e, he, ha⟩ := in_core hu I rx hd hds c1 c2 hm rv
    exact PySem.SeqAt.notIn_listAt e pl.isList he (by rw [ha]; exact ⟨.bl _, H, I, rfl, q⟩)
  · obtain ⟨its, rv, pl, _⟩ := I.tuple hq
    obtain ⟨e, he, ha⟩ := in_core hu I rx hd hds c1 c2 hm rv
    exact PySem.SeqAt.notIn_tupleAt e pl he (by rw [ha]; exact ⟨.bl _, H, I, rfl, q⟩)
theorem op_inDict (hu : X.A.units + 1 < cLine) : OpR X (compareOp .In) (fun x y H Q => ∃ a o, y = .ref a ∧ DGet H a x o ∧ Q (.bl o.isSome) H) := by
  intro pins s σ H x y v u Q I rx ry h
  obtain ⟨a, o, rfl, g, q⟩ := h
  obtain rfl : u = Value.ref a := ry
  exact d_in hu I g rx fun s3 I3 => ⟨.bl o.isSome, H, I3, rfl, q⟩
theorem op_notInDict (hu : X.A.units + 1 < cLine) : OpR X (compareOp .NotIn) (fun x y H Q => ∃ a o, y = .ref a ∧ DGet H a x o ∧ Q (.bl (!o.isSome)) H) := by
  intro pins s σ H x y v u Q I rx ry h
  obtain ⟨a, o, rfl, g, q⟩ := h
  obtain rfl : u = Value.ref a := ry
  exact d_notIn hu I g rx fun s3 I3 => ⟨.bl (!o.isSome), H, I3, rfl, q⟩
/-- is x among the items, the keys, the signs? -/
def inS (S : Sto) (a b : SV) : Option Bool := match view S a with
  | some x => match view S b with
    | some (.lst ys) => if x.flat && Dv.flats ys && decide (x.pd.depth ≤ 190) then some ((Dv.pds ys).any fun y => PyData.eqv y x.pd) else none
    | some (.tup ys) => if x.flat && Dv.flats ys && decide (x.pd.depth ≤ 190) then some ((Dv.pds ys).any fun y => PyData.eqv y x.pd) else none
    | some (.str t) => match x with
      | .str s => some (!(Builtin.Str.occurrences t s 0 t.length 1).isEmpty)
      | _ => none
    | _ => match dictOf S b, kOf x with
      | some (ks, xs), some k => some (lookK k ks xs).isSome
      | _, _ => none
  | none => none
def opIn (S : Sto) (a b : SV) : Option Dv := (inS S a b).map .bl
def opNotIn (S : Sto) (a b : SV) : Option Dv := (inS S a b).map fun c => .bl (!c)
theorem inS_rel {K : PySem.W.Frag} {W : Wd} {S : Sto} {H : Hp} {a b : SV} {x y : V} {c : Bool} (r : Rel K cl W S H) (ra : RelSV K cl W S.length a x) (rb : RelSV K cl W S.length b y) (e : inS S a b = some c) :
    (∃ p vs d ds, y = .ref p ∧ (SqL K H p vs ∨ SqT K H p vs) ∧ Dp K H x d ∧ DpAll K H vs ds ∧ d.canLay0 = true ∧ PyData.canLayAll0 ds = true ∧ d.depth ≤ 190 ∧ c = ds.any fun e => PyData.eqv e d) ∨
    (∃ i j, x = .str i ∧ y = .str j ∧ c = !(Builtin.Str.occurrences j i 0 j.length 1).isEmpty) ∨ ∃ p o, y = .ref p ∧ DGet H p x o ∧ c = o.isSome := by
  unfold inS at e
  split at e
  · rename_i z ea
    have dct : (match dictOf S b, kOf z with
      | some (ks, xs), some k => some (lookK k ks xs).isSome
      | _, _ => none) = some c → ∃ p o, y = .ref p ∧ DGet H p x o ∧ c = o.isSome := fun e => by
      split at e
      · rename_i ks xs k ed ek
        cases e
        obtain ⟨p, vs, e1, s1, l1, t1⟩ := dict_rel r ed rb
        refine ⟨p, valV (ks.zip vs) k, e1, .inl ⟨_, k, s1, key_rel r ea ra ek, rfl⟩, ?_⟩
        have lr := look_rel k l1.1 t1
        cases h : lookK k ks xs with
        | none => rw [lr.2 h]; rfl
        | some w =>
          obtain ⟨w', h1, _⟩ := lr.1 w h
          rw [h1]; rfl
      · cases e
    split at e
    · rename_i ys eb
      split at e
      · rename_i hc
        cases e
        simp only [Bool.and_eq_true, decide_eq_true_eq] at hc
        obtain ⟨⟨f1, f2⟩, f3⟩ := hc
        obtain ⟨p, vs, e1, s1, t1⟩ := view_lst r eb rb
        obtain ⟨d1, c1⟩ := view_dp r ea ra f1
        obtain ⟨d2, c2⟩ := RelDs.dp r.fz t1 f2
        exact .inl ⟨p, vs, _, _, e1, .inl s1, d1, d2, c1, c2, f3, rfl⟩
      · cases e
    · rename_i ys eb
      split at e
      · rename_i hc
        cases e
        simp only [Bool.and_eq_true, decide_eq_true_eq] at hc
        obtain ⟨⟨f1, f2⟩, f3⟩ := hc
        obtain ⟨p, vs, e1, s1, t1, _⟩ := view_tup r eb rb
        obtain ⟨d1, c1⟩ := view_dp r ea ra f1
        obtain ⟨d2, c2⟩ := RelDs.dp r.fz t1 f2
        exact .inl ⟨p, vs, _, _, e1, .inr s1, d1, d2, c1, c2, f3, rfl⟩
      · cases e
    · rename_i t eb
      split at e
      · rename_i s
        cases e
        exact .inr (.inl ⟨s, t, (view_str r ea ra).1, (view_str r eb rb).1, rfl⟩)
      · cases e
    · exact .inr (.inr (dct e))
  · cases e
theorem ov_in (hu : X.A.units + 200 < cLine) : OpR X (compareOp .In) (ROp X cl opIn) := OpR.weak ((op_inD hu).or (op_in_str.or (op_inDict (by omega)))) fun x y H Q ⟨W, S, a, b, z, r, ra, rb, e, k⟩ => by
  unfold opIn at e
  cases h : inS S a b with
  | none => rw [h] at e; cases e
  | some c =>
    rw [h] at e
    cases e
    have q := k W H _ (.refl _ _) r (.bl c)
    rcases inS_rel r ra rb h with ⟨p, vs, d, ds, e1, s1, d1, d2, c1, c2, f3, rfl⟩ | ⟨i, j, e1, e2, rfl⟩ | ⟨p, o, e1, g, rfl⟩
    · exact .inl ⟨p, vs, d, ds, e1, s1, d1, d2, c1, c2, f3, by rw [Bool.false_xor]; exact q⟩
    · exact .inr (.inl ⟨i, j, e1, e2, q⟩)
    · exact .inr (.inr ⟨p, o, e1, g, q⟩)
theorem ov_notIn (hu : X.A.units + 200 < cLine) : OpR X (compareOp .NotIn) (ROp X cl opNotIn) := OpR.weak ((op_notInD hu).or (op_notin_str.or (op_notInDict (by omega)))) fun x y H Q ⟨W, S, a, b, z, r, ra, rb, e, k⟩ => by
  unfold opNotIn at e
  cases h : inS S a b with
  | none => rw [h] at e; cases e
  | some c =>
    rw [h] at e
    cases e
    have q := k W H _ (.refl _ _) r (.bl (!c))
    rcases inS_rel r ra rb h with ⟨p, vs, d, ds, e1, s1, d1, d2, c1, c2, f3, rfl⟩ | ⟨i, j, e1, e2, rfl⟩ | ⟨p, o, e1, g, rfl⟩
    · exact .inl ⟨p, vs, d, ds, e1, s1, d1, d2, c1, c2, f3, by rw [Bool.true_xor]; exact q⟩
    · exact .inr (.inl ⟨i, j, e1, e2, q⟩)
    · exact .inr (.inr ⟨p, o, e1, g, q⟩)
end
end Ev

set_option Elab.async false
set_option linter.all false
set_option maxRecDepth 100000
/-! Ev6: built-in functions, isinstance, attributes, calls. -/
namespace Ev
open PySem L2

def RCall (X : Cx) (cl : Nat → Addr) (g : Sto → List SV → Option Dv) : List V → Hp → VK → Prop := fun xs H Q => ∃ W S as z, Rel X.K cl W S H ∧ Paired (RelSV X.K cl W S.length) as xs ∧ g S as = some z ∧
  ∀ W' H' v, Le S.length W W' → Rel X.K cl W' S H' → RelD X.K cl W'.G z v → Q v H'
def eBi (g : Sto → List SV → Option Dv) (f : Fr → Sto → Res (List SV)) : Fr → Sto → Res SV := fun F S => (f F S).bind fun xs S1 => match g S1 xs with
  | some z => .ok (.d z) S1
  | none => .bad
section
variable {X : Cx} {cl : CL} {Wx : WX} {e : Expr} {es : List Expr} {f : Fr → Sto → Res (List SV)} {p pos : Pos} {x : Str}
theorem eBi_use {g : Sto → List SV → Option Dv} {σ : St} {H : Hp} {Q : VK} (q : RE X cl Wx (eBi g f) σ H Q) : tCB (RCall X cl g) (RA X cl Wx f) σ H Q := by
  obtain ⟨W, F, S, a, q⟩ := q
  refine RA.of a q fun W1 S1 xs vs H1 g1 l1 a1 q1 o1 => ?_
  cases z : g S1 xs with
  | none => simp only [z] at o1; exact o1.elim
  | some w =>
    simp only [z] at o1
    exact ⟨W1, S1, xs, w, a1.rel, q1, z, fun W' H' v l r q => o1 W' H' v (.refl _ _) l r q⟩
theorem ev_bi {id : String} {g : Sto → List SV → Option Dv} (hc : CallR X (.builtin id) (RCall X cl g)) (hg : Gl X x) (hm : X.mg x = none) (hv : bootBuiltins x = some (.builtin id)) (ha : PA X (e :: es) (RA X cl Wx f)) (hn : x ≠ "__name__" := by decide +kernel) (hdb : (x == ("__debug__" : Str)) = false := by decide +kernel)
    (he : starEach (e :: es) X.env = (false, eval e X.env) :: starEach es X.env := by rfl) (hpl : (backTo pos (starEach es X.env)).any (·.1) = false := by rfl) : PE X (.Call (.Name x p) (e :: es) [] pos) (RE X cl Wx (eBi g f)) :=
  PE.weak (pe_callB hc hg hm hv ha hn hdb he hpl) fun _ _ _ q => eBi_use q
theorem ev_ty {T : String} {g : Sto → List SV → Option Dv} (hc : CallR X (.type T) (RCall X cl g)) (hg : Gl X x) (hm : X.mg x = none) (hv : bootBuiltins x = some (.type T)) (ha : PA X (e :: es) (RA X cl Wx f)) (hn : x ≠ "__name__" := by decide +kernel) (hdb : (x == ("__debug__" : Str)) = false := by decide +kernel)
    (he : starEach (e :: es) X.env = (false, eval e X.env) :: starEach es X.env := by rfl) (hpl : (backTo pos (starEach es X.env)).any (·.1) = false := by rfl) : PE X (.Call (.Name x p) (e :: es) [] pos) (RE X cl Wx (eBi g f)) :=
  PE.weak (pe_callTy hc hg hm hv ha hn hdb he hpl) fun _ _ _ q => eBi_use q

/-! len, abs, max, min, int, str -/
def biLen (S : Sto) : List SV → Option Dv
  | [a] => match itemsOf S a with
    | some xs => some (.int xs.length)
    | none => match dictOf S a with
      | some (ks, _) => some (.int ks.length)
      | none => match a with
        | .d (.str z) => if z.length ≤ most then some (.int z.length) else none
        | _ => none
  | _ => none
theorem CallR.or {f : Value} {r r' : List V → Hp → VK → Prop} (h : CallR X f r) (h' : CallR X f r') : CallR X f (fun x H Q => r x H Q ∨ r' x H Q) := by
  intro pins s σ H x us Q I h1 q
  rcases q with q | q
  · exact h pins s σ H x us Q I h1 q
  · exact h' pins s σ H x us Q I h1 q
theorem call_lenR : CallR X (.builtin "len") (fun xs H Q => ∃ a kvs, xs = [V.ref a] ∧ Rd H a (.dK kvs) ∧ Q (.int kvs.length) H) := by
  intro pins s σ H xs us Q I r h
  obtain ⟨a, kvs, rfl, ha, q⟩ := h
  obtain ⟨u, rfl, ru⟩ := vals1 r
  cases ru
  exact d_len I ha fun t s' I' => ⟨.int kvs.length, H, I', ⟨t, rfl⟩, q⟩
theorem ov_len : CallR X (.builtin "len") (RCall X cl biLen) := CallR.weak (CallR.or (call_len (X := X)) call_lenR) fun xs H Q ⟨W, S, as, z, r, ra, e, k⟩ => by
  match as, xs, ra, e with
  | [a], [v], .cons ra .nil, e =>
    simp only [biLen] at e
    split at e
    · rename_i ys ea
      cases e
      obtain ⟨p, vs, rfl, s1, t1⟩ := items_rel r ea ra
      have hl := PySem.Paired.length t1
      refine .inl ⟨.ref p, ys.length, rfl, ?_, k W H _ (.refl _ _) r (.int _)⟩
      rcases s1 with s1 | s1
      · exact .inl ⟨vs, s1, hl⟩
      · exact .inr ⟨vs, s1, hl⟩
    · split at e
      · rename_i ks ys ed
        cases e
        obtain ⟨p, vs, rfl, h1, h2, h3⟩ := dict_rel r ed ra
        have hz : (ks.zip vs).length = ks.length := by
          rw [List.length_zip, ← PySem.Paired.length h3, ← h2.1, Nat.min_self]
        exact .inr ⟨_, _, rfl, h1, by rw [hz]; exact k W H _ (.refl _ _) r (.int _)⟩
      · split at e
        · rename_i z _ _
          split at e
          · rename_i hm
            cases e
            cases ra
            exact .inl ⟨.str z, z.length, rfl, ⟨hm, rfl⟩, k W H _ (.refl _ _) r (.int _)⟩
          · cases e
        · cases e
def biAbs (S : Sto) : List SV → Option Dv
  | [.d (.int i)] => some (.int (if i < 0 then -i else i))
  | _ => none
theorem ov_abs : CallR X (.builtin "abs") (RCall X cl biAbs) := CallR.weak call_abs fun xs H Q ⟨W, S, as, z, r, ra, e, k⟩ => by
  unfold biAbs at e
  split at e
  · rename_i i
    cases e
    cases ra with
    | cons ra t =>
      cases t
      cases ra
      exact ⟨i, rfl, k W H _ (.refl _ _) r (.int _)⟩
  · cases e
def biMax (S : Sto) : List SV → Option Dv
  | [.d (.int i), .d (.int j)] => some (.int (if j > i then j else i))
  | [.d (.int a), .d (.int b), .d (.int c)] => some (.int (if b > a then (if c > b then c else b) else (if c > a then c else a)))
  | _ => none
def biMin (S : Sto) : List SV → Option Dv
  | [.d (.int i), .d (.int j)] => some (.int (if j < i then j else i))
  | [.d (.int a), .d (.int b), .d (.int c)] => some (.int (if b < a then (if c < b then c else b) else (if c < a then c else a)))
  | _ => none
theorem vals3 {x y z : V} {us : List Value} (r : Vals [x, y, z] us) : ∃ u v w, us = [u, v, w] ∧ RelV x u ∧ RelV y v ∧ RelV z w := by
  match us, r with
  | [u, v, w], .cons a (.cons b (.cons c .nil)) => exact ⟨u, v, w, rfl, a, b, c⟩
theorem call_max3 (hc : X.calm = true) : CallR X (.builtin "max") (fun xs H Q => ∃ a b c, xs = [.int a, .int b, .int c] ∧ Q (.int (if b > a then (if c > b then c else b) else (if c > a then c else a))) H) := by
  intro pins s σ H xs us Q I r h
  obtain ⟨a, b, c, rfl, q⟩ := h
  obtain ⟨u, v, w, rfl, ⟨t, rfl⟩, ⟨t', rfl⟩, ⟨t'', rfl⟩⟩ := vals3 r
  refine PySem.max_three_ints (I.ok.hd hc) fun h' tk k => ⟨_, H, I.kept k, ?_, q⟩
  by_cases h1 : b > a
  · rw [if_pos h1, if_pos h1]
    by_cases h2 : c > b
    · rw [if_pos h2, if_pos h2]; exact ⟨_, rfl⟩
    · rw [if_neg h2, if_neg h2]; exact ⟨_, rfl⟩
  · rw [if_neg h1, if_neg h1]
    by_cases h2 : c > a
    · rw [if_pos h2, if_pos h2]; exact ⟨_, rfl⟩
    · rw [if_neg h2, if_neg h2]; exact ⟨_, rfl⟩
theorem call_min3 (hc : X.calm = true) : CallR X (.builtin "min") (fun xs H Q => ∃ a b c, xs = [.int a, .int b, .int c] ∧ Q (.int (if b < a then (if c < b then c else b) else (if c < a then c else a))) H) := by
  intro pins s σ H xs us Q I r h
  obtain ⟨a, b, c, rfl, q⟩ := h
  obtain ⟨u, v, w, rfl, ⟨t, rfl⟩, ⟨t', rfl⟩, ⟨t'', rfl⟩⟩ := vals3 r
  refine PySem.min_three_ints (I.ok.hd hc) fun h' tk k => ⟨_, H, I.kept k, ?_, q⟩
  by_cases h1 : b < a
  · rw [if_pos h1, if_pos h1]
    by_cases h2 : c < b
    · rw [if_pos h2, if_pos h2]; exact ⟨_, rfl⟩
    · rw [if_neg h2, if_neg h2]; exact ⟨_, rfl⟩
  · rw [if_neg h1, if_neg h1]
    by_cases h2 : c < a
    · rw [if_pos h2, if_pos h2]; exact ⟨_, rfl⟩
    · rw [if_neg h2, if_neg h2]; exact ⟨_, rfl⟩
theorem ov_max (hc : X.calm = true) : CallR X (.builtin "max") (RCall X cl biMax) := CallR.weak ((call_max2 hc).or (call_max3 hc)) fun xs H Q ⟨W, S, as, z, r, ra, e, k⟩ => by
  unfold biMax at e
  split at e
  · cases e
    match xs, ra with
    | _, .cons r1 (.cons r2 .nil) => cases r1; cases r2; exact .inl ⟨_, _, rfl, k W H _ (.refl _ _) r (.int _)⟩
  · cases e
    match xs, ra with
    | _, .cons r1 (.cons r2 (.cons r3 .nil)) => cases r1; cases r2; cases r3; exact .inr ⟨_, _, _, rfl, k W H _ (.refl _ _) r (.int _)⟩
  · cases e
theorem ov_min (hc : X.calm = true) : CallR X (.builtin "min") (RCall X cl biMin) := CallR.weak ((call_min2 hc).or (call_min3 hc)) fun xs H Q ⟨W, S, as, z, r, ra, e, k⟩ => by
  unfold biMin at e
  split at e
  · cases e
    match xs, ra with
    | _, .cons r1 (.cons r2 .nil) => cases r1; cases r2; exact .inl ⟨_, _, rfl, k W H _ (.refl _ _) r (.int _)⟩
  · cases e
    match xs, ra with
    | _, .cons r1 (.cons r2 (.cons r3 .nil)) => cases r1; cases r2; cases r3; exact .inr ⟨_, _, _, rfl, k W H _ (.refl _ _) r (.int _)⟩
  · cases e
def biInt (S : Sto) : List SV → Option Dv
  | [.d (.int i)] => some (.int i)
  | [.d (.bl b)] => some (.int (if b then 1 else 0))
  | _ => none
theorem ov_intc : CallR X (.type "int") (RCall X cl biInt) := CallR.weak call_int1 fun xs H Q ⟨W, S, as, z, r, ra, e, k⟩ => by
  unfold biInt at e
  split at e
  · cases e
    match xs, ra with
    | _, .cons r1 .nil => cases r1; exact .inl ⟨_, rfl, k W H _ (.refl _ _) r (.int _)⟩
  · cases e
    match xs, ra with
    | _, .cons r1 .nil => cases r1; exact .inr ⟨_, rfl, k W H _ (.refl _ _) r (.int _)⟩
  · cases e
theorem strOk_of (s : String) : PyData.strOk (Str.ofString s) = true := by
  rw [Str.ofString_eq_toList]
  unfold PyData.strOk
  rw [Array.all_eq_true']
  intro c hc
  rw [List.mem_toArray, List.mem_map] at hc
  obtain ⟨ch, _, rfl⟩ := hc
  have h := ch.valid
  refine decide_eq_true ?_
  rcases h with h | ⟨_, h⟩
  · exact Nat.lt_of_lt_of_le h (by decide)
  · exact h
def biStr (S : Sto) : List SV → Option Dv
  | [.d (.int i)] => if i.natAbs.log2 < 1920 then some (.str (Str.ofString (toString i))) else none
  | _ => none
theorem ov_str : CallR X (.type "str") (RCall X cl biStr) := CallR.weak call_str_int fun xs H Q ⟨W, S, as, z, r, ra, e, k⟩ => by
  unfold biStr at e
  split at e
  · split at e
    · rename_i hz
      cases e
      match xs, ra with
      | _, .cons r1 .nil => cases r1; exact ⟨_, rfl, hz, k W H _ (.refl _ _) r (.str _ (strOk_of _))⟩
    · cases e
  · cases e
/-! list(x), tuple(x): a new list that nobody changes -/
def biList (S : Sto) : List SV → Option Dv
  | [a] => match view S a with
    | some (.lst xs) => some (.lst xs)
    | some (.tup xs) => some (.lst xs)
    | _ => none
  | _ => none
def biTuple (S : Sto) : List SV → Option Dv
  | [a] => match view S a with
    | some (.lst xs) => some (.tup xs)
    | some (.tup xs) => some (.tup xs)
    | _ => none
  | _ => none
theorem ov_list : CallR X (.type "list") (RCall X cl biList) := CallR.weak call_list_of fun xs H Q ⟨W, S, as, z, r, ra, e, k⟩ => by
  match as, xs, ra, e with
  | [a], [v], .cons ra .nil, e =>
    simp only [biList] at e
    split at e
    · rename_i ys ea
      cases e
      obtain ⟨p, vs, rfl, s1, t1⟩ := view_lst r ea ra
      exact ⟨p, vs, rfl, .inl s1, new_lst r t1 k⟩
    · rename_i ys ea
      cases e
      obtain ⟨p, vs, rfl, s1, t1, _⟩ := view_tup r ea ra
      exact ⟨p, vs, rfl, .inr s1, new_lst r t1 k⟩
    · cases e
theorem ov_tuple : CallR X (.type "tuple") (RCall X cl biTuple) := CallR.weak call_tuple_of fun xs H Q ⟨W, S, as, z, r, ra, e, k⟩ => by
  match as, xs, ra, e with
  | [a], [v], .cons ra .nil, e =>
    simp only [biTuple] at e
    split at e
    · rename_i ys ea
      cases e
      obtain ⟨p, vs, rfl, s1, t1⟩ := view_lst r ea ra
      exact ⟨p, vs, rfl, .inl ⟨s1, new_tup r t1 k⟩⟩
    · rename_i ys ea
      cases e
      obtain ⟨p, vs, rfl, s1, t1, q1⟩ := view_tup r ea ra
      exact ⟨p, vs, rfl, .inr ⟨s1, k W H _ (.refl _ _) r q1⟩⟩
    · cases e
end
/-- list(x): a list that will change -/
def eListM (f : Fr → Sto → Res (List SV)) : Fr → Sto → Res SV := fun F S => (f F S).bind fun as S1 => match as with
  | [a] => match itemsOf S1 a with
    | some xs => .ok (.m S1.length) (S1 ++ [.lst xs])
    | none => .bad
  | _ => .bad
section
variable {X : Cx} {cl : CL} {Wx : WX} {e : Expr} {es : List Expr} {f : Fr → Sto → Res (List SV)} {p pos : Pos} {x : Str}
theorem ev_listM (hg : Gl X "list") (hm : X.mg "list" = none) (ha : PA X (e :: es) (RA X cl Wx f))
    (he : starEach (e :: es) X.env = (false, eval e X.env) :: starEach es X.env := by rfl) (hpl : (backTo pos (starEach es X.env)).any (·.1) = false := by rfl) : PE X (.Call (.Name "list" p) (e :: es) [] pos) (RE X cl Wx (eListM f)) :=
  PE.weak (pe_callTy call_list_of hg hm (by decide +kernel) ha (by decide +kernel) (by decide +kernel) he hpl) fun σ H Q ⟨W, F, S, a, q⟩ => by
    refine RA.of a q fun W1 S1 xs vs H1 g1 l1 a1 q1 o1 => ?_
    match xs, vs, q1, o1 with
    | [y], [v], .cons q1 .nil, o1 =>
      simp only at o1
      split at o1
      · rename_i ys ey
        obtain ⟨p, ws, rfl, s1, t1⟩ := items_rel a1.rel ey q1
        refine ⟨p, ws, rfl, s1, fun l hl => ?_⟩
        have r3 := a1.rel.newM (mo := .lst ys) (ho := .lst ws) hl ⟨a1.rel.unone hl, ws, upd_same, RelSVs.le (W1.add_le _ _) (Nat.le_succ _) t1⟩
        exact o1 _ _ _ (.add _ _ _ a1.b) (W1.add_le _ _) r3 ⟨by rw [List.length_append]; exact Nat.lt_succ_self _, by rw [Wd.add_at]⟩
      · exact o1.elim
end
end Ev

set_option Elab.async false
set_option linter.all false
set_option maxRecDepth 100000
/-! Ev7: isinstance, attributes, calls of one's own. -/
namespace Ev
open PySem L2

/-! ### isinstance -/
inductive Ty where
  | non | bl | int | str | tup | lst | dic | own (c : Nat)
  deriving DecidableEq
def Dv.ty : Dv → Ty
  | .non => .non | .bl _ => .bl | .int _ => .int | .str _ => .str | .tup _ => .tup | .lst _ => .lst | .dic _ _ => .dic | .ins c _ _ => .own c
def tyS (S : Sto) : SV → Option Ty
  | .d x => some x.ty
  | .m i => match S[i]? with
    | some (.lst _) => some .lst | some (.dic _ _) => some .dic | some (.ins c _ _) => some (.own c) | some (.frz x) => some x.ty
    | some (.tup _) => some .tup | some (.lck _ _) => some .dic
    | none => none
def Ty.v (cl : Nat → Addr) : Ty → Value
  | .non => .type "NoneType" | .bl => .type "bool" | .int => .type "int" | .str => .type "str" | .tup => .type "tuple" | .lst => .type "list" | .dic => .type "dict" | .own c => .ref (cl c)
/-- what isinstance wants of one's own class -/
structure OwnC (K : PySem.W.Frag) (C : Addr) : Prop where
  cls : Cls K C
  ha : PySem.W.findIn K (.ref C) "__class__" = some (some (.builtin "object.__class__"))
  hn : PySem.W.specialIn K (.builtin "object.__class__") "__get__" = some (some (.builtin "getset_descriptor.__get__"))
  htk : PySem.W.takesIn K (.builtin "object.__class__") = some true
  hm : PySem.W.mroIn K C (.type "object") = some true
section
variable {K : PySem.W.Frag} {cl : Nat → Addr} {W : Wd} {S : Sto} {H : Hp} {n : Nat}
theorem sql_ty {a : Addr} {vs : List V} (h : SqL K H a vs) : TyX K H (.ref a) (.type "list") := by
  rcases h with (h | ⟨o, h⟩) | ⟨o, _, _, h, c, _⟩
  · exact .base (.lst h)
  · exact .base (.frz h)
  · exact .kList h c
theorem sqt_ty {a : Addr} {vs : List V} (h : SqT K H a vs) : TyX K H (.ref a) (.type "tuple") := by
  rcases h with (h | ⟨o, h⟩) | ⟨o, _, _, h, c, _⟩
  · exact .base (.tup h)
  · exact .fTuple h
  · exact .kTuple h c
theorem rd_ty {a : Addr} {kvs : List (Key × V)} (h : Rd H a (.dK kvs)) : TyX K H (.ref a) (.type "dict") := by
  rcases h with h | ⟨o, h⟩
  · exact .base (.dK h)
  · exact .fDict h
theorem reld_ty (fz : ∀ a o, W.G a = some o → H a = some o) {x : Dv} (hc : ∀ c, x.ty = .own c → OwnC K (cl c)) {v : V} (r : RelD K cl W.G x v) : TyX K H v (x.ty.v cl) := by
  cases r with
  | non => exact .base .non
  | bl b => exact .base (.bl b)
  | int i => exact .base (.int i)
  | str s _ => exact .base (.str s)
  | tup h t => exact sqt_ty (SqT.up fz h)
  | lst h t => exact sql_ty (SqL.up fz h)
  | dic h c l t => exact rd_ty (Rd_of_core (fz _ _ h) c)
  | @ins a dx c fs xs vs h l t =>
    have o := hc c rfl
    exact .base (.ins (fz _ _ h) o.cls o.ha o.hn o.htk o.hm)
theorem ty_rel (r : Rel K cl W S H) {a : SV} {t : Ty} (hc : ∀ c, t = .own c → OwnC K (cl c)) {v : V} (e : tyS S a = some t) (q : RelSV K cl W n a v) : TyX K H v (t.v cl) := by
  cases a with
  | d x => cases e; exact reld_ty r.fz hc q
  | m i =>
    obtain ⟨_, rfl⟩ := q
    simp only [tyS] at e
    split at e
    · rename_i xs hx; cases e; obtain ⟨_, _, h, _⟩ := r.st i _ hx; exact .base (.lst h)
    · rename_i ks xs hx; cases e; obtain ⟨_, _, h, _⟩ := r.st i _ hx; exact .base (.dK h)
    · rename_i c fs xs hx; cases e; obtain ⟨_, _, _, h, _⟩ := r.st i _ hx
      have o := hc c rfl
      exact .base (.ins h o.cls o.ha o.hn o.htk o.hm)
    · rename_i x hx; cases e; exact reld_ty r.fz hc (r.st i _ hx)
    · rename_i xs hx; cases e; obtain ⟨_, _, h, _⟩ := r.st i _ hx; exact .base (.tup h)
    · rename_i ks xs hx; cases e; obtain ⟨_, _, _, h, _⟩ := r.st i _ hx; exact rd_ty (.inr ⟨_, h.1⟩)
    · cases e
end
/-- isinstance(e, T) -/
def eIsi (ans : Ty → Option Bool) (f : Fr → Sto → Res SV) : Fr → Sto → Res SV := fun F S => (f F S).bind fun x S1 => match tyS S1 x with
  | some t => match ans t with
    | some b => .ok (.d (.bl b)) S1
    | none => .bad
  | none => .bad
section
variable {X : Cx} {cl : CL} {Wx : WX} {e : Expr} {es : List Expr} {f : Fr → Sto → Res SV} {p pos : Pos} {x : Str}
theorem eIsi_use {ans : Ty → Option Bool} {σ : St} {H : Hp} {Q : VK} (hc : ∀ c, (ans (.own c)).isSome = true → OwnC X.K (cl c)) {P : V → Hp → Prop} (q : RE X cl Wx (eIsi ans f) σ H Q) (k : ∀ v H1 t b, TyX X.K H1 v (Ty.v cl t) → ans t = some b → Q (.bl b) H1 → P v H1) : RE X cl Wx f σ H P := by
  obtain ⟨W, F, S, a, q⟩ := q
  refine RE.of a q fun W1 S1 y v H1 g1 l1 a1 q1 o1 => ?_
  split at o1
  · rename_i t et
    split at o1
    · rename_i b eb
      exact k v H1 t b (ty_rel a1.rel (fun c ec => hc c (by rw [← ec, eb]; rfl)) et q1) eb (o1.here a1.rel (RelD.bl b))
    · exact o1.elim
  · exact o1.elim
/-- a built-in class -/
theorem ev_isi {T : String} {pc : Pos} {xc : Str} {ans : Ty → Option Bool} (hc : ∀ c, (ans (.own c)).isSome = true → OwnC X.K (cl c)) (hg : Gl X "isinstance") (hm : X.mg "isinstance" = none) (ha : PE X e (RE X cl Wx f)) (hgc : Gl X xc) (hmc : X.mg xc = none) (hv : bootBuiltins xc = some (.type T)) (hk : ∀ t b, ans t = some b → PySem.W.kitOne X.K (t.v cl) (.type T) = some b)
    (h1 : xc ≠ "__name__" := by decide +kernel) (h2 : (xc == ("__debug__" : Str)) = false := by decide +kernel)
    (he : starEach [e, .Name xc pc] X.env = (false, eval e X.env) :: starEach [.Name xc pc] X.env := by rfl) : PE X (.Call (.Name "isinstance" p) [e, .Name xc pc] [] pos) (RE X cl Wx (eIsi ans f)) :=
  PE.weak (pe_callB call_isi hg hm (by decide +kernel) (pa_cons ha (pa_cons (pe_bltn (v := .ty T) hgc hmc hv rfl h1 h2) pa_nil) he) (by decide +kernel) (by decide +kernel) he (by rfl)) fun σ H Q q =>
    eIsi_use hc q fun v H1 t b ty eb q => ⟨v, .ty T, _, _, b, rfl, .ty T, ty, hk t b eb, q⟩
/-- one's own class -/
theorem ev_isiC {pc : Pos} {xc : Str} {C : Addr} {ans : Ty → Option Bool} (hc : ∀ c, (ans (.own c)).isSome = true → OwnC X.K (cl c)) (hg : Gl X "isinstance") (hm : X.mg "isinstance" = none) (ha : PE X e (RE X cl Wx f)) (hgc : Gl X xc) (hmc : X.mg xc = some (.ref C)) (hk : ∀ t b, ans t = some b → PySem.W.kitOne X.K (t.v cl) (.ref C) = some b)
    (h2 : (xc == ("__debug__" : Str)) = false := by decide +kernel)
    (he : starEach [e, .Name xc pc] X.env = (false, eval e X.env) :: starEach [.Name xc pc] X.env := by rfl) : PE X (.Call (.Name "isinstance" p) [e, .Name xc pc] [] pos) (RE X cl Wx (eIsi ans f)) :=
  PE.weak (pe_callB call_isi hg hm (by decide +kernel) (pa_cons ha (pa_cons (pe_glob (v := .ref C) hgc hmc rfl h2) pa_nil) he) (by decide +kernel) (by decide +kernel) he (by rfl)) fun σ H Q q =>
    eIsi_use hc q fun v H1 t b ty eb q => ⟨v, .ref C, _, _, b, rfl, .own C, ty, hk t b eb, q⟩
/-- two built-in classes -/
theorem ev_isi2 {T T' : String} {pc pc' pt : Pos} {kt : Nat} {xc xc' : Str} {ans : Ty → Option Bool} (hc : ∀ c, (ans (.own c)).isSome = true → OwnC X.K (cl c)) (hg : Gl X "isinstance") (hm : X.mg "isinstance" = none) (ha : PE X e (RE X cl Wx f)) (hgc : Gl X xc) (hmc : X.mg xc = none) (hv : bootBuiltins xc = some (.type T))
    (hgc' : Gl X xc') (hmc' : X.mg xc' = none) (hv' : bootBuiltins xc' = some (.type T')) (hk : ∀ t b, ans t = some b → PySem.W.kitAny X.K (t.v cl) [.type T, .type T'] = some b)
    (h1 : xc ≠ "__name__" := by decide +kernel) (h2 : (xc == ("__debug__" : Str)) = false := by decide +kernel) (h1' : xc' ≠ "__name__" := by decide +kernel) (h2' : (xc' == ("__debug__" : Str)) = false := by decide +kernel)
    (he : starEach [e, .Tuple [.Name xc pc, .Name xc' pc'] kt pt] X.env = (false, eval e X.env) :: starEach [.Tuple [.Name xc pc, .Name xc' pc'] kt pt] X.env := by rfl) :
    PE X (.Call (.Name "isinstance" p) [e, .Tuple [.Name xc pc, .Name xc' pc'] kt pt] [] pos) (RE X cl Wx (eIsi ans f)) :=
  PE.weak (pe_callB call_isiT hg hm (by decide +kernel) (pa_cons ha (pa_cons (pe_tup (pa_cons (pe_bltn (v := .ty T) hgc hmc hv rfl h1 h2) (pa_cons (pe_bltn (v := .ty T') hgc' hmc' hv' rfl h1' h2') pa_nil))) pa_nil) he) (by decide +kernel) (by decide +kernel) he (by rfl)) fun σ H Q ⟨W, F, S, a, q⟩ => by
    refine RE.of a q fun W1 S1 y v H1 g1 l1 a1 q1 o1 => ?_
    split at o1
    · rename_i t et
      split at o1
      · rename_i b eb
        refine ⟨by show 2 ≤ sizeLine; decide, fun tp htp => ?_⟩
        obtain ⟨r3, l3⟩ := a1.rel.newF (ho := .tup [.ty T, .ty T']) htp
        exact ⟨v, tp, _, _, _, b, rfl, upd_same, .cons (.ty T) (.cons (.ty T') .nil), ty_rel r3 (fun c ec => hc c (by rw [← ec, eb]; rfl)) et (RelSV.le l3 (Nat.le_refl _) q1), hk t b eb, o1 _ _ _ (.refl _ _) l3 r3 (RelD.bl b)⟩
      · exact o1.elim
    · exact o1.elim
end

/-! ### attributes -/
def instOf (S : Sto) : SV → Option (Nat × List Str × List SV)
  | .d (.ins c fs xs) => some (c, fs, xs.map .d)
  | .d _ => none
  | .m i => match S[i]? with
    | some (.ins c fs xs) => some (c, fs, xs)
    | some (.frz (.ins c fs xs)) => some (c, fs, xs.map .d)
    | _ => none
def lookF {α : Type} (f : Str) : List Str → List α → Option α
  | a :: fs, x :: xs => if f = a then some x else lookF f fs xs
  | _, _ => none
theorem inst_rel {K : PySem.W.Frag} {cl : Nat → Addr} {W : Wd} {S : Sto} {H : Hp} (r : Rel K cl W S H) {a : SV} {c : Nat} {fs : List Str} {xs : List SV} {v : V} (e : instOf S a = some (c, fs, xs)) (q : RelSV K cl W S.length a v) :
    ∃ p dx vs, v = .ref p ∧ H p = some (.ins (cl c) dx (fs.zip vs)) ∧ fs.length = xs.length ∧ Paired (RelSV K cl W S.length) xs vs := by
  cases a with
  | d y =>
    cases y <;> first | (cases e; done) | skip
    cases e; cases q with
    | ins h l t => exact ⟨_, _, _, rfl, r.fz _ _ h, by rw [List.length_map]; exact l, t.sv⟩
  | m i =>
    obtain ⟨_, rfl⟩ := q
    simp only [instOf] at e
    split at e
    · rename_i c' fs' ys hy
      cases e
      obtain ⟨_, vs, dx, h1, h3, h2⟩ := r.st i _ hy
      exact ⟨_, dx, vs, rfl, h1, h3, h2⟩
    · rename_i c' fs' ys hy
      cases e
      have := r.st i _ hy
      cases this with
      | ins h l t => exact ⟨_, _, _, rfl, r.fz _ _ h, by rw [List.length_map]; exact l, t.sv⟩
    · cases e
theorem lookF_rel {R : SV → V → Prop} (f : Str) : ∀ {fs : List Str} {xs : List SV} {vs : List V}, fs.length = xs.length → Paired R xs vs →
    (∀ x, lookF f fs xs = some x → ∃ v, (fs.zip vs).lookup f = some v ∧ R x v) ∧ (lookF f fs xs = none → (fs.zip vs).lookup f = none)
  | [], [], [], _, .nil => ⟨fun _ e => (by cases e), fun _ => rfl⟩
  | a :: fs, x :: xs, v :: vs, l, .cons q t => by
    obtain ⟨i1, i2⟩ := lookF_rel f (Nat.succ.inj l) t
    unfold lookF
    rw [List.zip_cons_cons, List.lookup_cons]
    by_cases h : f = a
    · rw [if_pos h]
      have hb : (f == a) = true := beq_iff_eq.mpr h
      simp only [hb]
      exact ⟨fun y e => (by cases e; exact ⟨v, rfl, q⟩), fun e => (by cases e)⟩
    · rw [if_neg h]
      have hb : (f == a) = false := beq_eq_false_iff_ne.mpr h
      simp only [hb]
      exact ⟨i1, i2⟩
  | [], _ :: _, _, l, _ => by cases l
  | _ :: _, [], _, l, _ => by cases l
def eFld (cs : List Nat) (nm : Str) (f : Fr → Sto → Res SV) : Fr → Sto → Res SV := fun F S => (f F S).bind fun a S1 => match instOf S1 a with
  | some (c, fs, xs) => if cs.contains c then match lookF nm fs xs with
    | some x => .ok x S1
    | none => .bad
    else .bad
  | none => .bad
section
variable {X : Cx} {cl : CL} {Wx : WX} {e : Expr} {es : List Expr} {f : Fr → Sto → Res SV} {p pos : Pos} {x : Str}
theorem ev_fld {cs : List Nat} {nm : Str} (hc : ∀ c, c ∈ cs → Cls X.K (cl c) ∧ NoAttr X.K (cl c) nm) (ha : PE X e (RE X cl Wx f)) (hb : attributeBase e nm X.env (eval e X.env) = eval e X.env := by rfl) : PE X (.Attribute e nm pos) (RE X cl Wx (eFld cs nm f)) :=
  PE.weak (pe_fld ha hb) fun σ H Q ⟨W, F, S, a, q⟩ => by
    refine RE.of a q fun W1 S1 y v H1 g1 l1 a1 q1 o1 => ?_
    split at o1
    · rename_i c fs xs ey
      split at o1
      · rename_i hcs
        obtain ⟨p, dx, vs, rfl, h1, h2, h3⟩ := inst_rel a1.rel ey q1
        split at o1
        · rename_i w ew
          obtain ⟨u, e1, r1⟩ := (lookF_rel nm h2 h3).1 w ew
          obtain ⟨c1, c2⟩ := hc c (by simpa using hcs)
          exact ⟨p, cl c, dx, _, u, rfl, h1, c1, c2, e1, o1.here a1.rel r1⟩
        · exact o1.elim
      · exact o1.elim
    · exact o1.elim
end

/-! ### a def's promise, its call -/
def SpR (K : PySem.W.Frag) (cl : Nat → Addr) (g : Nat → List SV → Sto → Res SV) : Sp := fun vs H Q E => ∃ W S as b, b ≤ S.length ∧ Rel K cl W S H ∧ Paired (RelSV K cl W S.length) as vs ∧ Out K cl (fun c d _ H => E c d H) (RSV K cl) b W S [] (g b as S) Q
/-- the call's end: what it hands back is frozen, what it made is dropped -/
def fin (n : Nat) : Res SV → Res SV
  | .ok x S => match freeze S x with
    | some (y, S1) => .ok (.d y) (S1.take n)
    | none => .bad
  | .ex e S => .ex e (S.take n)
  | .bad => .bad
/-- .. is kept -/
def finK (n : Nat) : Res SV → Res SV
  | .ok x S => .ok x S
  | .ex e S => .ex e (S.take n)
  | .bad => .bad
section
variable {K : PySem.W.Frag} {cl : Nat → Addr} {Wx : WX} {W : Wd} {S : Sto} {H : Hp} {b : Nat} {σ : St}
theorem below_of {n : Nat} {x : SV} {v : V} (q : RelSV K cl W n x v) : x.below n := by
  cases x with
  | d y => trivial
  | m i => exact q.1
theorem belows_of {n : Nat} : ∀ {xs : List SV} {vs : List V}, Paired (RelSV K cl W n) xs vs → ∀ x ∈ xs, x.below n
  | _, _, .nil, x, h => by cases h
  | _, _, .cons q t, x, h => by
    rcases List.mem_cons.mp h with rfl | h
    · exact below_of q
    · exact belows_of t x h
theorem Rel.wfb (r : Rel K cl W S H) : WFB S.length S := fun i mo hi e => by
  have q := r.st i mo e
  cases mo with
  | lst xs => obtain ⟨_, _, _, q⟩ := q; exact belows_of q
  | dic ks xs => obtain ⟨_, _, _, _, q⟩ := q; exact belows_of q
  | ins c fs xs => obtain ⟨_, _, _, _, _, q⟩ := q; exact belows_of q
  | frz x => trivial
  | tup xs => obtain ⟨_, _, _, q⟩ := q; exact belows_of q
  | lck ks xs => obtain ⟨_, _, _, _, _, q⟩ := q; exact belows_of q
theorem relsv_low {n k : Nat} {x : SV} {v : V} (q : RelSV K cl W n x v) (h : x.below k) : RelSV K cl W k x v := by
  cases x with
  | d y => exact q
  | m i => exact ⟨h, q.2⟩
theorem relsvs_low {n k : Nat} : ∀ {xs : List SV} {vs : List V}, Paired (RelSV K cl W n) xs vs → (∀ x ∈ xs, x.below k) → Paired (RelSV K cl W k) xs vs
  | _, _, .nil, _ => .nil
  | _, _, .cons q t, h => .cons (relsv_low q (h _ (List.mem_cons_self ..))) (relsvs_low t fun x hx => h x (List.mem_cons_of_mem _ hx))
theorem Rel.take (r : Rel K cl W S H) {n : Nat} (hn : n ≤ S.length) (w : WFB n S) : Rel K cl W (S.take n) H := by
  have one : ∀ i mo, (S.take n)[i]? = some mo → i < n ∧ S[i]? = some mo := fun i mo e => by
    rw [List.getElem?_take] at e
    split at e
    · rename_i h; exact ⟨h, e⟩
    · cases e
  have hl : (S.take n).length = n := by rw [List.length_take]; omega
  refine ⟨r.fz, fun i mo e => ?_, fun i j mi mj ei ej => r.inj i j mi mj (one i mi ei).2 (one j mj ej).2, r.lk⟩
  obtain ⟨hi, e⟩ := one i mo e
  have q := r.st i mo e
  have b := w i mo hi e
  rw [hl]
  cases mo with
  | lst xs => obtain ⟨q1, vs, q2, q3⟩ := q; exact ⟨q1, vs, q2, relsvs_low q3 b⟩
  | dic ks xs => obtain ⟨q1, vs, q2, q4, q3⟩ := q; exact ⟨q1, vs, q2, q4, relsvs_low q3 b⟩
  | ins c fs xs => obtain ⟨q1, vs, dx, q2, q4, q3⟩ := q; exact ⟨q1, vs, dx, q2, q4, relsvs_low q3 b⟩
  | frz x => exact q
  | tup xs => obtain ⟨q1, vs, q2, q3⟩ := q; exact ⟨q1, vs, q2, relsvs_low q3 b⟩
  | lck ks xs => obtain ⟨q1, vs, od, q2, q4, q3⟩ := q; exact ⟨q1, vs, od, q2, q4, relsvs_low q3 b⟩
theorem Gr.take {b n : Nat} {S S' : Sto} (g : Gr b S S') (hn : n ≤ S'.length) (h : S.length ≤ n) (hb : b ≤ n) : Gr b S (S'.take n) :=
  ⟨by rw [List.length_take]; omega, fun b' hb' w i mo hi e => by
    rw [List.getElem?_take] at e
    split at e
    · exact g.wf b' hb' w i mo hi e
    · cases e⟩
theorem fin_out {r : Res SV} {Q : VK} (hr : Rel K cl W S H) (hb : b ≤ S.length) (h : Out K cl Wx (RSV K cl) b W S σ (fin S.length r) Q) : Out K cl Wx (RSV K cl) S.length W S σ r Q := by
  cases r with
  | ok x S' =>
    intro W' H' v g l r' q
    unfold fin at h
    simp only at h
    split at h
    · rename_i y S1 hf
      obtain ⟨n1, w1, k1⟩ := freeze_ok (K := K) (cl := cl) hf
      obtain ⟨W2, e2, l2, r2, q2⟩ := k1 W' H' v r' q
      have hl1 : S.length ≤ S1.length := by rw [n1]; exact g.len
      have w2 : WFB S.length S1 := w1 _ (g.wf _ (Nat.le_refl _) hr.wfb)
      have g1 : Gr b S S1 := ⟨hl1, fun b' hb' w => w1 b' (g.wf b' (Nat.le_trans hb' hb) w)⟩
      exact h W2 H' v (g1.take hl1 (Nat.le_refl _) hb) (l.trans l2 g.len) (r2.take hl1 w2) q2
    · exact h.elim
  | ex e S' =>
    intro W' H' c d g l r' q
    exact h W' H' c d ((g.less hb).take g.len (Nat.le_refl _) hb) l (r'.take g.len (g.wf _ (Nat.le_refl _) hr.wfb)) q
  | bad => exact h
theorem finK_out {r : Res SV} {Q : VK} (hr : Rel K cl W S H) (hb : b ≤ S.length) (h : Out K cl Wx (RSV K cl) b W S σ (finK S.length r) Q) : Out K cl Wx (RSV K cl) S.length W S σ r Q := by
  cases r with
  | ok x S' => exact fun W' H' v g l r' q => h W' H' v (g.less hb) l r' q
  | ex e S' =>
    intro W' H' c d g l r' q
    exact h W' H' c d ((g.less hb).take g.len (Nat.le_refl _) hb) l (r'.take g.len (g.wf _ (Nat.le_refl _) hr.wfb)) q
  | bad => exact h
/-- from what a call's end asks to what the promise asks -/
theorem out_sp {r : Res SV} {Q : VK} {n : Nat} (h : Out K cl Wx (RSV K cl) n W S σ r Q) : Out K cl (fun c d _ H => Wx c d σ H) (RSV K cl) n W S [] r Q := by
  cases r with
  | ok x S' => exact h
  | ex e S' => exact h
  | bad => exact h
end
def eCall (g : Nat → List SV → Sto → Res SV) (f : Fr → Sto → Res (List SV)) : Fr → Sto → Res SV := fun F S => (f F S).bind fun as S1 => fin S1.length (g S1.length as S1)
def eCallK (g : Nat → List SV → Sto → Res SV) (f : Fr → Sto → Res (List SV)) : Fr → Sto → Res SV := fun F S => (f F S).bind fun as S1 => finK S1.length (g S1.length as S1)
end Ev

set_option Elab.async false
set_option linter.all false
set_option maxRecDepth 100000
/-! Ev8: calls of one's own defs, methods, classes, operators. -/
namespace Ev
open PySem L2

section
variable {X : Cx} {cl : CL} {Wx : WX} {k : Nat} {fa C : Addr} {fd : FuncData} {ps : List Str} {g : Nat → List SV → Sto → Res SV} {x m : Str} {p pos apos : Pos} {e o e1 e2 : Expr} {es : List Expr} {f : Fr → Sto → Res (List SV)} {fo f1 f2 : Fr → Sto → Res SV}
/-- the promise of the table's def -/
abbrev FnE (X : Cx) (cl : Nat → Addr) (k : Nat) (fa : Addr) (fd : FuncData) (ps : List Str) (g : Nat → List SV → Sto → Res SV) : Prop := FnOk X.prog X.w X.K X.mg X.base (L2N.CX X.prog X.w) k fa fd ps (SpR X.K cl g)
theorem sp_fin {σ : St} {H1 : Hp} {Q : VK} {W1 : Wd} {F : Fr} {S1 : Sto} {as : List SV} {vs : List V} (a1 : At X.K cl W1 F S1 σ H1) (q1 : Paired (RelSV X.K cl W1 S1.length) as vs)
    (o1 : Out X.K cl Wx (RSV X.K cl) F.b W1 S1 σ (fin S1.length (g S1.length as S1)) Q) : SpR X.K cl g vs H1 Q (WE Wx σ) :=
  ⟨W1, S1, as, S1.length, Nat.le_refl _, a1.rel, q1, out_sp (fin_out a1.rel a1.b o1)⟩
theorem sp_finK {σ : St} {H1 : Hp} {Q : VK} {W1 : Wd} {F : Fr} {S1 : Sto} {as : List SV} {vs : List V} (a1 : At X.K cl W1 F S1 σ H1) (q1 : Paired (RelSV X.K cl W1 S1.length) as vs)
    (o1 : Out X.K cl Wx (RSV X.K cl) F.b W1 S1 σ (finK S1.length (g S1.length as S1)) Q) : SpR X.K cl g vs H1 Q (WE Wx σ) :=
  ⟨W1, S1, as, S1.length, Nat.le_refl _, a1.rel, q1, out_sp (finK_out a1.rel a1.b o1)⟩
theorem ev_call (Fk : FnE X cl k fa fd ps g) (hr : Room k X.A) (tk : L2N.Takes X Wx) (hg : Gl X x) (hm : X.mg x = some (.ref fa)) (hk : PySem.W.keepIn X.K (.ref fa) = true) (hb : Binds X.K fd ps []) (ha : PA X (e :: es) (RA X cl Wx f))
    (hdb : (x == ("__debug__" : Str)) = false := by decide +kernel) (he : starEach (e :: es) X.env = (false, eval e X.env) :: starEach es X.env := by rfl) (hpl : (backTo pos (starEach es X.env)).any (·.1) = false := by rfl) :
    PE X (.Call (.Name x p) (e :: es) [] pos) (RE X cl Wx (eCall g f)) :=
  PE.weak (pe_callS (E := WE Wx) Fk hr hg hm hk hb (fun σ => L2N.passAt tk σ) ha hdb he hpl) fun σ H Q ⟨W, F, S, a, q⟩ =>
    RA.of a q fun W1 S1 as vs H1 g1 l1 a1 q1 o1 => sp_fin a1 q1 o1
theorem ev_callK (Fk : FnE X cl k fa fd ps g) (hr : Room k X.A) (tk : L2N.Takes X Wx) (hg : Gl X x) (hm : X.mg x = some (.ref fa)) (hk : PySem.W.keepIn X.K (.ref fa) = true) (hb : Binds X.K fd ps []) (ha : PA X (e :: es) (RA X cl Wx f))
    (hdb : (x == ("__debug__" : Str)) = false := by decide +kernel) (he : starEach (e :: es) X.env = (false, eval e X.env) :: starEach es X.env := by rfl) (hpl : (backTo pos (starEach es X.env)).any (·.1) = false := by rfl) :
    PE X (.Call (.Name x p) (e :: es) [] pos) (RE X cl Wx (eCallK g f)) :=
  PE.weak (pe_callS (E := WE Wx) Fk hr hg hm hk hb (fun σ => L2N.passAt tk σ) ha hdb he hpl) fun σ H Q ⟨W, F, S, a, q⟩ =>
    RA.of a q fun W1 S1 as vs H1 g1 l1 a1 q1 o1 => sp_finK a1 q1 o1

/-! ### methods -/
def eMeth (c : Nat) (m : Str) (g : Nat → List SV → Sto → Res SV) (fo : Fr → Sto → Res SV) (f : Fr → Sto → Res (List SV)) : Fr → Sto → Res SV := fun F S => (fo F S).bind fun x S1 => match instOf S1 x with
  | some (c', fs, xs) => if c' = c ∧ (lookF m fs xs).isNone = true then (f F S1).bind fun as S2 => fin S2.length (g S2.length (x :: as) S2) else .bad
  | none => .bad
theorem pe_methE {CX : CXT} {sp : Sp} {E : St → XK} {ta : TE} {t : TA} {pl : Sem Bool} (he : PE X o ta) (c : Cls X.K C) (hm : Meth X.K C m fa) (Fk : FnOk X.prog X.w X.K X.mg X.base CX k fa fd ps sp) (hr : Room k X.A) (hb : Binds X.K fd ps []) (hx : ∀ σ, PassesAt CX X σ (E σ)) (ha : PA X (e :: es) t)
    (hst : starEach (e :: es) X.env = (false, eval e X.env) :: starEach es X.env := by rfl) (hpl : (backTo pos (starEach es X.env)).any (·.1) = false := by rfl)
    (ht : eval (.Call (.Attribute o m apos) (e :: es) [] pos) X.env = (do
      let ov ← eval o X.env
      standAt apos.atName
      let (f, first) ← holding [ov] (getMethod ov m pl)
      callWith pos f first (backTo pos (starEach (e :: es) X.env)) (backToKw pos (keywordEach [] X.env))) := by rfl) :
    PE X (.Call (.Attribute o m apos) (e :: es) [] pos) (fun σ H Q => ta σ H fun x H1 => ∃ a dx fs, x = .ref a ∧ H1 a = some (.ins C dx fs) ∧ fs.lookup m = none ∧ t σ H1 fun vs H2 => sp (x :: vs) H2 Q (E σ)) := by
  refine ⟨fun pins s σ H Q I h => ?_⟩
  refine PySem.W.methodCall_KW (pl := pl) (thn (he.run pins s σ H _ I h) fun u s1 ⟨x, H1, I1, rx, a, dx, fs, ex, ea, l, q⟩ => ?_) ht
  subst ex
  obtain rfl : u = Value.ref a := rx
  refine getmeth_ok I1 ea c hm l ?_
  refine PySem.W.callWith_K (first := [.ref a]) (h₀ := X.base) I.ok.mod.kin hm.kp (thn (ha.run pos pins s1 σ H1 _ I1 q) fun us s2 ⟨vs, H2, I2, r, q2⟩ => ⟨I2.kIn, ?_⟩) hst hpl
  exact run_fnS (us := .ref a :: us) (vs := .ref a :: vs) Fk hr hb (hx σ) I2 (.cons rfl r) q2
theorem pe_methE0 {CX : CXT} {sp : Sp} {E : St → XK} {ta : TE} {pl : Sem Bool} (he : PE X o ta) (c : Cls X.K C) (hm : Meth X.K C m fa) (Fk : FnOk X.prog X.w X.K X.mg X.base CX k fa fd ps sp) (hr : Room k X.A) (hb : Binds X.K fd ps []) (hx : ∀ σ, PassesAt CX X σ (E σ))
    (ht : eval (.Call (.Attribute o m apos) [] [] pos) X.env = (do
      let ov ← eval o X.env
      standAt apos.atName
      let (f, first) ← holding [ov] (getMethod ov m pl)
      callWith pos f first (backTo pos (starEach [] X.env)) (backToKw pos (keywordEach [] X.env))) := by rfl) :
    PE X (.Call (.Attribute o m apos) [] [] pos) (fun σ H Q => ta σ H fun x H1 => ∃ a dx fs, x = .ref a ∧ H1 a = some (.ins C dx fs) ∧ fs.lookup m = none ∧ sp [x] H1 Q (E σ)) := by
  refine ⟨fun pins s σ H Q I h => ?_⟩
  refine PySem.W.methodCall_KW (pl := pl) (thn (he.run pins s σ H _ I h) fun u s1 ⟨x, H1, I1, rx, a, dx, fs, ex, ea, l, q⟩ => ?_) ht
  subst ex
  obtain rfl : u = Value.ref a := rx
  refine getmeth_ok I1 ea c hm l ?_
  exact PySem.W.callWith_K0 (first := [.ref a]) I1.kIn hm.kp (run_fnS (us := [.ref a]) (vs := [.ref a]) Fk hr hb (hx σ) I1 (.cons rfl .nil) q)
theorem ev_meth {c : Nat} {pl : Sem Bool} (he : PE X o (RE X cl Wx fo)) (hc : Cls X.K (cl c)) (hm : Meth X.K (cl c) m fa) (Fk : FnE X cl k fa fd ps g) (hr : Room k X.A) (tk : L2N.Takes X Wx) (hb : Binds X.K fd ps []) (ha : PA X (e :: es) (RA X cl Wx f))
    (hst : starEach (e :: es) X.env = (false, eval e X.env) :: starEach es X.env := by rfl) (hpl : (backTo pos (starEach es X.env)).any (·.1) = false := by rfl)
    (ht : eval (.Call (.Attribute o m apos) (e :: es) [] pos) X.env = (do
      let ov ← eval o X.env
      standAt apos.atName
      let (f, first) ← holding [ov] (getMethod ov m pl)
      callWith pos f first (backTo pos (starEach (e :: es) X.env)) (backToKw pos (keywordEach [] X.env))) := by rfl) :
    PE X (.Call (.Attribute o m apos) (e :: es) [] pos) (RE X cl Wx (eMeth c m g fo f)) :=
  PE.weak (pe_methE (E := WE Wx) (pl := pl) he hc hm Fk hr hb (fun σ => L2N.passAt tk σ) ha hst hpl ht) fun σ H Q ⟨W, F, S, a, q⟩ => by
    refine RE.of a q fun W1 S1 y v H1 g1 l1 a1 q1 o1 => ?_
    split at o1
    · rename_i c' fs xs ey
      split at o1
      · rename_i hc'
        obtain ⟨rfl, hn⟩ := hc'
        obtain ⟨pp, dx, vs, rfl, h1, h2, h3⟩ := inst_rel a1.rel ey q1
        refine ⟨pp, dx, _, rfl, h1, (lookF_rel m h2 h3).2 (Option.isNone_iff_eq_none.mp hn), ?_⟩
        refine RA.of a1 o1 fun W2 S2 as ws H2 g2 l2 a2 q2 o2 => ?_
        exact sp_fin a2 (.cons (RelSV.le l2 g2.len q1) q2) o2
      · exact o1.elim
    · exact o1.elim
theorem ev_meth0 {c : Nat} {pl : Sem Bool} (he : PE X o (RE X cl Wx fo)) (hc : Cls X.K (cl c)) (hm : Meth X.K (cl c) m fa) (Fk : FnE X cl k fa fd ps g) (hr : Room k X.A) (tk : L2N.Takes X Wx) (hb : Binds X.K fd ps [])
    (ht : eval (.Call (.Attribute o m apos) [] [] pos) X.env = (do
      let ov ← eval o X.env
      standAt apos.atName
      let (f, first) ← holding [ov] (getMethod ov m pl)
      callWith pos f first (backTo pos (starEach [] X.env)) (backToKw pos (keywordEach [] X.env))) := by rfl) :
    PE X (.Call (.Attribute o m apos) [] [] pos) (RE X cl Wx (eMeth c m g fo aNil)) :=
  PE.weak (pe_methE0 (E := WE Wx) (pl := pl) he hc hm Fk hr hb (fun σ => L2N.passAt tk σ) ht) fun σ H Q ⟨W, F, S, a, q⟩ => by
    refine RE.of a q fun W1 S1 y v H1 g1 l1 a1 q1 o1 => ?_
    split at o1
    · rename_i c' fs xs ey
      split at o1
      · rename_i hc'
        obtain ⟨rfl, hn⟩ := hc'
        obtain ⟨pp, dx, vs, rfl, h1, h2, h3⟩ := inst_rel a1.rel ey q1
        refine ⟨pp, dx, _, rfl, h1, (lookF_rel m h2 h3).2 (Option.isNone_iff_eq_none.mp hn), ?_⟩
        exact sp_fin a1 (.cons q1 .nil) o1
      · exact o1.elim
    · exact o1.elim

/-! ### C(..) -/
def mkd (n : Nat) : Res SV → Res SV
  | .ok (.d .non) S => .ok (.m n) S
  | .ok _ _ => .bad
  | .ex e S => .ex e S
  | .bad => .bad
def eMake (c : Nat) (g : Nat → List SV → Sto → Res SV) (f : Fr → Sto → Res (List SV)) : Fr → Sto → Res SV := fun F S => (f F S).bind fun as S1 => fin S1.length (mkd S1.length (g S1.length (.m S1.length :: as) (S1 ++ [.ins c [] []])))
def eMakeK (c : Nat) (g : Nat → List SV → Sto → Res SV) (f : Fr → Sto → Res (List SV)) : Fr → Sto → Res SV := fun F S => (f F S).bind fun as S1 => finK S1.length (mkd S1.length (g S1.length (.m S1.length :: as) (S1 ++ [.ins c [] []])))
theorem Rel.extra {K : PySem.W.Frag} {W : Wd} {S : Sto} {H : Hp} (r : Rel K cl W S H) {d : Addr} {ho : HO} (h : H d = none) : Rel K cl W S (upd H d ho) := by
  refine ⟨fun a o e => ?_, fun i mo e => ?_, r.inj, fun a o e => by rw [upd_ne (ne_of_none (r.lk a o e).1 h)]; exact r.lk a o e⟩
  · rw [upd_ne (ne_of_none (r.fz a o e) h)]
    exact r.fz a o e
  · refine (r.st i mo e).keep (.refl _ _) (Nat.le_refl _) rfl (fun _ g => g) fun hm => ?_
    obtain ⟨o, ho'⟩ := r.there e hm
    rw [upd_ne (ne_of_none ho' h)]
/-- at the entry of __init__ -/
theorem make_in {K : PySem.W.Frag} {W1 : Wd} {S1 : Sto} {H1 : Hp} {Q : VK} {σ : St} {c : Nat} {as : List SV} {vs : List V} {E : XK} (hE : E = WE Wx σ) (r : Rel K cl W1 S1 H1) (q1 : Paired (RelSV K cl W1 S1.length) as vs)
    (o1 : Out K cl Wx (RSV K cl) S1.length W1 S1 σ (mkd S1.length (g S1.length (.m S1.length :: as) (S1 ++ [.ins c [] []]))) Q) {y dx : Addr} (hy : H1 y = none) (hd : H1 dx = none) (hne : dx ≠ y) :
    SpR K cl g (.ref y :: vs) (upd (upd H1 dx (.own y)) y (.ins (cl c) dx [])) (fun v H2 => v = .non ∧ Q (.ref y) H2) E := by
  subst hE
  have hy2 : upd H1 dx (.own y) y = none := by rw [upd_ne hne.symm]; exact hy
  have r0 := r.extra (ho := .own y) hd
  have r1 := r0.newM (mo := .ins c [] []) (ho := .ins (cl c) dx []) hy2 ⟨r0.unone hy2, [], dx, upd_same, rfl, .nil⟩
  have le := W1.add_le S1.length y
  have gr := Gr.add S1.length S1 (.ins c [] []) (Nat.le_refl _)
  have hl : (S1 ++ [MO.ins c [] []]).length = S1.length + 1 := by rw [List.length_append]; rfl
  refine ⟨W1.add S1.length y, S1 ++ [.ins c [] []], .m S1.length :: as, S1.length, by omega, r1, .cons ⟨by omega, by rw [Wd.add_at]⟩ (RelSVs.le le (by omega) q1), ?_⟩
  have o2 := Out.rebase o1 gr le
  cases hq : g S1.length (.m S1.length :: as) (S1 ++ [.ins c [] []]) with
  | ok x S2 =>
    rw [hq] at o2
    intro W' H' v g2 l2 r2 q2
    cases x with
    | m i => exact o2.elim
    | d z =>
      cases z <;> first | exact o2.elim | skip
      cases q2
      refine ⟨rfl, o2 W' H' _ g2 l2 r2 ⟨?_, ?_⟩⟩
      · have := g2.len
        omega
      · rw [l2.r S1.length (by omega), Wd.add_at]
  | ex e S2 => rw [hq] at o2; exact o2
  | bad => rw [hq] at o2; exact o2
theorem pe_makeE {CX : CXT} {sp : Sp} {E : St → XK} {t : TA} (M : Mk X.K C fa) (Fk : FnOk X.prog X.w X.K X.mg X.base CX k fa fd ps sp) (hr : Room (k + 1) X.A) (hg : Gl X x) (hm : X.mg x = some (.ref C)) (hb : Binds X.K fd ps []) (hx : ∀ σ, PassesAt CX X σ (E σ)) (ha : PA X (e :: es) t)
    (hdb : (x == ("__debug__" : Str)) = false := by decide +kernel) (he : starEach (e :: es) X.env = (false, eval e X.env) :: starEach es X.env := by rfl) (hpl : (backTo pos (starEach es X.env)).any (·.1) = false := by rfl) :
    PE X (.Call (.Name x p) (e :: es) [] pos) (fun σ H Q => t σ H fun vs H1 => ∀ y dx, H1 y = none → H1 dx = none → dx ≠ y → sp (.ref y :: vs) (upd (upd H1 dx (.own y)) y (.ins C dx [])) (fun v H2 => v = .non ∧ Q (.ref y) H2) (E σ)) := by
  refine ⟨fun pins s σ H Q I h => ?_⟩
  refine wpAny_Call_Name_kw (ld_glob I hg hm ?_ hdb)
  refine PySem.W.callWith_K (h₀ := X.base) I.ok.mod.kin M.kp (thn (ha.run pos pins s σ H _ I h) fun us s1 ⟨vs, H1, I1, r, q⟩ => ⟨I1.kIn, ?_⟩) he hpl
  have hq := q (s1.heap.objs.size + 1) s1.heap.objs.size (I1.hok.fresh (Nat.le_succ _)) (I1.hok.fresh (Nat.le_refl _)) (Nat.ne_of_lt (Nat.lt_succ_self _))
  have I2 := Inv.made (C := C) I1
  have r2 : Vals (V.ref (s1.heap.objs.size + 1) :: vs) (Value.ref (s1.heap.objs.size + 1) :: us) := .cons rfl r
  have hl : (Value.ref (s1.heap.objs.size + 1) :: us).length = ps.length := by
    have e' := r2.length
    rw [Fk.len _ _ _ _ hq] at e'
    exact e'.symm
  have hbb := hb _ (Value.ref (s1.heap.objs.size + 1) :: us) I2.kIn (by rw [List.append_nil]; exact hl)
  rw [List.append_nil] at hbb
  refine wpAny_call (make_map (f := fa) I1.kIn M.makes M.init (beq_iff_eq.mp M.fn) (codeAny_mono (Fk.run _ X.stack _ _ ⟨Value.ref (s1.heap.objs.size + 1) :: us, []⟩ (Value.ref (s1.heap.objs.size + 1) :: us) _ _ (E σ) (hr.make C us [])
    (I2.env0.make C us []) hbb r2 hq) fun r s' hq' => ?_))
  cases r with
  | error er => exact hx σ pins _ _ er s' I2 hq'
  | ok fl =>
    cases fl with
    | ret u =>
      obtain ⟨v, H', I3, rv, ev, q3⟩ := I2.after hq'
      subst ev
      exact ⟨rv, ⟨V.ref (s1.heap.objs.size + 1), H', I3, rfl, q3⟩⟩
    | next => exact False.elim hq'
    | brk => exact False.elim hq'
    | cont => exact False.elim hq'
theorem ev_make {c : Nat} (M : Mk X.K (cl c) fa) (Fk : FnE X cl k fa fd ps g) (hr : Room (k + 1) X.A) (tk : L2N.Takes X Wx) (hg : Gl X x) (hm : X.mg x = some (.ref (cl c))) (hb : Binds X.K fd ps []) (ha : PA X (e :: es) (RA X cl Wx f))
    (hdb : (x == ("__debug__" : Str)) = false := by decide +kernel) (he : starEach (e :: es) X.env = (false, eval e X.env) :: starEach es X.env := by rfl) (hpl : (backTo pos (starEach es X.env)).any (·.1) = false := by rfl) :
    PE X (.Call (.Name x p) (e :: es) [] pos) (RE X cl Wx (eMake c g f)) :=
  PE.weak (pe_makeE (E := WE Wx) M Fk hr hg hm hb (fun σ => L2N.passAt tk σ) ha hdb he hpl) fun σ H Q ⟨W, F, S, a, q⟩ =>
    RA.of a q fun W1 S1 as vs H1 g1 l1 a1 q1 o1 y dx hy hd hne => make_in rfl a1.rel q1 (fin_out a1.rel a1.b o1) hy hd hne
theorem ev_makeK {c : Nat} (M : Mk X.K (cl c) fa) (Fk : FnE X cl k fa fd ps g) (hr : Room (k + 1) X.A) (tk : L2N.Takes X Wx) (hg : Gl X x) (hm : X.mg x = some (.ref (cl c))) (hb : Binds X.K fd ps []) (ha : PA X (e :: es) (RA X cl Wx f))
    (hdb : (x == ("__debug__" : Str)) = false := by decide +kernel) (he : starEach (e :: es) X.env = (false, eval e X.env) :: starEach es X.env := by rfl) (hpl : (backTo pos (starEach es X.env)).any (·.1) = false := by rfl) :
    PE X (.Call (.Name x p) (e :: es) [] pos) (RE X cl Wx (eMakeK c g f)) :=
  PE.weak (pe_makeE (E := WE Wx) M Fk hr hg hm hb (fun σ => L2N.passAt tk σ) ha hdb he hpl) fun σ H Q ⟨W, F, S, a, q⟩ =>
    RA.of a q fun W1 S1 as vs H1 g1 l1 a1 q1 o1 y dx hy hd hne => make_in rfl a1.rel q1 (finK_out a1.rel a1.b o1) hy hd hne

/-! ### a op b of one's own class -/
def eOwn (o : Sto → SV → SV → Option Dv) (c : Nat) (g : Nat → List SV → Sto → Res SV) (f1 f2 : Fr → Sto → Res SV) : Fr → Sto → Res SV := fun F S => (f1 F S).bind fun x S1 => (f2 F S1).bind fun y S2 => match instOf S2 x, instOf S2 y with
  | some (c1, _, _), some (c2, _, _) => if c1 = c ∧ c2 = c then fin S2.length (g S2.length [x, y] S2) else .bad
  | _, _ => match o S2 x y with
    | some z => .ok (.d z) S2
    | none => .bad
structure OwnOp (K : PySem.W.Frag) (C : Addr) (op : Operator) (fa : Addr) : Prop where
  first : PySem.W.selfFirst K C = true
  at_ : PySem.W.findIn K (.ref C) (PySem.dunder op.info.2) = some (some (.ref fa))
  fn : PySem.W.isFn K (.ref fa) = true
theorem cmpBack_of {Q : Value → Shared → Prop} {v : V} {u : Value} {s' : Shared} (r : RelV v u) (q : Q u s') : PySem.W.CmpBack Q u s' := by
  cases v with
  | non => cases (show u = Value.none from r); exact q
  | bl _ => cases (show u = Value.bool _ from r); exact q
  | int _ => obtain ⟨t, rfl⟩ := r; exact q
  | str _ => obtain ⟨t, rfl⟩ := r; exact q
  | byt _ => obtain ⟨t, rfl⟩ := r; exact q
  | flt _ => obtain ⟨t, rfl⟩ := r; exact q
  | ref _ => cases (show u = Value.ref _ from r); exact q
  | ty _ => cases (show u = Value.type _ from r); exact q
theorem ev_own {c : Nat} {op : Operator} {o : Sto → SV → SV → Option Dv} (O : OwnOp X.K (cl c) op fa) (Fk : FnE X cl k fa fd ps g) (hr : Room k X.A) (tk : L2N.Takes X Wx) (hb : Binds X.K fd ps []) (ho : OpR X (binaryOp op) (ROp X cl o)) (h1 : PE X e1 (RE X cl Wx f1)) (h2 : PE X e2 (RE X cl Wx f2)) :
    PE X (.BinOp e1 op e2 pos) (RE X cl Wx (eOwn o c g f1 f2)) := by
  refine ⟨fun pins s σ H Q I ⟨W, F, S, a, q⟩ => ?_⟩
  let P : V → V → Hp → Prop := fun x y H2 => ROp X cl o x y H2 Q ∨ ∃ p q dx dy fs gs, x = .ref p ∧ y = .ref q ∧ H2 p = some (.ins (cl c) dx fs) ∧ H2 q = some (.ins (cl c) dy gs) ∧ SpR X.K cl g [x, y] H2 Q (WE Wx σ)
  have h0 : RE X cl Wx f1 σ H fun x H1 => RE X cl Wx f2 σ H1 fun y H2 => P x y H2 := by
    refine RE.of a q fun W1 S1 x v H1 g1 l1 a1 q1 o1 => ?_
    refine RE.of a1 o1 fun W2 S2 y u H2 g2 l2 a2 q2 o2 => ?_
    have q1' := RelSV.le l2 g2.len q1
    split at o2
    · rename_i c1 fs xs c2 gs ys ex ey
      split at o2
      · rename_i hc
        obtain ⟨rfl, rfl⟩ := hc
        obtain ⟨pp, dx, vs, rfl, k1, k2, k3⟩ := inst_rel a2.rel ex q1'
        obtain ⟨qq, dy, ws, rfl, m1, m2, m3⟩ := inst_rel a2.rel ey q2
        exact .inr ⟨pp, qq, dx, dy, _, _, rfl, rfl, k1, m1, sp_fin a2 (.cons q1' (.cons q2 .nil)) o2⟩
      · exact o2.elim
    · cases z : o S2 x y with
      | none => simp only [z] at o2; exact o2.elim
      | some w =>
        simp only [z] at o2
        exact .inl ⟨W2, S2, x, y, w, a2.rel, q1', q2, z, fun W' H' v l r q => o2 W' H' v (.refl _ _) l r q⟩
  refine wpAny_BinOp (bin h1 h2 I h0 fun v u s2 x y H2 I2 rx ry q => ?_)
  rcases q with q | ⟨pp, qq, dx, dy, fs, gs, rfl, rfl, k1, m1, q⟩
  · exact ho pins s2 σ H2 x y v u Q I2 rx ry q
  · obtain rfl : v = Value.ref pp := rx
    obtain rfl : u = Value.ref qq := ry
    obtain ⟨mA, O1, _⟩ := ins_get I2.hok k1
    obtain ⟨od, J1, _⟩ := O1.look
    obtain ⟨mB, O2, _⟩ := ins_get I2.hok m1
    obtain ⟨od2, J2, _⟩ := O2.look
    obtain ⟨mm, Fm⟩ := I2.fr
    refine PySem.W.binop_K Fm I2.mod.kin J1 J2.type O.first O.at_ O.fn ?_
    exact thn (run_fnS (us := [.ref pp, .ref qq]) (vs := [.ref pp, .ref qq]) Fk hr hb (L2N.passAt tk σ) I2 (.cons rfl (.cons rfl .nil)) q) fun w s3 ⟨z, H3, I3, r3, q3⟩ => cmpBack_of r3 ⟨z, H3, I3, r3, q3⟩
end
end Ev

set_option Elab.async false
set_option linter.all false
set_option maxRecDepth 100000
/-! Ev9: the store changed, statements. -/
namespace Ev
open PySem L2

/-! ### a thing of the store is changed -/
def okIn (b i : Nat) : SV → Bool
  | .d _ => true
  | .m j => decide (j ≤ i) || decide (b ≤ i)
section
variable {K : PySem.W.Frag} {cl : Nat → Addr} {W : Wd} {S : Sto} {H : Hp}
theorem Rel.set (r : Rel K cl W S H) {i : Nat} {mo mo' : MO} {ho : HO} (e : S[i]? = some mo) (hm : isMut mo = true) (hn : RelMO K cl W S.length (upd H (W.ρ i) ho) (W.ρ i) mo') (hk : isLck mo = false := by rfl) : Rel K cl W (S.set i mo') (upd H (W.ρ i) ho) := by
  have hl : i < S.length := (List.getElem?_eq_some_iff.mp e).1
  have hu : W.un (W.ρ i) := by
    have q := r.st i mo e
    cases mo with
    | lst xs => exact q.1
    | dic ks xs => exact q.1
    | ins c fs xs => exact q.1
    | frz x => cases hm
    | tup xs => exact q.1
    | lck ks xs => cases hk
  have hg := hu.1
  refine ⟨fun a o ea => ?_, fun j mj ej => ?_, fun j k mj mk ej ek a1 a2 q => ?_, fun a o ea => by
    rw [upd_ne (fun z => by rw [z, hu.2] at ea; cases ea)]
    exact r.lk a o ea⟩
  · rw [upd_ne (fun z => by rw [z, hg] at ea; cases ea)]
    exact r.fz a o ea
  · rw [List.length_set]
    by_cases h : i = j
    · subst h
      rw [List.getElem?_set, if_pos rfl, if_pos hl] at ej
      cases ej
      exact hn
    · rw [List.getElem?_set_ne h] at ej
      refine (r.st j mj ej).keep (.refl _ _) (Nat.le_refl _) rfl (fun _ g => g) fun a => ?_
      rw [upd_ne fun z => h (r.inj i j mo mj e ej hm a z.symm)]
  · have un : ∀ j mj, (S.set i mo')[j]? = some mj → isMut mj = true → ∃ mj', S[j]? = some mj' ∧ isMut mj' = true := fun j mj ej a => by
      by_cases h : i = j
      · subst h; exact ⟨mo, e, hm⟩
      · rw [List.getElem?_set_ne h] at ej; exact ⟨mj, ej, a⟩
    obtain ⟨mj', e1, b1⟩ := un j mj ej a1
    obtain ⟨mk', e2, b2⟩ := un k mk ek a2
    exact r.inj j k mj' mk' e1 e2 b1 b2 q
theorem Gr.set {b : Nat} {i : Nat} {mo : MO} (h : ∀ b', b' ≤ b → WFB b' S → i < b' → mo.below b') : Gr b S (S.set i mo) :=
  ⟨by rw [List.length_set]; exact Nat.le_refl _, fun b' hb' w j mj hj ej => by
    by_cases e : i = j
    · subst e
      rw [List.getElem?_set, if_pos rfl] at ej
      split at ej
      · cases ej; exact h b' hb' w hj
      · cases ej
    · rw [List.getElem?_set_ne e] at ej
      exact w j mj hj ej⟩
theorem okIn_below {b b' i : Nat} {x : SV} (h : okIn b i x = true) (hb : b' ≤ b) (hi : i < b') : x.below b' := by
  cases x with
  | d y => trivial
  | m j =>
    simp only [okIn, Bool.or_eq_true, decide_eq_true_eq] at h
    show j < b'
    omega
end

/-! ### methods of lists that change them -/
def isL (S : Sto) : SV → Bool
  | .m i => match S[i]? with
    | some (.lst _) => true
    | _ => false
  | _ => false
def eMut (g : Nat → Sto → SV → List SV → Option (SV × Sto)) (fo : Fr → Sto → Res SV) (f : Fr → Sto → Res (List SV)) : Fr → Sto → Res SV := fun F S => (fo F S).bind fun x S1 =>
  if isL S1 x = true then (f F S1).bind fun as S2 => match g F.b S2 x as with
    | some (y, S3) => .ok y S3
    | none => .bad
  else .bad
def RMut (X : Cx) (cl : Nat → Addr) (g : Nat → Sto → SV → List SV → Option (SV × Sto)) : V → List V → Hp → VK → Prop := fun x xs H Q => ∃ W S a as b y S', b ≤ S.length ∧ Rel X.K cl W S H ∧ RelSV X.K cl W S.length a x ∧ Paired (RelSV X.K cl W S.length) as xs ∧ g b S a as = some (y, S') ∧
  ∀ W' H' v, Gr b S S' → Le S.length W W' → Rel X.K cl W' S' H' → RelSV X.K cl W' S'.length y v → Q v H'
section
variable {X : Cx} {cl : CL} {Wx : WX} {o e : Expr} {es : List Expr} {f : Fr → Sto → Res (List SV)} {fo : Fr → Sto → Res SV} {apos cpos : Pos} {name : Str} {id : String} {g : Nat → Sto → SV → List SV → Option (SV × Sto)}
theorem MtR.weak {r r' : V → List V → Hp → VK → Prop} (h : MtR X id r) (k : ∀ x xs H Q, r' x xs H Q → r x xs H Q) : MtR X id r' := by
  intro pins s σ H x xs v us Q I h1 h2 q
  exact h pins s σ H x xs v us Q I h1 h2 (k _ _ _ _ q)
theorem isL_rel {K : PySem.W.Frag} {W : Wd} {S : Sto} {H : Hp} {x : SV} {v : V} (r : Rel K cl W S H) (h : isL S x = true) (q : RelSV K cl W S.length x v) : tyV K "list" v H := by
  cases x with
  | d y => cases h
  | m i =>
    obtain ⟨_, rfl⟩ := q
    simp only [isL] at h
    split at h
    · rename_i xs hx
      obtain ⟨_, vs, h1, _⟩ := r.st i _ hx
      exact .inl ⟨rfl, vs, SqL.of h1⟩
    · cases h
theorem ev_mut (slot : Slot "list" name id) (hty : typeOf (.builtin id) = pure (.type "method_descriptor")) (hm : MtR X id (RMut X cl g)) (ho : PE X o (RE X cl Wx fo)) (ha : PA X (e :: es) (RA X cl Wx f))
    (hbase : attributeBase o name X.env (eval o X.env) = eval o X.env := by rfl)
    (hfew : ((backTo cpos (starEach (e :: es) X.env)).all (fun x => !x.1) && (backToKw cpos (keywordEach [] X.env)).all (fun x => x.1.isSome)
      && decide ((e :: es).length + ([] : List Keyword).length + (if ([] : List Keyword).isEmpty then 0 else 1) < 30)) = true := by rfl)
    (hline : (apos.endLine == cpos.line) = true := by rfl) (hs : starEach (e :: es) X.env = (false, eval e X.env) :: starEach es X.env := by rfl) (hplain : (backTo cpos (starEach es X.env)).any (·.1) = false := by rfl) :
    PE X (.Call (.Attribute o name apos) (e :: es) [] cpos) (RE X cl Wx (eMut g fo f)) :=
  PE.weak (pe_bm PySem.F.plainAttrs_list slot hty hm ho ha hbase hfew hline hs hplain) fun σ H Q ⟨W, F, S, a, q⟩ => by
    refine RE.of a q fun W1 S1 y v H1 g1 l1 a1 q1 o1 => ?_
    split at o1
    · rename_i hl
      refine ⟨isL_rel a1.rel hl q1, ?_⟩
      refine RA.of a1 o1 fun W2 S2 as ws H2 g2 l2 a2 q2 o2 => ?_
      split at o2
      · rename_i z S3 hg
        exact ⟨W2, S2, y, as, F.b, z, S3, a2.b, a2.rel, RelSV.le l2 g2.len q1, q2, hg, o2⟩
      · exact o2.elim
    · exact o1.elim
theorem ev_mut0 (slot : Slot "list" name id) (hty : typeOf (.builtin id) = pure (.type "method_descriptor")) (hm : MtR X id (RMut X cl g)) (ho : PE X o (RE X cl Wx fo))
    (hbase : attributeBase o name X.env (eval o X.env) = eval o X.env := by rfl) (hline : (apos.endLine == cpos.line) = true := by rfl) :
    PE X (.Call (.Attribute o name apos) [] [] cpos) (RE X cl Wx (eMut g fo aNil)) :=
  PE.weak (pe_bm0 PySem.F.plainAttrs_list slot hty hm ho hbase hline) fun σ H Q ⟨W, F, S, a, q⟩ => by
    refine RE.of a q fun W1 S1 y v H1 g1 l1 a1 q1 o1 => ?_
    split at o1
    · rename_i hl
      refine ⟨isL_rel a1.rel hl q1, ?_⟩
      simp only [aNil, Res.bind_ok] at o1
      split at o1
      · rename_i z S3 hg
        exact ⟨W1, S1, y, [], F.b, z, S3, a1.b, a1.rel, q1, .nil, hg, o1⟩
      · exact o1.elim
    · exact o1.elim
def muAppend (b : Nat) (S : Sto) : SV → List SV → Option (SV × Sto)
  | .m i, [y] => match S[i]? with
    | some (.lst xs) => if xs.length < most ∧ okIn b i y = true then some (.d .non, S.set i (.lst (xs ++ [y]))) else none
    | _ => none
  | _, _ => none
theorem paired_snoc {α β : Type} {R : α → β → Prop} : ∀ {xs : List α} {ys : List β} {x : α} {y : β}, Paired R xs ys → R x y → Paired R (xs ++ [x]) (ys ++ [y])
  | _, _, _, _, .nil, r => .cons r .nil
  | _, _, _, _, .cons q t, r => .cons q (paired_snoc t r)
theorem ov_append : MtR X "list.append" (RMut X cl muAppend) := MtR.weak mt_append fun x xs H Q ⟨W, S, a, as, b, y, S', hb, r, ra, ras, e, k⟩ => by
  unfold muAppend at e
  split at e
  · rename_i i z
    split at e
    · rename_i zs hz
      split at e
      · rename_i hc
        cases e
        obtain ⟨_, rfl⟩ := ra
        obtain ⟨g0, vs, h1, h2⟩ := r.st i _ hz
        match xs, ras with
        | [v], .cons rz .nil =>
          refine ⟨_, vs, v, rfl, rfl, h1, by rw [← PySem.Paired.length h2]; exact hc.1, ?_⟩
          refine k W _ _ (.set fun b' hb' w hi x hx => ?_) (.refl _ _) (r.set hz rfl ⟨g0, _, upd_same, paired_snoc h2 rz⟩) RelD.non
          rcases List.mem_append.mp hx with hx | hx
          · exact w i _ hi hz x hx
          · cases List.mem_singleton.mp hx
            exact okIn_below hc.2 hb' hi
      · cases e
    · cases e
  · cases e
def muPop (b : Nat) (S : Sto) : SV → List SV → Option (SV × Sto)
  | .m i, [] => match S[i]? with
    | some (.lst xs) => match xs[xs.length - 1]? with
      | some y => some (y, S.set i (.lst xs.dropLast))
      | none => none
    | _ => none
  | _, _ => none
theorem paired_dropLast {α β : Type} {R : α → β → Prop} : ∀ {xs : List α} {ys : List β}, Paired R xs ys → Paired R xs.dropLast ys.dropLast
  | _, _, .nil => .nil
  | _, _, .cons _ .nil => .nil
  | _, _, .cons q (.cons r t) => .cons q (paired_dropLast (.cons r t))
theorem ov_pop : MtR X "list.pop" (RMut X cl muPop) := MtR.weak mt_pop fun x xs H Q ⟨W, S, a, as, b, y, S', hb, r, ra, ras, e, k⟩ => by
  unfold muPop at e
  split at e
  · rename_i i
    split at e
    · rename_i zs hz
      split at e
      · rename_i w hw
        cases e
        cases ras
        obtain ⟨_, rfl⟩ := ra
        obtain ⟨g0, vs, h1, h2⟩ := r.st i _ hz
        obtain ⟨u, h3, h4⟩ := paired_get h2 hw
        refine ⟨_, vs, u, rfl, rfl, h1, by rw [← PySem.Paired.length h2]; exact h3, ?_⟩
        refine k W _ _ (.set fun b' hb' w hi x hx => ?_) (.refl _ _) (r.set hz rfl ⟨g0, _, upd_same, paired_dropLast h2⟩) (by rw [List.length_set]; exact h4)
        exact w i _ hi hz x (List.dropLast_subset _ hx)
      · cases e
    · cases e
  · cases e
end

/-! ### statements -/
inductive SRes where
  | nx (v : Env) (S : Sto) | rt (x : SV) (S : Sto) | bk (v : Env) (S : Sto) | ct (v : Env) (S : Sto) | ex (e : Exc) (v : Env) (S : Sto) | bad
def Res.st {α : Type} (F : Fr) : Res α → (α → Sto → SRes) → SRes
  | .ok a S, k => k a S
  | .ex e S, _ => .ex e F.v S
  | .bad, _ => .bad
@[simp] theorem Res.st_ok {α : Type} (F : Fr) (a : α) (S : Sto) (k : α → Sto → SRes) : (Res.ok a S).st F k = k a S := rfl
@[simp] theorem Res.st_ex {α : Type} (F : Fr) (e : Exc) (S : Sto) (k : α → Sto → SRes) : (Res.ex e S : Res α).st F k = .ex e F.v S := rfl
@[simp] theorem Res.st_bad {α : Type} (F : Fr) (k : α → Sto → SRes) : (Res.bad : Res α).st F k = .bad := rfl
section
variable (K : PySem.W.Frag) (cl : CL) (Wx : WX)
def OutS (D : Ends) (b : Nat) (W : Wd) (S : Sto) (r : SRes) : Prop := match r with
  | .nx v' S' => ∀ W' σ' H', Gr b S S' → Le S.length W W' → At K cl W' ⟨b, v'⟩ S' σ' H' → D.nx σ' H'
  | .bk v' S' => ∀ W' σ' H', Gr b S S' → Le S.length W W' → At K cl W' ⟨b, v'⟩ S' σ' H' → D.bk σ' H'
  | .ct v' S' => ∀ W' σ' H', Gr b S S' → Le S.length W W' → At K cl W' ⟨b, v'⟩ S' σ' H' → D.ct σ' H'
  | .rt v S' => ∀ W' H' x, Gr b S S' → Le S.length W W' → Rel K cl W' S' H' → RelSV K cl W' S'.length v x → D.rt x H'
  | .ex e v' S' => ∀ W' σ' H' c d, Gr b S S' → Le S.length W W' → At K cl W' ⟨b, v'⟩ S' σ' H' → RelX K cl W' e c d H' → Wx c d σ' H'
  | .bad => False
variable {K cl Wx}
theorem OutS.rebase {D : Ends} {b : Nat} {W W1 : Wd} {S S1 : Sto} {r : SRes} (h : OutS K cl Wx D b W S r) (hn : Gr b S S1) (hl : Le S.length W W1) : OutS K cl Wx D b W1 S1 r := by
  cases r with
  | nx F' S' => exact fun W' σ' H' h1 h2 => h W' σ' H' (hn.trans h1 (Nat.le_refl _)) (hl.trans h2 hn.len)
  | bk F' S' => exact fun W' σ' H' h1 h2 => h W' σ' H' (hn.trans h1 (Nat.le_refl _)) (hl.trans h2 hn.len)
  | ct F' S' => exact fun W' σ' H' h1 h2 => h W' σ' H' (hn.trans h1 (Nat.le_refl _)) (hl.trans h2 hn.len)
  | rt v S' => exact fun W' H' x h1 h2 => h W' H' x (hn.trans h1 (Nat.le_refl _)) (hl.trans h2 hn.len)
  | ex e F' S' => exact fun W' σ' H' c d h1 h2 => h W' σ' H' c d (hn.trans h1 (Nat.le_refl _)) (hl.trans h2 hn.len)
  | bad => exact h
end
section
variable (X : Cx) (cl : CL) (Wx : WX)
def RS (f : Fr → Sto → SRes) : TS := fun D σ H => ∃ W F S, At X.K cl W F S σ H ∧ OutS X.K cl Wx D F.b W S (f F S)
end
section
variable {X : Cx} {cl : CL} {Wx : WX} {e e1 e2 : Expr} {fe : Fr → Sto → Res SV} {t : Fr → Sto → Res Bool} {f g : Fr → Sto → SRes} {st : Stmt} {rest sts : List Stmt} {pos pos' : Pos} {D : Ends} {W : Wd} {F : Fr} {S : Sto} {σ : St} {H : Hp}
theorem RE.ofS {k : SV → Sto → SRes} {Q' : VK} (a : At X.K cl W F S σ H) (h : OutS X.K cl Wx D F.b W S ((fe F S).st F k))
    (kk : ∀ W1 S1 x v H1, Gr F.b S S1 → Le S.length W W1 → At X.K cl W1 F S1 σ H1 → RelSV X.K cl W1 S1.length x v → OutS X.K cl Wx D F.b W1 S1 (k x S1) → Q' v H1) : RE X cl Wx fe σ H Q' := by
  refine ⟨W, F, S, a, ?_⟩
  cases hr : fe F S with
  | ok x S1 =>
    rw [hr] at h
    exact fun W1 H1 v g1 l1 r1 q1 => kk W1 S1 x v H1 g1 l1 (a.on g1 l1 r1) q1 (OutS.rebase h g1 l1)
  | ex ec S1 =>
    rw [hr] at h
    exact fun W1 H1 c d g1 l1 r1 q1 => h W1 σ H1 c d g1 l1 (a.on g1 l1 r1) q1
  | bad => rw [hr] at h; exact h
theorem RT.ofS {k : Bool → Sto → SRes} {Q' : Bool → Hp → Prop} (a : At X.K cl W F S σ H) (h : OutS X.K cl Wx D F.b W S ((t F S).st F k))
    (kk : ∀ W1 S1 x H1, Gr F.b S S1 → Le S.length W W1 → At X.K cl W1 F S1 σ H1 → OutS X.K cl Wx D F.b W1 S1 (k x S1) → Q' x H1) : RT X cl Wx t σ H Q' := by
  refine ⟨W, F, S, a, ?_⟩
  cases hr : t F S with
  | ok x S1 =>
    rw [hr] at h
    intro W1 H1 v g1 l1 r1 q1
    obtain rfl : v = x := q1
    exact kk W1 S1 v H1 g1 l1 (a.on g1 l1 r1) (OutS.rebase h g1 l1)
  | ex ec S1 =>
    rw [hr] at h
    exact fun W1 H1 c d g1 l1 r1 q1 => h W1 σ H1 c d g1 l1 (a.on g1 l1 r1) q1
  | bad => rw [hr] at h; exact h
theorem OutS.here {v' : Env} {b : Nat} (h : OutS X.K cl Wx D b W S (.nx v' S)) (a : At X.K cl W ⟨b, v'⟩ S σ H) : D.nx σ H := h W σ H (.refl _ _) (.refl _ _) a
def Fr.put (F : Fr) (i : Nat) (x : SV) : Env := F.v.set i (some x)
theorem At.put (a : At X.K cl W F S σ H) (i : Nat) {x : SV} {v : V} (q : RelSV X.K cl W S.length x v) : At X.K cl W ⟨F.b, F.put i x⟩ S (σ.set i (some v)) H := ⟨a.b, a.rel, a.env.set i q, cl.put i x v a.gh⟩
/-- one after another -/
theorem OutS.seq {r : SRes} {b : Nat} {k : Env → Sto → SRes} {N : St → Hp → Prop} (h : OutS X.K cl Wx D b W S (match r with | .nx v1 S1 => k v1 S1 | r => r))
    (kk : ∀ v1 S1 W' σ' H', Gr b S S1 → Le S.length W W' → At X.K cl W' ⟨b, v1⟩ S1 σ' H' → OutS X.K cl Wx D b W' S1 (k v1 S1) → N σ' H') : OutS X.K cl Wx { D with nx := N } b W S r := by
  cases r with
  | nx v1 S1 => exact fun W' σ' H' g l a => kk v1 S1 W' σ' H' g l a (OutS.rebase h g l)
  | bk v1 S1 => exact h
  | ct v1 S1 => exact h
  | rt v S1 => exact h
  | ex ec v1 S1 => exact h
  | bad => exact h

def sNil : Fr → Sto → SRes := fun F S => .nx F.v S
def sSeq (f g : Fr → Sto → SRes) : Fr → Sto → SRes := fun F S => match f F S with
  | .nx v1 S1 => g ⟨F.b, v1⟩ S1
  | r => r
theorem sv_nil : PSs X [] (RS X cl Wx sNil) := PSs.weak pss_nil fun D σ H ⟨W, F, S, a, o⟩ => OutS.here o a
theorem sv_one (h : PS X st (RS X cl Wx f)) : PSs X [st] (RS X cl Wx f) := pss_one h
theorem sv_cons (h : PS X st (RS X cl Wx f)) (k : PSs X rest (RS X cl Wx g)) : PSs X (st :: rest) (RS X cl Wx (sSeq f g)) :=
  PSs.weak (pss_cons h k) fun D σ H ⟨W, F, S, a, o⟩ =>
    ⟨W, F, S, a, OutS.seq (k := fun v1 S1 => g ⟨F.b, v1⟩ S1) o fun v1 S1 W' σ' H' g l a' o' => ⟨W', ⟨F.b, v1⟩, S1, a', o'⟩⟩
def sPass : Fr → Sto → SRes := sNil
def sBrk : Fr → Sto → SRes := fun F S => .bk F.v S
def sCont : Fr → Sto → SRes := fun F S => .ct F.v S
theorem sv_pass : PS X (.Pass pos) (RS X cl Wx sPass) := PS.weak ps_pass fun D σ H ⟨W, F, S, a, o⟩ => OutS.here o a
theorem sv_break : PS X (.Break pos) (RS X cl Wx sBrk) := PS.weak ps_break fun D σ H ⟨W, F, S, a, o⟩ => o W σ H (.refl _ _) (.refl _ _) a
theorem sv_continue : PS X (.Continue pos) (RS X cl Wx sCont) := PS.weak ps_continue fun D σ H ⟨W, F, S, a, o⟩ => o W σ H (.refl _ _) (.refl _ _) a
def sSet (i : Nat) (fe : Fr → Sto → Res SV) : Fr → Sto → SRes := fun F S => (fe F S).st F fun x S1 => .nx (F.put i x) S1
theorem sv_set (i : Nat) {x : Str} (he : PE X e (RE X cl Wx fe)) (hN : X.N.Nodup) (hi : X.N[i]? = some x := by rfl) (hx : Loc X.env.scope x := by first | exact Or.inl rfl | exact Or.inr rfl) (hs : swapsWith e (some (.Name x pos')) pos.line X.env = pure false := by rfl)
    (hf : X.fn x = true ∨ X.env.scope.names.lookup x = some .local := by first | exact .inl rfl | exact .inr rfl) : PS X (.Assign [.Name x pos'] e pos) (RS X cl Wx (sSet i fe)) :=
  PS.weak (ps_set hN hi hx he hs hf) fun D σ H ⟨W, F, S, a, o⟩ => RE.ofS a o fun W1 S1 y v H1 g1 l1 a1 q1 o1 => OutS.here o1 (a1.put i q1)
def sExpr (fe : Fr → Sto → Res SV) : Fr → Sto → SRes := fun F S => (fe F S).st F fun _ S1 => .nx F.v S1
theorem sv_expr (he : PE X e (RE X cl Wx fe)) (hs : swapsWith e none pos.line X.env = pure false := by rfl) : PS X (.Expr e pos) (RS X cl Wx (sExpr fe)) :=
  PS.weak (ps_expr he hs) fun D σ H ⟨W, F, S, a, o⟩ => RE.ofS a o fun W1 S1 y v H1 g1 l1 a1 q1 o1 => OutS.here o1 a1
def sRet (fe : Fr → Sto → Res SV) : Fr → Sto → SRes := fun F S => (fe F S).st F fun x S1 => .rt x S1
theorem sv_ret (he : PE X e (RE X cl Wx fe)) : PS X (.Return (some e) pos) (RS X cl Wx (sRet fe)) :=
  PS.weak (ps_ret he) fun D σ H ⟨W, F, S, a, o⟩ => RE.ofS a o fun W1 S1 y v H1 g1 l1 a1 q1 o1 => o1 W1 H1 v (.refl _ _) (.refl _ _) a1.rel q1
def sRetN : Fr → Sto → SRes := fun F S => .rt (.d .non) S
theorem sv_retN : PS X (.Return none pos) (RS X cl Wx sRetN) := PS.weak ps_retN fun D σ H ⟨W, F, S, a, o⟩ => o W H _ (.refl _ _) (.refl _ _) a.rel RelD.non
def sIf (t : Fr → Sto → Res Bool) (f g : Fr → Sto → SRes) : Fr → Sto → SRes := fun F S => (t F S).st F fun c S1 => if c = true then f F S1 else g F S1
theorem sv_if {c : Expr} {as bs : List Stmt} (hc : PT X c (RT X cl Wx t)) (ha : PSs X as (RS X cl Wx f)) (hb : PSs X bs (RS X cl Wx g)) : PS X (.If c as bs pos) (RS X cl Wx (sIf t f g)) :=
  PS.weak (ps_if hc ha hb) fun D σ H ⟨W, F, S, a, o⟩ => RT.ofS a o fun W1 S1 c H1 g1 l1 a1 o1 => by
    split at o1
    · rename_i h; rw [if_pos h]; exact ⟨W1, F, S1, a1, o1⟩
    · rename_i h; rw [if_neg h]; exact ⟨W1, F, S1, a1, o1⟩

/-! targets -/
abbrev Tg := SV → Fr → Sto → Option Env
def RG (X : Cx) (cl : CL) (tg : Tg) : TG := fun v σ H Q => ∃ W F S sv v', At X.K cl W F S σ H ∧ RelSV X.K cl W S.length sv v ∧ tg sv F S = some v' ∧ ∀ σ', At X.K cl W ⟨F.b, v'⟩ S σ' H → Q σ' H
theorem PG.weak {X : Cx} {e : Expr} {t t' : TG} (h : PG X e t) (k : ∀ v σ H Q, t' v σ H Q → t v σ H Q) : PG X e t' := ⟨fun pins s σ H v u Q I r q => h.run pins s σ H v u Q I r (k v σ H Q q)⟩
def gNm (i : Nat) : Tg := fun x F _ => some (F.put i x)
theorem gv_name (i : Nat) {x : Str} (hN : X.N.Nodup) (hi : X.N[i]? = some x := by rfl) (hx : Loc X.env.scope x := by first | exact Or.inl rfl | exact Or.inr rfl) (hf : X.fn x = true ∨ X.env.scope.names.lookup x = some .local := by first | exact .inl rfl | exact .inr rfl) : PG X (.Name x pos) (RG X cl (gNm i)) :=
  PG.weak (pg_name hN hi hx hf) fun v σ H Q ⟨W, F, S, sv, v', a, q, e, k⟩ => by
    cases e
    exact k _ (a.put i q)

/-! for -/
def forL (tg : Tg) (body : Fr → Sto → SRes) (b : Nat) : List SV → Env → Sto → SRes
  | [], v, S => .nx v S
  | x :: r, v, S => match tg x ⟨b, v⟩ S with
    | some v1 => match body ⟨b, v1⟩ S with
      | .nx v2 S2 => forL tg body b r v2 S2
      | .ct v2 S2 => forL tg body b r v2 S2
      | .bk v2 S2 => .nx v2 S2
      | o => o
    | none => .bad
/-- over a list, a tuple or a dict, which is frozen -/
def sFor (fe : Fr → Sto → Res SV) (tg : Tg) (body : Fr → Sto → SRes) : Fr → Sto → SRes := fun F S => (fe F S).st F fun x S1 => match freeze S1 x with
  | some (.lst xs, S2) => forL tg body F.b (xs.map .d) F.v S2
  | some (.tup xs, S2) => forL tg body F.b (xs.map .d) F.v S2
  | some (.dic ks _, S2) => forL tg body F.b (ks.map keyS) F.v S2
  | _ => .bad
theorem turn_out {N : St → Hp → Prop} {b : Nat} {tg : Tg} {body : Fr → Sto → SRes} {r : List SV} {v1 : Env} (h : OutS X.K cl Wx D b W S (match body ⟨b, v1⟩ S with
      | .nx v2 S2 => forL tg body b r v2 S2
      | .ct v2 S2 => forL tg body b r v2 S2
      | .bk v2 S2 => .nx v2 S2
      | o => o)) (kk : ∀ v2 S2 W' σ' H', Gr b S S2 → Le S.length W W' → At X.K cl W' ⟨b, v2⟩ S2 σ' H' → OutS X.K cl Wx D b W' S2 (forL tg body b r v2 S2) → N σ' H') :
    OutS X.K cl Wx { D with nx := N, ct := N, bk := D.nx } b W S (body ⟨b, v1⟩ S) := by
  cases hr : body ⟨b, v1⟩ S with
  | nx v2 S2 => rw [hr] at h; exact fun W' σ' H' g l a => kk v2 S2 W' σ' H' g l a (OutS.rebase h g l)
  | ct v2 S2 => rw [hr] at h; exact fun W' σ' H' g l a => kk v2 S2 W' σ' H' g l a (OutS.rebase h g l)
  | bk v2 S2 => rw [hr] at h; exact h
  | rt v S2 => rw [hr] at h; exact h
  | ex ec v2 S2 => rw [hr] at h; exact h
  | bad => rw [hr] at h; exact h
/-- what holds ahead of turn i -/
def ForP (X : Cx) (cl : CL) (Wx : WX) (D : Ends) (b : Nat) (W0 : Wd) (n0 : Nat) (tg : Tg) (body : Fr → Sto → SRes) (xs : List SV) (i : Nat) (σ : St) (H : Hp) : Prop :=
  ∃ W v S, n0 ≤ S.length ∧ Le n0 W0 W ∧ At X.K cl W ⟨b, v⟩ S σ H ∧ OutS X.K cl Wx D b W S (forL tg body b (xs.drop i) v S)
theorem forP_turn {b : Nat} {W0 : Wd} {n0 : Nat} {tg : Tg} {body : Fr → Sto → SRes} {xs : List SV} {i : Nat} {x : V} {sv : SV} (hx : xs[i]? = some sv) (hq : ∀ W n, Le n0 W0 W → n0 ≤ n → RelSV X.K cl W n sv x) (h : ForP X cl Wx D b W0 n0 tg body xs i σ H) :
    RG X cl tg x σ H fun σ2 H2 => RS X cl Wx body { D with nx := ForP X cl Wx D b W0 n0 tg body xs (i + 1), ct := ForP X cl Wx D b W0 n0 tg body xs (i + 1), bk := D.nx } σ2 H2 := by
  obtain ⟨W, v, S, hn, hl, a, o⟩ := h
  have hi := (List.getElem?_eq_some_iff.mp hx).1
  have hd : xs.drop i = sv :: xs.drop (i + 1) := by
    rw [List.drop_eq_getElem_cons hi]
    congr 1
    exact (List.getElem?_eq_some_iff.mp hx).2
  rw [hd] at o
  unfold forL at o
  cases ht : tg sv ⟨b, v⟩ S with
  | none => simp only [ht] at o; exact o.elim
  | some v1 =>
    simp only [ht] at o
    refine ⟨W, ⟨b, v⟩, S, sv, v1, a, hq W _ hl hn, ht, fun σ' a' => ?_⟩
    refine ⟨W, ⟨b, v1⟩, S, a', turn_out o fun v2 S2 W' σ'' H'' g2 l2 a2 o2 => ?_⟩
    exact ⟨W', v2, S2, Nat.le_trans hn g2.len, hl.trans l2 hn, a2, o2⟩
/-- a dict that nobody will change is locked -/
theorem Rel.pin {K : PySem.W.Frag} {cl : Nat → Addr} {W : Wd} {S : Sto} {H : Hp} (r : Rel K cl W S H) {a : Addr} {kvs : List (Key × V)} (h : W.G a = some (.dK kvs)) (o : Obj) (n : Nat) :
    Rel K cl ⟨W.ρ, upd W.G a (.frz o (.dK kvs)), W.L⟩ S (upd H a (.frz o (.dK kvs))) ∧ Le n W ⟨W.ρ, upd W.G a (.frz o (.dK kvs)), W.L⟩ := by
  have l : ∀ n, Le n W ⟨W.ρ, upd W.G a (.frz o (.dK kvs)), W.L⟩ := fun n => ⟨fun b u e => by
    by_cases hb : b = a
    · subst hb
      rw [h] at e
      cases e
      exact ⟨_, upd_same, .inr ⟨kvs, o, rfl, rfl⟩⟩
    · exact ⟨u, by show upd _ _ _ _ = _; rw [upd_ne hb]; exact e, .refl _⟩, fun _ _ => rfl, fun _ _ h => h⟩
  refine ⟨⟨fun b u e => ?_, fun i mo e => ?_, r.inj, fun b u e => ?_⟩, l n⟩
  · have e : upd W.G a (.frz o (.dK kvs)) b = some u := e
    by_cases hb : b = a
    · subst hb
      rw [upd_same] at e ⊢
      exact e
    · rw [upd_ne hb] at e ⊢
      exact r.fz b u e
  · have ne : isMut mo = true → W.ρ i ≠ a := fun hm z => by
      have q := r.st i mo e
      have g : W.G (W.ρ i) = none := by
        cases mo with
        | lst xs => exact q.1.1
        | dic ks xs => exact q.1.1
        | ins c fs xs => exact q.1.1
        | frz x => cases hm
        | tup xs => exact q.1.1
        | lck ks xs => exact q.1
      rw [z, h] at g
      cases g
    refine (r.st i mo e).keep (l _) (Nat.le_refl _) rfl (fun hm g => ?_) fun hm => ?_
    · show upd _ _ _ _ = _
      rw [upd_ne (ne hm)]
      exact g
    · rw [upd_ne (ne hm)]
  · obtain ⟨h1, od, v, h2⟩ := r.lk b u e
    refine ⟨?_, od, v, h2⟩
    rw [upd_ne (fun z => ?_)]
    · exact h1
    · subst z
      have := r.fz _ _ h
      rw [h1, h2] at this
      cases this
theorem for_itk {d : Addr} {o : Obj} {kvs : List (Key × V)} {g : TG} {tb : TS} {D : Ends} {σ : St} {H : Hp} (Pv : Nat → St → Hp → Prop) (h0 : Pv 0 σ H) (hl : ∀ i σ H, i ≤ kvs.length → Pv i σ H → H d = some (.frz o (.dK kvs)))
    (hs : ∀ i k v σ H, kvs[i]? = some (k, v) → Pv i σ H → g (kV k) σ H fun σ2 H2 => tb { D with nx := Pv (i + 1), ct := Pv (i + 1), bk := D.nx } σ2 H2) (hd : ∀ σ H, Pv kvs.length σ H → D.nx σ H) :
    ∃ W : Nat → Nat → St → Hp → Prop, (∃ m, W 0 m σ H) ∧ ∀ i m σ H, W i m σ H →
      ((Itk d o kvs).stop i H ∧ D.nx σ H) ∨ ((Itk d o kvs).go i H ∧ ∃ N : St → Hp → Prop, (∀ σ' H', N σ' H' → ∃ m', m' < m ∧ W (i + 1) m' σ' H') ∧ ∀ x H', (Itk d o kvs).yld i H x H' → g x σ H' fun σ2 H2 => tb { D with nx := N, ct := N, bk := D.nx } σ2 H2) := by
  refine ⟨fun i m σ H => m = kvs.length - i ∧ i ≤ kvs.length ∧ Pv i σ H, ⟨kvs.length, by simp, Nat.zero_le _, h0⟩, ?_⟩
  rintro i m σ H ⟨rfl, hi, p⟩
  have q := hl i σ H hi p
  by_cases hlt : i < kvs.length
  · refine .inr ⟨⟨q, hlt⟩, Pv (i + 1), fun σ' H' p' => ⟨kvs.length - (i + 1), by omega, rfl, hlt, p'⟩, fun x H' y => ?_⟩
    obtain ⟨e, k, v, hk, rfl⟩ := y
    subst e
    exact hs i k v σ _ hk p
  · have e : i = kvs.length := by omega
    subst e
    exact .inl ⟨⟨q, Nat.le_refl _⟩, hd σ H p⟩
/-- what a for walks: a list, a tuple or a dict -/
def iSeq (K : PySem.W.Frag) (tl : TE) : TI := fun σ H R => tl σ H fun x H1 => ∃ a, x = .ref a ∧ ((∃ xs, SqL K H1 a xs) ∧ R (Itl K a) H1 ∨ (∃ xs, SqT K H1 a xs) ∧ R (Itt K a) H1 ∨ (∃ kvs o, H1 a = some (.frz o (.dK kvs)) ∧ R (Itk a o kvs) H1) ∨ ∃ kvs, H1 a = some (.dK kvs) ∧ ∀ o, R (Itk a o kvs) (upd H1 a (.frz o (.dK kvs))))
theorem pi_seq {tg l : Expr} {tl : TE} (hl : PE X l tl) : PI X tg l (iSeq X.K tl) := by
  constructor
  intro pins s σ H R I h
  refine thn (hl.run pins s σ H _ I h) fun v s1 ⟨x, H1, I1, r1, a, e, q1⟩ => ?_
  subst e
  obtain rfl : v = Value.ref a := r1
  rcases q1 with ⟨⟨xs, hq⟩, q⟩ | ⟨⟨xs, hq⟩, q⟩ | ⟨kvs, o, hd, q⟩ | ⟨kvs, hd, q⟩
  · obtain ⟨its, rv, p, hz⟩ := I1.list hq
    refine wpAny_pyIter_list p.isList ⟨s1.heap.objs.size, [s1.heap.objs.size], _, _, H1, rfl, I1.kept (t' := s1.toks) fun b o e => Heap.get?_push_of_some _ e, turn_list a _, ⟨_, Heap.get?_push_size _ rfl, rfl, rfl⟩, fun b hb => ?_, q⟩
    rw [List.mem_singleton.mp hb]
    exact I1.fpOk (Nat.le_refl _) (I1.hok.fresh (Nat.le_refl _))
  · obtain ⟨its, rv, p, hz⟩ := I1.tuple hq
    refine wpAny_pyIter_tuple (show s1.heap.IsTuple a its.toArray from p) ⟨s1.heap.objs.size, [s1.heap.objs.size], _, _, H1, rfl, I1.kept (t' := s1.toks) fun b o e => Heap.get?_push_of_some _ e, turn_tuple a _, ⟨_, Heap.get?_push_size _ rfl, rfl, rfl⟩, fun b hb => ?_, q⟩
    rw [List.mem_singleton.mp hb]
    exact I1.fpOk (Nat.le_refl _) (I1.hok.fresh (Nat.le_refl _))
  · obtain ⟨hs, hgd, hx, es, ep, vs, hdt, hsz, kv, hm⟩ := I1.frzK hd
    refine iter_keys hs hgd hx hdt (pi_one (tk := s1.toks) I1 _ (turn_keys _ hdt) ⟨_, Heap.get?_push_size _ rfl, rfl, ?_⟩ q)
    rw [hsz] <;> rfl
  · obtain ⟨od, I2⟩ := I1.lock hd trivial
    obtain ⟨hs, hgd, hx, es, ep, vs, hdt, hsz, kv, hm⟩ := I2.frzK upd_same
    refine iter_keys hs hgd hx hdt (pi_one (tk := s1.toks) I2 _ (turn_keys _ hdt) ⟨_, Heap.get?_push_size _ rfl, rfl, ?_⟩ (q od))
    rw [hsz] <;> rfl
theorem item_of {G : Hp} {xs : List Dv} {vs : List V} {i : Nat} {x : V} (t : RelDs X.K cl G xs vs) (hx : vs[i]? = some x) : ∃ d, xs[i]? = some d ∧ RelD X.K cl G d x := by
  have ht := t.paired
  have hi : i < xs.length := by rw [t.length]; exact (List.getElem?_eq_some_iff.mp hx).1
  obtain ⟨y, h1, h2⟩ := paired_get (i := i) (x := xs[i]) ht (by simp [hi])
  rw [hx] at h1
  cases h1
  exact ⟨_, by simp [hi], h2⟩
theorem sv_for {it tgt : Expr} {body : List Stmt} {tg : Tg} {fb : Fr → Sto → SRes} (hp : PassesOwn (model X.prog X.w) X.A X.env X.xe) (hc : X.calm = true) (hi : PE X it (RE X cl Wx fe)) (hg : PG X tgt (RG X cl tg)) (hb : PSs X body (RS X cl Wx fb))
    (hs : ∀ x, foldedSetIterable it X.env x = pure x := by exact fun _ => rfl) : PS X (.For tgt it body [] pos) (RS X cl Wx (sFor fe tg fb)) :=
  PS.weak (ps_for hp hc (pi_seq hi) hg hb hs) fun D σ H ⟨W, F, S, a, o⟩ => by
    refine RE.ofS a o fun W1 S1 y v H1 g1 l1 a1 q1 o1 => ?_
    split at o1
    · rename_i xs S2 hf
      obtain ⟨n2, w2, k2⟩ := freeze_ok (K := X.K) (cl := cl) hf
      obtain ⟨W2, e2, l2, r2, q2⟩ := k2 W1 H1 v a1.rel q1
      have g2 : Gr F.b S1 S2 := ⟨Nat.le_of_eq n2.symm, fun b _ => w2 b⟩
      have a2 := a1.on g2 l2 r2
      cases q2 with
      | lst h t =>
        refine ⟨_, rfl, .inl ⟨⟨_, SqL.up r2.fz h⟩, for_list (ForP X cl Wx D F.b W2 S2.length tg fb (xs.map .d)) ⟨W2, F.v, S2, Nat.le_refl _, .refl _ _, a2, OutS.rebase o1 g2 l2⟩ (fun i σ H _ ⟨W, v, S, hn, hl, a, _⟩ => SqL.up a.rel.fz (SqL.le hl h)) (fun i x σ H hx hP => ?_) fun σ H hP => ?_⟩⟩
        · obtain ⟨d, hd, rd⟩ := item_of t hx
          exact forP_turn (sv := .d d) (by rw [List.getElem?_map, hd]; rfl) (fun W n hl hn => RelD.le hl rd) hP
        · obtain ⟨W, v, S, hn, hl, a, o⟩ := hP
          rw [List.drop_of_length_le (by rw [List.length_map, t.length]; exact Nat.le_refl _)] at o
          exact OutS.here o a
    · rename_i xs S2 hf
      obtain ⟨n2, w2, k2⟩ := freeze_ok (K := X.K) (cl := cl) hf
      obtain ⟨W2, e2, l2, r2, q2⟩ := k2 W1 H1 v a1.rel q1
      have g2 : Gr F.b S1 S2 := ⟨Nat.le_of_eq n2.symm, fun b _ => w2 b⟩
      have a2 := a1.on g2 l2 r2
      cases q2 with
      | tup h t =>
        refine ⟨_, rfl, .inr (.inl ⟨⟨_, SqT.up r2.fz h⟩, for_tup (ForP X cl Wx D F.b W2 S2.length tg fb (xs.map .d)) ⟨W2, F.v, S2, Nat.le_refl _, .refl _ _, a2, OutS.rebase o1 g2 l2⟩ (fun i σ H _ ⟨W, v, S, hn, hl, a, _⟩ => SqT.up a.rel.fz (SqT.le hl h)) (fun i x σ H hx hP => ?_) fun σ H hP => ?_⟩)⟩
        · obtain ⟨d, hd, rd⟩ := item_of t hx
          exact forP_turn (sv := .d d) (by rw [List.getElem?_map, hd]; rfl) (fun W n hl hn => RelD.le hl rd) hP
        · obtain ⟨W, v, S, hn, hl, a, o⟩ := hP
          rw [List.drop_of_length_le (by rw [List.length_map, t.length]; exact Nat.le_refl _)] at o
          exact OutS.here o a
    · rename_i ks xs S2 hf
      obtain ⟨n2, w2, k2⟩ := freeze_ok (K := X.K) (cl := cl) hf
      obtain ⟨W2, e2, l2, r2, q2⟩ := k2 W1 H1 v a1.rel q1
      have g2 : Gr F.b S1 S2 := ⟨Nat.le_of_eq n2.symm, fun b _ => w2 b⟩
      have a2 := a1.on g2 l2 r2
      have o2 := OutS.rebase o1 g2 l2
      cases q2 with
      | @dic ad hob _ _ vs h c l t =>
        have lz : (ks.zip vs).length = ks.length := by rw [List.length_zip, ← t.length, ← l.1, Nat.min_self]
        have kz : ∀ {i k v}, (ks.zip vs)[i]? = some (k, v) → ks[i]? = some k := fun {i k v} e => (List.getElem?_zip_eq_some.mp e).1
        have kk : ∀ {i k} {G : Hp}, ks[i]? = some k → RelD X.K cl G (keyD k) (kV k) := fun {i k G} e => by
          have := List.all_eq_true.mp l.2 k (List.mem_of_getElem? e)
          cases k with
          | inl i => exact .int i
          | inr s => exact .str s this
        have body : ∀ W3 H3 o, W3.G ad = some (.frz o (.dK (ks.zip vs))) → At X.K cl W3 F S2 σ H3 → Le S2.length W2 W3 → ∃ Wf : Nat → Nat → St → Hp → Prop, (∃ m, Wf 0 m σ H3) ∧ ∀ i m σ H, Wf i m σ H →
            ((Itk ad o (ks.zip vs)).stop i H ∧ D.nx σ H) ∨ ((Itk ad o (ks.zip vs)).go i H ∧ ∃ N : St → Hp → Prop, (∀ σ' H', N σ' H' → ∃ m', m' < m ∧ Wf (i + 1) m' σ' H') ∧ ∀ x H', (Itk ad o (ks.zip vs)).yld i H x H' → RG X cl tg x σ H' fun σ2 H2 => RS X cl Wx fb { D with nx := N, ct := N, bk := D.nx } σ2 H2) := by
          intro W3 H3 o g3 a3 l3
          refine for_itk (ForP X cl Wx D F.b W3 S2.length tg fb (ks.map keyS)) ⟨W3, F.v, S2, Nat.le_refl _, .refl _ _, a3, OutS.rebase o2 (.refl _ _) l3⟩ (fun i σ H _ ⟨W, v, S, hn, hl, a, _⟩ => ?_) (fun i k v σ H hx hP => ?_) fun σ H hP => ?_
          · obtain ⟨o', e', s'⟩ := hl.g _ _ g3
            rcases s' with rfl | ⟨_, _, z, _⟩
            · exact a.rel.fz _ _ e'
            · cases z
          · exact forP_turn (sv := keyS k) (by rw [List.getElem?_map, kz hx]; rfl) (fun W n hl hn => kk (kz hx)) hP
          · obtain ⟨W, v, S, hn, hl, a, o⟩ := hP
            rw [List.drop_of_length_le (by rw [List.length_map, lz]; exact Nat.le_refl _)] at o
            exact OutS.here o a
        refine ⟨_, rfl, .inr (.inr ?_)⟩
        cases hob <;> first
          | (cases c
             refine .inr ⟨_, r2.fz _ _ h, fun o => ?_⟩
             obtain ⟨r3, l3⟩ := r2.pin h o S2.length
             exact body _ _ o upd_same (a2.on (.refl _ _) l3 r3) l3)
          | (rename_i ob u
             have c' : u = .dK (ks.zip vs) := c
             subst c'
             exact .inl ⟨_, ob, r2.fz _ _ h, body W2 H1 ob h a2 (.refl _ _)⟩)
          | (cases c)
    · exact o1.elim
/-- over range(lo, hi) -/
def rng (lo : Int) (n : Nat) : List SV := (List.range n).map fun (i : Nat) => .d (.int (lo + (i : Int)))
def small62 (i : Int) : Bool := decide (-4611686018427387904 ≤ i) && decide (i < 4611686018427387904)
def sForR (fa : Fr → Sto → Res (List SV)) (tg : Tg) (body : Fr → Sto → SRes) : Fr → Sto → SRes := fun F S => (fa F S).st F fun as S1 => match as with
  | [.d (.int n)] => if small62 n = true then forL tg body F.b (rng 0 n.toNat) F.v S1 else .bad
  | _ => .bad
def sForR2 (fa : Fr → Sto → Res (List SV)) (tg : Tg) (body : Fr → Sto → SRes) : Fr → Sto → SRes := fun F S => (fa F S).st F fun as S1 => match as with
  | [.d (.int m), .d (.int n)] => if (small62 m && small62 n) = true then forL tg body F.b (rng m (n - m).toNat) F.v S1 else .bad
  | _ => .bad
theorem rng_at {lo : Int} {n i : Nat} (h : i < n) : (rng lo n)[i]? = some (.d (.int (lo + i))) := by
  unfold rng
  rw [List.getElem?_map, List.getElem?_range h]
  rfl
theorem rng_len (lo : Int) (n : Nat) : (rng lo n).length = n := by unfold rng; rw [List.length_map, List.length_range]
theorem RA.ofS {fa : Fr → Sto → Res (List SV)} {k : List SV → Sto → SRes} {Q' : List V → Hp → Prop} (a : At X.K cl W F S σ H) (h : OutS X.K cl Wx D F.b W S ((fa F S).st F k))
    (kk : ∀ W1 S1 x v H1, Gr F.b S S1 → Le S.length W W1 → At X.K cl W1 F S1 σ H1 → Paired (RelSV X.K cl W1 S1.length) x v → OutS X.K cl Wx D F.b W1 S1 (k x S1) → Q' v H1) : RA X cl Wx fa σ H Q' := by
  refine ⟨W, F, S, a, ?_⟩
  cases hr : fa F S with
  | ok x S1 =>
    rw [hr] at h
    exact fun W1 H1 v g1 l1 r1 q1 => kk W1 S1 x v H1 g1 l1 (a.on g1 l1 r1) q1 (OutS.rebase h g1 l1)
  | ex ec S1 =>
    rw [hr] at h
    exact fun W1 H1 c d g1 l1 r1 q1 => h W1 σ H1 c d g1 l1 (a.on g1 l1 r1) q1
  | bad => rw [hr] at h; exact h
theorem range_turns {g : TG} {tb : TS} {lo : Int} {n : Nat} {tg : Tg} {fb : Fr → Sto → SRes} (a1 : At X.K cl W F S σ H) (o1 : OutS X.K cl Wx D F.b W S (forL tg fb F.b (rng lo n) F.v S)) (hg : g = RG X cl tg) (hb : tb = RS X cl Wx fb) :
    ∃ Wn : Nat → Nat → St → Hp → Prop, (∃ m, Wn 0 m σ H) ∧ ∀ i m σ H, Wn i m σ H →
      ((Itr lo n).stop i H ∧ D.nx σ H) ∨ ((Itr lo n).go i H ∧ ∃ N : St → Hp → Prop, (∀ σ' H', N σ' H' → ∃ m', m' < m ∧ Wn (i + 1) m' σ' H') ∧ ∀ x H', (Itr lo n).yld i H x H' → g x σ H' fun σ2 H2 => tb { D with nx := N, ct := N, bk := D.nx } σ2 H2) := by
  subst hg hb
  refine for_range (ForP X cl Wx D F.b W S.length tg fb (rng lo n)) ⟨W, F.v, S, Nat.le_refl _, .refl _ _, a1, o1⟩ (fun i σ H hi hP => forP_turn (rng_at hi) (fun _ _ _ _ => RelD.int _) hP) fun σ H hP => ?_
  obtain ⟨W, v, S, hn, hl, a, o⟩ := hP
  rw [List.drop_of_length_le (by rw [rng_len]; exact Nat.le_refl _)] at o
  exact OutS.here o a
theorem sv_forR1 {ea tgt : Expr} {p pc : Pos} {body : List Stmt} {tg : Tg} {fa : Fr → Sto → Res (List SV)} {fb : Fr → Sto → SRes} (hp : PassesOwn (model X.prog X.w) X.A X.env X.xe) (hc : X.calm = true) (hgl : Gl X "range") (hm : X.mg "range" = none) (ha : PA X [ea] (RA X cl Wx fa)) (hg : PG X tgt (RG X cl tg)) (hb : PSs X body (RS X cl Wx fb))
    (hs : starEach [ea] X.env = [(false, eval ea X.env)] := by rfl) : PS X (.For tgt (.Call (.Name "range" p) [ea] [] pc) body [] pos) (RS X cl Wx (sForR fa tg fb)) :=
  PS.weak (ps_for hp hc (pi_range1 hgl hm ha hs) hg hb) fun D σ H ⟨W, F, S, a, o⟩ => by
    refine RA.ofS a o fun W1 S1 as vs H1 g1 l1 a1 q1 o1 => ?_
    split at o1
    · split at o1
      · rename_i n hn
        simp only [small62, Bool.and_eq_true, decide_eq_true_eq] at hn
        match vs, q1 with
        | [v], .cons q .nil =>
          cases q
          exact ⟨n, rfl, by omega, by omega, range_turns a1 o1 rfl rfl⟩
      · exact o1.elim
    · exact o1.elim
theorem sv_forR2 {ea eb tgt : Expr} {p pc : Pos} {body : List Stmt} {tg : Tg} {fa : Fr → Sto → Res (List SV)} {fb : Fr → Sto → SRes} (hp : PassesOwn (model X.prog X.w) X.A X.env X.xe) (hc : X.calm = true) (hgl : Gl X "range") (hm : X.mg "range" = none) (ha : PA X [ea, eb] (RA X cl Wx fa)) (hg : PG X tgt (RG X cl tg)) (hb : PSs X body (RS X cl Wx fb))
    (hs : starEach [ea, eb] X.env = [(false, eval ea X.env), (false, eval eb X.env)] := by rfl) (hs2 : starEach [eb] X.env = [(false, eval eb X.env)] := by rfl) : PS X (.For tgt (.Call (.Name "range" p) [ea, eb] [] pc) body [] pos) (RS X cl Wx (sForR2 fa tg fb)) :=
  PS.weak (ps_for hp hc (pi_range2 hgl hm ha hs hs2) hg hb) fun D σ H ⟨W, F, S, a, o⟩ => by
    refine RA.ofS a o fun W1 S1 as vs H1 g1 l1 a1 q1 o1 => ?_
    split at o1
    · split at o1
      · rename_i m n hn
        simp only [small62, Bool.and_eq_true, decide_eq_true_eq] at hn
        match vs, q1 with
        | [v, u], .cons q (.cons q' .nil) =>
          cases q
          cases q'
          exact ⟨m, n, rfl, by omega, range_turns a1 o1 rfl rfl⟩
      · exact o1.elim
    · exact o1.elim
end
end Ev

set_option Elab.async false
set_option linter.all false
set_option maxRecDepth 100000
/-! Ev10: stores into things, while, unpacking; a def's body. -/
namespace Ev
open PySem L2

/-! ### o[i] = e -/
def hasK (k : Key) (ks : List Key) : Bool := ks.any fun a => decide (a = k)
def dPut (k : Key) (x : SV) (ks : List Key) (xs : List SV) : List Key × List SV := if hasK k ks = true then (ks, List.zipWith (fun a y => if a = k then x else y) ks xs) else (ks ++ [k], xs ++ [x])
def putIx (b : Nat) (S : Sto) (o i x : SV) : Option Sto := match o with
  | .m j => match S[j]? with
    | some (.lst xs) => match view S i with
      | some (.int k) => match ixN xs.length k with
        | some n => if okIn b j x = true then some (S.set j (.lst (xs.set n x))) else none
        | none => none
      | _ => none
    | some (.dic ks xs) => match view S i with
      | some kd => match kOf kd with
        | some k => if okIn b j x = true ∧ ks.length < most then some (S.set j (.dic (dPut k x ks xs).1 (dPut k x ks xs).2)) else none
        | none => none
      | none => none
    | _ => none
  | _ => none
section
variable {K : PySem.W.Frag} {cl : Nat → Addr} {W : Wd} {n : Nat}
theorem paired_set {α β : Type} {R : α → β → Prop} {x : α} {y : β} (r : R x y) : ∀ {xs : List α} {ys : List β} (i : Nat), Paired R xs ys → Paired R (xs.set i x) (ys.set i y)
  | _, _, _, .nil => .nil
  | _, _, 0, .cons _ t => .cons r t
  | _, _, i + 1, .cons q t => .cons q (paired_set r i t)
theorem paired_zw {k : Key} {x : SV} {v : V} (r : RelSV K cl W n x v) : ∀ {ks : List Key} {xs : List SV} {vs : List V}, Paired (RelSV K cl W n) xs vs → Paired (RelSV K cl W n) (List.zipWith (fun a y => if a = k then x else y) ks xs) (List.zipWith (fun a y => if a = k then v else y) ks vs)
  | [], _, _, _ => by simp only [List.zipWith_nil_left]; exact .nil
  | _ :: _, _, _, .nil => by simp only [List.zipWith_nil_right]; exact .nil
  | a :: ks, _, _, .cons q t => by
    simp only [List.zipWith_cons_cons]
    refine .cons ?_ (paired_zw r t)
    by_cases h : a = k
    · rw [if_pos h, if_pos h]; exact r
    · rw [if_neg h, if_neg h]; exact q
theorem put_zip {k : Key} {v : V} : ∀ {ks : List Key} {vs : List V}, ks.length = vs.length → putK (ks.zip vs) k v = if hasK k ks = true then ks.zip (List.zipWith (fun a y => if a = k then v else y) ks vs) else (ks ++ [k]).zip (vs ++ [v]) := by
  intro ks vs l
  have hany : ∀ {ks : List Key} {vs : List V}, ks.length = vs.length → ((ks.zip vs).any fun kv => decide (kv.1 = k)) = hasK k ks := by
    intro ks
    induction ks with
    | nil => intro vs _; rfl
    | cons a ks ih =>
      intro vs l
      cases vs with
      | nil => cases l
      | cons y vs =>
        rw [List.zip_cons_cons, List.any_cons, ih (Nat.succ.inj l)]
        rfl
  have hmap : ∀ {ks : List Key} {vs : List V}, (ks.zip vs).map (fun kv => if kv.1 = k then (kv.1, v) else kv) = ks.zip (List.zipWith (fun a y => if a = k then v else y) ks vs) := by
    intro ks
    induction ks with
    | nil => intro vs; rfl
    | cons a ks ih =>
      intro vs
      cases vs with
      | nil => rfl
      | cons y vs =>
        simp only [List.zip_cons_cons, List.map_cons, List.zipWith_cons_cons]
        rw [ih]
        congr 1
        by_cases h : a = k
        · rw [if_pos h, if_pos h]
        · rw [if_neg h, if_neg h]
  unfold putK
  rw [hany l]
  by_cases h : hasK k ks = true
  · rw [if_pos h, if_pos h, hmap]
  · rw [if_neg h, if_neg h, List.zip_append l]
    rfl
end
theorem key_ok {K : PySem.W.Frag} {cl : Nat → Addr} {W : Wd} {S : Sto} {H : Hp} {b : SV} {y : V} {k : Dv} {kk : Key} (r : Rel K cl W S H) (eb : view S b = some k) (rb : RelSV K cl W S.length b y) (e : kOf k = some kk) : keyOk kk = true := by
  cases k <;> first | (cases e; done) | skip
  · cases e; rfl
  · cases e; exact (view_str r eb rb).2
def RSet (X : Cx) (cl : Nat → Addr) : TSet := fun o i v H Q => ∃ W S a k x b S', b ≤ S.length ∧ Rel X.K cl W S H ∧ RelSV X.K cl W S.length a o ∧ RelSV X.K cl W S.length k i ∧ RelSV X.K cl W S.length x v ∧ putIx b S a k x = some S' ∧
  ∀ H', Gr b S S' → Rel X.K cl W S' H' → Q H'
theorem PSet.or {X : Cx} {t t' : TSet} (h : PSet X t) (h' : PSet X t') : PSet X (fun o i v H Q => t o i v H Q ∨ t' o i v H Q) := by
  intro pins s σ H o i v ov iv u Q I h1 h2 h3 q
  rcases q with q | q
  · exact h pins s σ H o i v ov iv u Q I h1 h2 h3 q
  · exact h' pins s σ H o i v ov iv u Q I h1 h2 h3 q
theorem PSet.weak {X : Cx} {t t' : TSet} (h : PSet X t) (k : ∀ o i v H Q, t' o i v H Q → t o i v H Q) : PSet X t' := by
  intro pins s σ H o i v ov iv u Q I h1 h2 h3 q
  exact h pins s σ H o i v ov iv u Q I h1 h2 h3 (k _ _ _ _ _ q)
theorem zw_len {α β γ : Type} {f : α → β → γ} {xs : List α} {ys : List β} (h : xs.length = ys.length) : xs.length = (List.zipWith f xs ys).length := by
  rw [List.length_zipWith, ← h, Nat.min_self]
theorem mem_zw {k : Key} {x y : SV} : ∀ {ks : List Key} {xs : List SV}, y ∈ List.zipWith (fun a z => if a = k then x else z) ks xs → y = x ∨ y ∈ xs
  | [], _, h => by simp at h
  | _ :: _, [], h => by simp at h
  | a :: ks, z :: xs, h => by
    rw [List.zipWith_cons_cons] at h
    rcases List.mem_cons.mp h with h | h
    · by_cases e : a = k
      · rw [if_pos e] at h; exact .inl h
      · rw [if_neg e] at h; exact .inr (by rw [h]; exact List.mem_cons_self ..)
    · exact (mem_zw h).imp id (List.mem_cons_of_mem _)
theorem ov_setIx {X : Cx} {cl : Nat → Addr} (hu : X.A.units + 1 < cLine) : PSet X (RSet X cl) := PSet.weak (PSet.or (set_list (X := X)) (set_dict hu)) fun o i v H Q ⟨W, S, a, k, x, b, S', hb, r, ra, rk, rx, e, q⟩ => by
  unfold putIx at e
  split at e
  · rename_i j
    obtain ⟨_, rfl⟩ := ra
    split at e
    · rename_i xs hx
      obtain ⟨g0, vs, h1, h2⟩ := r.st j _ hx
      split at e
      · rename_i kk ek
        split at e
        · rename_i m hm
          split at e
          · rename_i hok
            cases e
            refine .inl ⟨_, vs, kk, m, rfl, view_int r ek rk, h1, by rw [← PySem.Paired.length h2]; exact hm, q _ (.set fun b' hb' w hi y hy => ?_) (r.set hx rfl ⟨g0, _, upd_same, paired_set rx m h2⟩)⟩
            rcases List.mem_or_eq_of_mem_set hy with hy | rfl
            · exact w j _ hi hx y hy
            · exact okIn_below hok hb' hi
          · cases e
        · cases e
      · cases e
    · rename_i ks xs hx
      obtain ⟨g0, vs, h1, l1, h2⟩ := r.st j _ hx
      split at e
      · rename_i kd ekd
        split at e
        · rename_i kk ek
          split at e
          · rename_i hok
            cases e
            have lv : ks.length = vs.length := l1.1.trans (PySem.Paired.length h2)
            have ko : keyOk kk = true := key_ok r ekd rk ek
            have lz : (ks.zip vs).length = ks.length := by rw [List.length_zip, ← lv, Nat.min_self]
            refine .inr ⟨_, _, rfl, .inl ⟨_, kk, h1, key_rel r ekd rk ek, by rw [lz]; exact hok.2, rfl⟩, ?_⟩
            rw [put_zip lv]
            unfold dPut at q
            by_cases hm : hasK kk ks = true
            · simp only [if_pos hm] at q ⊢
              refine q _ (.set fun b' hb' w hi y hy => ?_) (r.set hx rfl ⟨g0, _, upd_same, ⟨zw_len l1.1, l1.2⟩, paired_zw rx h2⟩)
              rcases mem_zw hy with rfl | hy
              · exact okIn_below hok.1 hb' hi
              · exact w j _ hi hx y hy
            · simp only [if_neg hm] at q ⊢
              refine q _ (.set fun b' hb' w hi y hy => ?_) (r.set hx rfl ⟨g0, _, upd_same, ⟨by rw [List.length_append, List.length_append, l1.1]; rfl, by rw [List.all_append, l1.2]; simp [ko]⟩, paired_snoc h2 rx⟩)
              rcases List.mem_append.mp hy with hy | hy
              · exact w j _ hi hx y hy
              · cases List.mem_singleton.mp hy
                exact okIn_below hok.1 hb' hi
          · cases e
        · cases e
      · cases e
    · cases e
  · cases e
section
variable {X : Cx} {cl : CL} {Wx : WX} {e eo ei : Expr} {fe fo fi : Fr → Sto → Res SV} {t : Fr → Sto → Res Bool} {fb : Fr → Sto → SRes} {pos pos' : Pos} {D : Ends} {W : Wd} {F : Fr} {S : Sto} {σ : St} {H : Hp}
def sSub (fo fi fe : Fr → Sto → Res SV) : Fr → Sto → SRes := fun F S => (fe F S).st F fun x S1 => (fo F S1).st F fun o S2 => (fi F S2).st F fun i S3 => match putIx F.b S3 o i x with
  | some S4 => .nx F.v S4
  | none => .bad
theorem sv_sub (hu : X.A.units + 1 < cLine) (ho : PE X eo (RE X cl Wx fo)) (hi : PE X ei (RE X cl Wx fi)) (he : PE X e (RE X cl Wx fe))
    (hs : swapsWithSole [.Subscript eo ei pos'] e pos.line X.env = pure false := by rfl) (hw : swappedStores [.Subscript eo ei pos'] e X.env = pure none := by rfl)
    (h1 : (assignEach [.Subscript eo ei pos'] X.env).map (·.2) = [assign (.Subscript eo ei pos') X.env] := by rfl)
    (ha : ∀ v, assign (.Subscript eo ei pos') X.env v = (do
      let ov ← holding [v] (eval eo X.env)
      let iv ← holding [v, ov] (eval ei X.env)
      standAt pos'
      holding [v, ov, iv] (setItem ov iv v)
      release [v, ov, iv] []) := by exact fun _ => rfl) : PS X (.Assign [.Subscript eo ei pos'] e pos) (RS X cl Wx (sSub fo fi fe)) :=
  PS.weak (ps_asg he (pg_sub ho hi (ov_setIx (cl := cl) hu) ha) hs hw h1) fun D σ H ⟨W, F, S, a, o⟩ => by
    refine RE.ofS a o fun W1 S1 x v H1 g1 l1 a1 q1 o1 => ?_
    refine RE.ofS a1 o1 fun W2 S2 y u H2 g2 l2 a2 q2 o2 => ?_
    refine RE.ofS a2 o2 fun W3 S3 z w H3 g3 l3 a3 q3 o3 => ?_
    split at o3
    · rename_i S4 hp
      exact ⟨W3, S3, y, z, x, F.b, S4, a3.b, a3.rel, RelSV.le l3 g3.len q2, q3, RelSV.le (l2.trans l3 g2.len) (Nat.le_trans g2.len g3.len) q1, hp,
        fun H' g r => o3 W3 σ H' g (.refl _ _) (a3.on g (.refl _ _) r)⟩
    · exact o3.elim

/-! ### o.f = e -/
def putX (nm : Str) (x : SV) : List Str → List SV → List Str × List SV
  | g :: fs, y :: xs => if g = nm then (g :: fs, x :: xs) else (g :: (putX nm x fs xs).1, y :: (putX nm x fs xs).2)
  | _, _ => ([nm], [x])
theorem putX_rel {K : PySem.W.Frag} {n : Nat} {nm : Str} {x : SV} {v : V} (r : RelSV K cl W n x v) : ∀ {fs : List Str} {xs : List SV} {vs : List V}, fs.length = xs.length → Paired (RelSV K cl W n) xs vs →
    ∃ ws, putF nm v (fs.zip vs) = (putX nm x fs xs).1.zip ws ∧ (putX nm x fs xs).1.length = (putX nm x fs xs).2.length ∧ Paired (RelSV K cl W n) (putX nm x fs xs).2 ws
  | [], [], [], _, .nil => ⟨[v], rfl, rfl, .cons r .nil⟩
  | g :: fs, y :: xs, u :: vs, l, .cons q t => by
    obtain ⟨ws, h1, h2, h3⟩ := putX_rel r (Nat.succ.inj l) t
    unfold putX
    rw [List.zip_cons_cons]
    unfold putF
    by_cases h : g = nm
    · simp only [if_pos h]
      exact ⟨v :: vs, rfl, by simpa using l, .cons r t⟩
    · simp only [if_neg h]
      exact ⟨u :: ws, by rw [h1, List.zip_cons_cons], by simp [h2], .cons q h3⟩
  | [], _ :: _, _, l, _ => by cases l
  | _ :: _, [], _, l, _ => by cases l
theorem putX_mem {nm : Str} {x z : SV} : ∀ {fs : List Str} {xs : List SV}, z ∈ (putX nm x fs xs).2 → z = x ∨ z ∈ xs
  | [], _, h => by simp [putX] at h; exact .inl h
  | _ :: _, [], h => by simp [putX] at h; exact .inl h
  | g :: fs, y :: xs, h => by
    unfold putX at h
    by_cases e : g = nm
    · simp only [if_pos e] at h
      rcases List.mem_cons.mp h with h | h
      · exact .inl h
      · exact .inr (List.mem_cons_of_mem _ h)
    · simp only [if_neg e] at h
      rcases List.mem_cons.mp h with h | h
      · exact .inr (by rw [h]; exact List.mem_cons_self ..)
      · exact (putX_mem h).imp id (List.mem_cons_of_mem _)
def sAttr (cs : List Nat) (nm : Str) (fo fe : Fr → Sto → Res SV) : Fr → Sto → SRes := fun F S => (fe F S).st F fun x S1 => (fo F S1).st F fun o S2 => match o with
  | .m j => match S2[j]? with
    | some (.ins c fs xs) => if cs.contains c = true ∧ fs.length < 1000 ∧ okIn F.b j x = true then .nx F.v (S2.set j (.ins c (putX nm x fs xs).1 (putX nm x fs xs).2)) else .bad
    | _ => .bad
  | _ => .bad
theorem sv_attr {cs : List Nat} {nm : Str} (hc : ∀ c, c ∈ cs → Cls X.K (cl c) ∧ NoAttr X.K (cl c) nm) (ho : PE X eo (RE X cl Wx fo)) (he : PE X e (RE X cl Wx fe)) (hs : swapsWith e (some (.Attribute eo nm pos')) pos.line X.env = pure false := by rfl) :
    PS X (.Assign [.Attribute eo nm pos'] e pos) (RS X cl Wx (sAttr cs nm fo fe)) :=
  PS.weak (ps_fld ho he hs) fun D σ H ⟨W, F, S, a, o⟩ => by
    refine RE.ofS a o fun W1 S1 x v H1 g1 l1 a1 q1 o1 => ?_
    refine RE.ofS a1 o1 fun W2 S2 y u H2 g2 l2 a2 q2 o2 => ?_
    split at o2
    · rename_i j
      split at o2
      · rename_i c fs xs hx
        split at o2
        · rename_i hcc
          obtain ⟨h1, h2, h3⟩ := hcc
          obtain ⟨_, rfl⟩ := q2
          obtain ⟨g0, vs, dx, k1, k2, k3⟩ := a2.rel.st j _ hx
          obtain ⟨c1, c2⟩ := hc c (by simpa using h1)
          have q1' := RelSV.le l2 g2.len q1
          obtain ⟨ws, m1, m2, m3⟩ := putX_rel (nm := nm) q1' k2 k3
          have lz : (fs.zip vs).length = fs.length := by rw [List.length_zip, ← PySem.Paired.length k3, ← k2, Nat.min_self]
          refine ⟨_, cl c, dx, _, rfl, k1, c1, c2, by rw [lz]; exact h2, ?_⟩
          rw [m1]
          have gr : Gr F.b S2 (S2.set j (.ins c (putX nm x fs xs).1 (putX nm x fs xs).2)) := .set fun b' hb' w hi z hz => by
            rcases putX_mem hz with rfl | hz
            · exact okIn_below h3 hb' hi
            · exact w j _ hi hx z hz
          exact o2 W2 σ _ gr (.refl _ _) (a2.on gr (.refl _ _) (a2.rel.set hx rfl ⟨g0, ws, dx, upd_same, m2, m3⟩))
        · exact o2.elim
      · exact o2.elim
    · exact o2.elim

/-! ### x op= e -/
def sAug (i : Nat) (o : Sto → SV → SV → Option Dv) (fe : Fr → Sto → Res SV) : Fr → Sto → SRes := fun F S => match F.v[i]? with
  | some (some x) => (fe F S).st F fun y S1 => match o S1 x y with
    | some z => .nx (F.put i (.d z)) S1
    | none => .bad
  | _ => .bad
theorem sv_aug (i : Nat) {x : Str} {op : Operator} {o : Sto → SV → SV → Option Dv} (ho : OpR X (inplaceOp op) (ROp X cl o)) (he : PE X e (RE X cl Wx fe)) (hN : X.N.Nodup) (hi : X.N[i]? = some x := by rfl) (hx : Loc X.env.scope x := by first | exact Or.inl rfl | exact Or.inr rfl)
    (hf : X.fn x = true ∨ X.env.scope.names.lookup x = some .local := by first | exact .inl rfl | exact .inr rfl) : PS X (.AugAssign (.Name x pos') op e pos) (RS X cl Wx (sAug i o fe)) :=
  PS.weak (ps_aug (ti := ROp X cl o) hN hi hx he ho hf) fun D σ H ⟨W, F, S, a, o⟩ => by
    unfold sAug at o
    split at o
    · rename_i sv esv
      obtain ⟨v, e1, r1⟩ := a.env.get i sv esv
      refine ⟨v, e1, RE.ofS a o fun W1 S1 y u H1 g1 l1 a1 q1 o1 => ?_⟩
      split at o1
      · rename_i z hz
        exact ⟨W1, S1, sv, y, z, a1.rel, RelSV.le l1 g1.len r1, q1, hz, fun W' H' v' l r q => o1 W' _ H' (.refl _ _) l ((a1.on (.refl _ _) l r).put i q)⟩
      · exact o1.elim
    · exact o.elim
def opIAdd (S : Sto) (a b : SV) : Option Dv := match view S a, view S b with
  | some (.int i), some (.int j) => some (.int (i + j))
  | some (.str i), some (.str j) => if i.length + j.length ≤ most then some (.str (i ++ j)) else none
  | _, _ => none
theorem ov_iadd : OpR X (inplaceOp .Add) (ROp X cl opIAdd) := OpR.weak ((iop_add (X := X)).or iop_add_str) fun x y H Q ⟨W, S, a, b, z, r, ra, rb, e, k⟩ => by
  unfold opIAdd at e
  split at e
  · rename_i i j ea eb
    cases e
    exact .inl ⟨i, j, view_int r ea ra, view_int r eb rb, k W H _ (.refl _ _) r (.int _)⟩
  · rename_i i j ea eb
    split at e
    · rename_i hm
      cases e
      obtain ⟨e1, k1⟩ := view_str r ea ra
      obtain ⟨e2, k2⟩ := view_str r eb rb
      exact .inr ⟨i, j, e1, e2, hm, k W H _ (.refl _ _) r (.str _ (strOk_add k1 k2))⟩
    · cases e
  · cases e
theorem ov_isub : OpR X (inplaceOp .Sub) (ROp X cl opSub) := ov_int (rI_of iop_sub) (fun _ _ _ => trivial) fun _ _ _ i j => .int _

/-! ### while -/
def whl (t : Fr → Sto → Res Bool) (body : Fr → Sto → SRes) (b : Nat) : Nat → Env → Sto → SRes
  | 0, _, _ => .bad
  | k + 1, v, S => (t ⟨b, v⟩ S).st ⟨b, v⟩ fun c S1 => if c = true then (match body ⟨b, v⟩ S1 with
      | .nx v2 S2 => whl t body b k v2 S2
      | .ct v2 S2 => whl t body b k v2 S2
      | .bk v2 S2 => .nx v2 S2
      | o => o) else .nx v S1
def sWhile (n : Nat) (t : Fr → Sto → Res Bool) (body : Fr → Sto → SRes) : Fr → Sto → SRes := fun F S => whl t body F.b n F.v S
theorem sv_while (n : Nat) {c : Expr} {body : List Stmt} (hp : PassesOwn (model X.prog X.w) X.A X.env X.xe) (hc : PT X c (RT X cl Wx t)) (hb : PSs X body (RS X cl Wx fb)) : PS X (.While c body [] pos) (RS X cl Wx (sWhile n t fb)) :=
  PS.weak (ps_while hp hc hb) fun D σ H ⟨W, F, S, a, o⟩ => by
    refine ⟨fun m σ H => ∃ W v S, At X.K cl W ⟨F.b, v⟩ S σ H ∧ OutS X.K cl Wx D F.b W S (whl t fb F.b m v S), ⟨n, W, F.v, S, a, o⟩, ?_⟩
    rintro m σ H ⟨W, v, S, a, o⟩
    cases m with
    | zero => exact o.elim
    | succ m =>
      refine RT.ofS a o fun W1 S1 c H1 g1 l1 a1 o1 => ?_
      split at o1
      · rename_i hcc
        rw [if_pos hcc]
        refine ⟨fun σ' H' => ∃ W v S, At X.K cl W ⟨F.b, v⟩ S σ' H' ∧ OutS X.K cl Wx D F.b W S (whl t fb F.b m v S), fun σ' H' h => ⟨m, Nat.lt_succ_self _, h⟩, W1, ⟨F.b, v⟩, S1, a1, ?_⟩
        cases hr : fb ⟨F.b, v⟩ S1 with
        | nx v2 S2 => rw [hr] at o1; exact fun W' σ' H' g l a => ⟨W', v2, S2, a, OutS.rebase o1 g l⟩
        | ct v2 S2 => rw [hr] at o1; exact fun W' σ' H' g l a => ⟨W', v2, S2, a, OutS.rebase o1 g l⟩
        | bk v2 S2 => rw [hr] at o1; exact o1
        | rt v S2 => rw [hr] at o1; exact o1
        | ex ec v2 S2 => rw [hr] at o1; exact o1
        | bad => rw [hr] at o1; exact o1
      · rename_i hcc
        rw [if_neg hcc]
        exact OutS.here o1 a1

/-! ### a, b = e -/
def gTs : List Tg → List SV → Fr → Sto → Option Env
  | [], [], F, _ => some F.v
  | t :: ts, x :: xs, F, S => match t x F S with
    | some v1 => gTs ts xs ⟨F.b, v1⟩ S
    | none => none
  | _, _, _, _ => none
def RGs (X : Cx) (cl : CL) (tgs : List Tg) : TGs := fun vs σ H Q => ∃ W F S svs v', At X.K cl W F S σ H ∧ Paired (RelSV X.K cl W S.length) svs vs ∧ gTs tgs svs F S = some v' ∧ ∀ σ', At X.K cl W ⟨F.b, v'⟩ S σ' H → Q σ' H
theorem PGs.weak {X : Cx} {e : List Expr} {t t' : TGs} (h : PGs X e t) (k : ∀ v σ H Q, t' v σ H Q → t v σ H Q) : PGs X e t' := ⟨fun pins s σ H v u Q I r q => h.run pins s σ H v u Q I r (k v σ H Q q)⟩
theorem gvs_nil : PGs X [] (RGs X cl []) := PGs.weak pgs_nil fun vs σ H Q ⟨W, F, S, svs, v', a, p, e, k⟩ => by
  cases svs with
  | nil => cases p; cases e; exact ⟨rfl, k σ a⟩
  | cons x xs => cases e
theorem gvs_cons {te : Expr} {tes : List Expr} {tg : Tg} {tgs : List Tg} (h1 : PG X te (RG X cl tg)) (h2 : PGs X tes (RGs X cl tgs)) (hs : (assignEach (te :: tes) X.env).map (·.2) = assign te X.env :: (assignEach tes X.env).map (·.2) := by rfl) : PGs X (te :: tes) (RGs X cl (tg :: tgs)) :=
  PGs.weak (pgs_cons h1 h2 hs) fun vs σ H Q ⟨W, F, S, svs, v', a, p, e, k⟩ => by
    cases p with
    | nil => cases e
    | cons q t =>
      unfold gTs at e
      split at e
      · rename_i v1 h
        exact ⟨_, _, rfl, W, F, S, _, v1, a, q, h, fun σ1 a1 => ⟨W, ⟨F.b, v1⟩, S, _, v', a1, t, e, k⟩⟩
      · cases e
def tupOf (S : Sto) : SV → Option (List SV)
  | .d (.tup xs) => some (xs.map .d)
  | .m i => match S[i]? with
    | some (.frz (.tup xs)) => some (xs.map .d)
    | some (.tup xs) => some xs
    | _ => none
  | _ => none
theorem tup_rel {K : PySem.W.Frag} (r : Rel K cl W S H) {x : SV} {xs : List SV} {v : V} (e : tupOf S x = some xs) (q : RelSV K cl W S.length x v) : ∃ a vs, v = .ref a ∧ SqT K H a vs ∧ Paired (RelSV K cl W S.length) xs vs := by
  unfold tupOf at e
  split at e
  · cases e; cases q with
    | tup h t => exact ⟨_, _, rfl, SqT.up r.fz h, t.sv⟩
  · split at e
    · rename_i hy
      cases e
      obtain ⟨_, rfl⟩ := q
      have := r.st _ _ hy
      cases this with
      | tup h t => exact ⟨_, _, rfl, SqT.up r.fz h, t.sv⟩
    · rename_i hy
      cases e
      obtain ⟨_, rfl⟩ := q
      obtain ⟨_, vs, h1, h2⟩ := r.st _ _ hy
      exact ⟨_, vs, rfl, .of h1, h2⟩
    · cases e
  · cases e
def gUn (n : Nat) (tgs : List Tg) : Tg := fun x F S => match tupOf S x with
  | some xs => if xs.length = n then gTs tgs xs F S else none
  | none => none
theorem gv_tup {n : Nat} {es : List Expr} {k : Nat} {tgs : List Tg} (hc : X.calm = true) (h : PGs X es (RGs X cl tgs)) (hn : (assignEach es X.env).length = n := by rfl) (hst : (assignEach es X.env).findIdx? (·.1) = none := by rfl) : PG X (.Tuple es k pos) (RG X cl (gUn n tgs)) :=
  PG.weak (pg_tup hc h hn hst) fun v σ H Q ⟨W, F, S, sv, v', a, q, e, kk⟩ => by
    unfold gUn at e
    split at e
    · rename_i xs hx
      split at e
      · rename_i hl
        obtain ⟨p, vs, rfl, s1, t1⟩ := tup_rel a.rel hx q
        exact ⟨p, vs, rfl, s1, by rw [← PySem.Paired.length t1]; exact hl, W, F, S, xs, v', a, t1, e, kk⟩
      · cases e
    · cases e
def sAsg (fe : Fr → Sto → Res SV) (tg : Tg) : Fr → Sto → SRes := fun F S => (fe F S).st F fun x S1 => match tg x F S1 with
  | some v1 => .nx v1 S1
  | none => .bad
theorem sv_asg {te : Expr} {tg : Tg} (he : PE X e (RE X cl Wx fe)) (hg : PG X te (RG X cl tg)) (hs : swapsWithSole [te] e pos.line X.env = pure false := by rfl) (hw : swappedStores [te] e X.env = pure none := by rfl)
    (h1 : (assignEach [te] X.env).map (·.2) = [assign te X.env] := by rfl) : PS X (.Assign [te] e pos) (RS X cl Wx (sAsg fe tg)) :=
  PS.weak (ps_asg he hg hs hw h1) fun D σ H ⟨W, F, S, a, o⟩ => by
    refine RE.ofS a o fun W1 S1 x v H1 g1 l1 a1 q1 o1 => ?_
    split at o1
    · rename_i v1 hv
      exact ⟨W1, F, S1, x, v1, a1, q1, hv, fun σ' a' => OutS.here o1 a'⟩
    · exact o1.elim
end

/-! ### a def's body -/
def SRes.res : SRes → Res SV
  | .rt x S => .ok x S
  | .nx _ S => .ok (.d .non) S
  | .ex e _ S => .ex e S
  | _ => .bad
def runF (np nn : Nat) (body : Fr → Sto → SRes) (b : Nat) (as : List SV) (S : Sto) : Res SV := if as.length = np then (body ⟨b, as.map some ++ List.replicate (nn - np) none⟩ S).res else .bad
section
variable {K : PySem.W.Frag} {cl : Nat → Addr} {W : Wd} {S : Sto} {H : Hp} {b : Nat}
theorem env_start {as : List SV} {vs : List V} {N : List Str} (p : Paired (RelSV K cl W S.length) as vs) : EnvR K cl W S.length (as.map some ++ List.replicate (N.length - as.length) none) (L2.start N vs) := by
  have hl := PySem.Paired.length p
  refine ⟨?_, fun i sv e => ?_⟩
  · unfold L2.start
    rw [List.length_append, List.length_append, List.length_map, List.length_map, List.length_replicate, List.length_replicate, hl]
  · by_cases hi : i < as.length
    · rw [List.getElem?_append_left (by simpa using hi), List.getElem?_map] at e
      cases h : as[i]? with
      | none => rw [h] at e; cases e
      | some x =>
        rw [h] at e
        cases e
        obtain ⟨v, h1, h2⟩ := paired_get p h
        refine ⟨v, ?_, h2⟩
        unfold L2.start
        rw [List.getElem?_append_left (by rw [List.length_map, ← hl]; exact hi), List.getElem?_map, h1]
        rfl
    · rw [List.getElem?_append_right (by simpa using hi), List.getElem?_replicate] at e
      split at e <;> cases e
end
/-- what a body's rules want of where they stand -/
structure XOk (X : Cx) (Wx : WX) (k : Nat) : Prop where
  hr : Room k X.A
  tk : L2N.Takes X Wx
  hp : PassesOwn (model X.prog X.w) X.A X.env X.xe
  calm : X.calm = true
  hu : X.A.units + 200 < cLine
  hu1 : X.A.units + 1 < cLine
/-- a def by its body, errors being without context -/
theorem okN {P : Program} {w : World} {K : PySem.W.Frag} {mg : Str → Option Value} {base : Heap} {x qual : Str} {st : Stmt} {f : Addr} {fd : FuncData} {N ps : List Str} {k : Nat} {sp : Sp} (Fu : Fun K x qual st f fd) (Sc : FnScope N ps (defScope st)) (len : ∀ vs H Q E, sp vs H Q E → vs.length = ps.length)
    (hb : ∀ (cdv : Value) (A : Around) (outer : List PySem.Env) (s : Shared) (H : Hp) (vs : List V) (Q : VK) (E : XK), Room k (cxOf (L2N.CX P w) P w K mg base N qual (defScope st) f cdv A outer s H E).A → sp vs H Q E →
      ∃ t, PSs (cxOf (L2N.CX P w) P w K mg base N qual (defScope st) f cdv A outer s H E) (defBody st) t ∧ t { nx := fun _ H' => Q .non H', rt := Q } (L2.start N vs) H) : FnOk P w K mg base (L2N.CX P w) (k + 1) f fd ps sp := by
  obtain ⟨oc, od, kV, doc, pm, an, cdv, ct, osl, rfl, lk, hcd⟩ := Fu.ex
  exact fn_of lk hcd Sc len fun A outer s H vs Q E hr hsp => hb cdv A outer s H vs Q E hr hsp
/-- THE RULE: a def keeps what the evaluator says of its body -/
theorem fn_ok {P : Program} {w : World} {K : PySem.W.Frag} {mg : Str → Option Value} {base : Heap} {cl : Nat → Addr} {x qual : Str} {st : Stmt} {f : Addr} {fd : FuncData} {N ps : List Str} {k np nn : Nat} {body : Fr → Sto → SRes} (Fu : Fun K x qual st f fd) (Sc : FnScope N ps (defScope st)) (hnp : ps.length = np) (hnn : N.length = nn)
    (hbody : ∀ (cdv : Value) (A : Around) (outer : List PySem.Env) (s : Shared) (H : Hp) (E : XK), XOk (cxOf (L2N.CX P w) P w K mg base N qual (defScope st) f cdv A outer s H E) (fun c d _ H => E c d H) k →
      PSs (cxOf (L2N.CX P w) P w K mg base N qual (defScope st) f cdv A outer s H E) (defBody st) (RS (cxOf (L2N.CX P w) P w K mg base N qual (defScope st) f cdv A outer s H E) (CL.pure cl) (fun c d _ H => E c d H) body)) :
    FnOk P w K mg base (L2N.CX P w) (k + 1) f fd ps (SpR K cl (runF np nn body)) := by
  refine okN Fu Sc (fun vs H Q E ⟨W, S, as, b, hb, r, p, o⟩ => ?_) fun cdv A outer s H vs Q E hr ⟨W, S, as, b, hb, r, p, o⟩ => ?_
  · unfold runF at o
    split at o
    · rename_i hl; rw [hnp, ← hl, PySem.Paired.length p]
    · exact o.elim
  · refine ⟨_, hbody cdv A outer s H E ⟨hr, L2N.takes_of rfl rfl rfl rfl, passes_of rfl, rfl, ?_, ?_⟩, ?_⟩
    · have := hr.un
      omega
    · have := hr.un
      omega
    unfold runF at o
    split at o
    · rename_i hl
      subst hl
      refine ⟨W, ⟨b, as.map some ++ List.replicate (nn - as.length) none⟩, S, ⟨hb, r, by rw [← hnn]; exact env_start p, trivial⟩, ?_⟩
      cases hr : body ⟨b, as.map some ++ List.replicate (nn - as.length) none⟩ S with
      | nx v2 S2 => rw [hr] at o; exact fun W' σ' H' g l a => o W' H' _ g l a.rel RelD.non
      | ct v2 S2 => rw [hr] at o; exact o.elim
      | bk v2 S2 => rw [hr] at o; exact o.elim
      | rt v S2 => rw [hr] at o; exact o
      | ex ec v2 S2 => rw [hr] at o; exact fun W' σ' H' c d g l a q => o W' H' c d g l a.rel q
      | bad => rw [hr] at o; exact o
    · exact o.elim
theorem fn_bad {P : Program} {w : World} {K : PySem.W.Frag} {mg : Str → Option Value} {base : Heap} {cl : Nat → Addr} {f : Addr} {fd : FuncData} {ps : List Str} {k : Nat} {g : Nat → List SV → Sto → Res SV} (hg : ∀ b as S, g b as S = .bad) :
    FnOk P w K mg base (L2N.CX P w) k f fd ps (SpR K cl g) :=
  ⟨fun vs H Q E ⟨W, S, as, b, hb, r, p, o⟩ => by rw [hg] at o; exact o.elim, fun A outer s H args us vs Q E _ _ _ _ ⟨W, S, as, b, hb, r, p, o⟩ => by rw [hg] at o; exact o.elim⟩

/-! ### the answers of isinstance -/
def anInt : Ty → Option Bool
  | .int => some true | .bl => some true | .own _ => none | _ => some false
def anBool : Ty → Option Bool
  | .bl => some true | .own _ => none | _ => some false
def anStr : Ty → Option Bool
  | .str => some true | .own _ => none | _ => some false
def anTup : Ty → Option Bool
  | .tup => some true | .own _ => none | _ => some false
def anLst : Ty → Option Bool
  | .lst => some true | .own _ => none | _ => some false
def anDic : Ty → Option Bool
  | .dic => some true | .own _ => none | _ => some false
def anTL : Ty → Option Bool
  | .tup => some true | .lst => some true | .own _ => none | _ => some false
/-- one's own class c: others are none of it -/
def anOwn (c : Nat) : Ty → Option Bool
  | .own c' => if c' = c then some true else none
  | _ => some false
section
variable {K : PySem.W.Frag} {cl : Nat → Addr}
theorem an_int : ∀ t b, anInt t = some b → PySem.W.kitOne K (Ty.v cl t) (.type "int") = some b := by
  intro t b h
  cases t <;> first | (cases h; done) | (cases h; exact kit_ty (by decide +kernel))
theorem an_bool : ∀ t b, anBool t = some b → PySem.W.kitOne K (Ty.v cl t) (.type "bool") = some b := by
  intro t b h
  cases t <;> first | (cases h; done) | (cases h; exact kit_ty (by decide +kernel))
theorem an_str : ∀ t b, anStr t = some b → PySem.W.kitOne K (Ty.v cl t) (.type "str") = some b := by
  intro t b h
  cases t <;> first | (cases h; done) | (cases h; exact kit_ty (by decide +kernel))
theorem an_tup : ∀ t b, anTup t = some b → PySem.W.kitOne K (Ty.v cl t) (.type "tuple") = some b := by
  intro t b h
  cases t <;> first | (cases h; done) | (cases h; exact kit_ty (by decide +kernel))
theorem an_lst : ∀ t b, anLst t = some b → PySem.W.kitOne K (Ty.v cl t) (.type "list") = some b := by
  intro t b h
  cases t <;> first | (cases h; done) | (cases h; exact kit_ty (by decide +kernel))
theorem an_dic : ∀ t b, anDic t = some b → PySem.W.kitOne K (Ty.v cl t) (.type "dict") = some b := by
  intro t b h
  cases t <;> first | (cases h; done) | (cases h; exact kit_ty (by decide +kernel))
theorem an_tl : ∀ t b, anTL t = some b → PySem.W.kitAny K (Ty.v cl t) [.type "tuple", .type "list"] = some b := by
  intro t b h
  cases t with
  | own c => cases h
  | tup => cases h; exact kitAny_cons (b := true) (kit_ty (by decide +kernel)) (fun q => by cases q) fun _ => rfl
  | lst => cases h; exact kitAny_cons (b := false) (kit_ty (by decide +kernel)) (fun _ => kitAny_cons (b := true) (kit_ty (by decide +kernel)) (fun q => by cases q) fun _ => rfl) fun q => by cases q
  | _ => cases h; exact kitAny_cons (b := false) (kit_ty (by decide +kernel)) (fun _ => kitAny_cons (b := false) (kit_ty (by decide +kernel)) (fun _ => rfl) fun q => by cases q) fun q => by cases q
/-- what is known of one's own class beside the others -/
structure NotIn (K : PySem.W.Frag) (C : Addr) : Prop where
  ci : PySem.W.isClsIn K C = true
  ct : PySem.W.typeIn K (.ref C) = some (.type "type")
  non : PySem.W.subIn K (.type "NoneType") (.ref C) = some false
  bl : PySem.W.subIn K (.type "bool") (.ref C) = some false
  int : PySem.W.subIn K (.type "int") (.ref C) = some false
  str : PySem.W.subIn K (.type "str") (.ref C) = some false
  tup : PySem.W.subIn K (.type "tuple") (.ref C) = some false
  lst : PySem.W.subIn K (.type "list") (.ref C) = some false
  dic : PySem.W.subIn K (.type "dict") (.ref C) = some false
theorem NotIn.isc {C : Addr} (n : NotIn K C) : ((PySem.W.clsIn K C).isSome && PySem.W.typeIn K (.ref C) == some (.type "type")) = true := by
  have h := n.ci
  unfold PySem.W.isClsIn at h
  rw [h, n.ct]
  exact beq_self_eq_true _
theorem kit_sub {C : Addr} {T : String} {b : Bool} (hc : ((PySem.W.clsIn K C).isSome && PySem.W.typeIn K (.ref C) == some (.type "type")) = true) (h : PySem.W.subIn K (.type T) (.ref C) = some b) : PySem.W.kitOne K (.type T) (.ref C) = some b := by
  unfold PySem.W.kitOne
  rw [if_neg (by intro q; cases (beq_iff_eq.mp q))]
  show PySem.W.kitCls K (.type T) (.ref C) = some b
  unfold PySem.W.kitCls
  simp only
  rw [if_pos hc]
  exact h
theorem an_own {c : Nat} (n : NotIn K (cl c)) : ∀ t b, anOwn c t = some b → PySem.W.kitOne K (Ty.v cl t) (.ref (cl c)) = some b := by
  intro t b h
  cases t with
  | own c' =>
    unfold anOwn at h
    simp only at h
    split at h
    · rename_i e
      subst e
      cases h
      unfold PySem.W.kitOne
      exact if_pos (beq_self_eq_true _)
    · cases h
  | non => cases h; exact kit_sub n.isc n.non
  | bl => cases h; exact kit_sub n.isc n.bl
  | int => cases h; exact kit_sub n.isc n.int
  | str => cases h; exact kit_sub n.isc n.str
  | tup => cases h; exact kit_sub n.isc n.tup
  | lst => cases h; exact kit_sub n.isc n.lst
  | dic => cases h; exact kit_sub n.isc n.dic
end
theorem noOwn {K : PySem.W.Frag} {cl : Nat → Addr} {ans : Ty → Option Bool} (h : ∀ c, ans (.own c) = none) : ∀ c, (ans (.own c)).isSome = true → OwnC K (cl c) := fun c q => by rw [h c] at q; cases q
theorem oneOwn {K : PySem.W.Frag} {cl : Nat → Addr} {c : Nat} (o : OwnC K (cl c)) : ∀ c', (anOwn c (.own c')).isSome = true → OwnC K (cl c') := fun c' q => by
  unfold anOwn at q
  simp only at q
  split at q
  · rename_i e; rw [e]; exact o
  · cases q
end Ev

set_option Elab.async false
set_option linter.all false
set_option maxRecDepth 100000
/-! Ev11: some more operators; the law's end. -/
namespace Ev
open PySem L2
section
variable {X : Cx} {cl : CL}
abbrev opBor := opInt yes fun i j => .int (Builtin.bitOr i j)
theorem ov_bor : OpR X (binaryOp .BitOr) (ROp X cl opBor) := ov_int (rI_of op_or) (fun _ _ _ => trivial) fun _ _ _ i j => .int _
end
/-- what the law's def promises -/
def spL (K : PySem.W.Frag) : Sp := fun vs H Q _ => ∃ (a : Addr) (ns : List Int), vs = [.ref a] ∧ SqL K H a (ns.map V.int) ∧ ns.length ≤ 63 ∧ ∀ H', Q (.bl true) H'
theorem ints_rel {K : PySem.W.Frag} {cl : Nat → Addr} {H : Hp} : ∀ ns : List Int, RelDs K cl H (ns.map Dv.int) (ns.map V.int)
  | [] => .nil
  | n :: r => .cons (.int n) (ints_rel r)
theorem spL_imp {K : PySem.W.Frag} {cl : Nat → Addr} {g : Nat → List SV → Sto → Res SV} (h : ∀ ns : List Int, ns.length ≤ 63 → ∃ S, g 0 [.d (.lst (ns.map .int))] [] = .ok (.d (.bl true)) S) (vs : List V) (H : Hp) (Q : VK) (E : XK) (q : spL K vs H Q E) : SpR K cl g vs H Q E := by
  obtain ⟨a, ns, rfl, hS, hl, hQ⟩ := q
  obtain ⟨S, e⟩ := h ns hl
  refine ⟨⟨fun _ => 0, H, fun _ => none⟩, [], [.d (.lst (ns.map .int))], 0, Nat.le_refl _, ⟨fun _ _ q => q, fun i mo q => (by cases q), fun i j mi mj q => (by cases q), fun a o q => (by cases q)⟩, .cons (RelD.lst hS (ints_rel ns)) .nil, ?_⟩
  rw [e]
  intro W' H' v _ _ _ q
  cases q
  exact hQ H'
theorem walk_law {l : PySem.W.OpenLaw} {k : Nat} {q : Program} {loose : List Str} {XP : (Str → Option Value) → Heap → Prop} {YP : World → Heap → Prop} {d : DefRec} {K : Params → PySem.W.Frag} {x : Str} (hn : l.most = some 63) (hdf : d.params.defaults = []) (hr : Room k callerA)
    (hY : ∀ (w : World) (h : Heap), YP w h → (K w.params).In h)
    (F : ∀ (w : World) (mg : Str → Option Value) (fa : Addr) (h : Heap), (K w.params).In h → h.Ns mainGlobals mg → mg d.name = some (.ref fa) →
      ∃ fd : FuncData, (∀ (s : Shared) (u : Value), BindsTo s fd ⟨[u], []⟩ [(x, u)]) ∧ ∀ base : Heap, (K w.params).In base → base.Ns mainGlobals mg → FnOk l.prog w (K w.params) mg base (L2N.CX l.prog w) k fa fd [x] (spL (K w.params))) :
    PySem.W.WalkO q loose XP YP l.row.toRowW d [] (fun f vs => PySem.call f vs) :=
  L2.walk_of (n := 63) (k := k) (x := x) (CX := fun w => L2N.CX l.prog w) (sp := fun w => spL (K w.params)) hn (by decide) hdf hr hY F (fun _ _ a ns hl _ hS => ⟨a, ns, rfl, hS, hl, fun _ => rfl⟩) fun _ _ _ _ _ z => by
    obtain ⟨_, _, _, _, _, _, _, _, _, _, _, _, z⟩ := z
    exact z
end Ev

set_option Elab.async false
set_option linter.all false
set_option maxRecDepth 100000
/-! Ev12: reckoning with the evaluator: what simp is to unfold. No lambda stands in what is left to do. -/
namespace Ev
open PySem L2
def optD : Option Dv → Sto → Res SV
  | some z, S => .ok (.d z) S
  | none, _ => .bad
def optS : Option SV → Sto → Res SV
  | some z, S => .ok z S
  | none, _ => .bad
@[simp] theorem optD_s (z : Dv) (S : Sto) : optD (some z) S = .ok (.d z) S := Eq.trans rfl rfl
@[simp] theorem optS_s (z : SV) (S : Sto) : optS (some z) S = .ok z S := Eq.trans rfl rfl
@[simp] theorem optD_n (S : Sto) : optD none S = .bad := Eq.trans rfl rfl
@[simp] theorem optS_n (S : Sto) : optS none S = .bad := Eq.trans rfl rfl
def optV : Option Env → Sto → SRes
  | some v, S => .nx v S
  | none, _ => .bad
@[simp] theorem optV_s (v : Env) (S : Sto) : optV (some v) S = .nx v S := Eq.trans rfl rfl
def optT : Option Sto → Env → SRes
  | some S, v => .nx v S
  | none, _ => .bad
@[simp] theorem optT_s (v : Env) (S : Sto) : optT (some S) v = .nx v S := Eq.trans rfl rfl
def optM : Option (SV × Sto) → Res SV
  | some (y, S) => .ok y S
  | none => .bad
@[simp] theorem optM_s (y : SV) (S : Sto) : optM (some (y, S)) = .ok y S := Eq.trans rfl rfl

@[simp] theorem eVar_ap (i : Nat) (F : Fr) (S : Sto) : eVar i F S = (match F.v[i]? with | some (some x) => .ok x S | _ => .bad) := Eq.trans rfl rfl
@[simp] theorem eC_ap (x : Dv) (F : Fr) (S : Sto) : eC x F S = .ok (.d x) S := Eq.trans rfl rfl
@[simp] theorem aNil_ap  (F : Fr) (S : Sto) : aNil F S = .ok [] S := Eq.trans rfl rfl
def kA2 (x : SV) (r : Res (List SV)) : Res (List SV) := r.bind fun xs S2 => .ok (x :: xs) S2
@[simp] theorem kA2_ok (x : SV) (xs : (List SV)) (S2 : Sto) : kA2 x (.ok xs S2) = .ok (x :: xs) S2 := Eq.trans rfl rfl
@[simp] theorem kA2_ex (x : SV) (e : Exc) (S : Sto) : kA2 x (.ex e S) = .ex e S := Eq.trans rfl rfl
@[simp] theorem kA2_bad (x : SV) : kA2 x .bad = .bad := Eq.trans rfl rfl
def kA1 (fa : Fr → Sto → Res (List SV)) (F : Fr) (r : Res SV) : Res (List SV) := r.bind fun x S1 => kA2 x (fa F S1)
@[simp] theorem kA1_ok (fa : Fr → Sto → Res (List SV)) (F : Fr) (x : SV) (S1 : Sto) : kA1 fa F (.ok x S1) = kA2 x (fa F S1) := Eq.trans rfl rfl
@[simp] theorem kA1_ex (fa : Fr → Sto → Res (List SV)) (F : Fr) (e : Exc) (S : Sto) : kA1 fa F (.ex e S) = .ex e S := Eq.trans rfl rfl
@[simp] theorem kA1_bad (fa : Fr → Sto → Res (List SV)) (F : Fr) : kA1 fa F .bad = .bad := Eq.trans rfl rfl
@[simp] theorem aCons_ap (f : Fr → Sto → Res SV) (fa : Fr → Sto → Res (List SV)) (F : Fr) (S : Sto) : aCons f fa F S = kA1 fa F (f F S) := Eq.trans rfl rfl
def seqR (mk : List Dv → Dv) : Option (List Dv × Sto) → Res SV
  | some (ds, S2) => if ds.length ≤ most then .ok (.d (mk ds)) S2 else .bad
  | none => .bad
@[simp] theorem seqR_s (mk : List Dv → Dv) (ds : List Dv) (S2 : Sto) : seqR mk (some (ds, S2)) = if ds.length ≤ most then .ok (.d (mk ds)) S2 else .bad := Eq.trans rfl rfl
def kSq (mk : List Dv → Dv) (r : Res (List SV)) : Res SV := r.bind fun xs S1 => seqR mk (frzs S1 xs)
@[simp] theorem kSq_ok (mk : List Dv → Dv) (xs : List SV) (S1 : Sto) : kSq mk (.ok xs S1) = seqR mk (frzs S1 xs) := Eq.trans rfl rfl
@[simp] theorem kSq_ex (mk : List Dv → Dv) (e : Exc) (S : Sto) : kSq mk (.ex e S) = .ex e S := Eq.trans rfl rfl
@[simp] theorem kSq_bad (mk : List Dv → Dv) : kSq mk .bad = .bad := Eq.trans rfl rfl
@[simp] theorem eSeq_ap (mk : List Dv → Dv) (fa : Fr → Sto → Res (List SV)) (F : Fr) (S : Sto) : eSeq mk fa F S = kSq mk (fa F S) := Eq.trans rfl rfl
def kLM  (r : Res (List SV)) : Res SV := r.bind fun xs S1 => if xs.length ≤ most then .ok (.m S1.length) (S1 ++ [.lst xs]) else .bad
@[simp] theorem kLM_ok  (xs : (List SV)) (S1 : Sto) : kLM  (.ok xs S1) = if xs.length ≤ most then .ok (.m S1.length) (S1 ++ [.lst xs]) else .bad := Eq.trans rfl rfl
@[simp] theorem kLM_ex  (e : Exc) (S : Sto) : kLM  (.ex e S) = .ex e S := Eq.trans rfl rfl
@[simp] theorem kLM_bad  : kLM  .bad = .bad := Eq.trans rfl rfl
@[simp] theorem eLstM_ap (fa : Fr → Sto → Res (List SV)) (F : Fr) (S : Sto) : eLstM fa F S = kLM (fa F S) := Eq.trans rfl rfl
def kO2 (o : Sto → SV → SV → Option Dv) (x : SV) (r : Res SV) : Res SV := r.bind fun y S2 => optD (o S2 x y) S2
@[simp] theorem kO2_ok (o : Sto → SV → SV → Option Dv) (x : SV) (y : SV) (S2 : Sto) : kO2 o x (.ok y S2) = optD (o S2 x y) S2 := Eq.trans rfl rfl
@[simp] theorem kO2_ex (o : Sto → SV → SV → Option Dv) (x : SV) (e : Exc) (S : Sto) : kO2 o x (.ex e S) = .ex e S := Eq.trans rfl rfl
@[simp] theorem kO2_bad (o : Sto → SV → SV → Option Dv) (x : SV) : kO2 o x .bad = .bad := Eq.trans rfl rfl
def kO1 (o : Sto → SV → SV → Option Dv) (h : Fr → Sto → Res SV) (F : Fr) (r : Res SV) : Res SV := r.bind fun x S1 => kO2 o x (h F S1)
@[simp] theorem kO1_ok (o : Sto → SV → SV → Option Dv) (h : Fr → Sto → Res SV) (F : Fr) (x : SV) (S1 : Sto) : kO1 o h F (.ok x S1) = kO2 o x (h F S1) := Eq.trans rfl rfl
@[simp] theorem kO1_ex (o : Sto → SV → SV → Option Dv) (h : Fr → Sto → Res SV) (F : Fr) (e : Exc) (S : Sto) : kO1 o h F (.ex e S) = .ex e S := Eq.trans rfl rfl
@[simp] theorem kO1_bad (o : Sto → SV → SV → Option Dv) (h : Fr → Sto → Res SV) (F : Fr) : kO1 o h F .bad = .bad := Eq.trans rfl rfl
@[simp] theorem eOp_ap (o : Sto → SV → SV → Option Dv) (f : Fr → Sto → Res SV) (h : Fr → Sto → Res SV) (F : Fr) (S : Sto) : eOp o f h F S = kO1 o h F (f F S) := by
  show (f F S).bind _ = (f F S).bind _
  congr 1
  funext x S1
  show (h F S1).bind _ = (h F S1).bind _
  congr 1
  funext y S2
  cases o S2 x y <;> rfl
def kP2 (o : Sto → SV → SV → Option SV) (x : SV) (r : Res SV) : Res SV := r.bind fun y S2 => optS (o S2 x y) S2
@[simp] theorem kP2_ok (o : Sto → SV → SV → Option SV) (x : SV) (y : SV) (S2 : Sto) : kP2 o x (.ok y S2) = optS (o S2 x y) S2 := Eq.trans rfl rfl
@[simp] theorem kP2_ex (o : Sto → SV → SV → Option SV) (x : SV) (e : Exc) (S : Sto) : kP2 o x (.ex e S) = .ex e S := Eq.trans rfl rfl
@[simp] theorem kP2_bad (o : Sto → SV → SV → Option SV) (x : SV) : kP2 o x .bad = .bad := Eq.trans rfl rfl
def kP1 (o : Sto → SV → SV → Option SV) (h : Fr → Sto → Res SV) (F : Fr) (r : Res SV) : Res SV := r.bind fun x S1 => kP2 o x (h F S1)
@[simp] theorem kP1_ok (o : Sto → SV → SV → Option SV) (h : Fr → Sto → Res SV) (F : Fr) (x : SV) (S1 : Sto) : kP1 o h F (.ok x S1) = kP2 o x (h F S1) := Eq.trans rfl rfl
@[simp] theorem kP1_ex (o : Sto → SV → SV → Option SV) (h : Fr → Sto → Res SV) (F : Fr) (e : Exc) (S : Sto) : kP1 o h F (.ex e S) = .ex e S := Eq.trans rfl rfl
@[simp] theorem kP1_bad (o : Sto → SV → SV → Option SV) (h : Fr → Sto → Res SV) (F : Fr) : kP1 o h F .bad = .bad := Eq.trans rfl rfl
@[simp] theorem eOpS_ap (o : Sto → SV → SV → Option SV) (f : Fr → Sto → Res SV) (h : Fr → Sto → Res SV) (F : Fr) (S : Sto) : eOpS o f h F S = kP1 o h F (f F S) := by
  show (f F S).bind _ = (f F S).bind _
  congr 1
  funext x S1
  show (h F S1).bind _ = (h F S1).bind _
  congr 1
  funext y S2
  cases o S2 x y <;> rfl
def blR : SV → Sto → Res Bool
  | .d (.bl b), S => .ok b S
  | _, _ => .bad
@[simp] theorem blR_b (b : Bool) (S : Sto) : blR (.d (.bl b)) S = .ok b S := Eq.trans rfl rfl
def kV  (r : Res SV) : Res Bool := r.bind fun x S1 => blR x S1
@[simp] theorem kV_ok  (x : SV) (S1 : Sto) : kV  (.ok x S1) = blR x S1 := Eq.trans rfl rfl
@[simp] theorem kV_ex  (e : Exc) (S : Sto) : kV  (.ex e S) = .ex e S := Eq.trans rfl rfl
@[simp] theorem kV_bad  : kV  .bad = .bad := Eq.trans rfl rfl
@[simp] theorem tV_ap (f : Fr → Sto → Res SV) (F : Fr) (S : Sto) : tV f F S = kV (f F S) := by
  show (f F S).bind _ = (f F S).bind _
  congr 1
  funext x S1
  rcases x with x | x
  · cases x <;> rfl
  · rfl
def kAn (u : Fr → Sto → Res Bool) (F : Fr) (r : Res Bool) : Res Bool := r.bind fun c S1 => if c = true then u F S1 else .ok false S1
@[simp] theorem kAn_ok (u : Fr → Sto → Res Bool) (F : Fr) (c : Bool) (S1 : Sto) : kAn u F (.ok c S1) = if c = true then u F S1 else .ok false S1 := Eq.trans rfl rfl
@[simp] theorem kAn_ex (u : Fr → Sto → Res Bool) (F : Fr) (e : Exc) (S : Sto) : kAn u F (.ex e S) = .ex e S := Eq.trans rfl rfl
@[simp] theorem kAn_bad (u : Fr → Sto → Res Bool) (F : Fr) : kAn u F .bad = .bad := Eq.trans rfl rfl
@[simp] theorem tAn_ap (t : Fr → Sto → Res Bool) (u : Fr → Sto → Res Bool) (F : Fr) (S : Sto) : tAn t u F S = kAn u F (t F S) := Eq.trans rfl rfl
def kOr (u : Fr → Sto → Res Bool) (F : Fr) (r : Res Bool) : Res Bool := r.bind fun c S1 => if c = true then .ok true S1 else u F S1
@[simp] theorem kOr_ok (u : Fr → Sto → Res Bool) (F : Fr) (c : Bool) (S1 : Sto) : kOr u F (.ok c S1) = if c = true then .ok true S1 else u F S1 := Eq.trans rfl rfl
@[simp] theorem kOr_ex (u : Fr → Sto → Res Bool) (F : Fr) (e : Exc) (S : Sto) : kOr u F (.ex e S) = .ex e S := Eq.trans rfl rfl
@[simp] theorem kOr_bad (u : Fr → Sto → Res Bool) (F : Fr) : kOr u F .bad = .bad := Eq.trans rfl rfl
@[simp] theorem tOrr_ap (t : Fr → Sto → Res Bool) (u : Fr → Sto → Res Bool) (F : Fr) (S : Sto) : tOrr t u F S = kOr u F (t F S) := Eq.trans rfl rfl
def kNo  (r : Res Bool) : Res Bool := r.bind fun c S1 => .ok (!c) S1
@[simp] theorem kNo_ok  (c : Bool) (S1 : Sto) : kNo  (.ok c S1) = .ok (!c) S1 := Eq.trans rfl rfl
@[simp] theorem kNo_ex  (e : Exc) (S : Sto) : kNo  (.ex e S) = .ex e S := Eq.trans rfl rfl
@[simp] theorem kNo_bad  : kNo  .bad = .bad := Eq.trans rfl rfl
@[simp] theorem tNo_ap (t : Fr → Sto → Res Bool) (F : Fr) (S : Sto) : tNo t F S = kNo (t F S) := Eq.trans rfl rfl
def anR (g : Fr → Sto → Res SV) (F : Fr) : SV → Sto → Res SV
  | .d (.bl true), S => g F S
  | .d (.bl false), S => .ok (.d (.bl false)) S
  | _, _ => .bad
@[simp] theorem anR_b (g : Fr → Sto → Res SV) (F : Fr) (b : Bool) (S : Sto) : anR g F (.d (.bl b)) S = if b = true then g F S else .ok (.d (.bl false)) S := by cases b <;> rfl
def orR (g : Fr → Sto → Res SV) (F : Fr) : SV → Sto → Res SV
  | .d (.bl true), S => .ok (.d (.bl true)) S
  | .d (.bl false), S => g F S
  | _, _ => .bad
@[simp] theorem orR_b (g : Fr → Sto → Res SV) (F : Fr) (b : Bool) (S : Sto) : orR g F (.d (.bl b)) S = if b = true then .ok (.d (.bl true)) S else g F S := by cases b <;> rfl
def noR : SV → Sto → Res SV
  | .d (.bl b), S => .ok (.d (.bl (!b))) S
  | _, _ => .bad
@[simp] theorem noR_b (b : Bool) (S : Sto) : noR (.d (.bl b)) S = .ok (.d (.bl (!b))) S := Eq.trans rfl rfl
def kEan (g : Fr → Sto → Res SV) (F : Fr) (r : Res SV) : Res SV := r.bind (anR g F)
@[simp] theorem kEan_ok (g : Fr → Sto → Res SV) (F : Fr) (x : SV) (S : Sto) : kEan g F (.ok x S) = anR g F x S := Eq.trans rfl rfl
@[simp] theorem kEan_ex (g : Fr → Sto → Res SV) (F : Fr) (e : Exc) (S : Sto) : kEan g F (.ex e S) = .ex e S := Eq.trans rfl rfl
@[simp] theorem kEan_bad (g : Fr → Sto → Res SV) (F : Fr) : kEan g F .bad = .bad := Eq.trans rfl rfl
def kEor (g : Fr → Sto → Res SV) (F : Fr) (r : Res SV) : Res SV := r.bind (orR g F)
@[simp] theorem kEor_ok (g : Fr → Sto → Res SV) (F : Fr) (x : SV) (S : Sto) : kEor g F (.ok x S) = orR g F x S := Eq.trans rfl rfl
@[simp] theorem kEor_ex (g : Fr → Sto → Res SV) (F : Fr) (e : Exc) (S : Sto) : kEor g F (.ex e S) = .ex e S := Eq.trans rfl rfl
@[simp] theorem kEor_bad (g : Fr → Sto → Res SV) (F : Fr) : kEor g F .bad = .bad := Eq.trans rfl rfl
def kEno  (r : Res SV) : Res SV := r.bind (noR)
@[simp] theorem kEno_ok  (x : SV) (S : Sto) : kEno  (.ok x S) = noR x S := Eq.trans rfl rfl
@[simp] theorem kEno_ex  (e : Exc) (S : Sto) : kEno  (.ex e S) = .ex e S := Eq.trans rfl rfl
@[simp] theorem kEno_bad  : kEno  .bad = .bad := Eq.trans rfl rfl
@[simp] theorem eAn_ap (f : Fr → Sto → Res SV) (g : Fr → Sto → Res SV) (F : Fr) (S : Sto) : eAn f g F S = kEan g F (f F S) := by
  show (f F S).bind _ = (f F S).bind _
  congr 1
  funext x S1
  rcases x with x | x
  · cases x <;> first | rfl | (rename_i b; cases b <;> rfl)
  · rfl
@[simp] theorem eOr_ap (f : Fr → Sto → Res SV) (g : Fr → Sto → Res SV) (F : Fr) (S : Sto) : eOr f g F S = kEor g F (f F S) := by
  show (f F S).bind _ = (f F S).bind _
  congr 1
  funext x S1
  rcases x with x | x
  · cases x <;> first | rfl | (rename_i b; cases b <;> rfl)
  · rfl
@[simp] theorem eNo_ap (f : Fr → Sto → Res SV) (F : Fr) (S : Sto) : eNo f F S = kEno (f F S) := by
  show (f F S).bind _ = (f F S).bind _
  congr 1
  funext x S1
  rcases x with x | x
  · cases x <;> first | rfl | (rename_i b; cases b <;> rfl)
  · rfl
def kEif (f : Fr → Sto → Res SV) (g : Fr → Sto → Res SV) (F : Fr) (r : Res Bool) : Res SV := r.bind fun c S1 => if c = true then f F S1 else g F S1
@[simp] theorem kEif_ok (f : Fr → Sto → Res SV) (g : Fr → Sto → Res SV) (F : Fr) (c : Bool) (S1 : Sto) : kEif f g F (.ok c S1) = if c = true then f F S1 else g F S1 := Eq.trans rfl rfl
@[simp] theorem kEif_ex (f : Fr → Sto → Res SV) (g : Fr → Sto → Res SV) (F : Fr) (e : Exc) (S : Sto) : kEif f g F (.ex e S) = .ex e S := Eq.trans rfl rfl
@[simp] theorem kEif_bad (f : Fr → Sto → Res SV) (g : Fr → Sto → Res SV) (F : Fr) : kEif f g F .bad = .bad := Eq.trans rfl rfl
@[simp] theorem eIf_ap (t : Fr → Sto → Res Bool) (f : Fr → Sto → Res SV) (g : Fr → Sto → Res SV) (F : Fr) (S : Sto) : eIf t f g F S = kEif f g F (t F S) := Eq.trans rfl rfl
def kBi (o : Sto → List SV → Option Dv) (r : Res (List SV)) : Res SV := r.bind fun xs S1 => optD (o S1 xs) S1
@[simp] theorem kBi_ok (o : Sto → List SV → Option Dv) (xs : (List SV)) (S1 : Sto) : kBi o (.ok xs S1) = optD (o S1 xs) S1 := Eq.trans rfl rfl
@[simp] theorem kBi_ex (o : Sto → List SV → Option Dv) (e : Exc) (S : Sto) : kBi o (.ex e S) = .ex e S := Eq.trans rfl rfl
@[simp] theorem kBi_bad (o : Sto → List SV → Option Dv) : kBi o .bad = .bad := Eq.trans rfl rfl
@[simp] theorem eBi_ap (o : Sto → List SV → Option Dv) (fa : Fr → Sto → Res (List SV)) (F : Fr) (S : Sto) : eBi o fa F S = kBi o (fa F S) := by
  show (fa F S).bind _ = (fa F S).bind _
  congr 1
  funext xs S1
  cases o S1 xs <;> rfl
def isiR (ans : Ty → Option Bool) : Option Ty → Sto → Res SV
  | some t, S => optD ((ans t).map .bl) S
  | none, _ => .bad
@[simp] theorem isiR_s (ans : Ty → Option Bool) (t : Ty) (S : Sto) : isiR ans (some t) S = optD ((ans t).map .bl) S := Eq.trans rfl rfl
def kIsi (ans : Ty → Option Bool) (r : Res SV) : Res SV := r.bind fun x S1 => isiR ans (tyS S1 x) S1
@[simp] theorem kIsi_ok (ans : Ty → Option Bool) (x : SV) (S1 : Sto) : kIsi ans (.ok x S1) = isiR ans (tyS S1 x) S1 := Eq.trans rfl rfl
@[simp] theorem kIsi_ex (ans : Ty → Option Bool) (e : Exc) (S : Sto) : kIsi ans (.ex e S) = .ex e S := Eq.trans rfl rfl
@[simp] theorem kIsi_bad (ans : Ty → Option Bool) : kIsi ans .bad = .bad := Eq.trans rfl rfl
@[simp] theorem eIsi_ap (ans : Ty → Option Bool) (f : Fr → Sto → Res SV) (F : Fr) (S : Sto) : eIsi ans f F S = kIsi ans (f F S) := by
  show (f F S).bind _ = (f F S).bind _
  congr 1
  funext x S1
  cases h : tyS S1 x with
  | none => simp only [isiR, h]
  | some t => simp only [isiR, h]; cases ans t <;> rfl
def fldR (cs : List Nat) (nm : Str) : Option (Nat × List Str × List SV) → Sto → Res SV
  | some (c, fs, xs), S => if cs.contains c = true then optS (lookF nm fs xs) S else .bad
  | none, _ => .bad
@[simp] theorem fldR_s (cs : List Nat) (nm : Str) (c : Nat) (fs : List Str) (xs : List SV) (S : Sto) : fldR cs nm (some (c, fs, xs)) S = if cs.contains c = true then optS (lookF nm fs xs) S else .bad := Eq.trans rfl rfl
def kFld (cs : List Nat) (nm : Str) (r : Res SV) : Res SV := r.bind fun x S1 => fldR cs nm (instOf S1 x) S1
@[simp] theorem kFld_ok (cs : List Nat) (nm : Str) (x : SV) (S1 : Sto) : kFld cs nm (.ok x S1) = fldR cs nm (instOf S1 x) S1 := Eq.trans rfl rfl
@[simp] theorem kFld_ex (cs : List Nat) (nm : Str) (e : Exc) (S : Sto) : kFld cs nm (.ex e S) = .ex e S := Eq.trans rfl rfl
@[simp] theorem kFld_bad (cs : List Nat) (nm : Str) : kFld cs nm .bad = .bad := Eq.trans rfl rfl
@[simp] theorem eFld_ap (cs : List Nat) (nm : Str) (f : Fr → Sto → Res SV) (F : Fr) (S : Sto) : eFld cs nm f F S = kFld cs nm (f F S) := by
  show (f F S).bind _ = (f F S).bind _
  congr 1
  funext x S1
  cases h : instOf S1 x with
  | none => simp only [fldR, h]
  | some t =>
    obtain ⟨c, fs, xs⟩ := t
    simp only [fldR, h]
    cases lookF nm fs xs <;> rfl
/-- a call, as it is told of a def -/
def callF (g : Nat → List SV → Sto → Res SV) (as : List SV) (S : Sto) : Res SV := fin S.length (g S.length as S)
def callK (g : Nat → List SV → Sto → Res SV) (as : List SV) (S : Sto) : Res SV := finK S.length (g S.length as S)
def makF (c : Nat) (g : Nat → List SV → Sto → Res SV) (as : List SV) (S : Sto) : Res SV := fin S.length (mkd S.length (g S.length (.m S.length :: as) (S ++ [.ins c [] []])))
def makK (c : Nat) (g : Nat → List SV → Sto → Res SV) (as : List SV) (S : Sto) : Res SV := finK S.length (mkd S.length (g S.length (.m S.length :: as) (S ++ [.ins c [] []])))
def kC (gg : Nat → List SV → Sto → Res SV) (r : Res (List SV)) : Res SV := r.bind fun as S1 => fin S1.length (gg S1.length as S1)
@[simp] theorem kC_ok (gg : Nat → List SV → Sto → Res SV) (as : (List SV)) (S1 : Sto) : kC gg (.ok as S1) = callF gg as S1 := Eq.trans rfl rfl
@[simp] theorem kC_ex (gg : Nat → List SV → Sto → Res SV) (e : Exc) (S : Sto) : kC gg (.ex e S) = .ex e S := Eq.trans rfl rfl
@[simp] theorem kC_bad (gg : Nat → List SV → Sto → Res SV) : kC gg .bad = .bad := Eq.trans rfl rfl
@[simp] theorem eCall_ap (gg : Nat → List SV → Sto → Res SV) (fa : Fr → Sto → Res (List SV)) (F : Fr) (S : Sto) : eCall gg fa F S = kC gg (fa F S) := Eq.trans rfl rfl
def kCK (gg : Nat → List SV → Sto → Res SV) (r : Res (List SV)) : Res SV := r.bind fun as S1 => finK S1.length (gg S1.length as S1)
@[simp] theorem kCK_ok (gg : Nat → List SV → Sto → Res SV) (as : (List SV)) (S1 : Sto) : kCK gg (.ok as S1) = callK gg as S1 := Eq.trans rfl rfl
@[simp] theorem kCK_ex (gg : Nat → List SV → Sto → Res SV) (e : Exc) (S : Sto) : kCK gg (.ex e S) = .ex e S := Eq.trans rfl rfl
@[simp] theorem kCK_bad (gg : Nat → List SV → Sto → Res SV) : kCK gg .bad = .bad := Eq.trans rfl rfl
@[simp] theorem eCallK_ap (gg : Nat → List SV → Sto → Res SV) (fa : Fr → Sto → Res (List SV)) (F : Fr) (S : Sto) : eCallK gg fa F S = kCK gg (fa F S) := Eq.trans rfl rfl
def kM2 (gg : Nat → List SV → Sto → Res SV) (x : SV) (r : Res (List SV)) : Res SV := r.bind fun as S2 => fin S2.length (gg S2.length (x :: as) S2)
@[simp] theorem kM2_ok (gg : Nat → List SV → Sto → Res SV) (x : SV) (as : (List SV)) (S2 : Sto) : kM2 gg x (.ok as S2) = callF gg (x :: as) S2 := Eq.trans rfl rfl
@[simp] theorem kM2_ex (gg : Nat → List SV → Sto → Res SV) (x : SV) (e : Exc) (S : Sto) : kM2 gg x (.ex e S) = .ex e S := Eq.trans rfl rfl
@[simp] theorem kM2_bad (gg : Nat → List SV → Sto → Res SV) (x : SV) : kM2 gg x .bad = .bad := Eq.trans rfl rfl
def meR (c : Nat) (m : Str) (gg : Nat → List SV → Sto → Res SV) (fa : Fr → Sto → Res (List SV)) (F : Fr) (x : SV) : Option (Nat × List Str × List SV) → Sto → Res SV
  | some (c', fs, xs), S => if c' = c ∧ (lookF m fs xs).isNone = true then kM2 gg x (fa F S) else .bad
  | none, _ => .bad
@[simp] theorem meR_s (c : Nat) (m : Str) (gg : Nat → List SV → Sto → Res SV) (fa : Fr → Sto → Res (List SV)) (F : Fr) (x : SV) (c' : Nat) (fs : List Str) (xs : List SV) (S : Sto) : meR c m gg fa F x (some (c', fs, xs)) S = if c' = c ∧ (lookF m fs xs).isNone = true then kM2 gg x (fa F S) else .bad := Eq.trans rfl rfl
def kM1 (c : Nat) (m : Str) (gg : Nat → List SV → Sto → Res SV) (fa : Fr → Sto → Res (List SV)) (F : Fr) (r : Res SV) : Res SV := r.bind fun x S1 => meR c m gg fa F x (instOf S1 x) S1
@[simp] theorem kM1_ok (c : Nat) (m : Str) (gg : Nat → List SV → Sto → Res SV) (fa : Fr → Sto → Res (List SV)) (F : Fr) (x : SV) (S1 : Sto) : kM1 c m gg fa F (.ok x S1) = meR c m gg fa F x (instOf S1 x) S1 := Eq.trans rfl rfl
@[simp] theorem kM1_ex (c : Nat) (m : Str) (gg : Nat → List SV → Sto → Res SV) (fa : Fr → Sto → Res (List SV)) (F : Fr) (e : Exc) (S : Sto) : kM1 c m gg fa F (.ex e S) = .ex e S := Eq.trans rfl rfl
@[simp] theorem kM1_bad (c : Nat) (m : Str) (gg : Nat → List SV → Sto → Res SV) (fa : Fr → Sto → Res (List SV)) (F : Fr) : kM1 c m gg fa F .bad = .bad := Eq.trans rfl rfl
@[simp] theorem eMeth_ap (c : Nat) (m : Str) (gg : Nat → List SV → Sto → Res SV) (f : Fr → Sto → Res SV) (fa : Fr → Sto → Res (List SV)) (F : Fr) (S : Sto) : eMeth c m gg f fa F S = kM1 c m gg fa F (f F S) := by
  show (f F S).bind _ = (f F S).bind _
  congr 1
  funext x S1
  cases h : instOf S1 x with
  | none => simp only [meR, h]
  | some t => simp only [meR, h, kM2]
def kMk (c : Nat) (gg : Nat → List SV → Sto → Res SV) (r : Res (List SV)) : Res SV := r.bind fun as S1 => fin S1.length (mkd S1.length (gg S1.length (.m S1.length :: as) (S1 ++ [.ins c [] []])))
@[simp] theorem kMk_ok (c : Nat) (gg : Nat → List SV → Sto → Res SV) (as : (List SV)) (S1 : Sto) : kMk c gg (.ok as S1) = makF c gg as S1 := Eq.trans rfl rfl
@[simp] theorem kMk_ex (c : Nat) (gg : Nat → List SV → Sto → Res SV) (e : Exc) (S : Sto) : kMk c gg (.ex e S) = .ex e S := Eq.trans rfl rfl
@[simp] theorem kMk_bad (c : Nat) (gg : Nat → List SV → Sto → Res SV) : kMk c gg .bad = .bad := Eq.trans rfl rfl
@[simp] theorem eMake_ap (c : Nat) (gg : Nat → List SV → Sto → Res SV) (fa : Fr → Sto → Res (List SV)) (F : Fr) (S : Sto) : eMake c gg fa F S = kMk c gg (fa F S) := Eq.trans rfl rfl
def kMkK (c : Nat) (gg : Nat → List SV → Sto → Res SV) (r : Res (List SV)) : Res SV := r.bind fun as S1 => finK S1.length (mkd S1.length (gg S1.length (.m S1.length :: as) (S1 ++ [.ins c [] []])))
@[simp] theorem kMkK_ok (c : Nat) (gg : Nat → List SV → Sto → Res SV) (as : (List SV)) (S1 : Sto) : kMkK c gg (.ok as S1) = makK c gg as S1 := Eq.trans rfl rfl
@[simp] theorem kMkK_ex (c : Nat) (gg : Nat → List SV → Sto → Res SV) (e : Exc) (S : Sto) : kMkK c gg (.ex e S) = .ex e S := Eq.trans rfl rfl
@[simp] theorem kMkK_bad (c : Nat) (gg : Nat → List SV → Sto → Res SV) : kMkK c gg .bad = .bad := Eq.trans rfl rfl
@[simp] theorem eMakeK_ap (c : Nat) (gg : Nat → List SV → Sto → Res SV) (fa : Fr → Sto → Res (List SV)) (F : Fr) (S : Sto) : eMakeK c gg fa F S = kMkK c gg (fa F S) := Eq.trans rfl rfl
def owR (o : Sto → SV → SV → Option Dv) (c : Nat) (gg : Nat → List SV → Sto → Res SV) (x y : SV) (S : Sto) : Option (Nat × List Str × List SV) → Option (Nat × List Str × List SV) → Res SV
  | some (c1, _, _), some (c2, _, _) => if c1 = c ∧ c2 = c then fin S.length (gg S.length [x, y] S) else .bad
  | _, _ => optD (o S x y) S
@[simp] theorem owR_ss (o : Sto → SV → SV → Option Dv) (c : Nat) (gg : Nat → List SV → Sto → Res SV) (x y : SV) (S : Sto) (c1 c2 : Nat) (a b : List Str × List SV) : owR o c gg x y S (some (c1, a)) (some (c2, b)) = if c1 = c ∧ c2 = c then callF gg [x, y] S else .bad := Eq.trans rfl rfl
@[simp] theorem owR_n (o : Sto → SV → SV → Option Dv) (c : Nat) (gg : Nat → List SV → Sto → Res SV) (x y : SV) (S : Sto) (z : Option (Nat × List Str × List SV)) : owR o c gg x y S none z = optD (o S x y) S := Eq.trans rfl rfl
def kW2 (o : Sto → SV → SV → Option Dv) (c : Nat) (gg : Nat → List SV → Sto → Res SV) (x : SV) (r : Res SV) : Res SV := r.bind fun y S2 => owR o c gg x y S2 (instOf S2 x) (instOf S2 y)
@[simp] theorem kW2_ok (o : Sto → SV → SV → Option Dv) (c : Nat) (gg : Nat → List SV → Sto → Res SV) (x : SV) (y : SV) (S2 : Sto) : kW2 o c gg x (.ok y S2) = owR o c gg x y S2 (instOf S2 x) (instOf S2 y) := Eq.trans rfl rfl
@[simp] theorem kW2_ex (o : Sto → SV → SV → Option Dv) (c : Nat) (gg : Nat → List SV → Sto → Res SV) (x : SV) (e : Exc) (S : Sto) : kW2 o c gg x (.ex e S) = .ex e S := Eq.trans rfl rfl
@[simp] theorem kW2_bad (o : Sto → SV → SV → Option Dv) (c : Nat) (gg : Nat → List SV → Sto → Res SV) (x : SV) : kW2 o c gg x .bad = .bad := Eq.trans rfl rfl
def kW1 (o : Sto → SV → SV → Option Dv) (c : Nat) (gg : Nat → List SV → Sto → Res SV) (g : Fr → Sto → Res SV) (F : Fr) (r : Res SV) : Res SV := r.bind fun x S1 => kW2 o c gg x (g F S1)
@[simp] theorem kW1_ok (o : Sto → SV → SV → Option Dv) (c : Nat) (gg : Nat → List SV → Sto → Res SV) (g : Fr → Sto → Res SV) (F : Fr) (x : SV) (S1 : Sto) : kW1 o c gg g F (.ok x S1) = kW2 o c gg x (g F S1) := Eq.trans rfl rfl
@[simp] theorem kW1_ex (o : Sto → SV → SV → Option Dv) (c : Nat) (gg : Nat → List SV → Sto → Res SV) (g : Fr → Sto → Res SV) (F : Fr) (e : Exc) (S : Sto) : kW1 o c gg g F (.ex e S) = .ex e S := Eq.trans rfl rfl
@[simp] theorem kW1_bad (o : Sto → SV → SV → Option Dv) (c : Nat) (gg : Nat → List SV → Sto → Res SV) (g : Fr → Sto → Res SV) (F : Fr) : kW1 o c gg g F .bad = .bad := Eq.trans rfl rfl
@[simp] theorem eOwn_ap (o : Sto → SV → SV → Option Dv) (c : Nat) (gg : Nat → List SV → Sto → Res SV) (f : Fr → Sto → Res SV) (g : Fr → Sto → Res SV) (F : Fr) (S : Sto) : eOwn o c gg f g F S = kW1 o c gg g F (f F S) := by
  show (f F S).bind _ = (f F S).bind _
  congr 1
  funext x S1
  show (g F S1).bind _ = (g F S1).bind _
  congr 1
  funext y S2
  cases h : instOf S2 x with
  | none => cases instOf S2 y <;> (simp only [owR]; cases o S2 x y <;> rfl)
  | some p =>
    obtain ⟨c1, a, b⟩ := p
    cases h2 : instOf S2 y with
    | none => simp only [owR]; cases o S2 x y <;> rfl
    | some q => rfl
def kU2 (m : Nat → Sto → SV → List SV → Option (SV × Sto)) (b : Nat) (x : SV) (r : Res (List SV)) : Res SV := r.bind fun as S2 => optM (m b S2 x as)
@[simp] theorem kU2_ok (m : Nat → Sto → SV → List SV → Option (SV × Sto)) (b : Nat) (x : SV) (as : List SV) (S2 : Sto) : kU2 m b x (.ok as S2) = optM (m b S2 x as) := Eq.trans rfl rfl
@[simp] theorem kU2_ex (m : Nat → Sto → SV → List SV → Option (SV × Sto)) (b : Nat) (x : SV) (e : Exc) (S2 : Sto) : kU2 m b x (.ex e S2) = .ex e S2 := Eq.trans rfl rfl
def kU1 (m : Nat → Sto → SV → List SV → Option (SV × Sto)) (fa : Fr → Sto → Res (List SV)) (F : Fr) (r : Res SV) : Res SV := r.bind fun x S1 => if isL S1 x = true then kU2 m F.b x (fa F S1) else .bad
@[simp] theorem kU1_ok (m : Nat → Sto → SV → List SV → Option (SV × Sto)) (fa : Fr → Sto → Res (List SV)) (F : Fr) (x : SV) (S1 : Sto) : kU1 m fa F (.ok x S1) = if isL S1 x = true then kU2 m F.b x (fa F S1) else .bad := Eq.trans rfl rfl
@[simp] theorem kU1_ex (m : Nat → Sto → SV → List SV → Option (SV × Sto)) (fa : Fr → Sto → Res (List SV)) (F : Fr) (e : Exc) (S : Sto) : kU1 m fa F (.ex e S) = .ex e S := Eq.trans rfl rfl
@[simp] theorem kU1_bad (m : Nat → Sto → SV → List SV → Option (SV × Sto)) (fa : Fr → Sto → Res (List SV)) (F : Fr) : kU1 m fa F .bad = .bad := Eq.trans rfl rfl
@[simp] theorem eMut_ap (m : Nat → Sto → SV → List SV → Option (SV × Sto)) (f : Fr → Sto → Res SV) (fa : Fr → Sto → Res (List SV)) (F : Fr) (S : Sto) : eMut m f fa F S = kU1 m fa F (f F S) := Eq.trans rfl rfl
def kSeq (s' : Fr → Sto → SRes) (b : Nat) (r : SRes) : SRes := match r with
  | .nx v S => s' ⟨b, v⟩ S
  | r => r
@[simp] theorem kSeq_nx (s' : Fr → Sto → SRes) (b : Nat) (v : Env) (S : Sto) : kSeq s' b (.nx v S) = s' ⟨b, v⟩ S := Eq.trans rfl rfl
@[simp] theorem kSeq_bk (s' : Fr → Sto → SRes) (b : Nat) (v : Env) (S : Sto) : kSeq s' b (.bk v S) = .bk v S := Eq.trans rfl rfl
@[simp] theorem kSeq_ct (s' : Fr → Sto → SRes) (b : Nat) (v : Env) (S : Sto) : kSeq s' b (.ct v S) = .ct v S := Eq.trans rfl rfl
@[simp] theorem kSeq_rt (s' : Fr → Sto → SRes) (b : Nat) (v : SV) (S : Sto) : kSeq s' b (.rt v S) = .rt v S := Eq.trans rfl rfl
@[simp] theorem kSeq_ex (s' : Fr → Sto → SRes) (b : Nat) (e : Exc) (v : Env) (S : Sto) : kSeq s' b (.ex e v S) = .ex e v S := Eq.trans rfl rfl
@[simp] theorem kSeq_bad (s' : Fr → Sto → SRes) (b : Nat) : kSeq s' b .bad = .bad := Eq.trans rfl rfl
@[simp] theorem sSeq_ap (s : Fr → Sto → SRes) (s' : Fr → Sto → SRes) (F : Fr) (S : Sto) : sSeq s s' F S = kSeq s' F.b (s F S) := by
  unfold sSeq kSeq
  cases s F S <;> rfl
@[simp] theorem sNil_ap  (F : Fr) (S : Sto) : sNil F S = .nx F.v S := Eq.trans rfl rfl
@[simp] theorem sPass_ap  (F : Fr) (S : Sto) : sPass F S = .nx F.v S := Eq.trans rfl rfl
@[simp] theorem sBrk_ap  (F : Fr) (S : Sto) : sBrk F S = .bk F.v S := Eq.trans rfl rfl
@[simp] theorem sCont_ap  (F : Fr) (S : Sto) : sCont F S = .ct F.v S := Eq.trans rfl rfl
@[simp] theorem sRetN_ap  (F : Fr) (S : Sto) : sRetN F S = .rt (.d .non) S := Eq.trans rfl rfl
def kSet (i : Nat) (F : Fr) (r : Res SV) : SRes := r.st F fun x S1 => .nx (F.put i x) S1
@[simp] theorem kSet_ok (i : Nat) (F : Fr) (x : SV) (S1 : Sto) : kSet i F (.ok x S1) = .nx (F.put i x) S1 := Eq.trans rfl rfl
@[simp] theorem kSet_ex (i : Nat) (F : Fr) (e : Exc) (S : Sto) : kSet i F (.ex e S) = .ex e F.v S := Eq.trans rfl rfl
@[simp] theorem kSet_bad (i : Nat) (F : Fr) : kSet i F .bad = .bad := Eq.trans rfl rfl
@[simp] theorem sSet_ap (i : Nat) (f : Fr → Sto → Res SV) (F : Fr) (S : Sto) : sSet i f F S = kSet i F (f F S) := Eq.trans rfl rfl
@[simp] theorem put_ap (i : Nat) (x : SV) (b : Nat) (v : Env) : (Fr.mk b v).put i x = v.set i (some x) := Eq.trans rfl rfl
def kEx (F : Fr) (r : Res SV) : SRes := r.st F fun x S1 => .nx F.v S1
@[simp] theorem kEx_ok (F : Fr) (x : SV) (S1 : Sto) : kEx F (.ok x S1) = .nx F.v S1 := Eq.trans rfl rfl
@[simp] theorem kEx_ex (F : Fr) (e : Exc) (S : Sto) : kEx F (.ex e S) = .ex e F.v S := Eq.trans rfl rfl
@[simp] theorem kEx_bad (F : Fr) : kEx F .bad = .bad := Eq.trans rfl rfl
@[simp] theorem sExpr_ap (f : Fr → Sto → Res SV) (F : Fr) (S : Sto) : sExpr f F S = kEx F (f F S) := Eq.trans rfl rfl
def kRt (F : Fr) (r : Res SV) : SRes := r.st F fun x S1 => .rt x S1
@[simp] theorem kRt_ok (F : Fr) (x : SV) (S1 : Sto) : kRt F (.ok x S1) = .rt x S1 := Eq.trans rfl rfl
@[simp] theorem kRt_ex (F : Fr) (e : Exc) (S : Sto) : kRt F (.ex e S) = .ex e F.v S := Eq.trans rfl rfl
@[simp] theorem kRt_bad (F : Fr) : kRt F .bad = .bad := Eq.trans rfl rfl
@[simp] theorem sRet_ap (f : Fr → Sto → Res SV) (F : Fr) (S : Sto) : sRet f F S = kRt F (f F S) := Eq.trans rfl rfl
def kIf (s : Fr → Sto → SRes) (s' : Fr → Sto → SRes) (F : Fr) (r : Res Bool) : SRes := r.st F fun c S1 => if c = true then s F S1 else s' F S1
@[simp] theorem kIf_ok (s : Fr → Sto → SRes) (s' : Fr → Sto → SRes) (F : Fr) (c : Bool) (S1 : Sto) : kIf s s' F (.ok c S1) = if c = true then s F S1 else s' F S1 := Eq.trans rfl rfl
@[simp] theorem kIf_ex (s : Fr → Sto → SRes) (s' : Fr → Sto → SRes) (F : Fr) (e : Exc) (S : Sto) : kIf s s' F (.ex e S) = .ex e F.v S := Eq.trans rfl rfl
@[simp] theorem kIf_bad (s : Fr → Sto → SRes) (s' : Fr → Sto → SRes) (F : Fr) : kIf s s' F .bad = .bad := Eq.trans rfl rfl
@[simp] theorem sIf_ap (t : Fr → Sto → Res Bool) (s : Fr → Sto → SRes) (s' : Fr → Sto → SRes) (F : Fr) (S : Sto) : sIf t s s' F S = kIf s s' F (t F S) := Eq.trans rfl rfl
def kS3 (x o : SV) (F : Fr) (r : Res SV) : SRes := r.st F fun i S3 => optT (putIx F.b S3 o i x) F.v
@[simp] theorem kS3_ok (x o : SV) (F : Fr) (i : SV) (S3 : Sto) : kS3 x o F (.ok i S3) = optT (putIx F.b S3 o i x) F.v := Eq.trans rfl rfl
@[simp] theorem kS3_ex (x o : SV) (F : Fr) (e : Exc) (S : Sto) : kS3 x o F (.ex e S) = .ex e F.v S := Eq.trans rfl rfl
@[simp] theorem kS3_bad (x o : SV) (F : Fr) : kS3 x o F .bad = .bad := Eq.trans rfl rfl
def kS2 (g : Fr → Sto → Res SV) (x : SV) (F : Fr) (r : Res SV) : SRes := r.st F fun o S2 => kS3 x o F (g F S2)
@[simp] theorem kS2_ok (g : Fr → Sto → Res SV) (x : SV) (F : Fr) (o : SV) (S2 : Sto) : kS2 g x F (.ok o S2) = kS3 x o F (g F S2) := Eq.trans rfl rfl
@[simp] theorem kS2_ex (g : Fr → Sto → Res SV) (x : SV) (F : Fr) (e : Exc) (S : Sto) : kS2 g x F (.ex e S) = .ex e F.v S := Eq.trans rfl rfl
@[simp] theorem kS2_bad (g : Fr → Sto → Res SV) (x : SV) (F : Fr) : kS2 g x F .bad = .bad := Eq.trans rfl rfl
def kS1 (f : Fr → Sto → Res SV) (g : Fr → Sto → Res SV) (F : Fr) (r : Res SV) : SRes := r.st F fun x S1 => kS2 g x F (f F S1)
@[simp] theorem kS1_ok (f : Fr → Sto → Res SV) (g : Fr → Sto → Res SV) (F : Fr) (x : SV) (S1 : Sto) : kS1 f g F (.ok x S1) = kS2 g x F (f F S1) := Eq.trans rfl rfl
@[simp] theorem kS1_ex (f : Fr → Sto → Res SV) (g : Fr → Sto → Res SV) (F : Fr) (e : Exc) (S : Sto) : kS1 f g F (.ex e S) = .ex e F.v S := Eq.trans rfl rfl
@[simp] theorem kS1_bad (f : Fr → Sto → Res SV) (g : Fr → Sto → Res SV) (F : Fr) : kS1 f g F .bad = .bad := Eq.trans rfl rfl
@[simp] theorem sSub_ap (f : Fr → Sto → Res SV) (g : Fr → Sto → Res SV) (h : Fr → Sto → Res SV) (F : Fr) (S : Sto) : sSub f g h F S = kS1 f g F (h F S) := by
  show (h F S).st F _ = (h F S).st F _
  congr 1
  funext x S1
  show (f F S1).st F _ = (f F S1).st F _
  congr 1
  funext o S2
  show (g F S2).st F _ = (g F S2).st F _
  congr 1
  funext i S3
  cases putIx F.b S3 o i x <;> rfl
def atR (cs : List Nat) (nm : Str) (F : Fr) (x : SV) (j : Nat) (S2 : Sto) : Option MO → SRes
  | some (.ins c fs xs) => if cs.contains c = true ∧ fs.length < 1000 ∧ okIn F.b j x = true then .nx F.v (S2.set j (.ins c (putX nm x fs xs).1 (putX nm x fs xs).2)) else .bad
  | _ => .bad
@[simp] theorem atR_s (cs : List Nat) (nm : Str) (F : Fr) (x : SV) (j : Nat) (S2 : Sto) (c : Nat) (fs : List Str) (xs : List SV) :
    atR cs nm F x j S2 (some (.ins c fs xs)) = if cs.contains c = true ∧ fs.length < 1000 ∧ okIn F.b j x = true then .nx F.v (S2.set j (.ins c (putX nm x fs xs).1 (putX nm x fs xs).2)) else .bad := rfl
def atQ (cs : List Nat) (nm : Str) (F : Fr) (x : SV) (S2 : Sto) : SV → SRes
  | .m j => atR cs nm F x j S2 S2[j]?
  | _ => .bad
@[simp] theorem atQ_m (cs : List Nat) (nm : Str) (F : Fr) (x : SV) (j : Nat) (S2 : Sto) : atQ cs nm F x S2 (.m j) = atR cs nm F x j S2 S2[j]? := Eq.trans rfl rfl
def kT2 (cs : List Nat) (nm : Str) (x : SV) (F : Fr) (r : Res SV) : SRes := r.st F fun o S2 => atQ cs nm F x S2 o
@[simp] theorem kT2_ok (cs : List Nat) (nm : Str) (x : SV) (F : Fr) (o : SV) (S2 : Sto) : kT2 cs nm x F (.ok o S2) = atQ cs nm F x S2 o := Eq.trans rfl rfl
@[simp] theorem kT2_ex (cs : List Nat) (nm : Str) (x : SV) (F : Fr) (e : Exc) (S : Sto) : kT2 cs nm x F (.ex e S) = .ex e F.v S := Eq.trans rfl rfl
@[simp] theorem kT2_bad (cs : List Nat) (nm : Str) (x : SV) (F : Fr) : kT2 cs nm x F .bad = .bad := Eq.trans rfl rfl
def kT1 (cs : List Nat) (nm : Str) (f : Fr → Sto → Res SV) (F : Fr) (r : Res SV) : SRes := r.st F fun x S1 => kT2 cs nm x F (f F S1)
@[simp] theorem kT1_ok (cs : List Nat) (nm : Str) (f : Fr → Sto → Res SV) (F : Fr) (x : SV) (S1 : Sto) : kT1 cs nm f F (.ok x S1) = kT2 cs nm x F (f F S1) := Eq.trans rfl rfl
@[simp] theorem kT1_ex (cs : List Nat) (nm : Str) (f : Fr → Sto → Res SV) (F : Fr) (e : Exc) (S : Sto) : kT1 cs nm f F (.ex e S) = .ex e F.v S := Eq.trans rfl rfl
@[simp] theorem kT1_bad (cs : List Nat) (nm : Str) (f : Fr → Sto → Res SV) (F : Fr) : kT1 cs nm f F .bad = .bad := Eq.trans rfl rfl
@[simp] theorem sAttr_ap (cs : List Nat) (nm : Str) (f : Fr → Sto → Res SV) (g : Fr → Sto → Res SV) (F : Fr) (S : Sto) : sAttr cs nm f g F S = kT1 cs nm f F (g F S) := by
  show (g F S).st F _ = (g F S).st F _
  congr 1
def gR (i : Nat) (F : Fr) (S : Sto) : Option Dv → SRes
  | some z => .nx (F.put i (.d z)) S
  | none => .bad
@[simp] theorem gR_s (i : Nat) (F : Fr) (S : Sto) (z : Dv) : gR i F S (some z) = .nx (F.put i (.d z)) S := Eq.trans rfl rfl
def kG1 (i : Nat) (o : Sto → SV → SV → Option Dv) (x : SV) (F : Fr) (r : Res SV) : SRes := r.st F fun y S1 => gR i F S1 (o S1 x y)
@[simp] theorem kG1_ok (i : Nat) (o : Sto → SV → SV → Option Dv) (x : SV) (F : Fr) (y : SV) (S1 : Sto) : kG1 i o x F (.ok y S1) = gR i F S1 (o S1 x y) := Eq.trans rfl rfl
@[simp] theorem kG1_ex (i : Nat) (o : Sto → SV → SV → Option Dv) (x : SV) (F : Fr) (e : Exc) (S : Sto) : kG1 i o x F (.ex e S) = .ex e F.v S := Eq.trans rfl rfl
@[simp] theorem kG1_bad (i : Nat) (o : Sto → SV → SV → Option Dv) (x : SV) (F : Fr) : kG1 i o x F .bad = .bad := Eq.trans rfl rfl
def agR (i : Nat) (o : Sto → SV → SV → Option Dv) (f : Fr → Sto → Res SV) (F : Fr) (S : Sto) : Option (Option SV) → SRes
  | some (some x) => kG1 i o x F (f F S)
  | _ => .bad
@[simp] theorem agR_s (i : Nat) (o : Sto → SV → SV → Option Dv) (f : Fr → Sto → Res SV) (F : Fr) (S : Sto) (x : SV) : agR i o f F S (some (some x)) = kG1 i o x F (f F S) := Eq.trans rfl rfl
@[simp] theorem sAug_ap (i : Nat) (o : Sto → SV → SV → Option Dv) (f : Fr → Sto → Res SV) (F : Fr) (S : Sto) : sAug i o f F S = agR i o f F S F.v[i]? := by
  unfold sAug agR
  rcases F.v[i]? with _ | _ | x
  · rfl
  · rfl
  · show (f F S).st F _ = (f F S).st F _
    congr 1
def kAs (tg : Tg) (F : Fr) (r : Res SV) : SRes := r.st F fun x S1 => optV (tg x F S1) S1
@[simp] theorem kAs_ok (tg : Tg) (F : Fr) (x : SV) (S1 : Sto) : kAs tg F (.ok x S1) = optV (tg x F S1) S1 := Eq.trans rfl rfl
@[simp] theorem kAs_ex (tg : Tg) (F : Fr) (e : Exc) (S : Sto) : kAs tg F (.ex e S) = .ex e F.v S := Eq.trans rfl rfl
@[simp] theorem kAs_bad (tg : Tg) (F : Fr) : kAs tg F .bad = .bad := Eq.trans rfl rfl
@[simp] theorem sAsg_ap (f : Fr → Sto → Res SV) (tg : Tg) (F : Fr) (S : Sto) : sAsg f tg F S = kAs tg F (f F S) := by
  show (f F S).st F _ = (f F S).st F _
  congr 1
  funext x S1
  cases tg x F S1 <;> rfl
@[simp] theorem gNm_ap (i : Nat) (x : SV) (F : Fr) (S : Sto) : gNm i x F S = some (F.put i x) := Eq.trans rfl rfl
def unR (n : Nat) (tgs : List Tg) (F : Fr) (S : Sto) : Option (List SV) → Option Env
  | some xs => if xs.length = n then gTs tgs xs F S else none
  | none => none
@[simp] theorem unR_s (n : Nat) (tgs : List Tg) (F : Fr) (S : Sto) (xs : List SV) : unR n tgs F S (some xs) = if xs.length = n then gTs tgs xs F S else none := Eq.trans rfl rfl
@[simp] theorem gUn_ap (n : Nat) (tgs : List Tg) (x : SV) (F : Fr) (S : Sto) : gUn n tgs x F S = unR n tgs F S (tupOf S x) := by
  unfold gUn unR
  cases tupOf S x <;> rfl
def gtK (ts : List Tg) (xs : List SV) (b : Nat) (S : Sto) : Option Env → Option Env
  | some v => gTs ts xs ⟨b, v⟩ S
  | none => none
@[simp] theorem gtK_s (ts : List Tg) (xs : List SV) (b : Nat) (S : Sto) (v : Env) : gtK ts xs b S (some v) = gTs ts xs ⟨b, v⟩ S := Eq.trans rfl rfl
@[simp] theorem gTs_nil (F : Fr) (S : Sto) : gTs [] [] F S = some F.v := Eq.trans rfl rfl
@[simp] theorem gTs_cons (t : Tg) (ts : List Tg) (x : SV) (xs : List SV) (F : Fr) (S : Sto) : gTs (t :: ts) (x :: xs) F S = gtK ts xs F.b S (t x F S) := by
  show (match t x F S with | some v1 => gTs ts xs ⟨F.b, v1⟩ S | none => none) = _
  cases t x F S <;> rfl
@[simp] theorem tupOf_d (S : Sto) (xs : List Dv) : tupOf S (.d (.tup xs)) = some (xs.map .d) := Eq.trans rfl rfl
def fr1 (tg : Tg) (s : Fr → Sto → SRes) (F : Fr) (S : Sto) : List SV → SRes
  | [.d (.int n)] => if small62 n = true then forL tg s F.b (rng 0 n.toNat) F.v S else .bad
  | _ => .bad
@[simp] theorem fr1_i (tg : Tg) (s : Fr → Sto → SRes) (F : Fr) (S : Sto) (n : Int) : fr1 tg s F S [.d (.int n)] = if small62 n = true then forL tg s F.b (rng 0 n.toNat) F.v S else .bad := Eq.trans rfl rfl
def fr2 (tg : Tg) (s : Fr → Sto → SRes) (F : Fr) (S : Sto) : List SV → SRes
  | [.d (.int m), .d (.int n)] => if (small62 m && small62 n) = true then forL tg s F.b (rng m (n - m).toNat) F.v S else .bad
  | _ => .bad
@[simp] theorem fr2_i (tg : Tg) (s : Fr → Sto → SRes) (F : Fr) (S : Sto) (m n : Int) : fr2 tg s F S [.d (.int m), .d (.int n)] = if (small62 m && small62 n) = true then forL tg s F.b (rng m (n - m).toNat) F.v S else .bad := Eq.trans rfl rfl
def kF1 (tg : Tg) (s : Fr → Sto → SRes) (F : Fr) (r : Res (List SV)) : SRes := r.st F fun as S1 => fr1 tg s F S1 as
@[simp] theorem kF1_ok (tg : Tg) (s : Fr → Sto → SRes) (F : Fr) (as : (List SV)) (S1 : Sto) : kF1 tg s F (.ok as S1) = fr1 tg s F S1 as := Eq.trans rfl rfl
@[simp] theorem kF1_ex (tg : Tg) (s : Fr → Sto → SRes) (F : Fr) (e : Exc) (S : Sto) : kF1 tg s F (.ex e S) = .ex e F.v S := Eq.trans rfl rfl
@[simp] theorem kF1_bad (tg : Tg) (s : Fr → Sto → SRes) (F : Fr) : kF1 tg s F .bad = .bad := Eq.trans rfl rfl
@[simp] theorem sForR_ap (fa : Fr → Sto → Res (List SV)) (tg : Tg) (s : Fr → Sto → SRes) (F : Fr) (S : Sto) : sForR fa tg s F S = kF1 tg s F (fa F S) := Eq.trans rfl rfl
def kF2 (tg : Tg) (s : Fr → Sto → SRes) (F : Fr) (r : Res (List SV)) : SRes := r.st F fun as S1 => fr2 tg s F S1 as
@[simp] theorem kF2_ok (tg : Tg) (s : Fr → Sto → SRes) (F : Fr) (as : (List SV)) (S1 : Sto) : kF2 tg s F (.ok as S1) = fr2 tg s F S1 as := Eq.trans rfl rfl
@[simp] theorem kF2_ex (tg : Tg) (s : Fr → Sto → SRes) (F : Fr) (e : Exc) (S : Sto) : kF2 tg s F (.ex e S) = .ex e F.v S := Eq.trans rfl rfl
@[simp] theorem kF2_bad (tg : Tg) (s : Fr → Sto → SRes) (F : Fr) : kF2 tg s F .bad = .bad := Eq.trans rfl rfl
@[simp] theorem sForR2_ap (fa : Fr → Sto → Res (List SV)) (tg : Tg) (s : Fr → Sto → SRes) (F : Fr) (S : Sto) : sForR2 fa tg s F S = kF2 tg s F (fa F S) := Eq.trans rfl rfl
def frR (tg : Tg) (s : Fr → Sto → SRes) (F : Fr) : Option (Dv × Sto) → SRes
  | some (.lst xs, S2) => forL tg s F.b (xs.map .d) F.v S2
  | some (.tup xs, S2) => forL tg s F.b (xs.map .d) F.v S2
  | some (.dic ks _, S2) => forL tg s F.b (ks.map keyS) F.v S2
  | _ => .bad
@[simp] theorem frR_d (tg : Tg) (s : Fr → Sto → SRes) (F : Fr) (ks : List Key) (xs : List Dv) (S2 : Sto) : frR tg s F (some (.dic ks xs, S2)) = forL tg s F.b (ks.map keyS) F.v S2 := Eq.trans rfl rfl
@[simp] theorem frR_l (tg : Tg) (s : Fr → Sto → SRes) (F : Fr) (xs : List Dv) (S2 : Sto) : frR tg s F (some (.lst xs, S2)) = forL tg s F.b (xs.map .d) F.v S2 := Eq.trans rfl rfl
@[simp] theorem frR_t (tg : Tg) (s : Fr → Sto → SRes) (F : Fr) (xs : List Dv) (S2 : Sto) : frR tg s F (some (.tup xs, S2)) = forL tg s F.b (xs.map .d) F.v S2 := Eq.trans rfl rfl
def kFo (tg : Tg) (s : Fr → Sto → SRes) (F : Fr) (r : Res SV) : SRes := r.st F fun x S1 => frR tg s F (freeze S1 x)
@[simp] theorem kFo_ok (tg : Tg) (s : Fr → Sto → SRes) (F : Fr) (x : SV) (S1 : Sto) : kFo tg s F (.ok x S1) = frR tg s F (freeze S1 x) := Eq.trans rfl rfl
@[simp] theorem kFo_ex (tg : Tg) (s : Fr → Sto → SRes) (F : Fr) (e : Exc) (S1 : Sto) : kFo tg s F (.ex e S1) = .ex e F.v S1 := Eq.trans rfl rfl
@[simp] theorem kFo_bad (tg : Tg) (s : Fr → Sto → SRes) (F : Fr) : kFo tg s F .bad = .bad := Eq.trans rfl rfl
@[simp] theorem sFor_ap (f : Fr → Sto → Res SV) (tg : Tg) (s : Fr → Sto → SRes) (F : Fr) (S : Sto) : sFor f tg s F S = kFo tg s F (f F S) := Eq.trans rfl rfl
/-! loops, turn by turn -/
@[simp] theorem forL_nil (tg : Tg) (s : Fr → Sto → SRes) (b : Nat) (v : Env) (S : Sto) : forL tg s b [] v S = .nx v S := Eq.trans rfl rfl
def kTu (tg : Tg) (s : Fr → Sto → SRes) (b : Nat) (r : List SV) : SRes → SRes
  | .nx v2 S2 => forL tg s b r v2 S2
  | .ct v2 S2 => forL tg s b r v2 S2
  | .bk v2 S2 => .nx v2 S2
  | o => o
@[simp] theorem kTu_nx (tg : Tg) (s : Fr → Sto → SRes) (b : Nat) (r : List SV) (v : Env) (S : Sto) : kTu tg s b r (.nx v S) = forL tg s b r v S := Eq.trans rfl rfl
@[simp] theorem kTu_ct (tg : Tg) (s : Fr → Sto → SRes) (b : Nat) (r : List SV) (v : Env) (S : Sto) : kTu tg s b r (.ct v S) = forL tg s b r v S := Eq.trans rfl rfl
@[simp] theorem kTu_bk (tg : Tg) (s : Fr → Sto → SRes) (b : Nat) (r : List SV) (v : Env) (S : Sto) : kTu tg s b r (.bk v S) = .nx v S := Eq.trans rfl rfl
@[simp] theorem kTu_rt (tg : Tg) (s : Fr → Sto → SRes) (b : Nat) (r : List SV) (v : SV) (S : Sto) : kTu tg s b r (.rt v S) = .rt v S := Eq.trans rfl rfl
@[simp] theorem kTu_ex (tg : Tg) (s : Fr → Sto → SRes) (b : Nat) (r : List SV) (e : Exc) (v : Env) (S : Sto) : kTu tg s b r (.ex e v S) = .ex e v S := Eq.trans rfl rfl
def kTg (tg : Tg) (s : Fr → Sto → SRes) (b : Nat) (r : List SV) (S : Sto) : Option Env → SRes
  | some v1 => kTu tg s b r (s ⟨b, v1⟩ S)
  | none => .bad
@[simp] theorem kTg_s (tg : Tg) (s : Fr → Sto → SRes) (b : Nat) (r : List SV) (S : Sto) (v1 : Env) : kTg tg s b r S (some v1) = kTu tg s b r (s ⟨b, v1⟩ S) := Eq.trans rfl rfl
theorem forL_cons (tg : Tg) (s : Fr → Sto → SRes) (b : Nat) (x : SV) (r : List SV) (v : Env) (S : Sto) : forL tg s b (x :: r) v S = kTg tg s b r S (tg x ⟨b, v⟩ S) := by
  show (match tg x ⟨b, v⟩ S with | some v1 => _ | none => _) = _
  cases tg x ⟨b, v⟩ S with
  | none => rfl
  | some v1 =>
    show (match s ⟨b, v1⟩ S with | .nx v2 S2 => _ | .ct v2 S2 => _ | .bk v2 S2 => _ | o => o) = kTu tg s b r (s ⟨b, v1⟩ S)
    cases s ⟨b, v1⟩ S <;> rfl
/-! results -/
@[simp] theorem res_rt (x : SV) (S : Sto) : (SRes.rt x S).res = .ok x S := Eq.trans rfl rfl
@[simp] theorem res_nx (v : Env) (S : Sto) : (SRes.nx v S).res = .ok (.d .non) S := Eq.trans rfl rfl
@[simp] theorem res_ex (e : Exc) (v : Env) (S : Sto) : (SRes.ex e v S).res = .ex e S := Eq.trans rfl rfl
@[simp] theorem fin_d (n : Nat) (x : Dv) (S : Sto) : fin n (.ok (.d x) S) = .ok (.d x) (S.take n) := Eq.trans rfl rfl
@[simp] theorem fin_ex (n : Nat) (e : Exc) (S : Sto) : fin n (.ex e S) = .ex e (S.take n) := Eq.trans rfl rfl
@[simp] theorem finK_ok (n : Nat) (x : SV) (S : Sto) : finK n (.ok x S) = .ok x S := Eq.trans rfl rfl
@[simp] theorem finK_ex (n : Nat) (e : Exc) (S : Sto) : finK n (.ex e S) = .ex e (S.take n) := Eq.trans rfl rfl
@[simp] theorem mkd_ok (n : Nat) (S : Sto) : mkd n (.ok (.d .non) S) = .ok (.m n) S := Eq.trans rfl rfl
@[simp] theorem take_len (S : Sto) : S.take S.length = S := List.take_length
@[simp] theorem take_set (S : Sto) (i : Nat) (x : MO) : (S.set i x).take S.length = S.set i x := by rw [← List.length_set (as := S) (i := i) (a := x), List.take_length]
@[simp] theorem take_app (S T : Sto) : (S ++ T).take S.length = S := List.take_left' rfl
@[simp] theorem frzs_nil (S : Sto) : frzs S [] = some ([], S) := Eq.trans rfl rfl
@[simp] theorem frzs_cons (S : Sto) (x : Dv) (r : List SV) : frzs S (.d x :: r) = (match frzs S r with | some (as, S2) => some (x :: as, S2) | none => none) := Eq.trans rfl rfl
@[simp] theorem tyS_d (S : Sto) (x : Dv) : tyS S (.d x) = some x.ty := Eq.trans rfl rfl
@[simp] theorem ty_int (i : Int) : (Dv.int i).ty = .int := Eq.trans rfl rfl
@[simp] theorem ty_bl (i : Bool) : (Dv.bl i).ty = .bl := Eq.trans rfl rfl
@[simp] theorem ty_str (i : Str) : (Dv.str i).ty = .str := Eq.trans rfl rfl
@[simp] theorem ty_non : Dv.non.ty = .non := Eq.trans rfl rfl
@[simp] theorem ty_tup (i : List Dv) : (Dv.tup i).ty = .tup := Eq.trans rfl rfl
@[simp] theorem ty_lst (i : List Dv) : (Dv.lst i).ty = .lst := Eq.trans rfl rfl
@[simp] theorem ty_ins (c : Nat) (fs : List Str) (i : List Dv) : (Dv.ins c fs i).ty = .own c := Eq.trans rfl rfl
@[simp] theorem instOf_ins (S : Sto) (c : Nat) (fs : List Str) (xs : List Dv) : instOf S (.d (.ins c fs xs)) = some (c, fs, xs.map .d) := Eq.trans rfl rfl
@[simp] theorem instOf_int (S : Sto) (i : Int) : instOf S (.d (.int i)) = none := Eq.trans rfl rfl
@[simp] theorem itemsOf_tup (S : Sto) (xs : List Dv) : itemsOf S (.d (.tup xs)) = some (xs.map .d) := Eq.trans rfl rfl
@[simp] theorem itemsOf_lst (S : Sto) (xs : List Dv) : itemsOf S (.d (.lst xs)) = some (xs.map .d) := Eq.trans rfl rfl
@[simp] theorem itemsOf_str (S : Sto) (x : Str) : itemsOf S (.d (.str x)) = none := Eq.trans rfl rfl
@[simp] theorem opInt_dd (C : Int → Int → Bool) (g : Int → Int → Dv) (S : Sto) (i j : Int) : opInt C g S (.d (.int i)) (.d (.int j)) = if C i j = true then some (g i j) else none := Eq.trans rfl rfl
@[simp] theorem opAdd_ii (S : Sto) (i j : Int) : opAdd S (.d (.int i)) (.d (.int j)) = some (.int (i + j)) := Eq.trans rfl rfl
@[simp] theorem biInt_i (S : Sto) (i : Int) : biInt S [.d (.int i)] = some (.int i) := Eq.trans rfl rfl
@[simp] theorem biInt_b (S : Sto) (i : Bool) : biInt S [.d (.bl i)] = some (.int (if i then 1 else 0)) := Eq.trans rfl rfl
@[simp] theorem biAbs_i (S : Sto) (i : Int) : biAbs S [.d (.int i)] = some (.int (if i < 0 then -i else i)) := Eq.trans rfl rfl
@[simp] theorem biMax_2 (S : Sto) (i j : Int) : biMax S [.d (.int i), .d (.int j)] = some (.int (if j > i then j else i)) := Eq.trans rfl rfl
@[simp] theorem biMax_3 (S : Sto) (a b c : Int) : biMax S [.d (.int a), .d (.int b), .d (.int c)] = some (.int (if b > a then (if c > b then c else b) else (if c > a then c else a))) := Eq.trans rfl rfl
@[simp] theorem biMin_2 (S : Sto) (i j : Int) : biMin S [.d (.int i), .d (.int j)] = some (.int (if j < i then j else i)) := Eq.trans rfl rfl
@[simp] theorem biMin_3 (S : Sto) (a b c : Int) : biMin S [.d (.int a), .d (.int b), .d (.int c)] = some (.int (if b < a then (if c < b then c else b) else (if c < a then c else a))) := Eq.trans rfl rfl
@[simp] theorem biLen_t (S : Sto) (xs : List Dv) : biLen S [.d (.tup xs)] = some (.int xs.length) := by simp [biLen]
@[simp] theorem biLen_l (S : Sto) (xs : List Dv) : biLen S [.d (.lst xs)] = some (.int xs.length) := by simp [biLen]
@[simp] theorem deq_ii (i j : Int) : deq (.int i) (.int j) = some (i == j) := Eq.trans rfl rfl
@[simp] theorem deq_ss (i j : Str) : deq (.str i) (.str j) = some (i == j) := Eq.trans rfl rfl
@[simp] theorem deq_bb (i j : Bool) : deq (.bl i) (.bl j) = some (i == j) := Eq.trans rfl rfl
@[simp] theorem eqv_ts (xs : List PyData) (s : Str) : PyData.eqv (.tuple xs) (.str s) = false := by simp [PyData.eqv]
@[simp] theorem deq_ts (s : Str) (xs : List Dv) (h : Dv.flats xs = true) : deq (.tup xs) (.str s) = some false := by
  unfold deq
  simp [Dv.flat, Dv.pd, PyData.depth, PyData.eqv, h]
@[simp] theorem deq_st (s : Str) (xs : List Dv) (h : Dv.flats xs = true) : deq (.str s) (.tup xs) = some false := by
  unfold deq
  simp [Dv.flat, Dv.pd, PyData.depth, PyData.eqv, h]
@[simp] theorem opEq_dd (S : Sto) (x y : Dv) : opEq S (.d x) (.d y) = (deq x y).map .bl := Eq.trans rfl rfl
@[simp] theorem opNe_dd (S : Sto) (x y : Dv) : opNe S (.d x) (.d y) = (deq x y).map fun c => .bl (!c) := Eq.trans rfl rfl
@[simp] theorem opIsN_dd (S : Sto) (x : SV) : opIsN S x (.d .non) = some (.bl x.isNon) := Eq.trans rfl rfl
@[simp] theorem flats_nil : Dv.flats [] = true := Eq.trans rfl rfl
@[simp] theorem flats_cons (x : Dv) (r : List Dv) : Dv.flats (x :: r) = (x.flat && Dv.flats r) := Eq.trans rfl rfl
@[simp] theorem flat_int (i : Int) : (Dv.int i).flat = true := Eq.trans rfl rfl
@[simp] theorem flat_str (i : Str) : (Dv.str i).flat = true := Eq.trans rfl rfl
@[simp] theorem flat_bl (i : Bool) : (Dv.bl i).flat = true := Eq.trans rfl rfl
@[simp] theorem flat_non : Dv.non.flat = true := Eq.trans rfl rfl
@[simp] theorem flat_tup (i : List Dv) : (Dv.tup i).flat = Dv.flats i := Eq.trans rfl rfl
@[simp] theorem flat_lst (i : List Dv) : (Dv.lst i).flat = Dv.flats i := Eq.trans rfl rfl
@[simp] theorem most_pos (n : Nat) (h : n ≤ 1000) : n ≤ most := Nat.le_trans h (by decide)
/-- an item by its place -/
theorem atI_n {α : Type} (xs : List α) (i : Nat) : atI xs (i : Int) = xs[i]? := by
  unfold atI ixN
  rw [if_pos (Int.natCast_nonneg i)]
  by_cases h : i < xs.length
  · rw [if_pos (by omega)]; simp
  · rw [if_neg (by omega)]; simp [List.getElem?_eq_none_iff.mpr (Nat.le_of_not_lt h)]
@[simp] theorem atI_0 {α : Type} (xs : List α) : atI xs 0 = xs[0]? := atI_n xs 0
@[simp] theorem atI_1 {α : Type} (xs : List α) : atI xs 1 = xs[1]? := atI_n xs 1
@[simp] theorem atI_2 {α : Type} (xs : List α) : atI xs 2 = xs[2]? := atI_n xs 2
@[simp] theorem atI_3 {α : Type} (xs : List α) : atI xs 3 = xs[3]? := atI_n xs 3
@[simp] theorem atI_4 {α : Type} (xs : List α) : atI xs 4 = xs[4]? := atI_n xs 4
@[simp] theorem opIx_ti (S : Sto) (xs : List Dv) (i : Int) : opIx S (.d (.tup xs)) (.d (.int i)) = atI (xs.map .d) i := Eq.trans rfl rfl
@[simp] theorem opIx_li (S : Sto) (xs : List Dv) (i : Int) : opIx S (.d (.lst xs)) (.d (.int i)) = atI (xs.map .d) i := Eq.trans rfl rfl
@[simp] theorem ofStr_inj {a b : String} : (Str.ofString a = Str.ofString b) = (a = b) := by
  apply propext
  constructor
  · intro h
    rw [Str.ofString_eq_toList, Str.ofString_eq_toList] at h
    have h2 : a.toList.map Char.toNat = b.toList.map Char.toNat := by simpa using congrArg Str.cps h
    have h3 : a.toList = b.toList := (List.map_inj_right (fun x y e => Char.toNat_inj.mp e)).mp h2
    exact String.toList_inj.mp h3
  · intro h; rw [h]
@[simp] theorem ofStr_beq {a b : String} : (Str.ofString a == Str.ofString b) = (a == b) := by
  rw [Bool.eq_iff_iff, beq_iff_eq, beq_iff_eq, ofStr_inj]
@[simp] theorem lookF_cons {α : Type} (f a : Str) (fs : List Str) (x : α) (xs : List α) : lookF f (a :: fs) (x :: xs) = if f = a then some x else lookF f fs xs := Eq.trans rfl rfl
@[simp] theorem lookF_nil {α : Type} (f : Str) (xs : List α) : lookF f [] xs = none := by cases xs <;> rfl
@[simp] theorem putX_cons (nm : Str) (x : SV) (g : Str) (fs : List Str) (y : SV) (xs : List SV) : putX nm x (g :: fs) (y :: xs) = if g = nm then (g :: fs, x :: xs) else (g :: (putX nm x fs xs).1, y :: (putX nm x fs xs).2) := Eq.trans rfl rfl
@[simp] theorem putX_nil (nm : Str) (x : SV) : putX nm x [] [] = ([nm], [x]) := Eq.trans rfl rfl
@[simp] theorem okIn_d (b i : Nat) (x : Dv) : okIn b i (.d x) = true := Eq.trans rfl rfl
@[simp] theorem okIn_m (b i j : Nat) : okIn b i (.m j) = (decide (j ≤ i) || decide (b ≤ i)) := Eq.trans rfl rfl
theorem small62_ap (i : Int) : small62 i = (decide (-4611686018427387904 ≤ i) && decide (i < 4611686018427387904)) := rfl
@[simp] theorem rng_zero (lo : Int) : rng lo 0 = [] := Eq.trans rfl rfl
theorem rng_succ (lo : Int) (n : Nat) : rng lo (n + 1) = .d (.int lo) :: rng (lo + 1) n := by
  unfold rng
  rw [List.range_succ_eq_map, List.map_cons, List.map_map]
  congr 1
  · simp
  · apply List.map_congr_left
    intro i _
    simp only [Function.comp]
    congr 2
    push_cast
    omega
end Ev

set_option Elab.async false
set_option linter.all false
set_option maxRecDepth 100000
/-! Ev13: list comprehensions. -/
namespace Ev
open PySem L2
def noX {α : Type} : Res α → Res α
  | .ex _ _ => .bad
  | r => r
@[simp] theorem noX_ok {α : Type} (a : α) (S : Sto) : noX (.ok a S) = .ok a S := rfl
@[simp] theorem noX_bad {α : Type} : noX (.bad : Res α) = .bad := rfl
def lcPut (b : Nat) (y : SV) (S : Sto) : Option MO → Option Sto
  | some (.lst acc) => if acc.length < most then some (S.set b (.lst (acc ++ [y]))) else none
  | _ => none
/-- the turns; the new list lies at b -/
def lcL (tg : Tg) (tt : Fr → Sto → Res Bool) (te : Fr → Sto → Res SV) (b : Nat) (ve : Env) : List SV → Sto → Res SV
  | [], S => .ok (.m b) S
  | x :: r, S => match tg x ⟨b, ve⟩ S with
    | some v1 => (noX (tt ⟨b, v1⟩ S)).bind fun c S1 => if c = true then (noX (te ⟨b, v1⟩ S1)).bind fun y S2 => match lcPut b y S2 S2[b]? with
        | some S3 => lcL tg tt te b ve r S3
        | none => .bad
      else lcL tg tt te b ve r S1
    | none => .bad
def wipeE (v : Env) : List Nat → Env
  | [] => v
  | i :: r => (wipeE v r).set i none
def lcAll (fi : Nat → Res SV → Res SV) (vs : List Nat) (tg : Tg) (tt : Fr → Sto → Res Bool) (te : Fr → Sto → Res SV) (v : Env) (xs : List SV) (S : Sto) : Res SV :=
  fi S.length (lcL tg tt te S.length (wipeE v vs) xs (S ++ [.lst []]))
def lcS (fi : Nat → Res SV → Res SV) (vs : List Nat) (tg : Tg) (tt : Fr → Sto → Res Bool) (te : Fr → Sto → Res SV) (v : Env) : Option (Dv × Sto) → Res SV
  | some (.lst xs, S) => lcAll fi vs tg tt te v (xs.map .d) S
  | some (.tup xs, S) => lcAll fi vs tg tt te v (xs.map .d) S
  | some (.dic ks _, S) => lcAll fi vs tg tt te v (ks.map keyS) S
  | _ => .bad
def eLcW (fi : Nat → Res SV → Res SV) (vs : List Nat) (fe : Fr → Sto → Res SV) (tg : Tg) (tt : Fr → Sto → Res Bool) (te : Fr → Sto → Res SV) : Fr → Sto → Res SV := fun F S =>
  (fe F S).bind fun x S1 => lcS fi vs tg tt te F.v (freeze S1 x)
abbrev eLc := eLcW fin
abbrev eLcK := eLcW finK
def lcR (fi : Nat → Res SV → Res SV) (vs : List Nat) (tg : Tg) (tt : Fr → Sto → Res Bool) (te : Fr → Sto → Res SV) (v : Env) (S : Sto) : List SV → Res SV
  | [.d (.int n)] => if small62 n = true then lcAll fi vs tg tt te v (rng 0 n.toNat) S else .bad
  | _ => .bad
def lcR2 (fi : Nat → Res SV → Res SV) (vs : List Nat) (tg : Tg) (tt : Fr → Sto → Res Bool) (te : Fr → Sto → Res SV) (v : Env) (S : Sto) : List SV → Res SV
  | [.d (.int m), .d (.int n)] => if (small62 m && small62 n) = true then lcAll fi vs tg tt te v (rng m (n - m).toNat) S else .bad
  | _ => .bad
def eLcRW (fi : Nat → Res SV → Res SV) (vs : List Nat) (fa : Fr → Sto → Res (List SV)) (tg : Tg) (tt : Fr → Sto → Res Bool) (te : Fr → Sto → Res SV) : Fr → Sto → Res SV := fun F S =>
  (fa F S).bind fun as S1 => lcR fi vs tg tt te F.v S1 as
def eLcR2W (fi : Nat → Res SV → Res SV) (vs : List Nat) (fa : Fr → Sto → Res (List SV)) (tg : Tg) (tt : Fr → Sto → Res Bool) (te : Fr → Sto → Res SV) : Fr → Sto → Res SV := fun F S =>
  (fa F S).bind fun as S1 => lcR2 fi vs tg tt te F.v S1 as
abbrev eLcR := eLcRW fin
abbrev eLcRK := eLcRW finK
abbrev eLcR2 := eLcR2W fin
abbrev eLcR2K := eLcR2W finK
def WF : WX := fun _ _ _ _ => False
theorem EnvR.wipe {K : PySem.W.Frag} {cl : Nat → Addr} {W : Wd} {n : Nat} {env : Env} {σ : St} (r : EnvR K cl W n env σ) : ∀ vs, EnvR K cl W n (wipeE env vs) (L2.wipe σ vs)
  | [] => r
  | i :: vs => by
    have q := EnvR.wipe r vs
    refine ⟨by simp only [L2.wipe, wipeE, List.length_set]; exact q.len, fun j sv e => ?_⟩
    unfold wipeE at e
    unfold L2.wipe
    by_cases h : i = j
    · subst h
      rw [List.getElem?_set] at e
      split at e
      · split at e <;> cases e
      · exact absurd rfl (by assumption)
    · rw [List.getElem?_set_ne h] at e ⊢
      exact q.get j sv e
/-! targets that are the block's own -/
def RGw (X : Cx) (cl : CL) (vs : List Nat) (tg : Tg) : TG := fun v σ H Q => ∃ W F S sv v', At X.K cl W F S σ H ∧ RelSV X.K cl W S.length sv v ∧ tg sv F S = some v' ∧ ∀ σ', L2.wipe σ' vs = L2.wipe σ vs → At X.K cl W ⟨F.b, v'⟩ S σ' H → Q σ' H
def RGws (X : Cx) (cl : CL) (vs : List Nat) (tgs : List Tg) : TGs := fun ws σ H Q => ∃ W F S svs v', At X.K cl W F S σ H ∧ Paired (RelSV X.K cl W S.length) svs ws ∧ gTs tgs svs F S = some v' ∧ ∀ σ', L2.wipe σ' vs = L2.wipe σ vs → At X.K cl W ⟨F.b, v'⟩ S σ' H → Q σ' H
theorem wipe_set {σ : St} {i : Nat} {y : Option V} : ∀ vs, L2.wipe (σ.set i y) vs = (L2.wipe σ vs).set i (if i ∈ vs then none else y) ∨ L2.wipe (σ.set i y) vs = L2.wipe σ vs
  | [] => .inl (by simp [L2.wipe])
  | j :: vs => by
    unfold L2.wipe
    by_cases h : j = i
    · subst h
      refine .inr ?_
      rcases wipe_set (σ := σ) (i := j) (y := y) vs with e | e <;> rw [e]
      rw [List.set_set]
    · rcases wipe_set (σ := σ) (i := i) (y := y) vs with e | e
      · refine .inl ?_
        rw [e, List.set_comm _ _ (Ne.symm h)]
        have : (i ∈ j :: vs) ↔ i ∈ vs := by simp [Ne.symm h]
        simp only [this]
      · exact .inr (by rw [e])
theorem wipe_none {σ : St} {i : Nat} : ∀ {vs}, i ∈ vs → (L2.wipe σ vs).set i none = L2.wipe σ vs
  | j :: vs, h => by
    unfold L2.wipe
    by_cases e : j = i
    · subst e; rw [List.set_set]
    · rw [List.set_comm _ _ e, wipe_none ((List.mem_cons.mp h).resolve_left (Ne.symm e))]
theorem wipe_put {σ : St} {i : Nat} {y : Option V} {vs : List Nat} (h : i ∈ vs) : L2.wipe (σ.set i y) vs = L2.wipe σ vs := by
  rcases wipe_set (σ := σ) (i := i) (y := y) vs with e | e
  · rw [e, if_pos h, wipe_none h]
  · exact e
theorem wipe_idem {σ : St} {vs : List Nat} : L2.wipe (L2.wipe σ vs) vs = L2.wipe σ vs := by
  have : ∀ us : List Nat, (∀ i ∈ us, i ∈ vs) → L2.wipe (L2.wipe σ vs) us = L2.wipe σ vs := fun us => by
    induction us with
    | nil => intro _; rfl
    | cons j us ih =>
      intro h
      show (L2.wipe (L2.wipe σ vs) us).set j none = _
      rw [ih fun i hi => h i (List.mem_cons_of_mem _ hi)]
      exact wipe_none (h j (List.mem_cons_self ..))
  exact this vs fun _ h => h
section
variable {X : Cx} {cl : CL} {Wx : WX}
theorem gw_name (i : Nat) {x : Str} {vs : List Nat} {pos : Pos} (hN : X.N.Nodup) (hi : X.N[i]? = some x) (hx : X.env.scope.names.lookup x = some .local) (hv : i ∈ vs := by decide) : PG X (.Name x pos) (RGw X cl vs (gNm i)) :=
  PG.weak (pg_name hN hi (.inl hx) (.inr hx)) fun v σ H Q ⟨W, F, S, sv, v', a, q, e, k⟩ => by
    cases e
    exact k _ (wipe_put hv) (a.put i q)
theorem gws_nil {vs : List Nat} : PGs X [] (RGws X cl vs []) := PGs.weak pgs_nil fun ws σ H Q ⟨W, F, S, svs, v', a, p, e, k⟩ => by
  cases svs with
  | nil => cases p; cases e; exact ⟨rfl, k σ rfl a⟩
  | cons x xs => cases e
theorem gws_cons {vs : List Nat} {te : Expr} {tes : List Expr} {tg : Tg} {tgs : List Tg} (h1 : PG X te (RGw X cl vs tg)) (h2 : PGs X tes (RGws X cl vs tgs)) (hs : (assignEach (te :: tes) X.env).map (·.2) = assign te X.env :: (assignEach tes X.env).map (·.2) := by rfl) : PGs X (te :: tes) (RGws X cl vs (tg :: tgs)) :=
  PGs.weak (pgs_cons h1 h2 hs) fun ws σ H Q ⟨W, F, S, svs, v', a, p, e, k⟩ => by
    cases p with
    | nil => cases e
    | cons q t =>
      unfold gTs at e
      split at e
      · rename_i v1 h
        exact ⟨_, _, rfl, W, F, S, _, v1, a, q, h, fun σ1 w1 a1 => ⟨W, ⟨F.b, v1⟩, S, _, v', a1, t, e, fun σ2 w2 => k σ2 (w2.trans w1)⟩⟩
      · cases e
theorem gw_tup {vs : List Nat} {n : Nat} {es : List Expr} {k : Nat} {tgs : List Tg} {pos : Pos} (hc : X.calm = true) (h : PGs X es (RGws X cl vs tgs)) (hn : (assignEach es X.env).length = n := by rfl) (hst : (assignEach es X.env).findIdx? (·.1) = none := by rfl) : PG X (.Tuple es k pos) (RGw X cl vs (gUn n tgs)) :=
  PG.weak (pg_tup hc h hn hst) fun v σ H Q ⟨W, F, S, sv, v', a, q, e, kk⟩ => by
    unfold gUn at e
    split at e
    · rename_i xs hx
      split at e
      · rename_i hl
        obtain ⟨p, ws, rfl, s1, t1⟩ := tup_rel a.rel hx q
        exact ⟨p, ws, rfl, s1, by rw [← PySem.Paired.length t1]; exact hl, W, F, S, xs, v', a, t1, e, kk⟩
      · cases e
    · cases e
/-! the block's context -/
theorem lookup_keep {env : PySem.Env} {k : NameKind} (hk : k ≠ .free) : ∀ {names : List (Str × NameKind)} {x : Str}, names.lookup x = some k →
    (names.map fun (n, k) => if (k == NameKind.free && env.scope.kind == .function && env.kindOf n == some .cell) then (n, NameKind.cell) else (n, k)).lookup x = some k
  | [], _, h => by simp at h
  | (n, j) :: r, x, h => by
    rw [List.lookup_cons] at h
    simp only [List.map_cons]
    by_cases e : x == n
    · simp only [e] at h
      cases h
      have : (k == NameKind.free) = false := by cases k <;> first | rfl | exact absurd rfl hk
      simp only [this, Bool.false_and, Bool.false_eq_true, if_false, List.lookup_cons, e]
    · simp only [e] at h
      have ih := lookup_keep (env := env) hk h
      split <;> simp only [List.lookup_cons, e] <;> exact ih
theorem lookup_free {env : PySem.Env} : ∀ {names : List (Str × NameKind)} {x : Str}, names.lookup x = some .free →
    (names.map fun (n, k) => if (k == NameKind.free && env.scope.kind == .function && env.kindOf n == some .cell) then (n, NameKind.cell) else (n, k)).lookup x = some .free ∨
    (names.map fun (n, k) => if (k == NameKind.free && env.scope.kind == .function && env.kindOf n == some .cell) then (n, NameKind.cell) else (n, k)).lookup x = some .cell
  | [], _, h => by simp at h
  | (n, j) :: r, x, h => by
    rw [List.lookup_cons] at h
    simp only [List.map_cons]
    by_cases e : x == n
    · simp only [e] at h
      cases h
      split <;> simp [List.lookup_cons, e]
    · simp only [e] at h
      have ih := lookup_free (env := env) h
      split <;> simp only [List.lookup_cons, e] <;> exact ih
variable {s : Shared} {H0 : Hp} {scope : Scope} {C : Addr} {cls : List (Str × Addr)} {fp : List Addr}
abbrev Blk (X : Cx) (s : Shared) (H : Hp) (scope : Scope) (cls : List (Str × Addr)) (C : Addr) (fp : List Addr) : Cx := X.blk s H scope (compEnvC scope cls C X.env) fp
theorem blk_loc {x : Str} (h : scope.names.lookup x = some .local) : (Blk X s H0 scope cls C fp).env.scope.names.lookup x = some .local := lookup_keep (by decide) h
theorem blk_gl {x : Str} (h : scope.names.lookup x = some .globalImplicit) : Gl (Blk X s H0 scope cls C fp) x := lookup_keep (k := .globalImplicit) (by decide) h
theorem blk_vis {x : Str} (h : scope.names.lookup x = some .free) : Vis (Blk X s H0 scope cls C fp).env.scope x := by
  rcases lookup_free (env := X.env) h with e | e
  · exact .inr (.inr e)
  · exact .inr (.inl e)
theorem XOk.blk {k : Nat} (xo : XOk X Wx k) : XOk (Blk X s H0 scope cls C fp) WF k :=
  ⟨xo.hr, fun u s' ⟨a, B, sI, pins, σ, H, cls, d, e, I, nb, up, sky, na, os, ag, w⟩ => w.elim, PassesOwn.never, xo.calm, xo.hu, xo.hu1⟩

def tYs : Fr → Sto → Res Bool := fun _ S => .ok true S
theorem ptv_nil : PTs X [] (RT X cl Wx tYs) := ⟨fun pins s σ H Q I h => pts_nil.run pins s σ H Q I (by
  obtain ⟨W, F, S, a, o⟩ := h
  exact o.here a.rel rfl)⟩
theorem RE.ofN {f : Fr → Sto → Res SV} {g : SV → Sto → Res SV} {W : Wd} {F : Fr} {S : Sto} {σ σ' : St} {H : Hp} {Q Q' : VK} (a : At X.K cl W F S σ' H) (h : Out X.K cl Wx (RSV X.K cl) F.b W S σ ((noX (f F S)).bind g) Q)
    (k : ∀ W1 S1 x v H1, Gr F.b S S1 → Le S.length W W1 → At X.K cl W1 F S1 σ' H1 → RelSV X.K cl W1 S1.length x v → Out X.K cl Wx (RSV X.K cl) F.b W1 S1 σ (g x S1) Q → Q' v H1) : RE X cl WF f σ' H Q' := by
  refine ⟨W, F, S, a, ?_⟩
  cases hr : f F S with
  | ok x S1 =>
    rw [hr] at h
    exact fun W1 H1 v g1 l1 r1 q1 => k W1 S1 x v H1 g1 l1 (a.on g1 l1 r1) q1 (Out.rebase h g1 l1)
  | ex e S1 => rw [hr] at h; exact h.elim
  | bad => rw [hr] at h; exact h.elim
theorem RT.ofN {f : Fr → Sto → Res Bool} {g : Bool → Sto → Res SV} {W : Wd} {F : Fr} {S : Sto} {σ σ' : St} {H : Hp} {Q : VK} {Q' : Bool → Hp → Prop} (a : At X.K cl W F S σ' H) (h : Out X.K cl Wx (RSV X.K cl) F.b W S σ ((noX (f F S)).bind g) Q)
    (k : ∀ W1 S1 x H1, Gr F.b S S1 → Le S.length W W1 → At X.K cl W1 F S1 σ' H1 → Out X.K cl Wx (RSV X.K cl) F.b W1 S1 σ (g x S1) Q → Q' x H1) : RT X cl WF f σ' H Q' := by
  refine ⟨W, F, S, a, ?_⟩
  cases hr : f F S with
  | ok x S1 =>
    rw [hr] at h
    intro W1 H1 v g1 l1 r1 q1
    obtain rfl : v = x := q1
    exact k W1 S1 v H1 g1 l1 (a.on g1 l1 r1) (Out.rebase h g1 l1)
  | ex e S1 => rw [hr] at h; exact h.elim
  | bad => rw [hr] at h; exact h.elim
variable {W W0 : Wd} {F : Fr} {S : Sto} {σ : St} {H : Hp} {D : Addr} {Q : VK} {n0 : Nat} {vs : List Nat} {tg : Tg} {tt : Fr → Sto → Res Bool} {te : Fr → Sto → Res SV} {ve v : Env} {xs : List SV}
/-- what holds ahead of turn i -/
def LcP (X : Cx) (cl : CL) (Wx : WX) (Q : VK) (σ : St) (vs : List Nat) (n0 : Nat) (W0 : Wd) (tg : Tg) (tt : Fr → Sto → Res Bool) (te : Fr → Sto → Res SV) (ve : Env) (xs : List SV) (i : Nat) (H : Hp) : Prop :=
  ∃ W S, n0 < S.length ∧ Le (n0 + 1) W0 W ∧ At X.K (CL.pure cl) W ⟨n0, ve⟩ S (L2.wipe σ vs) H ∧ Out X.K cl Wx (RSV X.K cl) n0 W S σ (lcL tg tt te n0 ve (xs.drop i) S) Q
theorem lcP_turn {i : Nat} {x : V} {sv : SV} (hx : xs[i]? = some sv) (hD : W0.ρ n0 = D) (hq : ∀ W n, Le (n0 + 1) W0 W → n0 < n → RelSV X.K cl W n sv x) (h : LcP X cl Wx Q σ vs n0 W0 tg tt te ve xs i H) :
    RGw X (CL.pure cl) vs tg x (L2.wipe σ vs) H fun σ2 H2 => L2.wipe σ2 vs = L2.wipe σ vs ∧ RT X (CL.pure cl) WF tt σ2 H2 fun b H3 => if b = true then RE X (CL.pure cl) WF te σ2 H3 fun y H4 => ∃ acc, H4 D = some (.lst acc) ∧ acc.length < sizeLine ∧ LcP X cl Wx Q σ vs n0 W0 tg tt te ve xs (i + 1) (upd H4 D (.lst (acc ++ [y]))) else LcP X cl Wx Q σ vs n0 W0 tg tt te ve xs (i + 1) H3 := by
  obtain ⟨W, S, hn, hl, a, o⟩ := h
  have hi := (List.getElem?_eq_some_iff.mp hx).1
  have hd : xs.drop i = sv :: xs.drop (i + 1) := by
    rw [List.drop_eq_getElem_cons hi]
    congr 1
    exact (List.getElem?_eq_some_iff.mp hx).2
  rw [hd] at o
  unfold lcL at o
  have wp : ∀ {W1 : Wd} {S1 : Sto} {v1 : Env} {σ' : St} {H1 : Hp}, L2.wipe σ' vs = L2.wipe σ vs → Le S.length W W1 → S.length ≤ S1.length → At X.K (CL.pure cl) W1 ⟨n0, v1⟩ S1 σ' H1 → At X.K (CL.pure cl) W1 ⟨n0, ve⟩ S1 (L2.wipe σ vs) H1 :=
    fun _ l1 h1 a1 => ⟨a1.b, a1.rel, a.env.le l1 h1, trivial⟩
  cases ht : tg sv ⟨n0, ve⟩ S with
  | none => simp only [ht] at o; exact o.elim
  | some v1 =>
    simp only [ht] at o
    refine ⟨W, ⟨n0, ve⟩, S, sv, v1, a, hq W _ hl hn, ht, fun σ' w' a' => ⟨by rw [w']; exact wipe_idem, ?_⟩⟩
    have w2 : L2.wipe σ' vs = L2.wipe σ vs := by rw [w']; exact wipe_idem
    refine RT.ofN a' o fun W1 S1 c H1 g1 l1 a1 o1 => ?_
    by_cases hc : c = true
    · rw [if_pos hc] at o1 ⊢
      refine RE.ofN a1 o1 fun W2 S2 y yv H2 g2 l2 a2 q2 o2 => ?_
      split at o2
      · rename_i S3 hp
        unfold lcPut at hp
        split at hp
        · rename_i acc ha
          split at hp
          · rename_i hz
            cases hp
            obtain ⟨g0, us, h1, h2⟩ := a2.rel.st n0 _ ha
            have hD2 : W2.ρ n0 = D := by
              rw [l2.r n0 (Nat.lt_of_lt_of_le hn g1.len), l1.r n0 hn, hl.r n0 (Nat.lt_succ_self _), hD]
            rw [hD2] at h1 g0
            refine ⟨us, h1, by rw [← PySem.Paired.length h2]; exact hz, ?_⟩
            have r3 := a2.rel.set ha (ho := .lst (us ++ [yv])) (mo' := .lst (acc ++ [y])) rfl ⟨by rw [hD2]; exact g0, _, by rw [hD2]; exact upd_same, paired_snoc h2 q2⟩
            rw [hD2] at r3
            have g3 : Gr n0 S2 (S2.set n0 (.lst (acc ++ [y]))) := Gr.set fun b' hb' w hi => absurd hi (Nat.not_lt.mpr hb')
            have l12 := l1.trans l2 g1.len
            refine ⟨W2, S2.set n0 (.lst (acc ++ [y])), ?_, hl.trans l12 hn, ?_, Out.rebase o2 g3 (.refl _ _)⟩
            · rw [List.length_set]; exact Nat.lt_of_lt_of_le hn (Nat.le_trans g1.len g2.len)
            · refine ⟨?_, r3, ?_, trivial⟩
              · have := a2.b; rw [List.length_set]; exact this
              · rw [List.length_set]; exact a.env.le l12 (Nat.le_trans g1.len g2.len)
          · cases hp
        · cases hp
      · exact o2.elim
    · rw [if_neg hc] at o1 ⊢
      exact ⟨W1, S1, Nat.lt_of_lt_of_le hn g1.len, hl.trans l1 hn, wp w2 l1 g1.len a1, o1⟩
theorem lcP_start (a : At X.K cl W F S σ H) (hD : H D = none) (o : Out X.K cl Wx (RSV X.K cl) S.length W S σ (lcL tg tt te S.length (wipeE F.v vs) xs (S ++ [.lst []])) Q) :
    LcP X cl Wx Q σ vs S.length (W.add S.length D) tg tt te (wipeE F.v vs) xs 0 (upd H D (.lst [])) := by
  have r1 := a.rel.newM (p := D) (mo := .lst []) (ho := .lst []) hD ⟨a.rel.unone hD, [], upd_same, .nil⟩
  have hl : (S ++ [MO.lst []]).length = S.length + 1 := by rw [List.length_append]; rfl
  refine ⟨_, _, by omega, .refl _ _, ⟨by show S.length ≤ _; omega, r1, ?_, trivial⟩, ?_⟩
  · rw [hl]; exact (EnvR.wipe a.env vs).le (W.add_le _ _) (Nat.le_succ _)
  · exact Out.rebase o (Gr.add _ _ _ (Nat.le_refl _)) (W.add_le _ _)
theorem lcP_end {n : Nat} (hD : W0.ρ n0 = D) (hx : n = xs.length) (h : LcP X cl Wx Q σ vs n0 W0 tg tt te ve xs n H) : Q (.ref D) H := by
  subst hx
  obtain ⟨W, S, hn, hl, a, o⟩ := h
  rw [List.drop_of_length_le (Nat.le_refl _)] at o
  exact o W H _ (.refl _ _) (.refl _ _) a.rel ⟨hn, by rw [hl.r n0 (Nat.lt_succ_self _), hD]⟩
/-- how what was made is handed on -/
structure FiOk (fi : Nat → Res SV → Res SV) : Prop where
  out : ∀ {K : PySem.W.Frag} {cl : Nat → Addr} {Wx : WX} {W : Wd} {S : Sto} {H : Hp} {b : Nat} {σ : St} {r : Res SV} {Q : VK}, Rel K cl W S H → b ≤ S.length → Out K cl Wx (RSV K cl) b W S σ (fi S.length r) Q → Out K cl Wx (RSV K cl) S.length W S σ r Q
theorem fi_fin : FiOk fin := ⟨fin_out⟩
theorem fi_finK : FiOk finK := ⟨finK_out⟩
variable {fi : Nat → Res SV → Res SV} {fe : Fr → Sto → Res SV} {fa : Fr → Sto → Res (List SV)}
theorem lc_itk {d : Addr} {o : Obj} {kvs : List (Key × V)} {g : TG} {tt : TT} {te : TE} {vs : List Nat} {σ : L2.St} {H1 : Hp} {D : Addr} {Qd : Hp → Prop} (Pv : Nat → Hp → Prop) (h0 : Pv 0 (upd H1 D (.lst []))) (hl : ∀ i H, i ≤ kvs.length → Pv i H → H d = some (.frz o (.dK kvs)))
    (hs : ∀ i k v H, kvs[i]? = some (k, v) → Pv i H → g (L2.kV k) (L2.wipe σ vs) H fun σ2 H2 => L2.wipe σ2 vs = L2.wipe σ vs ∧ tt σ2 H2 fun b H3 =>
      if b = true then te σ2 H3 fun y H4 => ∃ acc, H4 D = some (.lst acc) ∧ acc.length < sizeLine ∧ Pv (i + 1) (upd H4 D (.lst (acc ++ [y]))) else Pv (i + 1) H3) (hd : ∀ H, Pv kvs.length H → Qd H) :
    ∃ W : Nat → Nat → Hp → Prop, (∃ m, W 0 m (upd H1 D (.lst []))) ∧ ∀ i m H, W i m H →
      ((Itk d o kvs).stop i H ∧ Qd H) ∨ ((Itk d o kvs).go i H ∧ ∃ Nx : Hp → Prop, (∀ H', Nx H' → ∃ m', m' < m ∧ W (i + 1) m' H') ∧ ∀ x H', (Itk d o kvs).yld i H x H' → g x (L2.wipe σ vs) H' fun σ2 H2 => L2.wipe σ2 vs = L2.wipe σ vs ∧ tt σ2 H2 fun b H3 =>
        if b = true then te σ2 H3 fun y H4 => ∃ acc, H4 D = some (.lst acc) ∧ acc.length < sizeLine ∧ Nx (upd H4 D (.lst (acc ++ [y]))) else Nx H3) := by
  refine ⟨fun i m H => m = kvs.length - i ∧ i ≤ kvs.length ∧ Pv i H, ⟨kvs.length, by simp, Nat.zero_le _, h0⟩, ?_⟩
  rintro i m H ⟨rfl, hi, p⟩
  have q := hl i H hi p
  by_cases hlt : i < kvs.length
  · refine .inr ⟨⟨q, hlt⟩, Pv (i + 1), fun H' p' => ⟨kvs.length - (i + 1), by omega, rfl, hlt, p'⟩, fun x H' y => ?_⟩
    obtain ⟨e, k, v, hk, rfl⟩ := y
    subst e
    exact hs i k v _ hk p
  · have e : i = kvs.length := by omega
    subst e
    exact .inl ⟨⟨q, Nat.le_refl _⟩, hd H p⟩
theorem lc_re (hfi : FiOk fi) (h : RE X cl Wx (eLcW fi vs fe tg tt te) σ H Q) : tLc (iSeq X.K (RE X cl Wx fe)) (RGw X (CL.pure cl) vs tg) (RT X (CL.pure cl) WF tt) (RE X (CL.pure cl) WF te) vs σ H Q := by
  obtain ⟨W, F, S, a, o⟩ := h
  refine RE.of a o fun W1 S1 y v H1 g1 l1 a1 q1 o1 => ?_
  unfold lcS at o1
  split at o1
  · rename_i xs S2 hf
    obtain ⟨n2, w2, k2⟩ := freeze_ok (K := X.K) (cl := cl) hf
    obtain ⟨W2, e2, l2, r2, q2⟩ := k2 W1 H1 v a1.rel q1
    have a2 := a1.on ⟨Nat.le_of_eq n2.symm, fun b _ => w2 b⟩ l2 r2
    have o2 := Out.rebase o1 ⟨Nat.le_of_eq n2.symm, fun b _ => w2 b⟩ l2
    have o3 := hfi.out r2 a2.b o2
    cases q2 with
    | lst h t =>
      refine ⟨_, rfl, .inl ⟨⟨_, SqL.up r2.fz h⟩, fun D hD => ?_⟩⟩
      refine lc_list (xs := _) (LcP X cl Wx Q σ vs S2.length (W2.add S2.length D) tg tt te (wipeE F.v vs) (xs.map .d)) (lcP_start a2 hD o3) (fun i H _ ⟨W, S, hn, hl, a, _⟩ => SqL.up a.rel.fz (SqL.le ((W2.add_le _ _).trans hl (Nat.le_succ _)) h)) (fun i x H hx hP => ?_) fun H hP => ?_
      · obtain ⟨d, hd, rd⟩ := item_of t hx
        exact lcP_turn (sv := .d d) (by rw [List.getElem?_map, hd]; rfl) (Wd.add_at _ _ _) (fun W n hl hn => RelD.le ((W2.add_le _ _).trans hl (Nat.le_succ _)) rd) hP
      · exact lcP_end (Wd.add_at _ _ _) (by rw [List.length_map, t.length]) hP
  · rename_i xs S2 hf
    obtain ⟨n2, w2, k2⟩ := freeze_ok (K := X.K) (cl := cl) hf
    obtain ⟨W2, e2, l2, r2, q2⟩ := k2 W1 H1 v a1.rel q1
    have a2 := a1.on ⟨Nat.le_of_eq n2.symm, fun b _ => w2 b⟩ l2 r2
    have o2 := Out.rebase o1 ⟨Nat.le_of_eq n2.symm, fun b _ => w2 b⟩ l2
    have o3 := hfi.out r2 a2.b o2
    cases q2 with
    | tup h t =>
      refine ⟨_, rfl, .inr (.inl ⟨⟨_, SqT.up r2.fz h⟩, fun D hD => ?_⟩)⟩
      refine lc_tup (xs := _) (LcP X cl Wx Q σ vs S2.length (W2.add S2.length D) tg tt te (wipeE F.v vs) (xs.map .d)) (lcP_start a2 hD o3) (fun i H _ ⟨W, S, hn, hl, a, _⟩ => SqT.up a.rel.fz (SqT.le ((W2.add_le _ _).trans hl (Nat.le_succ _)) h)) (fun i x H hx hP => ?_) fun H hP => ?_
      · obtain ⟨d, hd, rd⟩ := item_of t hx
        exact lcP_turn (sv := .d d) (by rw [List.getElem?_map, hd]; rfl) (Wd.add_at _ _ _) (fun W n hl hn => RelD.le ((W2.add_le _ _).trans hl (Nat.le_succ _)) rd) hP
      · exact lcP_end (Wd.add_at _ _ _) (by rw [List.length_map, t.length]) hP
  · rename_i ks xs S2 hf
    obtain ⟨n2, w2, k2⟩ := freeze_ok (K := X.K) (cl := cl) hf
    obtain ⟨W2, e2, l2, r2, q2⟩ := k2 W1 H1 v a1.rel q1
    have a2 := a1.on ⟨Nat.le_of_eq n2.symm, fun b _ => w2 b⟩ l2 r2
    have o2 := Out.rebase o1 ⟨Nat.le_of_eq n2.symm, fun b _ => w2 b⟩ l2
    have o3 := hfi.out r2 a2.b o2
    cases q2 with
    | @dic ad hob _ _ us h c l t =>
      have lz : (ks.zip us).length = ks.length := by rw [List.length_zip, ← t.length, ← l.1, Nat.min_self]
      have kz : ∀ {i k v}, (ks.zip us)[i]? = some (k, v) → ks[i]? = some k := fun {i k v} e => (List.getElem?_zip_eq_some.mp e).1
      have kk : ∀ {i k} {G : Hp}, ks[i]? = some k → RelD X.K cl G (keyD k) (L2.kV k) := fun {i k G} e => by
        have := List.all_eq_true.mp l.2 k (List.mem_of_getElem? e)
        cases k with
        | inl i => exact .int i
        | inr s => exact .str s this
      have body : ∀ W3 H3 o, W3.G ad = some (.frz o (.dK (ks.zip us))) → At X.K cl W3 F S2 σ H3 → Le S2.length W2 W3 → ∀ D, H3 D = none → ∃ Wn : Nat → Nat → Hp → Prop, (∃ m, Wn 0 m (upd H3 D (.lst []))) ∧ ∀ i m H, Wn i m H →
          ((Itk ad o (ks.zip us)).stop i H ∧ Q (.ref D) H) ∨ ((Itk ad o (ks.zip us)).go i H ∧ ∃ Nx : Hp → Prop, (∀ H', Nx H' → ∃ m', m' < m ∧ Wn (i + 1) m' H') ∧ ∀ x H', (Itk ad o (ks.zip us)).yld i H x H' → RGw X (CL.pure cl) vs tg x (L2.wipe σ vs) H' fun σ2 H2 => L2.wipe σ2 vs = L2.wipe σ vs ∧ RT X (CL.pure cl) WF tt σ2 H2 fun b H3 =>
            if b = true then RE X (CL.pure cl) WF te σ2 H3 fun y H4 => ∃ acc, H4 D = some (.lst acc) ∧ acc.length < sizeLine ∧ Nx (upd H4 D (.lst (acc ++ [y]))) else Nx H3) := by
        intro W3 H3 o g3 a3 l3 D hD
        refine lc_itk (LcP X cl Wx Q σ vs S2.length (W3.add S2.length D) tg tt te (wipeE F.v vs) (ks.map keyS)) (lcP_start a3 hD (Out.rebase o3 (.refl _ _) l3)) (fun i H _ ⟨W, S, hn, hl, a, _⟩ => ?_) (fun i k v H hx hP => ?_) fun H hP => ?_
        · obtain ⟨o', e', s'⟩ := ((W3.add_le _ _).trans hl (Nat.le_succ _)).g _ _ g3
          rcases s' with rfl | ⟨_, _, z, _⟩
          · exact a.rel.fz _ _ e'
          · cases z
        · exact lcP_turn (sv := keyS k) (by rw [List.getElem?_map, kz hx]; rfl) (Wd.add_at _ _ _) (fun W n hl hn => kk (kz hx)) hP
        · exact lcP_end (Wd.add_at _ _ _) (by rw [List.length_map, lz]) hP
      refine ⟨_, rfl, .inr (.inr ?_)⟩
      cases hob <;> first
        | (cases c
           refine .inr ⟨_, r2.fz _ _ h, fun o => ?_⟩
           obtain ⟨r3, l3⟩ := r2.pin h o S2.length
           exact body _ _ o upd_same (a2.on (.refl _ _) l3 r3) l3)
        | (rename_i ob u
           have c' : u = .dK (ks.zip us) := c
           subst c'
           exact .inl ⟨_, ob, r2.fz _ _ h, body W2 H1 ob h a2 (.refl _ _)⟩)
        | (cases c)
  · exact o1.elim
theorem lc_rng {lo : Int} {n : Nat} (hfi : FiOk fi) (a : At X.K cl W F S σ H) (o : Out X.K cl Wx (RSV X.K cl) F.b W S σ (lcAll fi vs tg tt te F.v (rng lo n) S) Q) (D : Addr) (hD : H D = none) :
    ∃ Wn : Nat → Nat → Hp → Prop, (∃ m, Wn 0 m (upd H D (.lst []))) ∧ ∀ i m H, Wn i m H →
      ((Itr lo n).stop i H ∧ Q (.ref D) H) ∨ ((Itr lo n).go i H ∧ ∃ Nx : Hp → Prop, (∀ H', Nx H' → ∃ m', m' < m ∧ Wn (i + 1) m' H') ∧ ∀ x H', (Itr lo n).yld i H x H' → RGw X (CL.pure cl) vs tg x (L2.wipe σ vs) H' fun σ2 H2 => L2.wipe σ2 vs = L2.wipe σ vs ∧ RT X (CL.pure cl) WF tt σ2 H2 fun b H3 =>
        if b = true then RE X (CL.pure cl) WF te σ2 H3 fun y H4 => ∃ acc, H4 D = some (.lst acc) ∧ acc.length < sizeLine ∧ Nx (upd H4 D (.lst (acc ++ [y]))) else Nx H3) := by
  have o3 := hfi.out a.rel a.b o
  refine lc_range (LcP X cl Wx Q σ vs S.length (W.add S.length D) tg tt te (wipeE F.v vs) (rng lo n)) (lcP_start a hD o3) (fun i H hi hP => lcP_turn (rng_at hi) (Wd.add_at _ _ _) (fun _ _ _ _ => RelD.int _) hP) fun H hP => ?_
  exact lcP_end (Wd.add_at _ _ _) (by rw [rng_len]) hP
variable {elt tgt iter ea eb : Expr} {ifs : List Expr} {own : List (Str × Nat)} {pos spos pc p py : Pos} {scope : Scope}
theorem lc_re1 (hfi : FiOk fi) (h : RE X cl Wx (eLcRW fi vs fa tg tt te) σ H Q) : RA X cl Wx fa σ H fun as H1 => ∃ n : Int, as = [.int n] ∧ -4611686018427387904 ≤ n ∧ n < 4611686018427387904 ∧ ∀ D, H1 D = none → ∃ Wn : Nat → Nat → Hp → Prop, (∃ m, Wn 0 m (upd H1 D (.lst []))) ∧ ∀ i m H, Wn i m H →
      ((Itr 0 n.toNat).stop i H ∧ Q (.ref D) H) ∨ ((Itr 0 n.toNat).go i H ∧ ∃ Nx : Hp → Prop, (∀ H', Nx H' → ∃ m', m' < m ∧ Wn (i + 1) m' H') ∧ ∀ x H', (Itr 0 n.toNat).yld i H x H' → RGw X (CL.pure cl) vs tg x (L2.wipe σ vs) H' fun σ2 H2 => L2.wipe σ2 vs = L2.wipe σ vs ∧ RT X (CL.pure cl) WF tt σ2 H2 fun b H3 =>
        if b = true then RE X (CL.pure cl) WF te σ2 H3 fun y H4 => ∃ acc, H4 D = some (.lst acc) ∧ acc.length < sizeLine ∧ Nx (upd H4 D (.lst (acc ++ [y]))) else Nx H3) := by
  obtain ⟨W, F, S, a, o⟩ := h
  refine RA.of a o fun W1 S1 as vs' H1 g1 l1 a1 q1 o1 => ?_
  unfold lcR at o1
  split at o1
  · split at o1
    · rename_i n hn
      simp only [small62, Bool.and_eq_true, decide_eq_true_eq] at hn
      match vs', q1 with
      | [v], .cons q .nil =>
        cases q
        exact ⟨n, rfl, by omega, by omega, fun D hD => lc_rng hfi a1 o1 D hD⟩
    · exact o1.elim
  · exact o1.elim
theorem lc_re2 (hfi : FiOk fi) (h : RE X cl Wx (eLcR2W fi vs fa tg tt te) σ H Q) : RA X cl Wx fa σ H fun as H1 => ∃ m n : Int, as = [.int m, .int n] ∧ (-4611686018427387904 ≤ m ∧ m < 4611686018427387904 ∧ -4611686018427387904 ≤ n ∧ n < 4611686018427387904) ∧ ∀ D, H1 D = none → ∃ Wn : Nat → Nat → Hp → Prop, (∃ m, Wn 0 m (upd H1 D (.lst []))) ∧ ∀ i k H, Wn i k H →
      ((Itr m (n - m).toNat).stop i H ∧ Q (.ref D) H) ∨ ((Itr m (n - m).toNat).go i H ∧ ∃ Nx : Hp → Prop, (∀ H', Nx H' → ∃ m', m' < k ∧ Wn (i + 1) m' H') ∧ ∀ x H', (Itr m (n - m).toNat).yld i H x H' → RGw X (CL.pure cl) vs tg x (L2.wipe σ vs) H' fun σ2 H2 => L2.wipe σ2 vs = L2.wipe σ vs ∧ RT X (CL.pure cl) WF tt σ2 H2 fun b H3 =>
        if b = true then RE X (CL.pure cl) WF te σ2 H3 fun y H4 => ∃ acc, H4 D = some (.lst acc) ∧ acc.length < sizeLine ∧ Nx (upd H4 D (.lst (acc ++ [y]))) else Nx H3) := by
  obtain ⟨W, F, S, a, o⟩ := h
  refine RA.of a o fun W1 S1 as vs' H1 g1 l1 a1 q1 o1 => ?_
  unfold lcR2 at o1
  split at o1
  · split at o1
    · rename_i m n hn
      simp only [small62, Bool.and_eq_true, decide_eq_true_eq] at hn
      match vs', q1 with
      | [v, u], .cons q (.cons q' .nil) =>
        cases q
        cases q'
        exact ⟨m, n, rfl, by omega, fun D hD => lc_rng hfi a1 o1 D hD⟩
    · exact o1.elim
  · exact o1.elim
theorem ev_lc (hfi : FiOk fi) (hc : X.calm = true) (hN : X.N.Nodup) (ok : BlkOk X.N X.env.scope scope own) (hvs : own.map (·.2) = vs := by rfl) (hi : PE X iter (RE X cl Wx fe)) (hg : ∀ (s : Shared) (H : Hp) (C : Addr) (cls : List (Str × Addr)) (fp : List Addr), PG (Blk X s H scope cls C fp) tgt (RGw (Blk X s H scope cls C fp) (CL.pure cl) vs tg)) (ht : ∀ (s : Shared) (H : Hp) (C : Addr) (cls : List (Str × Addr)) (fp : List Addr), PTs (Blk X s H scope cls C fp) ifs (RT (Blk X s H scope cls C fp) (CL.pure cl) WF tt))
    (he : ∀ (s : Shared) (H : Hp) (C : Addr) (cls : List (Str × Addr)) (fp : List Addr), PE (Blk X s H scope cls C fp) elt (RE (Blk X s H scope cls C fp) (CL.pure cl) WF te)) (hs : ∀ x, foldedSetIterable iter X.env x = pure x := by exact fun _ => rfl) :
    PE X (.ListComp elt [⟨tgt, iter, ifs, 0⟩] scope pos) (RE X cl Wx (eLcW fi vs fe tg tt te)) := by
  subst hvs
  exact PE.weak (pe_lc hc hN (pi_seq hi) ok hg ht he hs) fun σ H Q h => lc_re hfi h
theorem sv_setLc (i : Nat) {y : Str} (hfi : FiOk fi) (hc : X.calm = true) (hN : X.N.Nodup) (ok : BlkOk X.N X.env.scope scope own) (hvs : own.map (·.2) = vs := by rfl) (hi : PE X iter (RE X cl Wx fe)) (hy : X.N[i]? = some y) (hyl : X.env.scope.names.lookup y = some .local) (hsw : swapsWith (.ListComp elt [⟨tgt, iter, ifs, 0⟩] scope pos) (some (.Name y py)) spos.line X.env = pure true) (hg : ∀ (s : Shared) (H : Hp) (C : Addr) (cls : List (Str × Addr)) (fp : List Addr), PG (Blk X s H scope cls C fp) tgt (RGw (Blk X s H scope cls C fp) (CL.pure cl) vs tg)) (ht : ∀ (s : Shared) (H : Hp) (C : Addr) (cls : List (Str × Addr)) (fp : List Addr), PTs (Blk X s H scope cls C fp) ifs (RT (Blk X s H scope cls C fp) (CL.pure cl) WF tt))
    (he : ∀ (s : Shared) (H : Hp) (C : Addr) (cls : List (Str × Addr)) (fp : List Addr), PE (Blk X s H scope cls C fp) elt (RE (Blk X s H scope cls C fp) (CL.pure cl) WF te)) (hs : ∀ x, foldedSetIterable iter X.env x = pure x := by exact fun _ => rfl) :
    PS X (.Assign [.Name y py] (.ListComp elt [⟨tgt, iter, ifs, 0⟩] scope pos) spos) (RS X cl Wx (sSet i (eLcW fi vs fe tg tt te))) := by
  subst hvs
  exact PS.weak (ps_setLc hc hN hy hyl hsw (pi_seq hi) ok hg ht he hs) fun D σ H ⟨W, F, S, a, o⟩ => have h := RE.ofS (Q' := fun v H1 => gName i v σ H1 D.nx) a o fun W1 S1 y v H1 g1 l1 a1 q1 o1 => OutS.here o1 (a1.put i q1)
    lc_re hfi h
theorem ev_lcR1 (hfi : FiOk fi) (hc : X.calm = true) (hN : X.N.Nodup) (ok : BlkOk X.N X.env.scope scope own) (hvs : own.map (·.2) = vs := by rfl) (hgl : Gl X "range") (hm : X.mg "range" = none) (ha : PA X [ea] (RA X cl Wx fa)) (hg : ∀ (s : Shared) (H : Hp) (C : Addr) (cls : List (Str × Addr)) (fp : List Addr), PG (Blk X s H scope cls C fp) tgt (RGw (Blk X s H scope cls C fp) (CL.pure cl) vs tg)) (ht : ∀ (s : Shared) (H : Hp) (C : Addr) (cls : List (Str × Addr)) (fp : List Addr), PTs (Blk X s H scope cls C fp) ifs (RT (Blk X s H scope cls C fp) (CL.pure cl) WF tt))
    (he : ∀ (s : Shared) (H : Hp) (C : Addr) (cls : List (Str × Addr)) (fp : List Addr), PE (Blk X s H scope cls C fp) elt (RE (Blk X s H scope cls C fp) (CL.pure cl) WF te)) (hs : starEach [ea] X.env = [(false, eval ea X.env)] := by rfl) :
    PE X (.ListComp elt [⟨tgt, (.Call (.Name "range" p) [ea] [] pc), ifs, 0⟩] scope pos) (RE X cl Wx (eLcRW fi vs fa tg tt te)) := by
  subst hvs
  exact PE.weak (pe_lc hc hN (pi_range1 hgl hm ha hs) ok hg ht he) fun σ H Q h => lc_re1 hfi h
theorem sv_setLcR1 (i : Nat) {y : Str} (hfi : FiOk fi) (hc : X.calm = true) (hN : X.N.Nodup) (ok : BlkOk X.N X.env.scope scope own) (hvs : own.map (·.2) = vs := by rfl) (hgl : Gl X "range") (hm : X.mg "range" = none) (ha : PA X [ea] (RA X cl Wx fa)) (hy : X.N[i]? = some y) (hyl : X.env.scope.names.lookup y = some .local) (hsw : swapsWith (.ListComp elt [⟨tgt, (.Call (.Name "range" p) [ea] [] pc), ifs, 0⟩] scope pos) (some (.Name y py)) spos.line X.env = pure true) (hg : ∀ (s : Shared) (H : Hp) (C : Addr) (cls : List (Str × Addr)) (fp : List Addr), PG (Blk X s H scope cls C fp) tgt (RGw (Blk X s H scope cls C fp) (CL.pure cl) vs tg)) (ht : ∀ (s : Shared) (H : Hp) (C : Addr) (cls : List (Str × Addr)) (fp : List Addr), PTs (Blk X s H scope cls C fp) ifs (RT (Blk X s H scope cls C fp) (CL.pure cl) WF tt))
    (he : ∀ (s : Shared) (H : Hp) (C : Addr) (cls : List (Str × Addr)) (fp : List Addr), PE (Blk X s H scope cls C fp) elt (RE (Blk X s H scope cls C fp) (CL.pure cl) WF te)) (hs : starEach [ea] X.env = [(false, eval ea X.env)] := by rfl) :
    PS X (.Assign [.Name y py] (.ListComp elt [⟨tgt, (.Call (.Name "range" p) [ea] [] pc), ifs, 0⟩] scope pos) spos) (RS X cl Wx (sSet i (eLcRW fi vs fa tg tt te))) := by
  subst hvs
  exact PS.weak (ps_setLc hc hN hy hyl hsw (pi_range1 hgl hm ha hs) ok hg ht he) fun D σ H ⟨W, F, S, a, o⟩ => have h := RE.ofS (Q' := fun v H1 => gName i v σ H1 D.nx) a o fun W1 S1 y v H1 g1 l1 a1 q1 o1 => OutS.here o1 (a1.put i q1)
    lc_re1 hfi h
theorem ev_lcR2 (hfi : FiOk fi) (hc : X.calm = true) (hN : X.N.Nodup) (ok : BlkOk X.N X.env.scope scope own) (hvs : own.map (·.2) = vs := by rfl) (hgl : Gl X "range") (hm : X.mg "range" = none) (ha : PA X [ea, eb] (RA X cl Wx fa)) (hg : ∀ (s : Shared) (H : Hp) (C : Addr) (cls : List (Str × Addr)) (fp : List Addr), PG (Blk X s H scope cls C fp) tgt (RGw (Blk X s H scope cls C fp) (CL.pure cl) vs tg)) (ht : ∀ (s : Shared) (H : Hp) (C : Addr) (cls : List (Str × Addr)) (fp : List Addr), PTs (Blk X s H scope cls C fp) ifs (RT (Blk X s H scope cls C fp) (CL.pure cl) WF tt))
    (he : ∀ (s : Shared) (H : Hp) (C : Addr) (cls : List (Str × Addr)) (fp : List Addr), PE (Blk X s H scope cls C fp) elt (RE (Blk X s H scope cls C fp) (CL.pure cl) WF te)) (hs : starEach [ea, eb] X.env = [(false, eval ea X.env), (false, eval eb X.env)] := by rfl) (hs2 : starEach [eb] X.env = [(false, eval eb X.env)] := by rfl) :
    PE X (.ListComp elt [⟨tgt, (.Call (.Name "range" p) [ea, eb] [] pc), ifs, 0⟩] scope pos) (RE X cl Wx (eLcR2W fi vs fa tg tt te)) := by
  subst hvs
  exact PE.weak (pe_lc hc hN (pi_range2 hgl hm ha hs hs2) ok hg ht he) fun σ H Q h => lc_re2 hfi h
theorem sv_setLcR2 (i : Nat) {y : Str} (hfi : FiOk fi) (hc : X.calm = true) (hN : X.N.Nodup) (ok : BlkOk X.N X.env.scope scope own) (hvs : own.map (·.2) = vs := by rfl) (hgl : Gl X "range") (hm : X.mg "range" = none) (ha : PA X [ea, eb] (RA X cl Wx fa)) (hy : X.N[i]? = some y) (hyl : X.env.scope.names.lookup y = some .local) (hsw : swapsWith (.ListComp elt [⟨tgt, (.Call (.Name "range" p) [ea, eb] [] pc), ifs, 0⟩] scope pos) (some (.Name y py)) spos.line X.env = pure true) (hg : ∀ (s : Shared) (H : Hp) (C : Addr) (cls : List (Str × Addr)) (fp : List Addr), PG (Blk X s H scope cls C fp) tgt (RGw (Blk X s H scope cls C fp) (CL.pure cl) vs tg)) (ht : ∀ (s : Shared) (H : Hp) (C : Addr) (cls : List (Str × Addr)) (fp : List Addr), PTs (Blk X s H scope cls C fp) ifs (RT (Blk X s H scope cls C fp) (CL.pure cl) WF tt))
    (he : ∀ (s : Shared) (H : Hp) (C : Addr) (cls : List (Str × Addr)) (fp : List Addr), PE (Blk X s H scope cls C fp) elt (RE (Blk X s H scope cls C fp) (CL.pure cl) WF te)) (hs : starEach [ea, eb] X.env = [(false, eval ea X.env), (false, eval eb X.env)] := by rfl) (hs2 : starEach [eb] X.env = [(false, eval eb X.env)] := by rfl) :
    PS X (.Assign [.Name y py] (.ListComp elt [⟨tgt, (.Call (.Name "range" p) [ea, eb] [] pc), ifs, 0⟩] scope pos) spos) (RS X cl Wx (sSet i (eLcR2W fi vs fa tg tt te))) := by
  subst hvs
  exact PS.weak (ps_setLc hc hN hy hyl hsw (pi_range2 hgl hm ha hs hs2) ok hg ht he) fun D σ H ⟨W, F, S, a, o⟩ => have h := RE.ofS (Q' := fun v H1 => gName i v σ H1 D.nx) a o fun W1 S1 y v H1 g1 l1 a1 q1 o1 => OutS.here o1 (a1.put i q1)
    lc_re2 hfi h
end
end Ev

set_option Elab.async false
set_option linter.all false
set_option maxRecDepth 100000
/-! Ev14: great products, signs, truth; how comprehensions are reckoned. -/
namespace Ev
open PySem L2
section
variable {X : Cx} {cl : CL} {Wx : WX} {a : Expr} {fe : Fr → Sto → Res SV} {pos : Pos} {W : Wd} {S : Sto} {H : Hp}
def wide (i : Int) : Bool := decide (i.natAbs < 2 ^ 16384)
abbrev opMulX := opInt (fun i j => big64 i || big64 j || (wide i && wide j)) fun i j => .int (i * j)
theorem ov_mulX : OpR X (binaryOp .Mult) (ROp X cl opMulX) := OpR.weak (OpR.or (ov_mul (cl := cl)) (ov_int (cl := cl) (C := fun i j => wide i && wide j) op_mulX (fun i j h => by
  simp only [wide, Bool.and_eq_true, decide_eq_true_eq] at h
  exact mulx_ok h.1 h.2 (by decide)) fun _ _ _ i j => .int _)) fun x y H Q ⟨W, S, a, b, z, r, ra, rb, e, k⟩ => by
    unfold opMulX opInt at e
    split at e
    · rename_i i j ea eb
      split at e
      · rename_i h
        cases e
        by_cases h2 : (big64 i || big64 j) = true
        · exact .inl ⟨W, S, a, b, _, r, ra, rb, by unfold opMul opInt; simp only [ea, eb]; rw [if_pos h2], k⟩
        · refine .inr ⟨W, S, a, b, _, r, ra, rb, ?_, k⟩
          unfold opInt
          simp only [ea, eb]
          rw [if_pos]
          have h3 : (big64 i || big64 j || (wide i && wide j)) = true := h
          rw [Bool.or_eq_true] at h3
          exact h3.resolve_left h2
      · cases e
    · cases e
def eNeg (fe : Fr → Sto → Res SV) : Fr → Sto → Res SV := fun F S => (fe F S).bind fun x S1 => match view S1 x with
  | some (.int i) => .ok (.d (.int (-i))) S1
  | _ => .bad
theorem ev_neg (he : PE X a (RE X cl Wx fe)) : PE X (.UnaryOp .USub a pos) (RE X cl Wx (eNeg fe)) :=
  PE.weak (pe_un un_neg he) fun σ H Q ⟨W, F, S, a, o⟩ => RE.of a o fun W1 S1 x v H1 g1 l1 a1 q1 o1 => by
    split at o1
    · rename_i i e
      exact ⟨i, view_int a1.rel e q1, o1.here a1.rel (RelD.int _)⟩
    · exact o1.elim
def truS (S : Sto) : SV → Option Bool
  | .d .non => some false
  | .d (.bl b) => some b
  | .d (.int i) => some (i != 0)
  | .d (.lst xs) => some (!xs.isEmpty)
  | .d (.tup xs) => some (!xs.isEmpty)
  | .m i => match S[i]? with
    | some (.lst xs) => some (!xs.isEmpty)
    | _ => none
  | _ => none
theorem paired_empty {α β : Type} {R : α → β → Prop} {xs : List α} {ys : List β} (h : Paired R xs ys) : ys.isEmpty = xs.isEmpty := by cases h <;> rfl
theorem truS_rel {K : PySem.W.Frag} (r : Rel K cl W S H) {x : SV} {v : V} {c : Bool} (e : truS S x = some c) (q : RelSV K cl W S.length x v) : TruV K v H c := by
  cases x with
  | d y =>
    cases y <;> first | (cases e; done) | skip
    · cases e; cases q; rfl
    · cases e; cases q; rfl
    · cases e; cases q; rfl
    · cases e; cases q with
      | tup h t => exact .inr (.inl ⟨_, SqT.up r.fz h, by rw [paired_empty t.paired]⟩)
    · cases e; cases q with
      | lst h t => exact .inl ⟨_, SqL.up r.fz h, by rw [paired_empty t.paired]⟩
  | m i =>
    obtain ⟨_, rfl⟩ := q
    simp only [truS] at e
    split at e
    · rename_i xs hx
      cases e
      obtain ⟨_, vs, h1, h2⟩ := r.st i _ hx
      exact .inl ⟨vs, SqL.of h1, by rw [paired_empty h2]⟩
    · cases e
def tTr (fe : Fr → Sto → Res SV) : Fr → Sto → Res Bool := fun F S => (fe F S).bind fun x S1 => match truS S1 x with
  | some c => .ok c S1
  | none => .bad
theorem tv_truth (he : PE X a (RE X cl Wx fe)) (hh : ∀ whole, isTrue a X.env whole = (do let v ← whole; standAt a.pos; holding [v] (truthy v)) := by exact fun _ => rfl) : PT X a (RT X cl Wx (tTr fe)) :=
  ⟨fun pins s σ H Q I h => (pt_truth he hh).run pins s σ H Q I (by
    obtain ⟨W, F, S, a, o⟩ := h
    refine RE.ofT a o fun W1 S1 x v H1 g1 l1 a1 q1 o1 => ?_
    split at o1
    · rename_i c e
      exact ⟨c, truS_rel a1.rel e q1, o1.here a1.rel rfl⟩
    · exact o1.elim)⟩
end
theorem tk_F {X : Cx} : L2N.Takes X WF := fun u s' ⟨a, B, sI, pins, σ, H, cls, d, e, I, nb, up, sky, na, os, ag, w⟩ => w.elim
/-! ### how they are reckoned -/
def negR : Option Dv → Sto → Res SV
  | some (.int i), S => .ok (.d (.int (-i))) S
  | _, _ => .bad
@[simp] theorem negR_i (i : Int) (S : Sto) : negR (some (.int i)) S = .ok (.d (.int (-i))) S := Eq.trans rfl rfl
def kNeg (r : Res SV) : Res SV := r.bind fun x S1 => negR (view S1 x) S1
@[simp] theorem kNeg_ok (x : SV) (S1 : Sto) : kNeg (.ok x S1) = negR (view S1 x) S1 := Eq.trans rfl rfl
@[simp] theorem eNeg_ap (f : Fr → Sto → Res SV) (F : Fr) (S : Sto) : eNeg f F S = kNeg (f F S) := by
  show (f F S).bind _ = (f F S).bind _
  congr 1
  funext x S1
  cases view S1 x with
  | none => rfl
  | some y => cases y <;> rfl
def truR : Option Bool → Sto → Res Bool
  | some c, S => .ok c S
  | none, _ => .bad
@[simp] theorem truR_s (c : Bool) (S : Sto) : truR (some c) S = .ok c S := Eq.trans rfl rfl
def kTr (r : Res SV) : Res Bool := r.bind fun x S1 => truR (truS S1 x) S1
@[simp] theorem kTr_ok (x : SV) (S1 : Sto) : kTr (.ok x S1) = truR (truS S1 x) S1 := Eq.trans rfl rfl
@[simp] theorem tTr_ap (f : Fr → Sto → Res SV) (F : Fr) (S : Sto) : tTr f F S = kTr (f F S) := by
  show (f F S).bind _ = (f F S).bind _
  congr 1
  funext x S1
  cases truS S1 x <;> rfl
@[simp] theorem truS_bl (S : Sto) (b : Bool) : truS S (.d (.bl b)) = some b := Eq.trans rfl rfl
@[simp] theorem truS_non (S : Sto) : truS S (.d .non) = some false := Eq.trans rfl rfl
@[simp] theorem truS_int (S : Sto) (i : Int) : truS S (.d (.int i)) = some (i != 0) := Eq.trans rfl rfl
@[simp] theorem truS_lst (S : Sto) (i : List Dv) : truS S (.d (.lst i)) = some (!i.isEmpty) := Eq.trans rfl rfl
@[simp] theorem truS_tup (S : Sto) (i : List Dv) : truS S (.d (.tup i)) = some (!i.isEmpty) := Eq.trans rfl rfl
def kLc (fi : Nat → Res SV → Res SV) (vs : List Nat) (tg : Tg) (tt : Fr → Sto → Res Bool) (te : Fr → Sto → Res SV) (v : Env) (r : Res SV) : Res SV := r.bind fun x S1 => lcS fi vs tg tt te v (freeze S1 x)
@[simp] theorem kLc_ok (fi : Nat → Res SV → Res SV) (vs : List Nat) (tg : Tg) (tt : Fr → Sto → Res Bool) (te : Fr → Sto → Res SV) (v : Env) (x : SV) (S1 : Sto) : kLc fi vs tg tt te v (.ok x S1) = lcS fi vs tg tt te v (freeze S1 x) := Eq.trans rfl rfl
@[simp] theorem eLcW_ap (fi : Nat → Res SV → Res SV) (vs : List Nat) (fe : Fr → Sto → Res SV) (tg : Tg) (tt : Fr → Sto → Res Bool) (te : Fr → Sto → Res SV) (F : Fr) (S : Sto) : eLcW fi vs fe tg tt te F S = kLc fi vs tg tt te F.v (fe F S) := Eq.trans rfl rfl
@[simp] theorem lcS_l (fi : Nat → Res SV → Res SV) (vs : List Nat) (tg : Tg) (tt : Fr → Sto → Res Bool) (te : Fr → Sto → Res SV) (v : Env) (xs : List Dv) (S : Sto) : lcS fi vs tg tt te v (some (.lst xs, S)) = lcAll fi vs tg tt te v (xs.map .d) S := Eq.trans rfl rfl
@[simp] theorem lcS_d (fi : Nat → Res SV → Res SV) (vs : List Nat) (tg : Tg) (tt : Fr → Sto → Res Bool) (te : Fr → Sto → Res SV) (v : Env) (ks : List Key) (xs : List Dv) (S : Sto) : lcS fi vs tg tt te v (some (.dic ks xs, S)) = lcAll fi vs tg tt te v (ks.map keyS) S := Eq.trans rfl rfl
@[simp] theorem lcS_t (fi : Nat → Res SV → Res SV) (vs : List Nat) (tg : Tg) (tt : Fr → Sto → Res Bool) (te : Fr → Sto → Res SV) (v : Env) (xs : List Dv) (S : Sto) : lcS fi vs tg tt te v (some (.tup xs, S)) = lcAll fi vs tg tt te v (xs.map .d) S := Eq.trans rfl rfl
def kLcR (fi : Nat → Res SV → Res SV) (vs : List Nat) (tg : Tg) (tt : Fr → Sto → Res Bool) (te : Fr → Sto → Res SV) (v : Env) (r : Res (List SV)) : Res SV := r.bind fun as S1 => lcR fi vs tg tt te v S1 as
@[simp] theorem kLcR_ok (fi : Nat → Res SV → Res SV) (vs : List Nat) (tg : Tg) (tt : Fr → Sto → Res Bool) (te : Fr → Sto → Res SV) (v : Env) (as : List SV) (S1 : Sto) : kLcR fi vs tg tt te v (.ok as S1) = lcR fi vs tg tt te v S1 as := Eq.trans rfl rfl
@[simp] theorem eLcRW_ap (fi : Nat → Res SV → Res SV) (vs : List Nat) (fa : Fr → Sto → Res (List SV)) (tg : Tg) (tt : Fr → Sto → Res Bool) (te : Fr → Sto → Res SV) (F : Fr) (S : Sto) : eLcRW fi vs fa tg tt te F S = kLcR fi vs tg tt te F.v (fa F S) := Eq.trans rfl rfl
@[simp] theorem lcR_i (fi : Nat → Res SV → Res SV) (vs : List Nat) (tg : Tg) (tt : Fr → Sto → Res Bool) (te : Fr → Sto → Res SV) (v : Env) (S : Sto) (n : Int) : lcR fi vs tg tt te v S [.d (.int n)] = if small62 n = true then lcAll fi vs tg tt te v (rng 0 n.toNat) S else .bad := Eq.trans rfl rfl
def kLcR2 (fi : Nat → Res SV → Res SV) (vs : List Nat) (tg : Tg) (tt : Fr → Sto → Res Bool) (te : Fr → Sto → Res SV) (v : Env) (r : Res (List SV)) : Res SV := r.bind fun as S1 => lcR2 fi vs tg tt te v S1 as
@[simp] theorem kLcR2_ok (fi : Nat → Res SV → Res SV) (vs : List Nat) (tg : Tg) (tt : Fr → Sto → Res Bool) (te : Fr → Sto → Res SV) (v : Env) (as : List SV) (S1 : Sto) : kLcR2 fi vs tg tt te v (.ok as S1) = lcR2 fi vs tg tt te v S1 as := Eq.trans rfl rfl
@[simp] theorem eLcR2W_ap (fi : Nat → Res SV → Res SV) (vs : List Nat) (fa : Fr → Sto → Res (List SV)) (tg : Tg) (tt : Fr → Sto → Res Bool) (te : Fr → Sto → Res SV) (F : Fr) (S : Sto) : eLcR2W fi vs fa tg tt te F S = kLcR2 fi vs tg tt te F.v (fa F S) := Eq.trans rfl rfl
@[simp] theorem lcR2_i (fi : Nat → Res SV → Res SV) (vs : List Nat) (tg : Tg) (tt : Fr → Sto → Res Bool) (te : Fr → Sto → Res SV) (v : Env) (S : Sto) (m n : Int) : lcR2 fi vs tg tt te v S [.d (.int m), .d (.int n)] = if (small62 m && small62 n) = true then lcAll fi vs tg tt te v (rng m (n - m).toNat) S else .bad := Eq.trans rfl rfl
@[simp] theorem tYs_ap (F : Fr) (S : Sto) : tYs F S = .ok true S := Eq.trans rfl rfl
@[simp] theorem wipeE_nil (v : Env) : wipeE v [] = v := Eq.trans rfl rfl
@[simp] theorem wipeE_cons (v : Env) (i : Nat) (r : List Nat) : wipeE v (i :: r) = (wipeE v r).set i none := Eq.trans rfl rfl
/-- elements that are reckoned without a change of the store -/
theorem lcL_pure {tg : Tg} {te : Fr → Sto → Res SV} {b : Nat} {ve : Env} (f : SV → Dv) {B : Sto} (hb : B.length = b) : ∀ (xs : List SV) (acc : List Dv), acc.length + xs.length ≤ most →
    (∀ x ∈ xs, ∀ zs, ∃ v1, tg x ⟨b, ve⟩ (B ++ [.lst zs]) = some v1 ∧ te ⟨b, v1⟩ (B ++ [.lst zs]) = .ok (.d (f x)) (B ++ [.lst zs])) →
    lcL tg tYs te b ve xs (B ++ [.lst (acc.map .d)]) = .ok (.m b) (B ++ [.lst ((acc ++ xs.map f).map .d)])
  | [], acc, _, _ => by simp [lcL]
  | x :: r, acc, hl, h => by
    obtain ⟨v1, h1, h2⟩ := h x (List.mem_cons_self ..) (acc.map .d)
    simp only [List.length_cons] at hl
    have ih := lcL_pure (te := te) (tg := tg) (ve := ve) f hb r (acc ++ [f x]) (by simp; omega) fun y hy zs => h y (List.mem_cons_of_mem _ hy) zs
    unfold lcL
    have hg : (B ++ [MO.lst (acc.map SV.d)])[b]? = some (.lst (acc.map .d)) := by subst hb; simp
    simp only [h1, tYs_ap, noX_ok, Res.bind_ok, h2, if_true, hg, lcPut, List.length_map]
    rw [if_pos (by omega)]
    simp only
    have hs : (B ++ [MO.lst (acc.map SV.d)]).set b (.lst (acc.map .d ++ [.d (f x)])) = B ++ [.lst ((acc ++ [f x]).map .d)] := by subst hb; simp
    rw [hs, ih]
    simp
theorem lcAll_pure {tg : Tg} {te : Fr → Sto → Res SV} {vs : List Nat} {v : Env} {S : Sto} {xs : List SV} (f : SV → Dv) (hl : xs.length ≤ most)
    (h : ∀ x ∈ xs, ∀ zs, ∃ v1, tg x ⟨S.length, wipeE v vs⟩ (S ++ [.lst zs]) = some v1 ∧ te ⟨S.length, v1⟩ (S ++ [.lst zs]) = .ok (.d (f x)) (S ++ [.lst zs])) :
    lcAll fin vs tg tYs te v xs S = .ok (.d (.lst (xs.map f))) S := by
  unfold lcAll
  have e := lcL_pure (te := te) (tg := tg) (ve := wipeE v vs) f (B := S) rfl xs [] (by simpa using hl) h
  simp only [List.map_nil, List.nil_append] at e
  rw [e]
  unfold fin
  have q : freeze (S ++ [MO.lst ((xs.map f).map SV.d)]) (SV.m S.length) = _ := freeze_lst (xs := xs.map f) (by simp)
  simp only [q]
  congr 1
  simp
@[simp] theorem instOf_lst (S : Sto) (xs : List Dv) : instOf S (.d (.lst xs)) = none := Eq.trans rfl rfl
@[simp] theorem instOf_tup (S : Sto) (xs : List Dv) : instOf S (.d (.tup xs)) = none := Eq.trans rfl rfl
@[simp] theorem instOf_str (S : Sto) (x : Str) : instOf S (.d (.str x)) = none := Eq.trans rfl rfl
@[simp] theorem opAdd_ll (S : Sto) (xs ys : List Dv) : opAdd S (.d (.lst xs)) (.d (.lst ys)) = if xs.length + ys.length ≤ most then some (.lst (xs ++ ys)) else none := Eq.trans rfl rfl
@[simp] theorem opAdd_tt (S : Sto) (xs ys : List Dv) : opAdd S (.d (.tup xs)) (.d (.tup ys)) = if xs.length + ys.length ≤ most then some (.tup (xs ++ ys)) else none := Eq.trans rfl rfl
@[simp] theorem opAdd_ss (S : Sto) (xs ys : Str) : opAdd S (.d (.str xs)) (.d (.str ys)) = if xs.length + ys.length ≤ most then some (.str (xs ++ ys)) else none := Eq.trans rfl rfl
end Ev

set_option Elab.async false
set_option linter.all false
set_option maxRecDepth 100000
set_option maxHeartbeats 1000000
/-! Ev15: own errors: made, raised, caught, looked at. -/
namespace Ev
open PySem L2
/-- what the base class of the errors says: Base.__init__(self, ..) is ValueError's -/
structure BaseC (K : PySem.W.Frag) (CH : Addr) : Prop where
  sp : PySem.W.specialIn K (.ref CH) "__getattribute__" = some (some (.builtin "type.__getattribute__"))
  rd : PySem.W.readsIn K CH (.type "type") = true
  ini : PySem.W.findCls K (.ref CH) (.type "type") "__init__" = some (.val (.builtin "ValueError.__init__"))
section
variable {X : Cx} {e : Expr} {es : List Expr} {ta : TA} {CH : Addr} {x : Str} {p1 p2 pos : Pos}
theorem pe_baseInit {pl : Sem Bool} (B : BaseC X.K CH) (hg : Gl X x) (hm : X.mg x = some (.ref CH)) (ha : PA X (e :: es) ta) (hdb : (x == ("__debug__" : Str)) = false := by decide +kernel)
    (hc : eval (.Call (.Attribute (.Name x p1) "__init__" p2) (e :: es) [] pos) X.env = (do
      let ov ← eval (.Name x p1) X.env
      standAt p2.atName
      let (f, first) ← holding [ov] (getMethod ov "__init__" pl)
      callWith pos f first (backTo pos (starEach (e :: es) X.env)) (backToKw pos (keywordEach [] X.env))) := by rfl)
    (he : starEach (e :: es) X.env = (false, eval e X.env) :: starEach es X.env := by rfl) (hpl : (backTo pos (starEach es X.env)).any (·.1) = false := by rfl) :
    PE X (.Call (.Attribute (.Name x p1) "__init__" p2) (e :: es) [] pos) (tVeI X.K ta) := by
  constructor
  intro pins s σ H Q I h
  refine PySem.W.methodCall_KW (ld_glob I hg hm ?_ hdb) hc
  refine PySem.W.method_cls I.kIn B.sp (PySem.W.cls_value I.kIn B.rd B.ini (by decide +kernel) ?_)
  have I' := I.tok (s.toks + 1)
  refine PyProof.Rows.callWith_method1 (thn (ha.run pos pins _ σ H _ I' h) fun us s1 ⟨vs, H1, I1, r1, a, C, ws, ev, hl, T, ea, q⟩ => ?_) he hpl
  subst ev
  match us, r1 with
  | u0 :: ur, .cons ra rr =>
    obtain rfl : u0 = Value.ref a := ra
    have hlen : ur.length ≤ sizeLine := by
      have := Paired.length rr
      have := sizeLine_eq
      omega
    exact oinit_ok T I1 ea hlen fun s' J => ⟨.non, H1, J, rfl, q⟩
end
/-! ### __init__ of an error -/
def tSts (K : PySem.W.Frag) : List (Str × Nat) → TS
  | [] => tNext
  | q :: r => tSeq (tOst K q.1 (tVar 0) (tVar q.2)) (tSts K r)
/-- an error's __init__: it keeps its arguments in the fields -/
def SpI (C : Addr) (fs : List Str) : Sp := fun vs H Q _ => ∃ a ws, vs = .ref a :: ws ∧ H a = some (exo a C none) ∧ ws.length = fs.length ∧
  ∀ d H2, H d = none → d ≠ a → H2 a = some (exo a C (some d)) → H2 d = some (exd d (fs.zip ws).reverse) → (∀ b, b ≠ a → b ≠ d → H2 b = H b) → Q .non H2
theorem sts_ok {K : PySem.W.Frag} {C a d : Addr} (T : OexC K C) {D : Ends} {σ : St} (had : d ≠ a) (h0 : σ[0]? = some (some (V.ref a))) : ∀ (l : List (Str × Nat)) (ws : List V) (gs : List (Str × V)) (H : Hp), l.length = ws.length → gs.length + l.length ≤ 900 → (∀ p ∈ l, PySem.W.findIn K (.ref C) p.1 = some none) →
    (∀ (j : Nat) (p : Str × Nat) (w : V), l[j]? = some p → ws[j]? = some w → σ[p.2]? = some (some w)) → H a = some (exo a C (some d)) → H d = some (exd d gs) →
    (∀ H', H' a = H a → H' d = some (exd d (((l.map (·.1)).zip ws).reverse ++ gs)) → (∀ b, b ≠ d → H' b = H b) → D.nx σ H') → tSts K l D σ H
  | [], [], gs, H, _, _, _, _, ha, hd, k => k H rfl (by simpa using hd) fun _ _ => rfl
  | q :: r, w :: ws, gs, H, hl, hz, hf, hw, ha, hd, k => by
    simp only [List.length_cons] at hl hz
    refine ⟨w, hw 0 q w rfl rfl, .ref a, h0, a, C, rfl, T, hf q (List.mem_cons_self ..), .inr ⟨d, gs, ha, hd, by omega, ?_⟩⟩
    refine sts_ok T had h0 r ws ((q.1, w) :: gs) _ (by omega) (by simp only [List.length_cons]; omega) (fun p hp => hf p (List.mem_cons_of_mem _ hp)) (fun j p w' h1 h2 => hw (j + 1) p w' h1 h2) ?_ upd_same fun H' e1 e2 e3 => ?_
    · rw [upd_ne (Ne.symm had)]; exact ha
    · refine k H' ?_ ?_ fun b hb => ?_
      · rw [e1, upd_ne (Ne.symm had)]
      · rw [e2]
        simp
      · rw [e3 b hb, upd_ne hb]
theorem ini_ok {P : Program} {w : World} {K : PySem.W.Frag} {mg : Str → Option Value} {base : Heap} {x qual : Str} {st : Stmt} {f C : Addr} {fd : FuncData} {N ps : List Str} {k : Nat} (Fu : Fun K x qual st f fd) (Sc : FnScope N ps (defScope st)) (T : OexC K C) (fs : List Str) (txt : Str)
    (hp : ps.length = fs.length + 1) (h0 : 0 < fs.length) (hz : fs.length ≤ 900) (hf : ∀ g ∈ fs, PySem.W.findIn K (.ref C) g = some none)
    (hbody : ∀ (cdv : Value) (A : Around) (outer : List PySem.Env) (s : Shared) (H : Hp) (E : XK), Room k (cxOf (L2N.CX P w) P w K mg base N qual (defScope st) f cdv A outer s H E).A →
      PSs (cxOf (L2N.CX P w) P w K mg base N qual (defScope st) f cdv A outer s H E) (defBody st) (tSeq (tDrop (tVeI K (tCons (tVar 0) (tCons (tC (.str txt)) tNil)))) (tSts K (fs.zipIdx 1)))) :
    FnOk P w K mg base (L2N.CX P w) (k + 1) f fd ps (SpI C fs) := by
  refine okN Fu Sc (fun vs H Q E ⟨a, ws, e, _, hl, _⟩ => ?_) fun cdv A outer s H vs Q E hr ⟨a, ws, e, ha, hl, q⟩ => ⟨_, hbody cdv A outer s H E hr, ?_⟩
  · rw [e, List.length_cons, hl, hp]
  · subst e
    have g0 : (L2.start N (V.ref a :: ws))[0]? = some (some (V.ref a)) := rfl
    have gi : ∀ (j : Nat) (v : V), ws[j]? = some v → (L2.start N (V.ref a :: ws))[j + 1]? = some (some v) := fun j v h => by
      unfold L2.start
      have hj := (List.getElem?_eq_some_iff.mp h).1
      rw [List.getElem?_append_left (by simp; omega), List.getElem?_map, List.getElem?_cons_succ, h]
      rfl
    refine ⟨_, g0, a, C, _, rfl, by simp, T, ha, ?_⟩
    match fs, ws, hl, h0 with
    | g :: gs, v :: vs, hl, _ =>
      simp only [List.length_cons] at hl hz
      refine ⟨v, gi 0 v rfl, .ref a, g0, a, C, rfl, T, hf g (List.mem_cons_self ..), .inl ⟨ha, fun d hd hda => ?_⟩⟩
      refine sts_ok T hda g0 (gs.zipIdx 2) vs [(g, v)] _ (by simp; omega) (by simp; omega) (fun p hp => hf p.1 (List.mem_cons_of_mem _ ?_)) (fun j p w h1 h2 => ?_) upd_same ?_ fun H' e1 e2 e3 => ?_
      · obtain ⟨b, i⟩ := p
        have := List.mem_zipIdx hp
        rw [this.2.2]
        exact List.getElem_mem _
      · rw [List.getElem?_zipIdx] at h1
        cases hg : gs[j]? with
        | none => rw [hg] at h1; cases h1
        | some y =>
          rw [hg] at h1
          cases h1
          rw [show 2 + j = (j + 1) + 1 by omega]
          exact gi (j + 1) w h2
      · rw [upd_ne hda, upd_same]
      · refine q d H' hd hda ?_ ?_ fun b hb1 hb2 => ?_
        · rw [e1, upd_same]
        · rw [e2]
          have : ((gs.zipIdx 2).map (·.1)) = gs := by simp
          rw [this]
          simp
        · rw [e3 b hb2, upd_ne hb1, upd_ne hb2]
theorem zip_rev {α β : Type} : ∀ {xs : List α} {ys : List β}, xs.length = ys.length → (xs.zip ys).reverse = xs.reverse.zip ys.reverse
  | [], [], _ => rfl
  | x :: xs, y :: ys, h => by
    have h1 : xs.length = ys.length := Nat.succ.inj h
    rw [List.zip_cons_cons, List.reverse_cons, zip_rev h1, List.reverse_cons, List.reverse_cons, List.zip_append (by rw [List.length_reverse, List.length_reverse, h1])]
    rfl
theorem paired_rev {α β : Type} {R : α → β → Prop} : ∀ {xs : List α} {ys : List β}, Paired R xs ys → Paired R xs.reverse ys.reverse
  | _, _, .nil => .nil
  | _, _, .cons q t => by
    rw [List.reverse_cons, List.reverse_cons]
    exact paired_snoc (paired_rev t) q
/-! ### an error is made, its context None -/
section
variable {X : Cx} {pins : List (Addr × Obj)} {σ : St} {x : Str} {e : Expr} {es : List Expr} {ta : TA} {p pos : Pos}
/-- C(e, ..), C's own __init__ keeping sp -/
theorem pmk_oexN {ct : CXT} {C fi : Addr} {lv : Nat} {fd : FuncData} {names : List Str} {sp : Sp} {ds : List Value} {dvs : List V} (T : OexC X.K C) (hini : PySem.W.findIn X.K (.ref C) "__init__" = some (some (.ref fi))) (hty : PySem.W.typeIn X.K (.ref fi) = some (.type "function"))
    (G : FnOk X.prog X.w X.K X.mg X.base ct lv fi fd names sp) (room : Room (lv + 1) X.A) (bnd : Binds X.K fd names ds) (dv : Vals dvs ds) (hps : Passes ct X (fun _ _ _ => False)) (hgl : Gl X x) (hmg : X.mg x = some (.ref C)) (args : PA X (e :: es) ta)
    (hdb : (x == ("__debug__" : Str)) = false := by decide +kernel) (hst : starEach (e :: es) X.env = (false, eval e X.env) :: starEach es X.env := by rfl) (hns : (backTo pos (starEach es X.env)).any (·.1) = false := by rfl) :
    L2N.PMk X (.Call (.Name x p) (e :: es) [] pos) (tMkO C sp dvs ta) := by
  intro pins s σ H Q I hh
  obtain ⟨nm, qn, N, bs, bm, sn, sub, ab, col, dd, k0, k1, k2, k3, k5, lkC, refs⟩ := T.cls
  refine wpAny_Call_Name_kw (ld_glob I hgl hmg ?_ hdb)
  refine PySem.W.callWith_K (h₀ := X.base) I.ok.mod.kin T.kC ?_ hst hns
  refine thn (args.run pos pins s σ H _ I hh) fun us s1 ⟨vs, H1, J, rel, short, want⟩ => ⟨J.kIn, ?_⟩
  show wpAny _ _ (call (.ref C) us) _ _ _
  obtain ⟨hp, gs, drn, tok, os⟩ := s1
  -- the place of the new object, behind its tuple of arguments
  let at_ := hp.objs.size + 1
  have up : hp.objs.size ≤ at_ := Nat.le_succ _
  have asked := want at_ (J.hok.fresh up)
  have keep : ∀ b o, hp.get? b = some o → ((hp.push (PySem.W.kdv_tup us)).push (PySem.HandSPX.excO C hp.objs.size)).get? b = some o :=
    fun b o h0 => Heap.get?_push_of_some _ (Heap.get?_push_of_some _ h0)
  have there : ((hp.push (PySem.W.kdv_tup us)).push (PySem.HandSPX.excO C hp.objs.size)).get? (hp.objs.size + 1) = some (PySem.HandSPX.excO C hp.objs.size) := by heap_get
  have J2 : Inv X pins σ (upd H1 at_ (exo at_ C none)) ⟨(hp.push (PySem.W.kdv_tup us)).push (PySem.HandSPX.excO C hp.objs.size), gs, drn, tok, os⟩ :=
    J.laid (t' := tok) (a := at_) (o := exo at_ C none) (h' := (hp.push (PySem.W.kdv_tup us)).push (PySem.HandSPX.excO C hp.objs.size)) keep up (exo_ok there)
  have all : Vals (V.ref at_ :: (vs ++ dvs)) (Value.ref at_ :: (us ++ ds)) := Paired.cons rfl (rel.append dv)
  have many : (Value.ref at_ :: us ++ ds).length = names.length := by
    have z := all.length
    rw [G.len _ _ _ _ asked] at z
    exact z.symm
  have fits : us.length ≤ sizeLine := by
    have z := Paired.length rel
    have z2 := sizeLine_eq
    omega
  have inner := G.run _ X.stack _ _ ⟨Value.ref at_ :: us, []⟩ (Value.ref at_ :: (us ++ ds)) _ _ (fun _ _ _ => False) (room.make C us []) (J2.env0.make C us []) (bnd _ (Value.ref at_ :: us) J2.kIn many) all asked
  refine wpAny_call (PySem.HandSPX.call_own F.excBase_ValueError (fun Y => PySem.HandSPX.refsVE_contains Y bm refs) (J.kIn _ _ lkC) (PySem.W.looks_findIn J.kIn hini) (fun self => PySem.W.bind_fn J.kIn self hty) fits (codeAny_mono inner fun r s' hr => ?_))
  match r, hr with
  | .error er, hr => exact hps pins σ _ _ er s' J2 hr
  | .ok (.ret u), hr =>
    obtain ⟨v, H2, os2, bare2, un2, hok2, rv, ev, d, fs, ea, ed, hd1, q2⟩ := hr
    subst ev
    obtain ⟨h2, g2, d2, t2, os'⟩ := s'
    obtain ⟨t0, G', J3, kG, ge, hoe, na⟩ := mk_end0 (d2 := d2) (t2 := t2) J up keep un2 hok2 os2 bare2 ea ed hd1
    refine ⟨rv, at_, _, _, ⟨G', g2, d2, t2, os'⟩, _, .ref C, some d, rfl, J3, kG, ge, hoe, ⟨rfl, rfl, fun vs' z => ?_⟩, rfl, rfl, na, rfl, bare2, raises_own T.exC T.tyC, q2⟩
    cases z
    rfl
  | .ok .next, hr => exact False.elim hr
  | .ok .brk, hr => exact False.elim hr
  | .ok .cont, hr => exact False.elim hr
end
/-! ### raise -/
def rsR (c : Nat) (fs : List Str) (v : Ev.Env) : Option (List Dv × Sto) → SRes
  | some (ds, S) => if ds.length = fs.length then .ex ⟨c, fs.reverse, ds.reverse⟩ v S else .bad
  | none => .bad
/-- raise C(e, ..): fs the fields that __init__ keeps -/
def sRaise (c : Nat) (fs : List Str) (fa : Fr → Sto → Res (List SV)) : Fr → Sto → SRes := fun F S => (fa F S).st F fun as S1 => rsR c fs F.v (frzs S1 as)
section
variable {X : Cx} {cl : CL} {Wx : WX} {e : Expr} {es : List Expr} {fa : Fr → Sto → Res (List SV)} {x : Str} {p pos pos' : Pos} {c k : Nat} {fI : Addr} {fd : FuncData} {ps fs : List Str}
theorem sv_raise (hc : X.calm = true) (tk : L2N.Takes X Wx) (T : OexC X.K (cl c)) (iC : PySem.W.findIn X.K (.ref (cl c)) "__init__" = some (some (.ref fI))) (tI : PySem.W.typeIn X.K (.ref fI) = some (.type "function"))
    (F1 : FnOk X.prog X.w X.K X.mg X.base (L2N.CX X.prog X.w) k fI fd ps (SpI (cl c) fs)) (hr : Room (k + 1) X.A) (hb : Binds X.K fd ps []) (hg : Gl X x) (hm : X.mg x = some (.ref (cl c))) (ha : PA X (e :: es) (RA X cl Wx fa)) (hz : fs.length ≤ 900 := by decide)
    (hdb : (x == ("__debug__" : Str)) = false := by decide +kernel) (he : starEach (e :: es) X.env = (false, eval e X.env) :: starEach es X.env := by rfl) (hpl : (backTo pos (starEach es X.env)).any (·.1) = false := by rfl) :
    PS X (.Raise (some (.Call (.Name x p) (e :: es) [] pos)) none pos') (RS X cl Wx (sRaise c fs fa)) :=
  PS.weak (L2N.ps_raise hc tk (pmk_oexN (dvs := []) (ds := []) T iC tI F1 hr hb .nil (L2N.passes_call (E := fun _ _ _ => False) tk fun _ _ _ _ z => z.elim) hg hm ha hdb he hpl)) fun D σ H ⟨W, F, S, a, o⟩ => by
    refine RA.ofS a o fun W1 S1 as vs H1 g1 l1 a1 q1 o1 => ?_
    unfold rsR at o1
    split at o1
    · rename_i ds S2 hf
      split at o1
      · rename_i hl
        obtain ⟨n2, w2, k2⟩ := frzs_ok (K := X.K) (cl := cl) hf
        obtain ⟨W2, e2, l2, r2, q2⟩ := k2 W1 H1 vs a1.rel q1
        have lv : vs.length = fs.length := by rw [← q2.length, hl]
        have a2 := a1.on ⟨Nat.le_of_eq n2.symm, fun b _ => w2 b⟩ l2 r2
        refine ⟨by omega, fun y hy => ⟨y, vs ++ [], rfl, upd_same, by rw [List.append_nil, lv], fun d H2 hd hda e1 e2' e3 => ⟨rfl, d, _, e1, e2', ?_, ?_⟩⟩⟩
        · rw [upd_ne hda] at hd; exact hd
        · have hd1 : H1 d = none := by rw [upd_ne hda] at hd; exact hd
          have hH : upd (del H2 y) d (.xd (fs.zip (vs ++ [])).reverse) = upd H1 d (.xd (fs.zip (vs ++ [])).reverse) := by
            funext b
            by_cases hb : b = d
            · rw [hb, upd_same, upd_same]
            · rw [upd_ne hb, upd_ne hb]
              by_cases hb2 : b = y
              · rw [hb2, del_same, hy]
              · rw [del_ne hb2, e3 b hb2 hb, upd_ne hb2]
          rw [hH, List.append_nil]
          have r3 := r2.extra (d := d) (ho := .xd (fs.zip vs).reverse) hd1
          refine o1 W2 σ _ _ _ ⟨Nat.le_of_eq n2.symm, fun b _ => w2 b⟩ l2 ⟨a2.b, r3, a2.env, a2.gh⟩ ⟨rfl, by simp [hl], .inr ⟨d, vs.reverse, rfl, ?_, RelDs.of ?_⟩⟩
          · rw [upd_same]
            congr 2
            exact zip_rev lv.symm
          · exact paired_rev q2.paired
      · exact o1.elim
    · exact o1.elim
end
/-! ### try .. except -/
/-- the suite's end: e's name is gone -/
def tryE (i : Nat) : SRes → SRes
  | .nx v S => .nx (v.set i none) S
  | .bk v S => .bk (v.set i none) S
  | .ct v S => .ct (v.set i none) S
  | .rt x S => .rt x S
  | .ex _ _ _ => .bad
  | .bad => .bad
def tryC (i : Nat) (h : Exc → Fr → Sto → SRes) (b : Nat) (e : Exc) (v : Ev.Env) (S : Sto) : Option Bool → SRes
  | some true => tryE i (h e ⟨b, v.set i none⟩ S)
  | some false => .ex e v S
  | none => .bad
def tryR (ok : Nat → Option Bool) (i : Nat) (h : Exc → Fr → Sto → SRes) (b : Nat) : SRes → SRes
  | .ex e v S => tryC i h b e v S (ok e.c)
  | r => r
/-- try: f, except C as n (slot i): h -/
def sTryAs (ok : Nat → Option Bool) (i : Nat) (f : Fr → Sto → SRes) (h : Exc → Fr → Sto → SRes) : Fr → Sto → SRes := fun F S => tryR ok i h F.b (f F S)
/-- what the world keeps of a caught error -/
def XG (K : PySem.W.Frag) (cl : Nat → Addr) (W : Wd) (e : Exc) (c : Value) (d : Option Addr) : Prop :=
  c = .ref (cl e.c) ∧ e.fs.length = e.xs.length ∧ (e.fs = [] ∧ d = none ∨ ∃ dd vs, d = some dd ∧ W.G dd = some (.xd (e.fs.zip vs)) ∧ RelDs K cl W.G e.xs vs)
theorem XG.le {K : PySem.W.Frag} {cl : Nat → Addr} {n : Nat} {W W' : Wd} {e : Exc} {c : Value} {d : Option Addr} (l : Le n W W') (h : XG K cl W e c d) : XG K cl W' e c d := by
  obtain ⟨h1, h2, h3⟩ := h
  refine ⟨h1, h2, h3.imp id fun ⟨dd, vs, h4, h5, h6⟩ => ?_⟩
  obtain ⟨o', e', s⟩ := l.g _ _ h5
  rw [s.plain rfl] at e'
  exact ⟨dd, vs, h4, e', h6.le l⟩
/-- within the suite: slot i is the error at a, as long as nobody stores there -/
def CL.exc (cl : Nat → Addr) (K : PySem.W.Frag) (i : Nat) (a : Addr) (e : Exc) (c : Value) (d : Option Addr) : CL where
  f := cl
  gh := fun W v σ => XG K cl W e c d ∧ (v[i]? = some none → σ[i]? = some (some (.ref a)))
  mono := fun l h => ⟨h.1.le l, h.2⟩
  put := fun {W v σ} j x y h => ⟨h.1, fun hv => by
    by_cases hj : j = i
    · subst hj
      rw [List.getElem?_set] at hv
      split at hv
      · split at hv <;> cases hv
      · exact absurd rfl (by assumption)
    · rw [List.getElem?_set_ne hj] at hv ⊢
      exact h.2 hv⟩
theorem EnvR.del {K : PySem.W.Frag} {cl : Nat → Addr} {W : Wd} {n : Nat} {env : Ev.Env} {σ : St} (r : EnvR K cl W n env σ) (i : Nat) (z : Option V) : EnvR K cl W n (env.set i none) (σ.set i z) := by
  refine ⟨by rw [List.length_set, List.length_set]; exact r.len, fun j sv e => ?_⟩
  by_cases h : i = j
  · subst h
    rw [List.getElem?_set] at e
    split at e
    · split at e <;> cases e
    · exact absurd rfl (by assumption)
  · rw [List.getElem?_set_ne h] at e ⊢
    exact r.get j sv e
section
variable {X : Cx} {f0 : Nat → Addr} {Wx : WX} {f : Fr → Sto → SRes} {h : Exc → Fr → Sto → SRes} {n x : Str} {i : Nat} {c0 : Value} {body suite : List Stmt} {b₀ : Stmt} {np pos pos' : Pos} {ok : Nat → Option Bool}
/-- the suite, as told to the rule -/
def tSui (X : Cx) (f0 : Nat → Addr) (i : Nat) (h : Exc → Fr → Sto → SRes) (a : Addr) (cls : Value) (d : Option Addr) : TS := fun D σ H => ∃ e, RS X (CL.exc f0 X.K i a e cls d) WF (h e) D σ H
theorem sv_tryAs (i : Nat) (hs : X.stack = X.env :: X.outer) (hf : X.env.frame = some X.env.locals) (hN : X.N.Nodup) (hi : X.N[i]? = some n) (hln : X.env.kindOf n = some .local) (hc : Names X x c0) (tk : L2N.Takes X Wx)
    (hm : ∀ k b, ok k = some b → PySem.W.exmOne X.K (.ref (f0 k)) c0 = some b)
    (hb : ∀ (W : WX) (pn : List (Addr × Obj)) (xe : Value → Shared → Prop), L2N.Takes (X.tr pn xe) W → PassesOwn (model X.prog X.w) X.A X.env xe → PSs (X.tr pn xe) body (RS (X.tr pn xe) (CL.pure f0) W f))
    (hsu : ∀ (e : Exc) (a : Addr) (oe : Obj) (cls : Value) (d : Option Addr) (pn : List (Addr × Obj)), L2N.Zn cls d oe → (∃ vs, oe.data = .fields vs) → PSs (X.suite a ((a, oe) :: pn)) (b₀ :: suite) (RS (X.suite a ((a, oe) :: pn)) (CL.exc f0 X.K i a e cls d) WF (h e))) :
    PS X (.Try body [.ExceptHandler (some (.Name x np)) (some n) (b₀ :: suite) pos'] [] [] pos) (RS X (CL.pure f0) Wx (sTryAs ok i f h)) :=
  PS.weak (L2N.ps_try_as (tb := fun W => RS X (CL.pure f0) W f) (ts := tSui X f0 i h) hs hf hN hi hln hc tk (fun W pn xe tk' pa => hb W pn xe tk' pa) (fun a oe cls d pn hz hf => ⟨fun pins s σ H D I ⟨e, q⟩ => (hsu e a oe cls d pn hz hf).run pins s σ H D I q⟩)) fun D σ H ⟨W, F, S, a, o⟩ => by
    refine ⟨W, F, S, a, ?_⟩
    unfold sTryAs at o
    cases hr : f F S with
    | nx v S1 => rw [hr] at o; exact o
    | bk v S1 => rw [hr] at o; exact o
    | ct v S1 => rw [hr] at o; exact o
    | rt v S1 => rw [hr] at o; exact o
    | bad => rw [hr] at o; exact o.elim
    | ex e v S1 =>
      rw [hr] at o
      intro W' σ' H' c d g l a1 rx
      have o1 : OutS X.K (CL.pure f0) Wx D F.b W S (tryC i h F.b e v S1 (ok e.c)) := o
      have rc : c = .ref (f0 e.c) := rx.1
      unfold tryC at o1
      split at o1
      · rename_i hk
        refine ⟨true, by rw [rc]; exact hm _ _ hk, fun _ y hy => ?_, fun z => nomatch z⟩
        -- what the error's dict holds stays
        obtain ⟨_, rl, rd⟩ := rx
        have pin : ∃ W2, W2.ρ = W'.ρ ∧ Le S1.length W' W2 ∧ Rel X.K f0 W2 S1 H' ∧ XG X.K f0 W2 e c d := by
          rcases rd with rd | ⟨dd, vs, h1, h2, h3⟩
          · exact ⟨W', rfl, .refl _ _, a1.rel, rc, rl, .inl rd⟩
          · cases hg : W'.G dd with
            | some u =>
              have := a1.rel.fz dd u hg
              rw [h2] at this
              cases this
              exact ⟨W', rfl, .refl _ _, a1.rel, rc, rl, .inr ⟨dd, vs, h1, hg, h3⟩⟩
            | none =>
              have l2 : Le S1.length W' ⟨W'.ρ, upd W'.G dd (.xd (e.fs.zip vs)), W'.L⟩ := gpin hg _
              refine ⟨⟨W'.ρ, upd W'.G dd (.xd (e.fs.zip vs)), W'.L⟩, rfl, l2, ⟨fun b u e1 => ?_, fun j mo e1 => ?_, a1.rel.inj, a1.rel.lk⟩, rc, rl, .inr ⟨dd, vs, h1, upd_same, h3.le l2⟩⟩
              · have e1 : upd W'.G dd (.xd (e.fs.zip vs)) b = some u := e1
                by_cases hb : b = dd
                · rw [hb, upd_same] at e1
                  rw [hb, h2, e1]
                · rw [upd_ne hb] at e1
                  exact a1.rel.fz b u e1
              · refine (a1.rel.st j mo e1).keep l2 (Nat.le_refl _) rfl (fun hm g0 => ?_) fun _ => rfl
                show upd _ _ _ _ = _
                rw [upd_ne fun z => ?_]
                · exact g0
                · have q := a1.rel.st j mo e1
                  rw [z] at q
                  cases mo with
                  | lst xs => obtain ⟨_, _, q, _⟩ := q; rw [h2] at q; cases q
                  | dic ks xs => obtain ⟨_, _, q, _⟩ := q; rw [h2] at q; cases q
                  | ins c fs xs => obtain ⟨_, _, _, q, _⟩ := q; rw [h2] at q; cases q
                  | frz x => cases hm
                  | tup xs => obtain ⟨_, _, q, _⟩ := q; rw [h2] at q; cases q
                  | lck ks xs => obtain ⟨_, _, _, ⟨q, _⟩, _⟩ := q; rw [h2] at q; cases q
        obtain ⟨W2, e2, l2, r2, xg⟩ := pin
        refine ⟨e, W2, ⟨F.b, v.set i none⟩, S1, ⟨a1.b, r2, (a1.env.le l2 (Nat.le_refl _)).del i _, xg, fun hv => ?_⟩, ?_⟩
        · rw [List.getElem?_set] at hv ⊢
          rw [if_pos rfl] at hv ⊢
          split at hv
          · rename_i hl
            rw [if_pos (by rw [a1.env.len]; exact hl)]
          · cases hv
        · have gg : Gr F.b S1 S1 := .refl _ _
          have o2 := OutS.rebase (OutS.rebase o1 g l) gg l2
          cases hh : h e ⟨F.b, v.set i none⟩ S1 with
          | nx v2 S2 => rw [hh] at o2; exact fun W3 σ3 H3 g3 l3 a3 => o2 W3 _ H3 g3 l3 ⟨a3.b, a3.rel, a3.env.del i none, trivial⟩
          | bk v2 S2 => rw [hh] at o2; exact fun W3 σ3 H3 g3 l3 a3 => o2 W3 _ H3 g3 l3 ⟨a3.b, a3.rel, a3.env.del i none, trivial⟩
          | ct v2 S2 => rw [hh] at o2; exact fun W3 σ3 H3 g3 l3 a3 => o2 W3 _ H3 g3 l3 ⟨a3.b, a3.rel, a3.env.del i none, trivial⟩
          | rt v2 S2 => rw [hh] at o2; exact o2
          | ex e' v2 S2 => rw [hh] at o2; exact o2.elim
          | bad => rw [hh] at o2; exact o2.elim
      · rename_i hk
        exact ⟨false, by rw [rc]; exact hm _ _ hk, fun z => absurd z (by decide), fun _ => o1 W' σ' H' c d g l a1 rx⟩
      · exact o1.elim
end
/-! ### the caught error is looked at -/
/-- what an error's class says, so that its instances may be looked at -/
structure ErrC (K : PySem.W.Frag) (C : Addr) : Prop where
  hcl : (PySem.W.clsIn K C).isSome = true
  ga : PySem.W.findIn K (.ref C) "__getattribute__" = some (some (.builtin "BaseException.__getattribute__"))
  gg : PySem.W.findIn K (.ref C) "__getattr__" = some none
  exC : PySem.W.subIn K (.ref C) (.type "BaseException") = some true
  hdC : PySem.W.hasDictIn K C = true
  ha : PySem.W.findIn K (.ref C) "__class__" = some (some (.builtin "object.__class__"))
  hn : PySem.W.specialIn K (.builtin "object.__class__") "__get__" = some (some (.builtin "getset_descriptor.__get__"))
  ht : PySem.W.takesIn K (.builtin "object.__class__") = some true
  hm : PySem.W.mroIn K C (.type "object") = some true
theorem ErrC.xf {K : PySem.W.Frag} {C : Addr} (E : ErrC K C) : XfC K C := ⟨E.ga, E.gg, E.exC, E.hdC⟩
theorem lookA_rel {α : Type} {R : α → V → Prop} (f : Str) : ∀ {fs : List Str} {xs : List α} {vs : List V}, fs.length = xs.length → Paired R xs vs → ∀ x, lookF f fs xs = some x → ∃ v, (fs.zip vs).lookup f = some v ∧ R x v
  | [], [], [], _, .nil, _, e => by cases e
  | a :: fs, x :: xs, v :: vs, l, .cons q t, y, e => by
    unfold lookF at e
    rw [List.zip_cons_cons, List.lookup_cons]
    by_cases h : f = a
    · rw [if_pos h] at e
      have hb : (f == a) = true := beq_iff_eq.mpr h
      simp only [hb]
      cases e
      exact ⟨v, rfl, q⟩
    · rw [if_neg h] at e
      have hb : (f == a) = false := beq_eq_false_iff_ne.mpr h
      simp only [hb]
      exact lookA_rel f (Nat.succ.inj l) t y e
def isHole : Option (Option SV) → Bool
  | some none => true
  | _ => false
theorem isHole_eq {x : Option (Option SV)} (h : isHole x = true) : x = some none := by
  unfold isHole at h
  split at h
  · rfl
  · cases h
def xfR (nm : Str) (e : Exc) (S : Sto) : Option Dv → Res SV
  | some y => .ok (.d y) S
  | none => .bad
/-- e.nm -/
def eXf (i : Nat) (e : Exc) (cs : List Nat) (nm : Str) : Fr → Sto → Res SV := fun F S => if isHole F.v[i]? = true ∧ cs.contains e.c = true then xfR nm e S (lookF nm e.fs e.xs) else .bad
def xiR (S : Sto) : Option Bool → Res SV
  | some b => .ok (.d (.bl b)) S
  | none => .bad
/-- isinstance(e, ..) -/
def eXi (i : Nat) (e : Exc) (ans : Nat → Option Bool) : Fr → Sto → Res SV := fun F S => if isHole F.v[i]? = true then xiR S (ans e.c) else .bad
section
variable {X : Cx} {f0 : Nat → Addr} {i : Nat} {a : Addr} {e : Exc} {cls : Value} {d : Option Addr} {oe : Obj} {pn : List (Addr × Obj)} {n : Str} {p pos : Pos}
theorem ev_xf {cs : List Nat} {nm : Str} (hT : ∀ c, c ∈ cs → ErrC X.K (f0 c) ∧ PySem.W.findIn X.K (.ref (f0 c)) nm = some none) (hz : Zc cls d oe) (hf : ∃ vs, oe.data = .fields vs) (hN : X.N[i]? = some n) (hv : Vis X.env.scope n)
    (hd : (n == ("__debug__" : Str)) = false := by decide +kernel) (hcd : (n == ("__classdict__" : Str)) = false := by decide +kernel) (hb : attributeBase (.Name n p) nm X.env (eval (.Name n p) X.env) = eval (.Name n p) X.env := by rfl) :
    PE (X.suite a ((a, oe) :: pn)) (.Attribute (.Name n p) nm pos) (RE (X.suite a ((a, oe) :: pn)) (CL.exc f0 X.K i a e cls d) WF (eXf i e cs nm)) := by
  by_cases hcs : cs.contains e.c = true
  · obtain ⟨T, hno⟩ := hT e.c (by simpa using hcs)
    refine PE.weak (pe_xf T.xf hno hz hf (pe_var (X := X.suite a ((a, oe) :: pn)) hN hv hd hcd) hb) fun σ H Q ⟨W, F, S, t, o⟩ => ?_
    unfold eXf at o
    split at o
    · rename_i hh
      obtain ⟨⟨h1, h2, h3⟩, h4⟩ := t.gh
      unfold xfR at o
      split at o
      · rename_i y hy
        rcases h3 with h3 | ⟨dd, vs, h5, h6, h7⟩
        · rw [h3.1] at hy; cases hy
        · obtain ⟨v, e1, e2⟩ := lookA_rel nm h2 h7.paired y hy
          exact ⟨_, h4 (isHole_eq hh.1), rfl, h1, dd, _, v, h5, t.rel.fz _ _ h6, e1, o.here t.rel e2⟩
      · exact o.elim
    · exact o.elim
  · refine ⟨fun pins s σ H Q I ⟨W, F, S, t, o⟩ => ?_⟩
    unfold eXf at o
    rw [if_neg fun z => hcs z.2] at o
    exact o.elim
/-- isinstance of the caught error -/
def rXi (X : Cx) (C a : Addr) (d : Option Addr) : List V → Hp → VK → Prop := fun xs H Q => (d = none ∨ ∃ dd fs, d = some dd ∧ H dd = some (.xd fs)) ∧
  ((∃ (c : V) (u : Value) (b : Bool), xs = [.ref a, c] ∧ ClsV c u ∧ PySem.W.kitOne X.K (.ref C) u = some b ∧ Q (.bl b) H) ∨
   ∃ (tp : Addr) (cs : List V) (us : List Value) (b : Bool), xs = [.ref a, .ref tp] ∧ H tp = some (.tup cs) ∧ Paired ClsV cs us ∧ PySem.W.kitAny X.K (.ref C) us = some b ∧ Q (.bl b) H)
theorem call_xi {C : Addr} (E : ErrC X.K C) (hz : Zc (.ref C) d oe) (hf : ∃ vs, oe.data = .fields vs) : CallR (X.suite a ((a, oe) :: pn)) (.builtin "isinstance") (rXi X C a d) := by
  intro pins s σ H xs us Q I r ⟨hd, h⟩
  obtain ⟨hget, _⟩ := I.pin (a, oe) (List.mem_append_left _ List.mem_cons_self)
  obtain ⟨vs, hv⟩ := hf
  have J : ∃ od, PySem.W.InstAt s.heap a oe C od := by
    rcases hd with hd | ⟨dd, fs, hd, hx⟩
    · exact ⟨none, hget, hz.1, by unfold PySem.W.notCls; rw [hv] <;> rfl, by rw [hz.2, hd]; trivial⟩
    · have hx : ObjOk X.prog X.w H s.heap dd (.xd fs) := I.hok dd _ hx
      obtain ⟨mA, hns, _⟩ := hx
      obtain ⟨od, ho, _⟩ := lookIn_ns hns
      exact ⟨some od, hget, hz.1, by unfold PySem.W.notCls; rw [hv] <;> rfl, by rw [hz.2, hd]; exact ho⟩
  obtain ⟨od, J⟩ := J
  have Z := PySem.W.kitx_exc (K := X.K) (x := a) (ox := oe) (od := od) E.hcl E.ga E.gg E.exC E.ha E.hn E.ht E.hm
  rcases h with ⟨c, u, b, rfl, k, e1, q⟩ | ⟨tp, cs, ws, b, rfl, hT, k, e1, q⟩
  · obtain ⟨u1, u2, rfl, r1, r2⟩ := vals2 r
    have e2 := k.eq r2
    subst e2
    obtain rfl : u1 = Value.ref a := r1
    exact PySem.W.kia_one Z I.kIn J e1 (fun z => nomatch z) fun tk => ⟨.bl b, H, I.tok tk, rfl, q⟩
  · obtain ⟨u1, u2, rfl, r1, r2⟩ := vals2 r
    obtain rfl : u1 = Value.ref a := r1
    obtain rfl : u2 = Value.ref tp := r2
    obtain ⟨_, its, rv, o, h1, h2, m, h3⟩ := (show ObjOk X.prog X.w H s.heap tp (.tup cs) from I.hok tp _ hT)
    have e3 := ClsV.all k rv
    subst e3
    obtain ⟨oc, od', dt, sl⟩ := o
    simp only at h2 h3
    subst h2 h3
    exact PySem.W.kia_tup Z I.kIn J h1 e1 (fun z => nomatch z) fun tk => ⟨.bl b, H, I.tok tk, rfl, q⟩
variable {ans : Nat → Option Bool} {ec : Expr} {c : V} {u : Value} {pc : Pos}
theorem ev_xi (hE : ∀ k b, ans k = some b → ErrC X.K (f0 k)) (hk : ∀ k b, ans k = some b → PySem.W.kitOne X.K (.ref (f0 k)) u = some b) (hz : Zc cls d oe) (hf : ∃ vs, oe.data = .fields vs) (hN : X.N[i]? = some n) (hv : Vis X.env.scope n)
    (hg : Gl X "isinstance") (hm : X.mg "isinstance" = none) (hcl : PE (X.suite a ((a, oe) :: pn)) ec (tC c)) (hcv : ClsV c u)
    (hd : (n == ("__debug__" : Str)) = false := by decide +kernel) (hcd : (n == ("__classdict__" : Str)) = false := by decide +kernel)
    (he : starEach [.Name n p, ec] X.env = (false, eval (.Name n p) X.env) :: starEach [ec] X.env := by rfl) (he2 : starEach [ec] X.env = (false, eval ec X.env) :: starEach [] X.env := by rfl) (hpl : (backTo pos (starEach [ec] X.env)).any (·.1) = false := by rfl) :
    PE (X.suite a ((a, oe) :: pn)) (.Call (.Name "isinstance" pc) [.Name n p, ec] [] pos) (RE (X.suite a ((a, oe) :: pn)) (CL.exc f0 X.K i a e cls d) WF (eXi i e ans)) := by
  by_cases hc : cls = .ref (f0 e.c)
  · cases ha : ans e.c with
    | none =>
      refine ⟨fun pins s σ H Q I ⟨W, F, S, t, o⟩ => ?_⟩
      unfold eXi at o
      rw [ha] at o
      split at o <;> exact o.elim
    | some b =>
      subst hc
      refine PE.weak (pe_callB (X := X.suite a ((a, oe) :: pn)) (call_xi (X := X) (hE _ _ ha) hz hf) hg hm (by decide +kernel) (pa_cons (pe_var (X := X.suite a ((a, oe) :: pn)) hN hv hd hcd) (pa_cons hcl pa_nil he2) he) (by decide +kernel) (by decide +kernel) he hpl) fun σ H Q ⟨W, F, S, t, o⟩ => ?_
      unfold eXi at o
      split at o
      · rename_i hh
        rw [ha] at o
        obtain ⟨⟨h1, h2, h3⟩, h4⟩ := t.gh
        refine ⟨_, h4 (isHole_eq hh), ?_, .inl ⟨c, u, b, rfl, hcv, hk _ _ ha, o.here t.rel (RelD.bl b)⟩⟩
        exact h3.imp And.right fun ⟨dd, vs, h5, h6, _⟩ => ⟨dd, _, h5, t.rel.fz _ _ h6⟩
      · exact o.elim
  · refine ⟨fun pins s σ H Q I ⟨W, F, S, t, o⟩ => absurd t.gh.1.1 hc⟩
def tKs : List V → TA
  | [] => tNil
  | c :: r => tCons (tC c) (tKs r)
theorem tKs_of {cs : List V} {σ : St} {H : Hp} {Q : List V → Hp → Prop} (h : Q cs H) : tKs cs σ H Q := by
  induction cs generalizing Q with
  | nil => exact h
  | cons c r ih => exact ih (Q := fun xs H => Q (c :: xs) H) h
variable {ecs : List Expr} {cs : List V} {us : List Value} {kt : Nat} {pt : Pos}
/-- isinstance(e, (C1, C2, ..)) -/
theorem ev_xis (hE : ∀ k b, ans k = some b → ErrC X.K (f0 k)) (hk : ∀ k b, ans k = some b → PySem.W.kitAny X.K (.ref (f0 k)) us = some b) (hz : Zc cls d oe) (hf : ∃ vs, oe.data = .fields vs) (hN : X.N[i]? = some n) (hv : Vis X.env.scope n)
    (hg : Gl X "isinstance") (hm : X.mg "isinstance" = none) (hcl : PA (X.suite a ((a, oe) :: pn)) ecs (tKs cs)) (hcv : Paired ClsV cs us) (hsz : cs.length ≤ 1000 := by decide)
    (hd : (n == ("__debug__" : Str)) = false := by decide +kernel) (hcd : (n == ("__classdict__" : Str)) = false := by decide +kernel)
    (he : starEach [.Name n p, .Tuple ecs kt pt] X.env = (false, eval (.Name n p) X.env) :: starEach [.Tuple ecs kt pt] X.env := by rfl) (he2 : starEach [.Tuple ecs kt pt] X.env = (false, eval (.Tuple ecs kt pt) X.env) :: starEach [] X.env := by rfl) (hpl : (backTo pos (starEach [.Tuple ecs kt pt] X.env)).any (·.1) = false := by rfl) :
    PE (X.suite a ((a, oe) :: pn)) (.Call (.Name "isinstance" pc) [.Name n p, .Tuple ecs kt pt] [] pos) (RE (X.suite a ((a, oe) :: pn)) (CL.exc f0 X.K i a e cls d) WF (eXi i e ans)) := by
  by_cases hc : cls = .ref (f0 e.c)
  · cases ha : ans e.c with
    | none =>
      refine ⟨fun pins s σ H Q I ⟨W, F, S, t, o⟩ => ?_⟩
      unfold eXi at o
      rw [ha] at o
      split at o <;> exact o.elim
    | some b =>
      subst hc
      refine PE.weak (pe_callB (X := X.suite a ((a, oe) :: pn)) (call_xi (X := X) (hE _ _ ha) hz hf) hg hm (by decide +kernel) (pa_cons (pe_var (X := X.suite a ((a, oe) :: pn)) hN hv hd hcd) (pa_cons (pe_tup hcl) pa_nil he2) he) (by decide +kernel) (by decide +kernel) he hpl) fun σ H Q ⟨W, F, S, t, o⟩ => ?_
      unfold eXi at o
      split at o
      · rename_i hh
        rw [ha] at o
        obtain ⟨⟨h1, h2, h3⟩, h4⟩ := t.gh
        refine ⟨_, h4 (isHole_eq hh), tKs_of ⟨Nat.le_trans hsz (by decide), fun tp htp => ?_⟩⟩
        obtain ⟨r3, l3⟩ := t.rel.newF (ho := .tup cs) htp
        refine ⟨h3.imp And.right fun ⟨dd, vs, h5, h6, _⟩ => ⟨dd, e.fs.zip vs, h5, ?_⟩, .inr ⟨tp, cs, us, b, rfl, upd_same, hcv, hk _ _ ha, o _ _ _ (.refl _ _) l3 r3 (RelD.bl b)⟩⟩
        have q := t.rel.fz _ _ h6
        rw [upd_ne fun z => by rw [z, htp] at q; cases q]
        exact q
      · exact o.elim
  · refine ⟨fun pins s σ H Q I ⟨W, F, S, t, o⟩ => absurd t.gh.1.1 hc⟩
end
end Ev

set_option Elab.async false
set_option linter.all false
set_option maxRecDepth 100000
/-! Ev16: own calls within an except suite; how errors are reckoned. -/
namespace Ev
open PySem L2
/-- what is at hand in a body that runs while an error is handled -/
structure XOkH (X : Cx) (Wx : WX) (k : Nat) : Prop where
  hr : L2H.RoomH k X.A
  hot : L2H.HotC X
  tk : L2N.Takes X Wx
  hp : PassesOwn (model X.prog X.w) X.A X.env X.xe
  hu : X.A.units + 200 < cLine
  hu1 : X.A.units + 1 < cLine
abbrev FnHE (X : Cx) (cl : Nat → Addr) (k : Nat) (fa : Addr) (fd : FuncData) (ps : List Str) (g : Nat → List SV → Sto → Res SV) : Prop := L2H.FnH X.prog X.w X.K X.mg X.base (L2N.CX X.prog X.w) k fa fd ps (SpR X.K cl g)
theorem fn_okH {P : Program} {w : World} {K : PySem.W.Frag} {mg : Str → Option Value} {base : Heap} {cl : Nat → Addr} {x qual : Str} {st : Stmt} {f : Addr} {fd : FuncData} {N ps : List Str} {k np nn : Nat} {body : Fr → Sto → SRes} (Fu : Fun K x qual st f fd) (Sc : FnScope N ps (defScope st)) (hnp : ps.length = np) (hnn : N.length = nn)
    (hbody : ∀ (cdv : Value) (A : Around) (outer : List PySem.Env) (s : Shared) (H : Hp) (E : XK) (q : Addr × Obj), XOkH (L2H.cxH (L2N.CX P w) P w K mg base N qual (defScope st) f cdv A outer s H E q) (fun c d _ H => E c d H) k →
      PSs (L2H.cxH (L2N.CX P w) P w K mg base N qual (defScope st) f cdv A outer s H E q) (defBody st) (RS (L2H.cxH (L2N.CX P w) P w K mg base N qual (defScope st) f cdv A outer s H E q) (CL.pure cl) (fun c d _ H => E c d H) body)) :
    L2H.FnH P w K mg base (L2N.CX P w) (k + 1) f fd ps (SpR K cl (runF np nn body)) := by
  obtain ⟨oc, od, kV, doc, pm, an, cdv, ct, osl, rfl, lk, hcd⟩ := Fu.ex
  refine L2H.fn_ofH lk hcd Sc (fun vs H Q E ⟨W, S, as, b, hb, r, p, o⟩ => ?_) fun A outer s H vs Q E q hot hr ⟨W, S, as, b, hb, r, p, o⟩ => ?_
  · unfold runF at o
    split at o
    · rename_i hl; rw [hnp, ← hl, PySem.Paired.length p]
    · exact o.elim
  · refine ⟨_, hbody cdv A outer s H E q ⟨hr, ⟨q, ⟨hot.1, hot.2⟩, List.mem_cons_self ..⟩, L2N.takes_of rfl rfl rfl rfl, passes_of rfl, ?_, ?_⟩, ?_⟩
    · have := hr.un
      show (A.deeper _).units + 200 < cLine
      omega
    · have := hr.un
      show (A.deeper _).units + 1 < cLine
      omega
    unfold runF at o
    split at o
    · rename_i hl
      subst hl
      refine ⟨W, ⟨b, as.map some ++ List.replicate (nn - as.length) none⟩, S, ⟨hb, r, by rw [← hnn]; exact env_start p, trivial⟩, ?_⟩
      cases hr : body ⟨b, as.map some ++ List.replicate (nn - as.length) none⟩ S with
      | nx v2 S2 => rw [hr] at o; exact fun W' σ' H' g l a => o W' H' _ g l a.rel RelD.non
      | ct v2 S2 => rw [hr] at o; exact o.elim
      | bk v2 S2 => rw [hr] at o; exact o.elim
      | rt v S2 => rw [hr] at o; exact o
      | ex ec v2 S2 => rw [hr] at o; exact fun W' σ' H' c d g l a q => o W' H' c d g l a.rel q
      | bad => rw [hr] at o; exact o
    · exact o.elim
theorem fn_badH {P : Program} {w : World} {K : PySem.W.Frag} {mg : Str → Option Value} {base : Heap} {cl : Nat → Addr} {f : Addr} {fd : FuncData} {ps : List Str} {k : Nat} {g : Nat → List SV → Sto → Res SV} (h : ∀ b as S, g b as S = .bad) :
    L2H.FnH P w K mg base (L2N.CX P w) k f fd ps (SpR K cl g) :=
  ⟨fun vs H Q E ⟨W, S, as, b, hb, r, p, o⟩ => by rw [h] at o; exact o.elim, fun A outer s H args us vs Q E q _ _ _ _ _ _ ⟨W, S, as, b, hb, r, p, o⟩ => by rw [h] at o; exact o.elim⟩
section
variable {X : Cx} {cl : CL} {Wx : WX} {k : Nat} {fa : Addr} {fd : FuncData} {ps : List Str} {g : Nat → List SV → Sto → Res SV} {x : Str} {p pos : Pos} {e : Expr} {es : List Expr} {f : Fr → Sto → Res (List SV)}
theorem ev_callH (Fk : FnHE X cl k fa fd ps g) (hr : L2H.RoomH k X.A) (hot : L2H.HotC X) (tk : L2N.Takes X Wx) (hg : Gl X x) (hm : X.mg x = some (.ref fa)) (hk : PySem.W.keepIn X.K (.ref fa) = true) (hb : Binds X.K fd ps []) (ha : PA X (e :: es) (RA X cl Wx f))
    (hdb : (x == ("__debug__" : Str)) = false := by decide +kernel) (he : starEach (e :: es) X.env = (false, eval e X.env) :: starEach es X.env := by rfl) (hpl : (backTo pos (starEach es X.env)).any (·.1) = false := by rfl) :
    PE X (.Call (.Name x p) (e :: es) [] pos) (RE X cl Wx (eCall g f)) :=
  PE.weak (L2H.pe_callH (E := WE Wx) Fk hr hot hg hm hk hb (fun σ => L2N.passAt tk σ) ha hdb he hpl) fun σ H Q ⟨W, F, S, a, q⟩ =>
    RA.of a q fun W1 S1 as vs H1 g1 l1 a1 q1 o1 => sp_fin a1 q1 o1
theorem sv_forR1H {ea tgt : Expr} {p pc : Pos} {body : List Stmt} {tg : Tg} {fa : Fr → Sto → Res (List SV)} {fb : Fr → Sto → SRes} (hp : PassesOwn (model X.prog X.w) X.A X.env X.xe) (hot : L2H.HotC X) (hgl : Gl X "range") (hm : X.mg "range" = none) (ha : PA X [ea] (RA X cl Wx fa)) (hg : PG X tgt (RG X cl tg)) (hb : PSs X body (RS X cl Wx fb))
    (hs : starEach [ea] X.env = [(false, eval ea X.env)] := by rfl) : PS X (.For tgt (.Call (.Name "range" p) [ea] [] pc) body [] pos) (RS X cl Wx (sForR fa tg fb)) :=
  PS.weak (L2H.ps_forH hp hot (L2H.pi_range1H hgl hm ha hs) hg hb) fun D σ H ⟨W, F, S, a, o⟩ => by
    refine RA.ofS a o fun W1 S1 as vs H1 g1 l1 a1 q1 o1 => ?_
    split at o1
    · split at o1
      · rename_i n hn
        simp only [small62, Bool.and_eq_true, decide_eq_true_eq] at hn
        match vs, q1 with
        | [v], .cons q .nil =>
          cases q
          exact ⟨n, rfl, by omega, by omega, range_turns a1 o1 rfl rfl⟩
      · exact o1.elim
    · exact o1.elim
end
section
variable {X : Cx} {Wx : WX} {k : Nat} {a : Addr} {oe : Obj} {cls : Value} {d : Option Addr} {pn : List (Addr × Obj)}
theorem hot_suite (hz : L2N.Zn cls d oe) (hf : ∃ vs, oe.data = .fields vs) : L2H.HotC (X.suite a ((a, oe) :: pn)) := by
  obtain ⟨vs, hv⟩ := hf
  exact ⟨(a, oe), ⟨rfl, vs, hv, hz.2.2 vs hv⟩, List.mem_cons_self ..⟩
theorem XOk.suite (xo : XOk X Wx k) (hz : L2N.Zn cls d oe) (hf : ∃ vs, oe.data = .fields vs) : XOkH (X.suite a ((a, oe) :: pn)) WF k :=
  ⟨⟨xo.hr.dp, xo.hr.un⟩, hot_suite hz hf, tk_F, PassesOwn.never, xo.hu, xo.hu1⟩
theorem XOk.tr {W : WX} {pn : List (Addr × Obj)} {xe : Value → Shared → Prop} (xo : XOk X Wx k) (tk : L2N.Takes (X.tr pn xe) W) (pa : PassesOwn (model X.prog X.w) X.A X.env xe) : XOk (X.tr pn xe) W k :=
  ⟨xo.hr, tk, pa, xo.calm, xo.hu, xo.hu1⟩
end
/-! ### how errors are reckoned -/
def okF (l : List (Nat × Bool)) : Nat → Option Bool := fun k => l.lookup k
theorem okF_all {P : Nat → Bool → Prop} {l : List (Nat × Bool)} (h : ∀ q ∈ l, P q.1 q.2) : ∀ k b, okF l k = some b → P k b := by
  induction l with
  | nil => intro k b e; cases e
  | cons q r ih =>
    intro k b e
    unfold okF at e
    rw [List.lookup_cons] at e
    split at e
    · rename_i hk
      cases e
      rw [beq_iff_eq.mp hk]
      exact h q (List.mem_cons_self ..)
    · exact ih (fun z hz => h z (List.mem_cons_of_mem _ hz)) k b e
theorem okF_dom {P : Nat → Prop} {ks : List Nat} {l : List (Nat × Bool)} (h : ∀ k, k ∈ ks → P k) (hl : l.map (·.1) = ks := by rfl) : ∀ k b, okF l k = some b → P k := fun k b e =>
  okF_all (P := fun k _ => P k) (fun q hq => h q.1 (by rw [← hl]; exact List.mem_map_of_mem hq)) k b e
def kRs (c : Nat) (fs : List Str) (F : Fr) (r : Res (List SV)) : SRes := r.st F fun as S1 => rsR c fs F.v (frzs S1 as)
@[simp] theorem kRs_ok (c : Nat) (fs : List Str) (F : Fr) (as : List SV) (S : Sto) : kRs c fs F (.ok as S) = rsR c fs F.v (frzs S as) := Eq.trans rfl rfl
@[simp] theorem sRaise_ap (c : Nat) (fs : List Str) (fa : Fr → Sto → Res (List SV)) (F : Fr) (S : Sto) : sRaise c fs fa F S = kRs c fs F (fa F S) := Eq.trans rfl rfl
@[simp] theorem rsR_s (c : Nat) (fs : List Str) (v : Ev.Env) (ds : List Dv) (S : Sto) : rsR c fs v (some (ds, S)) = if ds.length = fs.length then .ex ⟨c, fs.reverse, ds.reverse⟩ v S else .bad := Eq.trans rfl rfl
@[simp] theorem sTryAs_ap (ok : Nat → Option Bool) (i : Nat) (f : Fr → Sto → SRes) (h : Exc → Fr → Sto → SRes) (F : Fr) (S : Sto) : sTryAs ok i f h F S = tryR ok i h F.b (f F S) := Eq.trans rfl rfl
@[simp] theorem tryR_ex (ok : Nat → Option Bool) (i : Nat) (h : Exc → Fr → Sto → SRes) (b : Nat) (e : Exc) (v : Ev.Env) (S : Sto) : tryR ok i h b (.ex e v S) = tryC i h b e v S (ok e.c) := Eq.trans rfl rfl
@[simp] theorem tryR_nx (ok : Nat → Option Bool) (i : Nat) (h : Exc → Fr → Sto → SRes) (b : Nat) (v : Ev.Env) (S : Sto) : tryR ok i h b (.nx v S) = .nx v S := Eq.trans rfl rfl
@[simp] theorem tryR_rt (ok : Nat → Option Bool) (i : Nat) (h : Exc → Fr → Sto → SRes) (b : Nat) (v : SV) (S : Sto) : tryR ok i h b (.rt v S) = .rt v S := Eq.trans rfl rfl
@[simp] theorem tryR_bk (ok : Nat → Option Bool) (i : Nat) (h : Exc → Fr → Sto → SRes) (b : Nat) (v : Ev.Env) (S : Sto) : tryR ok i h b (.bk v S) = .bk v S := Eq.trans rfl rfl
@[simp] theorem tryR_ct (ok : Nat → Option Bool) (i : Nat) (h : Exc → Fr → Sto → SRes) (b : Nat) (v : Ev.Env) (S : Sto) : tryR ok i h b (.ct v S) = .ct v S := Eq.trans rfl rfl
@[simp] theorem tryC_t (i : Nat) (h : Exc → Fr → Sto → SRes) (b : Nat) (e : Exc) (v : Ev.Env) (S : Sto) : tryC i h b e v S (some true) = tryE i (h e ⟨b, v.set i none⟩ S) := Eq.trans rfl rfl
@[simp] theorem tryC_f (i : Nat) (h : Exc → Fr → Sto → SRes) (b : Nat) (e : Exc) (v : Ev.Env) (S : Sto) : tryC i h b e v S (some false) = .ex e v S := Eq.trans rfl rfl
@[simp] theorem tryE_nx (i : Nat) (v : Ev.Env) (S : Sto) : tryE i (.nx v S) = .nx (v.set i none) S := Eq.trans rfl rfl
@[simp] theorem tryE_bk (i : Nat) (v : Ev.Env) (S : Sto) : tryE i (.bk v S) = .bk (v.set i none) S := Eq.trans rfl rfl
@[simp] theorem tryE_ct (i : Nat) (v : Ev.Env) (S : Sto) : tryE i (.ct v S) = .ct (v.set i none) S := Eq.trans rfl rfl
@[simp] theorem tryE_rt (i : Nat) (v : SV) (S : Sto) : tryE i (.rt v S) = .rt v S := Eq.trans rfl rfl
@[simp] theorem okF_nil (k : Nat) : okF [] k = none := Eq.trans rfl rfl
@[simp] theorem okF_cons (q : Nat × Bool) (r : List (Nat × Bool)) (k : Nat) : okF (q :: r) k = if k = q.1 then some q.2 else okF r k := by
  unfold okF
  rw [List.lookup_cons]
  by_cases h : k = q.1
  · rw [if_pos h, beq_iff_eq.mpr h]
  · rw [if_neg h, beq_eq_false_iff_ne.mpr h]
@[simp] theorem eXf_ap (i : Nat) (e : Exc) (cs : List Nat) (nm : Str) (F : Fr) (S : Sto) : eXf i e cs nm F S = if isHole F.v[i]? = true ∧ cs.contains e.c = true then xfR nm e S (lookF nm e.fs e.xs) else .bad := Eq.trans rfl rfl
@[simp] theorem xfR_s (nm : Str) (e : Exc) (S : Sto) (y : Dv) : xfR nm e S (some y) = .ok (.d y) S := Eq.trans rfl rfl
@[simp] theorem eXi_ap (i : Nat) (e : Exc) (ans : Nat → Option Bool) (F : Fr) (S : Sto) : eXi i e ans F S = if isHole F.v[i]? = true then xiR S (ans e.c) else .bad := Eq.trans rfl rfl
@[simp] theorem xiR_s (S : Sto) (b : Bool) : xiR S (some b) = .ok (.d (.bl b)) S := Eq.trans rfl rfl
@[simp] theorem isHole_t : isHole (some none) = true := Eq.trans rfl rfl
/-! ### which errors are which -/
section
variable {K : PySem.W.Frag}
theorem kit_err {C D : Addr} {b : Bool} (hi : PySem.W.isClsIn K D = true) (ht : PySem.W.typeIn K (.ref D) = some (.type "type")) (sf : PySem.W.subIn K (.ref C) (.ref C) = some true) (h : PySem.W.subIn K (.ref C) (.ref D) = some b) : PySem.W.kitOne K (.ref C) (.ref D) = some b := by
  unfold PySem.W.kitOne
  by_cases e : C = D
  · subst e
    rw [sf] at h
    cases h
    rw [if_pos (beq_self_eq_true _)]
  · rw [if_neg fun q => e (Value.ref.inj (beq_iff_eq.mp q))]
    show PySem.W.kitCls K (.ref C) (.ref D) = some b
    unfold PySem.W.kitCls
    simp only
    unfold PySem.W.isClsIn at hi
    rw [if_pos (by rw [hi, ht]; exact beq_self_eq_true _)]
    exact h
theorem kit_errT {C : Addr} {T : String} {b : Bool} (hm : PySem.W.kitMeta T = true) (h : PySem.W.subIn K (.ref C) (.type T) = some b) : PySem.W.kitOne K (.ref C) (.type T) = some b := by
  unfold PySem.W.kitOne
  rw [if_neg (by intro q; cases (beq_iff_eq.mp q))]
  show PySem.W.kitCls K (.ref C) (.type T) = some b
  unfold PySem.W.kitCls
  simp only
  rw [if_pos hm]
  exact h
theorem kit_nil {t : Value} : PySem.W.kitAny K t [] = some false := rfl
theorem kit_t {t u : Value} {r : List Value} (h : PySem.W.kitOne K t u = some true) : PySem.W.kitAny K t (u :: r) = some true := by unfold PySem.W.kitAny; rw [h]
theorem kit_f {t u : Value} {r : List Value} {b : Bool} (h : PySem.W.kitOne K t u = some false) (k : PySem.W.kitAny K t r = some b) : PySem.W.kitAny K t (u :: r) = some b := by unfold PySem.W.kitAny; rw [h]; exact k
end
end Ev

set_option Elab.async false
set_option linter.all false
set_option maxRecDepth 100000
/-! Ev17: is True, is False. -/
namespace Ev
open PySem L2
section
variable {X : Cx} {cl : CL}
def opIsB (S : Sto) (a b : SV) : Option Dv := match view S a, view S b with
  | some (.bl i), some (.bl j) => some (.bl (decide (i = j)))
  | _, _ => none
def opIsNotB (S : Sto) (a b : SV) : Option Dv := match view S a, view S b with
  | some (.bl i), some (.bl j) => some (.bl (!decide (i = j)))
  | _, _ => none
theorem ov_isb : OpR X (compareOp .Is) (ROp X cl opIsB) := OpR.weak op_is_bl fun x y H Q ⟨W, S, a, b, z, r, ra, rb, e, k⟩ => by
  unfold opIsB at e
  split at e
  · rename_i i j ea eb
    cases e
    exact ⟨i, j, view_bl r ea ra, view_bl r eb rb, k W H _ (.refl _ _) r (.bl _)⟩
  · cases e
theorem ov_isnotb : OpR X (compareOp .IsNot) (ROp X cl opIsNotB) := OpR.weak op_isnot_bl fun x y H Q ⟨W, S, a, b, z, r, ra, rb, e, k⟩ => by
  unfold opIsNotB at e
  split at e
  · rename_i i j ea eb
    cases e
    exact ⟨i, j, view_bl r ea ra, view_bl r eb rb, k W H _ (.refl _ _) r (.bl _)⟩
  · cases e
def eDic0 : Fr → Sto → Res SV := fun _ S => .ok (.d (.dic [] [])) S
theorem ev_dic0 {Wx : WX} {pos : Pos} : PE X (.Dict [] [] pos) (RE X cl Wx eDic0) :=
  PE.weak pe_dnewK fun σ H Q ⟨W, F, S, a, o⟩ => fun p hp => by
    obtain ⟨r3, l3⟩ := a.rel.newF (ho := .dK []) hp
    exact o _ _ _ (.refl _ _) l3 r3 (RelD.dic (ks := []) (vs := []) upd_same rfl ⟨rfl, rfl⟩ .nil)
def eDic0M : Fr → Sto → Res SV := fun _ S => .ok (.m S.length) (S ++ [.dic [] []])
theorem ev_dic0M {Wx : WX} {pos : Pos} : PE X (.Dict [] [] pos) (RE X cl Wx eDic0M) :=
  PE.weak pe_dnewK fun σ H Q ⟨W, F, S, a, o⟩ => fun p hp => by
    have r3 := a.rel.newM (p := p) (mo := .dic [] []) (ho := .dK []) hp ⟨a.rel.unone hp, [], upd_same, ⟨rfl, rfl⟩, .nil⟩
    refine o _ _ _ (Gr.add _ _ _ a.b) (W.add_le _ _) r3 ⟨?_, by rw [Wd.add_at]⟩
    rw [List.length_append]
    exact Nat.lt_succ_self _
end
@[simp] theorem eDic0_ap (F : Fr) (S : Sto) : eDic0 F S = .ok (.d (.dic [] [])) S := Eq.trans rfl rfl
@[simp] theorem eDic0M_ap (F : Fr) (S : Sto) : eDic0M F S = .ok (.m S.length) (S ++ [.dic [] []]) := Eq.trans rfl rfl
@[simp] theorem opIsB_bb (S : Sto) (i j : Bool) : opIsB S (.d (.bl i)) (.d (.bl j)) = some (.bl (decide (i = j))) := Eq.trans rfl rfl
@[simp] theorem opIsNotB_bb (S : Sto) (i j : Bool) : opIsNotB S (.d (.bl i)) (.d (.bl j)) = some (.bl (!decide (i = j))) := Eq.trans rfl rfl
end Ev

set_option Elab.async false
set_option linter.all false
set_option maxRecDepth 100000
/-! Ev18: slices of lists and tuples. -/
namespace Ev
open PySem L2
def cutG {α : Type} (xs : List α) (lo hi : Option Int) : List α := (xs.drop (HT.sIx xs.length 0 lo)).take (HT.sIx xs.length xs.length hi - HT.sIx xs.length 0 lo)
section
variable {K : PySem.W.Frag} {cl : Nat → Addr} {G : Hp}
theorem RelDs.drop : ∀ {xs : List Dv} {vs : List V} (n : Nat), RelDs K cl G xs vs → RelDs K cl G (xs.drop n) (vs.drop n)
  | _, _, 0, h => h
  | _, _, _ + 1, .nil => .nil
  | _, _, n + 1, .cons _ t => RelDs.drop n t
theorem RelDs.take : ∀ {xs : List Dv} {vs : List V} (n : Nat), RelDs K cl G xs vs → RelDs K cl G (xs.take n) (vs.take n)
  | _, _, 0, _ => .nil
  | _, _, _ + 1, .nil => .nil
  | _, _, n + 1, .cons q t => .cons q (RelDs.take n t)
theorem cutG_rel {xs : List Dv} {vs : List V} (h : RelDs K cl G xs vs) (lo hi : Option Int) : RelDs K cl G (cutG xs lo hi) (cutV vs lo hi) := by
  unfold cutG cutV
  rw [h.length]
  exact (h.drop _).take _
end
def RO (X : Cx) (cl : CL) (Wx : WX) (f : Fr → Sto → Res (Option Int)) : TO := fun σ H Q => ∃ W F S, At X.K cl W F S σ H ∧ Out X.K cl Wx (fun _ _ (a b : Option Int) => b = a) F.b W S σ (f F S) Q
def oNo : Fr → Sto → Res (Option Int) := fun _ S => .ok none S
def oSoR : Option Dv → Sto → Res (Option Int)
  | some (.int i), S => .ok (some i) S
  | _, _ => .bad
def oSo (fe : Fr → Sto → Res SV) : Fr → Sto → Res (Option Int) := fun F S => (fe F S).bind fun x S1 => oSoR (view S1 x) S1
def slR (lo hi : Option Int) : Option Dv → Sto → Res SV
  | some (.lst xs), S => .ok (.d (.lst (cutG xs lo hi))) S
  | some (.tup xs), S => .ok (.d (.tup (cutG xs lo hi))) S
  | _, _ => .bad
/-- x[lo:hi] -/
def eSl (fe : Fr → Sto → Res SV) (fl fh : Fr → Sto → Res (Option Int)) : Fr → Sto → Res SV := fun F S => (fe F S).bind fun x S1 => (fl F S1).bind fun lo S2 => (fh F S2).bind fun hi S3 => slR lo hi (view S3 x) S3
section
variable {X : Cx} {cl : CL} {Wx : WX} {e a : Expr} {fe : Fr → Sto → Res SV} {fl fh : Fr → Sto → Res (Option Int)} {lo hi : Option Expr} {pos p2 : Pos} {W : Wd} {F : Fr} {S : Sto} {σ : St} {H : Hp}
theorem PO.weak {e : Option Expr} {t t' : TO} (h : PO X e t) (k : ∀ σ H Q, t' σ H Q → t σ H Q) : PO X e t' := ⟨fun pins s σ H Q I q => h.run pins s σ H Q I (k σ H Q q)⟩
theorem ov_no : PO X none (RO X cl Wx oNo) := PO.weak po_none fun σ H Q ⟨W, F, S, a, o⟩ => o.here a.rel rfl
theorem RE.ofO {f : Fr → Sto → Res SV} {g : SV → Sto → Res (Option Int)} {Q : Option Int → Hp → Prop} {Q' : VK} (a : At X.K cl W F S σ H) (h : Out X.K cl Wx (fun _ _ (a b : Option Int) => b = a) F.b W S σ ((f F S).bind g) Q)
    (k : ∀ W1 S1 x v H1, Gr F.b S S1 → Le S.length W W1 → At X.K cl W1 F S1 σ H1 → RelSV X.K cl W1 S1.length x v → Out X.K cl Wx (fun _ _ (a b : Option Int) => b = a) F.b W1 S1 σ (g x S1) Q → Q' v H1) : RE X cl Wx f σ H Q' :=
  ⟨W, F, S, a, (Out.bind h).mono fun v H1 ⟨W1, S1, x, g1, l1, r1, q1, o1⟩ => k W1 S1 x v H1 g1 l1 (a.on g1 l1 r1) q1 o1⟩
theorem RO.of {f : Fr → Sto → Res (Option Int)} {g : Option Int → Sto → Res SV} {Q : VK} {Q' : Option Int → Hp → Prop} (a : At X.K cl W F S σ H) (h : Out X.K cl Wx (RSV X.K cl) F.b W S σ ((f F S).bind g) Q)
    (k : ∀ W1 S1 x H1, Gr F.b S S1 → Le S.length W W1 → At X.K cl W1 F S1 σ H1 → Out X.K cl Wx (RSV X.K cl) F.b W1 S1 σ (g x S1) Q → Q' x H1) : RO X cl Wx f σ H Q' :=
  ⟨W, F, S, a, (Out.bind (Ra := fun _ _ (a b : Option Int) => b = a) h).mono fun v H1 ⟨W1, S1, x, g1, l1, r1, q1, o1⟩ => by
    obtain rfl : v = x := q1
    exact k W1 S1 v H1 g1 l1 (a.on g1 l1 r1) o1⟩
theorem ov_so (h : PE X a (RE X cl Wx fe)) : PO X (some a) (RO X cl Wx (oSo fe)) := PO.weak (po_some h) fun σ H Q ⟨W, F, S, a, o⟩ => RE.ofO a o fun W1 S1 x v H1 g1 l1 a1 q1 o1 => by
  unfold oSoR at o1
  split at o1
  · rename_i i e
    exact ⟨i, view_int a1.rel e q1, o1.here a1.rel rfl⟩
  · exact o1.elim
theorem ev_sl (hc : X.calm = true) (h : PE X e (RE X cl Wx fe)) (hl : PO X lo (RO X cl Wx fl)) (hh : PO X hi (RO X cl Wx fh)) : PE X (.Subscript e (.Slice lo hi none p2) pos) (RE X cl Wx (eSl fe fl fh)) :=
  PE.weak (pe_slice (SlR.or sl_list sl_tupA) h hl hh) fun σ H Q ⟨W, F, S, a, o⟩ => RE.of a o fun W1 S1 x v H1 g1 l1 a1 q1 o1 => RO.of a1 o1 fun W2 S2 l H2 g2 l2 a2 o2 => RO.of a2 o2 fun W3 S3 u H3 g3 l3 a3 o3 => by
    have q3 := RelSV.le (l2.trans l3 g2.len) (Nat.le_trans g2.len g3.len) q1
    unfold slR at o3
    split at o3
    · rename_i xs e
      obtain ⟨p, vs, rfl, s1, t1⟩ := view_lst a3.rel e q3
      refine .inl ⟨p, vs, rfl, s1, fun y hy => ?_⟩
      obtain ⟨r4, l4⟩ := a3.rel.newF (ho := .lst (cutV vs l u)) hy
      exact o3 _ _ _ (.refl _ _) l4 r4 (RelD.lst (SqL.of upd_same) (cutG_rel (RelDs.le l4 t1) l u))
    · rename_i xs e
      obtain ⟨p, vs, rfl, s1, t1, w1⟩ := view_tup a3.rel e q3
      refine .inr ⟨p, vs, rfl, s1, fun hw => ?_, fun _ y hy => ?_⟩
      · have hcut : cutG xs l u = xs := by
          unfold cutG
          rw [t1.length, hw.1, hw.2, List.drop_zero, ← t1.length, Nat.sub_zero, List.take_length]
        rw [hcut] at o3
        exact o3.here a3.rel w1
      · obtain ⟨r4, l4⟩ := a3.rel.newF (ho := .tup (cutV vs l u)) hy
        exact o3 _ _ _ (.refl _ _) l4 r4 (RelD.tup (SqT.of upd_same) (cutG_rel (RelDs.le l4 t1) l u))
    · exact o3.elim
end
/-! ### how they are reckoned -/
def kO1s (fh : Fr → Sto → Res (Option Int)) (F : Fr) (x : SV) (lo : Option Int) (r : Res (Option Int)) : Res SV := r.bind fun hi S3 => slR lo hi (view S3 x) S3
@[simp] theorem kO1s_ok (fh : Fr → Sto → Res (Option Int)) (F : Fr) (x : SV) (lo hi : Option Int) (S : Sto) : kO1s fh F x lo (.ok hi S) = slR lo hi (view S x) S := Eq.trans rfl rfl
def kO2s (fh : Fr → Sto → Res (Option Int)) (F : Fr) (x : SV) (r : Res (Option Int)) : Res SV := r.bind fun lo S2 => kO1s fh F x lo (fh F S2)
@[simp] theorem kO2s_ok (fh : Fr → Sto → Res (Option Int)) (F : Fr) (x : SV) (lo : Option Int) (S : Sto) : kO2s fh F x (.ok lo S) = kO1s fh F x lo (fh F S) := Eq.trans rfl rfl
def kO3s (fl fh : Fr → Sto → Res (Option Int)) (F : Fr) (r : Res SV) : Res SV := r.bind fun x S1 => kO2s fh F x (fl F S1)
@[simp] theorem kO3s_ok (fl fh : Fr → Sto → Res (Option Int)) (F : Fr) (x : SV) (S : Sto) : kO3s fl fh F (.ok x S) = kO2s fh F x (fl F S) := Eq.trans rfl rfl
@[simp] theorem eSl_ap (fe : Fr → Sto → Res SV) (fl fh : Fr → Sto → Res (Option Int)) (F : Fr) (S : Sto) : eSl fe fl fh F S = kO3s fl fh F (fe F S) := Eq.trans rfl rfl
@[simp] theorem oNo_ap (F : Fr) (S : Sto) : oNo F S = .ok none S := Eq.trans rfl rfl
def kSo (r : Res SV) : Res (Option Int) := r.bind fun x S1 => oSoR (view S1 x) S1
@[simp] theorem kSo_ok (x : SV) (S : Sto) : kSo (.ok x S) = oSoR (view S x) S := Eq.trans rfl rfl
@[simp] theorem oSo_ap (fe : Fr → Sto → Res SV) (F : Fr) (S : Sto) : oSo fe F S = kSo (fe F S) := Eq.trans rfl rfl
@[simp] theorem oSoR_i (i : Int) (S : Sto) : oSoR (some (.int i)) S = .ok (some i) S := Eq.trans rfl rfl
@[simp] theorem slR_l (lo hi : Option Int) (xs : List Dv) (S : Sto) : slR lo hi (some (.lst xs)) S = .ok (.d (.lst (cutG xs lo hi))) S := Eq.trans rfl rfl
@[simp] theorem slR_t (lo hi : Option Int) (xs : List Dv) (S : Sto) : slR lo hi (some (.tup xs)) S = .ok (.d (.tup (cutG xs lo hi))) S := Eq.trans rfl rfl
end Ev

set_option Elab.async false
set_option linter.all false
set_option maxRecDepth 100000
/-! Ev19: chains of two comparisons. -/
namespace Ev
open PySem L2
def chR (o' : Sto → SV → SV → Option Dv) (h : Fr → Sto → Res SV) (F : Fr) (y : SV) (S : Sto) : Option Dv → Res SV
  | some (.bl true) => (h F S).bind fun z S3 => optD (o' S3 y z) S3
  | some (.bl false) => .ok (.d (.bl false)) S
  | _ => .bad
def eChain (o o' : Sto → SV → SV → Option Dv) (f g h : Fr → Sto → Res SV) : Fr → Sto → Res SV := fun F S => (f F S).bind fun x S1 => (g F S1).bind fun y S2 => chR o' h F y S2 (o S2 x y)
section
variable {X : Cx} {cl : CL} {Wx : WX} {a b c : Expr} {f g h : Fr → Sto → Res SV} {op op' : CmpOp} {o o' : Sto → SV → SV → Option Dv} {pos : Pos}
theorem chain_use {σ : St} {H : Hp} {Q : VK} (q0 : RE X cl Wx (eChain o o' f g h) σ H Q) : tChain (ROp X cl o) (ROp X cl o') (RE X cl Wx f) (RE X cl Wx g) (RE X cl Wx h) σ H Q := by
  obtain ⟨W, F, S, t, q⟩ := q0
  exact RE.of t q fun W1 S1 x v H1 g1 l1 a1 q1 o1 => RE.of a1 o1 fun W2 S2 y w H2 g2 l2 a2 q2 o2 => by
    have qx := RelSV.le l2 g2.len q1
    unfold chR at o2
    split at o2
    · rename_i e
      refine ⟨W2, S2, x, y, _, a2.rel, qx, q2, e, fun W' H' v' l' r' d' => ?_⟩
      cases d'
      refine ⟨true, rfl, ?_⟩
      rw [if_pos rfl]
      have a3 := a2.on (Gr.refl F.b S2) l' r'
      refine RE.of a3 (Out.rebase o2 (.refl _ _) l') fun W3 S3 z u H3 g3 l3 a4 q3 o3 => ?_
      cases e' : o' S3 y z with
      | none => rw [e'] at o3; exact o3.elim
      | some zz =>
        rw [e'] at o3
        exact ⟨W3, S3, y, z, zz, a4.rel, RelSV.le (l'.trans l3 (Nat.le_refl _)) g3.len q2, q3, e', fun W4 H4 v4 l4 r4 d4 => o3 W4 H4 v4 (.refl _ _) l4 r4 d4⟩
    · rename_i e
      refine ⟨W2, S2, x, y, _, a2.rel, qx, q2, e, fun W' H' v' l' r' d' => ?_⟩
      cases d'
      exact ⟨false, rfl, by rw [if_neg (by decide)]; exact o2 W' H' _ (.refl _ _) l' r' (RelD.bl false)⟩
    · exact o2.elim
theorem ev_chain (ho : OpR X (compareOp op) (ROp X cl o)) (ho' : OpR X (compareOp op') (ROp X cl o')) (ha : PE X a (RE X cl Wx f)) (hb : PE X b (RE X cl Wx g)) (hc : PE X c (RE X cl Wx h)) (hm : lastMarks [op, op'] [b, c] = false := by with_unfolding_all rfl) :
    PE X (.Compare a [op, op'] [b, c] pos) (RE X cl Wx (eChain o o' f g h)) :=
  PE.weak (pe_chain ho ho' ha hb hc hm) fun σ H Q q => chain_use q
theorem tv_chain (ho : OpR X (compareOp op) (ROp X cl o)) (ho' : OpR X (compareOp op') (ROp X cl o')) (ha : PE X a (RE X cl Wx f)) (hb : PE X b (RE X cl Wx g)) (hc : PE X c (RE X cl Wx h)) (hm : lastMarks [op, op'] [b, c] = false := by with_unfolding_all rfl) :
    PT X (.Compare a [op, op'] [b, c] pos) (RT X cl Wx (tV (eChain o o' f g h))) :=
  PT.weak (pt_chain ho ho' ha hb hc hm) fun σ H Q q => chain_use (tV_use q)
end
def kCh2 (o o' : Sto → SV → SV → Option Dv) (h : Fr → Sto → Res SV) (F : Fr) (x : SV) (r : Res SV) : Res SV := r.bind fun y S2 => chR o' h F y S2 (o S2 x y)
@[simp] theorem kCh2_ok (o o' : Sto → SV → SV → Option Dv) (h : Fr → Sto → Res SV) (F : Fr) (x y : SV) (S : Sto) : kCh2 o o' h F x (.ok y S) = chR o' h F y S (o S x y) := Eq.trans rfl rfl
def kCh1 (o o' : Sto → SV → SV → Option Dv) (g h : Fr → Sto → Res SV) (F : Fr) (r : Res SV) : Res SV := r.bind fun x S1 => kCh2 o o' h F x (g F S1)
@[simp] theorem kCh1_ok (o o' : Sto → SV → SV → Option Dv) (g h : Fr → Sto → Res SV) (F : Fr) (x : SV) (S : Sto) : kCh1 o o' g h F (.ok x S) = kCh2 o o' h F x (g F S) := Eq.trans rfl rfl
@[simp] theorem eChain_ap (o o' : Sto → SV → SV → Option Dv) (f g h : Fr → Sto → Res SV) (F : Fr) (S : Sto) : eChain o o' f g h F S = kCh1 o o' g h F (f F S) := Eq.trans rfl rfl
def kCh3 (o' : Sto → SV → SV → Option Dv) (y : SV) (r : Res SV) : Res SV := r.bind fun z S3 => optD (o' S3 y z) S3
@[simp] theorem kCh3_ok (o' : Sto → SV → SV → Option Dv) (y z : SV) (S : Sto) : kCh3 o' y (.ok z S) = optD (o' S y z) S := Eq.trans rfl rfl
@[simp] theorem chR_b (o' : Sto → SV → SV → Option Dv) (h : Fr → Sto → Res SV) (F : Fr) (y : SV) (S : Sto) (b : Bool) : chR o' h F y S (some (.bl b)) = if b = true then kCh3 o' y (h F S) else .ok (.d (.bl false)) S := by cases b <;> rfl
end Ev

set_option Elab.async false
set_option linter.all false
set_option maxRecDepth 100000
/-! Ev20: dicts that are written, get, dict(d), list(d), dicts of the module, d == d. -/
namespace Ev
open PySem L2
abbrev FE := Fr → Sto → Res SV
/-! ### {k: v, ..} -/
def dspL : List (FE × FE) → Fr → Sto → Res (List (SV × SV))
  | [], _, S => .ok [] S
  | (fk, fv) :: r, F, S => (fk F S).bind fun x S1 => (fv F S1).bind fun y S2 => (dspL r F S2).bind fun ps S3 => .ok ((x, y) :: ps) S3
def dMg (S : Sto) : List (SV × SV) → List Key → List SV → Option (List Key × List SV)
  | [], ks, xs => some (ks, xs)
  | (x, y) :: r, ks, xs => match (view S x).bind kOf with
    | some k => dMg S r (dPut k y ks xs).1 (dPut k y ks xs).2
    | none => none
def dspR (j : Nat) (S : Sto) : Option (List Key × List SV) → Res SV
  | some (ks, xs) => .ok (.m j) (S.set j (.dic ks xs))
  | none => .bad
def dspC (j : Nat) (qs : List (SV × SV)) (S : Sto) : Option MO → Res SV
  | some (.dic [] []) => if qs.length ≤ 15 then dspR j S (dMg S qs [] []) else .bad
  | _ => .bad
def eDspW (fi : Nat → Res SV → Res SV) (ps : List (FE × FE)) : FE := fun F S =>
  fi S.length ((dspL ps ⟨S.length, F.v⟩ (S ++ [.dic [] []])).bind fun qs S1 => dspC S.length qs S1 S1[S.length]?)
abbrev eDsp := eDspW fin
abbrev eDspK := eDspW finK
theorem Res.bind_assoc {α β γ : Type} (r : Res α) (f : α → Sto → Res β) (g : β → Sto → Res γ) : (r.bind f).bind g = r.bind fun a S => (f a S).bind g := by cases r <;> rfl
section
variable {X : Cx} {cl : CL} {Wx : WX}
def dTrs (X : Cx) (cl : CL) (Wx : WX) (ps : List (FE × FE)) : List (TE × TE) := ps.map fun p => (RE X cl Wx p.1, RE X cl Wx p.2)
theorem pp_nil {pos : Pos} : PPs X pos [] [] (dTrs X cl Wx []) := pps_nil
theorem pp_cons {pos : Pos} {k v : Expr} {ks : List (Option Expr)} {vs : List Expr} {fk fv : FE} {ps : List (FE × FE)} (hk : PE X k (RE X cl Wx fk)) (hv : PE X v (RE X cl Wx fv)) (hr : PPs X pos ks vs (dTrs X cl Wx ps)) :
    PPs X pos (some k :: ks) (v :: vs) (dTrs X cl Wx ((fk, fv) :: ps)) := pps_cons hk hv hr
def RPr (K : PySem.W.Frag) (cl : Nat → Addr) (W : Wd) (n : Nat) (p : SV × SV) (q : V × V) : Prop := RelSV K cl W n p.1 q.1 ∧ RelSV K cl W n p.2 q.2
theorem dsp_use {σ : St} {b : Nat} {Q : VK} {F : Fr} : ∀ (ps : List (FE × FE)) {W : Wd} {S : Sto} {H : Hp} {g : List (SV × SV) → Sto → Res SV} {Q' : List (V × V) → Hp → Prop},
    At X.K cl W F S σ H → Out X.K cl Wx (RSV X.K cl) F.b W S σ ((dspL ps F S).bind g) Q →
    (∀ W1 S1 qs ws H1, Gr F.b S S1 → Le S.length W W1 → At X.K cl W1 F S1 σ H1 → Paired (RPr X.K cl W1 S1.length) qs ws → Out X.K cl Wx (RSV X.K cl) F.b W1 S1 σ (g qs S1) Q → Q' ws H1) → tPairs (dTrs X cl Wx ps) σ H Q'
  | [], W, S, H, g, Q', a, o, k => k W S [] [] H (.refl _ _) (.refl _ _) a .nil o
  | (fk, fv) :: r, W, S, H, g, Q', a, o, k => by
    have e : (dspL ((fk, fv) :: r) F S).bind g = (fk F S).bind fun x S1 => (fv F S1).bind fun y S2 => (dspL r F S2).bind fun ps S3 => g ((x, y) :: ps) S3 := by
      show ((fk F S).bind fun x S1 => (fv F S1).bind fun y S2 => (dspL r F S2).bind fun ps S3 => .ok ((x, y) :: ps) S3).bind g = _
      rw [Res.bind_assoc]
      congr 1
      funext x S1
      rw [Res.bind_assoc]
      congr 1
      funext y S2
      rw [Res.bind_assoc]
      rfl
    rw [e] at o
    refine RE.of a o fun W1 S1 x v H1 g1 l1 a1 q1 o1 => ?_
    refine RE.of a1 o1 fun W2 S2 y u H2 g2 l2 a2 q2 o2 => ?_
    refine dsp_use r (b := b) a2 o2 fun W3 S3 qs ws H3 g3 l3 a3 q3 o3 => ?_
    have l13 := l2.trans l3 g2.len
    refine k W3 S3 ((x, y) :: qs) ((v, u) :: ws) H3 (g1.trans (g2.trans g3 (Nat.le_refl _)) (Nat.le_refl _)) (l1.trans l13 g1.len) a3 (.cons ⟨?_, ?_⟩ q3) o3
    · exact RelSV.le l13 (Nat.le_trans g2.len g3.len) q1
    · exact RelSV.le l3 g3.len q2
theorem dPut_len {k : Key} {x : SV} {ks : List Key} {xs : List SV} (l : DKl ks xs.length) (ko : keyOk k = true) : DKl (dPut k x ks xs).1 (dPut k x ks xs).2.length := by
  unfold dPut
  by_cases h : hasK k ks = true
  · rw [if_pos h]
    exact ⟨zw_len l.1, l.2⟩
  · rw [if_neg h]
    exact ⟨by simp [l.1], by simp [l.2, ko]⟩
theorem dMg_rel {W : Wd} {S : Sto} {H : Hp} (r : Rel X.K cl W S H) : ∀ {qs : List (SV × SV)} {ws : List (V × V)} {ks : List Key} {xs : List SV} {vs : List V} {ks' : List Key} {xs' : List SV}, Paired (RPr X.K cl W S.length) qs ws → DKl ks xs.length → Paired (RelSV X.K cl W S.length) xs vs → dMg S qs ks xs = some (ks', xs') →
    ∃ kvs vs', ws = kvs.map (fun kv => (L2.kV kv.1, kv.2)) ∧ kvs.length = qs.length ∧ mergeK (ks.zip vs) kvs = ks'.zip vs' ∧ DKl ks' xs'.length ∧ Paired (RelSV X.K cl W S.length) xs' vs'
  | [], _, ks, xs, vs, ks', xs', .nil, l, p, e => by
    cases e
    exact ⟨[], vs, rfl, rfl, rfl, l, p⟩
  | (x, y) :: qs, (v, u) :: ws, ks, xs, vs, ks', xs', .cons q t, l, p, e => by
    obtain ⟨q1, q2⟩ := q
    unfold dMg at e
    cases hv : view S x with
    | none => rw [hv] at e; cases e
    | some kd =>
      cases hk : kOf kd with
      | none => simp only [hv, Option.bind_some, hk] at e; cases e
      | some k =>
        simp only [hv, Option.bind_some, hk] at e
        have ev : v = L2.kV k := key_rel r hv q1 hk
        have ko := key_ok r hv q1 hk
        have lv : ks.length = vs.length := l.1.trans (PySem.Paired.length p)
        have p2 : ∃ vs2, putK (ks.zip vs) k u = (dPut k y ks xs).1.zip vs2 ∧ Paired (RelSV X.K cl W S.length) (dPut k y ks xs).2 vs2 := by
          rw [put_zip lv]
          unfold dPut
          by_cases h : hasK k ks = true
          · rw [if_pos h, if_pos h]; exact ⟨_, rfl, paired_zw q2 p⟩
          · rw [if_neg h, if_neg h]; exact ⟨_, rfl, paired_snoc p q2⟩
        obtain ⟨vs2, e2, p2⟩ := p2
        obtain ⟨kvs, vs', e3, e4, e5, l', p'⟩ := dMg_rel r t (dPut_len l ko) p2 e
        refine ⟨(k, u) :: kvs, vs', by rw [e3, ev]; rfl, by simp [e4], ?_, l', p'⟩
        show mergeK (putK (ks.zip vs) k u) kvs = _
        rw [e2, e5]
theorem ev_dsp {fi : Nat → Res SV → Res SV} {pos : Pos} {keys : List (Option Expr)} {values : List Expr} {ps : List (FE × FE)} (hfi : FiOk fi) (h : PPs X pos keys values (dTrs X cl Wx ps)) (hall : keys.all (·.isSome) = true) (hl : keys.length = values.length) (h0 : keys ≠ [])
    (h15 : keys.length ≤ 15) : PE X (.Dict keys values pos) (RE X cl Wx (eDspW fi ps)) :=
  PE.weak (pe_disp h hall hl h0 h15) fun σ H Q ⟨W, F, S, a, o⟩ => fun p hp => by
    have o3 := hfi.out a.rel a.b o
    have r1 := a.rel.newM (p := p) (mo := .dic [] []) (ho := .dK []) hp ⟨a.rel.unone hp, [], upd_same, ⟨rfl, rfl⟩, .nil⟩
    have hl : (S ++ [MO.dic [] []]).length = S.length + 1 := by rw [List.length_append]; rfl
    have a1 : At X.K cl (W.add S.length p) ⟨S.length, F.v⟩ (S ++ [.dic [] []]) σ (upd H p (.dK [])) := ⟨by rw [hl]; exact Nat.le_succ _, r1, by rw [hl]; exact a.env.le (W.add_le _ _) (Nat.le_succ _), cl.mono (W.add_le _ _) a.gh⟩
    have o4 := Out.rebase o3 (Gr.add S.length S (.dic [] []) (Nat.le_refl _)) (W.add_le S.length p)
    refine dsp_use ps (b := S.length) a1 o4 fun W1 S1 qs ws H1 g1 l1 a2 q1 o5 => ?_
    have hn : S.length < S1.length := by
      have := g1.len
      rw [hl] at this
      exact this
    have hρ : W1.ρ S.length = p := by rw [l1.r S.length (by rw [hl]; exact Nat.lt_succ_self _), Wd.add_at]
    unfold dspC at o5
    split at o5
    · rename_i hz
      have h15' : qs.length ≤ 15 := by
        by_cases z : qs.length ≤ 15
        · exact z
        · rw [if_neg z] at o5; exact o5.elim
      rw [if_pos h15'] at o5
      cases hd : dMg S1 qs [] [] with
      | none => rw [hd] at o5; exact o5.elim
      | some kx =>
        obtain ⟨ks', xs'⟩ := kx
        rw [hd] at o5
        have z := a2.rel.st _ _ hz
        obtain ⟨g0, vs0, h1, _, p0⟩ := z
        cases p0
        rw [hρ] at h1 g0
        obtain ⟨kvs, vs', e1, e2, e3, l', p'⟩ := dMg_rel a2.rel q1 (vs := []) ⟨rfl, rfl⟩ .nil hd
        refine ⟨h1, kvs, e1, ?_, ?_⟩
        · rw [e2]; exact h15'
        · have e4 : mergeK [] kvs = ks'.zip vs' := e3
          rw [e4]
          have r3 := a2.rel.set hz rfl (ho := .dK (ks'.zip vs')) (mo' := .dic ks' xs') ⟨by rw [hρ]; exact g0, vs', by rw [hρ]; exact upd_same, l', p'⟩
          rw [hρ] at r3
          refine o5 W1 _ _ (Gr.set fun b' hb' w hi => absurd hi (Nat.not_lt.mpr hb')) (.refl _ _) r3 ⟨?_, by rw [hρ]⟩
          rw [List.length_set]
          exact hn
    · exact o5.elim

/-! ### d.get(k, x), d.get(k) -/
def getR (S : Sto) (z : SV) : Option (List Key × List SV) → Option Key → Option SV
  | some (ks, xs), some k => some ((lookK k ks xs).getD z)
  | _, _ => none
def getS (S : Sto) (o y z : SV) : Option SV := getR S z (dictOf S o) ((view S y).bind kOf)
def isDic (S : Sto) (o : SV) : Bool := (dictOf S o).isSome
def eGet (fo fy fz : FE) : FE := fun F S => (fo F S).bind fun o S1 => if isDic S1 o = true then (fy F S1).bind fun y S2 => (fz F S2).bind fun z S3 => optS (getS S3 o y z) S3 else .bad
def eGet1 (fo fy : FE) : FE := fun F S => (fo F S).bind fun o S1 => if isDic S1 o = true then (fy F S1).bind fun y S2 => optS (getS S2 o y (.d .non)) S2 else .bad
variable {o e f : Expr} {apos cpos : Pos} {fo fy fz : FE} {pos : Pos}
theorem dget_rel {K : PySem.W.Frag} {W : Wd} {S : Sto} {H : Hp} {o y z w : SV} {v u t : V} (r : Rel K cl W S H) (ro : RelSV K cl W S.length o v) (ry : RelSV K cl W S.length y u) (rz : RelSV K cl W S.length z t) (e : getS S o y z = some w) :
    ∃ a ov, v = .ref a ∧ DGet H a u ov ∧ RelSV K cl W S.length w (ov.getD t) := by
  unfold getS getR at e
  split at e
  · rename_i ks xs k ed ek
    cases e
    obtain ⟨a, vs, e1, s1, l1, t1⟩ := dict_rel r ed ro
    cases hv : view S y with
    | none => rw [hv] at ek; cases ek
    | some kd =>
      rw [hv] at ek
      have ek : kOf kd = some k := ek
      have lr := look_rel k l1.1 t1
      refine ⟨a, valV (ks.zip vs) k, e1, .inl ⟨_, k, s1, key_rel r hv ry ek, rfl⟩, ?_⟩
      cases h : lookK k ks xs with
      | none => rw [lr.2 h]; exact rz
      | some x =>
        obtain ⟨x', h1, h2⟩ := lr.1 x h
        rw [h1]; exact h2
  · cases e
theorem isDic_rel {K : PySem.W.Frag} {W : Wd} {S : Sto} {H : Hp} {o : SV} {v : V} (r : Rel K cl W S H) (ro : RelSV K cl W S.length o v) (e : isDic S o = true) : ∃ a, v = .ref a ∧ IsD H a := by
  unfold isDic at e
  cases h : dictOf S o with
  | none => rw [h] at e; cases e
  | some p =>
    obtain ⟨a, vs, e1, s1, _⟩ := dict_rel r h ro
    exact ⟨a, e1, .inl ⟨_, s1⟩⟩
theorem ev_get (hu : X.A.units + 1 < cLine) (ho : PE X o (RE X cl Wx fo)) (he : PE X e (RE X cl Wx fy)) (hf : PE X f (RE X cl Wx fz)) (m : M2 X o "get" apos e f cpos := by exact ⟨rfl, rfl, rfl, rfl⟩) : PE X (.Call (.Attribute o "get" apos) [e, f] [] cpos) (RE X cl Wx (eGet fo fy fz)) :=
  PE.weak (pe_dget2 hu ho he hf m) fun σ H Q ⟨W, F, S, a, q⟩ => by
    refine RE.of a q fun W1 S1 x v H1 g1 l1 a1 q1 o1 => ?_
    split at o1
    · rename_i hd
      obtain ⟨p, e1, d1⟩ := isDic_rel a1.rel q1 hd
      refine ⟨p, e1, d1, RE.of a1 o1 fun W2 S2 y u H2 g2 l2 a2 q2 o2 => ?_⟩
      refine RE.of a2 o2 fun W3 S3 z t H3 g3 l3 a3 q3 o3 => ?_
      have l13 := l2.trans l3 g2.len
      cases hg : getS S3 x y z with
      | none => rw [hg] at o3; exact o3.elim
      | some w =>
        rw [hg] at o3
        obtain ⟨a', ov, e2, dg, rw'⟩ := dget_rel a3.rel (RelSV.le l13 (Nat.le_trans g2.len g3.len) q1) (RelSV.le l3 g3.len q2) q3 hg
        rw [e1] at e2
        cases e2
        exact ⟨ov, dg, o3.here a3.rel rw'⟩
    · exact o1.elim
theorem ev_get1 (hu : X.A.units + 1 < cLine) (ho : PE X o (RE X cl Wx fo)) (he : PE X e (RE X cl Wx fy)) (m : M1 X o "get" apos e cpos := by exact ⟨rfl, rfl, rfl, rfl⟩) : PE X (.Call (.Attribute o "get" apos) [e] [] cpos) (RE X cl Wx (eGet1 fo fy)) :=
  PE.weak (pe_dget1 hu ho he m) fun σ H Q ⟨W, F, S, a, q⟩ => by
    refine RE.of a q fun W1 S1 x v H1 g1 l1 a1 q1 o1 => ?_
    split at o1
    · rename_i hd
      obtain ⟨p, e1, d1⟩ := isDic_rel a1.rel q1 hd
      refine ⟨p, e1, d1, RE.of a1 o1 fun W2 S2 y u H2 g2 l2 a2 q2 o2 => ?_⟩
      cases hg : getS S2 x y (.d .non) with
      | none => rw [hg] at o2; exact o2.elim
      | some w =>
        rw [hg] at o2
        obtain ⟨a', ov, e2, dg, rw'⟩ := dget_rel a2.rel (RelSV.le l2 g2.len q1) q2 (show RelSV X.K cl W2 S2.length (.d .non) .non from RelD.non) hg
        rw [e1] at e2
        cases e2
        exact ⟨ov, dg, o2.here a2.rel rw'⟩
    · exact o1.elim

/-! ### a dict of the module: its values -/
def cdR (tbl : List (Str × Dv)) (S : Sto) : Option Dv → Res SV
  | some (.str s) => optD ((tbl.find? fun p => p.1 == s).map (·.2)) S
  | _ => .bad
def eCd (tbl : List (Str × Dv)) (fy : FE) : FE := fun F S => (fy F S).bind fun y S1 => cdR tbl S1 (view S1 y)
structure KTbl (K : PySem.W.Frag) (cl : Nat → Addr) (w : World) (d : Addr) (tbl : List (Str × Dv)) : Prop where
  at' : ∀ q, q ∈ tbl → ∃ v, KDct K w d q.1 v ∧ ∀ G, RelD K cl G q.2 v
theorem ev_cd {d : Addr} {tbl : List (Str × Dv)} {x : Str} {p : Pos} (T : KTbl X.K cl X.w d tbl) (hg : Gl X x) (hm : X.mg x = some (.ref d)) (he : PE X e (RE X cl Wx fy)) (hdb : (x == ("__debug__" : Str)) = false := by decide +kernel) (hs : PlainIx e := by exact fun _ _ => rfl) : PE X (.Subscript (.Name x p) e pos) (RE X cl Wx (eCd tbl fy)) :=
  PE.weak (pe_ix ix_kdict (pe_glob (v := .ref d) hg hm rfl hdb) he hs) fun σ H Q ⟨W, F, S, a, q⟩ => by
    refine RE.of a q fun W1 S1 y u H1 g1 l1 a1 q1 o1 => ?_
    unfold cdR at o1
    split at o1
    · rename_i s hs
      cases hf : tbl.find? fun p => p.1 == s with
      | none => rw [hf] at o1; exact o1.elim
      | some q =>
        rw [hf] at o1
        have hq := List.mem_of_find?_eq_some hf
        have hk : q.1 = s := by
          have := List.find?_some hf
          simpa using this
        obtain ⟨v, kd, rd⟩ := T.at' q hq
        obtain ⟨e1, _⟩ := view_str a1.rel hs q1
        exact ⟨d, s, v, rfl, e1, by rw [← hk]; exact kd, o1.here a1.rel (rd _)⟩
    · exact o1.elim

/-! ### dict(d), list(d) -/
def biDict (S : Sto) : List SV → Option Dv
  | [a] => match dictOf S a with
    | some (ks, xs) => (rdDs S xs).map (.dic ks)
    | none => none
  | _ => none
theorem ov_dict : CallR X (.type "dict") (RCall X cl biDict) := CallR.weak call_dictD fun xs H Q ⟨W, S, as, z, r, ra, e, k⟩ => by
  match as, xs, ra, e with
  | [a], [v], .cons ra .nil, e =>
    simp only [biDict] at e
    split at e
    · rename_i ks ys ed
      obtain ⟨p, vs, rfl, h1, h2, h3⟩ := dict_rel r ed ra
      cases hr : rdDs S ys with
      | none => rw [hr] at e; cases e
      | some ds =>
        rw [hr] at e
        cases e
        refine ⟨p, _, rfl, h1, fun q hq => ?_⟩
        obtain ⟨r2, l2⟩ := r.newF (ho := .dK (ks.zip vs)) hq
        exact k _ _ _ l2 r2 (.dic upd_same rfl (rdDs_len hr ▸ h2) (RelDs.le l2 (rdDs_rel r hr h3)))
    · cases e
def dcM : Option (List Key × List SV) → Sto → Res SV
  | some (ks, xs), S => .ok (.m S.length) (S ++ [.dic ks xs])
  | none, _ => .bad
def dcA (S : Sto) : List SV → Res SV
  | [a] => dcM (dictOf S a) S
  | _ => .bad
/-- dict(d) that will change -/
def eDictM (f : Fr → Sto → Res (List SV)) : FE := fun F S => (f F S).bind fun as S1 => dcA S1 as
theorem ev_dictM {x : Str} {p : Pos} {es : List Expr} {fa : Fr → Sto → Res (List SV)} (hg : Gl X x) (hm : X.mg x = none) (ha : PA X (e :: es) (RA X cl Wx fa)) (hv : bootBuiltins x = some (.type "dict") := by decide +kernel) (hn : x ≠ "__name__" := by decide +kernel) (hdb : (x == ("__debug__" : Str)) = false := by decide +kernel)
    (he : starEach (e :: es) X.env = (false, eval e X.env) :: starEach es X.env := by rfl) (hpl : (backTo pos (starEach es X.env)).any (·.1) = false := by rfl) : PE X (.Call (.Name x p) (e :: es) [] pos) (RE X cl Wx (eDictM fa)) :=
  PE.weak (pe_callTy call_dictD hg hm hv ha hn hdb he hpl) fun σ H Q ⟨W, F, S, a, q⟩ => by
    refine RA.of a q fun W1 S1 xs vs H1 g1 l1 a1 q1 o1 => ?_
    match xs, vs, q1, o1 with
    | [], [], .nil, o1 => exact o1.elim
    | _ :: _ :: _, _, _, o1 => exact o1.elim
    | [x], [v], .cons q1 .nil, o1 =>
      simp only [dcA] at o1
      cases ed : dictOf S1 x with
      | none => rw [ed] at o1; exact o1.elim
      | some kx =>
        obtain ⟨ks, ys⟩ := kx
        rw [ed] at o1
        obtain ⟨p, us, rfl, h1, h2, h3⟩ := dict_rel a1.rel ed q1
        refine ⟨p, _, rfl, h1, fun q hq => ?_⟩
        have r3 := a1.rel.newM (p := q) (mo := .dic ks ys) (ho := .dK (ks.zip us)) hq ⟨a1.rel.unone hq, us, upd_same, h2, RelSVs.le (W1.add_le _ _) (Nat.le_succ _) h3⟩
        refine o1 _ _ _ (Gr.add _ _ _ a1.b) (W1.add_le _ _) r3 ⟨?_, by rw [Wd.add_at]⟩
        rw [List.length_append]
        exact Nat.lt_succ_self _
/-! ### d == d of flat things -/
def f1eq : Dv → Dv → Bool
  | .non, .non => true
  | .bl a, .bl b => a == b
  | .int a, .int b => decide (a = b)
  | .str a, .str b => a == b
  | _, _ => false
def f1eqs : List Dv → List Dv → Bool
  | [], [] => true
  | x :: xs, y :: ys => f1eq x y && f1eqs xs ys
  | _, _ => false
def keysNd : List Key → Bool
  | [] => true
  | k :: r => !hasK k r && keysNd r
theorem f1eq_eq {K : PySem.W.Frag} {G G' : Hp} {x y : Dv} {v u : V} (h : f1eq x y = true) (r : RelD K cl G x v) (r' : RelD K cl G' y u) : v = u ∧ flatB v = true := by
  cases x <;> cases y <;> first | (cases h; done) | skip
  · cases r; cases r'; exact ⟨rfl, rfl⟩
  · cases r; cases r'
    have e := beq_iff_eq.mp h
    exact ⟨by rw [e], rfl⟩
  · cases r; cases r'
    have e := of_decide_eq_true h
    exact ⟨by rw [e], rfl⟩
  · cases r; cases r'
    have e := beq_iff_eq.mp h
    exact ⟨by rw [e], rfl⟩
theorem f1eqs_eq {K : PySem.W.Frag} {G G' : Hp} : ∀ {xs ys : List Dv} {vs us : List V}, f1eqs xs ys = true → RelDs K cl G xs vs → RelDs K cl G' ys us → vs = us ∧ ∀ v ∈ vs, flatB v = true
  | [], [], _, _, _, .nil, .nil => ⟨rfl, fun _ h => by cases h⟩
  | x :: xs, y :: ys, _, _, h, .cons a b, .cons a' b' => by
    obtain ⟨h1, h2⟩ := Bool.and_eq_true_iff.mp (show (f1eq x y && f1eqs xs ys) = true from h)
    obtain ⟨e1, f1⟩ := f1eq_eq h1 a a'
    obtain ⟨e2, f2⟩ := f1eqs_eq h2 b b'
    refine ⟨by rw [e1, e2], fun v hv => ?_⟩
    rcases List.mem_cons.mp hv with rfl | hv
    · exact f1
    · exact f2 v hv
/-- two dicts of the same keys in the same order, with the same flat things -/
def eqDic (S : Sto) (a b : SV) : Option Bool := match dictOf S a, dictOf S b with
  | some (ks, xs), some (ks', xs') => match rdDs S xs, rdDs S xs' with
    | some ds, some ds' => if f1eqs ds ds' = true ∧ ks = ks' ∧ keysNd ks = true then some true else none
    | _, _ => none
  | _, _ => none
theorem val_nd : ∀ {ks : List Key} {vs : List V}, keysNd ks = true → ∀ p ∈ ks.zip vs, valV (ks.zip vs) p.1 = some p.2
  | [], _, _, p, hp => by simp at hp
  | k :: ks, [], _, p, hp => by simp at hp
  | k :: ks, v :: vs, h, p, hp => by
    obtain ⟨h1, h2⟩ := Bool.and_eq_true_iff.mp (show (!hasK k ks && keysNd ks) = true from h)
    rw [List.zip_cons_cons] at hp ⊢
    unfold valV
    rw [List.find?_cons]
    rcases List.mem_cons.mp hp with rfl | hp
    · simp
    · have ih := val_nd h2 p hp
      have hm := (List.of_mem_zip hp).1
      have ne : k ≠ p.1 := fun e => by
        have : hasK k ks = true := List.any_eq_true.mpr ⟨p.1, hm, decide_eq_true e.symm⟩
        rw [this] at h1
        cases h1
      simp only [decide_eq_false ne]
      exact ih
theorem eqDic_rel {K : PySem.W.Frag} {W : Wd} {S : Sto} {H : Hp} {a b : SV} {x y : V} {c : Bool} (r : Rel K cl W S H) (ra : RelSV K cl W S.length a x) (rb : RelSV K cl W S.length b y) (e : eqDic S a b = some c) :
    c = true ∧ ∃ p q kvs, x = .ref p ∧ y = .ref q ∧ Rd H p (.dK kvs) ∧ Rd H q (.dK kvs) ∧ ∀ z ∈ kvs, valV kvs z.1 = some z.2 ∧ flatB z.2 = true := by
  unfold eqDic at e
  split at e
  · rename_i ks xs ks' xs' e1 e2
    split at e
    · rename_i ds ds' h1 h2
      split at e
      · rename_i hc
        cases e
        obtain ⟨c1, rfl, c3⟩ := hc
        obtain ⟨p, vs, rfl, s1, l1, t1⟩ := dict_rel r e1 ra
        obtain ⟨q, us, rfl, s2, l2, t2⟩ := dict_rel r e2 rb
        obtain ⟨rfl, fl⟩ := f1eqs_eq c1 (rdDs_rel r h1 t1) (rdDs_rel r h2 t2)
        exact ⟨rfl, p, q, _, rfl, rfl, s1, s2, fun z hz => ⟨val_nd c3 z hz, fl _ (List.of_mem_zip hz).2⟩⟩
      · cases e
    · cases e
  · cases e
theorem op_eq_dictR (hu : X.A.units < cLine) : OpR X (compareOp .Eq) (fun x y H Q => ∃ a b ks, x = .ref a ∧ y = .ref b ∧ Rd H a (.dK ks) ∧ Rd H b (.dK ks) ∧ (∀ p ∈ ks, valV ks p.1 = some p.2 ∧ flatB p.2 = true) ∧ Q (.bl true) H) := by
  intro pins s σ H x y v u Q I rx ry h
  obtain ⟨a, b, ks, rfl, rfl, ea, eb, hp, q⟩ := h
  obtain rfl : v = Value.ref a := rx
  obtain rfl : u = Value.ref b := ry
  obtain ⟨_, ya, va, ra, da⟩ := dk_rd I.hok ea
  obtain ⟨_, yb, vb, rb, db⟩ := dk_rd I.hok eb
  have hl : va.length = vb.length := by rw [← ra.length, ← rb.length]
  exact PySem.W.keq_eq (knd := mixKind X.prog X.w) (r := true) ya yb da db hu (fun _ => hits_all rb ra hp) (fin_bl I q (by simp [hl]))
theorem op_ne_dictR (hu : X.A.units < cLine) : OpR X (compareOp .NotEq) (fun x y H Q => ∃ a b ks, x = .ref a ∧ y = .ref b ∧ Rd H a (.dK ks) ∧ Rd H b (.dK ks) ∧ (∀ p ∈ ks, valV ks p.1 = some p.2 ∧ flatB p.2 = true) ∧ Q (.bl false) H) := by
  intro pins s σ H x y v u Q I rx ry h
  obtain ⟨a, b, ks, rfl, rfl, ea, eb, hp, q⟩ := h
  obtain rfl : v = Value.ref a := rx
  obtain rfl : u = Value.ref b := ry
  obtain ⟨_, ya, va, ra, da⟩ := dk_rd I.hok ea
  obtain ⟨_, yb, vb, rb, db⟩ := dk_rd I.hok eb
  have hl : va.length = vb.length := by rw [← ra.length, ← rb.length]
  exact PySem.W.keq_ne (knd := mixKind X.prog X.w) (r := true) ya yb da db hu (fun _ => hits_all rb ra hp) (fin_bl I q (by simp [hl]))
def opEqD (S : Sto) (a b : SV) : Option Dv := (eqDic S a b).map .bl
def opNeD (S : Sto) (a b : SV) : Option Dv := (eqDic S a b).map fun c => .bl (!c)
theorem ov_eqD (hu : X.A.units + 200 < cLine) : OpR X (compareOp .Eq) (ROp X cl opEqD) := OpR.weak (op_eq_dictR (by omega)) fun x y H Q ⟨W, S, a, b, z, r, ra, rb, e, k⟩ => by
  unfold opEqD at e
  cases he : eqDic S a b with
  | none => rw [he] at e; cases e
  | some c =>
    rw [he] at e
    cases e
    obtain ⟨rfl, p, q, kvs, rfl, rfl, s1, s2, f⟩ := eqDic_rel r ra rb he
    exact ⟨p, q, kvs, rfl, rfl, s1, s2, f, k W H _ (.refl _ _) r (.bl _)⟩
theorem ov_neD (hu : X.A.units + 200 < cLine) : OpR X (compareOp .NotEq) (ROp X cl opNeD) := OpR.weak (op_ne_dictR (by omega)) fun x y H Q ⟨W, S, a, b, z, r, ra, rb, e, k⟩ => by
  unfold opNeD at e
  cases he : eqDic S a b with
  | none => rw [he] at e; cases e
  | some c =>
    rw [he] at e
    cases e
    obtain ⟨rfl, p, q, kvs, rfl, rfl, s1, s2, f⟩ := eqDic_rel r ra rb he
    exact ⟨p, q, kvs, rfl, rfl, s1, s2, f, k W H _ (.refl _ _) r (.bl _)⟩
end
end Ev

set_option Elab.async false
set_option linter.all false
set_option maxRecDepth 100000
/-! Ev21: how dicts are reckoned. -/
namespace Ev
open PySem L2
theorem kdct_of {K : PySem.W.Frag} {w : World} {a : Addr} {ks : List Str} {x : Str} {v : V} {u : Value} (h : He.dicW K a = some (He.keysIn w.params ks)) (e : PySem.W.nsIn K a x = some (some u)) (r : RelV v u) : KDct K w a x v := by
  obtain ⟨es, n, D⟩ := He.dicW_ok h
  exact ⟨es, n, u, D.at_, D.lit, e, r⟩
def kD3 (x y : SV) (r : Res (List (SV × SV))) : Res (List (SV × SV)) := r.bind fun ps S3 => .ok ((x, y) :: ps) S3
@[simp] theorem kD3_ok (x y : SV) (ps : List (SV × SV)) (S : Sto) : kD3 x y (.ok ps S) = .ok ((x, y) :: ps) S := Eq.trans rfl rfl
def kD2 (l : List (FE × FE)) (x : SV) (F : Fr) (r : Res SV) : Res (List (SV × SV)) := r.bind fun y S2 => kD3 x y (dspL l F S2)
@[simp] theorem kD2_ok (l : List (FE × FE)) (x y : SV) (F : Fr) (S : Sto) : kD2 l x F (.ok y S) = kD3 x y (dspL l F S) := Eq.trans rfl rfl
def kD1 (fv : FE) (l : List (FE × FE)) (F : Fr) (r : Res SV) : Res (List (SV × SV)) := r.bind fun x S1 => kD2 l x F (fv F S1)
@[simp] theorem kD1_ok (fv : FE) (l : List (FE × FE)) (F : Fr) (x : SV) (S : Sto) : kD1 fv l F (.ok x S) = kD2 l x F (fv F S) := Eq.trans rfl rfl
@[simp] theorem dspL_nil (F : Fr) (S : Sto) : dspL [] F S = .ok [] S := Eq.trans rfl rfl
@[simp] theorem dspL_cons (fk fv : FE) (l : List (FE × FE)) (F : Fr) (S : Sto) : dspL ((fk, fv) :: l) F S = kD1 fv l F (fk F S) := by
  show dspL ((fk, fv) :: l) F S = _
  unfold kD1 kD2 kD3
  rfl
def kDsp (fi : Nat → Res SV → Res SV) (j : Nat) (r : Res (List (SV × SV))) : Res SV := fi j (r.bind fun qs S1 => dspC j qs S1 S1[j]?)
@[simp] theorem kDsp_ok (fi : Nat → Res SV → Res SV) (j : Nat) (qs : List (SV × SV)) (S : Sto) : kDsp fi j (.ok qs S) = fi j (dspC j qs S S[j]?) := Eq.trans rfl rfl
@[simp] theorem eDspW_ap (fi : Nat → Res SV → Res SV) (ps : List (FE × FE)) (F : Fr) (S : Sto) : eDspW fi ps F S = kDsp fi S.length (dspL ps ⟨S.length, F.v⟩ (S ++ [.dic [] []])) := Eq.trans rfl rfl
@[simp] theorem dspC_s (j : Nat) (qs : List (SV × SV)) (S : Sto) : dspC j qs S (some (.dic [] [])) = if qs.length ≤ 15 then dspR j S (dMg S qs [] []) else .bad := Eq.trans rfl rfl
@[simp] theorem dspR_s (j : Nat) (S : Sto) (ks : List Key) (xs : List SV) : dspR j S (some (ks, xs)) = .ok (.m j) (S.set j (.dic ks xs)) := Eq.trans rfl rfl
@[simp] theorem dMg_nil (S : Sto) (ks : List Key) (xs : List SV) : dMg S [] ks xs = some (ks, xs) := Eq.trans rfl rfl
@[simp] theorem dMg_str (S : Sto) (s : Str) (y : SV) (r : List (SV × SV)) (ks : List Key) (xs : List SV) : dMg S ((.d (.str s), y) :: r) ks xs = dMg S r (dPut (.inr s) y ks xs).1 (dPut (.inr s) y ks xs).2 := Eq.trans rfl rfl
@[simp] theorem dMg_int (S : Sto) (s : Int) (y : SV) (r : List (SV × SV)) (ks : List Key) (xs : List SV) : dMg S ((.d (.int s), y) :: r) ks xs = dMg S r (dPut (.inl s) y ks xs).1 (dPut (.inl s) y ks xs).2 := Eq.trans rfl rfl
@[simp] theorem hasK_nil (k : Key) : hasK k [] = false := Eq.trans rfl rfl
@[simp] theorem hasK_cons (k a : Key) (r : List Key) : hasK k (a :: r) = (decide (a = k) || hasK k r) := by simp [hasK]
theorem dPut_y {k : Key} {x : SV} {ks : List Key} {xs : List SV} (h : hasK k ks = true) : dPut k x ks xs = (ks, List.zipWith (fun a y => if a = k then x else y) ks xs) := if_pos h
theorem dPut_n {k : Key} {x : SV} {ks : List Key} {xs : List SV} (h : hasK k ks = false) : dPut k x ks xs = (ks ++ [k], xs ++ [x]) := if_neg (by rw [h]; exact Bool.false_ne_true)
@[simp] theorem dPut_nil (k : Key) (x : SV) : dPut k x [] [] = ([k], [x]) := Eq.trans rfl rfl
/-- keys that are written: step by step -/
@[simp] theorem dPut_cons (k a : Key) (x y : SV) (ks : List Key) (xs : List SV) (hl : ks.length = xs.length) : dPut k x (a :: ks) (y :: xs) = if a = k then (a :: ks, x :: List.zipWith (fun a y => if a = k then x else y) ks xs) else (a :: (dPut k x ks xs).1, y :: (dPut k x ks xs).2) := by
  by_cases h : a = k
  · simp [dPut, h, hasK]
  · by_cases h2 : hasK k ks = true
    · simp [dPut, h, h2]
    · simp [dPut, h, h2]
@[simp] theorem lookK_nil {α : Type} (k : Key) (xs : List α) : lookK k [] xs = none := by cases xs <;> rfl
@[simp] theorem lookK_cons {α : Type} (k a : Key) (ks : List Key) (x : α) (xs : List α) : lookK k (a :: ks) (x :: xs) = if a = k then some x else lookK k ks xs := Eq.trans rfl rfl
@[simp] theorem dictOf_d (S : Sto) (ks : List Key) (xs : List Dv) : dictOf S (.d (.dic ks xs)) = some (ks, xs.map .d) := Eq.trans rfl rfl
theorem dictOf_m {S : Sto} {i : Nat} {ks : List Key} {xs : List SV} (h : S[i]? = some (.dic ks xs)) : dictOf S (.m i) = some (ks, xs) := by simp [dictOf, h]
theorem itemsOf_md {S : Sto} {i : Nat} {ks : List Key} {xs : List SV} (h : S[i]? = some (.dic ks xs)) : itemsOf S (.m i) = none := by simp [itemsOf, h]
/-- d[k] of a dict of the store -/
theorem opIx_md {S : Sto} {i : Nat} {ks : List Key} {xs : List SV} {k : Str} (h : S[i]? = some (.dic ks xs)) : opIx S (.m i) (.d (.str k)) = lookK (.inr k) ks xs := by simp [opIx, itemsOf_md h, dictOf_m h, kOf]
theorem opIx_mdi {S : Sto} {i : Nat} {ks : List Key} {xs : List SV} {k : Int} (h : S[i]? = some (.dic ks xs)) : opIx S (.m i) (.d (.int k)) = lookK (.inl k) ks xs := by simp [opIx, itemsOf_md h, dictOf_m h, kOf]
theorem putIx_md {S : Sto} {i b : Nat} {ks : List Key} {xs : List SV} {k : Str} {x : SV} (h : S[i]? = some (.dic ks xs)) (ho : okIn b i x = true) (hl : ks.length < most) : putIx b S (.m i) (.d (.str k)) x = some (S.set i (.dic (dPut (.inr k) x ks xs).1 (dPut (.inr k) x ks xs).2)) := by
  simp [putIx, h, ho, hl, kOf]
theorem putIx_mdi {S : Sto} {i b : Nat} {ks : List Key} {xs : List SV} {k : Int} {x : SV} (h : S[i]? = some (.dic ks xs)) (ho : okIn b i x = true) (hl : ks.length < most) : putIx b S (.m i) (.d (.int k)) x = some (S.set i (.dic (dPut (.inl k) x ks xs).1 (dPut (.inl k) x ks xs).2)) := by
  simp [putIx, h, ho, hl, kOf]
def kGe3 (o y : SV) (r : Res SV) : Res SV := r.bind fun z S3 => optS (getS S3 o y z) S3
@[simp] theorem kGe3_ok (o y z : SV) (S : Sto) : kGe3 o y (.ok z S) = optS (getS S o y z) S := Eq.trans rfl rfl
def kGe2 (fz : FE) (F : Fr) (o : SV) (r : Res SV) : Res SV := r.bind fun y S2 => kGe3 o y (fz F S2)
@[simp] theorem kGe2_ok (fz : FE) (F : Fr) (o y : SV) (S : Sto) : kGe2 fz F o (.ok y S) = kGe3 o y (fz F S) := Eq.trans rfl rfl
def kGe1 (fy fz : FE) (F : Fr) (r : Res SV) : Res SV := r.bind fun o S1 => if isDic S1 o = true then kGe2 fz F o (fy F S1) else .bad
@[simp] theorem kGe1_ok (fy fz : FE) (F : Fr) (o : SV) (S : Sto) : kGe1 fy fz F (.ok o S) = if isDic S o = true then kGe2 fz F o (fy F S) else .bad := Eq.trans rfl rfl
@[simp] theorem eGet_ap (fo fy fz : FE) (F : Fr) (S : Sto) : eGet fo fy fz F S = kGe1 fy fz F (fo F S) := Eq.trans rfl rfl
def kGe4 (o : SV) (r : Res SV) : Res SV := r.bind fun y S2 => optS (getS S2 o y (.d .non)) S2
@[simp] theorem kGe4_ok (o y : SV) (S : Sto) : kGe4 o (.ok y S) = optS (getS S o y (.d .non)) S := Eq.trans rfl rfl
def kGe5 (fy : FE) (F : Fr) (r : Res SV) : Res SV := r.bind fun o S1 => if isDic S1 o = true then kGe4 o (fy F S1) else .bad
@[simp] theorem kGe5_ok (fy : FE) (F : Fr) (o : SV) (S : Sto) : kGe5 fy F (.ok o S) = if isDic S o = true then kGe4 o (fy F S) else .bad := Eq.trans rfl rfl
@[simp] theorem eGet1_ap (fo fy : FE) (F : Fr) (S : Sto) : eGet1 fo fy F S = kGe5 fy F (fo F S) := Eq.trans rfl rfl
@[simp] theorem isDic_d (S : Sto) (ks : List Key) (xs : List Dv) : isDic S (.d (.dic ks xs)) = true := Eq.trans rfl rfl
theorem isDic_m {S : Sto} {i : Nat} {ks : List Key} {xs : List SV} (h : S[i]? = some (.dic ks xs)) : isDic S (.m i) = true := by simp [isDic, dictOf_m h]
@[simp] theorem kOf_str (s : Str) : kOf (.str s) = some (.inr s) := Eq.trans rfl rfl
@[simp] theorem kOf_int (s : Int) : kOf (.int s) = some (.inl s) := Eq.trans rfl rfl
@[simp] theorem getS_d (S : Sto) (ks : List Key) (xs : List Dv) (y : Dv) (z : SV) : getS S (.d (.dic ks xs)) (.d y) z = getR S z (some (ks, xs.map .d)) (kOf y) := Eq.trans rfl rfl
theorem getS_m {S : Sto} {i : Nat} {ks : List Key} {xs : List SV} (h : S[i]? = some (.dic ks xs)) (y : Dv) (z : SV) : getS S (.m i) (.d y) z = getR S z (some (ks, xs)) (kOf y) := by simp [getS, dictOf_m h]
@[simp] theorem getR_s (S : Sto) (z : SV) (ks : List Key) (xs : List SV) (k : Key) : getR S z (some (ks, xs)) (some k) = some ((lookK k ks xs).getD z) := Eq.trans rfl rfl
theorem lookK_map {α β : Type} (f : α → β) (k : Key) : ∀ (ks : List Key) (xs : List α), lookK k ks (xs.map f) = (lookK k ks xs).map f
  | [], xs => by simp
  | a :: ks, [] => rfl
  | a :: ks, x :: xs => by
    simp only [List.map_cons, lookK_cons, lookK_map f k ks xs]
    by_cases h : a = k <;> simp [h]
@[simp] theorem opIx_dd (S : Sto) (ks : List Key) (xs : List Dv) (k : Str) : opIx S (.d (.dic ks xs)) (.d (.str k)) = (lookK (.inr k) ks xs).map .d := by
  rw [← lookK_map]
  rfl
@[simp] theorem opIx_di (S : Sto) (ks : List Key) (xs : List Dv) (k : Int) : opIx S (.d (.dic ks xs)) (.d (.int k)) = (lookK (.inl k) ks xs).map .d := by
  rw [← lookK_map]
  rfl
def kCd (tbl : List (Str × Dv)) (r : Res SV) : Res SV := r.bind fun y S1 => cdR tbl S1 (view S1 y)
@[simp] theorem kCd_ok (tbl : List (Str × Dv)) (y : SV) (S : Sto) : kCd tbl (.ok y S) = cdR tbl S (view S y) := Eq.trans rfl rfl
@[simp] theorem eCd_ap (tbl : List (Str × Dv)) (fy : FE) (F : Fr) (S : Sto) : eCd tbl fy F S = kCd tbl (fy F S) := Eq.trans rfl rfl
@[simp] theorem cdR_s (tbl : List (Str × Dv)) (S : Sto) (s : Str) : cdR tbl S (some (.str s)) = optD ((tbl.find? fun p => p.1 == s).map (·.2)) S := Eq.trans rfl rfl
@[simp] theorem biDict_d (S : Sto) (ks : List Key) (xs : List Dv) : biDict S [.d (.dic ks xs)] = some (.dic ks xs) := by simp [biDict]
theorem biDict_m {S : Sto} {i : Nat} {ks : List Key} {xs : List Dv} (h : S[i]? = some (.dic ks (xs.map .d))) : biDict S [.m i] = some (.dic ks xs) := by simp [biDict, dictOf_m h]
def kDm (r : Res (List SV)) : Res SV := r.bind fun as S1 => dcA S1 as
@[simp] theorem kDm_ok (as : List SV) (S : Sto) : kDm (.ok as S) = dcA S as := Eq.trans rfl rfl
@[simp] theorem eDictM_ap (f : Fr → Sto → Res (List SV)) (F : Fr) (S : Sto) : eDictM f F S = kDm (f F S) := Eq.trans rfl rfl
@[simp] theorem dcA_d (S : Sto) (ks : List Key) (xs : List Dv) : dcA S [.d (.dic ks xs)] = .ok (.m S.length) (S ++ [.dic ks (xs.map .d)]) := Eq.trans rfl rfl
/-- is a key there? -/
@[simp] theorem inS_dic (S : Sto) (ks : List Key) (xs : List Dv) (k : Dv) : inS S (.d k) (.d (.dic ks xs)) = match kOf k with | some kk => some (lookK kk ks (xs.map SV.d)).isSome | none => none := by
  cases k <;> rfl
end Ev

set_option Elab.async false
set_option linter.all false
set_option maxRecDepth 100000
/-! Ev22: membership, as it is reckoned. -/
namespace Ev
open PySem L2
@[simp] theorem eqv_ss (a b : Str) : PyData.eqv (.str a) (.str b) = (a == b) := by simp [PyData.eqv]
@[simp] theorem eqv_ii (a b : Int) : PyData.eqv (.int a) (.int b) = (a == b) := by simp [PyData.eqv]
@[simp] theorem eqv_is (a : Int) (b : Str) : PyData.eqv (.int a) (.str b) = false := by simp [PyData.eqv]
@[simp] theorem eqv_si (a : Str) (b : Int) : PyData.eqv (.str a) (.int b) = false := by simp [PyData.eqv]
@[simp] theorem pd_str (s : Str) : (Dv.str s).pd = .str s := rfl
@[simp] theorem pd_int (s : Int) : (Dv.int s).pd = .int s := rfl
@[simp] theorem pds_nil : Dv.pds [] = [] := rfl
@[simp] theorem pds_cons (x : Dv) (r : List Dv) : Dv.pds (x :: r) = x.pd :: Dv.pds r := rfl
@[simp] theorem inS_ts (S : Sto) (s : Str) (xs : List Dv) (h : Dv.flats xs = true) : inS S (.d (.str s)) (.d (.tup xs)) = some ((Dv.pds xs).any fun y => PyData.eqv y (.str s)) := by
  simp [inS, h, PyData.depth]
@[simp] theorem inS_ti (S : Sto) (s : Int) (xs : List Dv) (h : Dv.flats xs = true) : inS S (.d (.int s)) (.d (.tup xs)) = some ((Dv.pds xs).any fun y => PyData.eqv y (.int s)) := by
  simp [inS, h, PyData.depth]
@[simp] theorem inS_ls (S : Sto) (s : Str) (xs : List Dv) (h : Dv.flats xs = true) : inS S (.d (.str s)) (.d (.lst xs)) = some ((Dv.pds xs).any fun y => PyData.eqv y (.str s)) := by
  simp [inS, h, PyData.depth]
@[simp] theorem inS_li (S : Sto) (s : Int) (xs : List Dv) (h : Dv.flats xs = true) : inS S (.d (.int s)) (.d (.lst xs)) = some ((Dv.pds xs).any fun y => PyData.eqv y (.int s)) := by
  simp [inS, h, PyData.depth]
@[simp] theorem opIn_ap (S : Sto) (a b : SV) : opIn S a b = (inS S a b).map .bl := rfl
@[simp] theorem opNotIn_ap (S : Sto) (a b : SV) : opNotIn S a b = (inS S a b).map fun c => .bl (!c) := rfl
/-! things that are keys -/
@[simp] theorem flat_key (k : Key) : (keyD k).flat = true := by cases k <;> rfl
@[simp] theorem flats_keys : ∀ ks : List Key, Dv.flats (ks.map keyD) = true
  | [] => rfl
  | k :: r => by simp [flats_keys r]
theorem keyD_inj {a b : Key} (h : keyD a = keyD b) : a = b := by
  cases a <;> cases b <;> first | (cases h; done) | (cases h; rfl)
theorem eqv_key (a b : Key) : PyData.eqv (keyD a).pd (keyD b).pd = decide (a = b) := by
  cases a <;> cases b <;> simp only [keyD, pd_str, pd_int, eqv_ss, eqv_ii, eqv_is, eqv_si] <;> (rw [Bool.eq_iff_iff]; simp)
theorem hasK_iff {k : Key} : ∀ {ks : List Key}, hasK k ks = true ↔ k ∈ ks
  | [] => by simp
  | a :: r => by
    rw [hasK_cons, Bool.or_eq_true, hasK_iff (ks := r), List.mem_cons, decide_eq_true_iff]
    exact ⟨fun h => h.imp Eq.symm id, fun h => h.imp Eq.symm id⟩
theorem any_key (k : Key) : ∀ ks : List Key, ((Dv.pds (ks.map keyD)).any fun y => PyData.eqv y (keyD k).pd) = hasK k ks
  | [] => by simp
  | a :: r => by simp only [List.map_cons, pds_cons, List.any_cons, any_key k r, eqv_key, hasK_cons]
theorem depth_key (k : Key) : (keyD k).pd.depth ≤ 190 := by cases k <;> simp [keyD, PyData.depth]
theorem inS_kl (S : Sto) (k : Key) (ks : List Key) : inS S (.d (keyD k)) (.d (.lst (ks.map keyD))) = some (hasK k ks) := by
  simp [inS, depth_key, any_key]
theorem view_ml {S : Sto} {i : Nat} {xs : List Dv} (h : S[i]? = some (.lst (xs.map .d))) : view S (.m i) = some (.lst xs) := by simp [view, h]
theorem inS_km {S : Sto} {i : Nat} {ks : List Key} (k : Key) (h : S[i]? = some (.lst ((ks.map keyD).map .d))) : inS S (.d (keyD k)) (.m i) = some (hasK k ks) := by
  have hv := view_ml h
  unfold inS
  rw [hv]
  simp [depth_key, any_key]
@[simp] theorem kOf_key (k : Key) : kOf (keyD k) = some k := by cases k <;> rfl
theorem inS_kd (S : Sto) (k : Key) (ks : List Key) (xs : List Dv) : inS S (.d (keyD k)) (.d (.dic ks xs)) = some (lookK k ks (xs.map SV.d)).isSome := by simp
theorem inS_kmd {S : Sto} {i : Nat} {ks : List Key} {xs : List Dv} (k : Key) (h : S[i]? = some (.dic ks (xs.map .d))) : inS S (.d (keyD k)) (.m i) = some (lookK k ks (xs.map SV.d)).isSome := by
  have hv : view S (.m i) = some (.dic ks xs) := by simp [view, h]
  unfold inS
  rw [hv]
  simp [dictOf_m h]
theorem opIx_kd (S : Sto) (ks : List Key) (xs : List Dv) (k : Key) : opIx S (.d (.dic ks xs)) (.d (keyD k)) = (lookK k ks xs).map .d := by cases k <;> simp [keyD]
theorem opIx_kmd {S : Sto} {i : Nat} {ks : List Key} {xs : List SV} {k : Key} (h : S[i]? = some (.dic ks xs)) : opIx S (.m i) (.d (keyD k)) = lookK k ks xs := by cases k <;> simp [keyD, opIx_md h, opIx_mdi h]
theorem putIx_kmd {S : Sto} {i b : Nat} {ks : List Key} {xs : List SV} {k : Key} {x : SV} (h : S[i]? = some (.dic ks xs)) (ho : okIn b i x = true) (hl : ks.length < most) : putIx b S (.m i) (.d (keyD k)) x = some (S.set i (.dic (dPut k x ks xs).1 (dPut k x ks xs).2)) := by
  cases k <;> simp [keyD, putIx_md h ho hl, putIx_mdi h ho hl]
@[simp] theorem isNon_non : (SV.d .non).isNon = true := rfl
@[simp] theorem isNon_bl (i : Bool) : (SV.d (.bl i)).isNon = false := rfl
@[simp] theorem isNon_int (i : Int) : (SV.d (.int i)).isNon = false := rfl
@[simp] theorem isNon_str (i : Str) : (SV.d (.str i)).isNon = false := rfl
@[simp] theorem isNon_tup (i : List Dv) : (SV.d (.tup i)).isNon = false := rfl
@[simp] theorem isNon_lst (i : List Dv) : (SV.d (.lst i)).isNon = false := rfl
@[simp] theorem isNon_dic (k : List Key) (i : List Dv) : (SV.d (.dic k i)).isNon = false := rfl
@[simp] theorem isNon_m (i : Nat) : (SV.m i).isNon = false := rfl
@[simp] theorem isNon_key (k : Key) : (SV.d (keyD k)).isNon = false := by cases k <;> rfl
/-! a list of the store, as it is read -/
theorem tyS_ml {S : Sto} {i : Nat} {xs : List SV} (h : S[i]? = some (.lst xs)) : tyS S (.m i) = some .lst := by simp [tyS, h]
theorem tyS_md {S : Sto} {i : Nat} {ks : List Key} {xs : List SV} (h : S[i]? = some (.dic ks xs)) : tyS S (.m i) = some .dic := by simp [tyS, h]
theorem biLen_ml {S : Sto} {i : Nat} {xs : List SV} (h : S[i]? = some (.lst xs)) : biLen S [.m i] = some (.int xs.length) := by simp [biLen, itemsOf, h]
theorem biLen_md {S : Sto} {i : Nat} {ks : List Key} {xs : List SV} (h : S[i]? = some (.dic ks xs)) : biLen S [.m i] = some (.int ks.length) := by simp [biLen, itemsOf, dictOf, h]
theorem truS_ml {S : Sto} {i : Nat} {xs : List SV} (h : S[i]? = some (.lst xs)) : truS S (.m i) = some (!xs.isEmpty) := by simp [truS, h]
theorem muAppend_m {S : Sto} {b i : Nat} {xs : List SV} {y : SV} (h : S[i]? = some (.lst xs)) (ho : okIn b i y = true) (hl : xs.length < most) : muAppend b S (.m i) [y] = some (.d .non, S.set i (.lst (xs ++ [y]))) := by
  simp [muAppend, h, ho, hl]
theorem isL_ml {S : Sto} {i : Nat} {xs : List SV} (h : S[i]? = some (.lst xs)) : isL S (.m i) = true := by simp [isL, h]
@[simp] theorem opIsNot_dd (S : Sto) (x : SV) : opIsNot S x (.d .non) = some (.bl (!x.isNon)) := Eq.trans rfl rfl
end Ev

set_option Elab.async false
set_option linter.all false
set_option maxRecDepth 100000
/-! Ev23: loops and comprehensions by what holds ahead of each turn. -/
namespace Ev
open PySem L2
/-! a thing of the store that will not change again is handed on as data -/
def fzR : Option (Dv × Sto) → Res SV
  | some (y, S) => .ok (.d y) S
  | none => .bad
def eFz (f : FE) : FE := fun F S => (f F S).bind fun x S1 => fzR (freeze S1 x)
theorem ev_fz {X : Cx} {cl : CL} {Wx : WX} {e : Expr} {f : FE} (h : PE X e (RE X cl Wx f)) : PE X e (RE X cl Wx (eFz f)) :=
  PE.weak h fun σ H Q ⟨W, F, S, a, o⟩ => by
    refine RE.of a o fun W1 S1 x v H1 g1 l1 a1 q1 o1 => ?_
    cases hf : freeze S1 x with
    | none => rw [hf] at o1; exact o1.elim
    | some p =>
      obtain ⟨y, S2⟩ := p
      rw [hf] at o1
      obtain ⟨n2, w2, k2⟩ := freeze_ok (K := X.K) (cl := cl) hf
      obtain ⟨W2, e2, l2, r2, q2⟩ := k2 W1 H1 v a1.rel q1
      exact o1 W2 H1 v ⟨Nat.le_of_eq n2.symm, fun b _ => w2 b⟩ l2 r2 q2
def kFz (r : Res SV) : Res SV := r.bind fun x S1 => fzR (freeze S1 x)
@[simp] theorem kFz_ok (x : SV) (S : Sto) : kFz (.ok x S) = fzR (freeze S x) := Eq.trans rfl rfl
@[simp] theorem eFz_ap (f : FE) (F : Fr) (S : Sto) : eFz f F S = kFz (f F S) := Eq.trans rfl rfl
@[simp] theorem fzR_s (y : Dv) (S : Sto) : fzR (some (y, S)) = .ok (.d y) S := Eq.trans rfl rfl
theorem forL_inv {tg : Tg} {s : Fr → Sto → SRes} {b : Nat} (I : Nat → Env → Sto → Prop) : ∀ (xs : List SV) (n : Nat) (v : Env) (S : Sto), I n v S →
    (∀ i x v S, xs[i]? = some x → I (n + i) v S → ∃ v1 v' S', tg x ⟨b, v⟩ S = some v1 ∧ (s ⟨b, v1⟩ S = .nx v' S' ∨ s ⟨b, v1⟩ S = .ct v' S') ∧ I (n + i + 1) v' S') →
    ∃ v' S', forL tg s b xs v S = .nx v' S' ∧ I (n + xs.length) v' S'
  | [], n, v, S, h0, _ => ⟨v, S, rfl, h0⟩
  | x :: r, n, v, S, h0, h => by
    obtain ⟨v1, v2, S2, e1, e2, i2⟩ := h 0 x v S rfl h0
    obtain ⟨v', S', e3, i3⟩ := forL_inv I r (n + 1) v2 S2 i2 fun i y w T hy hi => by
      have := h (i + 1) y w T hy (by rw [show n + (i + 1) = n + 1 + i by omega]; exact hi)
      rw [show n + (i + 1) + 1 = n + 1 + i + 1 by omega] at this
      exact this
    refine ⟨v', S', ?_, by rw [List.length_cons, show n + (r.length + 1) = n + 1 + r.length by omega]; exact i3⟩
    rw [forL_cons, e1]
    rcases e2 with e2 | e2 <;> simp [e2, e3]
/-- loops whose turns leave the store as it is, and do not break -/
theorem forL_same {tg : Tg} {s : Fr → Sto → SRes} {b : Nat} {S : Sto} (f : Env → SV → Env) : ∀ (xs : List SV) (v : Env),
    (∀ x ∈ xs, ∀ v, ∃ v1, tg x ⟨b, v⟩ S = some v1 ∧ s ⟨b, v1⟩ S = .nx (f v x) S) → forL tg s b xs v S = .nx (xs.foldl f v) S
  | [], v, _ => rfl
  | x :: r, v, h => by
    obtain ⟨v1, e1, e2⟩ := h x (List.mem_cons_self ..) v
    rw [forL_cons, e1]
    simp only [kTg_s, e2, kTu_nx, List.foldl_cons]
    exact forL_same f r _ fun y hy => h y (List.mem_cons_of_mem _ hy)
theorem lcL_A {α : Type} (enc : α → SV) {tg : Tg} {tt : Fr → Sto → Res Bool} {te : Fr → Sto → Res SV} {b : Nat} {ve : Env} (p : α → Bool) (f : α → Dv) {B : Sto} (hb : B.length = b) : ∀ (xs : List α) (acc : List Dv), acc.length + xs.length ≤ most →
    (∀ x ∈ xs, ∀ T : Sto, ∃ v1, tg (enc x) ⟨b, ve⟩ T = some v1 ∧ tt ⟨b, v1⟩ T = .ok (p x) T ∧ (p x = true → te ⟨b, v1⟩ T = .ok (.d (f x)) T)) →
    lcL tg tt te b ve (xs.map enc) (B ++ [.lst (acc.map .d)]) = .ok (.m b) (B ++ [.lst ((acc ++ (xs.filter p).map f).map .d)])
  | [], acc, _, _ => by simp [lcL]
  | x :: r, acc, hl, h => by
    obtain ⟨v1, h0, h1, h2⟩ := h x (List.mem_cons_self ..) (B ++ [.lst (acc.map .d)])
    simp only [List.length_cons] at hl
    have hg : (B ++ [MO.lst (acc.map SV.d)])[b]? = some (.lst (acc.map .d)) := by subst hb; simp
    rw [List.map_cons]
    unfold lcL
    cases hp : p x with
    | false =>
      have ih := lcL_A enc (tt := tt) (te := te) (ve := ve) p f hb r acc (by omega) fun y hy T => h y (List.mem_cons_of_mem _ hy) T
      simp only [h0, h1, noX_ok, Res.bind_ok, hp, Bool.false_eq_true, if_false, ih]
      simp [hp]
    | true =>
      have ih := lcL_A enc (tt := tt) (te := te) (ve := ve) p f hb r (acc ++ [f x]) (by simp; omega) fun y hy T => h y (List.mem_cons_of_mem _ hy) T
      simp only [h0, h1, noX_ok, Res.bind_ok, hp, h2 hp, if_true, hg, lcPut, List.length_map]
      rw [if_pos (by omega)]
      simp only
      have hs : (B ++ [MO.lst (acc.map SV.d)]).set b (.lst (acc.map .d ++ [.d (f x)])) = B ++ [.lst ((acc ++ [f x]).map .d)] := by subst hb; simp
      rw [hs, ih]
      simp [hp]
/-- a comprehension over things that are told by their codes, with a test; nothing is changed by a turn -/
theorem lcAll_A {α : Type} (enc : α → SV) {tg : Tg} {tt : Fr → Sto → Res Bool} {te : Fr → Sto → Res SV} {vs : List Nat} {v : Env} {S : Sto} (xs : List α) (p : α → Bool) (f : α → Dv) (hl : xs.length ≤ most)
    (h : ∀ x ∈ xs, ∀ T : Sto, ∃ v1, tg (enc x) ⟨S.length, wipeE v vs⟩ T = some v1 ∧ tt ⟨S.length, v1⟩ T = .ok (p x) T ∧ (p x = true → te ⟨S.length, v1⟩ T = .ok (.d (f x)) T)) :
    lcAll fin vs tg tt te v (xs.map enc) S = .ok (.d (.lst ((xs.filter p).map f))) S := by
  unfold lcAll
  have e := lcL_A enc (tg := tg) (tt := tt) (te := te) (ve := wipeE v vs) p f (B := S) rfl xs [] (by simpa using hl) h
  simp only [List.map_nil, List.nil_append] at e
  rw [e]
  unfold fin
  simp only
  have hf : freeze (S ++ [MO.lst (((xs.filter p).map f).map SV.d)]) (SV.m S.length) = _ := freeze_lst (xs := (xs.filter p).map f) (by simp)
  rw [hf]
  simp
/-- .. without a test -/
theorem lcAll_M {α : Type} (enc : α → SV) {tg : Tg} {te : Fr → Sto → Res SV} {vs : List Nat} {v : Env} {S : Sto} (xs : List α) (f : α → Dv) (hl : xs.length ≤ most)
    (h : ∀ x ∈ xs, ∀ T : Sto, ∃ v1, tg (enc x) ⟨S.length, wipeE v vs⟩ T = some v1 ∧ te ⟨S.length, v1⟩ T = .ok (.d (f x)) T) :
    lcAll fin vs tg tYs te v (xs.map enc) S = .ok (.d (.lst (xs.map f))) S := by
  have := lcAll_A enc (tg := tg) (tt := tYs) (te := te) (vs := vs) (v := v) (S := S) xs (fun _ => true) f hl fun x hx T => by
    obtain ⟨v1, h1, h2⟩ := h x hx T
    exact ⟨v1, h1, rfl, fun _ => h2⟩
  rw [List.filter_eq_self.mpr (fun _ _ => rfl)] at this
  exact this
end Ev

set_option Elab.async false
set_option linter.all false
set_option maxRecDepth 100000
/-! Ev24: loops over a dict that may be changed before and behind them. -/
namespace Ev
open PySem L2
section
variable {K : PySem.W.Frag} {cl : Nat → Addr} {W : Wd} {S : Sto} {H : Hp}
/-- the same world, other locks -/
theorem RelMO.keepL {L' : Hp} {n : Nat} {H' : Hp} {a : Addr} {mo : MO} (q : RelMO K cl W n H a mo) (hL : isMut mo = true → L' a = W.L a) (hh : isMut mo = true → H' a = H a) : RelMO K cl ⟨W.ρ, W.G, L'⟩ n H' a mo := by
  cases mo with
  | lst xs => obtain ⟨q1, vs, q2, q3⟩ := q; exact ⟨⟨q1.1, (hL rfl).trans q1.2⟩, vs, by rw [hh rfl]; exact q2, q3⟩
  | dic ks xs => obtain ⟨q1, vs, q2, q4, q3⟩ := q; exact ⟨⟨q1.1, (hL rfl).trans q1.2⟩, vs, by rw [hh rfl]; exact q2, q4, q3⟩
  | ins c fs xs => obtain ⟨q1, vs, dx, q2, q4, q3⟩ := q; exact ⟨⟨q1.1, (hL rfl).trans q1.2⟩, vs, dx, by rw [hh rfl]; exact q2, q4, q3⟩
  | frz x => exact q
  | tup xs => obtain ⟨q1, vs, q2, q3⟩ := q; exact ⟨⟨q1.1, (hL rfl).trans q1.2⟩, vs, by rw [hh rfl]; exact q2, q3⟩
  | lck ks xs => obtain ⟨q1, vs, od, q2, q4, q3⟩ := q; exact ⟨q1, vs, od, ⟨by rw [hh rfl]; exact q2.1, (hL rfl).trans q2.2⟩, q4, q3⟩
theorem set_inj {j : Nat} {mo mo' : MO} (r : Rel K cl W S H) (e : S[j]? = some mo) (hm : isMut mo = true) : ∀ (i k : Nat) (mi mk : MO), (S.set j mo')[i]? = some mi → (S.set j mo')[k]? = some mk → isMut mi = true → isMut mk = true → W.ρ i = W.ρ k → i = k := by
  intro i k mi mk ei ek a1 a2 q
  have un : ∀ i mi, (S.set j mo')[i]? = some mi → isMut mi = true → ∃ mi', S[i]? = some mi' ∧ isMut mi' = true := fun i mi ei a => by
    by_cases h : j = i
    · subst h; exact ⟨mo, e, hm⟩
    · rw [List.getElem?_set_ne h] at ei; exact ⟨mi, ei, a⟩
  obtain ⟨mi', e1, b1⟩ := un i mi ei a1
  obtain ⟨mk', e2, b2⟩ := un k mk ek a2
  exact r.inj i k mi' mk' e1 e2 b1 b2 q
theorem Rel.lock (r : Rel K cl W S H) {j : Nat} {ks : List Key} {xs : List SV} (e : S[j]? = some (.dic ks xs)) :
    ∃ vs, H (W.ρ j) = some (.dK (ks.zip vs)) ∧ ks.length = vs.length ∧ ks.all keyOk = true ∧ W.un (W.ρ j) ∧ ∀ od, Rel K cl ⟨W.ρ, W.G, upd W.L (W.ρ j) (.frz od (.dK (ks.zip vs)))⟩ (S.set j (.lck ks xs)) (upd H (W.ρ j) (.frz od (.dK (ks.zip vs)))) := by
  obtain ⟨un, vs, h1, l, p⟩ := r.st j _ e
  have hl : j < S.length := (List.getElem?_eq_some_iff.mp e).1
  refine ⟨vs, h1, l.1.trans (PySem.Paired.length p), l.2, un, fun od => ⟨fun a o ea => ?_, fun i mi ei => ?_, fun i k mi mk ei ek a1 a2 q => set_inj r e rfl i k mi mk ei ek a1 a2 q, fun a o ea => ?_⟩⟩
  · rw [upd_ne (fun z => by rw [z, un.1] at ea; cases ea)]
    exact r.fz a o ea
  · rw [List.length_set]
    by_cases h : j = i
    · subst h
      rw [List.getElem?_set, if_pos rfl, if_pos hl] at ei
      cases ei
      exact ⟨un.1, vs, od, ⟨upd_same, upd_same⟩, l, p⟩
    · rw [List.getElem?_set_ne h] at ei
      have ne : isMut mi = true → W.ρ i ≠ W.ρ j := fun hm z => h (r.inj i j mi _ ei e hm rfl z).symm
      exact (r.st i mi ei).keepL (fun hm => upd_ne (ne hm)) fun hm => upd_ne (ne hm)
  · have ea : upd W.L (W.ρ j) (.frz od (.dK (ks.zip vs))) a = some o := ea
    by_cases h : a = W.ρ j
    · subst h
      rw [upd_same] at ea ⊢
      cases ea
      exact ⟨rfl, od, _, rfl⟩
    · rw [upd_ne h] at ea ⊢
      exact r.lk a o ea
def off (L : Hp) (d : Addr) : Hp := fun a => if a = d then none else L a
theorem off_ne {L : Hp} {d a : Addr} (h : a ≠ d) : off L d a = L a := if_neg h
theorem off_same {L : Hp} {d : Addr} : off L d d = none := if_pos rfl
theorem Rel.unlock (r : Rel K cl W S H) {j : Nat} {ks : List Key} {xs : List SV} (e : S[j]? = some (.lck ks xs)) {od : Obj} {u : HO} (hL : W.L (W.ρ j) = some (.frz od u)) :
    H (W.ρ j) = some (.frz od u) ∧ Rel K cl ⟨W.ρ, W.G, off W.L (W.ρ j)⟩ (S.set j (.dic ks xs)) (upd H (W.ρ j) u) := by
  obtain ⟨g0, vs, od', h1, l, p⟩ := r.st j _ e
  have hl : j < S.length := (List.getElem?_eq_some_iff.mp e).1
  have eu : HO.frz od u = .frz od' (.dK (ks.zip vs)) := Option.some.inj (hL.symm.trans h1.2)
  cases eu
  refine ⟨h1.1, ⟨fun a o ea => ?_, fun i mi ei => ?_, fun i k mi mk ei ek a1 a2 q => set_inj r e rfl i k mi mk ei ek a1 a2 q, fun a o ea => ?_⟩⟩
  · rw [upd_ne (fun z => by rw [z, g0] at ea; cases ea)]
    exact r.fz a o ea
  · rw [List.length_set]
    by_cases h : j = i
    · subst h
      rw [List.getElem?_set, if_pos rfl, if_pos hl] at ei
      cases ei
      exact ⟨⟨g0, off_same⟩, vs, upd_same, l, p⟩
    · rw [List.getElem?_set_ne h] at ei
      have ne : isMut mi = true → W.ρ i ≠ W.ρ j := fun hm z => h (r.inj i j mi _ ei e hm rfl z).symm
      exact (r.st i mi ei).keepL (fun hm => off_ne (ne hm)) fun hm => upd_ne (ne hm)
  · have ea : off W.L (W.ρ j) a = some o := ea
    by_cases h : a = W.ρ j
    · rw [h, off_same] at ea; cases ea
    · rw [off_ne h] at ea
      rw [upd_ne h]
      exact r.lk a o ea
end
/-- the end of a loop over a dict: it may be changed again -/
def ulk (j : Nat) (S : Sto) : Option Sto := match S[j]? with
  | some (.lck ks xs) => some (S.set j (.dic ks xs))
  | _ => none
def unlk (j : Nat) : SRes → SRes
  | .nx v S => match ulk j S with | some S2 => .nx v S2 | none => .bad
  | .rt x S => match ulk j S with | some S2 => .rt x S2 | none => .bad
  | _ => .bad
def sForK (i : Nat) (tg : Tg) (body : Fr → Sto → SRes) : Fr → Sto → SRes := fun F S => match F.v[i]? with
  | some (some (.m j)) => match S[j]? with
    | some (.dic ks xs) => unlk j (forL tg body F.b (ks.map keyS) F.v (S.set j (.lck ks xs)))
    | _ => .bad
  | _ => .bad
section
variable {X : Cx} {f : Nat → Addr} {Wx : WX} {D : Ends} {W W2 : Wd} {S S2 : Sto} {b j : Nat} {d : Addr} {od : Obj} {u : HO} {r : SRes}
theorem gr_lck {ks : List Key} {xs : List SV} (e : S[j]? = some (.dic ks xs)) : Gr b S (S.set j (.lck ks xs)) := .set fun b' hb w hi x hx => w j (.dic ks xs) hi e x hx
theorem gr_ulk (e : ulk j S = some S2) : Gr b S S2 ∧ ∃ ks xs, S[j]? = some (.lck ks xs) ∧ S2 = S.set j (.dic ks xs) := by
  unfold ulk at e
  split at e
  · rename_i ks xs h
    cases e
    exact ⟨.set fun b' hb w hi x hx => w j (.lck ks xs) hi h x hx, ks, xs, h, rfl⟩
  · cases e
def lockE (D : Ends) (d : Addr) (od : Obj) (u : HO) : Ends := ⟨fun σ' H' => H' d = some (.frz od u) ∧ D.nx σ' (upd H' d u), fun v H' => H' d = some (.frz od u) ∧ D.rt v (upd H' d u), fun σ' H' => H' d = some (.frz od u) ∧ D.bk σ' (upd H' d u), fun σ' H' => H' d = some (.frz od u) ∧ D.ct σ' (upd H' d u)⟩
theorem le_off {W3 : Wd} (hd : W.L d = none) (l : Le S.length ⟨W.ρ, W.G, upd W.L d (.frz od u)⟩ W3) : Le S.length W ⟨W3.ρ, W3.G, off W3.L d⟩ := by
  refine ⟨l.g, l.r, fun a o e => ?_⟩
  have ne : a ≠ d := fun z => by rw [z, hd] at e; cases e
  show off W3.L d a = some o
  rw [off_ne ne]
  exact l.l a o (by show upd W.L d (.frz od u) a = some o; rw [upd_ne ne]; exact e)
theorem out_unlk (hd : W.L d = none) (hj : j < S.length) (hρ : W.ρ j = d) {ks : List Key} {xs : List SV} (e0 : S[j]? = some (.dic ks xs)) (o : OutS X.K (CL.pure f) Wx D b W S (unlk j r)) :
    OutS X.K (CL.pure f) Wx (lockE D d od u) b ⟨W.ρ, W.G, upd W.L d (.frz od u)⟩ (S.set j (.lck ks xs)) r := by
  have len : (S.set j (.lck ks xs)).length = S.length := List.length_set
  have main : ∀ {W3 : Wd} {S3 S4 : Sto} {H3 : Hp}, Gr b (S.set j (.lck ks xs)) S3 → Le (S.set j (.lck ks xs)).length ⟨W.ρ, W.G, upd W.L d (.frz od u)⟩ W3 → Rel X.K f W3 S3 H3 → ulk j S3 = some S4 →
      Gr b S S4 ∧ Le S.length W ⟨W3.ρ, W3.G, off W3.L d⟩ ∧ H3 d = some (.frz od u) ∧ Rel X.K f ⟨W3.ρ, W3.G, off W3.L d⟩ S4 (upd H3 d u) ∧ S4.length = S3.length := by
    intro W3 S3 S4 H3 g l r3 eu
    rw [len] at l
    obtain ⟨g4, ks', xs', e3, rfl⟩ := gr_ulk (b := b) eu
    have hr : W3.ρ j = d := (l.r j hj).trans hρ
    have hL : W3.L (W3.ρ j) = some (.frz od u) := by
      rw [hr]
      exact l.l d _ (by show upd W.L d (.frz od u) d = _; exact upd_same)
    obtain ⟨h1, h2⟩ := r3.unlock e3 hL
    rw [hr] at h1 h2
    exact ⟨((gr_lck e0).trans g (Nat.le_refl _)).trans g4 (Nat.le_refl _), le_off hd l, h1, h2, List.length_set⟩
  cases r with
  | nx v S3 =>
    unfold unlk at o
    simp only at o
    split at o
    · rename_i S4 h4
      intro W3 σ3 H3 g l a
      obtain ⟨g', l', h1, r', len'⟩ := main g l a.rel h4
      refine ⟨h1, o _ σ3 _ g' l' ⟨?_, r', ?_, trivial⟩⟩
      · rw [len']; exact a.b
      · rw [len']; exact ⟨a.env.len, a.env.get⟩
    · exact o.elim
  | rt x S3 =>
    unfold unlk at o
    simp only at o
    split at o
    · rename_i S4 h4
      intro W3 H3 v g l r3 q
      obtain ⟨g', l', h1, r', len'⟩ := main g l r3 h4
      exact ⟨h1, o _ _ v g' l' r' (by rw [len']; exact q)⟩
    · exact o.elim
  | bk v S3 => exact o.elim
  | ct v S3 => exact o.elim
  | ex e v S3 => exact o.elim
  | bad => exact o.elim
theorem sv_forK (i : Nat) {x : Str} {tgt : Expr} {p pos : Pos} {body : List Stmt} {tg : Tg} {fb : Fr → Sto → SRes} (hp : PassesOwn (model X.prog X.w) X.A X.env X.xe) (hc : X.calm = true) (hN : X.N[i]? = some x) (hv : Vis X.env.scope x) (hd : (x == ("__debug__" : Str)) = false) (hcd : (x == ("__classdict__" : Str)) = false)
    (hg : PG X tgt (RG X (CL.pure f) tg)) (hb : PSs X body (RS X (CL.pure f) Wx fb)) (hs : ∀ y, foldedSetIterable (.Name x p) X.env y = pure y := by exact fun _ => rfl) : PS X (.For tgt (.Name x p) body [] pos) (RS X (CL.pure f) Wx (sForK i tg fb)) :=
  PS.weak (ps_lock (ps_for hp hc (pi_keys (pe_var hN hv hd hcd)) hg hb hs)) fun D σ H ⟨W, F, S, a, o⟩ => by
    unfold sForK at o
    split at o
    · rename_i j ej
      split at o
      · rename_i ks xs hx
        obtain ⟨v, e1, hj, rfl⟩ := a.env.get i _ ej
        obtain ⟨vs, h1, l, ko, un, rl⟩ := a.rel.lock hx
        have lz : (ks.zip vs).length = ks.length := by rw [List.length_zip, ← l, Nat.min_self]
        have kz : ∀ {i k v}, (ks.zip vs)[i]? = some (k, v) → ks[i]? = some k := fun {i k v} e => (List.getElem?_zip_eq_some.mp e).1
        have kk : ∀ {i k} {G : Hp}, ks[i]? = some k → RelD X.K f G (keyD k) (L2.kV k) := fun {i k G} e => by
          have := List.all_eq_true.mp ko k (List.mem_of_getElem? e)
          cases k with
          | inl i => exact .int i
          | inr s => exact .str s this
        refine ⟨W.ρ j, .dK (ks.zip vs), h1, trivial, fun od => ⟨_, e1, W.ρ j, od, rfl, .inl ⟨ks.zip vs, upd_same, ?_⟩⟩⟩
        have a2 : At X.K (CL.pure f) ⟨W.ρ, W.G, upd W.L (W.ρ j) (.frz od (.dK (ks.zip vs)))⟩ F (S.set j (.lck ks xs)) σ (upd H (W.ρ j) (.frz od (.dK (ks.zip vs)))) :=
          ⟨by rw [List.length_set]; exact a.b, rl od, by rw [List.length_set]; exact ⟨a.env.len, a.env.get⟩, trivial⟩
        have o2 := out_unlk (od := od) (u := .dK (ks.zip vs)) un.2 hj rfl hx o
        refine for_itk (D := lockE D (W.ρ j) od (.dK (ks.zip vs))) (ForP X (CL.pure f) Wx (lockE D (W.ρ j) od (.dK (ks.zip vs))) F.b _ _ tg fb (ks.map keyS)) ⟨_, F.v, _, Nat.le_refl _, .refl _ _, a2, o2⟩ (fun i σ H _ ⟨W', v, S', hn, hl, a, _⟩ => ?_) (fun i k v σ H hx hP => ?_) fun σ H hP => ?_
        · exact (a.rel.lk _ _ (hl.l (W.ρ j) _ (by show upd W.L (W.ρ j) _ (W.ρ j) = _; exact upd_same))).1
        · exact forP_turn (sv := keyS k) (by rw [List.getElem?_map, kz hx]; rfl) (fun W n hl hn => kk (kz hx)) hP
        · obtain ⟨W', v, S', hn, hl, a, o⟩ := hP
          rw [List.drop_of_length_le (by rw [List.length_map, lz]; exact Nat.le_refl _)] at o
          exact OutS.here o a
      · exact o.elim
    · exact o.elim
end
def kUl (j : Nat) (r : SRes) : SRes := unlk j r
def optRt (x : SV) : Option Sto → SRes
  | some S => .rt x S
  | none => .bad
@[simp] theorem optRt_s (x : SV) (S : Sto) : optRt x (some S) = .rt x S := Eq.trans rfl rfl
@[simp] theorem unlk_nx (j : Nat) (v : Env) (S : Sto) : unlk j (.nx v S) = optT (ulk j S) v := by
  unfold unlk
  cases h : ulk j S <;> simp [h, optT, optRt]
@[simp] theorem unlk_rt (j : Nat) (x : SV) (S : Sto) : unlk j (.rt x S) = optRt x (ulk j S) := by
  unfold unlk
  cases h : ulk j S <;> simp [h, optT, optRt]
end Ev

set_option Elab.async false
set_option linter.all false
set_option maxRecDepth 100000
/-! Ev25: dict comprehensions. -/
namespace Ev
open PySem L2
def dcPut (b : Nat) (k : Key) (y : SV) (S : Sto) : Option MO → Option Sto
  | some (.dic ks xs) => if ks.length < most then some (S.set b (.dic (dPut k y ks xs).1 (dPut k y ks xs).2)) else none
  | _ => none
def dcL (tg : Tg) (tt : Fr → Sto → Res Bool) (tk tv : Fr → Sto → Res SV) (b : Nat) (ve : Env) : List SV → Sto → Res SV
  | [], S => .ok (.m b) S
  | x :: r, S => match tg x ⟨b, ve⟩ S with
    | some v1 => (noX (tt ⟨b, v1⟩ S)).bind fun c S1 => if c = true then (noX (tk ⟨b, v1⟩ S1)).bind fun kx S2 => match (view S2 kx).bind kOf with
        | some k => (noX (tv ⟨b, v1⟩ S2)).bind fun y S3 => match dcPut b k y S3 S3[b]? with
          | some S4 => dcL tg tt tk tv b ve r S4
          | none => .bad
        | none => .bad
      else dcL tg tt tk tv b ve r S1
    | none => .bad
def dcAll (fi : Nat → Res SV → Res SV) (vs : List Nat) (tg : Tg) (tt : Fr → Sto → Res Bool) (tk tv : Fr → Sto → Res SV) (v : Env) (xs : List SV) (S : Sto) : Res SV :=
  fi S.length (dcL tg tt tk tv S.length (wipeE v vs) xs (S ++ [.dic [] []]))
def dcS (fi : Nat → Res SV → Res SV) (vs : List Nat) (tg : Tg) (tt : Fr → Sto → Res Bool) (tk tv : Fr → Sto → Res SV) (v : Env) : Option (Dv × Sto) → Res SV
  | some (.lst xs, S) => dcAll fi vs tg tt tk tv v (xs.map .d) S
  | some (.tup xs, S) => dcAll fi vs tg tt tk tv v (xs.map .d) S
  | some (.dic ks _, S) => dcAll fi vs tg tt tk tv v (ks.map keyS) S
  | _ => .bad
def eDcW (fi : Nat → Res SV → Res SV) (vs : List Nat) (fe : Fr → Sto → Res SV) (tg : Tg) (tt : Fr → Sto → Res Bool) (tk tv : Fr → Sto → Res SV) : Fr → Sto → Res SV := fun F S =>
  (fe F S).bind fun x S1 => dcS fi vs tg tt tk tv F.v (freeze S1 x)
abbrev eDc := eDcW fin
abbrev eDcK := eDcW finK
section
variable {X : Cx} {cl : CL} {Wx : WX}
variable {W W0 : Wd} {F : Fr} {S : Sto} {σ : St} {H : Hp} {D : Addr} {Q : VK} {n0 : Nat} {vs : List Nat} {tg : Tg} {tt : Fr → Sto → Res Bool} {tk tv : Fr → Sto → Res SV} {ve v : Env} {xs : List SV} {fi : Nat → Res SV → Res SV} {fe : Fr → Sto → Res SV}
def DcP (X : Cx) (cl : CL) (Wx : WX) (Q : VK) (σ : St) (vs : List Nat) (n0 : Nat) (W0 : Wd) (tg : Tg) (tt : Fr → Sto → Res Bool) (tk tv : Fr → Sto → Res SV) (ve : Env) (xs : List SV) (i : Nat) (H : Hp) : Prop :=
  ∃ W S, n0 < S.length ∧ Le (n0 + 1) W0 W ∧ At X.K (CL.pure cl) W ⟨n0, ve⟩ S (L2.wipe σ vs) H ∧ Out X.K cl Wx (RSV X.K cl) n0 W S σ (dcL tg tt tk tv n0 ve (xs.drop i) S) Q
theorem dcP_turn {i : Nat} {x : V} {sv : SV} (hx : xs[i]? = some sv) (hD : W0.ρ n0 = D) (hq : ∀ W n, Le (n0 + 1) W0 W → n0 < n → RelSV X.K cl W n sv x) (h : DcP X cl Wx Q σ vs n0 W0 tg tt tk tv ve xs i H) :
    RGw X (CL.pure cl) vs tg x (L2.wipe σ vs) H fun σ2 H2 => L2.wipe σ2 vs = L2.wipe σ vs ∧ RT X (CL.pure cl) WF tt σ2 H2 fun b H3 => if b = true then RE X (CL.pure cl) WF tk σ2 H3 fun y H4 => RE X (CL.pure cl) WF tv σ2 H4 fun z H5 => ∃ kvs k, y = L2.kV k ∧ H5 D = some (.dK kvs) ∧ kvs.length < sizeLine ∧ DcP X cl Wx Q σ vs n0 W0 tg tt tk tv ve xs (i + 1) (upd H5 D (.dK (putK kvs k z))) else DcP X cl Wx Q σ vs n0 W0 tg tt tk tv ve xs (i + 1) H3 := by
  obtain ⟨W, S, hn, hl, a, o⟩ := h
  have hi := (List.getElem?_eq_some_iff.mp hx).1
  have hd : xs.drop i = sv :: xs.drop (i + 1) := by
    rw [List.drop_eq_getElem_cons hi]
    congr 1
    exact (List.getElem?_eq_some_iff.mp hx).2
  rw [hd] at o
  unfold dcL at o
  have wp : ∀ {W1 : Wd} {S1 : Sto} {v1 : Env} {σ' : St} {H1 : Hp}, L2.wipe σ' vs = L2.wipe σ vs → Le S.length W W1 → S.length ≤ S1.length → At X.K (CL.pure cl) W1 ⟨n0, v1⟩ S1 σ' H1 → At X.K (CL.pure cl) W1 ⟨n0, ve⟩ S1 (L2.wipe σ vs) H1 :=
    fun _ l1 h1 a1 => ⟨a1.b, a1.rel, a.env.le l1 h1, trivial⟩
  cases ht : tg sv ⟨n0, ve⟩ S with
  | none => simp only [ht] at o; exact o.elim
  | some v1 =>
    simp only [ht] at o
    refine ⟨W, ⟨n0, ve⟩, S, sv, v1, a, hq W _ hl hn, ht, fun σ' w' a' => ⟨by rw [w']; exact wipe_idem, ?_⟩⟩
    have w2 : L2.wipe σ' vs = L2.wipe σ vs := by rw [w']; exact wipe_idem
    refine RT.ofN a' o fun W1 S1 c H1 g1 l1 a1 o1 => ?_
    by_cases hc : c = true
    · rw [if_pos hc] at o1 ⊢
      refine RE.ofN a1 o1 fun W2 S2 y yv H2 g2 l2 a2 q2 o2 => ?_
      split at o2
      · rename_i k hk
        have ek : yv = L2.kV k ∧ keyOk k = true := by
          cases hv : view S2 y with
          | none => rw [hv] at hk; cases hk
          | some kd =>
            rw [hv] at hk
            exact ⟨key_rel a2.rel hv q2 hk, key_ok a2.rel hv q2 hk⟩
        refine RE.ofN a2 o2 fun W3 S3 z zv H3 g3 l3 a3 q3 o3 => ?_
        split at o3
        · rename_i S4 hp
          unfold dcPut at hp
          split at hp
          · rename_i ks acc ha
            split at hp
            · rename_i hz
              cases hp
              obtain ⟨g0, us, h1, l0, h2⟩ := a3.rel.st n0 _ ha
              have hD2 : W3.ρ n0 = D := by
                rw [l3.r n0 (Nat.lt_of_lt_of_le hn (Nat.le_trans g1.len g2.len)), l2.r n0 (Nat.lt_of_lt_of_le hn g1.len), l1.r n0 hn, hl.r n0 (Nat.lt_succ_self _), hD]
              rw [hD2] at h1 g0
              have lv : ks.length = us.length := l0.1.trans (PySem.Paired.length h2)
              have p2 : ∃ us2, putK (ks.zip us) k zv = (dPut k z ks acc).1.zip us2 ∧ Paired (RelSV X.K cl W3 S3.length) (dPut k z ks acc).2 us2 := by
                rw [put_zip lv]
                unfold dPut
                by_cases h : hasK k ks = true
                · rw [if_pos h, if_pos h]; exact ⟨_, rfl, paired_zw q3 h2⟩
                · rw [if_neg h, if_neg h]; exact ⟨_, rfl, paired_snoc h2 q3⟩
              obtain ⟨us2, e2, p2⟩ := p2
              refine ⟨ks.zip us, k, ek.1, h1, by rw [List.length_zip, ← lv, Nat.min_self]; exact hz, ?_⟩
              rw [e2]
              have r3 := a3.rel.set ha (ho := .dK ((dPut k z ks acc).1.zip us2)) (mo' := .dic (dPut k z ks acc).1 (dPut k z ks acc).2) rfl ⟨by rw [hD2]; exact g0, _, by rw [hD2]; exact upd_same, dPut_len l0 ek.2, p2⟩
              rw [hD2] at r3
              have g4 : Gr n0 S3 (S3.set n0 (.dic (dPut k z ks acc).1 (dPut k z ks acc).2)) := Gr.set fun b' hb' w hi => absurd hi (Nat.not_lt.mpr hb')
              have l13 := (l1.trans l2 g1.len).trans l3 (Nat.le_trans g1.len g2.len)
              have len := Nat.le_trans (Nat.le_trans g1.len g2.len) g3.len
              refine ⟨W3, S3.set n0 _, ?_, hl.trans l13 hn, ?_, Out.rebase o3 g4 (.refl _ _)⟩
              · rw [List.length_set]; exact Nat.lt_of_lt_of_le hn len
              · refine ⟨?_, r3, ?_, trivial⟩
                · have := a3.b; rw [List.length_set]; exact this
                · rw [List.length_set]; exact a.env.le l13 len
            · cases hp
          · cases hp
        · exact o3.elim
      · exact o2.elim
    · rw [if_neg hc] at o1 ⊢
      exact ⟨W1, S1, Nat.lt_of_lt_of_le hn g1.len, hl.trans l1 hn, wp w2 l1 g1.len a1, o1⟩
theorem dcP_start (a : At X.K cl W F S σ H) (hD : H D = none) (o : Out X.K cl Wx (RSV X.K cl) S.length W S σ (dcL tg tt tk tv S.length (wipeE F.v vs) xs (S ++ [.dic [] []])) Q) :
    DcP X cl Wx Q σ vs S.length (W.add S.length D) tg tt tk tv (wipeE F.v vs) xs 0 (upd H D (.dK [])) := by
  have r1 := a.rel.newM (p := D) (mo := .dic [] []) (ho := .dK []) hD ⟨a.rel.unone hD, [], upd_same, ⟨rfl, rfl⟩, .nil⟩
  have hl : (S ++ [MO.dic [] []]).length = S.length + 1 := by rw [List.length_append]; rfl
  refine ⟨_, _, by omega, .refl _ _, ⟨by show S.length ≤ _; omega, r1, ?_, trivial⟩, ?_⟩
  · rw [hl]; exact (EnvR.wipe a.env vs).le (W.add_le _ _) (Nat.le_succ _)
  · exact Out.rebase o (Gr.add _ _ _ (Nat.le_refl _)) (W.add_le _ _)
theorem dcP_end {n : Nat} (hD : W0.ρ n0 = D) (hx : n = xs.length) (h : DcP X cl Wx Q σ vs n0 W0 tg tt tk tv ve xs n H) : Q (.ref D) H := by
  subst hx
  obtain ⟨W, S, hn, hl, a, o⟩ := h
  rw [List.drop_of_length_le (Nat.le_refl _)] at o
  exact o W H _ (.refl _ _) (.refl _ _) a.rel ⟨hn, by rw [hl.r n0 (Nat.lt_succ_self _), hD]⟩
theorem dc_itk {d : Addr} {o : Obj} {kvs : List (Key × V)} {g : TG} {tt : TT} {tk tv : TE} {vs : List Nat} {σ : L2.St} {H1 : Hp} {D : Addr} {Qd : Hp → Prop} (Pv : Nat → Hp → Prop) (h0 : Pv 0 (upd H1 D (.dK []))) (hl : ∀ i H, i ≤ kvs.length → Pv i H → H d = some (.frz o (.dK kvs)))
    (hs : ∀ i k v H, kvs[i]? = some (k, v) → Pv i H → g (L2.kV k) (L2.wipe σ vs) H fun σ2 H2 => L2.wipe σ2 vs = L2.wipe σ vs ∧ tt σ2 H2 fun b H3 =>
      if b = true then tk σ2 H3 fun y H4 => tv σ2 H4 fun z H5 => ∃ kvs k, y = L2.kV k ∧ H5 D = some (.dK kvs) ∧ kvs.length < sizeLine ∧ Pv (i + 1) (upd H5 D (.dK (putK kvs k z))) else Pv (i + 1) H3) (hd : ∀ H, Pv kvs.length H → Qd H) :
    ∃ W : Nat → Nat → Hp → Prop, (∃ m, W 0 m (upd H1 D (.dK []))) ∧ ∀ i m H, W i m H →
      ((Itk d o kvs).stop i H ∧ Qd H) ∨ ((Itk d o kvs).go i H ∧ ∃ Nx : Hp → Prop, (∀ H', Nx H' → ∃ m', m' < m ∧ W (i + 1) m' H') ∧ ∀ x H', (Itk d o kvs).yld i H x H' → g x (L2.wipe σ vs) H' fun σ2 H2 => L2.wipe σ2 vs = L2.wipe σ vs ∧ tt σ2 H2 fun b H3 =>
        if b = true then tk σ2 H3 fun y H4 => tv σ2 H4 fun z H5 => ∃ kvs k, y = L2.kV k ∧ H5 D = some (.dK kvs) ∧ kvs.length < sizeLine ∧ Nx (upd H5 D (.dK (putK kvs k z))) else Nx H3) := by
  refine ⟨fun i m H => m = kvs.length - i ∧ i ≤ kvs.length ∧ Pv i H, ⟨kvs.length, by simp, Nat.zero_le _, h0⟩, ?_⟩
  rintro i m H ⟨rfl, hi, p⟩
  have q := hl i H hi p
  by_cases hlt : i < kvs.length
  · refine .inr ⟨⟨q, hlt⟩, Pv (i + 1), fun H' p' => ⟨kvs.length - (i + 1), by omega, rfl, hlt, p'⟩, fun x H' y => ?_⟩
    obtain ⟨e, k, v, hk, rfl⟩ := y
    subst e
    exact hs i k v _ hk p
  · have e : i = kvs.length := by omega
    subst e
    exact .inl ⟨⟨q, Nat.le_refl _⟩, hd H p⟩
theorem dc_list {K : PySem.W.Frag} {a : Addr} {xs : List V} {g : TG} {tt : TT} {tk tv : TE} {vs : List Nat} {σ : L2.St} {H1 : Hp} {D : Addr} {Qd : Hp → Prop} (Pv : Nat → Hp → Prop) (h0 : Pv 0 (upd H1 D (.dK []))) (hl : ∀ i H, i ≤ xs.length → Pv i H → SqL K H a xs)
    (hs : ∀ i x H, xs[i]? = some x → Pv i H → g x (L2.wipe σ vs) H fun σ2 H2 => L2.wipe σ2 vs = L2.wipe σ vs ∧ tt σ2 H2 fun b H3 =>
      if b = true then tk σ2 H3 fun y H4 => tv σ2 H4 fun z H5 => ∃ kvs k, y = L2.kV k ∧ H5 D = some (.dK kvs) ∧ kvs.length < sizeLine ∧ Pv (i + 1) (upd H5 D (.dK (putK kvs k z))) else Pv (i + 1) H3) (hd : ∀ H, Pv xs.length H → Qd H) :
    ∃ W : Nat → Nat → Hp → Prop, (∃ m, W 0 m (upd H1 D (.dK []))) ∧ ∀ i m H, W i m H →
      ((Itl K a).stop i H ∧ Qd H) ∨ ((Itl K a).go i H ∧ ∃ Nx : Hp → Prop, (∀ H', Nx H' → ∃ m', m' < m ∧ W (i + 1) m' H') ∧ ∀ x H', (Itl K a).yld i H x H' → g x (L2.wipe σ vs) H' fun σ2 H2 => L2.wipe σ2 vs = L2.wipe σ vs ∧ tt σ2 H2 fun b H3 =>
        if b = true then tk σ2 H3 fun y H4 => tv σ2 H4 fun z H5 => ∃ kvs k, y = L2.kV k ∧ H5 D = some (.dK kvs) ∧ kvs.length < sizeLine ∧ Nx (upd H5 D (.dK (putK kvs k z))) else Nx H3) := by
  refine ⟨fun i m H => m = xs.length - i ∧ i ≤ xs.length ∧ Pv i H, ⟨xs.length, by simp, Nat.zero_le _, h0⟩, ?_⟩
  rintro i m H ⟨rfl, hi, p⟩
  have q := hl i H hi p
  by_cases hlt : i < xs.length
  · refine .inr ⟨⟨xs, xs[i], q, by simp [hlt]⟩, Pv (i + 1), fun H' p' => ⟨xs.length - (i + 1), by omega, rfl, hlt, p'⟩, fun x H' y => ?_⟩
    obtain ⟨e, y⟩ := y
    subst e
    exact hs i x _ (y xs q) p
  · have e : i = xs.length := by omega
    subst e
    exact .inl ⟨⟨xs, q, Nat.le_refl _⟩, hd H p⟩
theorem dc_re (hfi : FiOk fi) (h : RE X cl Wx (eDcW fi vs fe tg tt tk tv) σ H Q) : tDc (iSeq X.K (RE X cl Wx fe)) (RGw X (CL.pure cl) vs tg) (RT X (CL.pure cl) WF tt) (RE X (CL.pure cl) WF tk) (RE X (CL.pure cl) WF tv) vs σ H Q := by
  obtain ⟨W, F, S, a, o⟩ := h
  refine RE.of a o fun W1 S1 y v H1 g1 l1 a1 q1 o1 => ?_
  unfold dcS at o1
  split at o1
  · rename_i xs S2 hf
    obtain ⟨n2, w2, k2⟩ := freeze_ok (K := X.K) (cl := cl) hf
    obtain ⟨W2, e2, l2, r2, q2⟩ := k2 W1 H1 v a1.rel q1
    have a2 := a1.on ⟨Nat.le_of_eq n2.symm, fun b _ => w2 b⟩ l2 r2
    have o2 := Out.rebase o1 ⟨Nat.le_of_eq n2.symm, fun b _ => w2 b⟩ l2
    have o3 := hfi.out r2 a2.b o2
    cases q2 with
    | lst h t =>
      refine ⟨_, rfl, .inl ⟨⟨_, SqL.up r2.fz h⟩, fun D hD => ?_⟩⟩
      refine dc_list (xs := _) (DcP X cl Wx Q σ vs S2.length (W2.add S2.length D) tg tt tk tv (wipeE F.v vs) (xs.map .d)) (dcP_start a2 hD o3) (fun i H _ ⟨W, S, hn, hl, a, _⟩ => SqL.up a.rel.fz (SqL.le ((W2.add_le _ _).trans hl (Nat.le_succ _)) h)) (fun i x H hx hP => ?_) fun H hP => ?_
      · obtain ⟨d, hd, rd⟩ := item_of t hx
        exact dcP_turn (sv := .d d) (by rw [List.getElem?_map, hd]; rfl) (Wd.add_at _ _ _) (fun W n hl hn => RelD.le ((W2.add_le _ _).trans hl (Nat.le_succ _)) rd) hP
      · exact dcP_end (Wd.add_at _ _ _) (by rw [List.length_map, t.length]) hP
  · rename_i xs S2 hf
    obtain ⟨n2, w2, k2⟩ := freeze_ok (K := X.K) (cl := cl) hf
    obtain ⟨W2, e2, l2, r2, q2⟩ := k2 W1 H1 v a1.rel q1
    have a2 := a1.on ⟨Nat.le_of_eq n2.symm, fun b _ => w2 b⟩ l2 r2
    have o2 := Out.rebase o1 ⟨Nat.le_of_eq n2.symm, fun b _ => w2 b⟩ l2
    have o3 := hfi.out r2 a2.b o2
    cases q2 with
    | tup h t =>
      refine ⟨_, rfl, .inr (.inl ⟨⟨_, SqT.up r2.fz h⟩, fun D hD => ?_⟩)⟩
      refine dc_tup (xs := _) (DcP X cl Wx Q σ vs S2.length (W2.add S2.length D) tg tt tk tv (wipeE F.v vs) (xs.map .d)) (dcP_start a2 hD o3) (fun i H _ ⟨W, S, hn, hl, a, _⟩ => SqT.up a.rel.fz (SqT.le ((W2.add_le _ _).trans hl (Nat.le_succ _)) h)) (fun i x H hx hP => ?_) fun H hP => ?_
      · obtain ⟨d, hd, rd⟩ := item_of t hx
        exact dcP_turn (sv := .d d) (by rw [List.getElem?_map, hd]; rfl) (Wd.add_at _ _ _) (fun W n hl hn => RelD.le ((W2.add_le _ _).trans hl (Nat.le_succ _)) rd) hP
      · exact dcP_end (Wd.add_at _ _ _) (by rw [List.length_map, t.length]) hP
  · rename_i ks xs S2 hf
    obtain ⟨n2, w2, k2⟩ := freeze_ok (K := X.K) (cl := cl) hf
    obtain ⟨W2, e2, l2, r2, q2⟩ := k2 W1 H1 v a1.rel q1
    have a2 := a1.on ⟨Nat.le_of_eq n2.symm, fun b _ => w2 b⟩ l2 r2
    have o2 := Out.rebase o1 ⟨Nat.le_of_eq n2.symm, fun b _ => w2 b⟩ l2
    have o3 := hfi.out r2 a2.b o2
    cases q2 with
    | @dic ad hob _ _ us h c l t =>
      have lz : (ks.zip us).length = ks.length := by rw [List.length_zip, ← t.length, ← l.1, Nat.min_self]
      have kz : ∀ {i k v}, (ks.zip us)[i]? = some (k, v) → ks[i]? = some k := fun {i k v} e => (List.getElem?_zip_eq_some.mp e).1
      have kk : ∀ {i k} {G : Hp}, ks[i]? = some k → RelD X.K cl G (keyD k) (L2.kV k) := fun {i k G} e => by
        have := List.all_eq_true.mp l.2 k (List.mem_of_getElem? e)
        cases k with
        | inl i => exact .int i
        | inr s => exact .str s this
      have body : ∀ W3 H3 o, W3.G ad = some (.frz o (.dK (ks.zip us))) → At X.K cl W3 F S2 σ H3 → Le S2.length W2 W3 → ∀ D, H3 D = none → ∃ Wn : Nat → Nat → Hp → Prop, (∃ m, Wn 0 m (upd H3 D (.dK []))) ∧ ∀ i m H, Wn i m H →
          ((Itk ad o (ks.zip us)).stop i H ∧ Q (.ref D) H) ∨ ((Itk ad o (ks.zip us)).go i H ∧ ∃ Nx : Hp → Prop, (∀ H', Nx H' → ∃ m', m' < m ∧ Wn (i + 1) m' H') ∧ ∀ x H', (Itk ad o (ks.zip us)).yld i H x H' → RGw X (CL.pure cl) vs tg x (L2.wipe σ vs) H' fun σ2 H2 => L2.wipe σ2 vs = L2.wipe σ vs ∧ RT X (CL.pure cl) WF tt σ2 H2 fun b H3 =>
            if b = true then RE X (CL.pure cl) WF tk σ2 H3 fun y H4 => RE X (CL.pure cl) WF tv σ2 H4 fun z H5 => ∃ kvs k, y = L2.kV k ∧ H5 D = some (.dK kvs) ∧ kvs.length < sizeLine ∧ Nx (upd H5 D (.dK (putK kvs k z))) else Nx H3) := by
        intro W3 H3 o g3 a3 l3 D hD
        refine dc_itk (DcP X cl Wx Q σ vs S2.length (W3.add S2.length D) tg tt tk tv (wipeE F.v vs) (ks.map keyS)) (dcP_start a3 hD (Out.rebase o3 (.refl _ _) l3)) (fun i H _ ⟨W, S, hn, hl, a, _⟩ => ?_) (fun i k v H hx hP => ?_) fun H hP => ?_
        · obtain ⟨o', e', s'⟩ := ((W3.add_le _ _).trans hl (Nat.le_succ _)).g _ _ g3
          rcases s' with rfl | ⟨_, _, z, _⟩
          · exact a.rel.fz _ _ e'
          · cases z
        · exact dcP_turn (sv := keyS k) (by rw [List.getElem?_map, kz hx]; rfl) (Wd.add_at _ _ _) (fun W n hl hn => kk (kz hx)) hP
        · exact dcP_end (Wd.add_at _ _ _) (by rw [List.length_map, lz]) hP
      refine ⟨_, rfl, .inr (.inr ?_)⟩
      cases hob <;> first
        | (cases c
           refine .inr ⟨_, r2.fz _ _ h, fun o => ?_⟩
           obtain ⟨r3, l3⟩ := r2.pin h o S2.length
           exact body _ _ o upd_same (a2.on (.refl _ _) l3 r3) l3)
        | (rename_i ob u
           have c' : u = .dK (ks.zip us) := c
           subst c'
           exact .inl ⟨_, ob, r2.fz _ _ h, body W2 H1 ob h a2 (.refl _ _)⟩)
        | (cases c)
  · exact o1.elim
variable {kx vx tgt iter : Expr} {ifs : List Expr} {own : List (Str × Nat)} {pos : Pos} {scope : Scope}
theorem ev_dc (hfi : FiOk fi) (hc : X.calm = true) (hN : X.N.Nodup) (ok : BlkOk X.N X.env.scope scope own) (hvs : own.map (·.2) = vs := by rfl) (hi : PE X iter (RE X cl Wx fe)) (hg : ∀ (s : Shared) (H : Hp) (C : Addr) (cls : List (Str × Addr)) (fp : List Addr), PG (Blk X s H scope cls C fp) tgt (RGw (Blk X s H scope cls C fp) (CL.pure cl) vs tg)) (ht : ∀ (s : Shared) (H : Hp) (C : Addr) (cls : List (Str × Addr)) (fp : List Addr), PTs (Blk X s H scope cls C fp) ifs (RT (Blk X s H scope cls C fp) (CL.pure cl) WF tt))
    (hk : ∀ (s : Shared) (H : Hp) (C : Addr) (cls : List (Str × Addr)) (fp : List Addr), PE (Blk X s H scope cls C fp) kx (RE (Blk X s H scope cls C fp) (CL.pure cl) WF tk)) (he : ∀ (s : Shared) (H : Hp) (C : Addr) (cls : List (Str × Addr)) (fp : List Addr), PE (Blk X s H scope cls C fp) vx (RE (Blk X s H scope cls C fp) (CL.pure cl) WF tv)) (hs : ∀ x, foldedSetIterable iter X.env x = pure x := by exact fun _ => rfl) :
    PE X (.DictComp kx vx [⟨tgt, iter, ifs, 0⟩] scope pos) (RE X cl Wx (eDcW fi vs fe tg tt tk tv)) := by
  subst hvs
  exact PE.weak (pe_dc hc hN (pi_seq hi) ok hg ht hk he hs) fun σ H Q h => dc_re hfi h
end
/-! ### reckoning -/
def kDc (fi : Nat → Res SV → Res SV) (vs : List Nat) (tg : Tg) (tt : Fr → Sto → Res Bool) (tk tv : Fr → Sto → Res SV) (v : Env) (r : Res SV) : Res SV := r.bind fun x S1 => dcS fi vs tg tt tk tv v (freeze S1 x)
@[simp] theorem kDc_ok (fi : Nat → Res SV → Res SV) (vs : List Nat) (tg : Tg) (tt : Fr → Sto → Res Bool) (tk tv : Fr → Sto → Res SV) (v : Env) (x : SV) (S : Sto) : kDc fi vs tg tt tk tv v (.ok x S) = dcS fi vs tg tt tk tv v (freeze S x) := Eq.trans rfl rfl
@[simp] theorem eDcW_ap (fi : Nat → Res SV → Res SV) (vs : List Nat) (fe : Fr → Sto → Res SV) (tg : Tg) (tt : Fr → Sto → Res Bool) (tk tv : Fr → Sto → Res SV) (F : Fr) (S : Sto) : eDcW fi vs fe tg tt tk tv F S = kDc fi vs tg tt tk tv F.v (fe F S) := Eq.trans rfl rfl
@[simp] theorem dcS_dic (fi : Nat → Res SV → Res SV) (vs : List Nat) (tg : Tg) (tt : Fr → Sto → Res Bool) (tk tv : Fr → Sto → Res SV) (v : Env) (ks : List Key) (xs : List Dv) (S : Sto) : dcS fi vs tg tt tk tv v (some (.dic ks xs, S)) = dcAll fi vs tg tt tk tv v (ks.map keyS) S := Eq.trans rfl rfl
@[simp] theorem dcS_lst (fi : Nat → Res SV → Res SV) (vs : List Nat) (tg : Tg) (tt : Fr → Sto → Res Bool) (tk tv : Fr → Sto → Res SV) (v : Env) (xs : List Dv) (S : Sto) : dcS fi vs tg tt tk tv v (some (.lst xs, S)) = dcAll fi vs tg tt tk tv v (xs.map .d) S := Eq.trans rfl rfl
@[simp] theorem dcS_tup (fi : Nat → Res SV → Res SV) (vs : List Nat) (tg : Tg) (tt : Fr → Sto → Res Bool) (tk tv : Fr → Sto → Res SV) (v : Env) (xs : List Dv) (S : Sto) : dcS fi vs tg tt tk tv v (some (.tup xs, S)) = dcAll fi vs tg tt tk tv v (xs.map .d) S := Eq.trans rfl rfl
/-- over keys without change of the store: each one's pair -/
theorem dcL_A {tg : Tg} {tt : Fr → Sto → Res Bool} {tk tv : Fr → Sto → Res SV} {b : Nat} {ve : Env} (p : Key → Bool) (f : Key → Dv) {B : Sto} (hb : B.length = b) : ∀ (ks as : List Key) (acc : List Dv), as.length = acc.length → as.length + ks.length ≤ most → ks.Nodup → (∀ k ∈ ks, k ∉ as) →
    (∀ k ∈ ks, ∀ T : Sto, ∃ v1, tg (keyS k) ⟨b, ve⟩ T = some v1 ∧ tt ⟨b, v1⟩ T = .ok (p k) T ∧ (p k = true → tk ⟨b, v1⟩ T = .ok (keyS k) T ∧ tv ⟨b, v1⟩ T = .ok (.d (f k)) T)) →
    dcL tg tt tk tv b ve (ks.map keyS) (B ++ [.dic as (acc.map .d)]) = .ok (.m b) (B ++ [.dic (as ++ ks.filter p) ((acc ++ (ks.filter p).map f).map .d)])
  | [], as, acc, _, _, _, _, _ => by simp [dcL]
  | k :: r, as, acc, la, hl, nd, hn, h => by
    obtain ⟨v1, h0, h1, h2⟩ := h k (List.mem_cons_self ..) (B ++ [.dic as (acc.map .d)])
    simp only [List.length_cons] at hl
    have hg : (B ++ [MO.dic as (acc.map SV.d)])[b]? = some (.dic as (acc.map .d)) := by subst hb; simp
    have ndr := (List.nodup_cons.mp nd)
    rw [List.map_cons]
    unfold dcL
    cases hp : p k with
    | false =>
      rw [hp] at h1
      simp only [h0, h1, noX_ok, Res.bind_ok, Bool.false_eq_true, if_false]
      rw [dcL_A p f hb r as acc la (by omega) ndr.2 (fun x hx => hn x (List.mem_cons_of_mem _ hx)) fun x hx => h x (List.mem_cons_of_mem _ hx)]
      simp [hp]
    | true =>
      rw [hp] at h1
      obtain ⟨e1, e2⟩ := h2 hp
      have hv : (view (B ++ [MO.dic as (acc.map SV.d)]) (keyS k)).bind kOf = some k := by cases k <;> rfl
      have hk : hasK k as = false := by
        unfold hasK
        rw [List.any_eq_false]
        intro a ha
        simp only [decide_eq_true_eq]
        exact fun e => hn k (List.mem_cons_self ..) (e ▸ ha)
      have hput : dcPut b k (.d (f k)) (B ++ [.dic as (acc.map .d)]) (some (.dic as (acc.map .d))) = some (B ++ [.dic (as ++ [k]) ((acc ++ [f k]).map .d)]) := by
        unfold dcPut dPut
        simp only [hk]
        rw [if_pos (by show as.length < most; omega)]
        subst hb
        simp
      simp only [h0, h1, e1, e2, noX_ok, Res.bind_ok, if_true, hv, hg, hput]
      rw [dcL_A p f hb r (as ++ [k]) (acc ++ [f k]) (by simp [la]) (by simp; omega) ndr.2 (fun x hx => ?_) fun x hx => h x (List.mem_cons_of_mem _ hx)]
      · simp [hp]
      · intro z
        rcases List.mem_append.mp z with z | z
        · exact hn x (List.mem_cons_of_mem _ hx) z
        · rw [List.mem_singleton] at z; subst z; exact ndr.1 hx
theorem dcAll_A {vs : List Nat} {tg : Tg} {tt : Fr → Sto → Res Bool} {tk tv : Fr → Sto → Res SV} {v : Env} (p : Key → Bool) (f : Key → Dv) (S : Sto) (ks : List Key) (hl : ks.length ≤ most) (nd : ks.Nodup)
    (h : ∀ k ∈ ks, ∀ T : Sto, ∃ v1, tg (keyS k) ⟨S.length, wipeE v vs⟩ T = some v1 ∧ tt ⟨S.length, v1⟩ T = .ok (p k) T ∧ (p k = true → tk ⟨S.length, v1⟩ T = .ok (keyS k) T ∧ tv ⟨S.length, v1⟩ T = .ok (.d (f k)) T)) :
    dcAll fin vs tg tt tk tv v (ks.map keyS) S = .ok (.d (.dic (ks.filter p) ((ks.filter p).map f))) S := by
  unfold dcAll
  have := dcL_A (tg := tg) (tt := tt) (tk := tk) (tv := tv) (b := S.length) (ve := wipeE v vs) p f (B := S) rfl ks [] [] rfl (by simpa using hl) nd (by simp) h
  simp only [List.map_nil, List.nil_append] at this
  rw [this]
  unfold fin
  simp only
  have hf : freeze (S ++ [MO.dic (ks.filter p) (((ks.filter p).map f).map SV.d)]) (SV.m S.length) = _ := freeze_dic (ks := ks.filter p) (xs := (ks.filter p).map f) (by simp)
  rw [hf]
  simp
end Ev

set_option Elab.async false
set_option linter.all false
set_option maxRecDepth 100000
/-! Ev26: list + list that will change, sum, list(d), d.clear(), defaults. -/
namespace Ev
open PySem L2
section
variable {X : Cx} {cl : CL} {Wx : WX} {e e1 e2 o : Expr} {es : List Expr} {f : Fr → Sto → Res (List SV)} {f1 f2 fo : Fr → Sto → Res SV} {p pos apos cpos : Pos} {x : Str}
/-! ### list + list -/
def lstOf (S : Sto) : SV → Option (List SV)
  | .d (.lst xs) => some (xs.map .d)
  | .d _ => none
  | .m i => match S[i]? with
    | some (.lst xs) => some xs
    | some (.frz (.lst xs)) => some (xs.map .d)
    | _ => none
theorem lst_rel {K : PySem.W.Frag} {cl : Nat → Addr} {W : Wd} {S : Sto} {H : Hp} (r : Rel K cl W S H) {x : SV} {xs : List SV} {v : V} (e : lstOf S x = some xs) (q : RelSV K cl W S.length x v) : ∃ a vs, v = .ref a ∧ SqL K H a vs ∧ Paired (RelSV K cl W S.length) xs vs := by
  unfold lstOf at e
  split at e
  · cases e; cases q with
    | lst h t => exact ⟨_, _, rfl, SqL.up r.fz h, t.sv⟩
  · cases e
  · split at e
    · rename_i hy
      cases e
      obtain ⟨_, rfl⟩ := q
      obtain ⟨_, vs, h1, h2⟩ := r.st _ _ hy
      exact ⟨_, vs, rfl, .of h1, h2⟩
    · rename_i hy
      cases e
      obtain ⟨_, rfl⟩ := q
      have := r.st _ _ hy
      cases this with
      | lst h t => exact ⟨_, _, rfl, SqL.up r.fz h, t.sv⟩
    · cases e
def catR (S : Sto) : Option (List SV) → Option (List SV) → Res SV
  | some xs, some ys => if xs.length + ys.length ≤ most then .ok (.m S.length) (S ++ [.lst (xs ++ ys)]) else .bad
  | _, _ => .bad
def eCatM (f1 f2 : Fr → Sto → Res SV) : Fr → Sto → Res SV := fun F S => (f1 F S).bind fun x S1 => (f2 F S1).bind fun y S2 => catR S2 (lstOf S2 x) (lstOf S2 y)
theorem paired_append {α β : Type} {R : α → β → Prop} : ∀ {xs xs' : List α} {ys ys' : List β}, Paired R xs ys → Paired R xs' ys' → Paired R (xs ++ xs') (ys ++ ys')
  | _, _, _, _, .nil, s => s
  | _, _, _, _, .cons q t, s => .cons q (paired_append t s)
theorem ev_catM (h1 : PE X e1 (RE X cl Wx f1)) (h2 : PE X e2 (RE X cl Wx f2)) : PE X (.BinOp e1 .Add e2 pos) (RE X cl Wx (eCatM f1 f2)) :=
  PE.weak (pe_op op_catL h1 h2) fun σ H Q ⟨W, F, S, a, q⟩ => by
    refine RE.of a q fun W1 S1 x v H1 g1 l1 a1 q1 o1 => ?_
    refine RE.of a1 o1 fun W2 S2 y u H2 g2 l2 a2 q2 o2 => ?_
    have q1' := RelSV.le l2 g2.len q1
    cases hx : lstOf S2 x with
    | none => rw [hx] at o2; exact o2.elim
    | some xs =>
      cases hy : lstOf S2 y with
      | none => rw [hx, hy] at o2; exact o2.elim
      | some ys =>
        rw [hx, hy] at o2
        unfold catR at o2
        simp only at o2
        split at o2
        · rename_i hz
          obtain ⟨pa, vs, rfl, s1, t1⟩ := lst_rel a2.rel hx q1'
          obtain ⟨pb, us, rfl, s2, t2⟩ := lst_rel a2.rel hy q2
          refine ⟨pa, pb, vs, us, rfl, rfl, s1, s2, by rw [← PySem.Paired.length t1, ← PySem.Paired.length t2]; exact hz, fun l hl => ?_⟩
          have r3 := a2.rel.newM (mo := .lst (xs ++ ys)) (ho := .lst (vs ++ us)) hl ⟨a2.rel.unone hl, _, upd_same, RelSVs.le (W2.add_le _ _) (Nat.le_succ _) (paired_append t1 t2)⟩
          exact o2 _ _ _ (.add _ _ _ a2.b) (W2.add_le _ _) r3 ⟨by rw [List.length_append]; exact Nat.lt_succ_self _, by rw [Wd.add_at]⟩
        · exact o2.elim
/-! ### sum(list) -/
def sumI : List Dv → Option (List Int)
  | [] => some []
  | .int i :: r => (sumI r).map (i :: ·)
  | _ :: _ => none
theorem sumI_map (is : List Int) : sumI (is.map .int) = some is := by
  induction is with
  | nil => rfl
  | cons i r ih => simp [sumI, ih]
theorem sumI_rel {K : PySem.W.Frag} {cl : Nat → Addr} {G : Hp} : ∀ {xs : List Dv} {is : List Int} {vs : List V}, sumI xs = some is → RelDs K cl G xs vs → vs = is.map V.int
  | [], is, _, e, .nil => by cases e; rfl
  | x :: r, is, _, e, .cons h t => by
    cases x <;> first | (cases e; done) | skip
    rename_i i
    cases h
    simp only [sumI, Option.map_eq_some_iff] at e
    obtain ⟨js, e1, rfl⟩ := e
    rw [sumI_rel e1 t]
    rfl
def biSum (S : Sto) : List SV → Option Dv
  | [a] => match view S a with
    | some (.lst xs) => (sumI xs).map fun is => .int is.sum
    | _ => none
  | _ => none
theorem ov_sum (hc : X.calm = true) : CallR X (.builtin "sum") (RCall X cl biSum) := CallR.weak (cr_sum hc) fun xs H Q ⟨W, S, as, z, r, ra, e, k⟩ => by
  match as, xs, ra, e with
  | [a], [v], .cons ra .nil, e =>
    simp only [biSum] at e
    split at e
    · rename_i ys ea
      obtain ⟨p, vs, rfl, s1, t1⟩ := view_lst r ea ra
      simp only [Option.map_eq_some_iff] at e
      obtain ⟨is, e1, rfl⟩ := e
      exact ⟨p, is, rfl, by rw [← sumI_rel e1 t1]; exact s1, k W H _ (.refl _ _) r (.int _)⟩
    · cases e
/-! ### list(d) -/
def biListD (S : Sto) : List SV → Option Dv
  | [a] => match dictOf S a with
    | some (ks, _) => some (.lst (ks.map keyD))
    | none => none
  | _ => none
theorem keysV {K : PySem.W.Frag} {cl : Nat → Addr} {G : Hp} {vs : List V} : ∀ {ks : List Key} {vs : List V}, ks.length = vs.length → ks.all keyOk = true → RelDs K cl G (ks.map keyD) ((ks.zip vs).map fun kv => L2.kV kv.1)
  | [], _, _, _ => .nil
  | k :: r, [], l, _ => by cases l
  | k :: r, v :: vs, l, h => by
    rw [List.all_cons, Bool.and_eq_true] at h
    refine .cons ?_ (keysV (vs := vs) (Nat.succ.inj l) h.2)
    cases k with
    | inl i => exact .int i
    | inr s => exact .str s h.1
theorem ov_listD (hc : X.calm = true) : CallR X (.type "list") (RCall X cl biListD) := CallR.weak (call_listD hc) fun xs H Q ⟨W, S, as, z, r, ra, e, k⟩ => by
  match as, xs, ra, e with
  | [a], [v], .cons ra .nil, e =>
    simp only [biListD] at e
    split at e
    · rename_i ks ys ea
      cases e
      obtain ⟨p, us, rfl, h1, h2, h3⟩ := dict_rel r ea ra
      exact ⟨p, _, rfl, h1, new_lst r (keysV (vs := us) (h2.1.trans (PySem.Paired.length h3)) h2.2) k⟩
    · cases e
/-! ### d.clear() -/
def clrR (S : Sto) : SV → Option Sto
  | .m j => match S[j]? with
    | some (.dic _ _) => some (S.set j (.dic [] []))
    | _ => none
  | _ => none
def clrS : Option Sto → Res SV
  | some S => .ok (.d .non) S
  | none => .bad
def eClr (fo : Fr → Sto → Res SV) : Fr → Sto → Res SV := fun F S => (fo F S).bind fun x S1 => clrS (clrR S1 x)
theorem ev_clr (ho : PE X o (RE X cl Wx fo)) (hbase : attributeBase o "clear" X.env (eval o X.env) = eval o X.env := by rfl) (hline : (apos.endLine == cpos.line) = true := by rfl) : PE X (.Call (.Attribute o "clear" apos) [] [] cpos) (RE X cl Wx (eClr fo)) :=
  PE.weak (pe_dclear ho hbase hline) fun σ H Q ⟨W, F, S, a, q⟩ => by
    refine RE.of a q fun W1 S1 y v H1 g1 l1 a1 q1 o1 => ?_
    cases hc : clrR S1 y with
    | none => rw [hc] at o1; exact o1.elim
    | some S2 =>
      rw [hc] at o1
      unfold clrR at hc
      split at hc
      · rename_i j
        split at hc
        · rename_i ks xs hx
          cases hc
          obtain ⟨_, rfl⟩ := q1
          obtain ⟨g0, vs, h1, h2, h3⟩ := a1.rel.st j _ hx
          have r3 := a1.rel.set hx (ho := .dK []) (mo' := .dic [] []) rfl ⟨g0, [], upd_same, ⟨rfl, rfl⟩, .nil⟩
          refine ⟨?_, W1.ρ j, _, rfl, rfl, h1, o1 W1 _ _ (.set fun b' hb w hi z hz => by cases hz) (.refl _ _) r3 RelD.non⟩
          exact .inr (.inr (.inl ⟨rfl, .inl ⟨_, h1⟩⟩))
        · cases hc
      · cases hc
/-! ### f(e, ..) with defaults behind -/
def cstV : Dv → V
  | .non => .non
  | .bl b => .bl b
  | .int i => .int i
  | .str s => .str s
  | _ => .non
def cstOk : Dv → Bool
  | .non => true
  | .bl _ => true
  | .int _ => true
  | .str s => PyData.strOk s
  | _ => false
theorem cst_rel {K : PySem.W.Frag} {cl : Nat → Addr} {W : Wd} {n : Nat} : ∀ {ds : List Dv}, ds.all cstOk = true → Paired (RelSV K cl W n) (ds.map .d) (ds.map cstV)
  | [], _ => .nil
  | d :: r, h => by
    rw [List.all_cons, Bool.and_eq_true] at h
    refine .cons ?_ (cst_rel h.2)
    cases d <;> first | (cases h.1; done) | skip
    · exact RelD.non
    · exact RelD.bl _
    · exact RelD.int _
    · exact RelD.str _ h.1
def BindD (K : PySem.W.Frag) (fd : FuncData) (ps : List Str) (ds : List Dv) : Prop := ∃ us, Vals (ds.map cstV) us ∧ Binds K fd ps us
def eCallD (g : Nat → List SV → Sto → Res SV) (ds : List Dv) (f : Fr → Sto → Res (List SV)) : Fr → Sto → Res SV := fun F S => (f F S).bind fun as S1 => fin S1.length (g S1.length (as ++ ds.map .d) S1)
def eCallDK (g : Nat → List SV → Sto → Res SV) (ds : List Dv) (f : Fr → Sto → Res (List SV)) : Fr → Sto → Res SV := fun F S => (f F S).bind fun as S1 => finK S1.length (g S1.length (as ++ ds.map .d) S1)
variable {k : Nat} {fa : Addr} {fd : FuncData} {ps : List Str} {g : Nat → List SV → Sto → Res SV} {ds : List Dv}
theorem ev_callD (Fk : FnE X cl k fa fd ps g) (hr : Room k X.A) (tk : L2N.Takes X Wx) (hg : Gl X x) (hm : X.mg x = some (.ref fa)) (hk : PySem.W.keepIn X.K (.ref fa) = true) (hb : BindD X.K fd ps ds) (hc : ds.all cstOk = true) (ha : PA X (e :: es) (RA X cl Wx f))
    (hdb : (x == ("__debug__" : Str)) = false := by decide +kernel) (he : starEach (e :: es) X.env = (false, eval e X.env) :: starEach es X.env := by rfl) (hpl : (backTo pos (starEach es X.env)).any (·.1) = false := by rfl) :
    PE X (.Call (.Name x p) (e :: es) [] pos) (RE X cl Wx (eCallD g ds f)) := by
  obtain ⟨us, hv, hb⟩ := hb
  exact PE.weak (pe_callSD (E := WE Wx) Fk hr hg hm hk hb hv (fun σ => L2N.passAt tk σ) ha hdb he hpl) fun σ H Q ⟨W, F, S, a, q⟩ =>
    RA.of a q fun W1 S1 as vs H1 g1 l1 a1 q1 o1 => sp_fin a1 (paired_append q1 (cst_rel hc)) o1
theorem ev_callDK (Fk : FnE X cl k fa fd ps g) (hr : Room k X.A) (tk : L2N.Takes X Wx) (hg : Gl X x) (hm : X.mg x = some (.ref fa)) (hk : PySem.W.keepIn X.K (.ref fa) = true) (hb : BindD X.K fd ps ds) (hc : ds.all cstOk = true) (ha : PA X (e :: es) (RA X cl Wx f))
    (hdb : (x == ("__debug__" : Str)) = false := by decide +kernel) (he : starEach (e :: es) X.env = (false, eval e X.env) :: starEach es X.env := by rfl) (hpl : (backTo pos (starEach es X.env)).any (·.1) = false := by rfl) :
    PE X (.Call (.Name x p) (e :: es) [] pos) (RE X cl Wx (eCallDK g ds f)) := by
  obtain ⟨us, hv, hb⟩ := hb
  exact PE.weak (pe_callSD (E := WE Wx) Fk hr hg hm hk hb hv (fun σ => L2N.passAt tk σ) ha hdb he hpl) fun σ H Q ⟨W, F, S, a, q⟩ =>
    RA.of a q fun W1 S1 as vs H1 g1 l1 a1 q1 o1 => sp_finK a1 (paired_append q1 (cst_rel hc)) o1
end
/-! ### a def with defaults -/
section
variable {P : Program} {w : World} {K : PySem.W.Frag} {mg : Str → Option Value} {base : Heap} {cl : Nat → Addr} {x qual : Str} {st : Stmt} {f : Addr} {fd : FuncData} {N ps : List Str} {k np nn : Nat} {dvs : List V}
abbrev FunE (K : PySem.W.Frag) (x qual : Str) (st : Stmt) (ds : List Dv) (f : Addr) (fd : FuncData) : Prop := FunD K x qual (defArgs st) (defBody st) (defScope st) (ds.map cstV) [] f fd
theorem funE_mk {ds : List Dv} {oc toc kV doc pm cdv ct : Value} {od an tod : Option Addr} {osl tsl : Array (Option Value)} {T : Addr} {its : Array Value} {tn : Nat} (l : K.lookup f = some ⟨oc, od, .func (PySem.W.fnOf x qual (defArgs st) (defBody st) (defScope st) (.ref T) kV doc pm an cdv ct), osl⟩)
    (c : PySem.W.codeIn K cdv qual = true) (kp : PySem.W.keepIn K (.ref f) = true) (lT : K.lookup T = some ⟨toc, tod, .seq its tn, tsl⟩) (h : He.relAll (ds.map cstV) its.toList = true) (hd : ds ≠ []) : FunE K x qual st ds f (PySem.W.fnOf x qual (defArgs st) (defBody st) (defScope st) (.ref T) kV doc pm an cdv ct) :=
  ⟨⟨oc, od, .ref T, kV, doc, pm, an, cdv, ct, osl, rfl, l, c, .inr ⟨by simpa using hd, T, _, its.toList, tn, rfl, lT, by simp, He.relAll_ok h⟩, .inl rfl⟩, kp⟩
theorem bindE {ds : List Dv} (F : FunE K x qual st ds f fd) (n : Nat) (hd : ds ≠ []) (hn : n + (ds.length - (ds.length + n - ps.length)) = ps.length)
    (h : ∀ (T : Addr) (kV doc pm : Value) (an : Option Addr) (cdv ct : Value) (us its : List Value), us.length = n → its.length = ds.length →
      ∃ k, bindArgs (PySem.W.fnOf x qual (defArgs st) (defBody st) (defScope st) (.ref T) kV doc pm an cdv ct) ⟨us, []⟩ = seqItems? (.ref T) >>= k ∧ k (some its.toArray) = pure (ps.zip (us ++ its.drop (ds.length + n - ps.length)))) : BindD K fd ps (ds.drop (ds.length + n - ps.length)) := by
  have := F.binds1 (ps := ps) n (ds.length + n - ps.length) (by simpa using hd) (by rw [List.length_map]; exact hn) (fun T kV doc pm an cdv ct us its h1 h2 => h T kV doc pm an cdv ct us its h1 (by rw [h2, List.length_map]))
  rw [← List.map_drop] at this
  exact this
theorem binds_nil {ps : List Str} (h : BindD K fd ps []) : Binds K fd ps [] := by
  obtain ⟨us, v, b⟩ := h
  cases v
  exact b
theorem okE {ds : List Dv} {sp : Sp} (Fu : FunE K x qual st ds f fd) (Sc : FnScope N ps (defScope st)) (len : ∀ vs H Q E, sp vs H Q E → vs.length = ps.length)
    (hb : ∀ (cdv : Value) (A : Around) (outer : List PySem.Env) (s : Shared) (H : Hp) (vs : List V) (Q : VK) (E : XK), Room k (cxOf (L2N.CX P w) P w K mg base N qual (defScope st) f cdv A outer s H E).A → sp vs H Q E →
      ∃ t, PSs (cxOf (L2N.CX P w) P w K mg base N qual (defScope st) f cdv A outer s H E) (defBody st) t ∧ t { nx := fun _ H' => Q .non H', rt := Q } (L2.start N vs) H) : FnOk P w K mg base (L2N.CX P w) (k + 1) f fd ps sp := by
  obtain ⟨oc, od, dV, kV, doc, pm, an, cdv, ct, osl, rfl, lk, hcd, _, _⟩ := Fu.ex
  exact fn_of lk hcd Sc len fun A outer s H vs Q E hr hsp => hb cdv A outer s H vs Q E hr hsp
/-- THE RULE: a def with defaults keeps what the evaluator says of its body -/
theorem fn_okE {ds : List Dv} {body : Fr → Sto → SRes} (Fu : FunE K x qual st ds f fd) (Sc : FnScope N ps (defScope st)) (hnp : ps.length = np) (hnn : N.length = nn)
    (hbody : ∀ (cdv : Value) (A : Around) (outer : List PySem.Env) (s : Shared) (H : Hp) (E : XK), XOk (cxOf (L2N.CX P w) P w K mg base N qual (defScope st) f cdv A outer s H E) (fun c d _ H => E c d H) k →
      PSs (cxOf (L2N.CX P w) P w K mg base N qual (defScope st) f cdv A outer s H E) (defBody st) (RS (cxOf (L2N.CX P w) P w K mg base N qual (defScope st) f cdv A outer s H E) (CL.pure cl) (fun c d _ H => E c d H) body)) :
    FnOk P w K mg base (L2N.CX P w) (k + 1) f fd ps (SpR K cl (runF np nn body)) := by
  refine okE Fu Sc (fun vs H Q E ⟨W, S, as, b, hb, r, p, o⟩ => ?_) fun cdv A outer s H vs Q E hr ⟨W, S, as, b, hb, r, p, o⟩ => ?_
  · unfold runF at o
    split at o
    · rename_i hl; rw [hnp, ← hl, PySem.Paired.length p]
    · exact o.elim
  · refine ⟨_, hbody cdv A outer s H E ⟨hr, L2N.takes_of rfl rfl rfl rfl, passes_of rfl, rfl, ?_, ?_⟩, ?_⟩
    · have := hr.un
      omega
    · have := hr.un
      omega
    unfold runF at o
    split at o
    · rename_i hl
      subst hl
      refine ⟨W, ⟨b, as.map some ++ List.replicate (nn - as.length) none⟩, S, ⟨hb, r, by rw [← hnn]; exact env_start p, trivial⟩, ?_⟩
      cases hr : body ⟨b, as.map some ++ List.replicate (nn - as.length) none⟩ S with
      | nx v2 S2 => rw [hr] at o; exact fun W' σ' H' g l a => o W' H' _ g l a.rel RelD.non
      | ct v2 S2 => rw [hr] at o; exact o.elim
      | bk v2 S2 => rw [hr] at o; exact o.elim
      | rt v S2 => rw [hr] at o; exact o
      | ex ec v2 S2 => rw [hr] at o; exact fun W' σ' H' c d g l a q => o W' H' c d g l a.rel q
      | bad => rw [hr] at o; exact o
    · exact o.elim
end
/-! ### reckoning -/
def kCt2 (x : SV) (r : Res SV) : Res SV := r.bind fun y S2 => catR S2 (lstOf S2 x) (lstOf S2 y)
@[simp] theorem kCt2_ok (x y : SV) (S : Sto) : kCt2 x (.ok y S) = catR S (lstOf S x) (lstOf S y) := Eq.trans rfl rfl
def kCt1 (f2 : Fr → Sto → Res SV) (F : Fr) (r : Res SV) : Res SV := r.bind fun x S1 => kCt2 x (f2 F S1)
@[simp] theorem kCt1_ok (f2 : Fr → Sto → Res SV) (F : Fr) (x : SV) (S : Sto) : kCt1 f2 F (.ok x S) = kCt2 x (f2 F S) := Eq.trans rfl rfl
@[simp] theorem eCatM_ap (f1 f2 : Fr → Sto → Res SV) (F : Fr) (S : Sto) : eCatM f1 f2 F S = kCt1 f2 F (f1 F S) := Eq.trans rfl rfl
@[simp] theorem catR_s (S : Sto) (xs ys : List SV) : catR S (some xs) (some ys) = if xs.length + ys.length ≤ most then .ok (.m S.length) (S ++ [.lst (xs ++ ys)]) else .bad := Eq.trans rfl rfl
@[simp] theorem lstOf_d (S : Sto) (xs : List Dv) : lstOf S (.d (.lst xs)) = some (xs.map .d) := Eq.trans rfl rfl
def lstM : Option MO → Option (List SV)
  | some (.lst xs) => some xs
  | some (.frz (.lst xs)) => some (xs.map .d)
  | _ => none
@[simp] theorem lstM_l (xs : List SV) : lstM (some (.lst xs)) = some xs := Eq.trans rfl rfl
@[simp] theorem lstM_f (xs : List Dv) : lstM (some (.frz (.lst xs))) = some (xs.map .d) := Eq.trans rfl rfl
@[simp] theorem lstOf_m (S : Sto) (i : Nat) : lstOf S (.m i) = lstM S[i]? := by
  unfold lstOf lstM
  rfl
def kClr (r : Res SV) : Res SV := r.bind fun x S1 => clrS (clrR S1 x)
@[simp] theorem kClr_ok (x : SV) (S : Sto) : kClr (.ok x S) = clrS (clrR S x) := Eq.trans rfl rfl
@[simp] theorem eClr_ap (fo : Fr → Sto → Res SV) (F : Fr) (S : Sto) : eClr fo F S = kClr (fo F S) := Eq.trans rfl rfl
@[simp] theorem clrS_s (S : Sto) : clrS (some S) = .ok (.d .non) S := Eq.trans rfl rfl
def kCalD (g : Nat → List SV → Sto → Res SV) (ds : List Dv) (r : Res (List SV)) : Res SV := r.bind fun as S1 => callF g (as ++ ds.map .d) S1
@[simp] theorem kCalD_ok (g : Nat → List SV → Sto → Res SV) (ds : List Dv) (as : List SV) (S : Sto) : kCalD g ds (.ok as S) = callF g (as ++ ds.map .d) S := Eq.trans rfl rfl
@[simp] theorem eCallD_ap (g : Nat → List SV → Sto → Res SV) (ds : List Dv) (f : Fr → Sto → Res (List SV)) (F : Fr) (S : Sto) : eCallD g ds f F S = kCalD g ds (f F S) := Eq.trans rfl rfl
def kCalDK (g : Nat → List SV → Sto → Res SV) (ds : List Dv) (r : Res (List SV)) : Res SV := r.bind fun as S1 => callK g (as ++ ds.map .d) S1
@[simp] theorem kCalDK_ok (g : Nat → List SV → Sto → Res SV) (ds : List Dv) (as : List SV) (S : Sto) : kCalDK g ds (.ok as S) = callK g (as ++ ds.map .d) S := Eq.trans rfl rfl
@[simp] theorem eCallDK_ap (g : Nat → List SV → Sto → Res SV) (ds : List Dv) (f : Fr → Sto → Res (List SV)) (F : Fr) (S : Sto) : eCallDK g ds f F S = kCalDK g ds (f F S) := Eq.trans rfl rfl
end Ev

set_option Elab.async false
set_option linter.all false
set_option maxRecDepth 100000
/-! EvLaw: the drawing that all laws share. -/
namespace Ev
open PySem L2
/-- a pool of digits -/
structure Po where
  a : Int
  b : Int
  c : Int
def Po.l (p : Po) : MO := .lst [.d (.int p.a), .d (.int p.b), .d (.int p.c)]
theorem itemsOf_m {S : Sto} {i : Nat} {xs : List SV} (h : S[i]? = some (.lst xs)) : itemsOf S (.m i) = some xs := by simp [itemsOf, h]
theorem view_mi {S : Sto} {i : Nat} : view S (.d (.int i)) = some (.int i) := rfl
theorem opIx_m {S : Sto} {i : Nat} {xs : List SV} {k : Int} (h : S[i]? = some (.lst xs)) : opIx S (.m i) (.d (.int k)) = atI xs k := by simp [opIx, itemsOf_m h]
theorem putIx_m {S : Sto} {i b : Nat} {xs : List SV} {k : Int} {n : Nat} {x : Dv} (h : S[i]? = some (.lst xs)) (hn : ixN xs.length k = some n) : putIx b S (.m i) (.d (.int k)) (.d x) = some (S.set i (.lst (xs.set n (.d x)))) := by
  simp [putIx, h, hn, okIn]
def bNext : Fr → Sto → SRes :=
   sSeq (sIf (tV (eOp opGt (eOpS opIx (eVar 0) (eC (.int 0))) (eC (.int 0)))) (sSeq (sSet 2 (eOp opMod (eBi biInt (aCons (eOpS opIx (eVar 0) (eC (.int 0))) (aNil))) (eVar 1)))
    (sSeq (sSub (eVar 0) (eC (.int 0)) (eOp opDiv (eOpS opIx (eVar 0) (eC (.int 0))) (eVar 1)))
    (sRet (eVar 2)))) (sNil))
    (sSeq (sSub (eVar 0) (eC (.int 1)) (eOp opAdd (eOpS opIx (eVar 0) (eC (.int 1))) (eC (.int 1))))
    (sSeq (sSet 3 (eOp opMod (eBi biInt (aCons (eOp opAdd (eOp opAdd (eOpS opIx (eVar 0) (eC (.int 2))) (eOp opMul (eC (.int 7919)) (eOpS opIx (eVar 0) (eC (.int 1))))) (eC (.int 13))) (aNil))) (eC (.int 2147483647))))
    (sSeq (sSet 3 (eOp opMod (eBi biInt (aCons (eOp opMul (eVar 3) (eOp opAdd (eVar 3) (eC (.int 48271)))) (aNil))) (eC (.int 2147483629))))
    (sSeq (sSet 3 (eOp opMod (eBi biInt (aCons (eOp opAdd (eOp opMul (eVar 3) (eOp opAdd (eVar 3) (eC (.int 69621)))) (eOp opMul (eC (.int 31)) (eOpS opIx (eVar 0) (eC (.int 1))))) (aNil))) (eC (.int 2147483647))))
    (sRet (eOp opMod (eBi biInt (aCons (eOp opDiv (eVar 3) (eC (.int 9))) (aNil))) (eVar 1)))))))
theorem big_of {i : Int} (h0 : 0 ≤ i) (h : i < 2147483648) : big64 i = true := by
  unfold big64
  simp only [Bool.and_eq_true, decide_eq_true_eq]
  omega
theorem ixN0 : ixN 3 0 = some 0 := rfl
theorem ixN1 : ixN 3 1 = some 1 := rfl
theorem next_ok {S : Sto} {i b : Nat} {p : Po} {m : Int} (hS : S[i]? = some p.l) (h0 : 0 < m) (h1 : m < 1073741824) :
    ∃ (d : Int) (q : Po), 0 ≤ d ∧ d < m ∧ runF 2 4 bNext b [.m i, .d (.int m)] S = .ok (.d (.int d)) (S.set i q.l) := by
  have hi : i < S.length := (List.getElem?_eq_some_iff.mp hS).1
  obtain ⟨a, bb, c⟩ := p
  unfold Po.l at hS
  by_cases ha : 0 < a
  · refine ⟨a % m, ⟨a / m, bb, c⟩, Int.emod_nonneg _ (by omega), Int.emod_lt_of_pos _ h0, ?_⟩
    simp [runF, bNext, opIx_m hS, putIx_m hS ixN0, ha, h0, h1, Po.l]
  · have h8 : ∀ x : Int, 0 ≤ x % 2147483647 ∧ x % 2147483647 < 2147483647 := fun x => ⟨Int.emod_nonneg _ (by omega), Int.emod_lt_of_pos _ (by omega)⟩
    have h9 : ∀ x : Int, 0 ≤ x % 2147483629 ∧ x % 2147483629 < 2147483629 := fun x => ⟨Int.emod_nonneg _ (by omega), Int.emod_lt_of_pos _ (by omega)⟩
    have hS' : ∀ z, (S.set i (.lst z))[i]? = some (.lst z) := fun z => by simp [hi]
    have b1 : big64 7919 = true := by decide
    have b2 : big64 31 = true := by decide
    have b3 : ∀ x : Int, big64 (x % 2147483647) = true := fun x => big_of (h8 x).1 (by have := (h8 x).2; omega)
    have b4 : ∀ x : Int, big64 (x % 2147483629) = true := fun x => big_of (h9 x).1 (by have := (h9 x).2; omega)
    let m1 := (c + 7919 * (bb + 1) + 13) % 2147483647
    let m2 := m1 * (m1 + 48271) % 2147483629
    let m3 := (m2 * (m2 + 69621) + 31 * (bb + 1)) % 2147483647
    refine ⟨m3 / 9 % m, ⟨a, bb + 1, c⟩, Int.emod_nonneg _ (by omega), Int.emod_lt_of_pos _ h0, ?_⟩
    simp [runF, bNext, opIx_m hS, putIx_m hS ixN1, ha, h0, h1, Po.l, opIx_m (hS' _), b1, b2, b3, b4, m1, m2, m3]
/-! ### stores that stand apart -/
/-- one thing of the store is another -/
structure Up1 (i : Nat) (S S' : Sto) : Prop where
  len : S'.length = S.length
  oth : ∀ j, j ≠ i → S'[j]? = S[j]?
theorem Up1.refl (i : Nat) (S : Sto) : Up1 i S S := ⟨rfl, fun _ _ => rfl⟩
theorem Up1.trans {i : Nat} {S S1 S2 : Sto} (h : Up1 i S S1) (k : Up1 i S1 S2) : Up1 i S S2 := ⟨k.len.trans h.len, fun j hj => (k.oth j hj).trans (h.oth j hj)⟩
theorem take_eq {S : Sto} {n : Nat} (h : S.length = n) : S.take n = S := by rw [← h]; exact List.take_length
@[simp] theorem set_last (S : Sto) (x y : MO) : (S ++ [x]).set S.length y = S ++ [y] := by
  rw [List.set_append_right _ _ (Nat.le_refl _)]
  simp
/-- a draw, as a call -/
theorem draw_ok {g : Nat → List SV → Sto → Res SV} (hg : ∀ b as S, g b as S = runF 2 4 bNext b as S) {S : Sto} {i : Nat} {p : Po} {m : Int} (hS : S[i]? = some p.l) (h0 : 0 < m) (h1 : m < 1073741824) :
    ∃ (d : Int) (q : Po) (S' : Sto), 0 ≤ d ∧ d < m ∧ S'[i]? = some q.l ∧ Up1 i S S' ∧ callF g [.m i, .d (.int m)] S = .ok (.d (.int d)) S' := by
  obtain ⟨d, q, a, b, e⟩ := next_ok (b := S.length) hS h0 h1
  have hi : i < S.length := (List.getElem?_eq_some_iff.mp hS).1
  refine ⟨d, q, S.set i q.l, a, b, by simp [hi], ⟨by simp, fun j hj => by rw [List.getElem?_set_ne (fun z => hj z.symm)]⟩, ?_⟩
  unfold callF
  rw [hg, e]
  simp
theorem fin_ins {S : Sto} {c : Nat} {fs : List Str} (xs : List Dv) : fin S.length (.ok (.m S.length) (S ++ [.ins c fs (xs.map .d)])) = .ok (.d (.ins c fs xs)) S := by
  unfold fin
  simp only
  have h : freeze (S ++ [MO.ins c fs (xs.map SV.d)]) (SV.m S.length) = _ := freeze_ins (c := c) (fs := fs) (xs := xs) (by simp)
  rw [h]
  simp
def bCell : Fr → Sto → SRes :=
   sSeq (sIf (tV (eOp opLt (eVar 1) (eBi biLen (aCons (eVar 0) (aNil))))) (sRet (eBi biAbs (aCons (eOpS opIx (eVar 0) (eVar 1)) (aNil)))) (sNil))
    (sRet (eC (.int 0)))
/-- the k-th cell of the script -/
def cellOf (ns : List Int) (k : Nat) : Int := match ns[k]? with
  | some n => if n < 0 then -n else n
  | none => 0
theorem cell_ok {S : Sto} {ns : List Int} {k : Nat} {b : Nat} : runF 2 2 bCell b [.d (.lst (ns.map .int)), .d (.int k)] S = .ok (.d (.int (cellOf ns k))) S := by
  unfold cellOf
  by_cases h : k < ns.length
  · have e : ns[k]? = some ns[k] := by simp [h]
    simp [runF, bCell, h, atI_n, e]
  · have e : ns[k]? = none := by simp; omega
    simp [runF, bCell, h, e]
theorem cellOf_nn (ns : List Int) (k : Nat) : 0 ≤ cellOf ns k := by
  unfold cellOf
  split
  · split <;> omega
  · omega
def bPool (c : Nat → List SV → Sto → Res SV) : Fr → Sto → SRes :=
   sSeq (sSet 2 (eCall c (aCons (eVar 0) (aCons (eVar 1) (aNil)))))
    (sSeq (sIf (tV (eOp opGe (eVar 2) (eOp opPow (eC (.int 10)) (eC (.int 18))))) (sRet (eLstM (aCons (eVar 2) (aCons (eC (.int 0)) (aCons (eOp opMod (eBi biInt (aCons (eVar 2) (aNil))) (eC (.int 1000003))) (aNil)))))) (sNil))
    (sRet (eLstM (aCons (eC (.int 0)) (aCons (eC (.int 0)) (aCons (eVar 2) (aNil)))))))
/-- a new pool -/
theorem pool_ok {g c : Nat → List SV → Sto → Res SV} (hg : ∀ b as S, g b as S = runF 2 3 (bPool c) b as S) (hc : ∀ b as S, c b as S = runF 2 2 bCell b as S) {S : Sto} {ns : List Int} {k : Nat} :
    ∃ (p : Po) (S' : Sto), S'[S.length]? = some p.l ∧ S'.length = S.length + 1 ∧ (∀ j, j ≠ S.length → S'[j]? = S[j]?) ∧ callK g [.d (.lst (ns.map .int)), .d (.int k)] S = .ok (.m S.length) S' := by
  have hcc : callF c [.d (.lst (ns.map .int)), .d (.int k)] S = .ok (.d (.int (cellOf ns k))) S := by unfold callF; rw [hc, cell_ok]; simp
  have oth : ∀ (x : MO) (j : Nat), j ≠ S.length → (S ++ [x])[j]? = S[j]? := fun x j hj => by
    by_cases h : j < S.length
    · rw [List.getElem?_append_left h]
    · rw [List.getElem?_append_right (by omega), List.getElem?_eq_none_iff.mpr (show S.length ≤ j by omega)]
      exact List.getElem?_eq_none_iff.mpr (by simp; omega)
  have p18 : (10 : Int) ^ (Int.toNat 18) = 1000000000000000000 := by decide
  by_cases h : 1000000000000000000 ≤ cellOf ns k
  · refine ⟨⟨cellOf ns k, 0, cellOf ns k % 1000003⟩, S ++ [Po.l ⟨cellOf ns k, 0, cellOf ns k % 1000003⟩], by simp, by simp, oth _, ?_⟩
    unfold callK
    rw [hg]
    simp [runF, bPool, hcc, p18, h, Po.l]
  · refine ⟨⟨0, 0, cellOf ns k⟩, S ++ [Po.l ⟨0, 0, cellOf ns k⟩], by simp, by simp, oth _, ?_⟩
    unfold callK
    rw [hg]
    simp [runF, bPool, hcc, p18, h, Po.l]
/-! ### comprehensions whose elements are drawn -/
theorem lcL_draws {i b j : Nat} {ve : Env} {te : Fr → Sto → Res SV} {P : Dv → Prop} (hib : i < b) (hte : ∀ (x : SV) (T : Sto) (p : Po), T[i]? = some p.l → ∃ (y : Dv) (q : Po) (T' : Sto), P y ∧ T'[i]? = some q.l ∧ Up1 i T T' ∧ te ⟨b, ve.set j (some x)⟩ T = .ok (.d y) T') :
    ∀ (xs : List SV) (acc : List Dv) (T : Sto) (p : Po), T.length = b + 1 → T[b]? = some (.lst (acc.map .d)) → T[i]? = some p.l → acc.length + xs.length ≤ 1000 →
      ∃ (ys : List Dv) (q : Po) (T' : Sto), ys.length = xs.length ∧ (∀ y ∈ ys, P y) ∧ T'.length = b + 1 ∧ T'[b]? = some (.lst ((acc ++ ys).map .d)) ∧ T'[i]? = some q.l ∧ (∀ m, m ≠ i → m < b → T'[m]? = T[m]?) ∧ lcL (gNm j) tYs te b ve xs T = .ok (.m b) T'
  | [], acc, T, p, h1, h2, h3, _ => ⟨[], p, T, rfl, fun _ h => absurd h (by simp), h1, by simpa using h2, h3, fun _ _ _ => rfl, rfl⟩
  | x :: r, acc, T, p, h1, h2, h3, h4 => by
    obtain ⟨y, q, T1, py, g1, u1, e1⟩ := hte x T p h3
    simp only [List.length_cons] at h4
    have gb : T1[b]? = some (.lst (acc.map .d)) := by rw [u1.oth b (by omega)]; exact h2
    have l1 : T1.length = b + 1 := by rw [u1.len, h1]
    have bl : b < T1.length := by omega
    obtain ⟨ys, q', T2, ly, pys, l2, g2, g3, o2, e2⟩ := lcL_draws hib hte r (acc ++ [y]) (T1.set b (.lst (acc.map .d ++ [.d y]))) q (by simp [l1]) (by simp [bl]) (by rw [List.getElem?_set_ne (by omega)]; exact g1) (by simp; omega)
    refine ⟨y :: ys, q', T2, by simp [ly], fun z hz => ?_, l2, by simpa using g2, g3, fun m hm hb => ?_, ?_⟩
    · rcases List.mem_cons.mp hz with rfl | hz
      · exact py
      · exact pys z hz
    · rw [o2 m hm hb, List.getElem?_set_ne (by omega), u1.oth m hm]
    · unfold lcL
      have hm : acc.length < most := Nat.lt_of_lt_of_le (show acc.length < 1000 by omega) (by decide)
      simp only [gNm_ap, put_ap, tYs_ap, noX_ok, Res.bind_ok, if_true, e1, gb, lcPut, List.length_map, hm]
      exact e2
theorem lcAll_draws {i j : Nat} {vs : List Nat} {v : Env} {te : Fr → Sto → Res SV} {P : Dv → Prop} {S : Sto} {p : Po} {xs : List SV} (hS : S[i]? = some p.l) (hl : xs.length ≤ 1000)
    (hte : ∀ (x : SV) (T : Sto) (p : Po), T[i]? = some p.l → ∃ (y : Dv) (q : Po) (T' : Sto), P y ∧ T'[i]? = some q.l ∧ Up1 i T T' ∧ te ⟨S.length, (wipeE v vs).set j (some x)⟩ T = .ok (.d y) T') :
    ∃ (ys : List Dv) (q : Po) (S' : Sto), ys.length = xs.length ∧ (∀ y ∈ ys, P y) ∧ S'[i]? = some q.l ∧ Up1 i S S' ∧ lcAll fin vs (gNm j) tYs te v xs S = .ok (.d (.lst ys)) S' := by
  have hi : i < S.length := (List.getElem?_eq_some_iff.mp hS).1
  obtain ⟨ys, q, T, ly, py, l2, g2, g3, o2, e2⟩ := lcL_draws hi hte xs [] (S ++ [.lst []]) p (by simp) (by simp) (by rw [List.getElem?_append_left hi]; exact hS) (by simpa using hl)
  have hf := freeze_lst (xs := ys) (by simpa using g2)
  have tk : ∀ m, m < S.length → ((T.set S.length (.frz (.lst ys))).take S.length)[m]? = T[m]? := fun m hm => by
    rw [List.getElem?_take, if_pos hm, List.getElem?_set_ne (by omega)]
  refine ⟨ys, q, (T.set S.length (.frz (.lst ys))).take S.length, ly, py, by rw [tk i hi]; exact g3, ⟨by simp [l2], fun m hm => ?_⟩, ?_⟩
  · by_cases hb : m < S.length
    · rw [tk m hb, o2 m hm hb, List.getElem?_append_left hb]
    · rw [List.getElem?_eq_none_iff.mpr (by simp [l2]; omega), List.getElem?_eq_none_iff.mpr (by omega)]
  · unfold lcAll
    rw [e2]
    unfold fin
    simp only [hf]
end Ev

set_option Elab.async false
set_option linter.all false
set_option maxRecDepth 100000
namespace Lw
open PySem L2 Ev
def L0_0 (c : Nat → Nat → List SV → Sto → Res SV) : Fr → Sto → SRes :=
   sPass
def T0_0 (c : Nat → Nat → List SV → Sto → Res SV) : Fr → Sto → Res Bool :=
   tTr (eC (.bl true))
def L7_0 (c : Nat → Nat → List SV → Sto → Res SV) : Fr → Sto → SRes :=
   sIf (tV (eOp opIn (eVar 3) (eVar 2))) (sSub (eVar 2) (eVar 3) (eOwn opAdd 0 (c 2) (eOpS opIx (eVar 2) (eVar 3)) (eOpS opIx (eVar 1) (eVar 3)))) (sSub (eVar 2) (eVar 3) (eOpS opIx (eVar 1) (eVar 3)))
def L7_1 (c : Nat → Nat → List SV → Sto → Res SV) : Fr → Sto → SRes :=
   sSub (eVar 2) (eVar 3) (eOpS opIx (eVar 0) (eVar 3))
def L8_0 (c : Nat → Nat → List SV → Sto → Res SV) : Fr → Sto → SRes :=
   sIf (tV (eOp opNotIn (eVar 3) (eVar 0))) (sSub (eVar 2) (eVar 3) (eOwn opBor 0 (c 3) (eOpS opIx (eVar 1) (eVar 3)) (eMake 0 (c 1) (aCons (eC (.int 0)) (aCons (eC (.int 0)) (aCons (eC (.int 0)) (aNil))))))) (sNil)
def L8_1 (c : Nat → Nat → List SV → Sto → Res SV) : Fr → Sto → SRes :=
   sSub (eVar 2) (eVar 3) (eOwn opBor 0 (c 3) (eOpS opIx (eVar 0) (eVar 3)) (eGet (eVar 1) (eVar 3) (eMake 0 (c 1) (aCons (eC (.int 0)) (aCons (eC (.int 0)) (aCons (eC (.int 0)) (aNil)))))))
def K9_0 (c : Nat → Nat → List SV → Sto → Res SV) : FE :=
   eVar 2
def E9_0 (c : Nat → Nat → List SV → Sto → Res SV) : FE :=
   eMeth 0 "boxed" (c 4) (eOpS opIx (eVar 0) (eVar 2)) (aCons (eVar 1) (aNil))
def K10_0 (c : Nat → Nat → List SV → Sto → Res SV) : FE :=
   eVar 2
def E10_0 (c : Nat → Nat → List SV → Sto → Res SV) : FE :=
   eOpS opIx (eVar 0) (eVar 2)
def T10_0 (c : Nat → Nat → List SV → Sto → Res SV) : Fr → Sto → Res Bool :=
   tV (eOp opNe (eVar 2) (eVar 1))
def E17_0 (c : Nat → Nat → List SV → Sto → Res SV) : FE :=
   eVar 1
def T17_0 (c : Nat → Nat → List SV → Sto → Res SV) : Fr → Sto → Res Bool :=
   tV (eCall (c 16) (aCons (eVar 1) (aNil)))
def L18_0 (c : Nat → Nat → List SV → Sto → Res SV) : Fr → Sto → SRes :=
   sSet 2 (eOp opAdd (eVar 2) (eCall (c 18) (aCons (eOpS opIx (eVar 3) (eVar 4)) (aCons (eOp opAdd (eVar 1) (eTup (aCons (eVar 4) (aNil)))) (aNil)))))
def L19_0 (c : Nat → Nat → List SV → Sto → Res SV) : Fr → Sto → SRes :=
   sSet 0 (eOpS opIx (eCall (c 17) (aCons (eVar 0) (aNil))) (eVar 2))
def L20_0 (c : Nat → Nat → List SV → Sto → Res SV) : Fr → Sto → SRes :=
   sIf (tNo (tV (eCall (c 20) (aCons (eOpS opIx (eVar 0) (eVar 2)) (aCons (eOpS opIx (eVar 1) (eVar 2)) (aNil)))))) (sRet (eC (.bl false))) (sNil)
def E25_0 (c : Nat → Nat → List SV → Sto → Res SV) : FE :=
   eTup (aCons (eVar 5) (aCons (eVar 1) (aCons (eVar 2) (aCons (eVar 3) (aNil)))))
def L26_0 (c : Nat → Nat → List SV → Sto → Res SV) : Fr → Sto → SRes :=
   sSeq (sIf (tNo (tTr (eVar 4))) (sBrk) (sNil))
    (sSeq (sAsg (eMut muPop (eVar 4) aNil) (gUn 4 [gNm 6, gNm 7, gNm 8, gNm 9]))
    (sSeq (sIf (tAn (tV (eOp opIn (eOpS opIx (eVar 6) (eC (.int 0))) (eTup (aCons (eC (.str "own")) (aCons (eC (.str "pick")) (aCons (eC (.str "pay")) (aCons (eC (.str "open")) (aNil)))))))) (tOrr (tV (eIsi anStr (eOpS opIx (eVar 6) (eC (.int 1))))) (tV (eOp opLt (eOpS opIx (eVar 6) (eC (.int 1))) (eVar 1))))) (sExpr (eMut muAppend (eVar 3) (aCons (eTup (aCons (eOpS opIx (eVar 6) (eC (.int 1))) (aCons (eVar 7) (aCons (eVar 8) (aCons (eVar 9) (aNil)))))) (aNil)))) (sNil))
    (sSeq (sSet 10 (eCall (c 25) (aCons (eVar 6) (aCons (eVar 7) (aCons (eVar 8) (aCons (eVar 9) (aNil)))))))
    (sSeq (sIf (tAn (tV (eOp opEq (eOpS opIx (eVar 6) (eC (.int 0))) (eC (.str "offer")))) (tV (eOp opGe (eVar 2) (eC (.int 0))))) (sSeq (sSet 10 (eLst (aCons (eOpS opIx (eVar 10) (eOp opMod (eBi biInt (aCons (eVar 2) (aNil))) (eC (.int 2)))) (aNil))))
    (sSet 2 (eOp opDiv (eVar 2) (eC (.int 2))))) (sNil))
    (sSet 4 (eCatM (eVar 4) (eVar 10)))))))
def E27_0 (c : Nat → Nat → List SV → Sto → Res SV) : FE :=
   eOpS opIx (eVar 3) (eC (.int 1))
def T27_0 (c : Nat → Nat → List SV → Sto → Res SV) : Fr → Sto → Res Bool :=
   tV (eOp opEq (eOpS opIx (eVar 3) (eC (.int 0))) (eVar 9))
def E27_1 (c : Nat → Nat → List SV → Sto → Res SV) : FE :=
   eBi biInt (aCons (eOpS opIx (eVar 3) (eC (.int 3))) (aNil))
def L27_0 (c : Nat → Nat → List SV → Sto → Res SV) : Fr → Sto → SRes :=
   sSeq (sSet 4 (eOpS opIx (eVar 2) (eVar 9)))
    (sSeq (sSet 10 (eBi biSum (aCons (eLc [3] (eVar 8) (gNm 3) (T27_0 c) (E27_1 c)) (aNil))))
    (sSeq (sSet 11 (eBi biSum (aCons (eLc [3] (eVar 8) (gNm 3) (T27_0 c) (E27_0 c)) (aNil))))
    (sSub (eVar 2) (eVar 9) (eTup (aCons (eBi biMin (aCons (eOpS opIx (eVar 4) (eC (.int 0))) (aCons (eVar 10) (aNil)))) (aCons (eBi biMax (aCons (eOpS opIx (eVar 4) (eC (.int 1))) (aCons (eVar 11) (aNil)))) (aCons (eOpS opIx (eVar 4) (eC (.int 2))) (aNil))))))))
def L27_1 (c : Nat → Nat → List SV → Sto → Res SV) : Fr → Sto → SRes :=
   sSeq (sSet 8 (eCall (c 26) (aCons (eVar 0) (aCons (eVar 1) (aCons (eVar 7) (aNil))))))
    (sFor (eBi biListD (aCons (eVar 2) (aNil))) (gNm 9) (L27_0 c))
def L27_2 (c : Nat → Nat → List SV → Sto → Res SV) : Fr → Sto → SRes :=
   sIf (tV (eOp opEq (eOpS opIx (eCall (c 19) (aCons (eVar 0) (aCons (eVar 6) (aNil)))) (eC (.int 0))) (eC (.str "offer")))) (sSet 5 (eOp opMul (eVar 5) (eC (.int 2)))) (sNil)
def L27_3 (c : Nat → Nat → List SV → Sto → Res SV) : Fr → Sto → SRes :=
   sSeq (sSet 4 (eGet (eVar 2) (eOpS opIx (eVar 3) (eC (.int 0))) (eTup (aCons (eC (.int 1000)) (aCons (eC (.int 0)) (aCons (eC (.int 0)) (aNil)))))))
    (sSub (eVar 2) (eOpS opIx (eVar 3) (eC (.int 0))) (eTup (aCons (eOpS opIx (eVar 4) (eC (.int 0))) (aCons (eOpS opIx (eVar 4) (eC (.int 1))) (aCons (eBi biMax (aCons (eOpS opIx (eVar 4) (eC (.int 2))) (aCons (eOpS opIx (eVar 3) (eC (.int 2))) (aNil)))) (aNil))))))
def L28_0 (c : Nat → Nat → List SV → Sto → Res SV) : Fr → Sto → SRes :=
   sSeq (sIf (tOrr (tAn (tNo (tV (eIsi anStr (eVar 2)))) (tNo (tV (eCall (c 15) (aCons (eVar 2) (aNil)))))) (tOrr (tV (eOp opNotIn (eVar 2) (eVar 1))) (tNo (tV (eIsi (anOwn 0) (eOpS opIx (eVar 0) (eVar 2))))))) (sRet (eC (.bl false))) (sNil))
    (sSeq (sSet 3 (eOpS opIx (eVar 0) (eVar 2)))
    (sIf (tOrr (tNo (tV (eCall (c 20) (aCons (eMeth 0 "triple" (c 6) (eVar 3) aNil) (aCons (eOpS opIx (eVar 1) (eVar 2)) (aNil)))))) (tNo (tV (eCall (c 20) (aCons (eTup (aCons (eFld [0] "least" (eVar 3)) (aCons (eFld [0] "most" (eVar 3)) (aCons (eFld [0] "days" (eVar 3)) (aNil))))) (aCons (eOpS opIx (eVar 1) (eVar 2)) (aNil))))))) (sRet (eC (.bl false))) (sNil)))
def L30_0 (c : Nat → Nat → List SV → Sto → Res SV) : Fr → Sto → SRes :=
   sIf (tV (eOp opIn (eVar 3) (eVar 2))) (sSub (eVar 2) (eVar 3) (eOwn opAdd 0 (c 2) (eOpS opIx (eVar 2) (eVar 3)) (eOpS opIx (eVar 1) (eVar 3)))) (sSub (eVar 2) (eVar 3) (eOpS opIx (eVar 1) (eVar 3)))
def L30_1 (c : Nat → Nat → List SV → Sto → Res SV) : Fr → Sto → SRes :=
   sSub (eVar 2) (eVar 3) (eOpS opIx (eVar 0) (eVar 3))
def L31_0 (c : Nat → Nat → List SV → Sto → Res SV) : Fr → Sto → SRes :=
   sIf (tV (eOp opNotIn (eVar 3) (eVar 0))) (sSub (eVar 2) (eVar 3) (eOwn opBor 0 (c 3) (eOpS opIx (eVar 1) (eVar 3)) (eMake 0 (c 1) (aCons (eC (.int 0)) (aCons (eC (.int 0)) (aCons (eC (.int 0)) (aNil))))))) (sNil)
def L31_1 (c : Nat → Nat → List SV → Sto → Res SV) : Fr → Sto → SRes :=
   sSub (eVar 2) (eVar 3) (eOwn opBor 0 (c 3) (eOpS opIx (eVar 0) (eVar 3)) (eGet (eVar 1) (eVar 3) (eMake 0 (c 1) (aCons (eC (.int 0)) (aCons (eC (.int 0)) (aCons (eC (.int 0)) (aNil)))))))
def K32_0 (c : Nat → Nat → List SV → Sto → Res SV) : FE :=
   eVar 2
def E32_0 (c : Nat → Nat → List SV → Sto → Res SV) : FE :=
   eOpS opIx (eVar 0) (eVar 2)
def T32_0 (c : Nat → Nat → List SV → Sto → Res SV) : Fr → Sto → Res Bool :=
   tV (eOp opNe (eVar 2) (eVar 1))
def B0 (c : Nat → Nat → List SV → Sto → Res SV) : Fr → Sto → SRes :=
  -- _wall ['k']
   sWhile 1000000 (T0_0 c) (L0_0 c)
def B1 (c : Nat → Nat → List SV → Sto → Res SV) : Fr → Sto → SRes :=
  -- Count.__init__ ['self', 'least', 'most', 'days']
   sSeq (sAttr [0] "least" (eVar 0) (eVar 1))
    (sSeq (sAttr [0] "most" (eVar 0) (eVar 2))
    (sAttr [0] "days" (eVar 0) (eVar 3)))
def B2 (c : Nat → Nat → List SV → Sto → Res SV) : Fr → Sto → SRes :=
  -- Count.__add__ ['self', 'other']
   sRet (eMake 0 (c 1) (aCons (eOp opAdd (eFld [0] "least" (eVar 0)) (eFld [0] "least" (eVar 1))) (aCons (eOp opAdd (eFld [0] "most" (eVar 0)) (eFld [0] "most" (eVar 1))) (aCons (eBi biMax (aCons (eC (.int 0)) (aCons (eFld [0] "days" (eVar 0)) (aCons (eFld [0] "days" (eVar 1)) (aNil))))) (aNil)))))
def B3 (c : Nat → Nat → List SV → Sto → Res SV) : Fr → Sto → SRes :=
  -- Count.__or__ ['self', 'other', 'least']
   sSeq (sSet 2 (eFld [0] "least" (eVar 0)))
    (sSeq (sIf (tV (eOp opLt (eFld [0] "least" (eVar 1)) (eVar 2))) (sSet 2 (eFld [0] "least" (eVar 1))) (sNil))
    (sRet (eMake 0 (c 1) (aCons (eVar 2) (aCons (eBi biMax (aCons (eC (.int 0)) (aCons (eFld [0] "most" (eVar 0)) (aCons (eFld [0] "most" (eVar 1)) (aNil))))) (aCons (eBi biMax (aCons (eC (.int 0)) (aCons (eFld [0] "days" (eVar 0)) (aCons (eFld [0] "days" (eVar 1)) (aNil))))) (aNil)))))))
def B4 (c : Nat → Nat → List SV → Sto → Res SV) : Fr → Sto → SRes :=
  -- Count.boxed ['self', 'kind']
   sSeq (sIf (tV (eOp opEq (eVar 1) (eC (.str "once")))) (sRet (eMake 0 (c 1) (aCons (eFld [0] "least" (eVar 0)) (aCons (eFld [0] "most" (eVar 0)) (aCons (eFld [0] "days" (eVar 0)) (aNil)))))) (sNil))
    (sRet (eMake 0 (c 1) (aCons (eC (.int 0)) (aCons (eOp opMul (eOpS opIx (eVar 1) (eC (.int 0))) (eFld [0] "most" (eVar 0))) (aCons (eOp opAdd (eOpS opIx (eVar 1) (eC (.int 1))) (eFld [0] "days" (eVar 0))) (aNil))))))
def B5 (c : Nat → Nat → List SV → Sto → Res SV) : Fr → Sto → SRes :=
  -- Count.fits ['self', 'kind']
   sExpr (eCall (c 0) (aCons (eC (.int 0)) (aNil)))
def B6 (c : Nat → Nat → List SV → Sto → Res SV) : Fr → Sto → SRes :=
  -- Count.triple ['self']
   sRet (eTup (aCons (eFld [0] "least" (eVar 0)) (aCons (eFld [0] "most" (eVar 0)) (aCons (eFld [0] "days" (eVar 0)) (aNil)))))
def B7 (c : Nat → Nat → List SV → Sto → Res SV) : Fr → Sto → SRes :=
  -- added ['first', 'second', 'total', 'ref']
   sSeq (sSet 2 (eDic0M))
    (sSeq (sFor (eVar 0) (gNm 3) (L7_1 c))
    (sSeq (sFor (eVar 1) (gNm 3) (L7_0 c))
    (sRet (eVar 2))))
def B8 (c : Nat → Nat → List SV → Sto → Res SV) : Fr → Sto → SRes :=
  -- either ['first', 'second', 'total', 'ref']
   sSeq (sSet 2 (eDic0M))
    (sSeq (sFor (eVar 0) (gNm 3) (L8_1 c))
    (sSeq (sFor (eVar 1) (gNm 3) (L8_0 c))
    (sRet (eVar 2))))
def B9 (c : Nat → Nat → List SV → Sto → Res SV) : Fr → Sto → SRes :=
  -- boxed_counts ['found', 'kind', 'ref']
   sRet (eDc [2] (eVar 0) (gNm 2) (tYs) (K9_0 c) (E9_0 c))
def B10 (c : Nat → Nat → List SV → Sto → Res SV) : Fr → Sto → SRes :=
  -- without ['found', 'ref', 'other']
   sRet (eDc [2] (eVar 0) (gNm 2) (T10_0 c) (K10_0 c) (E10_0 c))
def B11 (c : Nat → Nat → List SV → Sto → Res SV) : Fr → Sto → SRes :=
  -- counts ['derivation', 'level', 'name', 'body', 'found']
   sSeq (sSet 2 (eOpS opIx (eVar 0) (eC (.int 0))))
    (sSeq (sIf (tV (eOp opEq (eVar 2) (eC (.str "own")))) (sRet (eDsp [(eOpS opIx (eVar 0) (eC (.int 1)), eMake 0 (c 1) (aCons (eC (.int 1)) (aCons (eC (.int 1)) (aCons (eC (.int 0)) (aNil)))))])) (sNil))
    (sSeq (sIf (tV (eOp opEq (eVar 2) (eC (.str "cite")))) (sRet (eDic0)) (sNil))
    (sSeq (sIf (tV (eOp opEq (eVar 2) (eC (.str "take")))) (sRet (eCall (c 10) (aCons (eCall (c 11) (aCons (eOpS opIx (eVar 0) (eC (.int 1))) (aCons (eOp opAdd (eVar 1) (eC (.int 1))) (aNil)))) (aCons (eVar 1) (aNil))))) (sNil))
    (sSeq (sIf (tV (eOp opEq (eVar 2) (eC (.str "make")))) (sRet (eCall (c 11) (aCons (eOpS opIx (eVar 0) (eC (.int 3))) (aCons (eVar 1) (aNil))))) (sNil))
    (sSeq (sIf (tV (eOp opEq (eVar 2) (eC (.str "offer")))) (sRet (eCall (c 8) (aCons (eCall (c 11) (aCons (eOpS opIx (eVar 0) (eC (.int 1))) (aCons (eVar 1) (aNil)))) (aCons (eCall (c 11) (aCons (eOpS opIx (eVar 0) (eC (.int 2))) (aCons (eVar 1) (aNil)))) (aNil))))) (sNil))
    (sSeq (sSet 3 (eCall (c 10) (aCons (eCall (c 11) (aCons (eOpS opIx (eVar 0) (eOp opSub (eBi biLen (aCons (eVar 0) (aNil))) (eC (.int 1)))) (aCons (eOp opAdd (eVar 1) (eC (.int 1))) (aNil)))) (aCons (eVar 1) (aNil)))))
    (sSeq (sIf (tV (eOp opEq (eVar 2) (eC (.str "cut")))) (sRet (eCall (c 7) (aCons (eCall (c 9) (aCons (eCall (c 11) (aCons (eOpS opIx (eVar 0) (eC (.int 3))) (aCons (eVar 1) (aNil)))) (aCons (eOpS opIx (eVar 0) (eC (.int 1))) (aNil)))) (aCons (eVar 3) (aNil))))) (sNil))
    (sSeq (sSet 4 (eDsp [(eOpS opIx (eVar 0) (eC (.int 1)), eMake 0 (c 1) (aCons (eC (.int 1)) (aCons (eC (.int 1)) (aCons (eC (.int 0)) (aNil)))))]))
    (sSeq (sIf (tV (eOp opEq (eVar 2) (eC (.str "pay")))) (sSet 4 (eCall (c 7) (aCons (eVar 4) (aCons (eCall (c 9) (aCons (eCall (c 11) (aCons (eOpS opIx (eVar 0) (eC (.int 3))) (aCons (eVar 1) (aNil)))) (aCons (eOpS opIx (eVar 0) (eC (.int 2))) (aNil)))) (aNil))))) (sNil))
    (sRet (eCall (c 7) (aCons (eVar 4) (aCons (eVar 3) (aNil))))))))))))))
def B12 (c : Nat → Nat → List SV → Sto → Res SV) : Fr → Sto → SRes :=
  -- _law_cell ['_law_script', '_law_k']
   sSeq (sIf (tV (eOp opLt (eVar 1) (eBi biLen (aCons (eVar 0) (aNil))))) (sRet (eBi biAbs (aCons (eOpS opIx (eVar 0) (eVar 1)) (aNil)))) (sNil))
    (sRet (eC (.int 0)))
def B13 (c : Nat → Nat → List SV → Sto → Res SV) : Fr → Sto → SRes :=
  -- _law_pool ['_law_script', '_law_k', '_law_cell_here']
   sSeq (sSet 2 (eCall (c 12) (aCons (eVar 0) (aCons (eVar 1) (aNil)))))
    (sSeq (sIf (tV (eOp opGe (eVar 2) (eOp opPow (eC (.int 10)) (eC (.int 18))))) (sRet (eLstM (aCons (eVar 2) (aCons (eC (.int 0)) (aCons (eOp opMod (eBi biInt (aCons (eVar 2) (aNil))) (eC (.int 1000003))) (aNil)))))) (sNil))
    (sRet (eLstM (aCons (eC (.int 0)) (aCons (eC (.int 0)) (aCons (eVar 2) (aNil)))))))
def B14 (c : Nat → Nat → List SV → Sto → Res SV) : Fr → Sto → SRes :=
  -- _law_next ['_law_pool_here', '_law_many', '_law_digit', '_law_mixed']
   sSeq (sIf (tV (eOp opGt (eOpS opIx (eVar 0) (eC (.int 0))) (eC (.int 0)))) (sSeq (sSet 2 (eOp opMod (eBi biInt (aCons (eOpS opIx (eVar 0) (eC (.int 0))) (aNil))) (eVar 1)))
    (sSeq (sSub (eVar 0) (eC (.int 0)) (eOp opDiv (eOpS opIx (eVar 0) (eC (.int 0))) (eVar 1)))
    (sRet (eVar 2)))) (sNil))
    (sSeq (sSub (eVar 0) (eC (.int 1)) (eOp opAdd (eOpS opIx (eVar 0) (eC (.int 1))) (eC (.int 1))))
    (sSeq (sSet 3 (eOp opMod (eBi biInt (aCons (eOp opAdd (eOp opAdd (eOpS opIx (eVar 0) (eC (.int 2))) (eOp opMul (eC (.int 7919)) (eOpS opIx (eVar 0) (eC (.int 1))))) (eC (.int 13))) (aNil))) (eC (.int 2147483647))))
    (sSeq (sSet 3 (eOp opMod (eBi biInt (aCons (eOp opMul (eVar 3) (eOp opAdd (eVar 3) (eC (.int 48271)))) (aNil))) (eC (.int 2147483629))))
    (sSeq (sSet 3 (eOp opMod (eBi biInt (aCons (eOp opAdd (eOp opMul (eVar 3) (eOp opAdd (eVar 3) (eC (.int 69621)))) (eOp opMul (eC (.int 31)) (eOpS opIx (eVar 0) (eC (.int 1))))) (aNil))) (eC (.int 2147483647))))
    (sRet (eOp opMod (eBi biInt (aCons (eOp opDiv (eVar 3) (eC (.int 9))) (aNil))) (eVar 1)))))))
def B15 (c : Nat → Nat → List SV → Sto → Res SV) : Fr → Sto → SRes :=
  -- _law_is_number ['_law_value']
   sRet (eAn (eIsi anInt (eVar 0)) (eNo (eIsi anBool (eVar 0))))
def B16 (c : Nat → Nat → List SV → Sto → Res SV) : Fr → Sto → SRes :=
  -- _law_row ['_law_item', '_law_names']
   sSeq (sSet 1 (eTup (aCons (eC (.str "own")) (aCons (eC (.str "take")) (aCons (eC (.str "offer")) (aCons (eC (.str "pick")) (aCons (eC (.str "pay")) (aCons (eC (.str "make")) (aCons (eC (.str "open")) (aCons (eC (.str "cut")) (aCons (eC (.str "cite")) (aNil))))))))))))
    (sRet (eAn (eIsi anTup (eVar 0)) (eAn (eOp opGt (eBi biLen (aCons (eVar 0) (aNil))) (eC (.int 0))) (eOp opIn (eOpS opIx (eVar 0) (eC (.int 0))) (eVar 1)))))
def B17 (c : Nat → Nat → List SV → Sto → Res SV) : Fr → Sto → SRes :=
  -- _law_parts ['_law_tree', '_law_item']
   sRet (eLc [1] (eSl (eVar 0) (oSo (eC (.int 1))) oNo) (gNm 1) (T17_0 c) (E17_0 c))
def B18 (c : Nat → Nat → List SV → Sto → Res SV) : Fr → Sto → SRes :=
  -- _law_paths ['_law_tree', '_law_path', '_law_found', '_law_parts_here', '_law_k']
   sSeq (sSet 2 (eLst (aCons (eVar 1) (aNil))))
    (sSeq (sSet 3 (eCall (c 17) (aCons (eVar 0) (aNil))))
    (sSeq (sForR (aCons (eBi biLen (aCons (eVar 3) (aNil))) (aNil)) (gNm 4) (L18_0 c))
    (sRet (eVar 2))))
def B19 (c : Nat → Nat → List SV → Sto → Res SV) : Fr → Sto → SRes :=
  -- _law_at ['_law_tree', '_law_path', '_law_k']
   sSeq (sFor (eVar 1) (gNm 2) (L19_0 c))
    (sRet (eVar 0))
def B20 (c : Nat → Nat → List SV → Sto → Res SV) : Fr → Sto → SRes :=
  -- _law_same ['_law_told_here', '_law_due_here', '_law_k']
   sSeq (sIf (tV (eIsi anStr (eVar 1))) (sRet (eAn (eIsi anStr (eVar 0)) (eOp opEq (eVar 0) (eVar 1)))) (sNil))
    (sSeq (sIf (tNo (tV (eIsi anTL (eVar 1)))) (sRet (eAn (eCall (c 15) (aCons (eVar 0) (aNil))) (eOp opEq (eVar 0) (eVar 1)))) (sNil))
    (sSeq (sIf (tOrr (tNo (tV (eIsi anTL (eVar 0)))) (tV (eOp opNe (eIsi anLst (eVar 0)) (eIsi anLst (eVar 1))))) (sRet (eC (.bl false))) (sNil))
    (sSeq (sIf (tV (eOp opNe (eBi biLen (aCons (eVar 0) (aNil))) (eBi biLen (aCons (eVar 1) (aNil))))) (sRet (eC (.bl false))) (sNil))
    (sSeq (sForR (aCons (eBi biLen (aCons (eVar 1) (aNil))) (aNil)) (gNm 2) (L20_0 c))
    (sRet (eC (.bl true)))))))
def B21 (c : Nat → Nat → List SV → Sto → Res SV) : Fr → Sto → SRes :=
  -- _law_mode ['_law_pool_here', '_law_room', '_law_mode_here']
   sSeq (sSet 2 (eTup (aCons (eOp opAdd (eC (.int 1)) (eCall (c 14) (aCons (eVar 0) (aCons (eC (.int 3)) (aNil))))) (aCons (eCall (c 14) (aCons (eVar 0) (aCons (eC (.int 4)) (aNil)))) (aNil)))))
    (sSeq (sIf (tOrr (tV (eOp opEq (eCall (c 14) (aCons (eVar 0) (aCons (eC (.int 2)) (aNil)))) (eC (.int 0)))) (tV (eOp opGt (eOpS opIx (eVar 2) (eC (.int 0))) (eVar 1)))) (sRet (eC (.str "once"))) (sNil))
    (sRet (eVar 2)))
def B22 (c : Nat → Nat → List SV → Sto → Res SV) : Fr → Sto → SRes :=
  -- _law_free_one ['_law_way', '_law_many', '_law_level', '_law_room', '_law_name', '_law_ref', '_law_which', '_law_index', '_law_body']
   sSeq (sSet 7 (eCall (c 14) (aCons (eOpS opIx (eVar 0) (eC (.str "pool"))) (aCons (eC (.int 3)) (aNil)))))
    (sSeq (sIf (tV (eOp opEq (eVar 6) (eC (.int 0)))) (sRet (eTup (aCons (eC (.str "make")) (aCons (eVar 4) (aCons (eVar 7) (aCons (eCall (c 24) (aCons (eVar 0) (aCons (eVar 1) (aCons (eVar 2) (aCons (eVar 3) (aNil)))))) (aNil))))))) (sNil))
    (sSeq (sSet 8 (eCall (c 24) (aCons (eVar 0) (aCons (eVar 1) (aCons (eOp opAdd (eVar 2) (eC (.int 1))) (aCons (eVar 3) (aNil)))))))
    (sSeq (sIf (tV (eOp opEq (eVar 6) (eC (.int 1)))) (sRet (eTup (aCons (eC (.str "take")) (aCons (eVar 8) (aNil))))) (sNil))
    (sSeq (sIf (tV (eOp opEq (eVar 6) (eC (.int 2)))) (sRet (eTup (aCons (eC (.str "pick")) (aCons (eVar 5) (aCons (eOpS opIx (eLst (aCons (eC (.str "left")) (aCons (eC (.str "right")) (aNil)))) (eOp opMod (eBi biInt (aCons (eVar 7) (aNil))) (eC (.int 2)))) (aCons (eVar 8) (aNil))))))) (sNil))
    (sRet (eTup (aCons (eC (.str "open")) (aCons (eVar 5) (aCons (eVar 4) (aCons (eVar 7) (aCons (eVar 8) (aNil))))))))))))
def B23 (c : Nat → Nat → List SV → Sto → Res SV) : Fr → Sto → SRes :=
  -- _law_free_two ['_law_way', '_law_many', '_law_level', '_law_room', '_law_name', '_law_ref', '_law_which', '_law_pool_here', '_law_first', '_law_mode_here', '_law_one', '_law_inner', '_law_two']
   sSeq (sSet 7 (eOpS opIx (eVar 0) (eC (.str "pool"))))
    (sSeq (sSet 8 (eOp opAdd (eC (.int 1)) (eCall (c 14) (aCons (eVar 7) (aCons (eOp opSub (eVar 1) (eC (.int 1))) (aNil))))))
    (sSeq (sSet 9 (eCall (c 21) (aCons (eVar 7) (aCons (eVar 3) (aNil)))))
    (sSeq (sIf (tAn (tV (eOp opIn (eVar 6) (eTup (aCons (eC (.int 0)) (aCons (eC (.int 3)) (aNil)))))) (tV (eOp opGt (eOpS opIx (eVar 0) (eC (.str "offers"))) (eC (.int 0))))) (sSeq (sSub (eVar 0) (eC (.str "offers")) (eOp opSub (eOpS opIx (eVar 0) (eC (.str "offers"))) (eC (.int 1))))
    (sSeq (sSet 10 (eCall (c 24) (aCons (eVar 0) (aCons (eVar 8) (aCons (eVar 2) (aCons (eVar 3) (aNil)))))))
    (sRet (eTup (aCons (eC (.str "offer")) (aCons (eVar 10) (aCons (eCall (c 24) (aCons (eVar 0) (aCons (eOp opSub (eVar 1) (eVar 8)) (aCons (eVar 2) (aCons (eVar 3) (aNil)))))) (aNil)))))))) (sNil))
    (sSeq (sSet 11 (eVar 3))
    (sSeq (sIf (tV (eOp opNe (eVar 9) (eC (.str "once")))) (sSet 11 (eOp opDiv (eVar 3) (eOpS opIx (eVar 9) (eC (.int 0))))) (sNil))
    (sSeq (sSet 10 (eCall (c 24) (aCons (eVar 0) (aCons (eVar 8) (aCons (eVar 2) (aCons (eVar 11) (aNil)))))))
    (sSeq (sSet 12 (eCall (c 24) (aCons (eVar 0) (aCons (eOp opSub (eVar 1) (eVar 8)) (aCons (eOp opAdd (eVar 2) (eC (.int 1))) (aCons (eVar 3) (aNil)))))))
    (sSeq (sIf (tV (eOp opEq (eVar 6) (eC (.int 1)))) (sRet (eTup (aCons (eC (.str "cut")) (aCons (eVar 9) (aCons (eTup (aCons (eC (.str "menu")) (aCons (eTup (aCons (eC (.str "word")) (aCons (eC (.str "own")) (aNil)))) (aCons (eTup (aCons (eC (.str "word")) (aCons (eVar 4) (aNil)))) (aNil))))) (aCons (eVar 10) (aCons (eVar 12) (aNil)))))))) (sNil))
    (sRet (eTup (aCons (eC (.str "pay")) (aCons (eVar 5) (aCons (eVar 9) (aCons (eVar 10) (aCons (eVar 12) (aNil))))))))))))))))
def B24 (c : Nat → Nat → List SV → Sto → Res SV) : Fr → Sto → SRes :=
  -- _law_free ['_law_way', '_law_many', '_law_level', '_law_room', '_law_pool_here', '_law_names', '_law_name', '_law_ref', '_law_pick']
   sSeq (sSet 4 (eOpS opIx (eVar 0) (eC (.str "pool"))))
    (sSeq (sSet 5 (eLst (aCons (eC (.str "x")) (aCons (eC (.str "own")) (aCons (eC (.str "left")) (aCons (eC (.str "take")) (aCons (eC (.str "h2")) (aCons (eC (.str "cite")) (aCons (eC (.str "once")) (aCons (eC (.str "zz9")) (aCons (eC (.str "k")) (aCons (eC (.str "pay")) (aCons (eC (.str "cut")) (aCons (eC (.str "abcdefgh1234")) (aNil)))))))))))))))
    (sSeq (sSet 6 (eOpS opIx (eVar 5) (eCall (c 14) (aCons (eVar 4) (aCons (eC (.int 12)) (aNil))))))
    (sSeq (sSet 7 (eVar 6))
    (sSeq (sIf (tAn (tV (eOp opGt (eVar 2) (eC (.int 0)))) (tV (eOp opEq (eCall (c 14) (aCons (eVar 4) (aCons (eC (.int 2)) (aNil)))) (eC (.int 0))))) (sSet 7 (eCall (c 14) (aCons (eVar 4) (aCons (eVar 2) (aNil))))) (sNil))
    (sSeq (sSet 8 (eCall (c 14) (aCons (eVar 4) (aCons (eC (.int 8)) (aNil)))))
    (sSeq (sIf (tAn (tV (eOp opLt (eVar 1) (eC (.int 2)))) (tV (eOp opEq (eVar 8) (eC (.int 0))))) (sRet (eTup (aCons (eC (.str "cite")) (aCons (eVar 6) (aNil))))) (sNil))
    (sSeq (sIf (tV (eOp opLt (eVar 1) (eC (.int 2)))) (sRet (eTup (aCons (eC (.str "own")) (aCons (eVar 7) (aNil))))) (sNil))
    (sSeq (sIf (tOrr (tV (eOp opEq (eVar 1) (eC (.int 2)))) (tV (eOp opLt (eVar 8) (eC (.int 4))))) (sRet (eCall (c 22) (aCons (eVar 0) (aCons (eOp opSub (eVar 1) (eC (.int 1))) (aCons (eVar 2) (aCons (eVar 3) (aCons (eVar 6) (aCons (eVar 7) (aCons (eOp opMod (eBi biInt (aCons (eVar 8) (aNil))) (eC (.int 4))) (aNil)))))))))) (sNil))
    (sRet (eCall (c 23) (aCons (eVar 0) (aCons (eOp opSub (eVar 1) (eC (.int 1))) (aCons (eVar 2) (aCons (eVar 3) (aCons (eVar 6) (aCons (eVar 7) (aCons (eOp opMod (eBi biInt (aCons (eVar 8) (aNil))) (eC (.int 4))) (aNil))))))))))))))))))
def B25 (c : Nat → Nat → List SV → Sto → Res SV) : Fr → Sto → SRes :=
  -- _law_above ['_law_row_here', '_law_product', '_law_days', '_law_plain', '_law_found', '_law_premise', '_law_mode_here']
   sSeq (sSet 4 (eLcK [5] (eCall (c 17) (aCons (eVar 0) (aNil))) (gNm 5) (tYs) (E25_0 c)))
    (sSeq (sSet 6 (eC (.str "once")))
    (sSeq (sIf (tV (eOp opEq (eOpS opIx (eVar 0) (eC (.int 0))) (eC (.str "pay")))) (sSet 6 (eOpS opIx (eVar 0) (eC (.int 2)))) (sNil))
    (sSeq (sIf (tV (eOp opEq (eOpS opIx (eVar 0) (eC (.int 0))) (eC (.str "cut")))) (sSet 6 (eOpS opIx (eVar 0) (eC (.int 1)))) (sNil))
    (sSeq (sIf (tV (eOp opNe (eVar 6) (eC (.str "once")))) (sSub (eVar 4) (eC (.int 0)) (eTup (aCons (eOpS opIx (eOpS opIx (eVar 4) (eC (.int 0))) (eC (.int 0))) (aCons (eOp opMul (eVar 1) (eOpS opIx (eVar 6) (eC (.int 0)))) (aCons (eOp opAdd (eVar 2) (eOpS opIx (eVar 6) (eC (.int 1)))) (aCons (eC (.bl false)) (aNil))))))) (sNil))
    (sRet (eVar 4))))))
def B26 (c : Nat → Nat → List SV → Sto → Res SV) : Fr → Sto → SRes :=
  -- _law_uses ['_law_tree', '_law_level', '_law_number', '_law_uses_here', '_law_work', '_law_k', '_law_row_here', '_law_product', '_law_days', '_law_plain', '_law_above_here']
   sSeq (sSet 3 (eLstM (aNil)))
    (sSeq (sSet 4 (eLstM (aCons (eTup (aCons (eVar 0) (aCons (eC (.int 1)) (aCons (eC (.int 0)) (aCons (eC (.bl true)) (aNil)))))) (aNil))))
    (sSeq (sForR (aCons (eC (.int 200)) (aNil)) (gNm 5) (L26_0 c))
    (sRet (eVar 3))))
def B27 (c : Nat → Nat → List SV → Sto → Res SV) : Fr → Sto → SRes :=
  -- _law_due ['_law_tree', '_law_level', '_law_due_here', '_law_use', '_law_old', '_law_total', '_law_path', '_law_number', '_law_uses_here', '_law_ref', '_law_least', '_law_most']
   sSeq (sSet 2 (eDic0M))
    (sSeq (sFor (eCall (c 26) (aCons (eVar 0) (aCons (eVar 1) (aCons (eNeg (eC (.int 1))) (aNil))))) (gNm 3) (L27_3 c))
    (sSeq (sSet 5 (eC (.int 1)))
    (sSeq (sFor (eCall (c 18) (aCons (eVar 0) (aCons (eTup (aNil)) (aNil)))) (gNm 6) (L27_2 c))
    (sSeq (sForR (aCons (eVar 5) (aNil)) (gNm 7) (L27_1 c))
    (sRet (eVar 2))))))
def B28 (c : Nat → Nat → List SV → Sto → Res SV) : Fr → Sto → SRes :=
  -- _law_told ['_law_told_here', '_law_due_here', '_law_ref', '_law_found']
   sSeq (sIf (tOrr (tNo (tV (eIsi anDic (eVar 0)))) (tV (eOp opNe (eBi biLen (aCons (eVar 0) (aNil))) (eBi biLen (aCons (eVar 1) (aNil)))))) (sRet (eC (.bl false))) (sNil))
    (sSeq (sForK 0 (gNm 2) (L28_0 c))
    (sRet (eC (.bl true))))
def B29 (c : Nat → Nat → List SV → Sto → Res SV) : Fr → Sto → SRes :=
  -- law ['_law_script', '_law_pool_here', '_law_level', '_law_many', '_law_tree', '_law_due_here', '_law_told_here']
   sSeq (sSet 1 (eCallK (c 13) (aCons (eVar 0) (aCons (eC (.int 0)) (aNil)))))
    (sSeq (sSet 2 (eCall (c 14) (aCons (eVar 1) (aCons (eC (.int 6)) (aNil)))))
    (sSeq (sSet 3 (eOp opAdd (eC (.int 1)) (eCall (c 14) (aCons (eVar 1) (aCons (eC (.int 16)) (aNil))))))
    (sSeq (sIf (tV (eOp opEq (eCall (c 14) (aCons (eVar 1) (aCons (eC (.int 8)) (aNil)))) (eC (.int 0)))) (sSet 3 (eC (.int 30))) (sNil))
    (sSeq (sSet 4 (eCall (c 24) (aCons (eDspK [(eC (.str "pool"), eVar 1), (eC (.str "offers"), eC (.int 6))]) (aCons (eVar 3) (aCons (eVar 2) (aCons (eC (.int 200)) (aNil)))))))
    (sSeq (sSet 5 (eCall (c 27) (aCons (eVar 4) (aCons (eVar 2) (aNil)))))
    (sSeq (sSet 6 (eCallK (c 33) (aCons (eVar 4) (aCons (eVar 2) (aNil)))))
    (sSeq (sIf (tNo (tV (eCall (c 28) (aCons (eVar 6) (aCons (eVar 5) (aNil)))))) (sRet (eC (.bl false))) (sNil))
    (sSeq (sExpr (eClr (eVar 6)))
    (sSeq (sSub (eVar 6) (eC (.str "spoilt")) (eMake 0 (c 1) (aCons (eC (.int 1)) (aCons (eC (.int 1)) (aCons (eC (.int 0)) (aNil))))))
    (sSeq (sIf (tNo (tV (eCall (c 28) (aCons (eCallK (c 33) (aCons (eVar 4) (aCons (eVar 2) (aNil)))) (aCons (eVar 5) (aNil)))))) (sRet (eC (.bl false))) (sNil))
    (sRet (eOr (eOp opGt (eVar 2) (eC (.int 0))) (eCall (c 28) (aCons (eCallDK (c 33) [.int 0] (aCons (eVar 4) (aNil))) (aCons (eVar 5) (aNil))))))))))))))))
def B30 (c : Nat → Nat → List SV → Sto → Res SV) : Fr → Sto → SRes :=
  -- added ['first', 'second', 'total', 'ref']
   sSeq (sSet 2 (eDic0M))
    (sSeq (sFor (eVar 0) (gNm 3) (L30_1 c))
    (sSeq (sFor (eVar 1) (gNm 3) (L30_0 c))
    (sRet (eVar 2))))
def B31 (c : Nat → Nat → List SV → Sto → Res SV) : Fr → Sto → SRes :=
  -- either ['first', 'second', 'total', 'ref']
   sSeq (sSet 2 (eDic0M))
    (sSeq (sFor (eVar 0) (gNm 3) (L31_1 c))
    (sSeq (sFor (eVar 1) (gNm 3) (L31_0 c))
    (sRet (eVar 2))))
def B32 (c : Nat → Nat → List SV → Sto → Res SV) : Fr → Sto → SRes :=
  -- without ['found', 'ref', 'other']
   sRet (eDcK [2] (eVar 0) (gNm 2) (T32_0 c) (K32_0 c) (E32_0 c))
def B33 (c : Nat → Nat → List SV → Sto → Res SV) : Fr → Sto → SRes :=
  -- counts ['derivation', 'level', 'name', 'body', 'found']
   sSeq (sSet 2 (eOpS opIx (eVar 0) (eC (.int 0))))
    (sSeq (sIf (tV (eOp opEq (eVar 2) (eC (.str "own")))) (sRet (eDspK [(eOpS opIx (eVar 0) (eC (.int 1)), eMake 0 (c 1) (aCons (eC (.int 1)) (aCons (eC (.int 1)) (aCons (eC (.int 0)) (aNil)))))])) (sNil))
    (sSeq (sIf (tV (eOp opEq (eVar 2) (eC (.str "cite")))) (sRet (eDic0M)) (sNil))
    (sSeq (sIf (tV (eOp opEq (eVar 2) (eC (.str "take")))) (sRet (eCallK (c 32) (aCons (eCall (c 11) (aCons (eOpS opIx (eVar 0) (eC (.int 1))) (aCons (eOp opAdd (eVar 1) (eC (.int 1))) (aNil)))) (aCons (eVar 1) (aNil))))) (sNil))
    (sSeq (sIf (tV (eOp opEq (eVar 2) (eC (.str "make")))) (sRet (eCallK (c 33) (aCons (eOpS opIx (eVar 0) (eC (.int 3))) (aCons (eVar 1) (aNil))))) (sNil))
    (sSeq (sIf (tV (eOp opEq (eVar 2) (eC (.str "offer")))) (sRet (eCallK (c 31) (aCons (eCall (c 11) (aCons (eOpS opIx (eVar 0) (eC (.int 1))) (aCons (eVar 1) (aNil)))) (aCons (eCall (c 11) (aCons (eOpS opIx (eVar 0) (eC (.int 2))) (aCons (eVar 1) (aNil)))) (aNil))))) (sNil))
    (sSeq (sSet 3 (eCall (c 10) (aCons (eCall (c 11) (aCons (eOpS opIx (eVar 0) (eOp opSub (eBi biLen (aCons (eVar 0) (aNil))) (eC (.int 1)))) (aCons (eOp opAdd (eVar 1) (eC (.int 1))) (aNil)))) (aCons (eVar 1) (aNil)))))
    (sSeq (sIf (tV (eOp opEq (eVar 2) (eC (.str "cut")))) (sRet (eCallK (c 30) (aCons (eCall (c 9) (aCons (eCall (c 11) (aCons (eOpS opIx (eVar 0) (eC (.int 3))) (aCons (eVar 1) (aNil)))) (aCons (eOpS opIx (eVar 0) (eC (.int 1))) (aNil)))) (aCons (eVar 3) (aNil))))) (sNil))
    (sSeq (sSet 4 (eDsp [(eOpS opIx (eVar 0) (eC (.int 1)), eMake 0 (c 1) (aCons (eC (.int 1)) (aCons (eC (.int 1)) (aCons (eC (.int 0)) (aNil)))))]))
    (sSeq (sIf (tV (eOp opEq (eVar 2) (eC (.str "pay")))) (sSet 4 (eCall (c 7) (aCons (eVar 4) (aCons (eCall (c 9) (aCons (eCall (c 11) (aCons (eOpS opIx (eVar 0) (eC (.int 3))) (aCons (eVar 1) (aNil)))) (aCons (eOpS opIx (eVar 0) (eC (.int 2))) (aNil)))) (aNil))))) (sNil))
    (sRet (eCallK (c 30) (aCons (eVar 4) (aCons (eVar 3) (aNil))))))))))))))
def tb : Nat → Nat → Nat → List SV → Sto → Res SV
  | 0, _, _, _, _ => .bad
  | k + 1, 0, b, as, S => runF 1 1 (B0 (tb k)) b as S
  | k + 1, 1, b, as, S => runF 4 4 (B1 (tb k)) b as S
  | k + 1, 2, b, as, S => runF 2 2 (B2 (tb k)) b as S
  | k + 1, 3, b, as, S => runF 2 3 (B3 (tb k)) b as S
  | k + 1, 4, b, as, S => runF 2 2 (B4 (tb k)) b as S
  | k + 1, 5, b, as, S => runF 2 2 (B5 (tb k)) b as S
  | k + 1, 6, b, as, S => runF 1 1 (B6 (tb k)) b as S
  | k + 1, 7, b, as, S => runF 2 4 (B7 (tb k)) b as S
  | k + 1, 8, b, as, S => runF 2 4 (B8 (tb k)) b as S
  | k + 1, 9, b, as, S => runF 2 3 (B9 (tb k)) b as S
  | k + 1, 10, b, as, S => runF 2 3 (B10 (tb k)) b as S
  | k + 1, 11, b, as, S => runF 2 5 (B11 (tb k)) b as S
  | k + 1, 12, b, as, S => runF 2 2 (B12 (tb k)) b as S
  | k + 1, 13, b, as, S => runF 2 3 (B13 (tb k)) b as S
  | k + 1, 14, b, as, S => runF 2 4 (B14 (tb k)) b as S
  | k + 1, 15, b, as, S => runF 1 1 (B15 (tb k)) b as S
  | k + 1, 16, b, as, S => runF 1 2 (B16 (tb k)) b as S
  | k + 1, 17, b, as, S => runF 1 2 (B17 (tb k)) b as S
  | k + 1, 18, b, as, S => runF 2 5 (B18 (tb k)) b as S
  | k + 1, 19, b, as, S => runF 2 3 (B19 (tb k)) b as S
  | k + 1, 20, b, as, S => runF 2 3 (B20 (tb k)) b as S
  | k + 1, 21, b, as, S => runF 2 3 (B21 (tb k)) b as S
  | k + 1, 22, b, as, S => runF 7 9 (B22 (tb k)) b as S
  | k + 1, 23, b, as, S => runF 7 13 (B23 (tb k)) b as S
  | k + 1, 24, b, as, S => runF 4 9 (B24 (tb k)) b as S
  | k + 1, 25, b, as, S => runF 4 7 (B25 (tb k)) b as S
  | k + 1, 26, b, as, S => runF 3 11 (B26 (tb k)) b as S
  | k + 1, 27, b, as, S => runF 2 12 (B27 (tb k)) b as S
  | k + 1, 28, b, as, S => runF 2 4 (B28 (tb k)) b as S
  | k + 1, 29, b, as, S => runF 1 7 (B29 (tb k)) b as S
  | k + 1, 30, b, as, S => runF 2 4 (B30 (tb k)) b as S
  | k + 1, 31, b, as, S => runF 2 4 (B31 (tb k)) b as S
  | k + 1, 32, b, as, S => runF 2 3 (B32 (tb k)) b as S
  | k + 1, 33, b, as, S => runF 2 5 (B33 (tb k)) b as S
  | _ + 1, _, _, _, _ => .bad
theorem t_0 (k b : Nat) (as : List SV) (S : Sto) : tb (k + 1) 0 b as S = runF 1 1 (B0 (tb k)) b as S := rfl
theorem t_1 (k b : Nat) (as : List SV) (S : Sto) : tb (k + 1) 1 b as S = runF 4 4 (B1 (tb k)) b as S := rfl
theorem t_2 (k b : Nat) (as : List SV) (S : Sto) : tb (k + 1) 2 b as S = runF 2 2 (B2 (tb k)) b as S := rfl
theorem t_3 (k b : Nat) (as : List SV) (S : Sto) : tb (k + 1) 3 b as S = runF 2 3 (B3 (tb k)) b as S := rfl
theorem t_4 (k b : Nat) (as : List SV) (S : Sto) : tb (k + 1) 4 b as S = runF 2 2 (B4 (tb k)) b as S := rfl
theorem t_5 (k b : Nat) (as : List SV) (S : Sto) : tb (k + 1) 5 b as S = runF 2 2 (B5 (tb k)) b as S := rfl
theorem t_6 (k b : Nat) (as : List SV) (S : Sto) : tb (k + 1) 6 b as S = runF 1 1 (B6 (tb k)) b as S := rfl
theorem t_7 (k b : Nat) (as : List SV) (S : Sto) : tb (k + 1) 7 b as S = runF 2 4 (B7 (tb k)) b as S := rfl
theorem t_8 (k b : Nat) (as : List SV) (S : Sto) : tb (k + 1) 8 b as S = runF 2 4 (B8 (tb k)) b as S := rfl
theorem t_9 (k b : Nat) (as : List SV) (S : Sto) : tb (k + 1) 9 b as S = runF 2 3 (B9 (tb k)) b as S := rfl
theorem t_10 (k b : Nat) (as : List SV) (S : Sto) : tb (k + 1) 10 b as S = runF 2 3 (B10 (tb k)) b as S := rfl
theorem t_11 (k b : Nat) (as : List SV) (S : Sto) : tb (k + 1) 11 b as S = runF 2 5 (B11 (tb k)) b as S := rfl
theorem t_12 (k b : Nat) (as : List SV) (S : Sto) : tb (k + 1) 12 b as S = runF 2 2 (B12 (tb k)) b as S := rfl
theorem t_13 (k b : Nat) (as : List SV) (S : Sto) : tb (k + 1) 13 b as S = runF 2 3 (B13 (tb k)) b as S := rfl
theorem t_14 (k b : Nat) (as : List SV) (S : Sto) : tb (k + 1) 14 b as S = runF 2 4 (B14 (tb k)) b as S := rfl
theorem t_15 (k b : Nat) (as : List SV) (S : Sto) : tb (k + 1) 15 b as S = runF 1 1 (B15 (tb k)) b as S := rfl
theorem t_16 (k b : Nat) (as : List SV) (S : Sto) : tb (k + 1) 16 b as S = runF 1 2 (B16 (tb k)) b as S := rfl
theorem t_17 (k b : Nat) (as : List SV) (S : Sto) : tb (k + 1) 17 b as S = runF 1 2 (B17 (tb k)) b as S := rfl
theorem t_18 (k b : Nat) (as : List SV) (S : Sto) : tb (k + 1) 18 b as S = runF 2 5 (B18 (tb k)) b as S := rfl
theorem t_19 (k b : Nat) (as : List SV) (S : Sto) : tb (k + 1) 19 b as S = runF 2 3 (B19 (tb k)) b as S := rfl
theorem t_20 (k b : Nat) (as : List SV) (S : Sto) : tb (k + 1) 20 b as S = runF 2 3 (B20 (tb k)) b as S := rfl
theorem t_21 (k b : Nat) (as : List SV) (S : Sto) : tb (k + 1) 21 b as S = runF 2 3 (B21 (tb k)) b as S := rfl
theorem t_22 (k b : Nat) (as : List SV) (S : Sto) : tb (k + 1) 22 b as S = runF 7 9 (B22 (tb k)) b as S := rfl
theorem t_23 (k b : Nat) (as : List SV) (S : Sto) : tb (k + 1) 23 b as S = runF 7 13 (B23 (tb k)) b as S := rfl
theorem t_24 (k b : Nat) (as : List SV) (S : Sto) : tb (k + 1) 24 b as S = runF 4 9 (B24 (tb k)) b as S := rfl
theorem t_25 (k b : Nat) (as : List SV) (S : Sto) : tb (k + 1) 25 b as S = runF 4 7 (B25 (tb k)) b as S := rfl
theorem t_26 (k b : Nat) (as : List SV) (S : Sto) : tb (k + 1) 26 b as S = runF 3 11 (B26 (tb k)) b as S := rfl
theorem t_27 (k b : Nat) (as : List SV) (S : Sto) : tb (k + 1) 27 b as S = runF 2 12 (B27 (tb k)) b as S := rfl
theorem t_28 (k b : Nat) (as : List SV) (S : Sto) : tb (k + 1) 28 b as S = runF 2 4 (B28 (tb k)) b as S := rfl
theorem t_29 (k b : Nat) (as : List SV) (S : Sto) : tb (k + 1) 29 b as S = runF 1 7 (B29 (tb k)) b as S := rfl
theorem t_30 (k b : Nat) (as : List SV) (S : Sto) : tb (k + 1) 30 b as S = runF 2 4 (B30 (tb k)) b as S := rfl
theorem t_31 (k b : Nat) (as : List SV) (S : Sto) : tb (k + 1) 31 b as S = runF 2 4 (B31 (tb k)) b as S := rfl
theorem t_32 (k b : Nat) (as : List SV) (S : Sto) : tb (k + 1) 32 b as S = runF 2 3 (B32 (tb k)) b as S := rfl
theorem t_33 (k b : Nat) (as : List SV) (S : Sto) : tb (k + 1) 33 b as S = runF 2 5 (B33 (tb k)) b as S := rfl
end Lw

set_option Elab.async false
set_option linter.all false
set_option maxRecDepth 100000
namespace Lw
open PySem L2 Ev
inductive Kd where
  | once | st (u v : Int)
def Kd.d : Kd → Dv
  | .once => .str "once"
  | .st u v => .tup [.int u, .int v]
def Kd.ok : Kd → Prop
  | .once => True
  | .st u v => 1 ≤ u ∧ u ≤ 3 ∧ 0 ≤ v
inductive Tr where
  | own (r : Key) | cite (n : Str) | take (b : Tr) | offer (a b : Tr) | pick (r : Key) (s : Str) (b : Tr) | pay (r : Key) (m : Kd) (a b : Tr)
  | make (n : Str) (i : Int) (b : Tr) | opn (r : Key) (n : Str) (i : Int) (b : Tr) | cut (m : Kd) (n : Str) (a b : Tr)
abbrev sent (n : Str) : Dv := .tup [.str "menu", .tup [.str "word", .str "own"], .tup [.str "word", .str n]]
def Tr.prem : Tr → List Tr
  | .own _ => [] | .cite _ => [] | .take b => [b] | .offer a b => [a, b] | .pick _ _ b => [b] | .pay _ _ a b => [a, b] | .make _ _ b => [b] | .opn _ _ _ b => [b] | .cut _ _ a b => [a, b]
def Tr.d : Tr → Dv
  | .own r => .tup [.str "own", keyD r] | .cite n => .tup [.str "cite", .str n] | .take b => .tup [.str "take", b.d] | .offer a b => .tup [.str "offer", a.d, b.d]
  | .pick r s b => .tup [.str "pick", keyD r, .str s, b.d] | .pay r m a b => .tup [.str "pay", keyD r, m.d, a.d, b.d] | .make n i b => .tup [.str "make", .str n, .int i, b.d]
  | .opn r n i b => .tup [.str "open", keyD r, .str n, .int i, b.d] | .cut m n a b => .tup [.str "cut", m.d, sent n, a.d, b.d]
def Tr.sz : Tr → Nat
  | .own _ => 1 | .cite _ => 1 | .take b => b.sz + 1 | .offer a b => a.sz + b.sz + 1 | .pick _ _ b => b.sz + 1 | .pay _ _ a b => a.sz + b.sz + 1 | .make _ _ b => b.sz + 1 | .opn _ _ _ b => b.sz + 1 | .cut _ _ a b => a.sz + b.sz + 1
def inL (lv : Int) : Key → Prop
  | .inl i => 0 ≤ i ∧ i < lv
  | .inr _ => True
instance (lv : Int) (r : Key) : Decidable (inL lv r) := by cases r <;> unfold inL <;> infer_instance
/-- references in scope -/
def Tr.wf : Int → Tr → Prop
  | l, .own r => inL l r | _, .cite _ => True | l, .take b => b.wf (l + 1) | l, .offer a b => a.wf l ∧ b.wf l | l, .pick r _ b => inL l r ∧ b.wf (l + 1) | l, .pay r m a b => inL l r ∧ m.ok ∧ a.wf l ∧ b.wf (l + 1)
  | l, .make _ _ b => b.wf l | l, .opn r _ _ b => inL l r ∧ b.wf (l + 1) | l, .cut m _ a b => m.ok ∧ a.wf l ∧ b.wf (l + 1)
/-! ### counts -/
structure C3 where
  l : Int
  m : Int
  d : Int
def C3.v (c : C3) : Dv := .ins 0 ["least", "most", "days"] [.int c.l, .int c.m, .int c.d]
def C3.t (c : C3) : Dv := .tup [.int c.l, .int c.m, .int c.d]
def C3.zero : C3 := ⟨0, 0, 0⟩
def C3.one : C3 := ⟨1, 1, 0⟩
def C3.add (x y : C3) : C3 := ⟨x.l + y.l, x.m + y.m, max x.d y.d⟩
def C3.alt (x y : C3) : C3 := ⟨min x.l y.l, max x.m y.m, max x.d y.d⟩
def C3.box (x : C3) : Kd → C3
  | .once => x
  | .st u v => ⟨0, u * x.m, v + x.d⟩
def C3.pos (x : C3) : Prop := 0 ≤ x.l ∧ 0 ≤ x.m ∧ 0 ≤ x.d
theorem mx2 (i j : Int) : (if j > i then j else i) = max i j := by omega
theorem mn2 (i j : Int) : (if j < i then j else i) = min i j := by omega
theorem mx3 (a b c : Int) : (if b > a then (if c > b then c else b) else (if c > a then c else a)) = max (max a b) c := by omega
section
variable {k : Nat} {S : Sto}
theorem s1 (l m d : Int) : makF 0 (tb (k + 1) 1) [.d (.int l), .d (.int m), .d (.int d)] S = .ok (.d (C3.v ⟨l, m, d⟩)) S := by
  rw [makF, t_1]
  simp [runF, B1, C3.v]
  exact fin_ins [.int l, .int m, .int d]
theorem s2 (x y : C3) (h : 0 ≤ x.d) : callF (tb (k + 2) 2) [.d x.v, .d y.v] S = .ok (.d (x.add y).v) S := by
  rw [callF, t_2]
  have e : max 0 (max x.d y.d) = max x.d y.d := by omega
  simp [runF, B2, C3.v, mx3, s1, C3.add, e]
theorem s3 (x y : C3) (h : 0 ≤ x.d) (h2 : 0 ≤ x.m) : callF (tb (k + 2) 3) [.d x.v, .d y.v] S = .ok (.d (x.alt y).v) S := by
  rw [callF, t_3]
  have e : max 0 (max x.d y.d) = max x.d y.d := by omega
  have e2 : max 0 (max x.m y.m) = max x.m y.m := by omega
  by_cases hh : y.l < x.l
  · have e3 : min x.l y.l = y.l := by omega
    simp [runF, B3, C3.v, mx3, hh, e, e2, e3, C3.alt, s1]
  · have e3 : min x.l y.l = x.l := by omega
    simp [runF, B3, C3.v, mx3, hh, e, e2, e3, C3.alt, s1]
theorem s4 (x : C3) (m : Kd) (h : m.ok) : callF (tb (k + 2) 4) [.d x.v, .d m.d] S = .ok (.d (x.box m).v) S := by
  rw [callF, t_4]
  cases m with
  | once => simp [runF, B4, C3.v, C3.box, Kd.d, s1]
  | st u v =>
    obtain ⟨h1, h2, h3⟩ := h
    have hu : big64 u = true := by simp [big64]; omega
    simp [runF, B4, C3.v, C3.box, Kd.d, s1, hu]
theorem s6 (x : C3) : callF (tb (k + 1) 6) [.d x.v] S = .ok (.d x.t) S := by
  rw [callF, t_6]
  simp [runF, B6, C3.v, C3.t]
end
end Lw

set_option Elab.async false
set_option linter.all false
set_option maxRecDepth 100000
namespace Lw
open PySem L2 Ev
/-! ### dicts told by keys and a function -/
def fdic (ks : List Key) (f : Key → C3) : Dv := .dic ks (ks.map fun r => (f r).v)
def mdic (ks : List Key) (f : Key → C3) : MO := .dic ks ((ks.map fun r => (f r).v).map .d)
def insK (r : Key) (ks : List Key) : List Key := if hasK r ks = true then ks else ks ++ [r]
def updF (f : Key → C3) (r : Key) (x : C3) : Key → C3 := fun a => if a = r then x else f a
theorem look_f {α : Type} (r : Key) (f : Key → α) : ∀ ks : List Key, lookK r ks (ks.map f) = if hasK r ks = true then some (f r) else none
  | [] => by simp
  | a :: ks => by
    rw [List.map_cons, lookK_cons, look_f r f ks, hasK_cons]
    by_cases h : a = r
    · subst h; simp
    · simp [h]
theorem zip_f (r : Key) (x : SV) (f : Key → SV) : ∀ ks : List Key, List.zipWith (fun a y => if a = r then x else y) ks (ks.map f) = ks.map fun a => if a = r then x else f a
  | [] => rfl
  | a :: ks => by rw [List.map_cons, List.zipWith_cons_cons, zip_f r x f ks]; rfl
theorem put_f (r : Key) (x : C3) (f : Key → C3) (ks : List Key) : dPut r (.d x.v) ks ((ks.map fun r => (f r).v).map .d) = (insK r ks, ((insK r ks).map fun a => (updF f r x a).v).map .d) := by
  unfold insK
  by_cases h : hasK r ks = true
  · rw [dPut_y h, if_pos h, List.map_map]
    refine Prod.ext rfl ?_
    show List.zipWith _ ks (ks.map _) = _
    rw [zip_f, List.map_map]
    refine List.map_congr_left fun a _ => ?_
    unfold updF
    simp only [Function.comp_apply]
    by_cases e : a = r <;> simp [e]
  · have h' : hasK r ks = false := by simpa using h
    rw [dPut_n h', if_neg h]
    refine Prod.ext rfl ?_
    show _ ++ _ = _
    rw [List.map_append, List.map_append, List.map_map, List.map_map]
    refine congr (congrArg _ (List.map_congr_left fun a ha => ?_)) ?_
    · have e : a ≠ r := fun e => h (hasK_iff.mpr (e ▸ ha))
      simp [updF, e]
    · simp [updF]
theorem ins_len (r : Key) (ks : List Key) : (insK r ks).length ≤ ks.length + 1 := by unfold insK; split <;> simp
theorem mem_ins {r q : Key} {ks : List Key} : q ∈ insK r ks ↔ q ∈ ks ∨ q = r := by
  unfold insK
  by_cases h : hasK r ks = true
  · rw [if_pos h]
    exact ⟨.inl, fun z => z.elim id fun e => e ▸ hasK_iff.mp h⟩
  · rw [if_neg h]; simp
theorem nd_ins {r : Key} {ks : List Key} (h : ks.Nodup) : (insK r ks).Nodup := by
  unfold insK
  by_cases e : hasK r ks = true
  · rw [if_pos e]; exact h
  · rw [if_neg e]
    refine List.nodup_append.mpr ⟨h, by simp, fun a ha b hb => ?_⟩
    rw [List.mem_singleton] at hb
    subst hb
    exact fun z => e (hasK_iff.mpr (z ▸ ha))
/-- the pairs as they grow -/
def fillS (g : List Key → (Key → C3) → Key → C3) : List Key → List Key × (Key → C3) → List Key × (Key → C3)
  | [], s => s
  | r :: l, s => fillS g l (insK r s.1, updF s.2 r (g s.1 s.2 r))
theorem fill_len (g) : ∀ (l : List Key) (s), (fillS g l s).1.length ≤ s.1.length + l.length
  | [], s => by simp [fillS]
  | r :: l, s => by
    have := fill_len g l (insK r s.1, updF s.2 r (g s.1 s.2 r))
    have h := ins_len r s.1
    simp only [fillS, List.length_cons] at *
    omega
theorem fill_mem (g) {q : Key} : ∀ (l : List Key) (s), q ∈ (fillS g l s).1 ↔ q ∈ s.1 ∨ q ∈ l
  | [], s => by simp [fillS]
  | r :: l, s => by
    rw [fillS, fill_mem g l, mem_ins, List.mem_cons]
    exact ⟨fun h => by rcases h with (h | h) | h <;> simp [h], fun h => by rcases h with h | h | h <;> simp [h]⟩
theorem fill_nd (g) : ∀ (l : List Key) (s), s.1.Nodup → (fillS g l s).1.Nodup
  | [], s, h => h
  | r :: l, s, h => fill_nd g l _ (nd_ins h)
/-- a key that is not walked keeps its value -/
theorem fill_not (g) {q : Key} : ∀ (l : List Key) (s), q ∉ l → (fillS g l s).2 q = s.2 q
  | [], s, _ => rfl
  | r :: l, s, h => by
    rw [List.mem_cons, not_or] at h
    rw [fillS, fill_not g l _ h.2]
    exact if_neg h.1
/-- a key that is walked once has what g gave it there -/
theorem fill_val {g : List Key → (Key → C3) → Key → C3} {q : Key} (hg : ∀ ks ks' f f', (q ∈ ks ↔ q ∈ ks') → f q = f' q → g ks f q = g ks' f' q) : ∀ (l : List Key) (s), q ∈ l → l.Nodup → (fillS g l s).2 q = g s.1 s.2 q
  | [], s, h, _ => by cases h
  | r :: l, s, h, nd => by
    obtain ⟨n1, n2⟩ := List.nodup_cons.mp nd
    rw [fillS]
    by_cases e : q = r
    · subst e
      rw [fill_not g l _ n1]
      exact if_pos rfl
    · rw [fill_val hg l _ ((List.mem_cons.mp h).resolve_left e) n2]
      refine hg _ _ _ _ ?_ (if_neg e)
      rw [mem_ins]
      exact ⟨fun z => z.resolve_right e, .inl⟩
/-- a loop over keys that puts at most one value at each turn -/
theorem fill_loop {body : Fr → Sto → SRes} {b : Nat} {B : Sto} {x0 x1 : Option SV} (c : Key → Bool) (g : List Key → (Key → C3) → Key → C3) (P : List Key → (Key → C3) → Prop) :
    ∀ (l : List Key) (s : List Key × (Key → C3)) (x3 : Option SV), P s.1 s.2 → (∀ r ∈ l, ∀ ks f, P ks f → ks.length < s.1.length + l.length → (c r = false → ∃ x3', body ⟨b, [x0, x1, some (.m B.length), some (keyS r)]⟩ (B ++ [mdic ks f]) = .nx [x0, x1, some (.m B.length), x3'] (B ++ [mdic ks f])) ∧
      (c r = true → (∃ x3', body ⟨b, [x0, x1, some (.m B.length), some (keyS r)]⟩ (B ++ [mdic ks f]) = .nx [x0, x1, some (.m B.length), x3'] (B ++ [mdic (insK r ks) (updF f r (g ks f r))])) ∧ P (insK r ks) (updF f r (g ks f r)))) →
      ∃ x3', forL (gNm 3) body b (l.map keyS) [x0, x1, some (.m B.length), x3] (B ++ [mdic s.1 s.2]) = .nx [x0, x1, some (.m B.length), x3'] (B ++ [mdic (fillS g (l.filter c) s).1 (fillS g (l.filter c) s).2]) ∧ P (fillS g (l.filter c) s).1 (fillS g (l.filter c) s).2
  | [], s, x3, hP, _ => ⟨x3, rfl, hP⟩
  | r :: l, s, x3, hP, h => by
    obtain ⟨hf, ht⟩ := h r (List.mem_cons_self ..) s.1 s.2 hP (by simp)
    rw [List.map_cons, forL_cons]
    simp only [gNm_ap, put_ap, List.set_cons_succ, List.set_cons_zero, kTg_s]
    cases hc : c r with
    | false =>
      obtain ⟨x', e1⟩ := hf hc
      obtain ⟨x'', e2, p2⟩ := fill_loop c g P l s x' hP fun q hq ks f hP hl2 => h q (List.mem_cons_of_mem _ hq) ks f hP (by simp only [List.length_cons]; omega)
      rw [e1, List.filter_cons_of_neg (by simp [hc])]
      exact ⟨x'', e2, p2⟩
    | true =>
      obtain ⟨⟨x', e1⟩, p1⟩ := ht hc
      have hl := ins_len r s.1
      obtain ⟨x'', e2, p2⟩ := fill_loop c g P l (insK r s.1, updF s.2 r (g s.1 s.2 r)) x' p1 fun q hq ks f hP hl2 => h q (List.mem_cons_of_mem _ hq) ks f hP (by simp only [List.length_cons] at *; omega)
      rw [e1, List.filter_cons_of_pos hc]
      exact ⟨x'', e2, p2⟩
section
variable {k : Nat} {S : Sto}
theorem ix_f (T : Sto) (ks : List Key) (f : Key → C3) (r : Key) (h : r ∈ ks) : opIx T (.d (fdic ks f)) (keyS r) = some (.d (f r).v) := by
  unfold fdic
  rw [opIx_kd, look_f, if_pos (hasK_iff.mpr h)]
  rfl
theorem inS_f (T : Sto) (ks : List Key) (f : Key → C3) (r : Key) : inS T (keyS r) (.d (fdic ks f)) = some (hasK r ks) := by
  unfold fdic
  rw [inS_kd, List.map_map, look_f]
  by_cases h : hasK r ks = true <;> simp [h]
theorem top_m (mo : MO) : (S ++ [mo])[S.length]? = some mo := by simp
theorem ix_m (ks : List Key) (f : Key → C3) (r : Key) (h : r ∈ ks) : opIx (S ++ [mdic ks f]) (.m S.length) (keyS r) = some (.d (f r).v) := by
  have e := opIx_kmd (k := r) (show (S ++ [mdic ks f])[S.length]? = some (.dic ks ((ks.map fun r => (f r).v).map .d)) from top_m _)
  rw [e, List.map_map, look_f, if_pos (hasK_iff.mpr h)]
  rfl
theorem inS_m (ks : List Key) (f : Key → C3) (r : Key) : inS (S ++ [mdic ks f]) (keyS r) (.m S.length) = some (hasK r ks) := by
  have e := inS_kmd r (show (S ++ [mdic ks f])[S.length]? = some (.dic ks ((ks.map fun r => (f r).v).map .d)) from top_m _)
  rw [e, List.map_map, look_f]
  by_cases h : hasK r ks = true <;> simp [h]
theorem put_m {b : Nat} (ks : List Key) (f : Key → C3) (r : Key) (x : C3) (h : ks.length < most) : putIx b (S ++ [mdic ks f]) (.m S.length) (keyS r) (.d x.v) = some (S ++ [mdic (insK r ks) (updF f r x)]) := by
  have e := putIx_kmd (b := b) (k := r) (x := .d x.v) (show (S ++ [mdic ks f])[S.length]? = some (.dic ks ((ks.map fun r => (f r).v).map .d)) from top_m _) rfl h
  rw [e, put_f]
  simp [mdic]
@[simp] theorem instOf_v (T : Sto) (x : C3) : instOf T (.d x.v) = some (0, (["least", "most", "days"] : List Str), [SV.d (.int x.l), SV.d (.int x.m), SV.d (.int x.d)]) := Eq.trans rfl rfl
/-! ### added -/
def gA1 (f1 : Key → C3) (_ : List Key) (_ : Key → C3) (r : Key) : C3 := f1 r
def gA2 (f2 : Key → C3) (ks : List Key) (f : Key → C3) (r : Key) : C3 := if hasK r ks = true then (f r).add (f2 r) else f2 r
def fA (k1 k2 : List Key) (f1 f2 : Key → C3) : List Key × (Key → C3) := fillS (gA2 f2) k2 (fillS (gA1 f1) k1 ([], fun _ => .zero))
theorem turnA1 {b : Nat} (k1 : List Key) (f1 : Key → C3) (x1 : Option SV) (r : Key) (hr : r ∈ k1) (ks : List Key) (f : Key → C3) (hl : ks.length < most) :
    L7_1 (tb k) ⟨b, [some (.d (fdic k1 f1)), x1, some (.m S.length), some (keyS r)]⟩ (S ++ [mdic ks f]) = .nx [some (.d (fdic k1 f1)), x1, some (.m S.length), some (keyS r)] (S ++ [mdic (insK r ks) (updF f r (f1 r))]) := by
  have h1 := ix_f (S ++ [mdic ks f]) k1 f1 r hr
  have h2 := put_m (S := S) (b := b) ks f r (f1 r) hl
  simp [L7_1, h1, h2]
theorem turnA2 {b : Nat} (k2 : List Key) (f2 : Key → C3) (x0 : Option SV) (r : Key) (hr : r ∈ k2) (ks : List Key) (f : Key → C3) (hl : ks.length < most) (hp : 0 ≤ (f r).d) :
    L7_0 (tb (k + 2)) ⟨b, [x0, some (.d (fdic k2 f2)), some (.m S.length), some (keyS r)]⟩ (S ++ [mdic ks f]) = .nx [x0, some (.d (fdic k2 f2)), some (.m S.length), some (keyS r)] (S ++ [mdic (insK r ks) (updF f r (gA2 f2 ks f r))]) := by
  have h1 := ix_f (S ++ [mdic ks f]) k2 f2 r hr
  have h2 := put_m (S := S) (b := b) ks f r (f2 r) hl
  have h3 := put_m (S := S) (b := b) ks f r ((f r).add (f2 r)) hl
  have h4 := inS_m (S := S) ks f r
  by_cases h : hasK r ks = true
  · have h5 := ix_m (S := S) ks f r (hasK_iff.mp h)
    have h6 := s2 (k := k) (S := S ++ [mdic ks f]) (f r) (f2 r) hp
    simp [L7_0, h1, h2, h3, h4, h5, h6, h, gA2]
  · simp [L7_0, h1, h2, h3, h4, h, gA2]
theorem upd_pos {f : Key → C3} {r : Key} {x : C3} (h : ∀ a, (f a).pos) (hx : x.pos) : ∀ a, (updF f r x a).pos := fun a => by
  unfold updF
  by_cases e : a = r
  · rw [if_pos e]; exact hx
  · rw [if_neg e]; exact h a
theorem zero_pos : C3.zero.pos := ⟨by decide, by decide, by decide⟩
theorem add_pos {x y : C3} (h : x.pos) (h' : y.pos) : (x.add y).pos := by obtain ⟨a, b, c⟩ := h; obtain ⟨a', b', c'⟩ := h'; refine ⟨?_, ?_, ?_⟩ <;> simp only [C3.add] <;> omega
theorem alt_pos {x y : C3} (h : x.pos) (h' : y.pos) : (x.alt y).pos := by obtain ⟨a, b, c⟩ := h; obtain ⟨a', b', c'⟩ := h'; refine ⟨?_, ?_, ?_⟩ <;> simp only [C3.alt] <;> omega
theorem box_pos {x : C3} {m : Kd} (h : x.pos) (hm : m.ok) : (x.box m).pos := by
  obtain ⟨a, b, c⟩ := h
  cases m with
  | once => exact ⟨a, b, c⟩
  | st u v =>
    obtain ⟨h1, h2, h3⟩ := hm
    refine ⟨by simp [C3.box], ?_, by simp only [C3.box]; omega⟩
    simp only [C3.box]
    exact Int.mul_nonneg (by omega) b
theorem all_filter (l : List Key) : l.filter (fun _ => true) = l := List.filter_eq_self.mpr fun _ _ => rfl
theorem lt_most {n m : Nat} (h : n < m) (hm : m ≤ 1000) : n < most := Nat.lt_of_lt_of_le h (Nat.le_trans hm (by decide))
theorem runA {b : Nat} (k1 k2 : List Key) (f1 f2 : Key → C3) (h1 : k1.length ≤ 500) (h2 : k2.length ≤ 500) (p1 : ∀ r, (f1 r).pos) (p2 : ∀ r, (f2 r).pos) :
    B7 (tb (k + 2)) ⟨b, [some (.d (fdic k1 f1)), some (.d (fdic k2 f2)), none, none]⟩ S = .rt (.m S.length) (S ++ [mdic (fA k1 k2 f1 f2).1 (fA k1 k2 f1 f2).2]) := by
  have L1 := fill_len (gA1 f1) k1 ([], fun _ => .zero)
  simp only [List.length_nil] at L1
  obtain ⟨x1, e1, q1⟩ := fill_loop (body := L7_1 (tb (k + 2))) (b := b) (B := S) (x0 := some (.d (fdic k1 f1))) (x1 := some (.d (fdic k2 f2))) (fun _ => true) (gA1 f1) (fun _ f => ∀ r, (f r).pos) k1 ([], fun _ => .zero) none (fun r => zero_pos) fun r hr ks f hP hl =>
    ⟨(fun h => by cases h), fun _ => ⟨⟨_, turnA1 k1 f1 _ r hr ks f (lt_most hl (by simp; omega))⟩, upd_pos hP (p1 r)⟩⟩
  rw [all_filter] at e1 q1
  obtain ⟨x2, e2, q2⟩ := fill_loop (body := L7_0 (tb (k + 2))) (b := b) (B := S) (x0 := some (.d (fdic k1 f1))) (x1 := some (.d (fdic k2 f2))) (fun _ => true) (gA2 f2) (fun _ f => ∀ r, (f r).pos) k2 (fillS (gA1 f1) k1 ([], fun _ => .zero)) x1 q1 fun r hr ks f hP hl =>
    ⟨(fun h => by cases h), fun _ => ⟨⟨_, turnA2 k2 f2 _ r hr ks f (lt_most hl (by omega)) (hP r).2.2⟩, upd_pos hP (by unfold gA2; split; exact add_pos (hP r) (p2 r); exact p2 r)⟩⟩
  rw [all_filter] at e2 q2
  have m0 : mdic [] (fun _ => C3.zero) = .dic [] [] := rfl
  rw [m0] at e1
  simp only [B7, sSeq_ap, sSet_ap, eDic0M_ap, kSet_ok, put_ap, List.set_cons_succ, List.set_cons_zero, kSeq_nx]
  have ex : ∀ T : Sto, sFor (eVar 0) (gNm 3) (L7_1 (tb (k + 2))) ⟨b, [some (.d (fdic k1 f1)), some (.d (fdic k2 f2)), some (.m S.length), none]⟩ T = forL (gNm 3) (L7_1 (tb (k + 2))) b (k1.map keyS) [some (.d (fdic k1 f1)), some (.d (fdic k2 f2)), some (.m S.length), none] T := fun T => by simp [fdic]
  have ex2 : ∀ T : Sto, sFor (eVar 1) (gNm 3) (L7_0 (tb (k + 2))) ⟨b, [some (.d (fdic k1 f1)), some (.d (fdic k2 f2)), some (.m S.length), x1]⟩ T = forL (gNm 3) (L7_0 (tb (k + 2))) b (k2.map keyS) [some (.d (fdic k1 f1)), some (.d (fdic k2 f2)), some (.m S.length), x1] T := fun T => by simp [fdic]
  rw [ex, e1]
  simp only [kSeq_nx, sSeq_ap]
  rw [ex2, e2]
  simp [fA]
theorem fin_m (ks : List Key) (f : Key → C3) : fin S.length (.ok (.m S.length) (S ++ [mdic ks f])) = .ok (.d (fdic ks f)) S := by
  unfold fin
  simp only
  have hf : freeze (S ++ [mdic ks f]) (.m S.length) = _ := freeze_dic (ks := ks) (xs := ks.map fun r => (f r).v) (by simp [mdic])
  rw [hf]
  simp [fdic]
theorem s7 (k1 k2 : List Key) (f1 f2 : Key → C3) (h1 : k1.length ≤ 500) (h2 : k2.length ≤ 500) (p1 : ∀ r, (f1 r).pos) (p2 : ∀ r, (f2 r).pos) :
    callF (tb (k + 3) 7) [.d (fdic k1 f1), .d (fdic k2 f2)] S = .ok (.d (fdic (fA k1 k2 f1 f2).1 (fA k1 k2 f1 f2).2)) S := by
  rw [callF, t_7]
  have e := runA (k := k) (S := S) (b := S.length) k1 k2 f1 f2 h1 h2 p1 p2
  simp only [runF, List.length_cons, List.length_nil, if_true, List.map_cons, List.map_nil, List.cons_append, List.nil_append]
  show fin S.length (B7 (tb (k + 2)) ⟨S.length, [some (.d (fdic k1 f1)), some (.d (fdic k2 f2)), none, none]⟩ S).res = _
  rw [e]
  exact fin_m _ _
theorem s30 (k1 k2 : List Key) (f1 f2 : Key → C3) (h1 : k1.length ≤ 500) (h2 : k2.length ≤ 500) (p1 : ∀ r, (f1 r).pos) (p2 : ∀ r, (f2 r).pos) :
    callK (tb (k + 3) 30) [.d (fdic k1 f1), .d (fdic k2 f2)] S = .ok (.m S.length) (S ++ [mdic (fA k1 k2 f1 f2).1 (fA k1 k2 f1 f2).2]) := by
  rw [callK, t_30]
  have e := runA (k := k) (S := S) (b := S.length) k1 k2 f1 f2 h1 h2 p1 p2
  show finK S.length (B7 (tb (k + 2)) ⟨S.length, [some (.d (fdic k1 f1)), some (.d (fdic k2 f2)), none, none]⟩ S).res = _
  rw [e]
  rfl
end
end Lw

set_option Elab.async false
set_option linter.all false
set_option maxRecDepth 100000
namespace Lw
open PySem L2 Ev
section
variable {k : Nat} {S : Sto}
def at0 (ks : List Key) (f : Key → C3) (r : Key) : C3 := if hasK r ks = true then f r else .zero
def gE1 (k2 : List Key) (f1 f2 : Key → C3) (_ : List Key) (_ : Key → C3) (r : Key) : C3 := (f1 r).alt (at0 k2 f2 r)
def gE2 (f2 : Key → C3) (_ : List Key) (_ : Key → C3) (r : Key) : C3 := (f2 r).alt .zero
def fE (k1 k2 : List Key) (f1 f2 : Key → C3) : List Key × (Key → C3) := fillS (gE2 f2) (k2.filter fun r => !hasK r k1) (fillS (gE1 k2 f1 f2) k1 ([], fun _ => .zero))
theorem zero_v : (C3.v ⟨0, 0, 0⟩) = C3.zero.v := rfl
@[simp] theorem isDic_f (T : Sto) (ks : List Key) (f : Key → C3) : isDic T (.d (fdic ks f)) = true := Eq.trans rfl rfl
theorem getS_f (T : Sto) (ks : List Key) (f : Key → C3) (r : Key) : getS T (.d (fdic ks f)) (keyS r) (.d C3.zero.v) = some (.d (at0 ks f r).v) := by
  unfold fdic
  simp only [getS_d, kOf_key, getR_s, List.map_map, look_f, at0]
  by_cases h : hasK r ks = true <;> simp [h]
theorem at0_pos {ks : List Key} {f : Key → C3} (h : ∀ r, (f r).pos) (r : Key) : (at0 ks f r).pos := by unfold at0; split; exact h r; exact zero_pos
theorem turnE1 {b : Nat} (k1 k2 : List Key) (f1 f2 : Key → C3) (r : Key) (hr : r ∈ k1) (ks : List Key) (f : Key → C3) (hl : ks.length < most) (hp : (f1 r).pos) :
    L8_1 (tb (k + 2)) ⟨b, [some (.d (fdic k1 f1)), some (.d (fdic k2 f2)), some (.m S.length), some (keyS r)]⟩ (S ++ [mdic ks f]) = .nx [some (.d (fdic k1 f1)), some (.d (fdic k2 f2)), some (.m S.length), some (keyS r)] (S ++ [mdic (insK r ks) (updF f r (gE1 k2 f1 f2 ks f r))]) := by
  have h1 := ix_f (S ++ [mdic ks f]) k1 f1 r hr
  have h2 := put_m (S := S) (b := b) ks f r ((f1 r).alt (at0 k2 f2 r)) hl
  have h3 := s1 (k := k + 1) (S := S ++ [mdic ks f]) 0 0 0
  rw [zero_v] at h3
  have h4 := s3 (k := k) (S := S ++ [mdic ks f]) (f1 r) (at0 k2 f2 r) hp.2.2 hp.2.1
  have h5 := getS_f (S ++ [mdic ks f]) k2 f2 r
  simp [L8_1, h1, h2, h3, h4, h5, gE1]
theorem turnE2 {b : Nat} (k1 k2 : List Key) (f1 f2 : Key → C3) (r : Key) (hr : r ∈ k2) (ks : List Key) (f : Key → C3) (hl : ks.length < most) (hp : (f2 r).pos) (hn : (!hasK r k1) = true) :
    L8_0 (tb (k + 2)) ⟨b, [some (.d (fdic k1 f1)), some (.d (fdic k2 f2)), some (.m S.length), some (keyS r)]⟩ (S ++ [mdic ks f]) = .nx [some (.d (fdic k1 f1)), some (.d (fdic k2 f2)), some (.m S.length), some (keyS r)] (S ++ [mdic (insK r ks) (updF f r (gE2 f2 ks f r))]) := by
  have h1 := ix_f (S ++ [mdic ks f]) k2 f2 r hr
  have h2 := put_m (S := S) (b := b) ks f r ((f2 r).alt .zero) hl
  have h3 := s1 (k := k + 1) (S := S ++ [mdic ks f]) 0 0 0
  rw [zero_v] at h3
  have h4 := s3 (k := k) (S := S ++ [mdic ks f]) (f2 r) .zero hp.2.2 hp.2.1
  have h5 := inS_f (S ++ [mdic ks f]) k1 f1 r
  simp at hn
  simp [L8_0, h1, h2, h3, h4, h5, gE2, hn]
theorem turnE3 {b : Nat} (k1 : List Key) (f1 : Key → C3) (x1 : Option SV) (r : Key) (ks : List Key) (f : Key → C3) (hn : (!hasK r k1) = false) :
    L8_0 (tb (k + 2)) ⟨b, [some (.d (fdic k1 f1)), x1, some (.m S.length), some (keyS r)]⟩ (S ++ [mdic ks f]) = .nx [some (.d (fdic k1 f1)), x1, some (.m S.length), some (keyS r)] (S ++ [mdic ks f]) := by
  have h5 := inS_f (S ++ [mdic ks f]) k1 f1 r
  simp at hn
  simp [L8_0, h5, hn]
theorem runE {b : Nat} (k1 k2 : List Key) (f1 f2 : Key → C3) (h1 : k1.length ≤ 500) (h2 : k2.length ≤ 500) (p1 : ∀ r, (f1 r).pos) (p2 : ∀ r, (f2 r).pos) :
    B8 (tb (k + 2)) ⟨b, [some (.d (fdic k1 f1)), some (.d (fdic k2 f2)), none, none]⟩ S = .rt (.m S.length) (S ++ [mdic (fE k1 k2 f1 f2).1 (fE k1 k2 f1 f2).2]) := by
  have L1 := fill_len (gE1 k2 f1 f2) k1 ([], fun _ => .zero)
  simp only [List.length_nil] at L1
  obtain ⟨x1, e1, q1⟩ := fill_loop (body := L8_1 (tb (k + 2))) (b := b) (B := S) (x0 := some (.d (fdic k1 f1))) (x1 := some (.d (fdic k2 f2))) (fun _ => true) (gE1 k2 f1 f2) (fun _ f => ∀ r, (f r).pos) k1 ([], fun _ => .zero) none (fun r => zero_pos) fun r hr ks f hP hl =>
    ⟨(fun h => by cases h), fun _ => ⟨⟨_, turnE1 k1 k2 f1 f2 r hr ks f (lt_most hl (by simp; omega)) (p1 r)⟩, upd_pos hP (alt_pos (p1 r) (at0_pos p2 r))⟩⟩
  rw [all_filter] at e1 q1
  obtain ⟨x2, e2, q2⟩ := fill_loop (body := L8_0 (tb (k + 2))) (b := b) (B := S) (x0 := some (.d (fdic k1 f1))) (x1 := some (.d (fdic k2 f2))) (fun r => !hasK r k1) (gE2 f2) (fun _ f => ∀ r, (f r).pos) k2 (fillS (gE1 k2 f1 f2) k1 ([], fun _ => .zero)) x1 q1 fun r hr ks f hP hl =>
    ⟨fun h => ⟨_, turnE3 k1 f1 _ r ks f h⟩, fun h => ⟨⟨_, turnE2 k1 k2 f1 f2 r hr ks f (lt_most hl (by omega)) (p2 r) h⟩, upd_pos hP (alt_pos (p2 r) zero_pos)⟩⟩
  have m0 : mdic [] (fun _ => C3.zero) = .dic [] [] := rfl
  rw [m0] at e1
  simp only [B8, sSeq_ap, sSet_ap, eDic0M_ap, kSet_ok, put_ap, List.set_cons_succ, List.set_cons_zero, kSeq_nx]
  have ex : ∀ T : Sto, sFor (eVar 0) (gNm 3) (L8_1 (tb (k + 2))) ⟨b, [some (.d (fdic k1 f1)), some (.d (fdic k2 f2)), some (.m S.length), none]⟩ T = forL (gNm 3) (L8_1 (tb (k + 2))) b (k1.map keyS) [some (.d (fdic k1 f1)), some (.d (fdic k2 f2)), some (.m S.length), none] T := fun T => by simp [fdic]
  have ex2 : ∀ T : Sto, sFor (eVar 1) (gNm 3) (L8_0 (tb (k + 2))) ⟨b, [some (.d (fdic k1 f1)), some (.d (fdic k2 f2)), some (.m S.length), x1]⟩ T = forL (gNm 3) (L8_0 (tb (k + 2))) b (k2.map keyS) [some (.d (fdic k1 f1)), some (.d (fdic k2 f2)), some (.m S.length), x1] T := fun T => by simp [fdic]
  rw [ex, e1]
  simp only [kSeq_nx, sSeq_ap]
  rw [ex2, e2]
  simp [fE]
theorem s8 (k1 k2 : List Key) (f1 f2 : Key → C3) (h1 : k1.length ≤ 500) (h2 : k2.length ≤ 500) (p1 : ∀ r, (f1 r).pos) (p2 : ∀ r, (f2 r).pos) :
    callF (tb (k + 3) 8) [.d (fdic k1 f1), .d (fdic k2 f2)] S = .ok (.d (fdic (fE k1 k2 f1 f2).1 (fE k1 k2 f1 f2).2)) S := by
  rw [callF, t_8]
  have e := runE (k := k) (S := S) (b := S.length) k1 k2 f1 f2 h1 h2 p1 p2
  show fin S.length (B8 (tb (k + 2)) ⟨S.length, [some (.d (fdic k1 f1)), some (.d (fdic k2 f2)), none, none]⟩ S).res = _
  rw [e]
  exact fin_m _ _
theorem s31 (k1 k2 : List Key) (f1 f2 : Key → C3) (h1 : k1.length ≤ 500) (h2 : k2.length ≤ 500) (p1 : ∀ r, (f1 r).pos) (p2 : ∀ r, (f2 r).pos) :
    callK (tb (k + 3) 31) [.d (fdic k1 f1), .d (fdic k2 f2)] S = .ok (.m S.length) (S ++ [mdic (fE k1 k2 f1 f2).1 (fE k1 k2 f1 f2).2]) := by
  rw [callK, t_31]
  have e := runE (k := k) (S := S) (b := S.length) k1 k2 f1 f2 h1 h2 p1 p2
  show finK S.length (B8 (tb (k + 2)) ⟨S.length, [some (.d (fdic k1 f1)), some (.d (fdic k2 f2)), none, none]⟩ S).res = _
  rw [e]
  rfl
/-! ### without, boxed_counts -/
def wo (lv : Int) (ks : List Key) : List Key := ks.filter fun r => decide (r ≠ .inl lv)
theorem ne_lv (T : Sto) (r : Key) (lv : Int) : opNe T (keyS r) (.d (.int lv)) = some (.bl (decide (r ≠ .inl lv))) := by
  cases r with
  | inl i => simp [keyD]; rfl
  | inr s => simp [keyD]; rfl
theorem dcW (T : Sto) (ks : List Key) (f : Key → C3) (lv : Int) (hl : ks.length ≤ 500) (nd : ks.Nodup) : dcL (gNm 2) (T10_0 (tb k)) (K10_0 (tb k)) (E10_0 (tb k)) T.length (wipeE [some (.d (fdic ks f)), some (.d (.int lv)), none] [2]) (ks.map keyS) (T ++ [.dic [] []]) = .ok (.m T.length) (T ++ [mdic (wo lv ks) f]) := by
  have e := dcL_A (tg := gNm 2) (tt := T10_0 (tb k)) (tk := K10_0 (tb k)) (tv := E10_0 (tb k)) (b := T.length) (ve := wipeE [some (.d (fdic ks f)), some (.d (.int lv)), none] [2]) (fun r => decide (r ≠ .inl lv)) (fun r => (f r).v) (B := T) rfl ks [] [] rfl (most_pos _ (by simp; omega)) nd (by simp) fun r hr T2 => by
    refine ⟨_, rfl, ?_, fun _ => ⟨?_, ?_⟩⟩
    · have h := ne_lv T2 r lv
      simp [T10_0, wipeE] at h ⊢
      rw [h]
      simp
    · simp [K10_0, wipeE]
    · have h := ix_f T2 ks f r hr
      simp [E10_0, wipeE, h]
  simp only [List.map_nil, List.nil_append] at e
  rw [e]
  rfl
theorem s10 (ks : List Key) (f : Key → C3) (lv : Int) (hl : ks.length ≤ 500) (nd : ks.Nodup) : callF (tb (k + 1) 10) [.d (fdic ks f), .d (.int lv)] S = .ok (.d (fdic (wo lv ks) f)) S := by
  rw [callF, t_10]
  have e : B10 (tb k) ⟨S.length, [some (.d (fdic ks f)), some (.d (.int lv)), none]⟩ S = .rt (.d (fdic (wo lv ks) f)) S := by
    have h := dcW (k := k) S ks f lv hl nd
    have h2 : dcAll fin [2] (gNm 2) (T10_0 (tb k)) (K10_0 (tb k)) (E10_0 (tb k)) [some (.d (fdic ks f)), some (.d (.int lv)), none] (ks.map keyS) S = .ok (.d (fdic (wo lv ks) f)) S := by
      unfold dcAll
      rw [h]
      exact fin_m _ _
    have h3 : eDc [2] (eVar 0) (gNm 2) (T10_0 (tb k)) (K10_0 (tb k)) (E10_0 (tb k)) ⟨S.length, [some (.d (fdic ks f)), some (.d (.int lv)), none]⟩ S = .ok (.d (fdic (wo lv ks) f)) S := h2
    unfold B10
    rw [sRet_ap, h3]
    rfl
  show fin S.length (B10 (tb k) ⟨S.length, [some (.d (fdic ks f)), some (.d (.int lv)), none]⟩ S).res = _
  rw [e]
  simp
theorem s32 (ks : List Key) (f : Key → C3) (lv : Int) (hl : ks.length ≤ 500) (nd : ks.Nodup) : callK (tb (k + 1) 32) [.d (fdic ks f), .d (.int lv)] S = .ok (.m S.length) (S ++ [mdic (wo lv ks) f]) := by
  rw [callK, t_32]
  have e : B32 (tb k) ⟨S.length, [some (.d (fdic ks f)), some (.d (.int lv)), none]⟩ S = .rt (.m S.length) (S ++ [mdic (wo lv ks) f]) := by
    have h := dcW (k := k) S ks f lv hl nd
    have h2 : dcAll finK [2] (gNm 2) (T32_0 (tb k)) (K32_0 (tb k)) (E32_0 (tb k)) [some (.d (fdic ks f)), some (.d (.int lv)), none] (ks.map keyS) S = .ok (.m S.length) (S ++ [mdic (wo lv ks) f]) := by
      unfold dcAll
      exact congrArg (finK S.length) h
    have h3 : eDcK [2] (eVar 0) (gNm 2) (T32_0 (tb k)) (K32_0 (tb k)) (E32_0 (tb k)) ⟨S.length, [some (.d (fdic ks f)), some (.d (.int lv)), none]⟩ S = .ok (.m S.length) (S ++ [mdic (wo lv ks) f]) := h2
    unfold B32
    rw [sRet_ap, h3]
    rfl
  show finK S.length (B32 (tb k) ⟨S.length, [some (.d (fdic ks f)), some (.d (.int lv)), none]⟩ S).res = _
  rw [e]
  rfl
theorem s9 (ks : List Key) (f : Key → C3) (m : Kd) (hm : m.ok) (hl : ks.length ≤ 500) (nd : ks.Nodup) : callF (tb (k + 3) 9) [.d (fdic ks f), .d m.d] S = .ok (.d (fdic ks fun r => (f r).box m)) S := by
  rw [callF, t_9]
  have e : B9 (tb (k + 2)) ⟨S.length, [some (.d (fdic ks f)), some (.d m.d), none]⟩ S = .rt (.d (fdic ks fun r => (f r).box m)) S := by
    have h2 : dcAll fin [2] (gNm 2) tYs (K9_0 (tb (k + 2))) (E9_0 (tb (k + 2))) [some (.d (fdic ks f)), some (.d m.d), none] (ks.map keyS) S = .ok (.d (fdic ks fun r => (f r).box m)) S := by
      rw [dcAll_A (fun _ => true) (fun r => ((f r).box m).v) S ks (most_pos _ (by omega)) nd fun r hr T2 => ⟨_, rfl, rfl, fun _ => ⟨by simp [K9_0, wipeE], by
        have h := ix_f T2 ks f r hr
        have h' := s4 (k := k) (S := T2) (f r) m hm
        simp [E9_0, wipeE, h, h']⟩⟩, all_filter]
      rfl
    have h3 : eDc [2] (eVar 0) (gNm 2) tYs (K9_0 (tb (k + 2))) (E9_0 (tb (k + 2))) ⟨S.length, [some (.d (fdic ks f)), some (.d m.d), none]⟩ S = .ok (.d (fdic ks fun r => (f r).box m)) S := h2
    unfold B9
    rw [sRet_ap, h3]
    rfl
  show fin S.length (B9 (tb (k + 2)) ⟨S.length, [some (.d (fdic ks f)), some (.d m.d), none]⟩ S).res = _
  rw [e]
  simp
end
end Lw

set_option Elab.async false
set_option linter.all false
set_option maxRecDepth 100000
namespace Lw
open PySem L2 Ev
def below (lv : Int) : Key → Bool
  | .inr _ => true
  | .inl i => decide (i < lv)
def Tr.occ : Tr → Key → Bool
  | .own q, r => decide (q = r) | .cite _, _ => false | .take b, r => b.occ r | .offer a b, r => a.occ r || b.occ r | .pick q _ b, r => decide (q = r) || b.occ r | .pay q _ a b, r => decide (q = r) || a.occ r || b.occ r
  | .make _ _ b, r => b.occ r | .opn q _ _ b, r => decide (q = r) || b.occ r | .cut _ _ a b, r => a.occ r || b.occ r
def onep (q r : Key) : C3 := if q = r then .one else .zero
def boxo (a : Tr) (m : Kd) (x : C3) (r : Key) : C3 := if a.occ r = true then x.box m else .zero
def Tr.cn : Tr → Key → C3
  | .own q, r => onep q r | .cite _, _ => .zero | .take b, r => b.cn r | .offer a b, r => (a.cn r).alt (b.cn r) | .pick q _ b, r => (onep q r).add (b.cn r)
  | .pay q m a b, r => ((onep q r).add (boxo a m (a.cn r) r)).add (b.cn r)
  | .make _ _ b, r => b.cn r | .opn q _ _ b, r => (onep q r).add (b.cn r) | .cut m _ a b, r => (boxo a m (a.cn r) r).add (b.cn r)
theorem one_pos : C3.one.pos := ⟨by decide, by decide, by decide⟩
theorem onep_pos (q r : Key) : (onep q r).pos := by unfold onep; split; exact one_pos; exact zero_pos
theorem boxo_pos {a : Tr} {m : Kd} {x : C3} (r : Key) (h : x.pos) (hm : m.ok) : (boxo a m x r).pos := by unfold boxo; split; exact box_pos h hm; exact zero_pos
theorem cn_pos : ∀ (t : Tr) (lv : Int) (r : Key), t.wf lv → (t.cn r).pos := by
  intro t
  induction t with
  | own q => intro lv r _; exact onep_pos q r
  | cite n => intro lv r _; exact zero_pos
  | take b ih => intro lv r h; exact ih _ r h
  | offer a b iha ihb => intro lv r h; exact alt_pos (iha _ r h.1) (ihb _ r h.2)
  | pick q s b ih => intro lv r h; exact add_pos (onep_pos q r) (ih _ r h.2)
  | pay q m a b iha ihb => intro lv r h; exact add_pos (add_pos (onep_pos q r) (boxo_pos r (iha _ r h.2.2.1) h.2.1)) (ihb _ r h.2.2.2)
  | make n i b ih => intro lv r h; exact ih _ r h
  | opn q n i b ih => intro lv r h; exact add_pos (onep_pos q r) (ih _ r h.2)
  | cut m n a b iha ihb => intro lv r h; exact add_pos (boxo_pos r (iha _ r h.2.1) h.1) (ihb _ r h.2.2)
theorem zero_add {x : C3} (h : x.pos) : C3.zero.add x = x := by
  obtain ⟨a, b, c⟩ := h
  cases x
  simp only [C3.add, C3.zero, C3.mk.injEq] at *
  omega
theorem add_zero {x : C3} (h : x.pos) : x.add .zero = x := by
  obtain ⟨a, b, c⟩ := h
  cases x
  simp only [C3.add, C3.zero, C3.mk.injEq] at *
  omega
theorem zz : C3.zero.add .zero = .zero := rfl
theorem cn_zero : ∀ (t : Tr) (r : Key), t.occ r = false → t.cn r = .zero := by
  intro t r
  induction t with
  | own q => intro h; simp [Tr.occ] at h; simp [Tr.cn, onep, h]
  | cite n => intro _; rfl
  | take b ih => exact ih
  | offer a b iha ihb => intro h; simp [Tr.occ] at h; simp [Tr.cn, iha h.1, ihb h.2]; rfl
  | pick q s b ih => intro h; simp [Tr.occ] at h; simp [Tr.cn, onep, h.1, ih h.2, zz]
  | pay q m a b iha ihb => intro h; simp [Tr.occ] at h; simp [Tr.cn, onep, boxo, h.1, ihb h.2, zz]
  | make n i b ih => exact ih
  | opn q n i b ih => intro h; simp [Tr.occ] at h; simp [Tr.cn, onep, h.1, ih h.2, zz]
  | cut m n a b iha ihb => intro h; simp [Tr.occ] at h; simp [Tr.cn, boxo, h.1, ihb h.2, zz]
theorem alt_comm0 (x : C3) : x.alt .zero = C3.zero.alt x := by cases x; simp only [C3.alt, C3.zero, C3.mk.injEq]; omega
/-! what added and either give -/
theorem fA_mem {k1 k2 : List Key} {f1 f2 : Key → C3} {r : Key} : r ∈ (fA k1 k2 f1 f2).1 ↔ r ∈ k1 ∨ r ∈ k2 := by
  unfold fA
  rw [fill_mem, fill_mem]
  simp
theorem fA_nd (k1 k2 : List Key) (f1 f2 : Key → C3) : (fA k1 k2 f1 f2).1.Nodup := fill_nd _ _ _ (fill_nd _ _ _ List.nodup_nil)
theorem fA_len (k1 k2 : List Key) (f1 f2 : Key → C3) : (fA k1 k2 f1 f2).1.length ≤ k1.length + k2.length := by
  have h1 := fill_len (gA1 f1) k1 ([], fun _ => .zero)
  have h2 := fill_len (gA2 f2) k2 (fillS (gA1 f1) k1 ([], fun _ => .zero))
  unfold fA
  simp only [List.length_nil] at h1
  omega
theorem fE_mem {k1 k2 : List Key} {f1 f2 : Key → C3} {r : Key} : r ∈ (fE k1 k2 f1 f2).1 ↔ r ∈ k1 ∨ r ∈ k2 := by
  unfold fE
  rw [fill_mem, fill_mem, List.mem_filter]
  by_cases h : r ∈ k1
  · simp [h]
  · have : hasK r k1 = false := by simpa using fun z => h (hasK_iff.mp z)
    simp [h, this]
theorem fE_nd (k1 k2 : List Key) (f1 f2 : Key → C3) : (fE k1 k2 f1 f2).1.Nodup := fill_nd _ _ _ (fill_nd _ _ _ List.nodup_nil)
theorem fE_len (k1 k2 : List Key) (f1 f2 : Key → C3) : (fE k1 k2 f1 f2).1.length ≤ k1.length + k2.length := by
  have h1 := fill_len (gE1 k2 f1 f2) k1 ([], fun _ => .zero)
  have h2 := fill_len (gE2 f2) (k2.filter fun r => !hasK r k1) (fillS (gE1 k2 f1 f2) k1 ([], fun _ => .zero))
  have h3 := List.length_filter_le (fun r => !hasK r k1) k2
  unfold fE
  simp only [List.length_nil] at h1
  omega
theorem at0_of {ks : List Key} {f : Key → C3} {r : Key} (h : r ∈ ks) : at0 ks f r = f r := if_pos (hasK_iff.mpr h)
theorem at0_not {ks : List Key} {f : Key → C3} {r : Key} (h : r ∉ ks) : at0 ks f r = .zero := if_neg fun z => h (hasK_iff.mp z)
theorem fA_val {k1 k2 : List Key} {f1 f2 : Key → C3} {r : Key} (n1 : k1.Nodup) (n2 : k2.Nodup) (p1 : (f1 r).pos) (p2 : (f2 r).pos) (h : r ∈ k1 ∨ r ∈ k2) : (fA k1 k2 f1 f2).2 r = (at0 k1 f1 r).add (at0 k2 f2 r) := by
  have c1 : ∀ ks ks' f f', (r ∈ ks ↔ r ∈ ks') → f r = f' r → gA1 f1 ks f r = gA1 f1 ks' f' r := fun _ _ _ _ _ _ => rfl
  have c2 : ∀ ks ks' f f', (r ∈ ks ↔ r ∈ ks') → f r = f' r → gA2 f2 ks f r = gA2 f2 ks' f' r := fun ks ks' f f' h1 h2 => by
    unfold gA2
    rw [h2]
    by_cases z : r ∈ ks
    · rw [if_pos (hasK_iff.mpr z), if_pos (hasK_iff.mpr (h1.mp z))]
    · rw [if_neg fun y => z (hasK_iff.mp y), if_neg fun y => z (h1.mpr (hasK_iff.mp y))]
  unfold fA
  by_cases h2 : r ∈ k2
  · rw [fill_val c2 k2 _ h2 n2, at0_of h2]
    unfold gA2
    by_cases h1 : r ∈ k1
    · rw [if_pos (hasK_iff.mpr ((fill_mem _ _ _).mpr (.inr h1))), fill_val c1 k1 _ h1 n1, at0_of h1]
      rfl
    · rw [if_neg fun y => ((fill_mem _ _ _).mp (hasK_iff.mp y)).elim (by simp) h1, at0_not h1, zero_add p2]
  · have h1 := h.resolve_right h2
    rw [fill_not _ _ _ h2, fill_val c1 k1 _ h1 n1, at0_of h1, at0_not h2, add_zero p1]
    rfl
theorem fE_val {k1 k2 : List Key} {f1 f2 : Key → C3} {r : Key} (n1 : k1.Nodup) (n2 : k2.Nodup) (h : r ∈ k1 ∨ r ∈ k2) : (fE k1 k2 f1 f2).2 r = (at0 k1 f1 r).alt (at0 k2 f2 r) := by
  have c1 : ∀ ks ks' f f', (r ∈ ks ↔ r ∈ ks') → f r = f' r → gE1 k2 f1 f2 ks f r = gE1 k2 f1 f2 ks' f' r := fun _ _ _ _ _ _ => rfl
  have c2 : ∀ ks ks' f f', (r ∈ ks ↔ r ∈ ks') → f r = f' r → gE2 f2 ks f r = gE2 f2 ks' f' r := fun _ _ _ _ _ _ => rfl
  unfold fE
  by_cases h1 : r ∈ k1
  · rw [fill_not _ _ _ (fun z => by simp [hasK_iff.mpr h1] at z), fill_val c1 k1 _ h1 n1, at0_of h1]
    rfl
  · have h2 := h.resolve_left h1
    have hn : (!hasK r k1) = true := by simpa using fun z => h1 (hasK_iff.mp z)
    rw [fill_val c2 _ _ (List.mem_filter.mpr ⟨h2, hn⟩) (n2.filter _), at0_not h1, at0_of h2]
    exact alt_comm0 _
theorem fdic_congr {ks : List Key} {f g : Key → C3} (h : ∀ r ∈ ks, f r = g r) : fdic ks f = fdic ks g := by
  unfold fdic
  rw [List.map_congr_left fun r hr => by rw [h r hr]]
theorem mdic_congr {ks : List Key} {f g : Key → C3} (h : ∀ r ∈ ks, f r = g r) : mdic ks f = mdic ks g := by
  unfold mdic
  rw [List.map_congr_left (l := ks) (f := fun r => (f r).v) (g := fun r => (g r).v) fun r hr => by rw [h r hr]]
/-- the keys of t's counts at level lv -/
structure KsOf (t : Tr) (lv : Int) (ks : List Key) : Prop where
  nd : ks.Nodup
  mem : ∀ r, r ∈ ks ↔ t.occ r = true ∧ below lv r = true
  len : ks.length ≤ t.sz
theorem KsOf.at {t : Tr} {lv : Int} {ks : List Key} (h : KsOf t lv ks) {r : Key} (hr : below lv r = true) : at0 ks t.cn r = t.cn r := by
  by_cases z : t.occ r = true
  · exact at0_of ((h.mem r).mpr ⟨z, hr⟩)
  · rw [at0_not fun y => z ((h.mem r).mp y).1, cn_zero t r (by simpa using z)]
theorem KsOf.atB {t : Tr} {lv : Int} {ks : List Key} (h : KsOf t lv ks) {m : Kd} {r : Key} (hr : below lv r = true) : at0 ks (fun q => (t.cn q).box m) r = boxo t m (t.cn r) r := by
  unfold boxo
  by_cases z : t.occ r = true
  · rw [if_pos z]; exact at0_of ((h.mem r).mpr ⟨z, hr⟩)
  · rw [if_neg z]; exact at0_not fun y => z ((h.mem r).mp y).1
theorem below_wo {lv : Int} {r : Key} : below (lv + 1) r = true ∧ r ≠ .inl lv ↔ below lv r = true := by
  cases r with
  | inr s => simp [below]
  | inl i =>
    simp only [below, decide_eq_true_eq, ne_eq, Sum.inl.injEq]
    omega
theorem mem_wo {lv : Int} {ks : List Key} {r : Key} : r ∈ wo lv ks ↔ r ∈ ks ∧ r ≠ .inl lv := by simp [wo, List.mem_filter]
/-- the body's keys without its own hold -/
theorem KsOf.body {t : Tr} {lv : Int} {ks : List Key} (h : KsOf t (lv + 1) ks) : KsOf t lv (wo lv ks) :=
  ⟨h.nd.filter _, fun r => by rw [mem_wo, h.mem, and_assoc, below_wo], Nat.le_trans (List.length_filter_le _ _) h.len⟩
theorem inL_below {lv : Int} {r : Key} (h : inL lv r) : below lv r = true := by
  cases r with
  | inr s => rfl
  | inl i => simpa [below] using h.2
end Lw

set_option Elab.async false
set_option linter.all false
set_option maxRecDepth 100000
namespace Lw
open PySem L2 Ev
section
variable {lv : Int}
theorem ks_one {q : Key} (h : inL lv q) : ∀ r, r ∈ [q] → below lv r = true := fun r hr => by rw [List.mem_singleton] at hr; subst hr; exact inL_below h
theorem at_one (q r : Key) : at0 [q] (fun _ => C3.one) r = onep q r := by
  unfold at0 onep
  by_cases h : q = r <;> simp [h]
theorem zsz (t : Tr) : 1 ≤ t.sz := by cases t <;> simp [Tr.sz]
/-- added of pairs that are told by the counts of references below lv -/
theorem add_ok {k1 k2 : List Key} {f1 f2 g : Key → C3} (n1 : k1.Nodup) (n2 : k2.Nodup) (p1 : ∀ r, (f1 r).pos) (p2 : ∀ r, (f2 r).pos) (b1 : ∀ r ∈ k1, below lv r = true) (b2 : ∀ r ∈ k2, below lv r = true)
    (hg : ∀ r, below lv r = true → (at0 k1 f1 r).add (at0 k2 f2 r) = g r) : ∀ r ∈ (fA k1 k2 f1 f2).1, (fA k1 k2 f1 f2).2 r = g r := fun r hr => by
  have h := fA_mem.mp hr
  rw [fA_val n1 n2 (p1 r) (p2 r) h]
  exact hg r (h.elim (b1 r) (b2 r))
theorem ks_below {t : Tr} {ks : List Key} (h : KsOf t lv ks) : ∀ r ∈ ks, below lv r = true := fun r hr => ((h.mem r).mp hr).2
end
/-- what counts tells -/
def CntOk (t : Tr) (lv : Int) (ks : List Key) : Prop := KsOf t lv ks ∧ (∀ (k : Nat) (S : Sto), t.sz + 4 ≤ k → callF (tb k 11) [.d t.d, .d (.int lv)] S = .ok (.d (fdic ks t.cn)) S) ∧
  ∀ (k : Nat) (S : Sto), t.sz + 4 ≤ k → callK (tb k 33) [.d t.d, .d (.int lv)] S = .ok (.m S.length) (S ++ [mdic ks t.cn])
theorem one_v : (C3.v ⟨1, 1, 0⟩) = C3.one.v := rfl
theorem keyK (q : Key) (S : Sto) : (view S (keyS q)).bind kOf = some q := by cases q <;> rfl
theorem dMg_key (S : Sto) (q : Key) (y : SV) (r : List (SV × SV)) (ks : List Key) (xs : List SV) : dMg S ((keyS q, y) :: r) ks xs = dMg S r (dPut q y ks xs).1 (dPut q y ks xs).2 := by cases q <;> rfl
theorem fin_one {S : Sto} (q : Key) (x : C3) : fin S.length (.ok (.m S.length) (S ++ [.dic [q] [.d x.v]])) = .ok (.d (fdic [q] fun _ => x)) S := fin_m [q] fun _ => x
theorem fin_d {S : Sto} (n : Nat) (x : Dv) (h : n = S.length) : fin n (.ok (.d x) S) = .ok (.d x) S := by subst h; simp
theorem cnt_own (q : Key) (lv : Int) (h : inL lv q) : CntOk (.own q) lv [q] := by
  have hc : ∀ r ∈ [q], (fun _ => C3.one) r = (Tr.own q).cn r := fun r hr => by rw [List.mem_singleton] at hr; subst hr; simp [Tr.cn, onep]
  refine ⟨⟨by simp, fun r => ?_, by simp [Tr.sz]⟩, fun k S hk => ?_, fun k S hk => ?_⟩
  · rw [List.mem_singleton]
    simp only [Tr.occ, decide_eq_true_eq]
    exact ⟨fun e => by subst e; exact ⟨rfl, inL_below h⟩, fun e => e.1.symm⟩
  · obtain ⟨k, rfl⟩ : ∃ k', k = k' + 2 := ⟨k - 2, by simp [Tr.sz] at hk; omega⟩
    rw [callF, t_11, ← fdic_congr hc]
    have h1 : ∀ T, _ := fun T => s1 (k := k) (S := T) 1 1 0
    simp [one_v] at h1
    simp [runF, B11, Tr.d, h1, dMg_key, fin_one]
  · obtain ⟨k, rfl⟩ : ∃ k', k = k' + 2 := ⟨k - 2, by simp [Tr.sz] at hk; omega⟩
    rw [callK, t_33, ← mdic_congr hc]
    have h1 : ∀ T, _ := fun T => s1 (k := k) (S := T) 1 1 0
    simp [one_v] at h1
    simp [runF, B33, Tr.d, h1, dMg_key, mdic]
theorem cnt_cite (n : Str) (lv : Int) : CntOk (.cite n) lv [] := by
  refine ⟨⟨by simp, fun r => by simp [Tr.occ], by simp⟩, fun k S hk => ?_, fun k S hk => ?_⟩
  · obtain ⟨k, rfl⟩ : ∃ k', k = k' + 2 := ⟨k - 2, by simp [Tr.sz] at hk; omega⟩
    rw [callF, t_11]
    simp [runF, B11, Tr.d, fdic]
  · obtain ⟨k, rfl⟩ : ∃ k', k = k' + 2 := ⟨k - 2, by simp [Tr.sz] at hk; omega⟩
    rw [callK, t_33]
    simp [runF, B33, Tr.d, mdic]
theorem cnt_take {b : Tr} {lv : Int} {ks : List Key} (hb : CntOk b (lv + 1) ks) (hs : b.sz ≤ 100) : CntOk (.take b) lv (wo lv ks) := by
  obtain ⟨K, h1, h2⟩ := hb
  have hl := K.len
  have Kb := K.body
  refine ⟨⟨Kb.nd, fun r => Kb.mem r, Nat.le_succ_of_le Kb.len⟩, fun k S hk => ?_, fun k S hk => ?_⟩
  · obtain ⟨k, rfl⟩ : ∃ k', k = k' + 2 := ⟨k - 2, by omega⟩
    rw [callF, t_11]
    have e1 := fun T => h1 (k + 1) T (by simp only [Tr.sz] at hk; omega)
    have e2 := fun T => s10 (k := k) (S := T) ks b.cn lv (by omega) K.nd
    simp [runF, B11, Tr.d, e1, e2]
    rfl
  · obtain ⟨k, rfl⟩ : ∃ k', k = k' + 2 := ⟨k - 2, by omega⟩
    rw [callK, t_33]
    have e1 := fun T => h1 (k + 1) T (by simp only [Tr.sz] at hk; omega)
    have e2 := fun T => s32 (k := k) (S := T) ks b.cn lv (by omega) K.nd
    simp [runF, B33, Tr.d, e1, e2]
    rfl
theorem cnt_make {b : Tr} {n : Str} {i lv : Int} {ks : List Key} (hb : CntOk b lv ks) : CntOk (.make n i b) lv ks := by
  obtain ⟨K, h1, h2⟩ := hb
  refine ⟨⟨K.nd, fun r => K.mem r, Nat.le_succ_of_le K.len⟩, fun k S hk => ?_, fun k S hk => ?_⟩
  · obtain ⟨k, rfl⟩ : ∃ k', k = k' + 2 := ⟨k - 2, by omega⟩
    rw [callF, t_11]
    have e1 := fun T => h1 (k + 1) T (by simp only [Tr.sz] at hk; omega)
    simp [runF, B11, Tr.d, e1]
    rfl
  · obtain ⟨k, rfl⟩ : ∃ k', k = k' + 2 := ⟨k - 2, by omega⟩
    rw [callK, t_33]
    have e1 := fun T => h2 (k + 1) T (by simp only [Tr.sz] at hk; omega)
    simp [runF, B33, Tr.d, e1]
    rfl
theorem cnt_offer {a b : Tr} {lv : Int} {ks ls : List Key} (ha : CntOk a lv ks) (hb : CntOk b lv ls) (wa : a.wf lv) (wb : b.wf lv) (hs : a.sz + b.sz ≤ 100) : CntOk (.offer a b) lv (fE ks ls a.cn b.cn).1 := by
  obtain ⟨K, h1, _⟩ := ha
  obtain ⟨L, h2, _⟩ := hb
  have l1 := K.len
  have l2 := L.len
  have hv : ∀ r ∈ (fE ks ls a.cn b.cn).1, (fE ks ls a.cn b.cn).2 r = (Tr.offer a b).cn r := fun r hr => by
    have h := fE_mem.mp hr
    have hb : below lv r = true := h.elim (ks_below K r) (ks_below L r)
    rw [fE_val K.nd L.nd h, K.at hb, L.at hb]
    rfl
  refine ⟨⟨fE_nd _ _ _ _, fun r => ?_, ?_⟩, fun k S hk => ?_, fun k S hk => ?_⟩
  · rw [fE_mem, K.mem, L.mem]
    simp only [Tr.occ, Bool.or_eq_true]
    exact or_and_right.symm
  · have := fE_len ks ls a.cn b.cn
    simp only [Tr.sz]
    omega
  · obtain ⟨k, rfl⟩ : ∃ k', k = k' + 4 := ⟨k - 4, by omega⟩
    rw [callF, t_11, ← fdic_congr hv]
    simp only [Tr.sz] at hk
    have e1 := fun T => h1 (k + 3) T (by omega)
    have e2 := fun T => h2 (k + 3) T (by omega)
    have e3 := fun T => s8 (k := k) (S := T) ks ls a.cn b.cn (by omega) (by omega) (fun r => cn_pos a lv r wa) (fun r => cn_pos b lv r wb)
    simp [runF, B11, Tr.d, e1, e2, e3]
  · obtain ⟨k, rfl⟩ : ∃ k', k = k' + 4 := ⟨k - 4, by omega⟩
    rw [callK, t_33, ← mdic_congr hv]
    simp only [Tr.sz] at hk
    have e1 := fun T => h1 (k + 3) T (by omega)
    have e2 := fun T => h2 (k + 3) T (by omega)
    have e3 := fun T => s31 (k := k) (S := T) ks ls a.cn b.cn (by omega) (by omega) (fun r => cn_pos a lv r wa) (fun r => cn_pos b lv r wb)
    simp [runF, B33, Tr.d, e1, e2, e3]
theorem cnt_cut {a b : Tr} {m : Kd} {n : Str} {lv : Int} {ks ls : List Key} (ha : CntOk a lv ks) (hb : CntOk b (lv + 1) ls) (hm : m.ok) (wa : a.wf lv) (wb : b.wf (lv + 1)) (hs : a.sz + b.sz ≤ 100) :
    ∃ zs, CntOk (.cut m n a b) lv zs := by
  obtain ⟨K, h1, _⟩ := ha
  obtain ⟨L, h2, _⟩ := hb
  have l1 := K.len
  have l2 := L.len
  have M := L.body
  have l3 := M.len
  have pa : ∀ r, ((a.cn r).box m).pos := fun r => box_pos (cn_pos a lv r wa) hm
  have pb : ∀ r, (b.cn r).pos := fun r => cn_pos b _ r wb
  have hv := add_ok (lv := lv) (g := (Tr.cut m n a b).cn) K.nd M.nd pa pb (ks_below K) (ks_below M) fun r hr => by rw [K.atB hr, M.at hr]; rfl
  refine ⟨_, ⟨fA_nd ks (wo lv ls) (fun r => (a.cn r).box m) b.cn, fun r => ?_, ?_⟩, fun k S hk => ?_, fun k S hk => ?_⟩
  · rw [fA_mem, K.mem, M.mem]
    simp only [Tr.occ, Bool.or_eq_true]
    exact or_and_right.symm
  · have := fA_len ks (wo lv ls) (fun r => (a.cn r).box m) b.cn
    simp only [Tr.sz]
    omega
  · obtain ⟨k, rfl⟩ : ∃ k', k = k' + 4 := ⟨k - 4, by omega⟩
    rw [callF, t_11, ← fdic_congr hv]
    simp only [Tr.sz] at hk
    have e1 := fun T => h1 (k + 3) T (by omega)
    have e2 := fun T => h2 (k + 3) T (by omega)
    have e3 := fun T => s7 (k := k) (S := T) ks (wo lv ls) (fun r => (a.cn r).box m) b.cn (by omega) (by omega) pa pb
    have e4 := fun T => s9 (k := k) (S := T) ks a.cn m hm (by omega) K.nd
    have e5 := fun T => s10 (k := k + 2) (S := T) ls b.cn lv (by omega) L.nd
    simp [runF, B11, Tr.d, e1, e2, e3, e4, e5]
  · obtain ⟨k, rfl⟩ : ∃ k', k = k' + 4 := ⟨k - 4, by omega⟩
    rw [callK, t_33, ← mdic_congr hv]
    simp only [Tr.sz] at hk
    have e1 := fun T => h1 (k + 3) T (by omega)
    have e2 := fun T => h2 (k + 3) T (by omega)
    have e3 := fun T => s30 (k := k) (S := T) ks (wo lv ls) (fun r => (a.cn r).box m) b.cn (by omega) (by omega) pa pb
    have e4 := fun T => s9 (k := k) (S := T) ks a.cn m hm (by omega) K.nd
    have e5 := fun T => s10 (k := k + 2) (S := T) ls b.cn lv (by omega) L.nd
    simp [runF, B33, Tr.d, e1, e2, e3, e4, e5]
end Lw

set_option Elab.async false
set_option linter.all false
set_option maxRecDepth 100000
namespace Lw
open PySem L2 Ev
theorem cnt_pick {b : Tr} {q : Key} {s : Str} {lv : Int} {ls : List Key} (hb : CntOk b (lv + 1) ls) (hq : inL lv q) (wb : b.wf (lv + 1)) (hs : b.sz ≤ 100) :
    ∃ zs, CntOk (.pick q s b) lv zs := by
  obtain ⟨L, h2, _⟩ := hb
  have l2 := L.len
  have M := L.body
  have l3 := M.len
  have pa : ∀ _ : Key, C3.one.pos := fun _ => one_pos
  have pb : ∀ r, (b.cn r).pos := fun r => cn_pos b _ r wb
  have hv := add_ok (lv := lv) (g := (Tr.pick q s b).cn) (k1 := [q]) (f1 := fun _ => C3.one) (by simp) M.nd pa pb (ks_one hq) (ks_below M) fun r hr => by rw [at_one, M.at hr]; rfl
  refine ⟨_, ⟨fA_nd [q] (wo lv ls) (fun _ => C3.one) b.cn, fun r => ?_, ?_⟩, fun k S hk => ?_, fun k S hk => ?_⟩
  · rw [fA_mem, M.mem, List.mem_singleton]
    simp only [Tr.occ, Bool.or_eq_true, decide_eq_true_eq]
    constructor
    · rintro (h | h)
      · subst h; exact ⟨.inl rfl, inL_below hq⟩
      · exact ⟨.inr h.1, h.2⟩
    · rintro ⟨h | h, h'⟩
      · exact .inl h.symm
      · exact .inr ⟨h, h'⟩
  · have := fA_len [q] (wo lv ls) (fun _ => C3.one) b.cn
    simp only [Tr.sz, List.length_cons, List.length_nil] at *
    omega
  · obtain ⟨k, rfl⟩ : ∃ k', k = k' + 4 := ⟨k - 4, by omega⟩
    rw [callF, t_11, ← fdic_congr hv]
    simp only [Tr.sz] at hk
    have h1 : ∀ T, _ := fun T => s1 (k := k + 2) (S := T) 1 1 0
    simp [one_v] at h1
    have e2 := fun T => h2 (k + 3) T (by omega)
    have e3 := fun T => s7 (k := k) (S := T) [q] (wo lv ls) (fun _ => C3.one) b.cn (by simp) (by omega) pa pb
    have e5 := fun T => s10 (k := k + 2) (S := T) ls b.cn lv (by omega) L.nd
    simp [runF, B11, Tr.d, h1, e2, e3, e5, dMg_key, fin_one]
  · obtain ⟨k, rfl⟩ : ∃ k', k = k' + 4 := ⟨k - 4, by omega⟩
    rw [callK, t_33, ← mdic_congr hv]
    simp only [Tr.sz] at hk
    have h1 : ∀ T, _ := fun T => s1 (k := k + 2) (S := T) 1 1 0
    simp [one_v] at h1
    have e2 := fun T => h2 (k + 3) T (by omega)
    have e3 := fun T => s30 (k := k) (S := T) [q] (wo lv ls) (fun _ => C3.one) b.cn (by simp) (by omega) pa pb
    have e5 := fun T => s10 (k := k + 2) (S := T) ls b.cn lv (by omega) L.nd
    simp [runF, B33, Tr.d, h1, e2, e3, e5, dMg_key, fin_one]
theorem cnt_opn {b : Tr} {q : Key} {n : Str} {i : Int} {lv : Int} {ls : List Key} (hb : CntOk b (lv + 1) ls) (hq : inL lv q) (wb : b.wf (lv + 1)) (hs : b.sz ≤ 100) :
    ∃ zs, CntOk (.opn q n i b) lv zs := by
  obtain ⟨L, h2, _⟩ := hb
  have l2 := L.len
  have M := L.body
  have l3 := M.len
  have pa : ∀ _ : Key, C3.one.pos := fun _ => one_pos
  have pb : ∀ r, (b.cn r).pos := fun r => cn_pos b _ r wb
  have hv := add_ok (lv := lv) (g := (Tr.opn q n i b).cn) (k1 := [q]) (f1 := fun _ => C3.one) (by simp) M.nd pa pb (ks_one hq) (ks_below M) fun r hr => by rw [at_one, M.at hr]; rfl
  refine ⟨_, ⟨fA_nd [q] (wo lv ls) (fun _ => C3.one) b.cn, fun r => ?_, ?_⟩, fun k S hk => ?_, fun k S hk => ?_⟩
  · rw [fA_mem, M.mem, List.mem_singleton]
    simp only [Tr.occ, Bool.or_eq_true, decide_eq_true_eq]
    constructor
    · rintro (h | h)
      · subst h; exact ⟨.inl rfl, inL_below hq⟩
      · exact ⟨.inr h.1, h.2⟩
    · rintro ⟨h | h, h'⟩
      · exact .inl h.symm
      · exact .inr ⟨h, h'⟩
  · have := fA_len [q] (wo lv ls) (fun _ => C3.one) b.cn
    simp only [Tr.sz, List.length_cons, List.length_nil] at *
    omega
  · obtain ⟨k, rfl⟩ : ∃ k', k = k' + 4 := ⟨k - 4, by omega⟩
    rw [callF, t_11, ← fdic_congr hv]
    simp only [Tr.sz] at hk
    have h1 : ∀ T, _ := fun T => s1 (k := k + 2) (S := T) 1 1 0
    simp [one_v] at h1
    have e2 := fun T => h2 (k + 3) T (by omega)
    have e3 := fun T => s7 (k := k) (S := T) [q] (wo lv ls) (fun _ => C3.one) b.cn (by simp) (by omega) pa pb
    have e5 := fun T => s10 (k := k + 2) (S := T) ls b.cn lv (by omega) L.nd
    simp [runF, B11, Tr.d, h1, e2, e3, e5, dMg_key, fin_one]
  · obtain ⟨k, rfl⟩ : ∃ k', k = k' + 4 := ⟨k - 4, by omega⟩
    rw [callK, t_33, ← mdic_congr hv]
    simp only [Tr.sz] at hk
    have h1 : ∀ T, _ := fun T => s1 (k := k + 2) (S := T) 1 1 0
    simp [one_v] at h1
    have e2 := fun T => h2 (k + 3) T (by omega)
    have e3 := fun T => s30 (k := k) (S := T) [q] (wo lv ls) (fun _ => C3.one) b.cn (by simp) (by omega) pa pb
    have e5 := fun T => s10 (k := k + 2) (S := T) ls b.cn lv (by omega) L.nd
    simp [runF, B33, Tr.d, h1, e2, e3, e5, dMg_key, fin_one]
theorem cnt_pay {a b : Tr} {q : Key} {m : Kd} {lv : Int} {ks ls : List Key} (ha : CntOk a lv ks) (hb : CntOk b (lv + 1) ls) (hq : inL lv q) (hm : m.ok) (wa : a.wf lv) (wb : b.wf (lv + 1)) (hs : a.sz + b.sz ≤ 100) :
    ∃ zs, CntOk (.pay q m a b) lv zs := by
  obtain ⟨K, h1, _⟩ := ha
  obtain ⟨L, h2, _⟩ := hb
  have l1 := K.len
  have l2 := L.len
  have M := L.body
  have l3 := M.len
  have pa : ∀ r, ((a.cn r).box m).pos := fun r => box_pos (cn_pos a lv r wa) hm
  have p1 : ∀ _ : Key, C3.one.pos := fun _ => one_pos
  have pb : ∀ r, (b.cn r).pos := fun r => cn_pos b _ r wb
  -- the first sum
  let g : Key → C3 := fun r => (onep q r).add (boxo a m (a.cn r) r)
  have pg : ∀ r, (g r).pos := fun r => add_pos (onep_pos q r) (boxo_pos r (cn_pos a lv r wa) hm)
  have hv1 := add_ok (lv := lv) (g := g) (k1 := [q]) (f1 := fun _ => C3.one) (by simp) K.nd p1 pa (ks_one hq) (ks_below K) fun r hr => by rw [at_one, K.atB hr]
  let zs := (fA [q] ks (fun _ => C3.one) fun r => (a.cn r).box m).1
  have zn : zs.Nodup := fA_nd _ _ _ _
  have zm : ∀ r, r ∈ zs ↔ r = q ∨ r ∈ ks := fun r => by rw [show (r ∈ zs) = (r ∈ (fA [q] ks (fun _ => C3.one) fun r => (a.cn r).box m).1) from rfl, fA_mem, List.mem_singleton]
  have zl : zs.length ≤ 1 + ks.length := fA_len [q] ks _ _
  have zb : ∀ r ∈ zs, below lv r = true := fun r hr => ((zm r).mp hr).elim (fun e => by subst e; exact inL_below hq) (ks_below K r)
  have zg : ∀ r, below lv r = true → at0 zs g r = g r := fun r hr => by
    by_cases z : r ∈ zs
    · exact at0_of z
    · rw [at0_not z]
      have z' := fun h => z ((zm r).mpr h)
      have o : a.occ r = false := by
        cases h : a.occ r with
        | false => rfl
        | true => exact absurd (.inr ((K.mem r).mpr ⟨h, hr⟩)) z'
      have nq : q ≠ r := fun e => z' (.inl e.symm)
      simp [g, onep, boxo, nq, o, zz]
  have hv2 := add_ok (lv := lv) (g := (Tr.pay q m a b).cn) zn M.nd pg pb zb (ks_below M) fun r hr => by rw [zg r hr, M.at hr]; rfl
  refine ⟨_, ⟨fA_nd zs (wo lv ls) g b.cn, fun r => ?_, ?_⟩, fun k S hk => ?_, fun k S hk => ?_⟩
  · rw [fA_mem, M.mem, zm, K.mem]
    simp only [Tr.occ, Bool.or_eq_true, decide_eq_true_eq]
    constructor
    · rintro ((h | h) | h)
      · subst h; exact ⟨.inl (.inl rfl), inL_below hq⟩
      · exact ⟨.inl (.inr h.1), h.2⟩
      · exact ⟨.inr h.1, h.2⟩
    · rintro ⟨(h | h) | h, h'⟩
      · exact .inl (.inl h.symm)
      · exact .inl (.inr ⟨h, h'⟩)
      · exact .inr ⟨h, h'⟩
  · have := fA_len zs (wo lv ls) g b.cn
    simp only [Tr.sz] at *
    omega
  · obtain ⟨k, rfl⟩ : ∃ k', k = k' + 4 := ⟨k - 4, by omega⟩
    rw [callF, t_11, ← fdic_congr hv2]
    simp only [Tr.sz] at hk
    have h0 : ∀ T, _ := fun T => s1 (k := k + 2) (S := T) 1 1 0
    simp [one_v] at h0
    have e1 := fun T => h1 (k + 3) T (by omega)
    have e2 := fun T => h2 (k + 3) T (by omega)
    have e3 := fun T => s7 (k := k) (S := T) [q] ks (fun _ => C3.one) (fun r => (a.cn r).box m) (by simp) (by omega) p1 pa
    have e3' : ∀ T, callF (tb (k + 3) 7) [.d (fdic [q] fun _ => C3.one), .d (fdic ks fun r => (a.cn r).box m)] T = .ok (.d (fdic zs g)) T := fun T => by rw [e3 T, fdic_congr hv1]
    have e4 := fun T => s9 (k := k) (S := T) ks a.cn m hm (by omega) K.nd
    have e5 := fun T => s10 (k := k + 2) (S := T) ls b.cn lv (by omega) L.nd
    have e6 := fun T => s7 (k := k) (S := T) zs (wo lv ls) g b.cn (by omega) (by omega) pg pb
    simp [runF, B11, Tr.d, h0, e1, e2, e3', e4, e5, e6, dMg_key, fin_one]
  · obtain ⟨k, rfl⟩ : ∃ k', k = k' + 4 := ⟨k - 4, by omega⟩
    rw [callK, t_33, ← mdic_congr hv2]
    simp only [Tr.sz] at hk
    have h0 : ∀ T, _ := fun T => s1 (k := k + 2) (S := T) 1 1 0
    simp [one_v] at h0
    have e1 := fun T => h1 (k + 3) T (by omega)
    have e2 := fun T => h2 (k + 3) T (by omega)
    have e3 := fun T => s7 (k := k) (S := T) [q] ks (fun _ => C3.one) (fun r => (a.cn r).box m) (by simp) (by omega) p1 pa
    have e3' : ∀ T, callF (tb (k + 3) 7) [.d (fdic [q] fun _ => C3.one), .d (fdic ks fun r => (a.cn r).box m)] T = .ok (.d (fdic zs g)) T := fun T => by rw [e3 T, fdic_congr hv1]
    have e4 := fun T => s9 (k := k) (S := T) ks a.cn m hm (by omega) K.nd
    have e5 := fun T => s10 (k := k + 2) (S := T) ls b.cn lv (by omega) L.nd
    have e6 := fun T => s30 (k := k) (S := T) zs (wo lv ls) g b.cn (by omega) (by omega) pg pb
    simp [runF, B33, Tr.d, h0, e1, e2, e3', e4, e5, e6, dMg_key, fin_one]
theorem cnt_all : ∀ (t : Tr) (lv : Int), t.wf lv → t.sz ≤ 100 → ∃ ks, CntOk t lv ks := by
  intro t
  induction t with
  | own q => intro lv h _; exact ⟨_, cnt_own q lv h⟩
  | cite n => intro lv _ _; exact ⟨_, cnt_cite n lv⟩
  | take b ih => intro lv h hs; simp only [Tr.sz] at hs; obtain ⟨ks, hk⟩ := ih _ h (by omega); exact ⟨_, cnt_take hk (by omega)⟩
  | offer a b iha ihb =>
    intro lv h hs
    simp only [Tr.sz] at hs
    obtain ⟨ks, hk⟩ := iha _ h.1 (by omega)
    obtain ⟨ls, hl⟩ := ihb _ h.2 (by omega)
    exact ⟨_, cnt_offer hk hl h.1 h.2 (by omega)⟩
  | pick q s b ih => intro lv h hs; simp only [Tr.sz] at hs; obtain ⟨ks, hk⟩ := ih _ h.2 (by omega); exact cnt_pick hk h.1 h.2 (by omega)
  | pay q m a b iha ihb =>
    intro lv h hs
    simp only [Tr.sz] at hs
    obtain ⟨ks, hk⟩ := iha _ h.2.2.1 (by omega)
    obtain ⟨ls, hl⟩ := ihb _ h.2.2.2 (by omega)
    exact cnt_pay hk hl h.1 h.2.1 h.2.2.1 h.2.2.2 (by omega)
  | make n i b ih => intro lv h hs; simp only [Tr.sz] at hs; obtain ⟨ks, hk⟩ := ih _ h (by omega); exact ⟨_, cnt_make hk⟩
  | opn q n i b ih => intro lv h hs; simp only [Tr.sz] at hs; obtain ⟨ks, hk⟩ := ih _ h.2 (by omega); exact cnt_opn hk h.1 h.2 (by omega)
  | cut m n a b iha ihb =>
    intro lv h hs
    simp only [Tr.sz] at hs
    obtain ⟨ks, hk⟩ := iha _ h.2.1 (by omega)
    obtain ⟨ls, hl⟩ := ihb _ h.2.2 (by omega)
    exact cnt_cut hk hl h.1 h.2.1 h.2.2 (by omega)
end Lw

set_option Elab.async false
set_option linter.all false
set_option maxRecDepth 100000
namespace Lw
open PySem L2 Ev
/-! ### the rows' premises -/
def Tr.items : Tr → List Dv
  | .own r => [keyD r] | .cite n => [.str n] | .take b => [b.d] | .offer a b => [a.d, b.d]
  | .pick r s b => [keyD r, .str s, b.d] | .pay r m a b => [keyD r, m.d, a.d, b.d] | .make n i b => [.str n, .int i, b.d]
  | .opn r n i b => [keyD r, .str n, .int i, b.d] | .cut m n a b => [m.d, sent n, a.d, b.d]
def rows : List Str := ["own", "take", "offer", "pick", "pay", "make", "open", "cut", "cite"]
def rowB : Dv → Bool
  | .tup (.str s :: _) => rows.contains s
  | _ => false
section
variable {k : Nat} {S : Sto}
theorem s16 (t : Tr) (x : Dv) (h : x ∈ t.items) : callF (tb (k + 1) 16) [.d x] S = .ok (.d (.bl (rowB x))) S := by
  rw [callF, t_16]
  have ht : ∀ b : Tr, fin S.length (runF 1 2 (B16 (tb k)) S.length [.d b.d] S) = .ok (.d (.bl (rowB b.d))) S := fun b => by
    cases b <;> simp [runF, B16, Tr.d, anTup, rowB, rows]
  have hk : ∀ r : Key, fin S.length (runF 1 2 (B16 (tb k)) S.length [keyS r] S) = .ok (.d (.bl (rowB (keyD r)))) S := fun r => by
    cases r <;> simp [runF, B16, keyD, anTup, rowB]
  have hm : ∀ m : Kd, fin S.length (runF 1 2 (B16 (tb k)) S.length [.d m.d] S) = .ok (.d (.bl (rowB m.d))) S := fun m => by
    cases m <;> simp [runF, B16, Kd.d, anTup, rowB]
  have hs : ∀ n : Str, fin S.length (runF 1 2 (B16 (tb k)) S.length [.d (.str n)] S) = .ok (.d (.bl (rowB (.str n)))) S := fun n => by
    simp [runF, B16, anTup, rowB]
  have hi : ∀ n : Int, fin S.length (runF 1 2 (B16 (tb k)) S.length [.d (.int n)] S) = .ok (.d (.bl (rowB (.int n)))) S := fun n => by
    simp [runF, B16, anTup, rowB]
  have he : ∀ n : Str, fin S.length (runF 1 2 (B16 (tb k)) S.length [.d (sent n)] S) = .ok (.d (.bl (rowB (sent n)))) S := fun n => by
    simp [runF, B16, anTup, rowB, rows]
  cases t with
  | own r => simp [Tr.items] at h; subst h; exact hk _
  | cite n => simp [Tr.items] at h; subst h; exact hs _
  | take b => simp [Tr.items] at h; subst h; exact ht _
  | offer a b =>
    simp [Tr.items] at h
    rcases h with h | h
    · subst h; exact ht _
    · subst h; exact ht _
  | pick r s b =>
    simp [Tr.items] at h
    rcases h with h | h | h
    · subst h; exact hk _
    · subst h; exact hs _
    · subst h; exact ht _
  | pay r m a b =>
    simp [Tr.items] at h
    rcases h with h | h | h | h
    · subst h; exact hk _
    · subst h; exact hm _
    · subst h; exact ht _
    · subst h; exact ht _
  | make n i b =>
    simp [Tr.items] at h
    rcases h with h | h | h
    · subst h; exact hs _
    · subst h; exact hi _
    · subst h; exact ht _
  | opn r n i b =>
    simp [Tr.items] at h
    rcases h with h | h | h | h
    · subst h; exact hk _
    · subst h; exact hs _
    · subst h; exact hi _
    · subst h; exact ht _
  | cut m n a b =>
    simp [Tr.items] at h
    rcases h with h | h | h | h
    · subst h; exact hm _
    · subst h; exact he _
    · subst h; exact ht _
    · subst h; exact ht _
theorem s17 (t : Tr) : callF (tb (k + 2) 17) [.d t.d] S = .ok (.d (.lst (t.prem.map Tr.d))) S := by
  rw [callF, t_17]
  have hl : t.items.length ≤ 4 := by cases t <;> simp [Tr.items]
  have hd : ∀ b : Tr, rowB b.d = true := fun b => by cases b <;> rfl
  have hk : ∀ r : Key, rowB (keyD r) = false := fun r => by cases r <;> rfl
  have hm : ∀ m : Kd, rowB m.d = false := fun m => by cases m <;> rfl
  have hx : (t.items.filter rowB).map id = t.prem.map Tr.d := by
    rw [List.map_id]
    have hs : ∀ n : Str, rowB (.str n) = false := fun _ => rfl
    have hi : ∀ n : Int, rowB (.int n) = false := fun _ => rfl
    have he : ∀ n : Str, rowB (sent n) = false := fun _ => rfl
    cases t <;> simp only [Tr.items, Tr.prem, List.filter_cons, List.filter_nil, hd, hk, hm, hs, hi, he, if_true, Bool.false_eq_true, if_false, List.map_cons, List.map_nil]
  have e := lcAll_A (S := S) (v := [some (.d t.d), none]) (vs := [1]) (tg := gNm 1) (tt := T17_0 (tb (k + 1))) (te := E17_0 (tb (k + 1))) SV.d t.items rowB id (most_pos _ (by omega)) fun x hx T => by
    refine ⟨_, rfl, ?_, fun _ => ?_⟩
    · have h := s16 (k := k) (S := T) t x hx
      simp [T17_0, wipeE, h]
    · simp [E17_0, wipeE]
  rw [hx] at e
  have h0 : eLc [1] (eSl (eVar 0) (oSo (eC (.int 1))) oNo) (gNm 1) (T17_0 (tb (k + 1))) (E17_0 (tb (k + 1))) ⟨S.length, [some (.d t.d), none]⟩ S = lcAll fin [1] (gNm 1) (T17_0 (tb (k + 1))) (E17_0 (tb (k + 1))) [some (.d t.d), none] (t.items.map SV.d) S := by
    cases t <;> simp [Tr.d, Tr.items, cutG, HT.sIx]
  show fin S.length (B17 (tb (k + 1)) ⟨S.length, [some (.d t.d), none]⟩ S).res = _
  unfold B17
  rw [sRet_ap, h0, e]
  simp
end
end Lw

set_option Elab.async false
set_option linter.all false
set_option maxRecDepth 100000
namespace Lw
open PySem L2 Ev
structure It where
  t : Tr
  p : Int
  d : Int
  b : Bool
def It.e (x : It) : Dv := .tup [x.t.d, .int x.p, .int x.d, .bl x.b]
structure Us where
  r : Key
  p : Int
  d : Int
  b : Bool
def Us.e (x : Us) : Dv := .tup [keyD x.r, .int x.p, .int x.d, .bl x.b]
def bxI (m : Kd) (x : It) : It := match m with
  | .once => x
  | .st u v => ⟨x.t, x.p * u, x.d + v, false⟩
/-- what stands above a row -/
def It.abv (x : It) : List It := match x.t with
  | .own _ => [] | .cite _ => [] | .take c => [⟨c, x.p, x.d, x.b⟩] | .offer a c => [⟨a, x.p, x.d, x.b⟩, ⟨c, x.p, x.d, x.b⟩] | .pick _ _ c => [⟨c, x.p, x.d, x.b⟩]
  | .pay _ m a c => [bxI m ⟨a, x.p, x.d, x.b⟩, ⟨c, x.p, x.d, x.b⟩] | .make _ _ c => [⟨c, x.p, x.d, x.b⟩] | .opn _ _ _ c => [⟨c, x.p, x.d, x.b⟩] | .cut m _ a c => [bxI m ⟨a, x.p, x.d, x.b⟩, ⟨c, x.p, x.d, x.b⟩]
theorem lcAll_MK {α : Type} (enc : α → SV) {tg : Tg} {te : Fr → Sto → Res SV} {vs : List Nat} {v : Ev.Env} {S : Sto} (xs : List α) (f : α → Dv) (hl : xs.length ≤ most)
    (h : ∀ x ∈ xs, ∀ T : Sto, ∃ v1, tg (enc x) ⟨S.length, wipeE v vs⟩ T = some v1 ∧ te ⟨S.length, v1⟩ T = .ok (.d (f x)) T) :
    lcAll finK vs tg tYs te v (xs.map enc) S = .ok (.m S.length) (S ++ [.lst ((xs.map f).map .d)]) := by
  unfold lcAll
  have e := lcL_A enc (tg := tg) (tt := tYs) (te := te) (ve := wipeE v vs) (fun _ => true) f (B := S) rfl xs [] (by simpa using hl) fun x hx T => by
    obtain ⟨v1, h1, h2⟩ := h x hx T
    exact ⟨v1, h1, rfl, fun _ => h2⟩
  simp only [List.map_nil, List.nil_append] at e
  rw [e, List.filter_eq_self.mpr (fun _ _ => rfl)]
  rfl
theorem fin_l {S : Sto} (xs : List Dv) : fin S.length (.ok (.m S.length) (S ++ [.lst (xs.map .d)])) = .ok (.d (.lst xs)) S := by
  unfold fin
  simp only
  have hf : freeze (S ++ [MO.lst (xs.map SV.d)]) (SV.m S.length) = _ := freeze_lst (xs := xs) (by simp)
  rw [hf]
  simp
abbrev v7 (t : Tr) (p d : Int) (b : Bool) : Ev.Env := [some (SV.d t.d), some (SV.d (.int p)), some (SV.d (.int d)), some (SV.d (.bl b)), none, none, none]
section
variable {k : Nat} {S : Sto}
theorem ix0 (x y : SV) : opIx (S ++ [.lst [x, y]]) (.m S.length) (.d (.int 0)) = some x := by
  rw [opIx_m (top_m (.lst [x, y]))]
  rfl
theorem put0 {b : Nat} (x y : SV) (z : Dv) : putIx b (S ++ [.lst [x, y]]) (.m S.length) (.d (.int 0)) (.d z) = some (S ++ [.lst [.d z, y]]) := by
  rw [putIx_m (top_m (.lst [x, y])) (n := 0) (by rfl)]
  simp
def kdOf : Tr → Kd
  | .pay _ m _ _ => m
  | .cut m _ _ _ => m
  | _ => .once
theorem s25 (x : It) (hm : (kdOf x.t).ok) : callF (tb (k + 3) 25) [.d x.t.d, .d (.int x.p), .d (.int x.d), .d (.bl x.b)] S = .ok (.d (.lst (x.abv.map It.e))) S := by
  rw [callF, t_25]
  obtain ⟨t, p, d, b⟩ := x
  have e1 := fun T => s17 (k := k) (S := T) t
  have e2 := fun (T : Sto) => lcAll_MK (S := T) (v := v7 t p d b) (vs := [5]) (tg := gNm 5) (te := E25_0 (tb (k + 2))) (SV.d ∘ Tr.d) t.prem (fun c => (It.mk c p d b).e)
    (most_pos _ (by have : t.prem.length ≤ 2 := by cases t <;> simp [Tr.prem]
                    omega)) fun c _ T' => ⟨_, rfl, by simp [E25_0, wipeE, It.e]⟩
  simp only [← List.map_map] at e2
  have h0 : ∀ T, eLcK [5] (eCall (tb (k + 2) 17) (aCons (eVar 0) aNil)) (gNm 5) tYs (E25_0 (tb (k + 2))) ⟨S.length, v7 t p d b⟩ T = .ok (.m T.length) (T ++ [.lst ((t.prem.map fun c => (It.mk c p d b).e).map .d)]) := fun T => by
    rw [← e2]
    simp [e1]
  have h1 : ∀ y, fin S.length (y : SRes).res = .ok (.d (.lst ((It.mk t p d b).abv.map It.e))) S → fin S.length y.res = .ok (.d (.lst ((It.mk t p d b).abv.map It.e))) S := fun _ h => h
  show fin S.length (B25 (tb (k + 2)) ⟨S.length, v7 t p d b⟩ S).res = _
  unfold B25
  rw [sSeq_ap, sSet_ap, h0]
  cases t with
  | own q => simp [Tr.d, Tr.prem, It.abv]; exact fin_l []
  | cite q => simp [Tr.d, Tr.prem, It.abv]; exact fin_l []
  | take c => simp [Tr.d, Tr.prem, It.abv]; exact fin_l [(It.mk c p d b).e]
  | make n i c => simp [Tr.d, Tr.prem, It.abv]; exact fin_l [(It.mk c p d b).e]
  | pick n i c => simp [Tr.d, Tr.prem, It.abv]; exact fin_l [(It.mk c p d b).e]
  | opn q n i c => simp [Tr.d, Tr.prem, It.abv]; exact fin_l [(It.mk c p d b).e]
  | offer a c => simp [Tr.d, Tr.prem, It.abv]; exact fin_l [(It.mk a p d b).e, (It.mk c p d b).e]
  | pay q m a c =>
    cases m with
    | once => simp [Tr.d, Tr.prem, It.abv, bxI, Kd.d]; exact fin_l [(It.mk a p d b).e, (It.mk c p d b).e]
    | st u v =>
      obtain ⟨h1, h2, h3⟩ := hm
      have hu : big64 u = true := by simp [big64]; omega
      have q0 := ix0 (S := S) (SV.d (It.mk a p d b).e) (SV.d (It.mk c p d b).e)
      have q1 := fun b' y => put0 (S := S) (b := b') (SV.d (It.mk a p d b).e) (SV.d (It.mk c p d b).e) y
      have q2 : ∀ T, opIx T (SV.d (It.mk a p d b).e) (.d (.int 0)) = some (.d a.d) := fun T => by simp [It.e]
      simp [Tr.d, Tr.prem, It.abv, bxI, Kd.d, q0, q1, q2, hu]
      exact fin_l [(It.mk a (p * u) (d + v) false).e, (It.mk c p d b).e]
  | cut m n a c =>
    cases m with
    | once => simp [Tr.d, Tr.prem, It.abv, bxI, Kd.d]; exact fin_l [(It.mk a p d b).e, (It.mk c p d b).e]
    | st u v =>
      obtain ⟨h1, h2, h3⟩ := hm
      have hu : big64 u = true := by simp [big64]; omega
      have q0 := ix0 (S := S) (SV.d (It.mk a p d b).e) (SV.d (It.mk c p d b).e)
      have q1 := fun b' y => put0 (S := S) (b := b') (SV.d (It.mk a p d b).e) (SV.d (It.mk c p d b).e) y
      have q2 : ∀ T, opIx T (SV.d (It.mk a p d b).e) (.d (.int 0)) = some (.d a.d) := fun T => by simp [It.e]
      simp [Tr.d, Tr.prem, It.abv, bxI, Kd.d, q0, q1, q2, hu]
      exact fin_l [(It.mk a (p * u) (d + v) false).e, (It.mk c p d b).e]
end
end Lw

set_option Elab.async false
set_option linter.all false
set_option maxRecDepth 100000
namespace Lw
open PySem L2 Ev
def use1 (lv : Int) (q : Key) (p d : Int) (b : Bool) : List Us := if below lv q = true then [⟨q, p, d, b⟩] else []
def useAt (lv : Int) (x : It) : List Us := match x.t with
  | .own q => use1 lv q x.p x.d x.b | .pick q _ _ => use1 lv q x.p x.d x.b | .pay q _ _ _ => use1 lv q x.p x.d x.b | .opn q _ _ _ => use1 lv q x.p x.d x.b
  | _ => []
/-- what is put on the stack (top first), what is left of the number -/
def nextW (x : It) (n : Int) : List It × Int := match x.t with
  | .offer a c => if 0 ≤ n then ([if n % 2 = 0 then ⟨a, x.p, x.d, x.b⟩ else ⟨c, x.p, x.d, x.b⟩], n / 2) else (x.abv.reverse, n)
  | _ => (x.abv.reverse, n)
def Tr.go (lv : Int) : Tr → Int → Int → Bool → Int → List Us × Int
  | .own q, p, d, b, n => (use1 lv q p d b, n)
  | .cite _, _, _, _, n => ([], n)
  | .take c, p, d, b, n => c.go lv p d b n
  | .make _ _ c, p, d, b, n => c.go lv p d b n
  | .offer a c, p, d, b, n => if 0 ≤ n then (if n % 2 = 0 then a.go lv p d b (n / 2) else c.go lv p d b (n / 2)) else ((c.go lv p d b n).1 ++ (a.go lv p d b (c.go lv p d b n).2).1, (a.go lv p d b (c.go lv p d b n).2).2)
  | .pick q _ c, p, d, b, n => (use1 lv q p d b ++ (c.go lv p d b n).1, (c.go lv p d b n).2)
  | .opn q _ _ c, p, d, b, n => (use1 lv q p d b ++ (c.go lv p d b n).1, (c.go lv p d b n).2)
  | .pay q .once a c, p, d, b, n => (use1 lv q p d b ++ ((c.go lv p d b n).1 ++ (a.go lv p d b (c.go lv p d b n).2).1), (a.go lv p d b (c.go lv p d b n).2).2)
  | .pay q (.st u v) a c, p, d, b, n => (use1 lv q p d b ++ ((c.go lv p d b n).1 ++ (a.go lv (p * u) (d + v) false (c.go lv p d b n).2).1), (a.go lv (p * u) (d + v) false (c.go lv p d b n).2).2)
  | .cut .once _ a c, p, d, b, n => ((c.go lv p d b n).1 ++ (a.go lv p d b (c.go lv p d b n).2).1, (a.go lv p d b (c.go lv p d b n).2).2)
  | .cut (.st u v) _ a c, p, d, b, n => ((c.go lv p d b n).1 ++ (a.go lv (p * u) (d + v) false (c.go lv p d b n).2).1, (a.go lv (p * u) (d + v) false (c.go lv p d b n).2).2)
def goI (lv : Int) (x : It) (n : Int) : List Us × Int := x.t.go lv x.p x.d x.b n
def goL (lv : Int) : List It → Int → List Us × Int
  | [], n => ([], n)
  | x :: w, n => ((goI lv x n).1 ++ (goL lv w (goI lv x n).2).1, (goL lv w (goI lv x n).2).2)
theorem goL_append (lv : Int) : ∀ (xs w : List It) (n : Int), goL lv (xs ++ w) n = ((goL lv xs n).1 ++ (goL lv w (goL lv xs n).2).1, (goL lv w (goL lv xs n).2).2)
  | [], w, n => by simp [goL]
  | x :: xs, w, n => by simp [goL, goL_append lv xs w, List.append_assoc]
theorem goI_step (lv : Int) (x : It) (n : Int) : goI lv x n = (useAt lv x ++ (goL lv (nextW x n).1 (nextW x n).2).1, (goL lv (nextW x n).1 (nextW x n).2).2) := by
  obtain ⟨t, p, d, b⟩ := x
  cases t with
  | offer a c =>
    by_cases h : 0 ≤ n
    · by_cases h2 : n % 2 = 0 <;> simp [goI, Tr.go, useAt, nextW, goL, h, h2]
    · simp [goI, Tr.go, useAt, nextW, It.abv, goL, h]
  | pay q m a c => cases m <;> simp [goI, Tr.go, useAt, nextW, It.abv, goL, bxI]
  | cut m q a c => cases m <;> simp [goI, Tr.go, useAt, nextW, It.abv, goL, bxI]
  | _ => simp [goI, Tr.go, useAt, nextW, It.abv, goL]
def szL : List It → Nat
  | [] => 0
  | x :: w => x.t.sz + szL w
theorem szL_append : ∀ xs ys : List It, szL (xs ++ ys) = szL xs + szL ys
  | [], ys => by simp [szL]
  | x :: xs, ys => by simp [szL, szL_append xs ys]; omega
theorem next_sz (x : It) (n : Int) : szL (nextW x n).1 + 1 ≤ x.t.sz := by
  obtain ⟨t, p, d, b⟩ := x
  cases t with
  | offer a c =>
    by_cases h : 0 ≤ n
    · by_cases h2 : n % 2 = 0 <;> simp [nextW, szL, h, h2, Tr.sz] <;> omega
    · simp [nextW, It.abv, szL, h, Tr.sz]; omega
  | pay q m a c => cases m <;> simp [nextW, It.abv, szL, bxI, Tr.sz] <;> omega
  | cut m q a c => cases m <;> simp [nextW, It.abv, szL, bxI, Tr.sz] <;> omega
  | _ => simp [nextW, It.abv, szL, Tr.sz]
theorem len_sz : ∀ w : List It, w.length ≤ szL w
  | [] => by simp
  | x :: w => by
    have := zsz x.t
    have := len_sz w
    simp only [List.length_cons, szL]
    omega
/-- kinds are sound -/
def Tr.kok : Tr → Prop
  | .own _ => True | .cite _ => True | .take b => b.kok | .offer a b => a.kok ∧ b.kok | .pick _ _ b => b.kok | .pay _ m a b => m.ok ∧ a.kok ∧ b.kok
  | .make _ _ b => b.kok | .opn _ _ _ b => b.kok | .cut m _ a b => m.ok ∧ a.kok ∧ b.kok
theorem wf_kok : ∀ (t : Tr) (lv : Int), t.wf lv → t.kok := by
  intro t
  induction t with
  | own q => intro _ _; trivial
  | cite n => intro _ _; trivial
  | take b ih => intro lv h; exact ih _ h
  | offer a b iha ihb => intro lv h; exact ⟨iha _ h.1, ihb _ h.2⟩
  | pick q s b ih => intro lv h; exact ih _ h.2
  | pay q m a b iha ihb => intro lv h; exact ⟨h.2.1, iha _ h.2.2.1, ihb _ h.2.2.2⟩
  | make n i b ih => intro lv h; exact ih _ h
  | opn q n i b ih => intro lv h; exact ih _ h.2
  | cut m n a b iha ihb => intro lv h; exact ⟨h.1, iha _ h.2.1, ihb _ h.2.2⟩
theorem kok_kd {t : Tr} (h : t.kok) : (kdOf t).ok := by
  cases t <;> first | trivial | exact h.1
theorem next_kok {x : It} (h : x.t.kok) (n : Int) : ∀ y ∈ (nextW x n).1, y.t.kok := by
  obtain ⟨t, p, d, b⟩ := x
  intro y hy
  cases t with
  | offer a c =>
    by_cases h0 : 0 ≤ n
    · by_cases h2 : n % 2 = 0 <;> simp [nextW, h0, h2] at hy <;> subst hy
      · exact h.1
      · exact h.2
    · simp [nextW, It.abv, h0] at hy
      rcases hy with hy | hy <;> subst hy
      · exact h.2
      · exact h.1
  | pay q m a c =>
    cases m <;> simp [nextW, It.abv, bxI] at hy <;> rcases hy with hy | hy <;> subst hy
    · exact h.2.2
    · exact h.2.1
    · exact h.2.2
    · exact h.2.1
  | cut m q a c =>
    cases m <;> simp [nextW, It.abv, bxI] at hy <;> rcases hy with hy | hy <;> subst hy
    · exact h.2.2
    · exact h.2.1
    · exact h.2.2
    · exact h.2.1
  | own q => simp [nextW, It.abv] at hy
  | cite q => simp [nextW, It.abv] at hy
  | take c => simp [nextW, It.abv] at hy; subst hy; exact h
  | make _ _ c => simp [nextW, It.abv] at hy; subst hy; exact h
  | pick _ _ c => simp [nextW, It.abv] at hy; subst hy; exact h
  | opn _ _ _ c => simp [nextW, It.abv] at hy; subst hy; exact h
end Lw

set_option Elab.async false
set_option linter.all false
set_option maxRecDepth 100000
namespace Lw
open PySem L2 Ev
/-- uses at n, stack at m -/
structure LI (S : Sto) (m : Nat) (T : Sto) (U : List Us) (W : List It) : Prop where
  lt : S.length < m
  hm : m < T.length
  us : T[S.length]? = some (.lst ((U.map Us.e).map .d))
  st : T[m]? = some (.lst ((W.reverse.map It.e).map .d))
  tk : T.take S.length = S
theorem LI.pop {S T : Sto} {m : Nat} {U : List Us} {x : It} {w : List It} (h : LI S m T U (x :: w)) : muPop m T (.m m) [] = some (.d x.e, T.set m (.lst ((w.reverse.map It.e).map .d))) := by
  have e := h.st
  simp only [List.reverse_cons, List.map_append, List.map_cons, List.map_nil] at e
  simp [muPop, e]
theorem pop_any {b c : Nat} {T : Sto} {m : Nat} : muPop b T (.m m) [] = muPop c T (.m m) [] := rfl
theorem LI.popped {S T : Sto} {m : Nat} {U : List Us} {x : It} {w : List It} (h : LI S m T U (x :: w)) : LI S m (T.set m (.lst ((w.reverse.map It.e).map .d))) U w := by
  have hne : m ≠ S.length := Nat.ne_of_gt h.lt
  refine ⟨h.lt, by rw [List.length_set]; exact h.hm, by rw [List.getElem?_set_ne hne]; exact h.us, by rw [List.getElem?_set]; simp [h.hm], ?_⟩
  rw [List.take_set_of_le (Nat.le_of_lt h.lt)]
  exact h.tk
theorem LI.add {S T : Sto} {m : Nat} {U : List Us} {W : List It} (h : LI S m T U W) (u : Us) : LI S m (T.set S.length (.lst (((U ++ [u]).map Us.e).map .d))) (U ++ [u]) W := by
  have hne : S.length ≠ m := Nat.ne_of_lt h.lt
  have hl : S.length < T.length := Nat.lt_trans h.lt h.hm
  refine ⟨h.lt, by rw [List.length_set]; exact h.hm, by rw [List.getElem?_set]; simp [hl], by rw [List.getElem?_set_ne hne]; exact h.st, ?_⟩
  rw [List.take_set_of_le (Nat.le_refl _)]
  exact h.tk
theorem LI.cat {S T : Sto} {m : Nat} {U : List Us} {W X : List It} (h : LI S m T U W) : LI S T.length (T ++ [.lst (((X ++ W).reverse.map It.e).map .d)]) U (X ++ W) := by
  have hl : S.length < T.length := Nat.lt_trans h.lt h.hm
  refine ⟨hl, by simp, by rw [List.getElem?_append_left hl]; exact h.us, by simp, ?_⟩
  rw [List.take_append_of_le_length (Nat.le_of_lt hl)]
  exact h.tk
theorem LI.app {S T : Sto} {m b : Nat} {U : List Us} {W : List It} (h : LI S m T U W) (u : Us) (hl : U.length < 500) : muAppend b T (.m S.length) [.d u.e] = some (.d .non, T.set S.length (.lst (((U ++ [u]).map Us.e).map .d))) := by
  rw [muAppend_m h.us rfl (lt_most (by simpa using hl) (by decide))]
  simp
/-- the list put behind the stack -/
theorem LI.catR {S T : Sto} {m : Nat} {U : List Us} {W X : List It} (h : LI S m T U W) (hl : W.length + X.length ≤ 500) : catR T (lstOf T (.m m)) (lstOf T (.d (.lst (X.reverse.map It.e)))) = .ok (.m T.length) (T ++ [.lst (((X ++ W).reverse.map It.e).map .d)]) := by
  rw [lstOf_m, h.st, lstM_l, lstOf_d, catR_s, if_pos (most_pos _ (by simp; omega))]
  simp
abbrev vL (t : Tr) (lv n : Int) (i m : Nat) (a b c d e f : Option SV) : Ev.Env := [some (SV.d t.d), some (SV.d (.int lv)), some (SV.d (.int n)), some (.m i), some (.m m), a, b, c, d, e, f]
section
variable {k : Nat}
/-- the row's own use -/
def sUse : Fr → Sto → SRes := sIf (tAn (tV (eOp opIn (eOpS opIx (eVar 6) (eC (.int 0))) (eTup (aCons (eC (.str "own")) (aCons (eC (.str "pick")) (aCons (eC (.str "pay")) (aCons (eC (.str "open")) (aNil)))))))) (tOrr (tV (eIsi anStr (eOpS opIx (eVar 6) (eC (.int 1))))) (tV (eOp opLt (eOpS opIx (eVar 6) (eC (.int 1))) (eVar 1))))) (sExpr (eMut muAppend (eVar 3) (aCons (eTup (aCons (eOpS opIx (eVar 6) (eC (.int 1))) (aCons (eVar 7) (aCons (eVar 8) (aCons (eVar 9) (aNil)))))) (aNil)))) (sNil)
abbrev vU (t : Tr) (lv n : Int) (i m : Nat) (a f : Option SV) (x : It) : Ev.Env := vL t lv n i m a (some (.d x.t.d)) (some (.d (.int x.p))) (some (.d (.int x.d))) (some (.d (.bl x.b))) f
theorem use_one {S T : Sto} {m b : Nat} {U : List Us} {W : List It} (h : LI S m T U W) (hl : U.length < 500) (t : Tr) (lv n : Int) (a f : Option SV) (q : Key) (p d : Int) (bb : Bool) (nm : Str) (xs : List Dv) (hn : nm = "own" ∨ nm = "pick" ∨ nm = "pay" ∨ nm = "open") :
    ∃ T', sUse ⟨b, vL t lv n S.length m a (some (.d (.tup (.str nm :: keyD q :: xs)))) (some (.d (.int p))) (some (.d (.int d))) (some (.d (.bl bb))) f⟩ T = .nx (vL t lv n S.length m a (some (.d (.tup (.str nm :: keyD q :: xs)))) (some (.d (.int p))) (some (.d (.int d))) (some (.d (.bl bb))) f) T' ∧ LI S m T' (U ++ use1 lv q p d bb) W := by
  have e1 := h.app (b := b) ⟨q, p, d, bb⟩ hl
  have e2 := isL_ml h.us
  have a1 := h.add ⟨q, p, d, bb⟩
  cases q with
  | inr s =>
    refine ⟨_, ?_, a1⟩
    simp only [Us.e, keyD] at e1
    rcases hn with rfl | rfl | rfl | rfl <;> simp [sUse, keyD, anStr, e1, e2]
  | inl i =>
    by_cases c : i < lv
    · refine ⟨_, ?_, by simp [use1, below, c]; exact a1⟩
      simp only [Us.e, keyD] at e1
      rcases hn with rfl | rfl | rfl | rfl <;> simp [sUse, keyD, anStr, e1, e2, c]
    · refine ⟨T, ?_, by simp [use1, below, c]; exact h⟩
      rcases hn with rfl | rfl | rfl | rfl <;> simp [sUse, keyD, anStr, c]
theorem use_ok {S T : Sto} {m b : Nat} {U : List Us} {W : List It} (h : LI S m T U W) (hl : U.length < 500) (t : Tr) (lv n : Int) (a f : Option SV) (x : It) :
    ∃ T', sUse ⟨b, vU t lv n S.length m a f x⟩ T = .nx (vU t lv n S.length m a f x) T' ∧ LI S m T' (U ++ useAt lv x) W := by
  obtain ⟨t', p, d, bb⟩ := x
  cases t' with
  | own q => exact use_one h hl t lv n a f q p d bb "own" [] (by simp)
  | pick q s c => exact use_one h hl t lv n a f q p d bb "pick" [.str s, c.d] (by simp)
  | pay q m' c e => exact use_one h hl t lv n a f q p d bb "pay" [m'.d, c.d, e.d] (by simp)
  | opn q s i c => exact use_one h hl t lv n a f q p d bb "open" [.str s, .int i, c.d] (by simp)
  | cite s => exact ⟨T, by simp [sUse, Tr.d], by simp [useAt]; exact h⟩
  | take s => exact ⟨T, by simp [sUse, Tr.d], by simp [useAt]; exact h⟩
  | offer s c => exact ⟨T, by simp [sUse, Tr.d], by simp [useAt]; exact h⟩
  | make s i c => exact ⟨T, by simp [sUse, Tr.d], by simp [useAt]; exact h⟩
  | cut m' s c e => exact ⟨T, by simp [sUse, Tr.d], by simp [useAt]; exact h⟩
/-- which ones are looked at further -/
def sCh : Fr → Sto → SRes := sIf (tAn (tV (eOp opEq (eOpS opIx (eVar 6) (eC (.int 0))) (eC (.str "offer")))) (tV (eOp opGe (eVar 2) (eC (.int 0))))) (sSeq (sSet 10 (eLst (aCons (eOpS opIx (eVar 10) (eOp opMod (eBi biInt (aCons (eVar 2) (aNil))) (eC (.int 2)))) (aNil))))
    (sSet 2 (eOp opDiv (eVar 2) (eC (.int 2))))) (sNil)
theorem ch_ok {T : Sto} {b i m : Nat} (t : Tr) (lv n : Int) (a : Option SV) (x : It) :
    sCh ⟨b, vU t lv n i m a (some (.d (.lst (x.abv.map It.e)))) x⟩ T = .nx (vU t lv (nextW x n).2 i m a (some (.d (.lst ((nextW x n).1.reverse.map It.e)))) x) T := by
  obtain ⟨t', p, d, bb⟩ := x
  cases t' with
  | offer c e =>
    by_cases h0 : 0 ≤ n
    · by_cases h2 : n % 2 = 0
      · simp [sCh, Tr.d, nextW, h0, h2, It.abv]
      · have h3 : n % 2 = 1 := by omega
        simp [sCh, Tr.d, nextW, h0, h3, It.abv]
    · simp [sCh, Tr.d, nextW, h0, It.abv]
  | own q => simp [sCh, Tr.d, nextW]
  | cite q => simp [sCh, Tr.d, nextW]
  | take q => simp [sCh, Tr.d, nextW]
  | make q s c => simp [sCh, Tr.d, nextW]
  | pick q s c => simp [sCh, Tr.d, nextW]
  | opn q s s' c => simp [sCh, Tr.d, nextW]
  | pay q s s' c => simp [sCh, Tr.d, nextW]
  | cut q s s' c => simp [sCh, Tr.d, nextW]
end
end Lw

set_option Elab.async false
set_option linter.all false
set_option maxRecDepth 100000
namespace Lw
open PySem L2 Ev
section
variable {k : Nat}
theorem use_len (lv : Int) (x : It) : (useAt lv x).length ≤ 1 := by
  obtain ⟨t, p, d, b⟩ := x
  cases t <;> simp [useAt, use1] <;> split <;> simp
theorem rev_ch (x : It) (n : Int) : (nextW x n).1.length ≤ 2 := by
  obtain ⟨t, p, d, b⟩ := x
  cases t with
  | offer a c =>
    by_cases h : 0 ≤ n
    · simp [nextW, h]
    · simp [nextW, It.abv, h]
  | pay q m a c => cases m <;> simp [nextW, It.abv, bxI]
  | cut m q a c => cases m <;> simp [nextW, It.abv, bxI]
  | _ => simp [nextW, It.abv]
theorem turn26 {S T : Sto} {m b : Nat} {U : List Us} {x : It} {w : List It} (h : LI S m T U (x :: w)) (hl : U.length < 500) (hw : w.length ≤ 400) (hk : x.t.kok) (t : Tr) (lv n : Int) (x5 x6 x7 x8 x9 x10 : Option SV) :
    ∃ v' m' T', L26_0 (tb (k + 3)) ⟨b, vL t lv n S.length m x5 x6 x7 x8 x9 x10⟩ T = .nx v' T' ∧ (∃ y5 y6 y7 y8 y9 y10, v' = vL t lv (nextW x n).2 S.length m' y5 y6 y7 y8 y9 y10) ∧ LI S m' T' (U ++ useAt lv x) ((nextW x n).1 ++ w) := by
  have P := h.popped
  obtain ⟨T2, e2, Q⟩ := use_ok (b := b) P hl t lv n x5 x10 x
  have e3 := fun T => s25 (k := k) (S := T) x (kok_kd hk)
  have e4 := ch_ok (T := T2) (b := b) (i := S.length) (m := m) t lv n x5 x
  have e5 := Q.catR (X := (nextW x n).1) (by have := rev_ch x n; omega)
  have e6 : muPop b T (.m m) [] = _ := h.pop
  have e7 := isL_ml h.st
  have e8 : truS T (.m m) = some true := by rw [truS_ml h.st]; simp
  refine ⟨vL t lv (nextW x n).2 S.length T2.length x5 (some (.d x.t.d)) (some (.d (.int x.p))) (some (.d (.int x.d))) (some (.d (.bl x.b))) (some (.d (.lst ((nextW x n).1.reverse.map It.e)))), _, _, ?_, ⟨_, _, _, _, _, _, rfl⟩, Q.cat⟩
  show sSeq (sIf (tNo (tTr (eVar 4))) sBrk sNil) (sSeq (sAsg (eMut muPop (eVar 4) aNil) (gUn 4 [gNm 6, gNm 7, gNm 8, gNm 9])) (sSeq sUse (sSeq (sSet 10 (eCall (tb (k + 3) 25) (aCons (eVar 6) (aCons (eVar 7) (aCons (eVar 8) (aCons (eVar 9) aNil)))))) (sSeq sCh (sSet 4 (eCatM (eVar 4) (eVar 10))))))) ⟨b, vL t lv n S.length m x5 x6 x7 x8 x9 x10⟩ T = _
  have f1 : sIf (tNo (tTr (eVar 4))) sBrk sNil ⟨b, vL t lv n S.length m x5 x6 x7 x8 x9 x10⟩ T = .nx (vL t lv n S.length m x5 x6 x7 x8 x9 x10) T := by simp [e8]
  have f2 : sAsg (eMut muPop (eVar 4) aNil) (gUn 4 [gNm 6, gNm 7, gNm 8, gNm 9]) ⟨b, vL t lv n S.length m x5 x6 x7 x8 x9 x10⟩ T = .nx (vU t lv n S.length m x5 x10 x) (T.set m (.lst ((w.reverse.map It.e).map .d))) := by
    simp only [sAsg_ap, eMut_ap, eVar_ap]
    simp [e6, e7, It.e]
  have f3 : ∀ T, sSet 10 (eCall (tb (k + 3) 25) (aCons (eVar 6) (aCons (eVar 7) (aCons (eVar 8) (aCons (eVar 9) aNil))))) ⟨b, vU t lv n S.length m x5 x10 x⟩ T = .nx (vU t lv n S.length m x5 (some (.d (.lst (x.abv.map It.e)))) x) T := fun T => by simp [e3]
  rw [sSeq_ap, f1, kSeq_nx, sSeq_ap, f2, kSeq_nx, sSeq_ap, e2, kSeq_nx, sSeq_ap, f3, kSeq_nx, sSeq_ap, e4, kSeq_nx]
  have f5 : eCatM (eVar 4) (eVar 10) ⟨b, vU t lv (nextW x n).2 S.length m x5 (some (.d (.lst ((nextW x n).1.reverse.map It.e)))) x⟩ T2 = catR T2 (lstOf T2 (.m m)) (lstOf T2 (.d (.lst ((nextW x n).1.reverse.map It.e)))) := rfl
  rw [sSet_ap, f5, e5]
  rfl
theorem loop26 {S : Sto} {b : Nat} (t : Tr) (lv : Int) : ∀ (xs : List SV) (W : List It) (T : Sto) (m : Nat) (U : List Us) (n : Int) (x5 x6 x7 x8 x9 x10 : Option SV), LI S m T U W → szL W < xs.length → U.length + szL W ≤ 300 → szL W ≤ 300 → (∀ x ∈ W, x.t.kok) →
    ∃ v' T', forL (gNm 5) (L26_0 (tb (k + 3))) b xs (vL t lv n S.length m x5 x6 x7 x8 x9 x10) T = .nx v' T' ∧ v'[3]? = some (some (.m S.length)) ∧ T'[S.length]? = some (.lst (((U ++ (goL lv W n).1).map Us.e).map .d)) ∧ T'.take S.length = S := by
  intro xs
  induction xs with
  | nil => intro W T m U n _ _ _ _ _ _ _ hs; simp at hs
  | cons x r ih =>
    intro W T m U n x5 x6 x7 x8 x9 x10 h hs hu hz hk
    rw [forL_cons]
    simp only [gNm_ap, put_ap, List.set_cons_succ, List.set_cons_zero, kTg_s]
    cases W with
    | nil =>
      have e8 : truS T (.m m) = some false := by rw [truS_ml h.st]; simp
      refine ⟨vL t lv n S.length m (some x) x6 x7 x8 x9 x10, T, ?_, rfl, by simpa [goL] using h.us, h.tk⟩
      have : L26_0 (tb (k + 3)) ⟨b, vL t lv n S.length m (some x) x6 x7 x8 x9 x10⟩ T = .bk (vL t lv n S.length m (some x) x6 x7 x8 x9 x10) T := by simp [L26_0, e8]
      rw [this]
      simp
    | cons y w =>
      simp only [szL, List.length_cons] at hs hu hz
      have hy := zsz y.t
      have lw := len_sz w
      obtain ⟨v', m', T', e1, ⟨y5, y6, y7, y8, y9, y10, rfl⟩, Q⟩ := turn26 (k := k) (b := b) h (by omega) (by omega) (hk y (List.mem_cons_self ..)) t lv n (some x) x6 x7 x8 x9 x10
      rw [e1]
      simp only [kTu_nx]
      have hn := next_sz y n
      have hul := use_len lv y
      obtain ⟨v2, T2, e2, q1, q2, q3⟩ := ih ((nextW y n).1 ++ w) T' m' (U ++ useAt lv y) (nextW y n).2 y5 y6 y7 y8 y9 y10 Q (by rw [szL_append]; omega) (by rw [szL_append, List.length_append]; omega) (by rw [szL_append]; omega) fun z hz => by
        rcases List.mem_append.mp hz with hz | hz
        · exact next_kok (hk y (List.mem_cons_self ..)) n z hz
        · exact hk z (List.mem_cons_of_mem _ hz)
      refine ⟨v2, T2, e2, q1, ?_, q3⟩
      rw [q2, goL_append]
      simp only [goL]
      rw [goI_step]
      simp only [List.append_assoc]
theorem s26 {S : Sto} (t : Tr) (lv n : Int) (hk : t.kok) (hs : t.sz ≤ 100) : callF (tb (k + 4) 26) [.d t.d, .d (.int lv), .d (.int n)] S = .ok (.d (.lst ((t.go lv 1 0 true n).1.map Us.e))) S := by
  rw [callF, t_26]
  have L : LI S (S.length + 1) (S ++ [.lst [], .lst [.d (It.mk t 1 0 true).e]]) [] [⟨t, 1, 0, true⟩] := ⟨by omega, by simp, by simp, by simp, by simp⟩
  obtain ⟨v', T', e, q1, q2, q3⟩ := loop26 (k := k) (b := S.length) t lv (rng 0 200) [⟨t, 1, 0, true⟩] _ _ [] n none none none none none none L (by simp [szL, rng_len]; omega) (by simp [szL]; omega) (by simp [szL]; omega) (by simp; exact hk)
  show fin S.length (B26 (tb (k + 3)) ⟨S.length, [some (.d t.d), some (.d (.int lv)), some (.d (.int n)), none, none, none, none, none, none, none, none]⟩ S).res = _
  have e0 : B26 (tb (k + 3)) ⟨S.length, [some (.d t.d), some (.d (.int lv)), some (.d (.int n)), none, none, none, none, none, none, none, none]⟩ S = sSeq (sForR (aCons (eC (.int 200)) aNil) (gNm 5) (L26_0 (tb (k + 3)))) (sRet (eVar 3)) ⟨S.length, vL t lv n S.length (S.length + 1) none none none none none none⟩ (S ++ [.lst [], .lst [.d (It.mk t 1 0 true).e]]) := by
    unfold B26
    simp only [sSeq_ap, sSet_ap]
    simp [It.e]
  have e1 : sForR (aCons (eC (.int 200)) aNil) (gNm 5) (L26_0 (tb (k + 3))) ⟨S.length, vL t lv n S.length (S.length + 1) none none none none none none⟩ (S ++ [.lst [], .lst [.d (It.mk t 1 0 true).e]]) = .nx v' T' := by
    rw [← e]
    simp [small62_ap]
  rw [e0, sSeq_ap, e1, kSeq_nx, sRet_ap, eVar_ap]
  simp only [q1]
  have q4 : T'[S.length]? = some (.lst (((t.go lv 1 0 true n).1.map Us.e).map .d)) := by
    rw [q2]
    simp [goL, goI]
  have hf := freeze_lst q4
  simp only [kRt_ok, SRes.res, fin, hf]
  rw [List.take_set_of_le (Nat.le_refl _), q3]
end
end Lw

set_option Elab.async false
set_option linter.all false
set_option maxRecDepth 100000
namespace Lw
open PySem L2 Ev
/-! ### paths -/
def Tr.pn : Tr → List Int → List (List Int × Tr)
  | .own r, p => [(p, .own r)] | .cite n, p => [(p, .cite n)] | .take c, p => (p, .take c) :: c.pn (p ++ [0]) | .make n i c, p => (p, .make n i c) :: c.pn (p ++ [0])
  | .pick r s c, p => (p, .pick r s c) :: c.pn (p ++ [0]) | .opn r n i c, p => (p, .opn r n i c) :: c.pn (p ++ [0])
  | .offer a c, p => (p, .offer a c) :: (a.pn (p ++ [0]) ++ c.pn (p ++ [1])) | .pay r m a c, p => (p, .pay r m a c) :: (a.pn (p ++ [0]) ++ c.pn (p ++ [1])) | .cut m n a c, p => (p, .cut m n a c) :: (a.pn (p ++ [0]) ++ c.pn (p ++ [1]))
def ptD (q : List Int × Tr) : Dv := .tup (q.1.map .int)
theorem pn_len (t : Tr) : ∀ p, (t.pn p).length = t.sz := by
  induction t <;> intro p <;> simp [Tr.pn, Tr.sz, *]
theorem pn_eq (t : Tr) (p : List Int) : t.pn p = (p, t) :: (match t.prem with | [a] => a.pn (p ++ [0]) | [a, c] => a.pn (p ++ [0]) ++ c.pn (p ++ [1]) | _ => []) := by
  cases t <;> rfl
theorem pn_in : ∀ (t : Tr) (p : List Int) (q : List Int × Tr), q ∈ t.pn p → q.1.length ≤ p.length + t.sz := by
  intro t
  induction t with
  | own r => intro p q h; simp [Tr.pn] at h; subst h; simp
  | cite r => intro p q h; simp [Tr.pn] at h; subst h; simp
  | take c ih => intro p q h; simp only [Tr.pn, List.mem_cons] at h; rcases h with h | h; (subst h; simp); (have := ih _ _ h; simp [Tr.sz] at *; omega)
  | make n i c ih => intro p q h; simp only [Tr.pn, List.mem_cons] at h; rcases h with h | h; (subst h; simp); (have := ih _ _ h; simp [Tr.sz] at *; omega)
  | pick n i c ih => intro p q h; simp only [Tr.pn, List.mem_cons] at h; rcases h with h | h; (subst h; simp); (have := ih _ _ h; simp [Tr.sz] at *; omega)
  | opn r n i c ih => intro p q h; simp only [Tr.pn, List.mem_cons] at h; rcases h with h | h; (subst h; simp); (have := ih _ _ h; simp [Tr.sz] at *; omega)
  | offer a c iha ihc => intro p q h; simp only [Tr.pn, List.mem_cons, List.mem_append] at h; rcases h with h | h | h; (subst h; simp); (have := iha _ _ h; simp [Tr.sz] at *; omega); (have := ihc _ _ h; simp [Tr.sz] at *; omega)
  | pay r m a c iha ihc => intro p q h; simp only [Tr.pn, List.mem_cons, List.mem_append] at h; rcases h with h | h | h; (subst h; simp); (have := iha _ _ h; simp [Tr.sz] at *; omega); (have := ihc _ _ h; simp [Tr.sz] at *; omega)
  | cut m n a c iha ihc => intro p q h; simp only [Tr.pn, List.mem_cons, List.mem_append] at h; rcases h with h | h | h; (subst h; simp); (have := iha _ _ h; simp [Tr.sz] at *; omega); (have := ihc _ _ h; simp [Tr.sz] at *; omega)
theorem s18 : ∀ (n : Nat) (t : Tr) (p : List Int) (k : Nat) (S : Sto), t.sz ≤ n → n + 3 ≤ k → p.length + n ≤ 200 → callF (tb k 18) [.d t.d, .d (.tup (p.map .int))] S = .ok (.d (.lst ((t.pn p).map ptD))) S := by
  intro n
  induction n with
  | zero => intro t p k S h; have := zsz t; omega
  | succ n ih =>
    intro t p k S h1 h2 h3
    obtain ⟨k, rfl⟩ : ∃ k', k = k' + 3 := ⟨k - 3, by omega⟩
    rw [callF, t_18]
    have e0 := fun T => s17 (k := k) (S := T) t
    have hz : ∀ c, c ≤ 200 → c ≤ most := fun c hc => most_pos _ (by omega)
    have hp := pn_eq t p
    have hs : ∀ c ∈ t.prem, c.sz ≤ n := fun c hc => by
      have : c.sz < t.sz := by
        cases t <;> simp [Tr.prem] at hc <;> first | (subst hc; simp [Tr.sz]; done) | (rcases hc with rfl | rfl <;> simp [Tr.sz] <;> omega)
      omega
    have hl : ∀ c ∈ t.prem, ∀ i : Int, callF (tb (k + 2) 18) [.d c.d, .d (.tup ((p ++ [i]).map .int))] = fun S => .ok (.d (.lst ((c.pn (p ++ [i])).map ptD))) S := fun c hc i => by
      funext T
      exact ih c (p ++ [i]) (k + 2) T (hs c hc) (by omega) (by simp; omega)
    have hle : t.prem.length ≤ 2 := by cases t <;> simp [Tr.prem]
    match hpr : t.prem, hle with
    | [], _ =>
      rw [hpr] at hp e0
      simp only [List.map_nil] at e0
      simp [runF, B18, e0, rng_succ, small62_ap, hp, ptD]
    | [a], _ =>
      rw [hpr] at hp e0 hs hl
      have ha := hl a (by simp) 0
      have la := pn_len a (p ++ [0])
      have sa := hs a (by simp)
      simp only [List.map_append, List.map_cons, List.map_nil] at ha
      simp only [List.map_cons, List.map_nil] at e0
      have z1 := hz (p.length + 1) (by omega)
      have z2 := hz (1 + (a.pn (p ++ [0])).length) (by omega)
      simp [runF, B18, L18_0, e0, rng_succ, small62_ap, hp, ptD, ha, forL_cons, z1, z2]
    | [a, c], _ =>
      rw [hpr] at hp e0 hs hl
      have ha := hl a (by simp) 0
      have hc := hl c (by simp) 1
      have la := pn_len a (p ++ [0])
      have sa := hs a (by simp)
      have lc := pn_len c (p ++ [1])
      have sc := hs c (by simp)
      simp only [List.map_append, List.map_cons, List.map_nil] at ha hc
      simp only [List.map_cons, List.map_nil] at e0
      have z1 := hz (p.length + 1) (by omega)
      have z2 := hz (1 + (a.pn (p ++ [0])).length) (by omega)
      have z3 := hz ((a.pn (p ++ [0])).length + 1 + (c.pn (p ++ [1])).length) (by simp only [Tr.sz] at *; have : a.sz + c.sz < t.sz := by
                                                                                    cases t <;> simp [Tr.prem] at hpr <;> obtain ⟨rfl, rfl⟩ := hpr <;> simp [Tr.sz] <;> omega
                                                                                  omega)
      have z4 := z3
      rw [Nat.add_comm (a.pn (p ++ [0])).length 1] at z4
      simp [runF, B18, L18_0, e0, rng_succ, small62_ap, hp, ptD, ha, hc, forL_cons, z1, z2, z3, z4]
inductive Pth : Tr → List Int → Tr → Prop
  | nil (t : Tr) : Pth t [] t
  | cons {t c n : Tr} {i : Nat} {q : List Int} (h : t.prem[i]? = some c) (r : Pth c q n) : Pth t ((i : Int) :: q) n
theorem pn_pth : ∀ (n : Nat) (t : Tr) (p : List Int) (x : List Int × Tr), t.sz ≤ n → x ∈ t.pn p → ∃ s, x.1 = p ++ s ∧ Pth t s x.2 := by
  intro n
  induction n with
  | zero => intro t p x h; have := zsz t; omega
  | succ n ih =>
    intro t p x h1 h2
    rw [pn_eq] at h2
    have hs : ∀ c ∈ t.prem, c.sz ≤ n := fun c hc => by
      have : c.sz < t.sz := by
        cases t <;> simp [Tr.prem] at hc <;> first | (subst hc; simp [Tr.sz]; done) | (rcases hc with rfl | rfl <;> simp [Tr.sz] <;> omega)
      omega
    rcases List.mem_cons.mp h2 with h2 | h2
    · subst h2; exact ⟨[], by simp, .nil t⟩
    · have step : ∀ (i : Nat) (c : Tr), t.prem[i]? = some c → x ∈ c.pn (p ++ [(i : Int)]) → ∃ s, x.1 = p ++ s ∧ Pth t s x.2 := fun i c hc hx => by
        obtain ⟨s, e, r⟩ := ih c _ x (hs c (List.mem_of_getElem? hc)) hx
        exact ⟨(i : Int) :: s, by rw [e]; simp, .cons hc r⟩
      match hpr : t.prem with
      | [] => rw [hpr] at h2; cases h2
      | [a] => rw [hpr] at h2; exact step 0 a (by rw [hpr]; rfl) h2
      | [a, c] =>
        rw [hpr] at h2
        rcases List.mem_append.mp h2 with h2 | h2
        · exact step 0 a (by rw [hpr]; rfl) h2
        · exact step 1 c (by rw [hpr]; rfl) h2
      | _ :: _ :: _ :: _ => rw [hpr] at h2; cases h2
theorem walk19 {k : Nat} {S : Sto} {b : Nat} {t n : Tr} {q : List Int} (h : Pth t q n) : ∀ (x1 x2 : Option SV), ∃ x2', forL (gNm 2) (L19_0 (tb (k + 2))) b (q.map fun i => SV.d (.int i)) [some (.d t.d), x1, x2] S = .nx [some (.d n.d), x1, x2'] S := by
  induction h with
  | nil t => intro x1 x2; exact ⟨x2, rfl⟩
  | @cons t c n i q hc r ih =>
    intro x1 x2
    have e0 := s17 (k := k) (S := S) t
    have e1 : opIx S (.d (.lst (t.prem.map Tr.d))) (.d (.int (i : Int))) = some (.d c.d) := by
      rw [opIx_li, atI_n, List.map_map, List.getElem?_map, hc]
      rfl
    obtain ⟨x', e2⟩ := ih x1 (some (.d (.int (i : Int))))
    refine ⟨x', ?_⟩
    rw [List.map_cons, forL_cons]
    have e3 : L19_0 (tb (k + 2)) ⟨b, [some (.d t.d), x1, some (.d (.int (i : Int)))]⟩ S = .nx [some (.d c.d), x1, some (.d (.int (i : Int)))] S := by simp [L19_0, e0, e1]
    simp only [gNm_ap, put_ap, List.set_cons_succ, List.set_cons_zero, kTg_s, e3, kTu_nx]
    exact e2
theorem s19 {k : Nat} {S : Sto} {t n : Tr} {q : List Int} (h : Pth t q n) : callF (tb (k + 3) 19) [.d t.d, .d (.tup (q.map .int))] S = .ok (.d n.d) S := by
  rw [callF, t_19]
  obtain ⟨x', e⟩ := walk19 (k := k) (S := S) (b := S.length) h (some (.d (.tup (q.map .int)))) none
  show fin S.length (B19 (tb (k + 2)) ⟨S.length, [some (.d t.d), some (.d (.tup (q.map .int))), none]⟩ S).res = _
  have e0 : sFor (eVar 1) (gNm 2) (L19_0 (tb (k + 2))) ⟨S.length, [some (.d t.d), some (.d (.tup (q.map .int))), none]⟩ S = .nx [some (.d n.d), some (.d (.tup (q.map .int))), x'] S := by
    rw [← e]
    simp
    rfl
  unfold B19
  rw [sSeq_ap, e0, kSeq_nx]
  simp
def isOff : Tr → Bool
  | .offer _ _ => true
  | _ => false
theorem off_offer (a b : Tr) : isOff (.offer a b) = true := rfl
theorem off_own (r : Key) : isOff (.own r) = false := rfl
theorem off_cite (r : Str) : isOff (.cite r) = false := rfl
theorem off_take (r : Tr) : isOff (.take r) = false := rfl
theorem off_make (n : Str) (i : Int) (r : Tr) : isOff (.make n i r) = false := rfl
theorem off_pick (n : Key) (i : Str) (r : Tr) : isOff (.pick n i r) = false := rfl
theorem off_opn (n : Key) (s : Str) (i : Int) (r : Tr) : isOff (.opn n s i r) = false := rfl
theorem off_pay (n : Key) (m : Kd) (a r : Tr) : isOff (.pay n m a r) = false := rfl
theorem off_cut (n : Str) (m : Kd) (a r : Tr) : isOff (.cut m n a r) = false := rfl
def Tr.noff : Tr → Nat
  | .own _ => 0 | .cite _ => 0 | .take b => b.noff | .offer a b => a.noff + b.noff + 1 | .pick _ _ b => b.noff | .pay _ _ a b => a.noff + b.noff | .make _ _ b => b.noff | .opn _ _ _ b => b.noff | .cut _ _ a b => a.noff + b.noff
theorem pn_off : ∀ (t : Tr) (p : List Int), (t.pn p).countP (fun q => isOff q.2) = t.noff := by
  intro t
  induction t <;> intro p <;> simp [Tr.pn, Tr.noff, off_offer, off_own, off_cite, off_take, off_make, off_pick, off_opn, off_pay, off_cut, List.countP_cons, *]
abbrev v12 (t : Tr) (lv : Int) (due : SV) (a b : Option SV) (tot : Int) (c d e f g h : Option SV) : Ev.Env := [some (SV.d t.d), some (SV.d (.int lv)), some due, a, b, some (SV.d (.int tot)), c, d, e, f, g, h]
theorem tot_loop {k : Nat} {S : Sto} {b : Nat} (t : Tr) (lv : Int) (due : SV) (a x4 d e f g h : Option SV) : ∀ (xs : List (List Int × Tr)) (tot : Int) (c : Option SV), (∀ x ∈ xs, Pth t x.1 x.2) →
    ∃ c', forL (gNm 6) (L27_2 (tb (k + 3))) b (xs.map fun x => SV.d (ptD x)) (v12 t lv due a x4 tot c d e f g h) S = .nx (v12 t lv due a x4 (tot * 2 ^ (xs.countP fun q => isOff q.2)) c' d e f g h) S := by
  intro xs
  induction xs with
  | nil => intro tot c _; exact ⟨c, by simp [forL]⟩
  | cons x r ih =>
    intro tot c hp
    have e1 := s19 (k := k) (S := S) (hp x (List.mem_cons_self ..))
    rw [List.map_cons, forL_cons]
    simp only [gNm_ap, put_ap, List.set_cons_succ, List.set_cons_zero, kTg_s]
    have e2 : L27_2 (tb (k + 3)) ⟨b, v12 t lv due a x4 tot (some (.d (ptD x))) d e f g h⟩ S = .nx (v12 t lv due a x4 (tot * (if isOff x.2 = true then 2 else 1)) (some (.d (ptD x))) d e f g h) S := by
      obtain ⟨q, n⟩ := x
      simp only [ptD] at *
      have b2 : big64 2 = true := by decide
      cases n <;> simp [L27_2, e1, Tr.d, isOff, b2]
    rw [e2]
    simp only [kTu_nx]
    obtain ⟨c', e3⟩ := ih (tot * (if isOff x.2 = true then 2 else 1)) (some (.d (ptD x))) fun y hy => hp y (List.mem_cons_of_mem _ hy)
    refine ⟨c', ?_⟩
    rw [e3, List.countP_cons]
    by_cases h : isOff x.2 = true
    · simp only [h, if_true]
      rw [Int.pow_succ]
      congr 2
      rw [Int.mul_assoc, Int.mul_comm 2]
    · simp [h]
end Lw

set_option Elab.async false
set_option linter.all false
set_option maxRecDepth 100000
namespace Lw
open PySem L2 Ev
def ofR (r : Key) (us : List Us) : List Us := us.filter fun u => decide (u.r = r)
def bi (b : Bool) : Int := if b = true then 1 else 0
def psum (r : Key) (us : List Us) : Int := ((ofR r us).map fun u => bi u.b).sum
def msum (r : Key) (us : List Us) : Int := ((ofR r us).map fun u => u.p).sum
def dmax (r : Key) (us : List Us) : Int := (ofR r us).foldr (fun u acc => max u.d acc) 0
theorem ofR_append (r : Key) (xs ys : List Us) : ofR r (xs ++ ys) = ofR r xs ++ ofR r ys := List.filter_append _ _
theorem psum_append (r : Key) (xs ys : List Us) : psum r (xs ++ ys) = psum r xs + psum r ys := by simp [psum, ofR_append]
theorem msum_append (r : Key) (xs ys : List Us) : msum r (xs ++ ys) = msum r xs + msum r ys := by simp [msum, ofR_append]
theorem foldr_max (xs : List Us) (z : Int) (h : 0 ≤ z) : xs.foldr (fun u acc => max u.d acc) z = max (xs.foldr (fun u acc => max u.d acc) 0) z := by
  induction xs with
  | nil => simp; omega
  | cons x r ih => simp only [List.foldr_cons, ih]; omega
theorem foldr_pos (xs : List Us) : 0 ≤ xs.foldr (fun u acc => max u.d acc) 0 := by
  induction xs with
  | nil => simp
  | cons x r ih => simp only [List.foldr_cons]; omega
theorem dmax_append (r : Key) (xs ys : List Us) : dmax r (xs ++ ys) = max (dmax r xs) (dmax r ys) := by
  simp only [dmax, ofR_append, List.foldr_append]
  exact foldr_max _ _ (foldr_pos _)
theorem dmax_nn (r : Key) (xs : List Us) : 0 ≤ dmax r xs := foldr_pos _
section
variable {lv : Int} {r : Key} (hr : below lv r = true)
include hr
theorem ofR_use (q : Key) (p d : Int) (b : Bool) : ofR r (use1 lv q p d b) = if q = r then [⟨q, p, d, b⟩] else [] := by
  unfold use1
  by_cases h : q = r
  · subst h; simp [hr, ofR]
  · by_cases h2 : below lv q = true <;> simp [h2, ofR, h]
theorem psum_use (q : Key) (p d : Int) (b : Bool) : psum r (use1 lv q p d b) = if b = true then (onep q r).l else 0 := by
  unfold psum
  rw [ofR_use hr]
  by_cases h : q = r <;> cases b <;> simp [h, onep, C3.one, C3.zero, bi]
theorem msum_use (q : Key) (p d : Int) (b : Bool) : msum r (use1 lv q p d b) = p * (onep q r).m := by
  unfold msum
  rw [ofR_use hr]
  by_cases h : q = r <;> simp [h, onep, C3.one, C3.zero]
theorem dmax_use (q : Key) (p d : Int) (b : Bool) (hd : 0 ≤ d) : dmax r (use1 lv q p d b) = if decide (q = r) = true then d + (onep q r).d else 0 := by
  unfold dmax
  rw [ofR_use hr]
  by_cases h : q = r <;> simp [h, onep, C3.one, C3.zero]
  omega
omit hr in
theorem boxo_l (a : Tr) (m : Kd) : (boxo a m (a.cn r) r).l = ((a.cn r).box m).l := by
  unfold boxo
  by_cases h : a.occ r = true
  · rw [if_pos h]
  · rw [if_neg h, cn_zero a r (by simpa using h)]
    cases m <;> simp [C3.box, C3.zero]
omit hr in
theorem boxo_m (a : Tr) (m : Kd) : (boxo a m (a.cn r) r).m = ((a.cn r).box m).m := by
  unfold boxo
  by_cases h : a.occ r = true
  · rw [if_pos h]
  · rw [if_neg h, cn_zero a r (by simpa using h)]
    cases m <;> simp [C3.box, C3.zero]
omit hr in
theorem go_false : ∀ (t : Tr) (p d n : Int), psum r (t.go lv p d false n).1 = 0 := by
  have hu : ∀ q p d, psum r (use1 lv q p d false) = 0 := fun q p d => by
    unfold use1
    split
    · by_cases h : q = r <;> simp [psum, ofR, h, bi]
    · simp [psum, ofR]
  intro t
  induction t with
  | own q => intro p d n; exact hu q p d
  | cite q => intro p d n; simp [Tr.go, psum, ofR]
  | take c ih => intro p d n; exact ih p d n
  | make _ _ c ih => intro p d n; exact ih p d n
  | pick q _ c ih => intro p d n; simp [Tr.go, psum_append, hu, ih]
  | opn q _ _ c ih => intro p d n; simp [Tr.go, psum_append, hu, ih]
  | offer a c iha ihc =>
    intro p d n
    by_cases h : 0 ≤ n
    · by_cases h2 : n % 2 = 0 <;> simp [Tr.go, h, h2, iha, ihc]
    · simp [Tr.go, h, psum_append, iha, ihc]
  | pay q m a c iha ihc => intro p d n; cases m <;> simp [Tr.go, psum_append, hu, iha, ihc]
  | cut m q a c iha ihc => intro p d n; cases m <;> simp [Tr.go, psum_append, iha, ihc]
/-- at any number of choices -/
theorem go_bound : ∀ (t : Tr) (p d : Int) (b : Bool) (n : Int), t.kok → 0 ≤ p → 0 ≤ n → 0 ≤ (t.go lv p d b n).2 ∧ (b = true → (t.cn r).l ≤ psum r (t.go lv p d b n).1) ∧ msum r (t.go lv p d b n).1 ≤ p * (t.cn r).m := by
  intro t
  induction t with
  | own q => intro p d b n _ hp hn; exact ⟨hn, fun hb => by simp [Tr.go, psum_use hr, hb, Tr.cn], by simp [Tr.go, msum_use hr, Tr.cn]⟩
  | cite q => intro p d b n _ hp hn; exact ⟨hn, fun hb => by simp [Tr.go, psum, ofR, Tr.cn, C3.zero], by simp [Tr.go, msum, ofR, Tr.cn, C3.zero]⟩
  | take c ih => intro p d b n hk hp hn; exact ih p d b n hk hp hn
  | make _ _ c ih => intro p d b n hk hp hn; exact ih p d b n hk hp hn
  | pick q _ c ih =>
    intro p d b n hk hp hn
    obtain ⟨h1, h2, h3⟩ := ih p d b n hk hp hn
    refine ⟨h1, fun hb => ?_, ?_⟩
    · have := h2 hb
      simp only [Tr.go, psum_append, psum_use hr, hb, if_true, Tr.cn, C3.add] at *
      omega
    · simp only [Tr.go, msum_append, msum_use hr, Tr.cn, C3.add, Int.mul_add] at *
      omega
  | opn q _ _ c ih =>
    intro p d b n hk hp hn
    obtain ⟨h1, h2, h3⟩ := ih p d b n hk hp hn
    refine ⟨h1, fun hb => ?_, ?_⟩
    · have := h2 hb
      simp only [Tr.go, psum_append, psum_use hr, hb, if_true, Tr.cn, C3.add] at *
      omega
    · simp only [Tr.go, msum_append, msum_use hr, Tr.cn, C3.add, Int.mul_add] at *
      omega
  | offer a c iha ihc =>
    intro p d b n hk hp hn
    have hn2 : 0 ≤ n / 2 := Int.ediv_nonneg hn (by decide)
    obtain ⟨a1, a2, a3⟩ := iha p d b (n / 2) hk.1 hp hn2
    obtain ⟨c1, c2, c3⟩ := ihc p d b (n / 2) hk.2 hp hn2
    have m1 : p * (a.cn r).m ≤ p * max (a.cn r).m (c.cn r).m := Int.mul_le_mul_of_nonneg_left (by omega) hp
    have m2 : p * (c.cn r).m ≤ p * max (a.cn r).m (c.cn r).m := Int.mul_le_mul_of_nonneg_left (by omega) hp
    by_cases h2 : n % 2 = 0
    · simp only [Tr.go, hn, h2, if_true, Tr.cn, C3.alt]
      exact ⟨a1, fun hb => by have := a2 hb; omega, by omega⟩
    · simp only [Tr.go, hn, h2, if_true, if_false, Tr.cn, C3.alt]
      exact ⟨c1, fun hb => by have := c2 hb; omega, by omega⟩
  | pay q m a c iha ihc =>
    intro p d b n hk hp hn
    obtain ⟨c1, c2, c3⟩ := ihc p d b n hk.2.2 hp hn
    cases m with
    | once =>
      obtain ⟨a1, a2, a3⟩ := iha p d b _ hk.2.1 hp c1
      refine ⟨a1, fun hb => ?_, ?_⟩
      · have := a2 hb; have := c2 hb
        simp only [Tr.go, psum_append, psum_use hr, hb, if_true, Tr.cn, C3.add, boxo_l, C3.box] at *
        omega
      · simp only [Tr.go, msum_append, msum_use hr, Tr.cn, C3.add, boxo_m, C3.box, Int.mul_add] at *
        omega
    | st u v =>
      obtain ⟨u1, u2, u3⟩ := hk.1
      obtain ⟨a1, a2, a3⟩ := iha (p * u) (d + v) false _ hk.2.1 (Int.mul_nonneg hp (by omega)) c1
      refine ⟨a1, fun hb => ?_, ?_⟩
      · have := go_false (lv := lv) (r := r) a (p * u) (d + v) (c.go lv p d b n).2
        have := c2 hb
        simp only [Tr.go, psum_append, psum_use hr, hb, if_true, Tr.cn, C3.add, boxo_l, C3.box] at *
        omega
      · rw [Int.mul_assoc] at a3
        simp only [Tr.go, msum_append, msum_use hr, Tr.cn, C3.add, boxo_m, C3.box, Int.mul_add] at *
        omega
  | cut m q a c iha ihc =>
    intro p d b n hk hp hn
    obtain ⟨c1, c2, c3⟩ := ihc p d b n hk.2.2 hp hn
    cases m with
    | once =>
      obtain ⟨a1, a2, a3⟩ := iha p d b _ hk.2.1 hp c1
      refine ⟨a1, fun hb => ?_, ?_⟩
      · have := a2 hb; have := c2 hb
        simp only [Tr.go, psum_append, hb, if_true, Tr.cn, C3.add, boxo_l, C3.box] at *
        omega
      · simp only [Tr.go, msum_append, Tr.cn, C3.add, boxo_m, C3.box, Int.mul_add] at *
        omega
    | st u v =>
      obtain ⟨u1, u2, u3⟩ := hk.1
      obtain ⟨a1, a2, a3⟩ := iha (p * u) (d + v) false _ hk.2.1 (Int.mul_nonneg hp (by omega)) c1
      refine ⟨a1, fun hb => ?_, ?_⟩
      · have := go_false (lv := lv) (r := r) a (p * u) (d + v) (c.go lv p d b n).2
        have := c2 hb
        simp only [Tr.go, psum_append, hb, if_true, Tr.cn, C3.add, boxo_l, C3.box] at *
        omega
      · rw [Int.mul_assoc] at a3
        simp only [Tr.go, msum_append, Tr.cn, C3.add, boxo_m, C3.box, Int.mul_add] at *
        omega
end
end Lw

set_option Elab.async false
set_option linter.all false
set_option maxRecDepth 100000
namespace Lw
open PySem L2 Ev
/-- some digits lead to the uses us -/
def Cho (lv : Int) (t : Tr) (p d : Int) (b : Bool) (us : List Us) : Prop := ∃ (cb : Nat) (k : Int), cb ≤ t.noff ∧ 0 ≤ k ∧ k < 2 ^ cb ∧ ∀ rest : Int, 0 ≤ rest → t.go lv p d b (k + 2 ^ cb * rest) = (us, rest)
theorem two_pos (n : Nat) : (0 : Int) < 2 ^ n := Int.pow_pos (by decide)
theorem cho_seq {lv : Int} {t a c : Tr} {p d p' d' : Int} {b b' : Bool} {u ua uc : List Us} (hc : Cho lv c p d b uc) (ha : Cho lv a p' d' b' ua) (hn : t.noff = a.noff + c.noff)
    (hg : ∀ n, t.go lv p d b n = (u ++ ((c.go lv p d b n).1 ++ (a.go lv p' d' b' (c.go lv p d b n).2).1), (a.go lv p' d' b' (c.go lv p d b n).2).2)) : Cho lv t p d b (u ++ (uc ++ ua)) := by
  obtain ⟨cb, kc, c1, c2, c3, c4⟩ := hc
  obtain ⟨ca, ka, a1, a2, a3, a4⟩ := ha
  have tp := two_pos cb
  refine ⟨cb + ca, kc + 2 ^ cb * ka, by omega, ?_, ?_, fun rest hr => ?_⟩
  · have := Int.mul_nonneg (Int.le_of_lt tp) a2; omega
  · rw [Int.pow_add]
    have : 2 ^ cb * (ka + 1) ≤ 2 ^ cb * 2 ^ ca := Int.mul_le_mul_of_nonneg_left (by omega) (Int.le_of_lt tp)
    rw [Int.mul_add, Int.mul_one] at this
    omega
  · have h1 : 0 ≤ ka + 2 ^ ca * rest := by have := Int.mul_nonneg (Int.le_of_lt (two_pos ca)) hr; omega
    have e : kc + 2 ^ cb * ka + 2 ^ (cb + ca) * rest = kc + 2 ^ cb * (ka + 2 ^ ca * rest) := by
      rw [Int.pow_add, Int.mul_add, Int.mul_assoc, Int.add_assoc]
    rw [e, hg, c4 _ h1]
    simp only [a4 _ hr]
theorem cho_one {lv : Int} {t c : Tr} {p d : Int} {b : Bool} {u uc : List Us} (hc : Cho lv c p d b uc) (hn : t.noff = c.noff) (hg : ∀ n, t.go lv p d b n = (u ++ (c.go lv p d b n).1, (c.go lv p d b n).2)) : Cho lv t p d b (u ++ uc) := by
  obtain ⟨cb, kc, c1, c2, c3, c4⟩ := hc
  exact ⟨cb, kc, by omega, c2, c3, fun rest hr => by rw [hg, c4 _ hr]⟩
theorem cho_zero {lv : Int} {t : Tr} {p d : Int} {b : Bool} {u : List Us} (hg : ∀ n, t.go lv p d b n = (u, n)) : Cho lv t p d b u := ⟨0, 0, Nat.zero_le _, by decide, by decide, fun rest hr => by rw [hg]; simp⟩
theorem cho_left {lv : Int} {a c : Tr} {p d : Int} {b : Bool} {u : List Us} (h : Cho lv a p d b u) : Cho lv (.offer a c) p d b u := by
  obtain ⟨cb, k, c1, c2, c3, c4⟩ := h
  refine ⟨cb + 1, 2 * k, by simp only [Tr.noff]; omega, by omega, by rw [Int.pow_succ]; omega, fun rest hr => ?_⟩
  have h1 : 0 ≤ 2 ^ cb * rest := Int.mul_nonneg (Int.le_of_lt (two_pos cb)) hr
  have e : 2 * k + 2 ^ (cb + 1) * rest = 2 * (k + 2 ^ cb * rest) := by
    rw [Int.pow_succ, Int.mul_add, Int.mul_comm (2 ^ cb) 2, Int.mul_assoc]
  rw [e]
  have e1 : (2 * (k + 2 ^ cb * rest)) % 2 = 0 := by omega
  have e2 : (2 * (k + 2 ^ cb * rest)) / 2 = k + 2 ^ cb * rest := by omega
  have e3 : 0 ≤ 2 * (k + 2 ^ cb * rest) := by omega
  simp only [Tr.go, e1, e2, e3, if_true, c4 _ hr]
theorem cho_right {lv : Int} {a c : Tr} {p d : Int} {b : Bool} {u : List Us} (h : Cho lv c p d b u) : Cho lv (.offer a c) p d b u := by
  obtain ⟨cb, k, c1, c2, c3, c4⟩ := h
  refine ⟨cb + 1, 2 * k + 1, by simp only [Tr.noff]; omega, by omega, by rw [Int.pow_succ]; omega, fun rest hr => ?_⟩
  have h1 : 0 ≤ 2 ^ cb * rest := Int.mul_nonneg (Int.le_of_lt (two_pos cb)) hr
  have e : 2 * k + 1 + 2 ^ (cb + 1) * rest = 2 * (k + 2 ^ cb * rest) + 1 := by
    rw [Int.pow_succ, Int.mul_add, Int.mul_comm (2 ^ cb) 2, Int.mul_assoc]
    omega
  rw [e]
  have e1 : ¬ (2 * (k + 2 ^ cb * rest) + 1) % 2 = 0 := by omega
  have e2 : (2 * (k + 2 ^ cb * rest) + 1) / 2 = k + 2 ^ cb * rest := by omega
  have e3 : 0 ≤ 2 * (k + 2 ^ cb * rest) + 1 := by omega
  simp only [Tr.go, e1, e2, e3, if_true, if_false, c4 _ hr]
section
variable {lv : Int} {r : Key} (hr : below lv r = true)
include hr
theorem att_min : ∀ (t : Tr) (p d : Int) (b : Bool), ∃ us, Cho lv t p d b us ∧ (b = true → psum r us = (t.cn r).l) := by
  intro t
  induction t with
  | own q => intro p d b; exact ⟨_, cho_zero fun n => rfl, fun hb => by simp [psum_use hr, hb, Tr.cn]⟩
  | cite q => intro p d b; exact ⟨[], cho_zero fun n => rfl, fun hb => by simp [psum, ofR, Tr.cn, C3.zero]⟩
  | take c ih => intro p d b; obtain ⟨us, h, e⟩ := ih p d b; exact ⟨_, cho_one (u := []) h rfl fun n => rfl, e⟩
  | make _ _ c ih => intro p d b; obtain ⟨us, h, e⟩ := ih p d b; exact ⟨_, cho_one (u := []) h rfl fun n => rfl, e⟩
  | pick q _ c ih => intro p d b; obtain ⟨us, h, e⟩ := ih p d b; exact ⟨_, cho_one h rfl fun n => rfl, fun hb => by simp [psum_append, psum_use hr, hb, e hb, Tr.cn, C3.add]⟩
  | opn q _ _ c ih => intro p d b; obtain ⟨us, h, e⟩ := ih p d b; exact ⟨_, cho_one h rfl fun n => rfl, fun hb => by simp [psum_append, psum_use hr, hb, e hb, Tr.cn, C3.add]⟩
  | offer a c iha ihc =>
    intro p d b
    obtain ⟨ua, ha, ea⟩ := iha p d b
    obtain ⟨uc, hc, ec⟩ := ihc p d b
    by_cases h : (a.cn r).l ≤ (c.cn r).l
    · exact ⟨ua, cho_left ha, fun hb => by rw [ea hb]; simp only [Tr.cn, C3.alt]; omega⟩
    · exact ⟨uc, cho_right hc, fun hb => by rw [ec hb]; simp only [Tr.cn, C3.alt]; omega⟩
  | pay q m a c iha ihc =>
    intro p d b
    obtain ⟨uc, hc, ec⟩ := ihc p d b
    cases m with
    | once =>
      obtain ⟨ua, ha, ea⟩ := iha p d b
      exact ⟨_, cho_seq hc ha rfl fun n => rfl, fun hb => by simp only [psum_append, psum_use hr, hb, if_true, ea hb, ec hb, Tr.cn, C3.add, boxo_l, C3.box]; omega⟩
    | st u v =>
      obtain ⟨ua, ha, ea⟩ := iha (p * u) (d + v) false
      refine ⟨_, cho_seq hc ha rfl fun n => rfl, fun hb => ?_⟩
      obtain ⟨ca, k, _, _, _, z⟩ := ha
      have e0 := go_false (lv := lv) (r := r) a (p * u) (d + v) (k + 2 ^ ca * 0)
      rw [z 0 (Int.le_refl _)] at e0
      simp only at e0
      simp only [psum_append, psum_use hr, hb, if_true, e0, ec hb, Tr.cn, C3.add, boxo_l, C3.box]
      omega
  | cut m q a c iha ihc =>
    intro p d b
    obtain ⟨uc, hc, ec⟩ := ihc p d b
    cases m with
    | once =>
      obtain ⟨ua, ha, ea⟩ := iha p d b
      exact ⟨_, cho_seq (u := []) hc ha rfl fun n => rfl, fun hb => by simp only [List.nil_append, psum_append, ea hb, ec hb, Tr.cn, C3.add, boxo_l, C3.box]; omega⟩
    | st u v =>
      obtain ⟨ua, ha, ea⟩ := iha (p * u) (d + v) false
      refine ⟨_, cho_seq (u := []) hc ha rfl fun n => rfl, fun hb => ?_⟩
      obtain ⟨ca, k, _, _, _, z⟩ := ha
      have e0 := go_false (lv := lv) (r := r) a (p * u) (d + v) (k + 2 ^ ca * 0)
      rw [z 0 (Int.le_refl _)] at e0
      simp only at e0
      simp only [List.nil_append, psum_append, e0, ec hb, Tr.cn, C3.add, boxo_l, C3.box]
      omega
theorem att_max : ∀ (t : Tr) (p d : Int) (b : Bool), ∃ us, Cho lv t p d b us ∧ msum r us = p * (t.cn r).m := by
  intro t
  induction t with
  | own q => intro p d b; exact ⟨_, cho_zero fun n => rfl, by simp [msum_use hr, Tr.cn]⟩
  | cite q => intro p d b; exact ⟨[], cho_zero fun n => rfl, by simp [msum, ofR, Tr.cn, C3.zero]⟩
  | take c ih => intro p d b; obtain ⟨us, h, e⟩ := ih p d b; exact ⟨_, cho_one (u := []) h rfl fun n => rfl, e⟩
  | make _ _ c ih => intro p d b; obtain ⟨us, h, e⟩ := ih p d b; exact ⟨_, cho_one (u := []) h rfl fun n => rfl, e⟩
  | pick q _ c ih => intro p d b; obtain ⟨us, h, e⟩ := ih p d b; exact ⟨_, cho_one h rfl fun n => rfl, by simp [msum_append, msum_use hr, e, Tr.cn, C3.add, Int.mul_add]⟩
  | opn q _ _ c ih => intro p d b; obtain ⟨us, h, e⟩ := ih p d b; exact ⟨_, cho_one h rfl fun n => rfl, by simp [msum_append, msum_use hr, e, Tr.cn, C3.add, Int.mul_add]⟩
  | offer a c iha ihc =>
    intro p d b
    obtain ⟨ua, ha, ea⟩ := iha p d b
    obtain ⟨uc, hc, ec⟩ := ihc p d b
    by_cases h : (c.cn r).m ≤ (a.cn r).m
    · exact ⟨ua, cho_left ha, by rw [ea]; simp only [Tr.cn, C3.alt]; congr 1; omega⟩
    · exact ⟨uc, cho_right hc, by rw [ec]; simp only [Tr.cn, C3.alt]; congr 1; omega⟩
  | pay q m a c iha ihc =>
    intro p d b
    obtain ⟨uc, hc, ec⟩ := ihc p d b
    cases m with
    | once =>
      obtain ⟨ua, ha, ea⟩ := iha p d b
      exact ⟨_, cho_seq hc ha rfl fun n => rfl, by simp only [msum_append, msum_use hr, ea, ec, Tr.cn, C3.add, boxo_m, C3.box, Int.mul_add]; omega⟩
    | st u v =>
      obtain ⟨ua, ha, ea⟩ := iha (p * u) (d + v) false
      exact ⟨_, cho_seq hc ha rfl fun n => rfl, by rw [Int.mul_assoc] at ea; simp only [msum_append, msum_use hr, ea, ec, Tr.cn, C3.add, boxo_m, C3.box, Int.mul_add]; omega⟩
  | cut m q a c iha ihc =>
    intro p d b
    obtain ⟨uc, hc, ec⟩ := ihc p d b
    cases m with
    | once =>
      obtain ⟨ua, ha, ea⟩ := iha p d b
      exact ⟨_, cho_seq (u := []) hc ha rfl fun n => rfl, by simp only [List.nil_append, msum_append, ea, ec, Tr.cn, C3.add, boxo_m, C3.box, Int.mul_add]; omega⟩
    | st u v =>
      obtain ⟨ua, ha, ea⟩ := iha (p * u) (d + v) false
      exact ⟨_, cho_seq (u := []) hc ha rfl fun n => rfl, by rw [Int.mul_assoc] at ea; simp only [List.nil_append, msum_append, ea, ec, Tr.cn, C3.add, boxo_m, C3.box, Int.mul_add]; omega⟩
omit hr in
theorem onep_d (q : Key) : (onep q r).d = 0 := by unfold onep; split <;> rfl
omit hr in
theorem cn_d0 {t : Tr} (h : t.occ r = false) : (t.cn r).d = 0 := by rw [cn_zero t r h]; rfl
theorem ex_use (q : Key) (p d : Int) (b : Bool) : (∃ u ∈ use1 lv q p d b, u.r = r) ↔ q = r := by
  unfold use1
  by_cases h : q = r
  · subst h; simp [hr]
  · by_cases h2 : below lv q = true <;> simp [h2, h]
omit hr in
theorem ex_append (xs ys : List Us) : (∃ u ∈ xs ++ ys, u.r = r) ↔ (∃ u ∈ xs, u.r = r) ∨ ∃ u ∈ ys, u.r = r := by
  constructor
  · rintro ⟨u, h, e⟩
    rcases List.mem_append.mp h with h | h
    · exact .inl ⟨u, h, e⟩
    · exact .inr ⟨u, h, e⟩
  · rintro (⟨u, h, e⟩ | ⟨u, h, e⟩)
    · exact ⟨u, List.mem_append_left _ h, e⟩
    · exact ⟨u, List.mem_append_right _ h, e⟩
/-- all of the uses, the days among them -/
theorem go_all : ∀ (t : Tr) (p d : Int) (b : Bool), t.kok → 0 ≤ d → (t.go lv p d b (-1)).2 = -1 ∧ dmax r (t.go lv p d b (-1)).1 = (if t.occ r = true then d + (t.cn r).d else 0) ∧ ((∃ u ∈ (t.go lv p d b (-1)).1, u.r = r) ↔ t.occ r = true) ∧ 0 ≤ (t.cn r).d := by
  intro t
  induction t with
  | own q =>
    intro p d b _ hd
    exact ⟨rfl, by simp [Tr.go, dmax_use hr q p d b hd, Tr.occ, Tr.cn], by simp only [Tr.go, ex_use hr, Tr.occ, decide_eq_true_eq], by simp only [Tr.cn, onep_d]; decide⟩
  | cite q => intro p d b _ hd; exact ⟨rfl, by simp [Tr.go, dmax, ofR, Tr.occ], by simp [Tr.go, Tr.occ], by simp [Tr.cn, C3.zero]⟩
  | take c ih => intro p d b hk hd; exact ih p d b hk hd
  | make _ _ c ih => intro p d b hk hd; exact ih p d b hk hd
  | pick q _ c ih =>
    intro p d b hk hd
    obtain ⟨h1, h2, h3, h4⟩ := ih p d b hk hd
    refine ⟨h1, ?_, ?_, ?_⟩
    · simp only [Tr.go, dmax_append, dmax_use hr q p d b hd, h2, Tr.occ, Tr.cn, C3.add, onep_d]
      by_cases e : q = r
      · cases o : c.occ r
        · have := cn_d0 o; simp [e]; omega
        · simp [e]; omega
      · cases o : c.occ r
        · simp [e]
        · simp [e]; omega
    · simp only [Tr.go, ex_append, ex_use hr, h3, Tr.occ, Bool.or_eq_true, decide_eq_true_eq]
    · simp only [Tr.cn, C3.add, onep_d]; omega
  | opn q _ _ c ih =>
    intro p d b hk hd
    obtain ⟨h1, h2, h3, h4⟩ := ih p d b hk hd
    refine ⟨h1, ?_, ?_, ?_⟩
    · simp only [Tr.go, dmax_append, dmax_use hr q p d b hd, h2, Tr.occ, Tr.cn, C3.add, onep_d]
      by_cases e : q = r
      · cases o : c.occ r
        · have := cn_d0 o; simp [e]; omega
        · simp [e]; omega
      · cases o : c.occ r
        · simp [e]
        · simp [e]; omega
    · simp only [Tr.go, ex_append, ex_use hr, h3, Tr.occ, Bool.or_eq_true, decide_eq_true_eq]
    · simp only [Tr.cn, C3.add, onep_d]; omega
  | offer a c iha ihc =>
    intro p d b hk hd
    obtain ⟨c1, c2, c3, c4⟩ := ihc p d b hk.2 hd
    obtain ⟨a1, a2, a3, a4⟩ := iha p d b hk.1 hd
    have hn : ¬ (0 : Int) ≤ -1 := by decide
    simp only [Tr.go, hn, if_false, c1, a1, dmax_append, ex_append, a2, c2, a3, c3, Tr.occ, Tr.cn, C3.alt, Bool.or_eq_true, true_and]
    refine ⟨?_, or_comm, by omega⟩
    cases o : a.occ r <;> cases o' : c.occ r
    · simp
    · have := cn_d0 o; simp; omega
    · have := cn_d0 o'; simp; omega
    · simp; omega
  | pay q m a c iha ihc =>
    intro p d b hk hd
    obtain ⟨c1, c2, c3, c4⟩ := ihc p d b hk.2.2 hd
    cases m with
    | once =>
      obtain ⟨a1, a2, a3, a4⟩ := iha p d b hk.2.1 hd
      simp only [Tr.go, c1, a1, dmax_append, ex_append, dmax_use hr q p d b hd, ex_use hr, a2, c2, a3, c3, Tr.occ, Tr.cn, C3.add, boxo, C3.box, onep_d, Bool.or_eq_true, decide_eq_true_eq, true_and]
      refine ⟨?_, by rw [or_assoc, or_comm (a := c.occ r = true)], ?_⟩
      · by_cases e : q = r <;> cases o : a.occ r <;> cases o' : c.occ r <;> simp [e, C3.zero] <;> (try have := cn_d0 o) <;> (try have := cn_d0 o') <;> omega
      · cases o : a.occ r <;> simp [C3.zero] <;> omega
    | st u v =>
      obtain ⟨u1, u2, u3⟩ := hk.1
      obtain ⟨a1, a2, a3, a4⟩ := iha (p * u) (d + v) false hk.2.1 (by omega)
      simp only [Tr.go, c1, a1, dmax_append, ex_append, dmax_use hr q p d b hd, ex_use hr, a2, c2, a3, c3, Tr.occ, Tr.cn, C3.add, boxo, C3.box, onep_d, Bool.or_eq_true, decide_eq_true_eq, true_and]
      refine ⟨?_, by rw [or_assoc, or_comm (a := c.occ r = true)], ?_⟩
      · by_cases e : q = r <;> cases o : a.occ r <;> cases o' : c.occ r <;> simp [e, C3.zero] <;> (try have := cn_d0 o) <;> (try have := cn_d0 o') <;> omega
      · cases o : a.occ r <;> simp [C3.zero] <;> omega
  | cut m q a c iha ihc =>
    intro p d b hk hd
    obtain ⟨c1, c2, c3, c4⟩ := ihc p d b hk.2.2 hd
    cases m with
    | once =>
      obtain ⟨a1, a2, a3, a4⟩ := iha p d b hk.2.1 hd
      simp only [Tr.go, c1, a1, dmax_append, ex_append, a2, c2, a3, c3, Tr.occ, Tr.cn, C3.add, boxo, C3.box, Bool.or_eq_true, true_and]
      refine ⟨?_, or_comm, ?_⟩
      · cases o : a.occ r <;> cases o' : c.occ r <;> simp [C3.zero] <;> (try have := cn_d0 o) <;> (try have := cn_d0 o') <;> omega
      · cases o : a.occ r <;> simp [C3.zero] <;> omega
    | st u v =>
      obtain ⟨u1, u2, u3⟩ := hk.1
      obtain ⟨a1, a2, a3, a4⟩ := iha (p * u) (d + v) false hk.2.1 (by omega)
      simp only [Tr.go, c1, a1, dmax_append, ex_append, a2, c2, a3, c3, Tr.occ, Tr.cn, C3.add, boxo, C3.box, Bool.or_eq_true, true_and]
      refine ⟨?_, or_comm, ?_⟩
      · cases o : a.occ r <;> cases o' : c.occ r <;> simp [C3.zero] <;> (try have := cn_d0 o) <;> (try have := cn_d0 o') <;> omega
      · cases o : a.occ r <;> simp [C3.zero] <;> omega
end
end Lw

set_option Elab.async false
set_option linter.all false
set_option maxRecDepth 100000
namespace Lw
open PySem L2 Ev
/-! ### due -/
def tD (ks : List Key) (f : Key → C3) : Dv := .dic ks (ks.map fun r => (f r).t)
def tM (ks : List Key) (f : Key → C3) : MO := .dic ks ((ks.map fun r => (f r).t).map .d)
theorem put_t (r : Key) (x : C3) (f : Key → C3) (ks : List Key) : dPut r (.d x.t) ks ((ks.map fun r => (f r).t).map .d) = (insK r ks, ((insK r ks).map fun a => (updF f r x a).t).map .d) := by
  unfold insK
  by_cases h : hasK r ks = true
  · rw [dPut_y h, if_pos h, List.map_map]
    refine Prod.ext rfl ?_
    show List.zipWith _ ks (ks.map _) = _
    rw [zip_f, List.map_map]
    refine List.map_congr_left fun a _ => ?_
    unfold updF
    simp only [Function.comp_apply]
    by_cases e : a = r <;> simp [e]
  · have h' : hasK r ks = false := by simpa using h
    rw [dPut_n h', if_neg h]
    refine Prod.ext rfl ?_
    show _ ++ _ = _
    rw [List.map_append, List.map_append, List.map_map, List.map_map]
    refine congr (congrArg _ (List.map_congr_left fun a ha => ?_)) ?_
    · have e : a ≠ r := fun e => h (hasK_iff.mpr (e ▸ ha))
      simp [updF, e]
    · simp [updF]
section
variable {S : Sto}
theorem ixT (ks : List Key) (f : Key → C3) (r : Key) (h : r ∈ ks) : opIx (S ++ [tM ks f]) (.m S.length) (keyS r) = some (.d (f r).t) := by
  have e := opIx_kmd (k := r) (show (S ++ [tM ks f])[S.length]? = some (.dic ks ((ks.map fun r => (f r).t).map .d)) from top_m _)
  rw [e, List.map_map, look_f, if_pos (hasK_iff.mpr h)]
  rfl
theorem putT {b : Nat} (ks : List Key) (f : Key → C3) (r : Key) (x : C3) (h : ks.length < most) : putIx b (S ++ [tM ks f]) (.m S.length) (keyS r) (.d x.t) = some (S ++ [tM (insK r ks) (updF f r x)]) := by
  have e := putIx_kmd (b := b) (k := r) (x := .d x.t) (show (S ++ [tM ks f])[S.length]? = some (.dic ks ((ks.map fun r => (f r).t).map .d)) from top_m _) rfl h
  rw [e, put_t]
  simp [tM]
theorem isDicT (ks : List Key) (f : Key → C3) : isDic (S ++ [tM ks f]) (.m S.length) = true := isDic_m (top_m (tM ks f))
def c1000 : C3 := ⟨1000, 0, 0⟩
theorem getT (ks : List Key) (f : Key → C3) (r : Key) (h : r ∉ ks → f r = c1000) : getS (S ++ [tM ks f]) (.m S.length) (keyS r) (.d (.tup [.int 1000, .int 0, .int 0])) = some (.d (f r).t) := by
  rw [getS_m (show (S ++ [tM ks f])[S.length]? = some (.dic ks ((ks.map fun r => (f r).t).map .d)) from top_m _), kOf_key, getR_s, List.map_map, look_f]
  by_cases h1 : hasK r ks = true
  · rw [if_pos h1]; rfl
  · rw [if_neg h1, h fun z => h1 (hasK_iff.mpr z)]; rfl
end
/-- the first pass -/
def d1 (s : List Key × (Key → C3)) (u : Us) : List Key × (Key → C3) := (insK u.r s.1, updF s.2 u.r ⟨(s.2 u.r).l, (s.2 u.r).m, max (s.2 u.r).d u.d⟩)
theorem d1_mem {q : Key} : ∀ (us : List Us) (s), q ∈ (us.foldl d1 s).1 ↔ q ∈ s.1 ∨ ∃ u ∈ us, u.r = q
  | [], s => by simp
  | u :: r, s => by
    rw [List.foldl_cons, d1_mem r, show (d1 s u).1 = insK u.r s.1 from rfl, mem_ins]
    simp only [List.mem_cons]
    constructor
    · rintro ((h | h) | ⟨x, h1, h2⟩)
      · exact .inl h
      · exact .inr ⟨u, .inl rfl, h.symm⟩
      · exact .inr ⟨x, .inr h1, h2⟩
    · rintro (h | ⟨x, h1 | h1, h2⟩)
      · exact .inl (.inl h)
      · subst h1; exact .inl (.inr h2.symm)
      · exact .inr ⟨x, h1, h2⟩
theorem d1_nd : ∀ (us : List Us) (s : List Key × (Key → C3)), s.1.Nodup → (us.foldl d1 s).1.Nodup
  | [], s, h => h
  | u :: r, s, h => d1_nd r _ (nd_ins h)
theorem d1_len : ∀ (us : List Us) (s : List Key × (Key → C3)), (us.foldl d1 s).1.length ≤ s.1.length + us.length
  | [], s => by simp
  | u :: r, s => by
    have := d1_len r (d1 s u)
    have h := ins_len u.r s.1
    simp only [List.foldl_cons, List.length_cons, d1] at *
    omega
theorem dmax_cons (q : Key) (u : Us) (us : List Us) : dmax q (u :: us) = if u.r = q then max u.d (dmax q us) else dmax q us := by
  unfold dmax ofR
  by_cases h : u.r = q <;> simp [h]
theorem d1_val {q : Key} : ∀ (us : List Us) (s : List Key × (Key → C3)), 0 ≤ (s.2 q).d → (us.foldl d1 s).2 q = ⟨(s.2 q).l, (s.2 q).m, max (s.2 q).d (dmax q us)⟩
  | [], s, h => by
    simp only [List.foldl_nil, dmax, ofR, List.filter_nil, List.foldr_nil]
    have : max (s.2 q).d 0 = (s.2 q).d := by omega
    rw [this]
  | u :: r, s, h => by
    have e : (d1 s u).2 q = if q = u.r then ⟨(s.2 u.r).l, (s.2 u.r).m, max (s.2 u.r).d u.d⟩ else s.2 q := rfl
    rw [List.foldl_cons, d1_val r (d1 s u) (by rw [e]; split; (rename_i z; subst z; simp only; omega); exact h), e, dmax_cons]
    by_cases z : q = u.r
    · subst z
      simp only [if_true]
      congr 1
      omega
    · rw [if_neg z, if_neg (fun y => z y.symm)]
abbrev v27 (t : Tr) (lv : Int) (j : Nat) (a b c d e f g h i : Option SV) : Ev.Env := [some (SV.d t.d), some (SV.d (.int lv)), some (.m j), a, b, c, d, e, f, g, h, i]
theorem mx2' (a b : Int) : max a b = max a b := rfl
theorem d1_loop {k : Nat} {S : Sto} {b : Nat} (t : Tr) (lv : Int) (c d e f g h i : Option SV) : ∀ (us : List Us) (s : List Key × (Key → C3)) (x3 x4 : Option SV), s.1.length + us.length ≤ 500 → (∀ r, r ∉ s.1 → s.2 r = c1000) →
    ∃ x3' x4', forL (gNm 3) (L27_3 (tb k)) b (us.map fun u => SV.d u.e) (v27 t lv S.length x3 x4 c d e f g h i) (S ++ [tM s.1 s.2]) = .nx (v27 t lv S.length x3' x4' c d e f g h i) (S ++ [tM (us.foldl d1 s).1 (us.foldl d1 s).2]) := by
  intro us
  induction us with
  | nil => intro s x3 x4 _ _; exact ⟨x3, x4, rfl⟩
  | cons u r ih =>
    intro s x3 x4 hl hn
    simp only [List.length_cons] at hl
    have hi := ins_len u.r s.1
    have e1 := getT (S := S) s.1 s.2 u.r (hn u.r)
    have e2 := putT (S := S) (b := b) s.1 s.2 u.r ⟨(s.2 u.r).l, (s.2 u.r).m, max (s.2 u.r).d u.d⟩ (lt_most (show s.1.length < 500 by omega) (by decide))
    have e3 := isDicT (S := S) s.1 s.2
    obtain ⟨x3', x4', e4⟩ := ih (d1 s u) (some (.d u.e)) (some (.d (s.2 u.r).t)) (by simp only [d1]; omega) fun q hq => by
      simp only [d1] at hq ⊢
      rw [mem_ins, not_or] at hq
      unfold updF
      rw [if_neg hq.2]
      exact hn q hq.1
    refine ⟨x3', x4', ?_⟩
    rw [List.map_cons, forL_cons]
    simp only [gNm_ap, put_ap, List.set_cons_succ, List.set_cons_zero, kTg_s]
    have e5 : L27_3 (tb k) ⟨b, v27 t lv S.length (some (.d u.e)) x4 c d e f g h i⟩ (S ++ [tM s.1 s.2]) = .nx (v27 t lv S.length (some (.d u.e)) (some (.d (s.2 u.r).t)) c d e f g h i) (S ++ [tM (d1 s u).1 (d1 s u).2]) := by
      simp only [C3.t] at e1 e2 ⊢
      simp [L27_3, Us.e, e1, e2, e3, mx2, d1]
    rw [e5]
    simp only [kTu_nx]
    exact e4
end Lw

set_option Elab.async false
set_option linter.all false
set_option maxRecDepth 100000
namespace Lw
open PySem L2 Ev
theorem eq_key (T : Sto) (a b : Key) : opEq T (keyS a) (keyS b) = some (.bl (decide (a = b))) := by
  cases a <;> cases b <;> simp [keyD] <;> first | rfl | (rw [Bool.eq_iff_iff]; simp)
def u2 (us : List Us) (c : C3) (r : Key) : C3 := ⟨min c.l (psum r us), max c.m (msum r us), c.d⟩
def up2 (us : List Us) (f : Key → C3) (r : Key) : Key → C3 := updF f r (u2 us (f r) r)
section
variable {k : Nat} {S : Sto}
theorem sumE (T : Sto) (is : List Int) : biSum T [.d (.lst (is.map .int))] = some (.int is.sum) := by
  simp [biSum, sumI_map]
theorem lc_sum {b : Nat} (us : List Us) (hl : us.length ≤ 300) (t : Tr) (lv : Int) (j : Nat) (a x4 x5 x6 x7 x10 x11 : Option SV) (r : Key) (T : Sto) :
    eLc [3] (eVar 8) (gNm 3) (T27_0 (tb k)) (E27_1 (tb k)) ⟨b, v27 t lv j a x4 x5 x6 x7 (some (.d (.lst (us.map Us.e)))) (some (keyS r)) x10 x11⟩ T = .ok (.d (.lst (((ofR r us).map fun u => bi u.b).map .int))) T ∧
    eLc [3] (eVar 8) (gNm 3) (T27_0 (tb k)) (E27_0 (tb k)) ⟨b, v27 t lv j a x4 x5 x6 x7 (some (.d (.lst (us.map Us.e)))) (some (keyS r)) x10 x11⟩ T = .ok (.d (.lst (((ofR r us).map fun u => u.p).map .int))) T := by
  have ht : ∀ (u : Us) (T' : Sto), T27_0 (tb k) ⟨T.length, [some (.d t.d), some (.d (.int lv)), some (.m j), some (.d u.e), x4, x5, x6, x7, some (.d (.lst (us.map Us.e))), some (keyS r), x10, x11]⟩ T' = .ok (decide (u.r = r)) T' := fun u T' => by
    have h := eq_key T' u.r r
    simp [T27_0, Us.e, h]
  constructor
  · have e := lcAll_A (S := T) (v := v27 t lv j a x4 x5 x6 x7 (some (.d (.lst (us.map Us.e)))) (some (keyS r)) x10 x11) (vs := [3]) (tg := gNm 3) (tt := T27_0 (tb k)) (te := E27_1 (tb k)) (SV.d ∘ Us.e) us (fun u => decide (u.r = r)) (fun u => .int (bi u.b)) (most_pos _ (by omega)) fun u _ T' =>
      ⟨_, rfl, ht u T', fun _ => by simp [E27_1, wipeE, Us.e, biInt]; cases u.b <;> simp [bi, biInt]⟩
    rw [← List.map_map] at e
    rw [List.map_map]
    exact e
  · have e := lcAll_A (S := T) (v := v27 t lv j a x4 x5 x6 x7 (some (.d (.lst (us.map Us.e)))) (some (keyS r)) x10 x11) (vs := [3]) (tg := gNm 3) (tt := T27_0 (tb k)) (te := E27_0 (tb k)) (SV.d ∘ Us.e) us (fun u => decide (u.r = r)) (fun u => .int u.p) (most_pos _ (by omega)) fun u _ T' =>
      ⟨_, rfl, ht u T', fun _ => by simp [E27_0, wipeE, Us.e]⟩
    rw [← List.map_map] at e
    rw [List.map_map]
    exact e
theorem turn2 {b : Nat} (us : List Us) (hl : us.length ≤ 300) (t : Tr) (lv : Int) (a x4 x5 x6 x7 x10 x11 : Option SV) (ks : List Key) (f : Key → C3) (r : Key) (hr : r ∈ ks) (hk : ks.length ≤ 400) :
    ∃ y4 y10 y11, L27_0 (tb k) ⟨b, v27 t lv S.length a x4 x5 x6 x7 (some (.d (.lst (us.map Us.e)))) (some (keyS r)) x10 x11⟩ (S ++ [tM ks f]) = .nx (v27 t lv S.length a y4 x5 x6 x7 (some (.d (.lst (us.map Us.e)))) (some (keyS r)) y10 y11) (S ++ [tM ks (up2 us f r)]) := by
  have e1 := ixT (S := S) ks f r hr
  have e2 := putT (S := S) (b := b) ks f r (u2 us (f r) r) (lt_most (show ks.length < 500 by omega) (by decide))
  have hi : insK r ks = ks := if_pos (hasK_iff.mpr hr)
  rw [hi] at e2
  have l1 := fun y4 y10 => (lc_sum (k := k) (b := b) us hl t lv S.length a y4 x5 x6 x7 y10 x11 r (S ++ [tM ks f])).1
  have l2 := fun y4 y10 => (lc_sum (k := k) (b := b) us hl t lv S.length a y4 x5 x6 x7 y10 x11 r (S ++ [tM ks f])).2
  refine ⟨some (.d (f r).t), some (.d (.int (psum r us))), some (.d (.int (msum r us))), ?_⟩
  have g1 : sSet 4 (eOpS opIx (eVar 2) (eVar 9)) ⟨b, v27 t lv S.length a x4 x5 x6 x7 (some (.d (.lst (us.map Us.e)))) (some (keyS r)) x10 x11⟩ (S ++ [tM ks f]) = .nx (v27 t lv S.length a (some (.d (f r).t)) x5 x6 x7 (some (.d (.lst (us.map Us.e)))) (some (keyS r)) x10 x11) (S ++ [tM ks f]) := by simp [e1]
  have g2 : sSet 10 (eBi biSum (aCons (eLc [3] (eVar 8) (gNm 3) (T27_0 (tb k)) (E27_1 (tb k))) aNil)) ⟨b, v27 t lv S.length a (some (.d (f r).t)) x5 x6 x7 (some (.d (.lst (us.map Us.e)))) (some (keyS r)) x10 x11⟩ (S ++ [tM ks f]) = .nx (v27 t lv S.length a (some (.d (f r).t)) x5 x6 x7 (some (.d (.lst (us.map Us.e)))) (some (keyS r)) (some (.d (.int (psum r us)))) x11) (S ++ [tM ks f]) := by
    rw [sSet_ap, eBi_ap, aCons_ap, l1]
    simp only [kA1_ok, aNil_ap, kA2_ok, kBi_ok, sumE, optD_s, kSet_ok]
    rfl
  have g3 : sSet 11 (eBi biSum (aCons (eLc [3] (eVar 8) (gNm 3) (T27_0 (tb k)) (E27_0 (tb k))) aNil)) ⟨b, v27 t lv S.length a (some (.d (f r).t)) x5 x6 x7 (some (.d (.lst (us.map Us.e)))) (some (keyS r)) (some (.d (.int (psum r us)))) x11⟩ (S ++ [tM ks f]) = .nx (v27 t lv S.length a (some (.d (f r).t)) x5 x6 x7 (some (.d (.lst (us.map Us.e)))) (some (keyS r)) (some (.d (.int (psum r us)))) (some (.d (.int (msum r us))))) (S ++ [tM ks f]) := by
    rw [sSet_ap, eBi_ap, aCons_ap, l2]
    simp only [kA1_ok, aNil_ap, kA2_ok, kBi_ok, sumE, optD_s, kSet_ok]
    rfl
  have e2' : putIx b (S ++ [tM ks f]) (.m S.length) (keyS r) (.d (.tup [.int (min (f r).l (psum r us)), .int (max (f r).m (msum r us)), .int (f r).d])) = some (S ++ [tM ks (up2 us f r)]) := e2
  unfold L27_0
  rw [sSeq_ap, g1, kSeq_nx, sSeq_ap, g2, kSeq_nx, sSeq_ap, g3, kSeq_nx]
  simp [C3.t, mx2, mn2, e2']
end
end Lw

set_option Elab.async false
set_option linter.all false
set_option maxRecDepth 100000
namespace Lw
open PySem L2 Ev
theorem go_len (lv : Int) : ∀ (t : Tr) (p d : Int) (b : Bool) (n : Int), (t.go lv p d b n).1.length ≤ t.sz := by
  have hu : ∀ q p d b, (use1 lv q p d b).length ≤ 1 := fun q p d b => by unfold use1; split <;> simp
  intro t
  induction t with
  | own q => intro p d b n; exact hu q p d b
  | cite q => intro p d b n; simp [Tr.go]
  | take c ih => intro p d b n; exact Nat.le_succ_of_le (ih p d b n)
  | make _ _ c ih => intro p d b n; exact Nat.le_succ_of_le (ih p d b n)
  | pick q _ c ih => intro p d b n; have := ih p d b n; have := hu q p d b; simp [Tr.go, Tr.sz]; omega
  | opn q _ _ c ih => intro p d b n; have := ih p d b n; have := hu q p d b; simp [Tr.go, Tr.sz]; omega
  | offer a c iha ihc =>
    intro p d b n
    by_cases h : 0 ≤ n
    · by_cases h2 : n % 2 = 0
      · have := iha p d b (n / 2); simp [Tr.go, h, h2, Tr.sz]; omega
      · have := ihc p d b (n / 2); simp [Tr.go, h, h2, Tr.sz]; omega
    · have := ihc p d b n; have := iha p d b (c.go lv p d b n).2; simp [Tr.go, h, Tr.sz]; omega
  | pay q m a c iha ihc =>
    intro p d b n
    have := ihc p d b n; have := hu q p d b
    cases m with
    | once => have := iha p d b (c.go lv p d b n).2; simp [Tr.go, Tr.sz]; omega
    | st u v => have := iha (p * u) (d + v) false (c.go lv p d b n).2; simp [Tr.go, Tr.sz]; omega
  | cut m q a c iha ihc =>
    intro p d b n
    have := ihc p d b n
    cases m with
    | once => have := iha p d b (c.go lv p d b n).2; simp [Tr.go, Tr.sz]; omega
    | st u v => have := iha (p * u) (d + v) false (c.go lv p d b n).2; simp [Tr.go, Tr.sz]; omega
theorem go_below (lv : Int) : ∀ (t : Tr) (p d : Int) (b : Bool) (n : Int), ∀ u ∈ (t.go lv p d b n).1, below lv u.r = true := by
  have hu : ∀ q p d b, ∀ u ∈ use1 lv q p d b, below lv u.r = true := fun q p d b u h => by
    unfold use1 at h
    split at h
    · rename_i z; rw [List.mem_singleton] at h; subst h; exact z
    · cases h
  intro t
  induction t with
  | own q => intro p d b n; exact hu q p d b
  | cite q => intro p d b n u h; cases h
  | take c ih => intro p d b n; exact ih p d b n
  | make _ _ c ih => intro p d b n; exact ih p d b n
  | pick q _ c ih => intro p d b n u h; exact (List.mem_append.mp h).elim (hu q p d b u) (ih p d b n u)
  | opn q _ _ c ih => intro p d b n u h; exact (List.mem_append.mp h).elim (hu q p d b u) (ih p d b n u)
  | offer a c iha ihc =>
    intro p d b n u h
    by_cases h0 : 0 ≤ n
    · by_cases h2 : n % 2 = 0
      · simp only [Tr.go, h0, h2, if_true] at h; exact iha p d b _ u h
      · simp only [Tr.go, h0, h2, if_true, if_false] at h; exact ihc p d b _ u h
    · simp only [Tr.go, h0, if_false] at h; exact (List.mem_append.mp h).elim (ihc p d b _ u) (iha p d b _ u)
  | pay q m a c iha ihc =>
    intro p d b n u h
    cases m with
    | once => exact (List.mem_append.mp h).elim (hu q p d b u) fun h => (List.mem_append.mp h).elim (ihc p d b _ u) (iha p d b _ u)
    | st x v => exact (List.mem_append.mp h).elim (hu q p d b u) fun h => (List.mem_append.mp h).elim (ihc p d b _ u) (iha _ _ false _ u)
  | cut m q a c iha ihc =>
    intro p d b n u h
    cases m with
    | once => exact (List.mem_append.mp h).elim (ihc p d b _ u) (iha p d b _ u)
    | st x v => exact (List.mem_append.mp h).elim (ihc p d b _ u) (iha _ _ false _ u)
theorem psum_len (r : Key) : ∀ us : List Us, psum r us ≤ us.length
  | [] => by simp [psum, ofR]
  | u :: us => by
    have := psum_len r us
    unfold psum ofR at *
    by_cases h : u.r = r
    · cases hb : u.b <;> simp [h, hb, bi] at * <;> omega
    · simp [h] at *; omega
/-! ### all numbers -/
theorem up_not {us : List Us} {q : Key} : ∀ (l : List Key) (f : Key → C3), q ∉ l → (l.foldl (up2 us) f) q = f q
  | [], f, _ => rfl
  | r :: l, f, h => by
    rw [List.mem_cons, not_or] at h
    rw [List.foldl_cons, up_not l _ h.2]
    exact if_neg h.1
theorem up_val {us : List Us} {q : Key} : ∀ (l : List Key) (f : Key → C3), l.Nodup → q ∈ l → (l.foldl (up2 us) f) q = u2 us (f q) q
  | [], f, _, h => by cases h
  | r :: l, f, nd, h => by
    obtain ⟨n1, n2⟩ := List.nodup_cons.mp nd
    rw [List.foldl_cons]
    by_cases e : q = r
    · subst e
      rw [up_not l _ n1]
      exact if_pos rfl
    · rw [up_val l _ n2 ((List.mem_cons.mp h).resolve_left e), show up2 us f r q = f q from if_neg e]
section
variable {k : Nat} {S : Sto}
theorem loop2 {b : Nat} (us : List Us) (hl : us.length ≤ 300) (t : Tr) (lv : Int) (a x5 x6 x7 : Option SV) (ks : List Key) (hk : ks.length ≤ 400) : ∀ (l : List Key) (f : Key → C3) (x4 x9 x10 x11 : Option SV), (∀ r ∈ l, r ∈ ks) →
    ∃ y4 y9 y10 y11, forL (gNm 9) (L27_0 (tb k)) b (l.map keyS) (v27 t lv S.length a x4 x5 x6 x7 (some (.d (.lst (us.map Us.e)))) x9 x10 x11) (S ++ [tM ks f]) = .nx (v27 t lv S.length a y4 x5 x6 x7 (some (.d (.lst (us.map Us.e)))) y9 y10 y11) (S ++ [tM ks (l.foldl (up2 us) f)]) := by
  intro l
  induction l with
  | nil => intro f x4 x9 x10 x11 _; exact ⟨_, _, _, _, rfl⟩
  | cons r l ih =>
    intro f x4 x9 x10 x11 h
    obtain ⟨y4, y10, y11, e1⟩ := turn2 (k := k) (S := S) (b := b) us hl t lv a x4 x5 x6 x7 x10 x11 ks f r (h r (List.mem_cons_self ..)) hk
    obtain ⟨z4, z9, z10, z11, e2⟩ := ih (up2 us f r) y4 (some (keyS r)) y10 y11 fun q hq => h q (List.mem_cons_of_mem _ hq)
    refine ⟨z4, z9, z10, z11, ?_⟩
    rw [List.map_cons, forL_cons]
    simp only [gNm_ap, put_ap, List.set_cons_succ, List.set_cons_zero, kTg_s, e1, kTu_nx]
    exact e2
theorem keysT (ks : List Key) (f : Key → C3) : biListD (S ++ [tM ks f]) [.m S.length] = some (.lst (ks.map keyD)) := by
  have h := dictOf_m (top_m (S := S) (tM ks f))
  show (match dictOf (S ++ [tM ks f]) (.m S.length) with | some (ks, _) => some (Dv.lst (ks.map keyD)) | none => none) = _
  rw [h]
def gall (t : Tr) (lv : Int) (ks : List Key) (f : Key → C3) (n : Int) : Key → C3 := ks.foldl (up2 (t.go lv 1 0 true n).1) f
theorem loop1 {b : Nat} (t : Tr) (lv : Int) (hok : t.kok) (hs : t.sz ≤ 100) (a x5 x6 : Option SV) (ks : List Key) (hk : ks.length ≤ 400) : ∀ (ns : List Int) (f : Key → C3) (x4 x7 x8 x9 x10 x11 : Option SV),
    ∃ y4 y7 y8 y9 y10 y11, forL (gNm 7) (L27_1 (tb (k + 4))) b (ns.map fun n => SV.d (.int n)) (v27 t lv S.length a x4 x5 x6 x7 x8 x9 x10 x11) (S ++ [tM ks f]) = .nx (v27 t lv S.length a y4 x5 x6 y7 y8 y9 y10 y11) (S ++ [tM ks (ns.foldl (gall t lv ks) f)]) := by
  intro ns
  induction ns with
  | nil => intro f x4 x7 x8 x9 x10 x11; exact ⟨_, _, _, _, _, _, rfl⟩
  | cons n ns ih =>
    intro f x4 x7 x8 x9 x10 x11
    have e1 := s26 (k := k) (S := S ++ [tM ks f]) t lv n hok hs
    have gl := go_len lv t 1 0 true n
    obtain ⟨y4, y9, y10, y11, e2⟩ := loop2 (k := k + 4) (S := S) (b := b) (t.go lv 1 0 true n).1 (by omega) t lv a x5 x6 (some (.d (.int n))) ks hk ks f x4 x9 x10 x11 fun _ h => h
    obtain ⟨z4, z7, z8, z9, z10, z11, e3⟩ := ih (gall t lv ks f n) y4 (some (.d (.int n))) (some (.d (.lst ((t.go lv 1 0 true n).1.map Us.e)))) y9 y10 y11
    refine ⟨z4, z7, z8, z9, z10, z11, ?_⟩
    rw [List.map_cons, forL_cons]
    have e4 : L27_1 (tb (k + 4)) ⟨b, v27 t lv S.length a x4 x5 x6 (some (.d (.int n))) x8 x9 x10 x11⟩ (S ++ [tM ks f]) = .nx (v27 t lv S.length a y4 x5 x6 (some (.d (.int n))) (some (.d (.lst ((t.go lv 1 0 true n).1.map Us.e)))) y9 y10 y11) (S ++ [tM ks (gall t lv ks f n)]) := by
      have g1 : sSet 8 (eCall (tb (k + 4) 26) (aCons (eVar 0) (aCons (eVar 1) (aCons (eVar 7) aNil)))) ⟨b, v27 t lv S.length a x4 x5 x6 (some (.d (.int n))) x8 x9 x10 x11⟩ (S ++ [tM ks f]) = .nx (v27 t lv S.length a x4 x5 x6 (some (.d (.int n))) (some (.d (.lst ((t.go lv 1 0 true n).1.map Us.e)))) x9 x10 x11) (S ++ [tM ks f]) := by simp [e1]
      have g2 : sFor (eBi biListD (aCons (eVar 2) aNil)) (gNm 9) (L27_0 (tb (k + 4))) ⟨b, v27 t lv S.length a x4 x5 x6 (some (.d (.int n))) (some (.d (.lst ((t.go lv 1 0 true n).1.map Us.e)))) x9 x10 x11⟩ (S ++ [tM ks f]) = forL (gNm 9) (L27_0 (tb (k + 4))) b (ks.map keyS) (v27 t lv S.length a x4 x5 x6 (some (.d (.int n))) (some (.d (.lst ((t.go lv 1 0 true n).1.map Us.e)))) x9 x10 x11) (S ++ [tM ks f]) := by
        simp [keysT]
        rfl
      unfold L27_1
      rw [sSeq_ap, g1, kSeq_nx, g2, e2]
      rfl
    simp only [gNm_ap, put_ap, List.set_cons_succ, List.set_cons_zero, kTg_s, e4, kTu_nx]
    exact e3
end
theorem gall_val {t : Tr} {lv : Int} {ks : List Key} {q : Key} (nd : ks.Nodup) (hq : q ∈ ks) : ∀ (ns : List Int) (f : Key → C3), (ns.foldl (gall t lv ks) f) q = ns.foldl (fun c n => u2 (t.go lv 1 0 true n).1 c q) (f q)
  | [], f => rfl
  | n :: ns, f => by
    rw [List.foldl_cons, List.foldl_cons, gall_val nd hq ns, gall, up_val ks f nd hq]
theorem fold_u2 {g : Int → List Us} {q : Key} {L M : Int} : ∀ (ns : List Int) (c : C3), L ≤ c.l → c.m ≤ M → (∀ n ∈ ns, L ≤ psum q (g n) ∧ msum q (g n) ≤ M) →
    (c.l = L ∨ ∃ n ∈ ns, psum q (g n) = L) → (c.m = M ∨ ∃ n ∈ ns, msum q (g n) = M) → ns.foldl (fun c n => u2 (g n) c q) c = ⟨L, M, c.d⟩
  | [], c, h1, h2, h3, h4, h5 => by
    rcases h4 with h4 | ⟨_, h4, _⟩
    · rcases h5 with h5 | ⟨_, h5, _⟩
      · subst h4 h5; rfl
      · cases h5
    · cases h4
  | n :: ns, c, h1, h2, h3, h4, h5 => by
    rw [List.foldl_cons]
    obtain ⟨b1, b2⟩ := h3 n (List.mem_cons_self ..)
    refine fold_u2 ns (u2 (g n) c q) (by simp only [u2]; omega) (by simp only [u2]; omega) (fun m hm => h3 m (List.mem_cons_of_mem _ hm)) ?_ ?_
    · simp only [u2]
      rcases h4 with h4 | ⟨m, hm, e⟩
      · exact .inl (by omega)
      · rcases List.mem_cons.mp hm with rfl | hm
        · exact .inl (by omega)
        · exact .inr ⟨m, hm, e⟩
    · simp only [u2]
      rcases h5 with h5 | ⟨m, hm, e⟩
      · exact .inl (by omega)
      · rcases List.mem_cons.mp hm with rfl | hm
        · exact .inl (by omega)
        · exact .inr ⟨m, hm, e⟩
end Lw

set_option Elab.async false
set_option linter.all false
set_option maxRecDepth 100000
namespace Lw
open PySem L2 Ev
theorem fin_t {S : Sto} (ks : List Key) (f : Key → C3) : fin S.length (.ok (.m S.length) (S ++ [tM ks f])) = .ok (.d (tD ks f)) S := by
  unfold fin
  simp only
  have hf : freeze (S ++ [tM ks f]) (.m S.length) = _ := freeze_dic (ks := ks) (xs := ks.map fun r => (f r).t) (by simp [tM])
  rw [hf]
  simp [tD]
theorem tD_congr {ks : List Key} {f g : Key → C3} (h : ∀ r ∈ ks, f r = g r) : tD ks f = tD ks g := by
  unfold tD
  rw [List.map_congr_left fun r hr => by rw [h r hr]]
def dks (t : Tr) (lv : Int) : List Key := ((t.go lv 1 0 true (-1)).1.foldl d1 ([], fun _ => c1000)).1
theorem dks_nd (t : Tr) (lv : Int) : (dks t lv).Nodup := d1_nd _ _ List.nodup_nil
theorem dks_mem (t : Tr) (lv : Int) (hk : t.kok) (r : Key) : r ∈ dks t lv ↔ t.occ r = true ∧ below lv r = true := by
  unfold dks
  rw [d1_mem]
  simp only [List.not_mem_nil, false_or]
  constructor
  · rintro ⟨u, h, rfl⟩
    have hb := go_below lv t 1 0 true (-1) u h
    exact ⟨((go_all hb t 1 0 true hk (by decide)).2.2.1).mp ⟨u, h, rfl⟩, hb⟩
  · rintro ⟨h, hb⟩
    exact ((go_all hb t 1 0 true hk (by decide)).2.2.1).mpr h
theorem dks_len (t : Tr) (lv : Int) : (dks t lv).length ≤ t.sz := by
  have := d1_len (t.go lv 1 0 true (-1)).1 ([], fun _ => c1000)
  have := go_len lv t 1 0 true (-1)
  unfold dks
  simp only [List.length_nil] at *
  omega
theorem cn_l_len {lv : Int} {r : Key} (hr : below lv r = true) (t : Tr) : (t.cn r).l ≤ t.sz := by
  obtain ⟨us, ⟨cb, k, _, _, _, z⟩, e⟩ := att_min hr t 1 0 true
  rw [← e rfl]
  have h1 := psum_len r us
  have h2 := go_len lv t 1 0 true (k + 2 ^ cb * 0)
  rw [z 0 (Int.le_refl _)] at h2
  simp only at h2
  omega
theorem pow_mono {a b : Nat} (h : a ≤ b) : (2 : Int) ^ a ≤ 2 ^ b := by
  obtain ⟨c, rfl⟩ := Nat.exists_eq_add_of_le h
  rw [Int.pow_add]
  have h1 := two_pos a
  have h2 := two_pos c
  have := Int.mul_le_mul_of_nonneg_left (show (1 : Int) ≤ 2 ^ c by omega) (Int.le_of_lt h1)
  rw [Int.mul_one] at this
  exact this
/-- what due tells is what counts tells -/
theorem due_val (t : Tr) (lv : Int) (hk : t.kok) (hw : t.wf lv) (hs : t.sz ≤ 100) (r : Key) (h : r ∈ dks t lv) (ns : List Int) (hns : ∀ n, n ∈ ns ↔ 0 ≤ n ∧ n < 2 ^ t.noff) :
    (ns.foldl (gall t lv (dks t lv)) ((t.go lv 1 0 true (-1)).1.foldl d1 ([], fun _ => c1000)).2) r = t.cn r := by
  obtain ⟨ho, hb⟩ := (dks_mem t lv hk r).mp h
  rw [gall_val (dks_nd t lv) h, d1_val _ _ (by simp [c1000])]
  obtain ⟨_, hd, _, hd0⟩ := go_all hb t 1 0 true hk (by decide)
  rw [hd, if_pos ho]
  have hp := cn_pos t lv r hw
  have hl := cn_l_len hb t
  have hA : ∀ n ∈ ns, (t.cn r).l ≤ psum r (t.go lv 1 0 true n).1 ∧ msum r (t.go lv 1 0 true n).1 ≤ (t.cn r).m := fun n hn => by
    obtain ⟨_, b2, b3⟩ := go_bound hb t 1 0 true n hk (by decide) ((hns n).mp hn).1
    rw [Int.one_mul] at b3
    exact ⟨b2 rfl, b3⟩
  have hB : ∃ n ∈ ns, psum r (t.go lv 1 0 true n).1 = (t.cn r).l := by
    obtain ⟨us, ⟨cb, k, c1, c2, c3, z⟩, e⟩ := att_min hb t 1 0 true
    have z0 := z 0 (Int.le_refl _)
    rw [Int.mul_zero, Int.add_zero] at z0
    exact ⟨k, (hns k).mpr ⟨c2, Int.lt_of_lt_of_le c3 (pow_mono c1)⟩, by rw [z0]; exact e rfl⟩
  have hC : ∃ n ∈ ns, msum r (t.go lv 1 0 true n).1 = (t.cn r).m := by
    obtain ⟨us, ⟨cb, k, c1, c2, c3, z⟩, e⟩ := att_max hb t 1 0 true
    have z0 := z 0 (Int.le_refl _)
    rw [Int.mul_zero, Int.add_zero] at z0
    rw [Int.one_mul] at e
    exact ⟨k, (hns k).mpr ⟨c2, Int.lt_of_lt_of_le c3 (pow_mono c1)⟩, by rw [z0]; exact e⟩
  rw [fold_u2 (L := (t.cn r).l) (M := (t.cn r).m) (g := fun n => (t.go lv 1 0 true n).1) ns _ (by simp only [c1000]; omega) (by simp only [c1000]; exact hp.2.1) hA (.inr hB) (.inr hC)]
  simp only [c1000]
  have : max 0 (0 + (t.cn r).d) = (t.cn r).d := by omega
  rw [this]
theorem s27 {k : Nat} {S : Sto} (t : Tr) (lv : Int) (hw : t.wf lv) (hs : t.sz ≤ 100) (hn : t.noff ≤ 6) (hk : t.sz + 8 ≤ k) : callF (tb k 27) [.d t.d, .d (.int lv)] S = .ok (.d (tD (dks t lv) t.cn)) S := by
  obtain ⟨k, rfl⟩ : ∃ k', k = k' + 5 := ⟨k - 5, by omega⟩
  have hkk := wf_kok t lv hw
  rw [callF, t_27]
  show fin S.length (B27 (tb (k + 4)) ⟨S.length, [some (.d t.d), some (.d (.int lv)), none, none, none, none, none, none, none, none, none, none]⟩ S).res = _
  have e26 := fun T => s26 (k := k) (S := T) t lv (-1) hkk hs
  have gl := go_len lv t 1 0 true (-1)
  obtain ⟨x3, x4, e1⟩ := d1_loop (k := k + 4) (S := S) (b := S.length) t lv none none none none none none none (t.go lv 1 0 true (-1)).1 ([], fun _ => c1000) none none (by simp; omega) (fun _ _ => rfl)
  have e18 := fun T => s18 t.sz t [] (k + 4) T (Nat.le_refl _) (by omega) (by simp; omega)
  obtain ⟨c', e2⟩ := tot_loop (k := k + 1) (S := S ++ [tM (dks t lv) ((t.go lv 1 0 true (-1)).1.foldl d1 ([], fun _ => c1000)).2]) (b := S.length) t lv (.m S.length) x3 x4 none none none none none (t.pn []) 1 none fun x hx => by
    obtain ⟨s, e, r⟩ := pn_pth t.sz t [] x (Nat.le_refl _) hx
    rw [List.nil_append] at e
    rw [e]; exact r
  rw [pn_off, Int.one_mul] at e2
  have hN : (2 : Int) ^ t.noff ≤ 64 := Int.le_trans (pow_mono hn) (by decide)
  have hN0 : (0 : Int) < 2 ^ t.noff := two_pos _
  have dl := dks_len t lv
  obtain ⟨y4, y7, y8, y9, y10, y11, e3⟩ := loop1 (k := k) (S := S) (b := S.length) t lv hkk hs x3 (some (.d (.int (2 ^ t.noff)))) c' (dks t lv) (by omega) ((List.range (2 ^ t.noff : Int).toNat).map fun (i : Nat) => (0 : Int) + i) ((t.go lv 1 0 true (-1)).1.foldl d1 ([], fun _ => c1000)).2 x4 none none none none none
  have hv : tD (dks t lv) t.cn = tD (dks t lv) (((List.range (2 ^ t.noff : Int).toNat).map fun (i : Nat) => (0 : Int) + i).foldl (gall t lv (dks t lv)) ((t.go lv 1 0 true (-1)).1.foldl d1 ([], fun _ => c1000)).2) := by
    refine tD_congr fun r hr => (due_val t lv hkk hw hs r hr _ fun n => ?_).symm
    simp only [List.mem_map, List.mem_range]
    constructor
    · rintro ⟨i, h, rfl⟩; omega
    · rintro ⟨h1, h2⟩; exact ⟨n.toNat, by omega, by omega⟩
  rw [hv]
  have z0 : MO.dic [] [] = tM [] (fun _ => c1000) := rfl
  have f1 : sSet 2 eDic0M ⟨S.length, [some (SV.d t.d), some (SV.d (.int lv)), none, none, none, none, none, none, none, none, none, none]⟩ S = .nx (v27 t lv S.length none none none none none none none none none) (S ++ [tM [] fun _ => c1000]) := by
    rw [← z0]; simp
  have f2 : sFor (eCall (tb (k + 4) 26) (aCons (eVar 0) (aCons (eVar 1) (aCons (eNeg (eC (.int 1))) aNil)))) (gNm 3) (L27_3 (tb (k + 4))) ⟨S.length, v27 t lv S.length none none none none none none none none none⟩ (S ++ [tM [] fun _ => c1000]) = .nx (v27 t lv S.length x3 x4 none none none none none none none) (S ++ [tM (dks t lv) ((t.go lv 1 0 true (-1)).1.foldl d1 ([], fun _ => c1000)).2]) := by
    refine Eq.trans ?_ e1
    simp [e26]
    rfl
  have f3 : ∀ T, sFor (eCall (tb (k + 4) 18) (aCons (eVar 0) (aCons (eTup aNil) aNil))) (gNm 6) (L27_2 (tb (k + 4))) ⟨S.length, v12 t lv (.m S.length) x3 x4 1 none none none none none none⟩ T = forL (gNm 6) (L27_2 (tb (k + 4))) S.length ((t.pn []).map fun x => SV.d (ptD x)) (v12 t lv (.m S.length) x3 x4 1 none none none none none none) T := fun T => by
    have := e18 T
    simp only [List.map_nil] at this
    simp [this]
    rfl
  have f4 : ∀ T, sForR (aCons (eVar 5) aNil) (gNm 7) (L27_1 (tb (k + 4))) ⟨S.length, v12 t lv (.m S.length) x3 x4 (2 ^ t.noff) c' none none none none none⟩ T = forL (gNm 7) (L27_1 (tb (k + 4))) S.length (((List.range (2 ^ t.noff : Int).toNat).map fun (i : Nat) => (0 : Int) + i).map fun n => SV.d (.int n)) (v12 t lv (.m S.length) x3 x4 (2 ^ t.noff) c' none none none none none) T := fun T => by
    have h62 : small62 (2 ^ t.noff) = true := by simp [small62_ap]; omega
    have hr : (((List.range (2 ^ t.noff : Int).toNat).map fun (i : Nat) => (0 : Int) + i).map fun n => SV.d (.int n)) = rng 0 (2 ^ t.noff : Int).toNat := by rw [List.map_map]; rfl
    rw [hr]
    simp [h62]
  unfold B27
  rw [sSeq_ap, f1, kSeq_nx, sSeq_ap, f2, kSeq_nx, sSeq_ap]
  have f5 : ∀ T, sSet 5 (eC (.int 1)) ⟨S.length, v27 t lv S.length x3 x4 none none none none none none none⟩ T = .nx (v12 t lv (.m S.length) x3 x4 1 none none none none none none) T := fun T => rfl
  rw [f5, kSeq_nx, sSeq_ap, f3, e2, kSeq_nx, sSeq_ap, f4]
  have e3' : forL (gNm 7) (L27_1 (tb (k + 4))) S.length (((List.range (2 ^ t.noff : Int).toNat).map fun (i : Nat) => (0 : Int) + i).map fun n => SV.d (.int n)) (v12 t lv (.m S.length) x3 x4 (2 ^ t.noff) c' none none none none none) (S ++ [tM (dks t lv) ((t.go lv 1 0 true (-1)).1.foldl d1 ([], fun _ => c1000)).2]) = _ := e3
  rw [e3', kSeq_nx]
  exact fin_t _ _
end Lw

set_option Elab.async false
set_option linter.all false
set_option maxRecDepth 100000
namespace Lw
open PySem L2 Ev
/-! ### the drawing of a derivation -/
abbrev wK : List Key := [.inr "pool", .inr "offers"]
structure Wy (i j : Nat) (off : Int) (S : Sto) : Prop where
  ne : i ≠ j
  pl : ∃ p : Po, S[i]? = some p.l
  wy : S[j]? = some (.dic wK [.m i, .d (.int off)])
  le : i ≤ j
/-- two things of the store are others -/
structure Up2 (i j : Nat) (S S' : Sto) : Prop where
  len : S'.length = S.length
  oth : ∀ l, l ≠ i → l ≠ j → S'[l]? = S[l]?
theorem Up2.refl (i j : Nat) (S : Sto) : Up2 i j S S := ⟨rfl, fun _ _ _ => rfl⟩
theorem Up2.trans {i j : Nat} {S S1 S2 : Sto} (h : Up2 i j S S1) (k : Up2 i j S1 S2) : Up2 i j S S2 := ⟨k.len.trans h.len, fun l a b => (k.oth l a b).trans (h.oth l a b)⟩
theorem nx {k : Nat} {S : Sto} {i : Nat} {p : Po} {m : Int} (hS : S[i]? = some p.l) (h0 : 0 < m) (h1 : m < 1073741824) :
    ∃ (d : Int) (q : Po) (S' : Sto), 0 ≤ d ∧ d < m ∧ S'[i]? = some q.l ∧ Up1 i S S' ∧ callF (tb (k + 1) 14) [.m i, .d (.int m)] S = .ok (.d (.int d)) S' :=
  draw_ok (g := tb (k + 1) 14) (fun b as S => rfl) hS h0 h1
theorem nxW {k : Nat} {S : Sto} {i j : Nat} {off m : Int} (hS : Wy i j off S) (h0 : 0 < m) (h1 : m < 1073741824) :
    ∃ (d : Int) (S' : Sto), 0 ≤ d ∧ d < m ∧ Wy i j off S' ∧ Up2 i j S S' ∧ callF (tb (k + 1) 14) [.m i, .d (.int m)] S = .ok (.d (.int d)) S' := by
  obtain ⟨ne, ⟨p, hp⟩, wy, le⟩ := hS
  obtain ⟨d, q, S', a, b, g, u, e⟩ := nx (k := k) hp h0 h1
  exact ⟨d, S', a, b, ⟨ne, ⟨q, g⟩, by rw [u.oth j (Ne.symm ne)]; exact wy, le⟩, ⟨u.len, fun l h _ => u.oth l h⟩, e⟩
theorem s21 {k : Nat} {S : Sto} {i j : Nat} {off : Int} (room : Int) (hS : Wy i j off S) :
    ∃ (m : Kd) (S' : Sto), (∀ u v, m = .st u v → 1 ≤ u ∧ u ≤ 3 ∧ 0 ≤ v ∧ v ≤ 3 ∧ u ≤ room) ∧ Wy i j off S' ∧ Up2 i j S S' ∧ callF (tb (k + 2) 21) [.m i, .d (.int room)] S = .ok (.d m.d) S' := by
  obtain ⟨x, S1, a1, b1, w1, u1, e1⟩ := nxW (k := k) hS (show (0 : Int) < 3 by decide) (by decide)
  obtain ⟨y, S2, a2, b2, w2, u2, e2⟩ := nxW (k := k) w1 (show (0 : Int) < 4 by decide) (by decide)
  obtain ⟨z, S3, a3, b3, w3, u3, e3⟩ := nxW (k := k) w2 (show (0 : Int) < 2 by decide) (by decide)
  have ul := (u1.trans (u2.trans u3))
  by_cases hz : z = 0
  · refine ⟨.once, S3, (fun _ _ h => by cases h), w3, ul, ?_⟩
    rw [callF, t_21]
    simp [runF, B21, e1, e2, e3, hz, take_eq ul.len, Kd.d]
  · by_cases hr : room < 1 + x
    · refine ⟨.once, S3, (fun _ _ h => by cases h), w3, ul, ?_⟩
      rw [callF, t_21]
      simp [runF, B21, e1, e2, e3, hz, hr, take_eq ul.len, Kd.d]
    · refine ⟨.st (1 + x) y, S3, (fun u v h => by cases h; omega), w3, ul, ?_⟩
      rw [callF, t_21]
      simp [runF, B21, e1, e2, e3, hz, hr, take_eq ul.len, Kd.d]
def nm12 : List Str := ["x", "own", "left", "take", "h2", "cite", "once", "zz9", "k", "pay", "cut", "abcdefgh1234"]
/-- what is drawn -/
def Drawn (i j : Nat) (off : Int) (S : Sto) (many level : Int) (r : Res SV) : Prop :=
  ∃ (t : Tr) (off' : Int) (S' : Sto), t.wf level ∧ (t.sz : Int) ≤ many ∧ (t.noff : Int) + off' = off ∧ (0 ≤ off → 0 ≤ off') ∧ Wy i j off' S' ∧ Up2 i j S S' ∧ r = .ok (.d t.d) S'
def FreeOk (k : Nat) (n : Int) : Prop := ∀ (i j : Nat) (off : Int) (S : Sto) (many level room : Int), Wy i j off S → 1 ≤ many → many ≤ n → 0 ≤ level → level + many ≤ 100 → Drawn i j off S many level (callF (tb k 24) [.m j, .d (.int many), .d (.int level), .d (.int room)] S)
theorem ix_str {xs : List Str} {x : Int} (h0 : 0 ≤ x) (h : x < xs.length) : ∃ s, s ∈ xs ∧ atI (xs.map fun s => SV.d (.str s)) x = some (.d (.str s)) := by
  have hx : ((x.toNat : Nat) : Int) = x := Int.toNat_of_nonneg h0
  have hl : x.toNat < xs.length := by omega
  refine ⟨xs[x.toNat], by simp, ?_⟩
  have e := atI_n (xs.map fun s => SV.d (.str s)) x.toNat
  rw [hx] at e
  rw [e]
  simp [hl]
section
variable {k : Nat} {S : Sto} {i j : Nat} {off : Int}
theorem s22 {n many level room which : Int} {nm : Str} {r : Key} (F : FreeOk k n) (hk : 1 ≤ k) (hS : Wy i j off S) (h1 : 1 ≤ many) (h2 : many ≤ n) (h3 : 0 ≤ level) (h4 : level + many + 1 ≤ 100) (hn : nm ∈ nm12) (hr : inL level r) :
    Drawn i j off S (many + 1) level (callF (tb (k + 1) 22) [.m j, .d (.int many), .d (.int level), .d (.int room), .d (.str nm), .d (keyD r), .d (.int which)] S) := by
  obtain ⟨k, rfl⟩ : ∃ k', k = k' + 1 := ⟨k - 1, by omega⟩
  obtain ⟨x, S1, a1, b1, w1, u1, e1⟩ := nxW (k := k) hS (show (0 : Int) < 3 by decide) (by decide)
  have p0 := opIx_md (k := "pool") hS.wy
  simp at p0
  by_cases c0 : which = 0
  · obtain ⟨t, off', S2, g1, g2, g3, g4, w2, u2, e2⟩ := F i j off S1 many level room w1 h1 h2 h3 (by omega)
    have ul := u1.trans u2
    refine ⟨.make nm x t, off', S2, g1, by simp only [Tr.sz]; omega, g3, g4, w2, ul, ?_⟩
    rw [callF, t_22]
    simp [runF, B22, p0, e1, e2, c0, take_eq ul.len, Tr.d]
  · obtain ⟨t, off', S2, g1, g2, g3, g4, w2, u2, e2⟩ := F i j off S1 many (level + 1) room w1 h1 h2 (by omega) (by omega)
    have ul := u1.trans u2
    by_cases c1 : which = 1
    · refine ⟨.take t, off', S2, g1, by simp only [Tr.sz]; omega, g3, g4, w2, ul, ?_⟩
      rw [callF, t_22]
      simp [runF, B22, p0, e1, e2, c0, c1, take_eq ul.len, Tr.d]
    · have hok := And.intro hr g1
      by_cases c2 : which = 2
      · obtain ⟨s, _, es⟩ := ix_str (xs := ["left", "right"]) (x := x % 2) (Int.emod_nonneg _ (by decide)) (by have := Int.emod_lt_of_pos x (show (0 : Int) < 2 by decide); simpa using this)
        refine ⟨.pick r s t, off', S2, hok, by simp only [Tr.sz]; omega, g3, g4, w2, ul, ?_⟩
        rw [callF, t_22]
        simp at es
        simp [runF, B22, p0, e1, e2, c0, c1, c2, take_eq ul.len, Tr.d, es]
      · refine ⟨.opn r nm x t, off', S2, hok, by simp only [Tr.sz]; omega, g3, g4, w2, ul, ?_⟩
        rw [callF, t_22]
        simp [runF, B22, p0, e1, e2, c0, c1, c2, take_eq ul.len, Tr.d]
theorem s23 {n many level room which : Int} {nm : Str} {r : Key} (F : FreeOk k n) (hk : 2 ≤ k) (hS : Wy i j off S) (h1 : 2 ≤ many) (h2 : many - 1 ≤ n) (h3 : 0 ≤ level) (h4 : level + many + 1 ≤ 100) (hn : nm ∈ nm12) (hr : inL level r) :
    Drawn i j off S (many + 1) level (callF (tb (k + 1) 23) [.m j, .d (.int many), .d (.int level), .d (.int room), .d (.str nm), .d (keyD r), .d (.int which)] S) := by
  obtain ⟨k, rfl⟩ : ∃ k', k = k' + 2 := ⟨k - 2, by omega⟩
  obtain ⟨x, S1, a1, b1, w1, u1, e1⟩ := nxW (k := k + 1) hS (show (0 : Int) < many - 1 by omega) (by omega)
  obtain ⟨m, S2, hm, w2, u2, e2⟩ := s21 (k := k) room w1
  have p0 := opIx_md (k := "pool") hS.wy
  have p1 := opIx_md (k := "offers") w2.wy
  simp at p0 p1
  have u12 := u1.trans u2
  by_cases c0 : (which = 0 ∨ which = 3) ∧ 0 < off
  · have hp : putIx S.length S2 (.m j) (.d (.str "offers")) (.d (.int (off - 1))) = some (S2.set j (.dic wK [.m i, .d (.int (off - 1))])) := by
      rw [putIx_md w2.wy rfl (by decide)]
      simp [wK]
    have hj : j < S2.length := (List.getElem?_eq_some_iff.mp w2.wy).1
    have w2' : Wy i j (off - 1) (S2.set j (.dic wK [.m i, .d (.int (off - 1))])) := ⟨w2.ne, by
      obtain ⟨p, hp⟩ := w2.pl
      exact ⟨p, by rw [List.getElem?_set_ne (Ne.symm w2.ne)]; exact hp⟩, by rw [List.getElem?_set]; simp [hj], w2.le⟩
    have u2' : Up2 i j S2 (S2.set j (.dic wK [.m i, .d (.int (off - 1))])) := ⟨by simp, fun l _ h => by rw [List.getElem?_set_ne (Ne.symm h)]⟩
    obtain ⟨t, o3, S3, g1, g2, g3, g4, w3, u3, e3⟩ := F i j (off - 1) _ (1 + x) level room w2' (by omega) (by omega) h3 (by omega)
    obtain ⟨s, o4, S4, f1, f2, f3, f4, w4, u4, e4⟩ := F i j o3 S3 (many - (1 + x)) level room w3 (by omega) (by omega) h3 (by omega)
    have ul := (u12.trans u2').trans (u3.trans u4)
    refine ⟨.offer t s, o4, S4, ⟨g1, f1⟩, by simp only [Tr.sz]; omega, by simp only [Tr.noff]; omega, by omega, w4, ul, ?_⟩
    · rw [callF, t_23]
      obtain ⟨c0, c0'⟩ := c0
      have c00 : (0 = which ∨ 3 = which) := by omega
      simp [runF, B23, p0, p1, e1, e2, e3, e4, c00, c0', hp, take_eq ul.len, Tr.d]
  · have c00 : ((0 : Int) = which ∨ (3 : Int) = which) → ¬ 0 < off := fun h h' => c0 ⟨by omega, h'⟩
    have inner : ∃ inn : Int, (∀ u v, m = .st u v → inn = room / u) ∧ (m = .once → inn = room) := by
      cases m with
      | once => exact ⟨room, (fun _ _ h => by cases h), fun _ => rfl⟩
      | st u v => exact ⟨room / u, (fun _ _ h => by cases h; rfl), (fun h => by cases h)⟩
    obtain ⟨inn, hi1, hi2⟩ := inner
    obtain ⟨t, o3, S3, g1, g2, g3, g4, w3, u3, e3⟩ := F i j off S2 (1 + x) level inn w2 (by omega) (by omega) h3 (by omega)
    obtain ⟨s, o4, S4, f1, f2, f3, f4, w4, u4, e4⟩ := F i j o3 S3 (many - (1 + x)) (level + 1) room w3 (by omega) (by omega) (by omega) (by omega)
    have ul := u12.trans (u3.trans u4)
    have hmk : m.ok := by
      cases m with
      | once => trivial
      | st u v => obtain ⟨z1, z2, z3, z4, z5⟩ := hm u v rfl; exact ⟨z1, z2, z3⟩
    have hok := And.intro hmk (And.intro g1 f1)
    have hok2 := And.intro hr (And.intro hmk (And.intro g1 f1))
    by_cases c1 : which = 1
    · refine ⟨.cut m nm t s, o4, S4, hok, by simp only [Tr.sz]; omega, by simp only [Tr.noff]; omega, by omega, w4, ul, ?_⟩
      rw [callF, t_23]
      cases m with
      | once =>
        have := hi2 rfl
        subst this
        simp [Kd.d] at e2
        simp [runF, B23, p0, p1, e1, e2, e3, e4, c1, take_eq ul.len, Tr.d, Kd.d]
      | st u v =>
        have := hi1 u v rfl
        subst this
        obtain ⟨z1, z2, z3, z4, z5⟩ := hm u v rfl
        have z0 : (0 < u ∧ u < 1073741824) := by omega
        simp [Kd.d] at e2
        simp [runF, B23, p0, p1, e1, e2, e3, e4, c1, take_eq ul.len, Tr.d, Kd.d, z0]
    · refine ⟨.pay r m t s, o4, S4, hok2, by simp only [Tr.sz]; omega, by simp only [Tr.noff]; omega, by omega, w4, ul, ?_⟩
      rw [callF, t_23]
      by_cases c2 : ((0 : Int) = which ∨ (3 : Int) = which)
      · have c3 := c00 c2
        cases m with
        | once =>
          have := hi2 rfl
          subst this
          simp [Kd.d] at e2
          simp [runF, B23, p0, p1, e1, e2, e3, e4, c1, c2, c3, take_eq ul.len, Tr.d, Kd.d]
        | st u v =>
          have := hi1 u v rfl
          subst this
          obtain ⟨z1, z2, z3, z4, z5⟩ := hm u v rfl
          have z0 : (0 < u ∧ u < 1073741824) := by omega
          simp [Kd.d] at e2
          simp [runF, B23, p0, p1, e1, e2, e3, e4, c1, c2, c3, take_eq ul.len, Tr.d, Kd.d, z0]
      · cases m with
        | once =>
          have := hi2 rfl
          subst this
          simp [Kd.d] at e2
          simp [runF, B23, p0, p1, e1, e2, e3, e4, c1, c2, take_eq ul.len, Tr.d, Kd.d]
        | st u v =>
          have := hi1 u v rfl
          subst this
          obtain ⟨z1, z2, z3, z4, z5⟩ := hm u v rfl
          have z0 : (0 < u ∧ u < 1073741824) := by omega
          simp [Kd.d] at e2
          simp [runF, B23, p0, p1, e1, e2, e3, e4, c1, c2, take_eq ul.len, Tr.d, Kd.d, z0]
end
end Lw

set_option Elab.async false
set_option linter.all false
set_option maxRecDepth 100000
namespace Lw
open PySem L2 Ev
theorem freeOk : ∀ (n : Nat) (k : Nat), 2 * n + 4 ≤ k → FreeOk k n := by
  intro n
  induction n with
  | zero => intro k hk i j off S many level room hS h1 h2; omega
  | succ n ih =>
    intro k hk i j off S many level room hS h1 h2 h3 h4
    obtain ⟨k, rfl⟩ : ∃ k', k = k' + 2 := ⟨k - 2, by omega⟩
    have F := ih k (by omega)
    obtain ⟨x, S1, a1, b1, w1, u1, e1⟩ := nxW (k := k) hS (show (0 : Int) < 12 by decide) (by decide)
    obtain ⟨nm, hn, en⟩ := ix_str (xs := nm12) a1 (by simpa [nm12] using b1)
    simp [nm12] at en
    have p0 := opIx_md (k := "pool") hS.wy
    simp at p0
    -- the reference
    have rf : ∃ (r : Key) (S2 : Sto), inL level r ∧ Wy i j off S2 ∧ Up2 i j S1 S2 ∧ ∀ x0 x1 x3 x4 x5 x8 b, sIf (tAn (tV (eOp opGt (eVar 2) (eC (.int 0)))) (tV (eOp opEq (eCall (tb (k + 1) 14) (aCons (eVar 4) (aCons (eC (.int 2)) (aNil)))) (eC (.int 0))))) (sSet 7 (eCall (tb (k + 1) 14) (aCons (eVar 4) (aCons (eVar 2) (aNil))))) (sNil)
        ⟨b, [x0, x1, some (.d (.int level)), x3, some (.m i), x5, x4, some (.d (.str nm)), x8]⟩ S1 = .nx [x0, x1, some (.d (.int level)), x3, some (.m i), x5, x4, some (.d (keyD r)), x8] S2 := by
      by_cases c : 0 < level
      · obtain ⟨y, S2, a2, b2, w2, u2, e2⟩ := nxW (k := k) w1 (show (0 : Int) < 2 by decide) (by decide)
        by_cases cy : y = 0
        · obtain ⟨z, S3, a3, b3, w3, u3, e3⟩ := nxW (k := k) w2 c (by omega)
          exact ⟨.inl z, S3, ⟨a3, by omega⟩, w3, u2.trans u3, fun x0 x1 x3 x4 x5 x8 b => by simp [c, e2, cy, e3, keyD]⟩
        · exact ⟨.inr nm, S2, trivial, w2, u2, fun x0 x1 x3 x4 x5 x8 b => by simp [c, e2, cy, keyD]⟩
      · exact ⟨.inr nm, S1, trivial, w1, .refl _ _ _, fun x0 x1 x3 x4 x5 x8 b => by simp [c, keyD]⟩
    obtain ⟨r, S2, hr, w2, u2, e2⟩ := rf
    obtain ⟨y, S3, a3, b3, w3, u3, e3⟩ := nxW (k := k) w2 (show (0 : Int) < 8 by decide) (by decide)
    have u13 := u1.trans (u2.trans u3)
    simp at e2
    by_cases c1 : many < 2
    · by_cases c2 : y = 0
      · refine ⟨.cite nm, off, S3, trivial, by simp [Tr.sz]; omega, by simp [Tr.noff], id, w3, u13, ?_⟩
        rw [callF, t_24]
        simp [runF, B24, p0, e1, en, e2, e3, c1, c2, take_eq u13.len, Tr.d]
      · refine ⟨.own r, off, S3, hr, by simp [Tr.sz]; omega, by simp [Tr.noff], id, w3, u13, ?_⟩
        rw [callF, t_24]
        simp [runF, B24, p0, e1, en, e2, e3, c1, c2, take_eq u13.len, Tr.d]
    · by_cases c2 : many = 2 ∨ y < 4
      · obtain ⟨t, o4, S4, g1, g2, g3, g4, w4, u4, e4⟩ := s22 (which := y % 4) (room := room) F (by omega) w3 (show 1 ≤ many - 1 by omega) (by omega) h3 (by omega) hn hr
        have ul := u13.trans u4
        refine ⟨t, o4, S4, g1, by omega, g3, g4, w4, ul, ?_⟩
        rw [callF, t_24]
        by_cases c3 : many = 2
        · simp only [c3, show (2 : Int) - 1 = 1 from rfl] at e4
          simp [runF, B24, p0, e1, en, e2, e3, e4, c1, c3, take_eq ul.len]
        · have c4 := c2.resolve_left c3
          simp [runF, B24, p0, e1, en, e2, e3, e4, c1, c3, c4, take_eq ul.len]
      · obtain ⟨t, o4, S4, g1, g2, g3, g4, w4, u4, e4⟩ := s23 (which := y % 4) (room := room) F (by omega) w3 (show 2 ≤ many - 1 by omega) (by omega) h3 (by omega) hn hr
        have ul := u13.trans u4
        refine ⟨t, o4, S4, g1, by omega, g3, g4, w4, ul, ?_⟩
        rw [callF, t_24]
        have c3 : ¬ many = 2 := fun h => c2 (.inl h)
        have c4 : ¬ y < 4 := fun h => c2 (.inr h)
        simp [runF, B24, p0, e1, en, e2, e3, e4, c1, c3, c4, take_eq ul.len]
end Lw

set_option Elab.async false
set_option linter.all false
set_option maxRecDepth 100000
namespace Lw
open PySem L2 Ev
theorem set_same {S : Sto} {i : Nat} {x : MO} (h : S[i]? = some x) : S.set i x = S := by
  apply List.ext_getElem?
  intro j
  by_cases e : i = j
  · subst e
    rw [List.getElem?_set]
    simp only [if_true]
    rw [if_pos (List.getElem?_eq_some_iff.mp h).1, h]
  · rw [List.getElem?_set_ne e]
section
variable {k : Nat} {S : Sto}
theorem s15' (i : Int) : callF (tb (k + 1) 15) [.d (.int i)] S = .ok (.d (.bl true)) S := by
  rw [callF, t_15]
  simp [runF, B15, anInt, anBool]
theorem s20i (i : Int) : callF (tb (k + 2) 20) [.d (.int i), .d (.int i)] S = .ok (.d (.bl true)) S := by
  rw [callF, t_20]
  simp [runF, B20, anStr, anTL, s15']
theorem s20t (x : C3) : callF (tb (k + 3) 20) [.d x.t, .d x.t] S = .ok (.d (.bl true)) S := by
  rw [callF, t_20]
  simp [runF, B20, L20_0, C3.t, anStr, anTL, anLst, s20i, small62_ap, rng_succ, forL_cons]
theorem ix_lck {T : Sto} {j : Nat} {ks : List Key} {xs : List SV} {q : Key} (h : T[j]? = some (.lck ks xs)) : opIx T (.m j) (keyS q) = lookK q ks xs := by
  cases q <;> simp [opIx, itemsOf, dictOf, h, keyD, kOf]
theorem inS_t (T : Sto) (ks : List Key) (f : Key → C3) (r : Key) : inS T (keyS r) (.d (tD ks f)) = some (hasK r ks) := by
  unfold tD
  rw [inS_kd, List.map_map, look_f]
  by_cases h : hasK r ks = true <;> simp [h]
theorem ix_t (T : Sto) (ks : List Key) (f : Key → C3) (r : Key) (h : r ∈ ks) : opIx T (.d (tD ks f)) (keyS r) = some (.d (f r).t) := by
  unfold tD
  rw [opIx_kd, look_f, if_pos (hasK_iff.mpr h)]
  rfl
theorem turn28 {T : Sto} {b j : Nat} {ks ls : List Key} {f : Key → C3} {r : Key} (hT : T[j]? = some (.lck ks ((ks.map fun r => (f r).v).map .d))) (hr : r ∈ ks) (hl : r ∈ ls) (x3 : Option SV) :
    L28_0 (tb (k + 3)) ⟨b, [some (.m j), some (.d (tD ls f)), some (keyS r), x3]⟩ T = .nx [some (.m j), some (.d (tD ls f)), some (keyS r), some (.d (f r).v)] T := by
  have e1 : opIx T (.m j) (keyS r) = some (.d (f r).v) := by
    rw [ix_lck hT, List.map_map, look_f, if_pos (hasK_iff.mpr hr)]
    rfl
  have e2 := ix_t T ls f r hl
  have e3 := inS_t T ls f r
  rw [hasK_iff.mpr hl] at e3
  have e4 := s6 (k := k + 2) (S := T) (f r)
  have e5 := s20t (k := k) (S := T) (f r)
  have e6 : callF (tb (k + 3) 20) [.d (.tup [.int (f r).l, .int (f r).m, .int (f r).d]), .d (f r).t] T = .ok (.d (.bl true)) T := e5
  have hty : tyS T (.d (f r).v) = some (.own 0) := rfl
  have i15 : ∀ i : Int, callF (tb (k + 3) 15) [keyS (.inl i)] T = .ok (.d (.bl true)) T := fun i => s15' (k := k + 2) (S := T) i
  cases r with
  | inl i =>
    simp [L28_0, keyD, e1, e2, e3, e4, e5, e6, hty, anOwn, anStr, i15]
  | inr s =>
    simp [L28_0, keyD, e1, e2, e3, e4, e5, e6, hty, anOwn, anStr]
theorem loop28 {T : Sto} {b j : Nat} {ks ls : List Key} {f : Key → C3} (hT : T[j]? = some (.lck ks ((ks.map fun r => (f r).v).map .d))) (hl : ∀ r ∈ ks, r ∈ ls) : ∀ (l : List Key) (x2 x3 : Option SV), (∀ r ∈ l, r ∈ ks) →
    ∃ y2 y3, forL (gNm 2) (L28_0 (tb (k + 3))) b (l.map keyS) [some (.m j), some (.d (tD ls f)), x2, x3] T = .nx [some (.m j), some (.d (tD ls f)), y2, y3] T := by
  intro l
  induction l with
  | nil => intro x2 x3 _; exact ⟨_, _, rfl⟩
  | cons r l ih =>
    intro x2 x3 h
    have hr := h r (List.mem_cons_self ..)
    have e1 := turn28 (k := k) (b := b) hT hr (hl r hr) x3
    obtain ⟨y2, y3, e2⟩ := ih (some (keyS r)) (some (.d (f r).v)) fun q hq => h q (List.mem_cons_of_mem _ hq)
    refine ⟨y2, y3, ?_⟩
    rw [List.map_cons, forL_cons]
    simp only [gNm_ap, put_ap, List.set_cons_succ, List.set_cons_zero, kTg_s, e1, kTu_nx]
    exact e2
theorem s28 {j : Nat} {ks ls : List Key} {f : Key → C3} (hS : S[j]? = some (mdic ks f)) (hl : ∀ r, r ∈ ks ↔ r ∈ ls) (nk : ks.Nodup) (nl : ls.Nodup) : callF (tb (k + 4) 28) [.m j, .d (tD ls f)] S = .ok (.d (.bl true)) S := by
  rw [callF, t_28]
  have len : ks.length = ls.length := ((List.perm_ext_iff_of_nodup nk nl).mpr hl).length_eq
  have hj : j < S.length := (List.getElem?_eq_some_iff.mp hS).1
  have hS' : S[j]? = some (.dic ks ((ks.map fun r => (f r).v).map .d)) := hS
  have hT : (S.set j (.lck ks ((ks.map fun r => (f r).v).map .d)))[j]? = some (.lck ks ((ks.map fun r => (f r).v).map .d)) := by rw [List.getElem?_set]; simp [hj]
  obtain ⟨y2, y3, e1⟩ := loop28 (k := k) (b := S.length) hT (fun r h => (hl r).mp h) ks none none fun _ h => h
  have e2 : ulk j (S.set j (.lck ks ((ks.map fun r => (f r).v).map .d))) = some S := by
    unfold ulk
    rw [hT]
    simp only
    rw [List.set_set, ← mdic, set_same hS]
  show fin S.length (B28 (tb (k + 3)) ⟨S.length, [some (.m j), some (.d (tD ls f)), none, none]⟩ S).res = _
  have f1 : sIf (tOrr (tNo (tV (eIsi anDic (eVar 0)))) (tV (eOp opNe (eBi biLen (aCons (eVar 0) (aNil))) (eBi biLen (aCons (eVar 1) (aNil)))))) (sRet (eC (.bl false))) (sNil) ⟨S.length, [some (.m j), some (.d (tD ls f)), none, none]⟩ S = .nx [some (.m j), some (.d (tD ls f)), none, none] S := by
    have t1 := tyS_md hS'
    have t2 := biLen_md hS'
    have t3 : biLen S [.d (tD ls f)] = some (.int ls.length) := rfl
    simp [t1, t2, t3, anDic, len]
  have f2 : sForK 0 (gNm 2) (L28_0 (tb (k + 3))) ⟨S.length, [some (.m j), some (.d (tD ls f)), none, none]⟩ S = .nx [some (.m j), some (.d (tD ls f)), y2, y3] S := by
    show (match S[j]? with | some (.dic ks xs) => unlk j (forL (gNm 2) (L28_0 (tb (k + 3))) S.length (ks.map keyS) [some (.m j), some (.d (tD ls f)), none, none] (S.set j (.lck ks xs))) | _ => .bad) = _
    rw [hS']
    simp only
    rw [e1, unlk_nx, e2, optT_s]
  unfold B28
  rw [sSeq_ap, f1, kSeq_nx, sSeq_ap, f2, kSeq_nx]
  simp
end
end Lw

set_option Elab.async false
set_option linter.all false
set_option maxRecDepth 100000
namespace Lw
open PySem L2 Ev
theorem pl {k : Nat} {ns : List Int} {j : Nat} {S : Sto} : ∃ (p : Po) (S' : Sto), S'[S.length]? = some p.l ∧ S'.length = S.length + 1 ∧ (∀ l, l ≠ S.length → S'[l]? = S[l]?) ∧ callK (tb (k + 2) 13) [.d (.lst (ns.map .int)), .d (.int j)] S = .ok (.m S.length) S' :=
  pool_ok (k := j) (g := tb (k + 2) 13) (c := tb (k + 1) 12) (fun b as S => rfl) (fun b as S => rfl)
theorem nx99 {S : Sto} {i : Nat} {p : Po} {m : Int} (hS : S[i]? = some p.l) (h0 : 0 < m) (h1 : m < 1073741824) :
    ∃ (d : Int) (q : Po) (S' : Sto), 0 ≤ d ∧ d < m ∧ S'[i]? = some q.l ∧ Up1 i S S' ∧ callF (tb 99 14) [.m i, .d (.int m)] S = .ok (.d (.int d)) S' := nx (k := 98) hS h0 h1
theorem pl99 {ns : List Int} {S : Sto} (n : Nat) (hn : S.length = n) : ∃ (p : Po) (S' : Sto), S'[n]? = some p.l ∧ S'.length = n + 1 ∧ (∀ l, l ≠ n → S'[l]? = S[l]?) ∧ callK (tb 99 13) [.d (.lst (ns.map .int)), .d (.int 0)] S = .ok (.m n) S' := by
  subst hn
  exact pl (k := 97) (j := 0)
theorem clr_m {S : Sto} {j : Nat} {ks : List Key} {xs : List SV} (h : S[j]? = some (.dic ks xs)) : clrR S (.m j) = some (S.set j (.dic [] [])) := by simp [clrR, h]
abbrev v6 (a b c d e f g : Option SV) : Ev.Env := [a, b, c, d, e, f, g]
theorem law_true (ns : List Int) (hns : ns.length ≤ 63) : ∃ S, tb 100 29 0 [.d (.lst (ns.map .int))] [] = .ok (.d (.bl true)) S := by
  obtain ⟨p1, S1, g1, l1, _, e1⟩ := pl99 (ns := ns) (S := []) 0 rfl
  obtain ⟨lv, p2, S2, a2, b2, g2, u2, e2⟩ := nx99 g1 (show (0 : Int) < 6 by decide) (by decide)
  obtain ⟨x3, p3, S3, a3, b3, g3, u3, e3⟩ := nx99 g2 (show (0 : Int) < 16 by decide) (by decide)
  obtain ⟨x4, p4, S4, a4, b4, g4, u4, e4⟩ := nx99 g3 (show (0 : Int) < 8 by decide) (by decide)
  have l4 : S4.length = 1 := by rw [u4.len, u3.len, u2.len, l1]
  obtain ⟨many, hm1, hm2, hm3⟩ : ∃ many : Int, 1 ≤ many ∧ many ≤ 30 ∧ many = if x4 = 0 then 30 else 1 + x3 := ⟨_, by split <;> omega, by split <;> omega, rfl⟩
  have w5 : Wy 0 1 6 (S4 ++ [.dic wK [.m 0, .d (.int 6)]]) := ⟨by decide, ⟨p4, by rw [List.getElem?_append_left (by omega)]; exact g4⟩, by rw [List.getElem?_append_right (by omega), l4]; rfl, by decide⟩
  obtain ⟨t, o5, S5, tok, tsz, toff, toff2, w6, u5, e5⟩ := freeOk 30 99 (by omega) 0 1 6 _ many lv 200 w5 hm1 (by omega) a2 (by omega)
  have tz : t.sz ≤ 30 := by omega
  have tn : t.noff ≤ 6 := by have := toff2 (by decide); omega
  have l5 : S5.length = 2 := by rw [u5.len]; simp [l4]
  obtain ⟨ks, K, c1, c2⟩ := cnt_all t lv tok (by omega)
  have hkk := wf_kok t lv tok
  have hmem : ∀ r, r ∈ ks ↔ r ∈ dks t lv := fun r => by rw [K.mem, dks_mem t lv hkk]
  have e6 := fun T => s27 (k := 99) (S := T) t lv tok (by omega) tn (by omega)
  have e7 := fun T => c2 99 T (by omega)
  have tol : ∀ (T : Sto) (j : Nat), T[j]? = some (mdic ks t.cn) → callF (tb 99 28) [.m j, .d (tD (dks t lv) t.cn)] T = .ok (.d (.bl true)) T := fun T j h => s28 (k := 95) h hmem K.nd (dks_nd t lv)
  have e8 := fun T => s1 (k := 98) (S := T) 1 1 0
  have e5' : callF (tb 99 24) [.m S4.length, .d (.int many), .d (.int lv), .d (.int 200)] (S4 ++ [.dic wK [.m 0, .d (.int 6)]]) = .ok (.d t.d) S5 := by rw [l4]; exact e5
  have f1 : sSet 1 (eCallK (tb 99 13) (aCons (eVar 0) (aCons (eC (.int 0)) (aNil)))) ⟨0, v6 (some (.d (.lst (ns.map .int)))) none none none none none none⟩ [] = .nx (v6 (some (.d (.lst (ns.map .int)))) (some (.m 0)) none none none none none) S1 := by simp [e1]
  have f2 : sSet 2 (eCall (tb 99 14) (aCons (eVar 1) (aCons (eC (.int 6)) (aNil)))) ⟨0, v6 (some (.d (.lst (ns.map .int)))) (some (.m 0)) none none none none none⟩ S1 = .nx (v6 (some (.d (.lst (ns.map .int)))) (some (.m 0)) (some (.d (.int lv))) none none none none) S2 := by simp [e2]
  have f3 : sSet 3 (eOp opAdd (eC (.int 1)) (eCall (tb 99 14) (aCons (eVar 1) (aCons (eC (.int 16)) (aNil))))) ⟨0, v6 (some (.d (.lst (ns.map .int)))) (some (.m 0)) (some (.d (.int lv))) none none none none⟩ S2 = .nx (v6 (some (.d (.lst (ns.map .int)))) (some (.m 0)) (some (.d (.int lv))) (some (.d (.int (1 + x3)))) none none none) S3 := by simp [e3]
  have f4 : sIf (tV (eOp opEq (eCall (tb 99 14) (aCons (eVar 1) (aCons (eC (.int 8)) (aNil)))) (eC (.int 0)))) (sSet 3 (eC (.int 30))) (sNil) ⟨0, v6 (some (.d (.lst (ns.map .int)))) (some (.m 0)) (some (.d (.int lv))) (some (.d (.int (1 + x3)))) none none none⟩ S3 = .nx (v6 (some (.d (.lst (ns.map .int)))) (some (.m 0)) (some (.d (.int lv))) (some (.d (.int many))) none none none) S4 := by
    by_cases c : x4 = 0
    · rw [if_pos c] at hm3; subst hm3; simp [e4, c]
    · rw [if_neg c] at hm3; subst hm3; simp [e4, c]
  have f5 : sSet 4 (eCall (tb 99 24) (aCons (eDspK [(eC (.str "pool"), eVar 1), (eC (.str "offers"), eC (.int 6))]) (aCons (eVar 3) (aCons (eVar 2) (aCons (eC (.int 200)) (aNil)))))) ⟨0, v6 (some (.d (.lst (ns.map .int)))) (some (.m 0)) (some (.d (.int lv))) (some (.d (.int many))) none none none⟩ S4 = .nx (v6 (some (.d (.lst (ns.map .int)))) (some (.m 0)) (some (.d (.int lv))) (some (.d (.int many))) (some (.d t.d)) none none) S5 := by
    simp [wK] at e5'
    simp [e5']
  have f6 : sSet 5 (eCall (tb 99 27) (aCons (eVar 4) (aCons (eVar 2) (aNil)))) ⟨0, v6 (some (.d (.lst (ns.map .int)))) (some (.m 0)) (some (.d (.int lv))) (some (.d (.int many))) (some (.d t.d)) none none⟩ S5 = .nx (v6 (some (.d (.lst (ns.map .int)))) (some (.m 0)) (some (.d (.int lv))) (some (.d (.int many))) (some (.d t.d)) (some (.d (tD (dks t lv) t.cn))) none) S5 := by simp [e6]
  have f7 : sSet 6 (eCallK (tb 99 33) (aCons (eVar 4) (aCons (eVar 2) (aNil)))) ⟨0, v6 (some (.d (.lst (ns.map .int)))) (some (.m 0)) (some (.d (.int lv))) (some (.d (.int many))) (some (.d t.d)) (some (.d (tD (dks t lv) t.cn))) none⟩ S5 = .nx (v6 (some (.d (.lst (ns.map .int)))) (some (.m 0)) (some (.d (.int lv))) (some (.d (.int many))) (some (.d t.d)) (some (.d (tD (dks t lv) t.cn))) (some (.m S5.length))) (S5 ++ [mdic ks t.cn]) := by simp [e7]
  have t8 := tol (S5 ++ [mdic ks t.cn]) S5.length (top_m _)
  have f8 : sIf (tNo (tV (eCall (tb 99 28) (aCons (eVar 6) (aCons (eVar 5) (aNil)))))) (sRet (eC (.bl false))) (sNil) ⟨0, v6 (some (.d (.lst (ns.map .int)))) (some (.m 0)) (some (.d (.int lv))) (some (.d (.int many))) (some (.d t.d)) (some (.d (tD (dks t lv) t.cn))) (some (.m S5.length))⟩ (S5 ++ [mdic ks t.cn]) = .nx (v6 (some (.d (.lst (ns.map .int)))) (some (.m 0)) (some (.d (.int lv))) (some (.d (.int many))) (some (.d t.d)) (some (.d (tD (dks t lv) t.cn))) (some (.m S5.length))) (S5 ++ [mdic ks t.cn]) := by simp [t8]
  have t9 : clrR (S5 ++ [mdic ks t.cn]) (.m S5.length) = some (S5 ++ [mdic [] t.cn]) := by
    have h : (S5 ++ [mdic ks t.cn])[S5.length]? = some (.dic ks ((ks.map fun r => (t.cn r).v).map .d)) := top_m (mdic ks t.cn)
    rw [clr_m h]
    simp [mdic]
  have f9 : sExpr (eClr (eVar 6)) ⟨0, v6 (some (.d (.lst (ns.map .int)))) (some (.m 0)) (some (.d (.int lv))) (some (.d (.int many))) (some (.d t.d)) (some (.d (tD (dks t lv) t.cn))) (some (.m S5.length))⟩ (S5 ++ [mdic ks t.cn]) = .nx (v6 (some (.d (.lst (ns.map .int)))) (some (.m 0)) (some (.d (.int lv))) (some (.d (.int many))) (some (.d t.d)) (some (.d (tD (dks t lv) t.cn))) (some (.m S5.length))) (S5 ++ [mdic [] t.cn]) := by simp [t9]
  have t10 := put_m (S := S5) (b := 0) [] t.cn (.inr "spoilt") ⟨1, 1, 0⟩ (by decide)
  have f10 : sSub (eVar 6) (eC (.str "spoilt")) (eMake 0 (tb 99 1) (aCons (eC (.int 1)) (aCons (eC (.int 1)) (aCons (eC (.int 0)) (aNil))))) ⟨0, v6 (some (.d (.lst (ns.map .int)))) (some (.m 0)) (some (.d (.int lv))) (some (.d (.int many))) (some (.d t.d)) (some (.d (tD (dks t lv) t.cn))) (some (.m S5.length))⟩ (S5 ++ [mdic [] t.cn]) = .nx (v6 (some (.d (.lst (ns.map .int)))) (some (.m 0)) (some (.d (.int lv))) (some (.d (.int many))) (some (.d t.d)) (some (.d (tD (dks t lv) t.cn))) (some (.m S5.length))) (S5 ++ [mdic (insK (.inr "spoilt") []) (updF t.cn (.inr "spoilt") ⟨1, 1, 0⟩)]) := by
    simp [e8]
    have t10' : putIx 0 (S5 ++ [mdic [] t.cn]) (.m S5.length) (.d (.str "spoilt")) (.d (C3.v ⟨1, 1, 0⟩)) = some _ := t10
    rw [t10']
    simp
  have t11 := fun T => tol (T ++ [mdic ks t.cn]) T.length (top_m _)
  have f11 : ∀ T, sIf (tNo (tV (eCall (tb 99 28) (aCons (eCallK (tb 99 33) (aCons (eVar 4) (aCons (eVar 2) (aNil)))) (aCons (eVar 5) (aNil)))))) (sRet (eC (.bl false))) (sNil) ⟨0, v6 (some (.d (.lst (ns.map .int)))) (some (.m 0)) (some (.d (.int lv))) (some (.d (.int many))) (some (.d t.d)) (some (.d (tD (dks t lv) t.cn))) (some (.m S5.length))⟩ T = .nx (v6 (some (.d (.lst (ns.map .int)))) (some (.m 0)) (some (.d (.int lv))) (some (.d (.int many))) (some (.d t.d)) (some (.d (tD (dks t lv) t.cn))) (some (.m S5.length))) (T ++ [mdic ks t.cn]) := fun T => by simp [e7, t11]
  have f12 : ∀ T, ∃ T', sRet (eOr (eOp opGt (eVar 2) (eC (.int 0))) (eCall (tb 99 28) (aCons (eCallDK (tb 99 33) [.int 0] (aCons (eVar 4) (aNil))) (aCons (eVar 5) (aNil))))) ⟨0, v6 (some (.d (.lst (ns.map .int)))) (some (.m 0)) (some (.d (.int lv))) (some (.d (.int many))) (some (.d t.d)) (some (.d (tD (dks t lv) t.cn))) (some (.m S5.length))⟩ T = .rt (.d (.bl true)) T' := fun T => by
    by_cases c : 0 < lv
    · exact ⟨T, by simp [c]⟩
    · have c0 : lv = 0 := by omega
      have e7' := e7 T
      rw [c0] at e7'
      exact ⟨T ++ [mdic ks t.cn], by simp [c, e7', t11]⟩
  obtain ⟨T', f12⟩ := f12 ((S5 ++ [mdic (insK (.inr "spoilt") []) (updF t.cn (.inr "spoilt") ⟨1, 1, 0⟩)]) ++ [mdic ks t.cn])
  refine ⟨T', ?_⟩
  rw [t_29]
  show (B29 (tb 99) ⟨0, v6 (some (.d (.lst (ns.map .int)))) none none none none none none⟩ []).res = _
  unfold B29
  rw [sSeq_ap, f1, kSeq_nx, sSeq_ap, f2, kSeq_nx, sSeq_ap, f3, kSeq_nx, sSeq_ap, f4, kSeq_nx, sSeq_ap, f5, kSeq_nx, sSeq_ap, f6, kSeq_nx, sSeq_ap, f7, kSeq_nx, sSeq_ap, f8, kSeq_nx, sSeq_ap, f9, kSeq_nx, sSeq_ap, f10, kSeq_nx, sSeq_ap, f11, kSeq_nx, f12]
  rfl
end Lw

set_option Elab.async false
set_option linter.all false
set_option maxRecDepth 100000
namespace Lw
open PySem L2 Ev
/-! ### the text by places -/
def top (i : Nat) : Stmt := PySem.Challenge.pw_heldproofs_k27_whole_counts_by_choices.main.body.getD i (.Pass ⟨0, 0, 0, 0⟩)
theorem nd_0 : (("days" : Str) == ("__debug__" : Str)) = false ∧ (("days" : Str) == ("__classdict__" : Str)) = false := ⟨by decide +kernel, by decide +kernel⟩
theorem nd_1 : (("self" : Str) == ("__debug__" : Str)) = false ∧ (("self" : Str) == ("__classdict__" : Str)) = false := ⟨by decide +kernel, by decide +kernel⟩
theorem nd_2 : (("most" : Str) == ("__debug__" : Str)) = false ∧ (("most" : Str) == ("__classdict__" : Str)) = false := ⟨by decide +kernel, by decide +kernel⟩
theorem nd_3 : (("least" : Str) == ("__debug__" : Str)) = false ∧ (("least" : Str) == ("__classdict__" : Str)) = false := ⟨by decide +kernel, by decide +kernel⟩
theorem nd_4 : (("other" : Str) == ("__debug__" : Str)) = false ∧ (("other" : Str) == ("__classdict__" : Str)) = false := ⟨by decide +kernel, by decide +kernel⟩
theorem nd_5 : (("Count" : Str) == ("__debug__" : Str)) = false ∧ (("Count" : Str) == ("__classdict__" : Str)) = false := ⟨by decide +kernel, by decide +kernel⟩
theorem nd_6 : (("kind" : Str) == ("__debug__" : Str)) = false ∧ (("kind" : Str) == ("__classdict__" : Str)) = false := ⟨by decide +kernel, by decide +kernel⟩
theorem nd_7 : (("_wall" : Str) == ("__debug__" : Str)) = false ∧ (("_wall" : Str) == ("__classdict__" : Str)) = false := ⟨by decide +kernel, by decide +kernel⟩
theorem nd_8 : (("total" : Str) == ("__debug__" : Str)) = false ∧ (("total" : Str) == ("__classdict__" : Str)) = false := ⟨by decide +kernel, by decide +kernel⟩
theorem nd_9 : (("ref" : Str) == ("__debug__" : Str)) = false ∧ (("ref" : Str) == ("__classdict__" : Str)) = false := ⟨by decide +kernel, by decide +kernel⟩
theorem nd_10 : (("second" : Str) == ("__debug__" : Str)) = false ∧ (("second" : Str) == ("__classdict__" : Str)) = false := ⟨by decide +kernel, by decide +kernel⟩
theorem nd_11 : (("first" : Str) == ("__debug__" : Str)) = false ∧ (("first" : Str) == ("__classdict__" : Str)) = false := ⟨by decide +kernel, by decide +kernel⟩
theorem nd_12 : (("found" : Str) == ("__debug__" : Str)) = false ∧ (("found" : Str) == ("__classdict__" : Str)) = false := ⟨by decide +kernel, by decide +kernel⟩
theorem nd_13 : (("body" : Str) == ("__debug__" : Str)) = false ∧ (("body" : Str) == ("__classdict__" : Str)) = false := ⟨by decide +kernel, by decide +kernel⟩
theorem nd_14 : (("added" : Str) == ("__debug__" : Str)) = false ∧ (("added" : Str) == ("__classdict__" : Str)) = false := ⟨by decide +kernel, by decide +kernel⟩
theorem nd_15 : (("name" : Str) == ("__debug__" : Str)) = false ∧ (("name" : Str) == ("__classdict__" : Str)) = false := ⟨by decide +kernel, by decide +kernel⟩
theorem nd_16 : (("derivation" : Str) == ("__debug__" : Str)) = false ∧ (("derivation" : Str) == ("__classdict__" : Str)) = false := ⟨by decide +kernel, by decide +kernel⟩
theorem nd_17 : (("level" : Str) == ("__debug__" : Str)) = false ∧ (("level" : Str) == ("__classdict__" : Str)) = false := ⟨by decide +kernel, by decide +kernel⟩
theorem nd_18 : (("counts" : Str) == ("__debug__" : Str)) = false ∧ (("counts" : Str) == ("__classdict__" : Str)) = false := ⟨by decide +kernel, by decide +kernel⟩
theorem nd_19 : (("boxed_counts" : Str) == ("__debug__" : Str)) = false ∧ (("boxed_counts" : Str) == ("__classdict__" : Str)) = false := ⟨by decide +kernel, by decide +kernel⟩
theorem nd_20 : (("without" : Str) == ("__debug__" : Str)) = false ∧ (("without" : Str) == ("__classdict__" : Str)) = false := ⟨by decide +kernel, by decide +kernel⟩
theorem nd_21 : (("either" : Str) == ("__debug__" : Str)) = false ∧ (("either" : Str) == ("__classdict__" : Str)) = false := ⟨by decide +kernel, by decide +kernel⟩
theorem nd_22 : (("_law_k" : Str) == ("__debug__" : Str)) = false ∧ (("_law_k" : Str) == ("__classdict__" : Str)) = false := ⟨by decide +kernel, by decide +kernel⟩
theorem nd_23 : (("_law_script" : Str) == ("__debug__" : Str)) = false ∧ (("_law_script" : Str) == ("__classdict__" : Str)) = false := ⟨by decide +kernel, by decide +kernel⟩
theorem nd_24 : (("_law_cell_here" : Str) == ("__debug__" : Str)) = false ∧ (("_law_cell_here" : Str) == ("__classdict__" : Str)) = false := ⟨by decide +kernel, by decide +kernel⟩
theorem nd_25 : (("_law_cell" : Str) == ("__debug__" : Str)) = false ∧ (("_law_cell" : Str) == ("__classdict__" : Str)) = false := ⟨by decide +kernel, by decide +kernel⟩
theorem nd_26 : (("_law_mixed" : Str) == ("__debug__" : Str)) = false ∧ (("_law_mixed" : Str) == ("__classdict__" : Str)) = false := ⟨by decide +kernel, by decide +kernel⟩
theorem nd_27 : (("_law_many" : Str) == ("__debug__" : Str)) = false ∧ (("_law_many" : Str) == ("__classdict__" : Str)) = false := ⟨by decide +kernel, by decide +kernel⟩
theorem nd_28 : (("_law_pool_here" : Str) == ("__debug__" : Str)) = false ∧ (("_law_pool_here" : Str) == ("__classdict__" : Str)) = false := ⟨by decide +kernel, by decide +kernel⟩
theorem nd_29 : (("_law_digit" : Str) == ("__debug__" : Str)) = false ∧ (("_law_digit" : Str) == ("__classdict__" : Str)) = false := ⟨by decide +kernel, by decide +kernel⟩
theorem nd_30 : (("_law_value" : Str) == ("__debug__" : Str)) = false ∧ (("_law_value" : Str) == ("__classdict__" : Str)) = false := ⟨by decide +kernel, by decide +kernel⟩
theorem nd_31 : (("_law_item" : Str) == ("__debug__" : Str)) = false ∧ (("_law_item" : Str) == ("__classdict__" : Str)) = false := ⟨by decide +kernel, by decide +kernel⟩
theorem nd_32 : (("_law_names" : Str) == ("__debug__" : Str)) = false ∧ (("_law_names" : Str) == ("__classdict__" : Str)) = false := ⟨by decide +kernel, by decide +kernel⟩
theorem nd_33 : (("_law_tree" : Str) == ("__debug__" : Str)) = false ∧ (("_law_tree" : Str) == ("__classdict__" : Str)) = false := ⟨by decide +kernel, by decide +kernel⟩
theorem nd_34 : (("_law_row" : Str) == ("__debug__" : Str)) = false ∧ (("_law_row" : Str) == ("__classdict__" : Str)) = false := ⟨by decide +kernel, by decide +kernel⟩
theorem nd_35 : (("_law_found" : Str) == ("__debug__" : Str)) = false ∧ (("_law_found" : Str) == ("__classdict__" : Str)) = false := ⟨by decide +kernel, by decide +kernel⟩
theorem nd_36 : (("_law_parts_here" : Str) == ("__debug__" : Str)) = false ∧ (("_law_parts_here" : Str) == ("__classdict__" : Str)) = false := ⟨by decide +kernel, by decide +kernel⟩
theorem nd_37 : (("_law_path" : Str) == ("__debug__" : Str)) = false ∧ (("_law_path" : Str) == ("__classdict__" : Str)) = false := ⟨by decide +kernel, by decide +kernel⟩
theorem nd_38 : (("_law_paths" : Str) == ("__debug__" : Str)) = false ∧ (("_law_paths" : Str) == ("__classdict__" : Str)) = false := ⟨by decide +kernel, by decide +kernel⟩
theorem nd_39 : (("_law_parts" : Str) == ("__debug__" : Str)) = false ∧ (("_law_parts" : Str) == ("__classdict__" : Str)) = false := ⟨by decide +kernel, by decide +kernel⟩
theorem nd_40 : (("_law_told_here" : Str) == ("__debug__" : Str)) = false ∧ (("_law_told_here" : Str) == ("__classdict__" : Str)) = false := ⟨by decide +kernel, by decide +kernel⟩
theorem nd_41 : (("_law_due_here" : Str) == ("__debug__" : Str)) = false ∧ (("_law_due_here" : Str) == ("__classdict__" : Str)) = false := ⟨by decide +kernel, by decide +kernel⟩
theorem nd_42 : (("_law_same" : Str) == ("__debug__" : Str)) = false ∧ (("_law_same" : Str) == ("__classdict__" : Str)) = false := ⟨by decide +kernel, by decide +kernel⟩
theorem nd_43 : (("_law_is_number" : Str) == ("__debug__" : Str)) = false ∧ (("_law_is_number" : Str) == ("__classdict__" : Str)) = false := ⟨by decide +kernel, by decide +kernel⟩
theorem nd_44 : (("_law_mode_here" : Str) == ("__debug__" : Str)) = false ∧ (("_law_mode_here" : Str) == ("__classdict__" : Str)) = false := ⟨by decide +kernel, by decide +kernel⟩
theorem nd_45 : (("_law_room" : Str) == ("__debug__" : Str)) = false ∧ (("_law_room" : Str) == ("__classdict__" : Str)) = false := ⟨by decide +kernel, by decide +kernel⟩
theorem nd_46 : (("_law_next" : Str) == ("__debug__" : Str)) = false ∧ (("_law_next" : Str) == ("__classdict__" : Str)) = false := ⟨by decide +kernel, by decide +kernel⟩
theorem nd_47 : (("_law_ref" : Str) == ("__debug__" : Str)) = false ∧ (("_law_ref" : Str) == ("__classdict__" : Str)) = false := ⟨by decide +kernel, by decide +kernel⟩
theorem nd_48 : (("_law_name" : Str) == ("__debug__" : Str)) = false ∧ (("_law_name" : Str) == ("__classdict__" : Str)) = false := ⟨by decide +kernel, by decide +kernel⟩
theorem nd_49 : (("_law_index" : Str) == ("__debug__" : Str)) = false ∧ (("_law_index" : Str) == ("__classdict__" : Str)) = false := ⟨by decide +kernel, by decide +kernel⟩
theorem nd_50 : (("_law_body" : Str) == ("__debug__" : Str)) = false ∧ (("_law_body" : Str) == ("__classdict__" : Str)) = false := ⟨by decide +kernel, by decide +kernel⟩
theorem nd_51 : (("_law_which" : Str) == ("__debug__" : Str)) = false ∧ (("_law_which" : Str) == ("__classdict__" : Str)) = false := ⟨by decide +kernel, by decide +kernel⟩
theorem nd_52 : (("_law_way" : Str) == ("__debug__" : Str)) = false ∧ (("_law_way" : Str) == ("__classdict__" : Str)) = false := ⟨by decide +kernel, by decide +kernel⟩
theorem nd_53 : (("_law_level" : Str) == ("__debug__" : Str)) = false ∧ (("_law_level" : Str) == ("__classdict__" : Str)) = false := ⟨by decide +kernel, by decide +kernel⟩
theorem nd_54 : (("_law_free" : Str) == ("__debug__" : Str)) = false ∧ (("_law_free" : Str) == ("__classdict__" : Str)) = false := ⟨by decide +kernel, by decide +kernel⟩
theorem nd_55 : (("_law_one" : Str) == ("__debug__" : Str)) = false ∧ (("_law_one" : Str) == ("__classdict__" : Str)) = false := ⟨by decide +kernel, by decide +kernel⟩
theorem nd_56 : (("_law_two" : Str) == ("__debug__" : Str)) = false ∧ (("_law_two" : Str) == ("__classdict__" : Str)) = false := ⟨by decide +kernel, by decide +kernel⟩
theorem nd_57 : (("_law_first" : Str) == ("__debug__" : Str)) = false ∧ (("_law_first" : Str) == ("__classdict__" : Str)) = false := ⟨by decide +kernel, by decide +kernel⟩
theorem nd_58 : (("_law_inner" : Str) == ("__debug__" : Str)) = false ∧ (("_law_inner" : Str) == ("__classdict__" : Str)) = false := ⟨by decide +kernel, by decide +kernel⟩
theorem nd_59 : (("_law_mode" : Str) == ("__debug__" : Str)) = false ∧ (("_law_mode" : Str) == ("__classdict__" : Str)) = false := ⟨by decide +kernel, by decide +kernel⟩
theorem nd_60 : (("_law_pick" : Str) == ("__debug__" : Str)) = false ∧ (("_law_pick" : Str) == ("__classdict__" : Str)) = false := ⟨by decide +kernel, by decide +kernel⟩
theorem nd_61 : (("_law_free_two" : Str) == ("__debug__" : Str)) = false ∧ (("_law_free_two" : Str) == ("__classdict__" : Str)) = false := ⟨by decide +kernel, by decide +kernel⟩
theorem nd_62 : (("_law_free_one" : Str) == ("__debug__" : Str)) = false ∧ (("_law_free_one" : Str) == ("__classdict__" : Str)) = false := ⟨by decide +kernel, by decide +kernel⟩
theorem nd_63 : (("_law_product" : Str) == ("__debug__" : Str)) = false ∧ (("_law_product" : Str) == ("__classdict__" : Str)) = false := ⟨by decide +kernel, by decide +kernel⟩
theorem nd_64 : (("_law_days" : Str) == ("__debug__" : Str)) = false ∧ (("_law_days" : Str) == ("__classdict__" : Str)) = false := ⟨by decide +kernel, by decide +kernel⟩
theorem nd_65 : (("_law_row_here" : Str) == ("__debug__" : Str)) = false ∧ (("_law_row_here" : Str) == ("__classdict__" : Str)) = false := ⟨by decide +kernel, by decide +kernel⟩
theorem nd_66 : (("_law_premise" : Str) == ("__debug__" : Str)) = false ∧ (("_law_premise" : Str) == ("__classdict__" : Str)) = false := ⟨by decide +kernel, by decide +kernel⟩
theorem nd_67 : (("_law_plain" : Str) == ("__debug__" : Str)) = false ∧ (("_law_plain" : Str) == ("__classdict__" : Str)) = false := ⟨by decide +kernel, by decide +kernel⟩
theorem nd_68 : (("_law_uses_here" : Str) == ("__debug__" : Str)) = false ∧ (("_law_uses_here" : Str) == ("__classdict__" : Str)) = false := ⟨by decide +kernel, by decide +kernel⟩
theorem nd_69 : (("_law_work" : Str) == ("__debug__" : Str)) = false ∧ (("_law_work" : Str) == ("__classdict__" : Str)) = false := ⟨by decide +kernel, by decide +kernel⟩
theorem nd_70 : (("_law_above_here" : Str) == ("__debug__" : Str)) = false ∧ (("_law_above_here" : Str) == ("__classdict__" : Str)) = false := ⟨by decide +kernel, by decide +kernel⟩
theorem nd_71 : (("_law_number" : Str) == ("__debug__" : Str)) = false ∧ (("_law_number" : Str) == ("__classdict__" : Str)) = false := ⟨by decide +kernel, by decide +kernel⟩
theorem nd_72 : (("_law_above" : Str) == ("__debug__" : Str)) = false ∧ (("_law_above" : Str) == ("__classdict__" : Str)) = false := ⟨by decide +kernel, by decide +kernel⟩
theorem nd_73 : (("_law_old" : Str) == ("__debug__" : Str)) = false ∧ (("_law_old" : Str) == ("__classdict__" : Str)) = false := ⟨by decide +kernel, by decide +kernel⟩
theorem nd_74 : (("_law_least" : Str) == ("__debug__" : Str)) = false ∧ (("_law_least" : Str) == ("__classdict__" : Str)) = false := ⟨by decide +kernel, by decide +kernel⟩
theorem nd_75 : (("_law_most" : Str) == ("__debug__" : Str)) = false ∧ (("_law_most" : Str) == ("__classdict__" : Str)) = false := ⟨by decide +kernel, by decide +kernel⟩
theorem nd_76 : (("_law_use" : Str) == ("__debug__" : Str)) = false ∧ (("_law_use" : Str) == ("__classdict__" : Str)) = false := ⟨by decide +kernel, by decide +kernel⟩
theorem nd_77 : (("_law_uses" : Str) == ("__debug__" : Str)) = false ∧ (("_law_uses" : Str) == ("__classdict__" : Str)) = false := ⟨by decide +kernel, by decide +kernel⟩
theorem nd_78 : (("_law_total" : Str) == ("__debug__" : Str)) = false ∧ (("_law_total" : Str) == ("__classdict__" : Str)) = false := ⟨by decide +kernel, by decide +kernel⟩
theorem nd_79 : (("_law_at" : Str) == ("__debug__" : Str)) = false ∧ (("_law_at" : Str) == ("__classdict__" : Str)) = false := ⟨by decide +kernel, by decide +kernel⟩
theorem nd_80 : (("_law_told" : Str) == ("__debug__" : Str)) = false ∧ (("_law_told" : Str) == ("__classdict__" : Str)) = false := ⟨by decide +kernel, by decide +kernel⟩
theorem nd_81 : (("_law_due" : Str) == ("__debug__" : Str)) = false ∧ (("_law_due" : Str) == ("__classdict__" : Str)) = false := ⟨by decide +kernel, by decide +kernel⟩
theorem nd_82 : (("_law_pool" : Str) == ("__debug__" : Str)) = false ∧ (("_law_pool" : Str) == ("__classdict__" : Str)) = false := ⟨by decide +kernel, by decide +kernel⟩
theorem v_1_3 : (defScope (inClass (top 2) 0)).names.lookup ("days" : Str) = some .local := by decide +kernel
theorem v_1_0 : (defScope (inClass (top 2) 0)).names.lookup ("self" : Str) = some .local := by decide +kernel
theorem v_1_2 : (defScope (inClass (top 2) 0)).names.lookup ("most" : Str) = some .local := by decide +kernel
theorem v_1_1 : (defScope (inClass (top 2) 0)).names.lookup ("least" : Str) = some .local := by decide +kernel
theorem v_2_0 : (defScope (inClass (top 2) 1)).names.lookup ("self" : Str) = some .local := by decide +kernel
theorem v_2_1 : (defScope (inClass (top 2) 1)).names.lookup ("other" : Str) = some .local := by decide +kernel
theorem g_2_max : (defScope (inClass (top 2) 1)).names.lookup ("max" : Str) = some .globalImplicit := by decide +kernel
theorem g_2_Count : (defScope (inClass (top 2) 1)).names.lookup ("Count" : Str) = some .globalImplicit := by decide +kernel
theorem v_3_2 : (defScope (inClass (top 2) 2)).names.lookup ("least" : Str) = some .local := by decide +kernel
theorem v_3_0 : (defScope (inClass (top 2) 2)).names.lookup ("self" : Str) = some .local := by decide +kernel
theorem v_3_1 : (defScope (inClass (top 2) 2)).names.lookup ("other" : Str) = some .local := by decide +kernel
theorem g_3_max : (defScope (inClass (top 2) 2)).names.lookup ("max" : Str) = some .globalImplicit := by decide +kernel
theorem g_3_Count : (defScope (inClass (top 2) 2)).names.lookup ("Count" : Str) = some .globalImplicit := by decide +kernel
theorem v_4_1 : (defScope (inClass (top 2) 3)).names.lookup ("kind" : Str) = some .local := by decide +kernel
theorem v_4_0 : (defScope (inClass (top 2) 3)).names.lookup ("self" : Str) = some .local := by decide +kernel
theorem g_4_Count : (defScope (inClass (top 2) 3)).names.lookup ("Count" : Str) = some .globalImplicit := by decide +kernel
theorem g_5__wall : (defScope (inClass (top 2) 4)).names.lookup ("_wall" : Str) = some .globalImplicit := by decide +kernel
theorem v_6_0 : (defScope (inClass (top 2) 5)).names.lookup ("self" : Str) = some .local := by decide +kernel
theorem v_7_2 : (defScope (top 3)).names.lookup ("total" : Str) = some .local := by decide +kernel
theorem v_7_3 : (defScope (top 3)).names.lookup ("ref" : Str) = some .local := by decide +kernel
theorem v_7_1 : (defScope (top 3)).names.lookup ("second" : Str) = some .local := by decide +kernel
theorem v_7_0 : (defScope (top 3)).names.lookup ("first" : Str) = some .local := by decide +kernel
theorem v_8_2 : (defScope (top 4)).names.lookup ("total" : Str) = some .local := by decide +kernel
theorem v_8_3 : (defScope (top 4)).names.lookup ("ref" : Str) = some .local := by decide +kernel
theorem v_8_0 : (defScope (top 4)).names.lookup ("first" : Str) = some .local := by decide +kernel
theorem v_8_1 : (defScope (top 4)).names.lookup ("second" : Str) = some .local := by decide +kernel
theorem g_8_Count : (defScope (top 4)).names.lookup ("Count" : Str) = some .globalImplicit := by decide +kernel
theorem v_9_0 : (defScope (top 5)).names.lookup ("found" : Str) = some .cell := by decide +kernel
theorem v_10_0 : (defScope (top 6)).names.lookup ("found" : Str) = some .cell := by decide +kernel
theorem v_11_4 : (defScope (top 7)).names.lookup ("found" : Str) = some .local := by decide +kernel
theorem v_11_3 : (defScope (top 7)).names.lookup ("body" : Str) = some .local := by decide +kernel
theorem g_11_added : (defScope (top 7)).names.lookup ("added" : Str) = some .globalImplicit := by decide +kernel
theorem v_11_2 : (defScope (top 7)).names.lookup ("name" : Str) = some .local := by decide +kernel
theorem v_11_0 : (defScope (top 7)).names.lookup ("derivation" : Str) = some .local := by decide +kernel
theorem v_11_1 : (defScope (top 7)).names.lookup ("level" : Str) = some .local := by decide +kernel
theorem g_11_counts : (defScope (top 7)).names.lookup ("counts" : Str) = some .globalImplicit := by decide +kernel
theorem g_11_boxed_counts : (defScope (top 7)).names.lookup ("boxed_counts" : Str) = some .globalImplicit := by decide +kernel
theorem g_11_Count : (defScope (top 7)).names.lookup ("Count" : Str) = some .globalImplicit := by decide +kernel
theorem g_11_len : (defScope (top 7)).names.lookup ("len" : Str) = some .globalImplicit := by decide +kernel
theorem g_11_without : (defScope (top 7)).names.lookup ("without" : Str) = some .globalImplicit := by decide +kernel
theorem g_11_either : (defScope (top 7)).names.lookup ("either" : Str) = some .globalImplicit := by decide +kernel
theorem v_12_1 : (defScope (top 9)).names.lookup ("_law_k" : Str) = some .local := by decide +kernel
theorem v_12_0 : (defScope (top 9)).names.lookup ("_law_script" : Str) = some .local := by decide +kernel
theorem g_12_len : (defScope (top 9)).names.lookup ("len" : Str) = some .globalImplicit := by decide +kernel
theorem g_12_abs : (defScope (top 9)).names.lookup ("abs" : Str) = some .globalImplicit := by decide +kernel
theorem v_13_2 : (defScope (top 10)).names.lookup ("_law_cell_here" : Str) = some .local := by decide +kernel
theorem g_13_int : (defScope (top 10)).names.lookup ("int" : Str) = some .globalImplicit := by decide +kernel
theorem v_13_0 : (defScope (top 10)).names.lookup ("_law_script" : Str) = some .local := by decide +kernel
theorem v_13_1 : (defScope (top 10)).names.lookup ("_law_k" : Str) = some .local := by decide +kernel
theorem g_13__law_cell : (defScope (top 10)).names.lookup ("_law_cell" : Str) = some .globalImplicit := by decide +kernel
theorem v_14_3 : (defScope (top 11)).names.lookup ("_law_mixed" : Str) = some .local := by decide +kernel
theorem g_14_int : (defScope (top 11)).names.lookup ("int" : Str) = some .globalImplicit := by decide +kernel
theorem v_14_1 : (defScope (top 11)).names.lookup ("_law_many" : Str) = some .local := by decide +kernel
theorem v_14_0 : (defScope (top 11)).names.lookup ("_law_pool_here" : Str) = some .local := by decide +kernel
theorem v_14_2 : (defScope (top 11)).names.lookup ("_law_digit" : Str) = some .local := by decide +kernel
theorem v_15_0 : (defScope (top 12)).names.lookup ("_law_value" : Str) = some .local := by decide +kernel
theorem g_15_isinstance : (defScope (top 12)).names.lookup ("isinstance" : Str) = some .globalImplicit := by decide +kernel
theorem g_15_bool : (defScope (top 12)).names.lookup ("bool" : Str) = some .globalImplicit := by decide +kernel
theorem g_15_int : (defScope (top 12)).names.lookup ("int" : Str) = some .globalImplicit := by decide +kernel
theorem v_16_0 : (defScope (top 13)).names.lookup ("_law_item" : Str) = some .local := by decide +kernel
theorem v_16_1 : (defScope (top 13)).names.lookup ("_law_names" : Str) = some .local := by decide +kernel
theorem g_16_len : (defScope (top 13)).names.lookup ("len" : Str) = some .globalImplicit := by decide +kernel
theorem g_16_isinstance : (defScope (top 13)).names.lookup ("isinstance" : Str) = some .globalImplicit := by decide +kernel
theorem g_16_tuple : (defScope (top 13)).names.lookup ("tuple" : Str) = some .globalImplicit := by decide +kernel
theorem v_17_0 : (defScope (top 14)).names.lookup ("_law_tree" : Str) = some .local := by decide +kernel
theorem v_18_2 : (defScope (top 15)).names.lookup ("_law_found" : Str) = some .local := by decide +kernel
theorem v_18_4 : (defScope (top 15)).names.lookup ("_law_k" : Str) = some .local := by decide +kernel
theorem v_18_3 : (defScope (top 15)).names.lookup ("_law_parts_here" : Str) = some .local := by decide +kernel
theorem v_18_1 : (defScope (top 15)).names.lookup ("_law_path" : Str) = some .local := by decide +kernel
theorem g_18__law_paths : (defScope (top 15)).names.lookup ("_law_paths" : Str) = some .globalImplicit := by decide +kernel
theorem g_18_len : (defScope (top 15)).names.lookup ("len" : Str) = some .globalImplicit := by decide +kernel
theorem g_18_range : (defScope (top 15)).names.lookup ("range" : Str) = some .globalImplicit := by decide +kernel
theorem v_18_0 : (defScope (top 15)).names.lookup ("_law_tree" : Str) = some .local := by decide +kernel
theorem g_18__law_parts : (defScope (top 15)).names.lookup ("_law_parts" : Str) = some .globalImplicit := by decide +kernel
theorem v_19_0 : (defScope (top 16)).names.lookup ("_law_tree" : Str) = some .local := by decide +kernel
theorem v_19_2 : (defScope (top 16)).names.lookup ("_law_k" : Str) = some .local := by decide +kernel
theorem g_19__law_parts : (defScope (top 16)).names.lookup ("_law_parts" : Str) = some .globalImplicit := by decide +kernel
theorem v_19_1 : (defScope (top 16)).names.lookup ("_law_path" : Str) = some .local := by decide +kernel
theorem v_20_2 : (defScope (top 17)).names.lookup ("_law_k" : Str) = some .local := by decide +kernel
theorem v_20_0 : (defScope (top 17)).names.lookup ("_law_told_here" : Str) = some .local := by decide +kernel
theorem v_20_1 : (defScope (top 17)).names.lookup ("_law_due_here" : Str) = some .local := by decide +kernel
theorem g_20__law_same : (defScope (top 17)).names.lookup ("_law_same" : Str) = some .globalImplicit := by decide +kernel
theorem g_20_len : (defScope (top 17)).names.lookup ("len" : Str) = some .globalImplicit := by decide +kernel
theorem g_20_range : (defScope (top 17)).names.lookup ("range" : Str) = some .globalImplicit := by decide +kernel
theorem g_20_isinstance : (defScope (top 17)).names.lookup ("isinstance" : Str) = some .globalImplicit := by decide +kernel
theorem g_20_list : (defScope (top 17)).names.lookup ("list" : Str) = some .globalImplicit := by decide +kernel
theorem g_20_tuple : (defScope (top 17)).names.lookup ("tuple" : Str) = some .globalImplicit := by decide +kernel
theorem g_20__law_is_number : (defScope (top 17)).names.lookup ("_law_is_number" : Str) = some .globalImplicit := by decide +kernel
theorem g_20_str : (defScope (top 17)).names.lookup ("str" : Str) = some .globalImplicit := by decide +kernel
theorem v_21_2 : (defScope (top 18)).names.lookup ("_law_mode_here" : Str) = some .local := by decide +kernel
theorem v_21_1 : (defScope (top 18)).names.lookup ("_law_room" : Str) = some .local := by decide +kernel
theorem v_21_0 : (defScope (top 18)).names.lookup ("_law_pool_here" : Str) = some .local := by decide +kernel
theorem g_21__law_next : (defScope (top 18)).names.lookup ("_law_next" : Str) = some .globalImplicit := by decide +kernel
theorem v_22_5 : (defScope (top 19)).names.lookup ("_law_ref" : Str) = some .local := by decide +kernel
theorem v_22_4 : (defScope (top 19)).names.lookup ("_law_name" : Str) = some .local := by decide +kernel
theorem v_22_7 : (defScope (top 19)).names.lookup ("_law_index" : Str) = some .local := by decide +kernel
theorem v_22_8 : (defScope (top 19)).names.lookup ("_law_body" : Str) = some .local := by decide +kernel
theorem v_22_6 : (defScope (top 19)).names.lookup ("_law_which" : Str) = some .local := by decide +kernel
theorem g_22_int : (defScope (top 19)).names.lookup ("int" : Str) = some .globalImplicit := by decide +kernel
theorem v_22_0 : (defScope (top 19)).names.lookup ("_law_way" : Str) = some .local := by decide +kernel
theorem v_22_1 : (defScope (top 19)).names.lookup ("_law_many" : Str) = some .local := by decide +kernel
theorem v_22_2 : (defScope (top 19)).names.lookup ("_law_level" : Str) = some .local := by decide +kernel
theorem v_22_3 : (defScope (top 19)).names.lookup ("_law_room" : Str) = some .local := by decide +kernel
theorem g_22__law_free : (defScope (top 19)).names.lookup ("_law_free" : Str) = some .globalImplicit := by decide +kernel
theorem g_22__law_next : (defScope (top 19)).names.lookup ("_law_next" : Str) = some .globalImplicit := by decide +kernel
theorem v_23_5 : (defScope (top 20)).names.lookup ("_law_ref" : Str) = some .local := by decide +kernel
theorem v_23_9 : (defScope (top 20)).names.lookup ("_law_mode_here" : Str) = some .local := by decide +kernel
theorem v_23_10 : (defScope (top 20)).names.lookup ("_law_one" : Str) = some .local := by decide +kernel
theorem v_23_12 : (defScope (top 20)).names.lookup ("_law_two" : Str) = some .local := by decide +kernel
theorem v_23_6 : (defScope (top 20)).names.lookup ("_law_which" : Str) = some .local := by decide +kernel
theorem v_23_4 : (defScope (top 20)).names.lookup ("_law_name" : Str) = some .local := by decide +kernel
theorem v_23_0 : (defScope (top 20)).names.lookup ("_law_way" : Str) = some .local := by decide +kernel
theorem v_23_1 : (defScope (top 20)).names.lookup ("_law_many" : Str) = some .local := by decide +kernel
theorem v_23_8 : (defScope (top 20)).names.lookup ("_law_first" : Str) = some .local := by decide +kernel
theorem v_23_2 : (defScope (top 20)).names.lookup ("_law_level" : Str) = some .local := by decide +kernel
theorem v_23_3 : (defScope (top 20)).names.lookup ("_law_room" : Str) = some .local := by decide +kernel
theorem g_23__law_free : (defScope (top 20)).names.lookup ("_law_free" : Str) = some .globalImplicit := by decide +kernel
theorem v_23_11 : (defScope (top 20)).names.lookup ("_law_inner" : Str) = some .local := by decide +kernel
theorem v_23_7 : (defScope (top 20)).names.lookup ("_law_pool_here" : Str) = some .local := by decide +kernel
theorem g_23__law_mode : (defScope (top 20)).names.lookup ("_law_mode" : Str) = some .globalImplicit := by decide +kernel
theorem g_23__law_next : (defScope (top 20)).names.lookup ("_law_next" : Str) = some .globalImplicit := by decide +kernel
theorem v_24_0 : (defScope (top 21)).names.lookup ("_law_way" : Str) = some .local := by decide +kernel
theorem v_24_1 : (defScope (top 21)).names.lookup ("_law_many" : Str) = some .local := by decide +kernel
theorem v_24_2 : (defScope (top 21)).names.lookup ("_law_level" : Str) = some .local := by decide +kernel
theorem v_24_3 : (defScope (top 21)).names.lookup ("_law_room" : Str) = some .local := by decide +kernel
theorem v_24_6 : (defScope (top 21)).names.lookup ("_law_name" : Str) = some .local := by decide +kernel
theorem v_24_7 : (defScope (top 21)).names.lookup ("_law_ref" : Str) = some .local := by decide +kernel
theorem v_24_8 : (defScope (top 21)).names.lookup ("_law_pick" : Str) = some .local := by decide +kernel
theorem g_24_int : (defScope (top 21)).names.lookup ("int" : Str) = some .globalImplicit := by decide +kernel
theorem g_24__law_free_two : (defScope (top 21)).names.lookup ("_law_free_two" : Str) = some .globalImplicit := by decide +kernel
theorem g_24__law_free_one : (defScope (top 21)).names.lookup ("_law_free_one" : Str) = some .globalImplicit := by decide +kernel
theorem v_24_4 : (defScope (top 21)).names.lookup ("_law_pool_here" : Str) = some .local := by decide +kernel
theorem g_24__law_next : (defScope (top 21)).names.lookup ("_law_next" : Str) = some .globalImplicit := by decide +kernel
theorem v_24_5 : (defScope (top 21)).names.lookup ("_law_names" : Str) = some .local := by decide +kernel
theorem v_25_4 : (defScope (top 22)).names.lookup ("_law_found" : Str) = some .local := by decide +kernel
theorem v_25_6 : (defScope (top 22)).names.lookup ("_law_mode_here" : Str) = some .local := by decide +kernel
theorem v_25_1 : (defScope (top 22)).names.lookup ("_law_product" : Str) = some .cell := by decide +kernel
theorem v_25_2 : (defScope (top 22)).names.lookup ("_law_days" : Str) = some .cell := by decide +kernel
theorem v_25_0 : (defScope (top 22)).names.lookup ("_law_row_here" : Str) = some .local := by decide +kernel
theorem g_25__law_parts : (defScope (top 22)).names.lookup ("_law_parts" : Str) = some .globalImplicit := by decide +kernel
theorem v_26_3 : (defScope (top 23)).names.lookup ("_law_uses_here" : Str) = some .local := by decide +kernel
theorem v_26_5 : (defScope (top 23)).names.lookup ("_law_k" : Str) = some .local := by decide +kernel
theorem v_26_4 : (defScope (top 23)).names.lookup ("_law_work" : Str) = some .local := by decide +kernel
theorem v_26_10 : (defScope (top 23)).names.lookup ("_law_above_here" : Str) = some .local := by decide +kernel
theorem v_26_2 : (defScope (top 23)).names.lookup ("_law_number" : Str) = some .local := by decide +kernel
theorem v_26_6 : (defScope (top 23)).names.lookup ("_law_row_here" : Str) = some .local := by decide +kernel
theorem g_26_int : (defScope (top 23)).names.lookup ("int" : Str) = some .globalImplicit := by decide +kernel
theorem v_26_7 : (defScope (top 23)).names.lookup ("_law_product" : Str) = some .local := by decide +kernel
theorem v_26_8 : (defScope (top 23)).names.lookup ("_law_days" : Str) = some .local := by decide +kernel
theorem v_26_9 : (defScope (top 23)).names.lookup ("_law_plain" : Str) = some .local := by decide +kernel
theorem g_26__law_above : (defScope (top 23)).names.lookup ("_law_above" : Str) = some .globalImplicit := by decide +kernel
theorem v_26_1 : (defScope (top 23)).names.lookup ("_law_level" : Str) = some .local := by decide +kernel
theorem g_26_isinstance : (defScope (top 23)).names.lookup ("isinstance" : Str) = some .globalImplicit := by decide +kernel
theorem g_26_str : (defScope (top 23)).names.lookup ("str" : Str) = some .globalImplicit := by decide +kernel
theorem g_26_range : (defScope (top 23)).names.lookup ("range" : Str) = some .globalImplicit := by decide +kernel
theorem v_26_0 : (defScope (top 23)).names.lookup ("_law_tree" : Str) = some .local := by decide +kernel
theorem v_27_2 : (defScope (top 24)).names.lookup ("_law_due_here" : Str) = some .local := by decide +kernel
theorem v_27_7 : (defScope (top 24)).names.lookup ("_law_number" : Str) = some .local := by decide +kernel
theorem v_27_9 : (defScope (top 24)).names.lookup ("_law_ref" : Str) = some .cell := by decide +kernel
theorem v_27_4 : (defScope (top 24)).names.lookup ("_law_old" : Str) = some .local := by decide +kernel
theorem v_27_10 : (defScope (top 24)).names.lookup ("_law_least" : Str) = some .local := by decide +kernel
theorem g_27_min : (defScope (top 24)).names.lookup ("min" : Str) = some .globalImplicit := by decide +kernel
theorem v_27_11 : (defScope (top 24)).names.lookup ("_law_most" : Str) = some .local := by decide +kernel
theorem g_27_max : (defScope (top 24)).names.lookup ("max" : Str) = some .globalImplicit := by decide +kernel
theorem v_27_8 : (defScope (top 24)).names.lookup ("_law_uses_here" : Str) = some .local := by decide +kernel
theorem g_27_sum : (defScope (top 24)).names.lookup ("sum" : Str) = some .globalImplicit := by decide +kernel
theorem g_27_list : (defScope (top 24)).names.lookup ("list" : Str) = some .globalImplicit := by decide +kernel
theorem v_27_0 : (defScope (top 24)).names.lookup ("_law_tree" : Str) = some .local := by decide +kernel
theorem v_27_1 : (defScope (top 24)).names.lookup ("_law_level" : Str) = some .local := by decide +kernel
theorem g_27__law_uses : (defScope (top 24)).names.lookup ("_law_uses" : Str) = some .globalImplicit := by decide +kernel
theorem v_27_5 : (defScope (top 24)).names.lookup ("_law_total" : Str) = some .local := by decide +kernel
theorem g_27_range : (defScope (top 24)).names.lookup ("range" : Str) = some .globalImplicit := by decide +kernel
theorem v_27_6 : (defScope (top 24)).names.lookup ("_law_path" : Str) = some .local := by decide +kernel
theorem g_27__law_at : (defScope (top 24)).names.lookup ("_law_at" : Str) = some .globalImplicit := by decide +kernel
theorem g_27__law_paths : (defScope (top 24)).names.lookup ("_law_paths" : Str) = some .globalImplicit := by decide +kernel
theorem v_27_3 : (defScope (top 24)).names.lookup ("_law_use" : Str) = some .local := by decide +kernel
theorem v_28_2 : (defScope (top 25)).names.lookup ("_law_ref" : Str) = some .local := by decide +kernel
theorem v_28_3 : (defScope (top 25)).names.lookup ("_law_found" : Str) = some .local := by decide +kernel
theorem v_28_1 : (defScope (top 25)).names.lookup ("_law_due_here" : Str) = some .local := by decide +kernel
theorem g_28__law_same : (defScope (top 25)).names.lookup ("_law_same" : Str) = some .globalImplicit := by decide +kernel
theorem v_28_0 : (defScope (top 25)).names.lookup ("_law_told_here" : Str) = some .local := by decide +kernel
theorem g_28_isinstance : (defScope (top 25)).names.lookup ("isinstance" : Str) = some .globalImplicit := by decide +kernel
theorem g_28_Count : (defScope (top 25)).names.lookup ("Count" : Str) = some .globalImplicit := by decide +kernel
theorem g_28__law_is_number : (defScope (top 25)).names.lookup ("_law_is_number" : Str) = some .globalImplicit := by decide +kernel
theorem g_28_str : (defScope (top 25)).names.lookup ("str" : Str) = some .globalImplicit := by decide +kernel
theorem g_28_len : (defScope (top 25)).names.lookup ("len" : Str) = some .globalImplicit := by decide +kernel
theorem g_28_dict : (defScope (top 25)).names.lookup ("dict" : Str) = some .globalImplicit := by decide +kernel
theorem v_29_4 : (defScope (top 26)).names.lookup ("_law_tree" : Str) = some .local := by decide +kernel
theorem g_29_counts : (defScope (top 26)).names.lookup ("counts" : Str) = some .globalImplicit := by decide +kernel
theorem v_29_5 : (defScope (top 26)).names.lookup ("_law_due_here" : Str) = some .local := by decide +kernel
theorem g_29__law_told : (defScope (top 26)).names.lookup ("_law_told" : Str) = some .globalImplicit := by decide +kernel
theorem v_29_2 : (defScope (top 26)).names.lookup ("_law_level" : Str) = some .local := by decide +kernel
theorem g_29_Count : (defScope (top 26)).names.lookup ("Count" : Str) = some .globalImplicit := by decide +kernel
theorem v_29_6 : (defScope (top 26)).names.lookup ("_law_told_here" : Str) = some .local := by decide +kernel
theorem g_29__law_due : (defScope (top 26)).names.lookup ("_law_due" : Str) = some .globalImplicit := by decide +kernel
theorem v_29_1 : (defScope (top 26)).names.lookup ("_law_pool_here" : Str) = some .local := by decide +kernel
theorem v_29_3 : (defScope (top 26)).names.lookup ("_law_many" : Str) = some .local := by decide +kernel
theorem g_29__law_free : (defScope (top 26)).names.lookup ("_law_free" : Str) = some .globalImplicit := by decide +kernel
theorem g_29__law_next : (defScope (top 26)).names.lookup ("_law_next" : Str) = some .globalImplicit := by decide +kernel
theorem v_29_0 : (defScope (top 26)).names.lookup ("_law_script" : Str) = some .local := by decide +kernel
theorem g_29__law_pool : (defScope (top 26)).names.lookup ("_law_pool" : Str) = some .globalImplicit := by decide +kernel
theorem v_30_2 : (defScope (top 3)).names.lookup ("total" : Str) = some .local := by decide +kernel
theorem v_30_3 : (defScope (top 3)).names.lookup ("ref" : Str) = some .local := by decide +kernel
theorem v_30_1 : (defScope (top 3)).names.lookup ("second" : Str) = some .local := by decide +kernel
theorem v_30_0 : (defScope (top 3)).names.lookup ("first" : Str) = some .local := by decide +kernel
theorem v_31_2 : (defScope (top 4)).names.lookup ("total" : Str) = some .local := by decide +kernel
theorem v_31_3 : (defScope (top 4)).names.lookup ("ref" : Str) = some .local := by decide +kernel
theorem v_31_0 : (defScope (top 4)).names.lookup ("first" : Str) = some .local := by decide +kernel
theorem v_31_1 : (defScope (top 4)).names.lookup ("second" : Str) = some .local := by decide +kernel
theorem g_31_Count : (defScope (top 4)).names.lookup ("Count" : Str) = some .globalImplicit := by decide +kernel
theorem v_32_0 : (defScope (top 6)).names.lookup ("found" : Str) = some .cell := by decide +kernel
theorem v_33_4 : (defScope (top 7)).names.lookup ("found" : Str) = some .local := by decide +kernel
theorem v_33_3 : (defScope (top 7)).names.lookup ("body" : Str) = some .local := by decide +kernel
theorem g_33_added : (defScope (top 7)).names.lookup ("added" : Str) = some .globalImplicit := by decide +kernel
theorem v_33_2 : (defScope (top 7)).names.lookup ("name" : Str) = some .local := by decide +kernel
theorem v_33_0 : (defScope (top 7)).names.lookup ("derivation" : Str) = some .local := by decide +kernel
theorem v_33_1 : (defScope (top 7)).names.lookup ("level" : Str) = some .local := by decide +kernel
theorem g_33_counts : (defScope (top 7)).names.lookup ("counts" : Str) = some .globalImplicit := by decide +kernel
theorem g_33_boxed_counts : (defScope (top 7)).names.lookup ("boxed_counts" : Str) = some .globalImplicit := by decide +kernel
theorem g_33_Count : (defScope (top 7)).names.lookup ("Count" : Str) = some .globalImplicit := by decide +kernel
theorem g_33_len : (defScope (top 7)).names.lookup ("len" : Str) = some .globalImplicit := by decide +kernel
theorem g_33_without : (defScope (top 7)).names.lookup ("without" : Str) = some .globalImplicit := by decide +kernel
theorem g_33_either : (defScope (top 7)).names.lookup ("either" : Str) = some .globalImplicit := by decide +kernel
theorem sc_0 : FnScope ["k"] ["k"] (defScope (top 0)) := ⟨rfl, rfl, rfl, by decide +kernel, rfl, by decide +kernel, by decide +kernel⟩
theorem sc_1 : FnScope ["self", "least", "most", "days"] ["self", "least", "most", "days"] (defScope (inClass (top 2) 0)) := ⟨rfl, rfl, rfl, by decide +kernel, rfl, by decide +kernel, by decide +kernel⟩
theorem sc_2 : FnScope ["self", "other"] ["self", "other"] (defScope (inClass (top 2) 1)) := ⟨rfl, rfl, rfl, by decide +kernel, rfl, by decide +kernel, by decide +kernel⟩
theorem sc_3 : FnScope ["self", "other", "least"] ["self", "other"] (defScope (inClass (top 2) 2)) := ⟨rfl, rfl, rfl, by decide +kernel, rfl, by decide +kernel, by decide +kernel⟩
theorem sc_4 : FnScope ["self", "kind"] ["self", "kind"] (defScope (inClass (top 2) 3)) := ⟨rfl, rfl, rfl, by decide +kernel, rfl, by decide +kernel, by decide +kernel⟩
theorem sc_5 : FnScope ["self", "kind"] ["self", "kind"] (defScope (inClass (top 2) 4)) := ⟨rfl, rfl, rfl, by decide +kernel, rfl, by decide +kernel, by decide +kernel⟩
theorem sc_6 : FnScope ["self"] ["self"] (defScope (inClass (top 2) 5)) := ⟨rfl, rfl, rfl, by decide +kernel, rfl, by decide +kernel, by decide +kernel⟩
theorem sc_7 : FnScope ["first", "second", "total", "ref"] ["first", "second"] (defScope (top 3)) := ⟨rfl, rfl, rfl, by decide +kernel, rfl, by decide +kernel, by decide +kernel⟩
theorem sc_8 : FnScope ["first", "second", "total", "ref"] ["first", "second"] (defScope (top 4)) := ⟨rfl, rfl, rfl, by decide +kernel, rfl, by decide +kernel, by decide +kernel⟩
theorem sc_9 : FnScope ["found", "kind", "ref"] ["found", "kind"] (defScope (top 5)) := ⟨rfl, rfl, rfl, by decide +kernel, rfl, by decide +kernel, by decide +kernel⟩
theorem sc_10 : FnScope ["found", "ref", "other"] ["found", "ref"] (defScope (top 6)) := ⟨rfl, rfl, rfl, by decide +kernel, rfl, by decide +kernel, by decide +kernel⟩
theorem sc_11 : FnScope ["derivation", "level", "name", "body", "found"] ["derivation", "level"] (defScope (top 7)) := ⟨rfl, rfl, rfl, by decide +kernel, rfl, by decide +kernel, by decide +kernel⟩
theorem sc_12 : FnScope ["_law_script", "_law_k"] ["_law_script", "_law_k"] (defScope (top 9)) := ⟨rfl, rfl, rfl, by decide +kernel, rfl, by decide +kernel, by decide +kernel⟩
theorem sc_13 : FnScope ["_law_script", "_law_k", "_law_cell_here"] ["_law_script", "_law_k"] (defScope (top 10)) := ⟨rfl, rfl, rfl, by decide +kernel, rfl, by decide +kernel, by decide +kernel⟩
theorem sc_14 : FnScope ["_law_pool_here", "_law_many", "_law_digit", "_law_mixed"] ["_law_pool_here", "_law_many"] (defScope (top 11)) := ⟨rfl, rfl, rfl, by decide +kernel, rfl, by decide +kernel, by decide +kernel⟩
theorem sc_15 : FnScope ["_law_value"] ["_law_value"] (defScope (top 12)) := ⟨rfl, rfl, rfl, by decide +kernel, rfl, by decide +kernel, by decide +kernel⟩
theorem sc_16 : FnScope ["_law_item", "_law_names"] ["_law_item"] (defScope (top 13)) := ⟨rfl, rfl, rfl, by decide +kernel, rfl, by decide +kernel, by decide +kernel⟩
theorem sc_17 : FnScope ["_law_tree", "_law_item"] ["_law_tree"] (defScope (top 14)) := ⟨rfl, rfl, rfl, by decide +kernel, rfl, by decide +kernel, by decide +kernel⟩
theorem sc_18 : FnScope ["_law_tree", "_law_path", "_law_found", "_law_parts_here", "_law_k"] ["_law_tree", "_law_path"] (defScope (top 15)) := ⟨rfl, rfl, rfl, by decide +kernel, rfl, by decide +kernel, by decide +kernel⟩
theorem sc_19 : FnScope ["_law_tree", "_law_path", "_law_k"] ["_law_tree", "_law_path"] (defScope (top 16)) := ⟨rfl, rfl, rfl, by decide +kernel, rfl, by decide +kernel, by decide +kernel⟩
theorem sc_20 : FnScope ["_law_told_here", "_law_due_here", "_law_k"] ["_law_told_here", "_law_due_here"] (defScope (top 17)) := ⟨rfl, rfl, rfl, by decide +kernel, rfl, by decide +kernel, by decide +kernel⟩
theorem sc_21 : FnScope ["_law_pool_here", "_law_room", "_law_mode_here"] ["_law_pool_here", "_law_room"] (defScope (top 18)) := ⟨rfl, rfl, rfl, by decide +kernel, rfl, by decide +kernel, by decide +kernel⟩
theorem sc_22 : FnScope ["_law_way", "_law_many", "_law_level", "_law_room", "_law_name", "_law_ref", "_law_which", "_law_index", "_law_body"] ["_law_way", "_law_many", "_law_level", "_law_room", "_law_name", "_law_ref", "_law_which"] (defScope (top 19)) := ⟨rfl, rfl, rfl, by decide +kernel, rfl, by decide +kernel, by decide +kernel⟩
theorem sc_23 : FnScope ["_law_way", "_law_many", "_law_level", "_law_room", "_law_name", "_law_ref", "_law_which", "_law_pool_here", "_law_first", "_law_mode_here", "_law_one", "_law_inner", "_law_two"] ["_law_way", "_law_many", "_law_level", "_law_room", "_law_name", "_law_ref", "_law_which"] (defScope (top 20)) := ⟨rfl, rfl, rfl, by decide +kernel, rfl, by decide +kernel, by decide +kernel⟩
theorem sc_24 : FnScope ["_law_way", "_law_many", "_law_level", "_law_room", "_law_pool_here", "_law_names", "_law_name", "_law_ref", "_law_pick"] ["_law_way", "_law_many", "_law_level", "_law_room"] (defScope (top 21)) := ⟨rfl, rfl, rfl, by decide +kernel, rfl, by decide +kernel, by decide +kernel⟩
theorem sc_25 : FnScope ["_law_row_here", "_law_product", "_law_days", "_law_plain", "_law_found", "_law_premise", "_law_mode_here"] ["_law_row_here", "_law_product", "_law_days", "_law_plain"] (defScope (top 22)) := ⟨rfl, rfl, rfl, by decide +kernel, rfl, by decide +kernel, by decide +kernel⟩
theorem sc_26 : FnScope ["_law_tree", "_law_level", "_law_number", "_law_uses_here", "_law_work", "_law_k", "_law_row_here", "_law_product", "_law_days", "_law_plain", "_law_above_here"] ["_law_tree", "_law_level", "_law_number"] (defScope (top 23)) := ⟨rfl, rfl, rfl, by decide +kernel, rfl, by decide +kernel, by decide +kernel⟩
theorem sc_27 : FnScope ["_law_tree", "_law_level", "_law_due_here", "_law_use", "_law_old", "_law_total", "_law_path", "_law_number", "_law_uses_here", "_law_ref", "_law_least", "_law_most"] ["_law_tree", "_law_level"] (defScope (top 24)) := ⟨rfl, rfl, rfl, by decide +kernel, rfl, by decide +kernel, by decide +kernel⟩
theorem sc_28 : FnScope ["_law_told_here", "_law_due_here", "_law_ref", "_law_found"] ["_law_told_here", "_law_due_here"] (defScope (top 25)) := ⟨rfl, rfl, rfl, by decide +kernel, rfl, by decide +kernel, by decide +kernel⟩
theorem sc_29 : FnScope ["_law_script", "_law_pool_here", "_law_level", "_law_many", "_law_tree", "_law_due_here", "_law_told_here"] ["_law_script"] (defScope (top 26)) := ⟨rfl, rfl, rfl, by decide +kernel, rfl, by decide +kernel, by decide +kernel⟩
theorem sc_30 : FnScope ["first", "second", "total", "ref"] ["first", "second"] (defScope (top 3)) := ⟨rfl, rfl, rfl, by decide +kernel, rfl, by decide +kernel, by decide +kernel⟩
theorem sc_31 : FnScope ["first", "second", "total", "ref"] ["first", "second"] (defScope (top 4)) := ⟨rfl, rfl, rfl, by decide +kernel, rfl, by decide +kernel, by decide +kernel⟩
theorem sc_32 : FnScope ["found", "ref", "other"] ["found", "ref"] (defScope (top 6)) := ⟨rfl, rfl, rfl, by decide +kernel, rfl, by decide +kernel, by decide +kernel⟩
theorem sc_33 : FnScope ["derivation", "level", "name", "body", "found"] ["derivation", "level"] (defScope (top 7)) := ⟨rfl, rfl, rfl, by decide +kernel, rfl, by decide +kernel, by decide +kernel⟩
def ps : Nat → List Str
  | 0 => ["k"]
  | 1 => ["self", "least", "most", "days"]
  | 2 => ["self", "other"]
  | 3 => ["self", "other"]
  | 4 => ["self", "kind"]
  | 5 => ["self", "kind"]
  | 6 => ["self"]
  | 7 => ["first", "second"]
  | 8 => ["first", "second"]
  | 9 => ["found", "kind"]
  | 10 => ["found", "ref"]
  | 11 => ["derivation", "level"]
  | 12 => ["_law_script", "_law_k"]
  | 13 => ["_law_script", "_law_k"]
  | 14 => ["_law_pool_here", "_law_many"]
  | 15 => ["_law_value"]
  | 16 => ["_law_item"]
  | 17 => ["_law_tree"]
  | 18 => ["_law_tree", "_law_path"]
  | 19 => ["_law_tree", "_law_path"]
  | 20 => ["_law_told_here", "_law_due_here"]
  | 21 => ["_law_pool_here", "_law_room"]
  | 22 => ["_law_way", "_law_many", "_law_level", "_law_room", "_law_name", "_law_ref", "_law_which"]
  | 23 => ["_law_way", "_law_many", "_law_level", "_law_room", "_law_name", "_law_ref", "_law_which"]
  | 24 => ["_law_way", "_law_many", "_law_level", "_law_room"]
  | 25 => ["_law_row_here", "_law_product", "_law_days", "_law_plain"]
  | 26 => ["_law_tree", "_law_level", "_law_number"]
  | 27 => ["_law_tree", "_law_level"]
  | 28 => ["_law_told_here", "_law_due_here"]
  | 29 => ["_law_script"]
  | 30 => ["first", "second"]
  | 31 => ["first", "second"]
  | 32 => ["found", "ref"]
  | 33 => ["derivation", "level"]
  | _ => []
structure Txt (w : World) (K : PySem.W.Frag) (mg : Str → Option Value) (cl : Nat → Addr) (fa : Nat → Addr) (fd : Nat → FuncData) : Prop where
  F0 : Fun K "_wall" "_wall" (top 0) (fa 0) (fd 0)
  b0 : Binds K (fd 0) ["k"] []
  g0 : mg "_wall" = some (.ref (fa 0))
  F1 : Fun K "__init__" "Count.__init__" (inClass (top 2) 0) (fa 1) (fd 1)
  b1 : Binds K (fd 1) ["self", "least", "most", "days"] []
  F2 : Fun K "__add__" "Count.__add__" (inClass (top 2) 1) (fa 2) (fd 2)
  b2 : Binds K (fd 2) ["self", "other"] []
  m2 : Meth K (cl 0) "__add__" (fa 2)
  F3 : Fun K "__or__" "Count.__or__" (inClass (top 2) 2) (fa 3) (fd 3)
  b3 : Binds K (fd 3) ["self", "other"] []
  m3 : Meth K (cl 0) "__or__" (fa 3)
  F4 : Fun K "boxed" "Count.boxed" (inClass (top 2) 3) (fa 4) (fd 4)
  b4 : Binds K (fd 4) ["self", "kind"] []
  m4 : Meth K (cl 0) "boxed" (fa 4)
  F5 : Fun K "fits" "Count.fits" (inClass (top 2) 4) (fa 5) (fd 5)
  b5 : Binds K (fd 5) ["self", "kind"] []
  m5 : Meth K (cl 0) "fits" (fa 5)
  F6 : Fun K "triple" "Count.triple" (inClass (top 2) 5) (fa 6) (fd 6)
  b6 : Binds K (fd 6) ["self"] []
  m6 : Meth K (cl 0) "triple" (fa 6)
  F7 : Fun K "added" "added" (top 3) (fa 7) (fd 7)
  b7 : Binds K (fd 7) ["first", "second"] []
  g7 : mg "added" = some (.ref (fa 7))
  F8 : Fun K "either" "either" (top 4) (fa 8) (fd 8)
  b8 : Binds K (fd 8) ["first", "second"] []
  g8 : mg "either" = some (.ref (fa 8))
  F9 : Fun K "boxed_counts" "boxed_counts" (top 5) (fa 9) (fd 9)
  b9 : Binds K (fd 9) ["found", "kind"] []
  g9 : mg "boxed_counts" = some (.ref (fa 9))
  F10 : Fun K "without" "without" (top 6) (fa 10) (fd 10)
  b10 : Binds K (fd 10) ["found", "ref"] []
  g10 : mg "without" = some (.ref (fa 10))
  F11 : FunE K "counts" "counts" (top 7) [.int 0] (fa 11) (fd 11)
  b11 : Binds K (fd 11) ["derivation", "level"] []
  g11 : mg "counts" = some (.ref (fa 11))
  F12 : Fun K "_law_cell" "_law_cell" (top 9) (fa 12) (fd 12)
  b12 : Binds K (fd 12) ["_law_script", "_law_k"] []
  g12 : mg "_law_cell" = some (.ref (fa 12))
  F13 : Fun K "_law_pool" "_law_pool" (top 10) (fa 13) (fd 13)
  b13 : Binds K (fd 13) ["_law_script", "_law_k"] []
  g13 : mg "_law_pool" = some (.ref (fa 13))
  F14 : Fun K "_law_next" "_law_next" (top 11) (fa 14) (fd 14)
  b14 : Binds K (fd 14) ["_law_pool_here", "_law_many"] []
  g14 : mg "_law_next" = some (.ref (fa 14))
  F15 : Fun K "_law_is_number" "_law_is_number" (top 12) (fa 15) (fd 15)
  b15 : Binds K (fd 15) ["_law_value"] []
  g15 : mg "_law_is_number" = some (.ref (fa 15))
  F16 : Fun K "_law_row" "_law_row" (top 13) (fa 16) (fd 16)
  b16 : Binds K (fd 16) ["_law_item"] []
  g16 : mg "_law_row" = some (.ref (fa 16))
  F17 : Fun K "_law_parts" "_law_parts" (top 14) (fa 17) (fd 17)
  b17 : Binds K (fd 17) ["_law_tree"] []
  g17 : mg "_law_parts" = some (.ref (fa 17))
  F18 : Fun K "_law_paths" "_law_paths" (top 15) (fa 18) (fd 18)
  b18 : Binds K (fd 18) ["_law_tree", "_law_path"] []
  g18 : mg "_law_paths" = some (.ref (fa 18))
  F19 : Fun K "_law_at" "_law_at" (top 16) (fa 19) (fd 19)
  b19 : Binds K (fd 19) ["_law_tree", "_law_path"] []
  g19 : mg "_law_at" = some (.ref (fa 19))
  F20 : Fun K "_law_same" "_law_same" (top 17) (fa 20) (fd 20)
  b20 : Binds K (fd 20) ["_law_told_here", "_law_due_here"] []
  g20 : mg "_law_same" = some (.ref (fa 20))
  F21 : Fun K "_law_mode" "_law_mode" (top 18) (fa 21) (fd 21)
  b21 : Binds K (fd 21) ["_law_pool_here", "_law_room"] []
  g21 : mg "_law_mode" = some (.ref (fa 21))
  F22 : Fun K "_law_free_one" "_law_free_one" (top 19) (fa 22) (fd 22)
  b22 : Binds K (fd 22) ["_law_way", "_law_many", "_law_level", "_law_room", "_law_name", "_law_ref", "_law_which"] []
  g22 : mg "_law_free_one" = some (.ref (fa 22))
  F23 : Fun K "_law_free_two" "_law_free_two" (top 20) (fa 23) (fd 23)
  b23 : Binds K (fd 23) ["_law_way", "_law_many", "_law_level", "_law_room", "_law_name", "_law_ref", "_law_which"] []
  g23 : mg "_law_free_two" = some (.ref (fa 23))
  F24 : Fun K "_law_free" "_law_free" (top 21) (fa 24) (fd 24)
  b24 : Binds K (fd 24) ["_law_way", "_law_many", "_law_level", "_law_room"] []
  g24 : mg "_law_free" = some (.ref (fa 24))
  F25 : Fun K "_law_above" "_law_above" (top 22) (fa 25) (fd 25)
  b25 : Binds K (fd 25) ["_law_row_here", "_law_product", "_law_days", "_law_plain"] []
  g25 : mg "_law_above" = some (.ref (fa 25))
  F26 : Fun K "_law_uses" "_law_uses" (top 23) (fa 26) (fd 26)
  b26 : Binds K (fd 26) ["_law_tree", "_law_level", "_law_number"] []
  g26 : mg "_law_uses" = some (.ref (fa 26))
  F27 : Fun K "_law_due" "_law_due" (top 24) (fa 27) (fd 27)
  b27 : Binds K (fd 27) ["_law_tree", "_law_level"] []
  g27 : mg "_law_due" = some (.ref (fa 27))
  F28 : Fun K "_law_told" "_law_told" (top 25) (fa 28) (fd 28)
  b28 : Binds K (fd 28) ["_law_told_here", "_law_due_here"] []
  g28 : mg "_law_told" = some (.ref (fa 28))
  F29 : Fun K "law" "law" (top 26) (fa 29) (fd 29)
  b29 : Binds K (fd 29) ["_law_script"] []
  g29 : mg "law" = some (.ref (fa 29))
  F30 : Fun K "added" "added" (top 3) (fa 30) (fd 30)
  b30 : Binds K (fd 30) ["first", "second"] []
  g30 : mg "added" = some (.ref (fa 30))
  F31 : Fun K "either" "either" (top 4) (fa 31) (fd 31)
  b31 : Binds K (fd 31) ["first", "second"] []
  g31 : mg "either" = some (.ref (fa 31))
  F32 : Fun K "without" "without" (top 6) (fa 32) (fd 32)
  b32 : Binds K (fd 32) ["found", "ref"] []
  g32 : mg "without" = some (.ref (fa 32))
  F33 : FunE K "counts" "counts" (top 7) [.int 0] (fa 33) (fd 33)
  b33 : Binds K (fd 33) ["derivation", "level"] []
  bd33_1 : BindD K (fd 33) ["derivation", "level"] [.int 0]
  g33 : mg "counts" = some (.ref (fa 33))
  cl0 : Cls K (cl 0)
  gC0 : mg "Count" = some (.ref (cl 0))
  M0 : Mk K (cl 0) (fa 1)
  w0 : OwnC K (cl 0)
  n0 : NotIn K (cl 0)
  o0_Add : OwnOp K (cl 0) .Add (fa 2)
  o0_BitOr : OwnOp K (cl 0) .BitOr (fa 3)
  fl_least : ∀ c, c ∈ ([0] : List Nat) → Cls K (cl c) ∧ NoAttr K (cl c) "least"
  fl_most : ∀ c, c ∈ ([0] : List Nat) → Cls K (cl c) ∧ NoAttr K (cl c) "most"
  fl_days : ∀ c, c ∈ ([0] : List Nat) → Cls K (cl c) ∧ NoAttr K (cl c) "days"
  z_abs : mg "abs" = none
  z_bool : mg "bool" = none
  z_dict : mg "dict" = none
  z_int : mg "int" = none
  z_isinstance : mg "isinstance" = none
  z_len : mg "len" = none
  z_list : mg "list" = none
  z_max : mg "max" = none
  z_min : mg "min" = none
  z_range : mg "range" = none
  z_str : mg "str" = none
  z_sum : mg "sum" = none
  z_tuple : mg "tuple" = none
section
variable {P : Program} {w : World} {K : PySem.W.Frag} {mg : Str → Option Value} {base : Heap} {cl : Nat → Addr} {fa : Nat → Addr} {fd : Nat → FuncData}
abbrev IHt (P : Program) (w : World) (K : PySem.W.Frag) (mg : Str → Option Value) (base : Heap) (cl fa : Nat → Addr) (fd : Nat → FuncData) (k : Nat) : Prop := ∀ i, FnOk P w K mg base (L2N.CX P w) (2 * k + 2) (fa i) (fd i) (ps i) (SpR K cl (tb k i))
theorem ok_0 {k : Nat} (T : Txt w K mg cl fa fd) (IH : IHt P w K mg base cl fa fd k) : FnOk P w K mg base (L2N.CX P w) (2 * k + 3 + 1) (fa 0) (fd 0) ["k"] (SpR K cl (runF 1 1 (B0 (tb k)))) :=
  fn_ok T.F0 sc_0 rfl rfl fun cdv A outer s H E xo =>
    sv_one (sv_while 1000000 xo.hp (tv_truth (ev_bl)) (sv_one (sv_pass)))
theorem ok_1 {k : Nat} (T : Txt w K mg cl fa fd) (IH : IHt P w K mg base cl fa fd k) : FnOk P w K mg base (L2N.CX P w) (2 * k + 3 + 1) (fa 1) (fd 1) ["self", "least", "most", "days"] (SpR K cl (runF 4 4 (B1 (tb k)))) :=
  fn_ok T.F1 sc_1 rfl rfl fun cdv A outer s H E xo =>
    sv_cons (sv_attr T.fl_least (ev_var 0 rfl (.inl v_1_0) nd_1.1 nd_1.2) (ev_var 1 rfl (.inl v_1_1) nd_3.1 nd_3.2))
    (sv_cons (sv_attr T.fl_most (ev_var 0 rfl (.inl v_1_0) nd_1.1 nd_1.2) (ev_var 2 rfl (.inl v_1_2) nd_2.1 nd_2.2))
    (sv_one (sv_attr T.fl_days (ev_var 0 rfl (.inl v_1_0) nd_1.1 nd_1.2) (ev_var 3 rfl (.inl v_1_3) nd_0.1 nd_0.2))))
theorem ok_2 {k : Nat} (T : Txt w K mg cl fa fd) (IH : IHt P w K mg base cl fa fd k) : FnOk P w K mg base (L2N.CX P w) (2 * k + 3 + 1) (fa 2) (fd 2) ["self", "other"] (SpR K cl (runF 2 2 (B2 (tb k)))) :=
  fn_ok T.F2 sc_2 rfl rfl fun cdv A outer s H E xo =>
    sv_one (sv_ret (ev_make T.M0 (IH 1) xo.hr xo.tk g_2_Count T.gC0 T.b1 (av_cons (ev_bin ov_add (ev_fld T.fl_least (ev_var 0 rfl (.inl v_2_0) nd_1.1 nd_1.2)) (ev_fld T.fl_least (ev_var 1 rfl (.inl v_2_1) nd_4.1 nd_4.2))) (av_cons (ev_bin ov_add (ev_fld T.fl_most (ev_var 0 rfl (.inl v_2_0) nd_1.1 nd_1.2)) (ev_fld T.fl_most (ev_var 1 rfl (.inl v_2_1) nd_4.1 nd_4.2))) (av_cons (ev_bi (ov_max xo.calm) g_2_max T.z_max (by decide +kernel) (av_cons (ev_int) (av_cons (ev_fld T.fl_days (ev_var 0 rfl (.inl v_2_0) nd_1.1 nd_1.2)) (av_cons (ev_fld T.fl_days (ev_var 1 rfl (.inl v_2_1) nd_4.1 nd_4.2)) (av_nil))))) (av_nil)))) nd_5.1))
theorem ok_3 {k : Nat} (T : Txt w K mg cl fa fd) (IH : IHt P w K mg base cl fa fd k) : FnOk P w K mg base (L2N.CX P w) (2 * k + 3 + 1) (fa 3) (fd 3) ["self", "other"] (SpR K cl (runF 2 3 (B3 (tb k)))) :=
  fn_ok T.F3 sc_3 rfl rfl fun cdv A outer s H E xo =>
    sv_cons (sv_set 2 (ev_fld T.fl_least (ev_var 0 rfl (.inl v_3_0) nd_1.1 nd_1.2)) sc_3.nd rfl (.inl v_3_2) (hf := .inr v_3_2))
    (sv_cons (sv_if (tv_cmp ov_lt (ev_fld T.fl_least (ev_var 1 rfl (.inl v_3_1) nd_4.1 nd_4.2)) (ev_var 2 rfl (.inl v_3_2) nd_3.1 nd_3.2)) (sv_one (sv_set 2 (ev_fld T.fl_least (ev_var 1 rfl (.inl v_3_1) nd_4.1 nd_4.2)) sc_3.nd rfl (.inl v_3_2) (hf := .inr v_3_2))) (sv_nil))
    (sv_one (sv_ret (ev_make T.M0 (IH 1) xo.hr xo.tk g_3_Count T.gC0 T.b1 (av_cons (ev_var 2 rfl (.inl v_3_2) nd_3.1 nd_3.2) (av_cons (ev_bi (ov_max xo.calm) g_3_max T.z_max (by decide +kernel) (av_cons (ev_int) (av_cons (ev_fld T.fl_most (ev_var 0 rfl (.inl v_3_0) nd_1.1 nd_1.2)) (av_cons (ev_fld T.fl_most (ev_var 1 rfl (.inl v_3_1) nd_4.1 nd_4.2)) (av_nil))))) (av_cons (ev_bi (ov_max xo.calm) g_3_max T.z_max (by decide +kernel) (av_cons (ev_int) (av_cons (ev_fld T.fl_days (ev_var 0 rfl (.inl v_3_0) nd_1.1 nd_1.2)) (av_cons (ev_fld T.fl_days (ev_var 1 rfl (.inl v_3_1) nd_4.1 nd_4.2)) (av_nil))))) (av_nil)))) nd_5.1))))
theorem ok_4 {k : Nat} (T : Txt w K mg cl fa fd) (IH : IHt P w K mg base cl fa fd k) : FnOk P w K mg base (L2N.CX P w) (2 * k + 3 + 1) (fa 4) (fd 4) ["self", "kind"] (SpR K cl (runF 2 2 (B4 (tb k)))) :=
  fn_ok T.F4 sc_4 rfl rfl fun cdv A outer s H E xo =>
    sv_cons (sv_if (tv_cmp (ov_eq xo.hu) (ev_var 1 rfl (.inl v_4_1) nd_6.1 nd_6.2) (ev_str)) (sv_one (sv_ret (ev_make T.M0 (IH 1) xo.hr xo.tk g_4_Count T.gC0 T.b1 (av_cons (ev_fld T.fl_least (ev_var 0 rfl (.inl v_4_0) nd_1.1 nd_1.2)) (av_cons (ev_fld T.fl_most (ev_var 0 rfl (.inl v_4_0) nd_1.1 nd_1.2)) (av_cons (ev_fld T.fl_days (ev_var 0 rfl (.inl v_4_0) nd_1.1 nd_1.2)) (av_nil)))) nd_5.1))) (sv_nil))
    (sv_one (sv_ret (ev_make T.M0 (IH 1) xo.hr xo.tk g_4_Count T.gC0 T.b1 (av_cons (ev_int) (av_cons (ev_bin ov_mul (ev_ix xo.hu1 (ev_var 1 rfl (.inl v_4_1) nd_6.1 nd_6.2) (ev_int)) (ev_fld T.fl_most (ev_var 0 rfl (.inl v_4_0) nd_1.1 nd_1.2))) (av_cons (ev_bin ov_add (ev_ix xo.hu1 (ev_var 1 rfl (.inl v_4_1) nd_6.1 nd_6.2) (ev_int)) (ev_fld T.fl_days (ev_var 0 rfl (.inl v_4_0) nd_1.1 nd_1.2))) (av_nil)))) nd_5.1)))
theorem ok_5 {k : Nat} (T : Txt w K mg cl fa fd) (IH : IHt P w K mg base cl fa fd k) : FnOk P w K mg base (L2N.CX P w) (2 * k + 3 + 1) (fa 5) (fd 5) ["self", "kind"] (SpR K cl (runF 2 2 (B5 (tb k)))) :=
  fn_ok T.F5 sc_5 rfl rfl fun cdv A outer s H E xo =>
    sv_one (sv_expr (ev_call (IH 0) (xo.hr.mono (Nat.le_succ _)) xo.tk g_5__wall T.g0 T.F0.kp T.b0 (av_cons (ev_int) (av_nil)) nd_7.1))
theorem ok_6 {k : Nat} (T : Txt w K mg cl fa fd) (IH : IHt P w K mg base cl fa fd k) : FnOk P w K mg base (L2N.CX P w) (2 * k + 3 + 1) (fa 6) (fd 6) ["self"] (SpR K cl (runF 1 1 (B6 (tb k)))) :=
  fn_ok T.F6 sc_6 rfl rfl fun cdv A outer s H E xo =>
    sv_one (sv_ret (ev_tup (av_cons (ev_fld T.fl_least (ev_var 0 rfl (.inl v_6_0) nd_1.1 nd_1.2)) (av_cons (ev_fld T.fl_most (ev_var 0 rfl (.inl v_6_0) nd_1.1 nd_1.2)) (av_cons (ev_fld T.fl_days (ev_var 0 rfl (.inl v_6_0) nd_1.1 nd_1.2)) (av_nil))))))
theorem ok_7 {k : Nat} (T : Txt w K mg cl fa fd) (IH : IHt P w K mg base cl fa fd k) : FnOk P w K mg base (L2N.CX P w) (2 * k + 3 + 1) (fa 7) (fd 7) ["first", "second"] (SpR K cl (runF 2 4 (B7 (tb k)))) :=
  fn_ok T.F7 sc_7 rfl rfl fun cdv A outer s H E xo =>
    sv_cons (sv_set 2 (ev_dic0M) sc_7.nd rfl (.inl v_7_2) (hf := .inr v_7_2))
    (sv_cons (sv_for xo.hp xo.calm (ev_var 0 rfl (.inl v_7_0) nd_11.1 nd_11.2) (gv_name 3 sc_7.nd rfl (.inl v_7_3) (hf := .inr v_7_3)) (sv_one (sv_sub xo.hu1 (ev_var 2 rfl (.inl v_7_2) nd_8.1 nd_8.2) (ev_var 3 rfl (.inl v_7_3) nd_9.1 nd_9.2) (ev_ix xo.hu1 (ev_var 0 rfl (.inl v_7_0) nd_11.1 nd_11.2) (ev_var 3 rfl (.inl v_7_3) nd_9.1 nd_9.2)))))
    (sv_cons (sv_for xo.hp xo.calm (ev_var 1 rfl (.inl v_7_1) nd_10.1 nd_10.2) (gv_name 3 sc_7.nd rfl (.inl v_7_3) (hf := .inr v_7_3)) (sv_one (sv_if (tv_cmp (ov_in xo.hu) (ev_var 3 rfl (.inl v_7_3) nd_9.1 nd_9.2) (ev_var 2 rfl (.inl v_7_2) nd_8.1 nd_8.2)) (sv_one (sv_sub xo.hu1 (ev_var 2 rfl (.inl v_7_2) nd_8.1 nd_8.2) (ev_var 3 rfl (.inl v_7_3) nd_9.1 nd_9.2) (ev_own T.o0_Add (IH 2) (xo.hr.mono (Nat.le_succ _)) xo.tk T.b2 ov_add (ev_ix xo.hu1 (ev_var 2 rfl (.inl v_7_2) nd_8.1 nd_8.2) (ev_var 3 rfl (.inl v_7_3) nd_9.1 nd_9.2)) (ev_ix xo.hu1 (ev_var 1 rfl (.inl v_7_1) nd_10.1 nd_10.2) (ev_var 3 rfl (.inl v_7_3) nd_9.1 nd_9.2))))) (sv_one (sv_sub xo.hu1 (ev_var 2 rfl (.inl v_7_2) nd_8.1 nd_8.2) (ev_var 3 rfl (.inl v_7_3) nd_9.1 nd_9.2) (ev_ix xo.hu1 (ev_var 1 rfl (.inl v_7_1) nd_10.1 nd_10.2) (ev_var 3 rfl (.inl v_7_3) nd_9.1 nd_9.2)))))))
    (sv_one (sv_ret (ev_var 2 rfl (.inl v_7_2) nd_8.1 nd_8.2)))))
theorem ok_8 {k : Nat} (T : Txt w K mg cl fa fd) (IH : IHt P w K mg base cl fa fd k) : FnOk P w K mg base (L2N.CX P w) (2 * k + 3 + 1) (fa 8) (fd 8) ["first", "second"] (SpR K cl (runF 2 4 (B8 (tb k)))) :=
  fn_ok T.F8 sc_8 rfl rfl fun cdv A outer s H E xo =>
    sv_cons (sv_set 2 (ev_dic0M) sc_8.nd rfl (.inl v_8_2) (hf := .inr v_8_2))
    (sv_cons (sv_for xo.hp xo.calm (ev_var 0 rfl (.inl v_8_0) nd_11.1 nd_11.2) (gv_name 3 sc_8.nd rfl (.inl v_8_3) (hf := .inr v_8_3)) (sv_one (sv_sub xo.hu1 (ev_var 2 rfl (.inl v_8_2) nd_8.1 nd_8.2) (ev_var 3 rfl (.inl v_8_3) nd_9.1 nd_9.2) (ev_own T.o0_BitOr (IH 3) (xo.hr.mono (Nat.le_succ _)) xo.tk T.b3 ov_bor (ev_ix xo.hu1 (ev_var 0 rfl (.inl v_8_0) nd_11.1 nd_11.2) (ev_var 3 rfl (.inl v_8_3) nd_9.1 nd_9.2)) (ev_get xo.hu1 (ev_var 1 rfl (.inl v_8_1) nd_10.1 nd_10.2) (ev_var 3 rfl (.inl v_8_3) nd_9.1 nd_9.2) (ev_make T.M0 (IH 1) xo.hr xo.tk g_8_Count T.gC0 T.b1 (av_cons (ev_int) (av_cons (ev_int) (av_cons (ev_int) (av_nil)))) nd_5.1))))))
    (sv_cons (sv_for xo.hp xo.calm (ev_var 1 rfl (.inl v_8_1) nd_10.1 nd_10.2) (gv_name 3 sc_8.nd rfl (.inl v_8_3) (hf := .inr v_8_3)) (sv_one (sv_if (tv_cmp (ov_notIn xo.hu) (ev_var 3 rfl (.inl v_8_3) nd_9.1 nd_9.2) (ev_var 0 rfl (.inl v_8_0) nd_11.1 nd_11.2)) (sv_one (sv_sub xo.hu1 (ev_var 2 rfl (.inl v_8_2) nd_8.1 nd_8.2) (ev_var 3 rfl (.inl v_8_3) nd_9.1 nd_9.2) (ev_own T.o0_BitOr (IH 3) (xo.hr.mono (Nat.le_succ _)) xo.tk T.b3 ov_bor (ev_ix xo.hu1 (ev_var 1 rfl (.inl v_8_1) nd_10.1 nd_10.2) (ev_var 3 rfl (.inl v_8_3) nd_9.1 nd_9.2)) (ev_make T.M0 (IH 1) xo.hr xo.tk g_8_Count T.gC0 T.b1 (av_cons (ev_int) (av_cons (ev_int) (av_cons (ev_int) (av_nil)))) nd_5.1)))) (sv_nil))))
    (sv_one (sv_ret (ev_var 2 rfl (.inl v_8_2) nd_8.1 nd_8.2)))))
theorem ok_9 {k : Nat} (T : Txt w K mg cl fa fd) (IH : IHt P w K mg base cl fa fd k) : FnOk P w K mg base (L2N.CX P w) (2 * k + 3 + 1) (fa 9) (fd 9) ["found", "kind"] (SpR K cl (runF 2 3 (B9 (tb k)))) :=
  fn_ok T.F9 sc_9 rfl rfl fun cdv A outer s H E xo =>
    sv_one (sv_ret (ev_dc fi_fin xo.calm sc_9.nd (blkOk_by (N := ["found", "kind", "ref"]) (sc := defScope (top 5)) (own := [("ref", 2)]) (by decide +kernel)) rfl (ev_var 0 rfl (.inr (.inl v_9_0)) nd_12.1 nd_12.2) (fun _ _ _ _ _ => gw_name 2 sc_9.nd rfl (blk_loc (by decide +kernel))) (fun _ _ _ _ _ => ptv_nil) (fun _ _ _ _ _ => ev_var 2 rfl (.inl (blk_loc (by decide +kernel))) nd_9.1 nd_9.2) (fun _ _ _ _ _ => ev_meth (ev_ix xo.hu1 (ev_var 0 rfl (blk_vis (by decide +kernel)) nd_12.1 nd_12.2) (ev_var 2 rfl (.inl (blk_loc (by decide +kernel))) nd_9.1 nd_9.2)) T.cl0 T.m4 (IH 4) (xo.hr.mono (Nat.le_succ _)) tk_F T.b4 (av_cons (ev_var 1 rfl (blk_vis (by decide +kernel)) nd_6.1 nd_6.2) (av_nil)))))
theorem ok_10 {k : Nat} (T : Txt w K mg cl fa fd) (IH : IHt P w K mg base cl fa fd k) : FnOk P w K mg base (L2N.CX P w) (2 * k + 3 + 1) (fa 10) (fd 10) ["found", "ref"] (SpR K cl (runF 2 3 (B10 (tb k)))) :=
  fn_ok T.F10 sc_10 rfl rfl fun cdv A outer s H E xo =>
    sv_one (sv_ret (ev_dc fi_fin xo.calm sc_10.nd (blkOk_by (N := ["found", "ref", "other"]) (sc := defScope (top 6)) (own := [("other", 2)]) (by decide +kernel)) rfl (ev_var 0 rfl (.inr (.inl v_10_0)) nd_12.1 nd_12.2) (fun _ _ _ _ _ => gw_name 2 sc_10.nd rfl (blk_loc (by decide +kernel))) (fun _ _ _ _ _ => pts_one (tv_cmp (ov_ne xo.hu) (ev_var 2 rfl (.inl (blk_loc (by decide +kernel))) nd_4.1 nd_4.2) (ev_var 1 rfl (blk_vis (by decide +kernel)) nd_9.1 nd_9.2))) (fun _ _ _ _ _ => ev_var 2 rfl (.inl (blk_loc (by decide +kernel))) nd_4.1 nd_4.2) (fun _ _ _ _ _ => ev_ix xo.hu1 (ev_var 0 rfl (blk_vis (by decide +kernel)) nd_12.1 nd_12.2) (ev_var 2 rfl (.inl (blk_loc (by decide +kernel))) nd_4.1 nd_4.2))))
theorem ok_11 {k : Nat} (T : Txt w K mg cl fa fd) (IH : IHt P w K mg base cl fa fd k) : FnOk P w K mg base (L2N.CX P w) (2 * k + 3 + 1) (fa 11) (fd 11) ["derivation", "level"] (SpR K cl (runF 2 5 (B11 (tb k)))) :=
  fn_okE T.F11 sc_11 rfl rfl fun cdv A outer s H E xo =>
    sv_cons (sv_set 2 (ev_ix xo.hu1 (ev_var 0 rfl (.inl v_11_0) nd_16.1 nd_16.2) (ev_int)) sc_11.nd rfl (.inl v_11_2) (hf := .inr v_11_2))
    (sv_cons (sv_if (tv_cmp (ov_eq xo.hu) (ev_var 2 rfl (.inl v_11_2) nd_15.1 nd_15.2) (ev_str)) (sv_one (sv_ret (ev_dsp fi_fin (pp_cons (ev_ix xo.hu1 (ev_var 0 rfl (.inl v_11_0) nd_16.1 nd_16.2) (ev_int)) (ev_make T.M0 (IH 1) xo.hr xo.tk g_11_Count T.gC0 T.b1 (av_cons (ev_int) (av_cons (ev_int) (av_cons (ev_int) (av_nil)))) nd_5.1) (pp_nil)) (by rfl) (by rfl) (fun z => by cases z) (by decide)))) (sv_nil))
    (sv_cons (sv_if (tv_cmp (ov_eq xo.hu) (ev_var 2 rfl (.inl v_11_2) nd_15.1 nd_15.2) (ev_str)) (sv_one (sv_ret (ev_dic0))) (sv_nil))
    (sv_cons (sv_if (tv_cmp (ov_eq xo.hu) (ev_var 2 rfl (.inl v_11_2) nd_15.1 nd_15.2) (ev_str)) (sv_one (sv_ret (ev_call (IH 10) (xo.hr.mono (Nat.le_succ _)) xo.tk g_11_without T.g10 T.F10.kp T.b10 (av_cons (ev_call (IH 11) (xo.hr.mono (Nat.le_succ _)) xo.tk g_11_counts T.g11 T.F11.kp T.b11 (av_cons (ev_ix xo.hu1 (ev_var 0 rfl (.inl v_11_0) nd_16.1 nd_16.2) (ev_int)) (av_cons (ev_bin ov_add (ev_var 1 rfl (.inl v_11_1) nd_17.1 nd_17.2) (ev_int)) (av_nil))) nd_18.1) (av_cons (ev_var 1 rfl (.inl v_11_1) nd_17.1 nd_17.2) (av_nil))) nd_20.1))) (sv_nil))
    (sv_cons (sv_if (tv_cmp (ov_eq xo.hu) (ev_var 2 rfl (.inl v_11_2) nd_15.1 nd_15.2) (ev_str)) (sv_one (sv_ret (ev_call (IH 11) (xo.hr.mono (Nat.le_succ _)) xo.tk g_11_counts T.g11 T.F11.kp T.b11 (av_cons (ev_ix xo.hu1 (ev_var 0 rfl (.inl v_11_0) nd_16.1 nd_16.2) (ev_int)) (av_cons (ev_var 1 rfl (.inl v_11_1) nd_17.1 nd_17.2) (av_nil))) nd_18.1))) (sv_nil))
    (sv_cons (sv_if (tv_cmp (ov_eq xo.hu) (ev_var 2 rfl (.inl v_11_2) nd_15.1 nd_15.2) (ev_str)) (sv_one (sv_ret (ev_call (IH 8) (xo.hr.mono (Nat.le_succ _)) xo.tk g_11_either T.g8 T.F8.kp T.b8 (av_cons (ev_call (IH 11) (xo.hr.mono (Nat.le_succ _)) xo.tk g_11_counts T.g11 T.F11.kp T.b11 (av_cons (ev_ix xo.hu1 (ev_var 0 rfl (.inl v_11_0) nd_16.1 nd_16.2) (ev_int)) (av_cons (ev_var 1 rfl (.inl v_11_1) nd_17.1 nd_17.2) (av_nil))) nd_18.1) (av_cons (ev_call (IH 11) (xo.hr.mono (Nat.le_succ _)) xo.tk g_11_counts T.g11 T.F11.kp T.b11 (av_cons (ev_ix xo.hu1 (ev_var 0 rfl (.inl v_11_0) nd_16.1 nd_16.2) (ev_int)) (av_cons (ev_var 1 rfl (.inl v_11_1) nd_17.1 nd_17.2) (av_nil))) nd_18.1) (av_nil))) nd_21.1))) (sv_nil))
    (sv_cons (sv_set 3 (ev_call (IH 10) (xo.hr.mono (Nat.le_succ _)) xo.tk g_11_without T.g10 T.F10.kp T.b10 (av_cons (ev_call (IH 11) (xo.hr.mono (Nat.le_succ _)) xo.tk g_11_counts T.g11 T.F11.kp T.b11 (av_cons (ev_ix xo.hu1 (ev_var 0 rfl (.inl v_11_0) nd_16.1 nd_16.2) (ev_bin ov_sub (ev_bi ov_len g_11_len T.z_len (by decide +kernel) (av_cons (ev_var 0 rfl (.inl v_11_0) nd_16.1 nd_16.2) (av_nil))) (ev_int))) (av_cons (ev_bin ov_add (ev_var 1 rfl (.inl v_11_1) nd_17.1 nd_17.2) (ev_int)) (av_nil))) nd_18.1) (av_cons (ev_var 1 rfl (.inl v_11_1) nd_17.1 nd_17.2) (av_nil))) nd_20.1) sc_11.nd rfl (.inl v_11_3) (hf := .inr v_11_3))
    (sv_cons (sv_if (tv_cmp (ov_eq xo.hu) (ev_var 2 rfl (.inl v_11_2) nd_15.1 nd_15.2) (ev_str)) (sv_one (sv_ret (ev_call (IH 7) (xo.hr.mono (Nat.le_succ _)) xo.tk g_11_added T.g7 T.F7.kp T.b7 (av_cons (ev_call (IH 9) (xo.hr.mono (Nat.le_succ _)) xo.tk g_11_boxed_counts T.g9 T.F9.kp T.b9 (av_cons (ev_call (IH 11) (xo.hr.mono (Nat.le_succ _)) xo.tk g_11_counts T.g11 T.F11.kp T.b11 (av_cons (ev_ix xo.hu1 (ev_var 0 rfl (.inl v_11_0) nd_16.1 nd_16.2) (ev_int)) (av_cons (ev_var 1 rfl (.inl v_11_1) nd_17.1 nd_17.2) (av_nil))) nd_18.1) (av_cons (ev_ix xo.hu1 (ev_var 0 rfl (.inl v_11_0) nd_16.1 nd_16.2) (ev_int)) (av_nil))) nd_19.1) (av_cons (ev_var 3 rfl (.inl v_11_3) nd_13.1 nd_13.2) (av_nil))) nd_14.1))) (sv_nil))
    (sv_cons (sv_set 4 (ev_dsp fi_fin (pp_cons (ev_ix xo.hu1 (ev_var 0 rfl (.inl v_11_0) nd_16.1 nd_16.2) (ev_int)) (ev_make T.M0 (IH 1) xo.hr xo.tk g_11_Count T.gC0 T.b1 (av_cons (ev_int) (av_cons (ev_int) (av_cons (ev_int) (av_nil)))) nd_5.1) (pp_nil)) (by rfl) (by rfl) (fun z => by cases z) (by decide)) sc_11.nd rfl (.inl v_11_4) (hf := .inr v_11_4))
    (sv_cons (sv_if (tv_cmp (ov_eq xo.hu) (ev_var 2 rfl (.inl v_11_2) nd_15.1 nd_15.2) (ev_str)) (sv_one (sv_set 4 (ev_call (IH 7) (xo.hr.mono (Nat.le_succ _)) xo.tk g_11_added T.g7 T.F7.kp T.b7 (av_cons (ev_var 4 rfl (.inl v_11_4) nd_12.1 nd_12.2) (av_cons (ev_call (IH 9) (xo.hr.mono (Nat.le_succ _)) xo.tk g_11_boxed_counts T.g9 T.F9.kp T.b9 (av_cons (ev_call (IH 11) (xo.hr.mono (Nat.le_succ _)) xo.tk g_11_counts T.g11 T.F11.kp T.b11 (av_cons (ev_ix xo.hu1 (ev_var 0 rfl (.inl v_11_0) nd_16.1 nd_16.2) (ev_int)) (av_cons (ev_var 1 rfl (.inl v_11_1) nd_17.1 nd_17.2) (av_nil))) nd_18.1) (av_cons (ev_ix xo.hu1 (ev_var 0 rfl (.inl v_11_0) nd_16.1 nd_16.2) (ev_int)) (av_nil))) nd_19.1) (av_nil))) nd_14.1) sc_11.nd rfl (.inl v_11_4) (hf := .inr v_11_4))) (sv_nil))
    (sv_one (sv_ret (ev_call (IH 7) (xo.hr.mono (Nat.le_succ _)) xo.tk g_11_added T.g7 T.F7.kp T.b7 (av_cons (ev_var 4 rfl (.inl v_11_4) nd_12.1 nd_12.2) (av_cons (ev_var 3 rfl (.inl v_11_3) nd_13.1 nd_13.2) (av_nil))) nd_14.1))))))))))))
theorem ok_12 {k : Nat} (T : Txt w K mg cl fa fd) (IH : IHt P w K mg base cl fa fd k) : FnOk P w K mg base (L2N.CX P w) (2 * k + 3 + 1) (fa 12) (fd 12) ["_law_script", "_law_k"] (SpR K cl (runF 2 2 (B12 (tb k)))) :=
  fn_ok T.F12 sc_12 rfl rfl fun cdv A outer s H E xo =>
    sv_cons (sv_if (tv_cmp ov_lt (ev_var 1 rfl (.inl v_12_1) nd_22.1 nd_22.2) (ev_bi ov_len g_12_len T.z_len (by decide +kernel) (av_cons (ev_var 0 rfl (.inl v_12_0) nd_23.1 nd_23.2) (av_nil)))) (sv_one (sv_ret (ev_bi ov_abs g_12_abs T.z_abs (by decide +kernel) (av_cons (ev_ix xo.hu1 (ev_var 0 rfl (.inl v_12_0) nd_23.1 nd_23.2) (ev_var 1 rfl (.inl v_12_1) nd_22.1 nd_22.2)) (av_nil))))) (sv_nil))
    (sv_one (sv_ret (ev_int)))
theorem ok_13 {k : Nat} (T : Txt w K mg cl fa fd) (IH : IHt P w K mg base cl fa fd k) : FnOk P w K mg base (L2N.CX P w) (2 * k + 3 + 1) (fa 13) (fd 13) ["_law_script", "_law_k"] (SpR K cl (runF 2 3 (B13 (tb k)))) :=
  fn_ok T.F13 sc_13 rfl rfl fun cdv A outer s H E xo =>
    sv_cons (sv_set 2 (ev_call (IH 12) (xo.hr.mono (Nat.le_succ _)) xo.tk g_13__law_cell T.g12 T.F12.kp T.b12 (av_cons (ev_var 0 rfl (.inl v_13_0) nd_23.1 nd_23.2) (av_cons (ev_var 1 rfl (.inl v_13_1) nd_22.1 nd_22.2) (av_nil))) nd_25.1) sc_13.nd rfl (.inl v_13_2) (hf := .inr v_13_2))
    (sv_cons (sv_if (tv_cmp ov_ge (ev_var 2 rfl (.inl v_13_2) nd_24.1 nd_24.2) (ev_bin ov_pow (ev_int) (ev_int))) (sv_one (sv_ret (ev_lstM (av_cons (ev_var 2 rfl (.inl v_13_2) nd_24.1 nd_24.2) (av_cons (ev_int) (av_cons (ev_bin ov_mod (ev_ty ov_intc g_13_int T.z_int (by decide +kernel) (av_cons (ev_var 2 rfl (.inl v_13_2) nd_24.1 nd_24.2) (av_nil))) (ev_int)) (av_nil))))))) (sv_nil))
    (sv_one (sv_ret (ev_lstM (av_cons (ev_int) (av_cons (ev_int) (av_cons (ev_var 2 rfl (.inl v_13_2) nd_24.1 nd_24.2) (av_nil))))))))
theorem ok_14 {k : Nat} (T : Txt w K mg cl fa fd) (IH : IHt P w K mg base cl fa fd k) : FnOk P w K mg base (L2N.CX P w) (2 * k + 3 + 1) (fa 14) (fd 14) ["_law_pool_here", "_law_many"] (SpR K cl (runF 2 4 (B14 (tb k)))) :=
  fn_ok T.F14 sc_14 rfl rfl fun cdv A outer s H E xo =>
    sv_cons (sv_if (tv_cmp ov_gt (ev_ix xo.hu1 (ev_var 0 rfl (.inl v_14_0) nd_28.1 nd_28.2) (ev_int)) (ev_int)) (sv_cons (sv_set 2 (ev_bin ov_mod (ev_ty ov_intc g_14_int T.z_int (by decide +kernel) (av_cons (ev_ix xo.hu1 (ev_var 0 rfl (.inl v_14_0) nd_28.1 nd_28.2) (ev_int)) (av_nil))) (ev_var 1 rfl (.inl v_14_1) nd_27.1 nd_27.2)) sc_14.nd rfl (.inl v_14_2) (hf := .inr v_14_2))
    (sv_cons (sv_sub xo.hu1 (ev_var 0 rfl (.inl v_14_0) nd_28.1 nd_28.2) (ev_int) (ev_bin ov_div (ev_ix xo.hu1 (ev_var 0 rfl (.inl v_14_0) nd_28.1 nd_28.2) (ev_int)) (ev_var 1 rfl (.inl v_14_1) nd_27.1 nd_27.2)))
    (sv_one (sv_ret (ev_var 2 rfl (.inl v_14_2) nd_29.1 nd_29.2))))) (sv_nil))
    (sv_cons (sv_sub xo.hu1 (ev_var 0 rfl (.inl v_14_0) nd_28.1 nd_28.2) (ev_int) (ev_bin ov_add (ev_ix xo.hu1 (ev_var 0 rfl (.inl v_14_0) nd_28.1 nd_28.2) (ev_int)) (ev_int)))
    (sv_cons (sv_set 3 (ev_bin ov_mod (ev_ty ov_intc g_14_int T.z_int (by decide +kernel) (av_cons (ev_bin ov_add (ev_bin ov_add (ev_ix xo.hu1 (ev_var 0 rfl (.inl v_14_0) nd_28.1 nd_28.2) (ev_int)) (ev_bin ov_mul (ev_int) (ev_ix xo.hu1 (ev_var 0 rfl (.inl v_14_0) nd_28.1 nd_28.2) (ev_int)))) (ev_int)) (av_nil))) (ev_int)) sc_14.nd rfl (.inl v_14_3) (hf := .inr v_14_3))
    (sv_cons (sv_set 3 (ev_bin ov_mod (ev_ty ov_intc g_14_int T.z_int (by decide +kernel) (av_cons (ev_bin ov_mul (ev_var 3 rfl (.inl v_14_3) nd_26.1 nd_26.2) (ev_bin ov_add (ev_var 3 rfl (.inl v_14_3) nd_26.1 nd_26.2) (ev_int))) (av_nil))) (ev_int)) sc_14.nd rfl (.inl v_14_3) (hf := .inr v_14_3))
    (sv_cons (sv_set 3 (ev_bin ov_mod (ev_ty ov_intc g_14_int T.z_int (by decide +kernel) (av_cons (ev_bin ov_add (ev_bin ov_mul (ev_var 3 rfl (.inl v_14_3) nd_26.1 nd_26.2) (ev_bin ov_add (ev_var 3 rfl (.inl v_14_3) nd_26.1 nd_26.2) (ev_int))) (ev_bin ov_mul (ev_int) (ev_ix xo.hu1 (ev_var 0 rfl (.inl v_14_0) nd_28.1 nd_28.2) (ev_int)))) (av_nil))) (ev_int)) sc_14.nd rfl (.inl v_14_3) (hf := .inr v_14_3))
    (sv_one (sv_ret (ev_bin ov_mod (ev_ty ov_intc g_14_int T.z_int (by decide +kernel) (av_cons (ev_bin ov_div (ev_var 3 rfl (.inl v_14_3) nd_26.1 nd_26.2) (ev_int)) (av_nil))) (ev_var 1 rfl (.inl v_14_1) nd_27.1 nd_27.2))))))))
theorem ok_15 {k : Nat} (T : Txt w K mg cl fa fd) (IH : IHt P w K mg base cl fa fd k) : FnOk P w K mg base (L2N.CX P w) (2 * k + 3 + 1) (fa 15) (fd 15) ["_law_value"] (SpR K cl (runF 1 1 (B15 (tb k)))) :=
  fn_ok T.F15 sc_15 rfl rfl fun cdv A outer s H E xo =>
    sv_one (sv_ret (ev_and (ev_isi (noOwn fun _ => rfl) g_15_isinstance T.z_isinstance (ev_var 0 rfl (.inl v_15_0) nd_30.1 nd_30.2) g_15_int T.z_int (by decide +kernel) an_int) (ev_one (ev_not (ev_isi (noOwn fun _ => rfl) g_15_isinstance T.z_isinstance (ev_var 0 rfl (.inl v_15_0) nd_30.1 nd_30.2) g_15_bool T.z_bool (by decide +kernel) an_bool)))))
theorem ok_16 {k : Nat} (T : Txt w K mg cl fa fd) (IH : IHt P w K mg base cl fa fd k) : FnOk P w K mg base (L2N.CX P w) (2 * k + 3 + 1) (fa 16) (fd 16) ["_law_item"] (SpR K cl (runF 1 2 (B16 (tb k)))) :=
  fn_ok T.F16 sc_16 rfl rfl fun cdv A outer s H E xo =>
    sv_cons (sv_set 1 (ev_tup (av_cons (ev_str) (av_cons (ev_str) (av_cons (ev_str) (av_cons (ev_str) (av_cons (ev_str) (av_cons (ev_str) (av_cons (ev_str) (av_cons (ev_str) (av_cons (ev_str) (av_nil))))))))))) sc_16.nd rfl (.inl v_16_1) (hf := .inr v_16_1))
    (sv_one (sv_ret (ev_and (ev_isi (noOwn fun _ => rfl) g_16_isinstance T.z_isinstance (ev_var 0 rfl (.inl v_16_0) nd_31.1 nd_31.2) g_16_tuple T.z_tuple (by decide +kernel) an_tup) (ev_and (ev_cmp ov_gt (ev_bi ov_len g_16_len T.z_len (by decide +kernel) (av_cons (ev_var 0 rfl (.inl v_16_0) nd_31.1 nd_31.2) (av_nil))) (ev_int)) (ev_one (ev_cmp (ov_in xo.hu) (ev_ix xo.hu1 (ev_var 0 rfl (.inl v_16_0) nd_31.1 nd_31.2) (ev_int)) (ev_var 1 rfl (.inl v_16_1) nd_32.1 nd_32.2)))))))
theorem ok_17 {k : Nat} (T : Txt w K mg cl fa fd) (IH : IHt P w K mg base cl fa fd k) : FnOk P w K mg base (L2N.CX P w) (2 * k + 3 + 1) (fa 17) (fd 17) ["_law_tree"] (SpR K cl (runF 1 2 (B17 (tb k)))) :=
  fn_ok T.F17 sc_17 rfl rfl fun cdv A outer s H E xo =>
    sv_one (sv_ret (ev_lc fi_fin xo.calm sc_17.nd (blkOk_by (N := ["_law_tree", "_law_item"]) (sc := defScope (top 14)) (own := [("_law_item", 1)]) (by decide +kernel)) rfl (ev_sl xo.calm (ev_var 0 rfl (.inl v_17_0) nd_33.1 nd_33.2) (ov_so (ev_int)) ov_no) (fun _ _ _ _ _ => gw_name 1 sc_17.nd rfl (blk_loc (by decide +kernel))) (fun _ _ _ _ _ => pts_one (tv_val (ev_call (IH 16) (xo.hr.mono (Nat.le_succ _)) tk_F (blk_gl (by decide +kernel)) T.g16 T.F16.kp T.b16 (av_cons (ev_var 1 rfl (.inl (blk_loc (by decide +kernel))) nd_31.1 nd_31.2) (av_nil)) nd_34.1))) (fun _ _ _ _ _ => ev_var 1 rfl (.inl (blk_loc (by decide +kernel))) nd_31.1 nd_31.2)))
theorem ok_18 {k : Nat} (T : Txt w K mg cl fa fd) (IH : IHt P w K mg base cl fa fd k) : FnOk P w K mg base (L2N.CX P w) (2 * k + 3 + 1) (fa 18) (fd 18) ["_law_tree", "_law_path"] (SpR K cl (runF 2 5 (B18 (tb k)))) :=
  fn_ok T.F18 sc_18 rfl rfl fun cdv A outer s H E xo =>
    sv_cons (sv_set 2 (ev_lst (av_cons (ev_var 1 rfl (.inl v_18_1) nd_37.1 nd_37.2) (av_nil))) sc_18.nd rfl (.inl v_18_2) (hf := .inr v_18_2))
    (sv_cons (sv_set 3 (ev_call (IH 17) (xo.hr.mono (Nat.le_succ _)) xo.tk g_18__law_parts T.g17 T.F17.kp T.b17 (av_cons (ev_var 0 rfl (.inl v_18_0) nd_33.1 nd_33.2) (av_nil)) nd_39.1) sc_18.nd rfl (.inl v_18_3) (hf := .inr v_18_3))
    (sv_cons (sv_forR1 xo.hp xo.calm g_18_range T.z_range (av_cons (ev_bi ov_len g_18_len T.z_len (by decide +kernel) (av_cons (ev_var 3 rfl (.inl v_18_3) nd_36.1 nd_36.2) (av_nil))) (av_nil)) (gv_name 4 sc_18.nd rfl (.inl v_18_4) (hf := .inr v_18_4)) (sv_one (sv_set 2 (ev_bin ov_add (ev_var 2 rfl (.inl v_18_2) nd_35.1 nd_35.2) (ev_call (IH 18) (xo.hr.mono (Nat.le_succ _)) xo.tk g_18__law_paths T.g18 T.F18.kp T.b18 (av_cons (ev_ix xo.hu1 (ev_var 3 rfl (.inl v_18_3) nd_36.1 nd_36.2) (ev_var 4 rfl (.inl v_18_4) nd_22.1 nd_22.2)) (av_cons (ev_bin ov_add (ev_var 1 rfl (.inl v_18_1) nd_37.1 nd_37.2) (ev_tup (av_cons (ev_var 4 rfl (.inl v_18_4) nd_22.1 nd_22.2) (av_nil)))) (av_nil))) nd_38.1)) sc_18.nd rfl (.inl v_18_2) (hf := .inr v_18_2))))
    (sv_one (sv_ret (ev_var 2 rfl (.inl v_18_2) nd_35.1 nd_35.2)))))
theorem ok_19 {k : Nat} (T : Txt w K mg cl fa fd) (IH : IHt P w K mg base cl fa fd k) : FnOk P w K mg base (L2N.CX P w) (2 * k + 3 + 1) (fa 19) (fd 19) ["_law_tree", "_law_path"] (SpR K cl (runF 2 3 (B19 (tb k)))) :=
  fn_ok T.F19 sc_19 rfl rfl fun cdv A outer s H E xo =>
    sv_cons (sv_for xo.hp xo.calm (ev_var 1 rfl (.inl v_19_1) nd_37.1 nd_37.2) (gv_name 2 sc_19.nd rfl (.inl v_19_2) (hf := .inr v_19_2)) (sv_one (sv_set 0 (ev_ix xo.hu1 (ev_call (IH 17) (xo.hr.mono (Nat.le_succ _)) xo.tk g_19__law_parts T.g17 T.F17.kp T.b17 (av_cons (ev_var 0 rfl (.inl v_19_0) nd_33.1 nd_33.2) (av_nil)) nd_39.1) (ev_var 2 rfl (.inl v_19_2) nd_22.1 nd_22.2)) sc_19.nd rfl (.inl v_19_0) (hf := .inr v_19_0))))
    (sv_one (sv_ret (ev_var 0 rfl (.inl v_19_0) nd_33.1 nd_33.2)))
theorem ok_20 {k : Nat} (T : Txt w K mg cl fa fd) (IH : IHt P w K mg base cl fa fd k) : FnOk P w K mg base (L2N.CX P w) (2 * k + 3 + 1) (fa 20) (fd 20) ["_law_told_here", "_law_due_here"] (SpR K cl (runF 2 3 (B20 (tb k)))) :=
  fn_ok T.F20 sc_20 rfl rfl fun cdv A outer s H E xo =>
    sv_cons (sv_if (tv_val (ev_isi (noOwn fun _ => rfl) g_20_isinstance T.z_isinstance (ev_var 1 rfl (.inl v_20_1) nd_41.1 nd_41.2) g_20_str T.z_str (by decide +kernel) an_str)) (sv_one (sv_ret (ev_and (ev_isi (noOwn fun _ => rfl) g_20_isinstance T.z_isinstance (ev_var 0 rfl (.inl v_20_0) nd_40.1 nd_40.2) g_20_str T.z_str (by decide +kernel) an_str) (ev_one (ev_cmp (ov_eq xo.hu) (ev_var 0 rfl (.inl v_20_0) nd_40.1 nd_40.2) (ev_var 1 rfl (.inl v_20_1) nd_41.1 nd_41.2)))))) (sv_nil))
    (sv_cons (sv_if (tv_not (tv_val (ev_isi2 (noOwn fun _ => rfl) g_20_isinstance T.z_isinstance (ev_var 1 rfl (.inl v_20_1) nd_41.1 nd_41.2) g_20_tuple T.z_tuple (by decide +kernel) g_20_list T.z_list (by decide +kernel) an_tl))) (sv_one (sv_ret (ev_and (ev_call (IH 15) (xo.hr.mono (Nat.le_succ _)) xo.tk g_20__law_is_number T.g15 T.F15.kp T.b15 (av_cons (ev_var 0 rfl (.inl v_20_0) nd_40.1 nd_40.2) (av_nil)) nd_43.1) (ev_one (ev_cmp (ov_eq xo.hu) (ev_var 0 rfl (.inl v_20_0) nd_40.1 nd_40.2) (ev_var 1 rfl (.inl v_20_1) nd_41.1 nd_41.2)))))) (sv_nil))
    (sv_cons (sv_if (tv_pw (tv_or (tv_not (tv_val (ev_isi2 (noOwn fun _ => rfl) g_20_isinstance T.z_isinstance (ev_var 0 rfl (.inl v_20_0) nd_40.1 nd_40.2) g_20_tuple T.z_tuple (by decide +kernel) g_20_list T.z_list (by decide +kernel) an_tl))) (tv_or1 (tv_cmp (ov_ne xo.hu) (ev_isi (noOwn fun _ => rfl) g_20_isinstance T.z_isinstance (ev_var 0 rfl (.inl v_20_0) nd_40.1 nd_40.2) g_20_list T.z_list (by decide +kernel) an_lst) (ev_isi (noOwn fun _ => rfl) g_20_isinstance T.z_isinstance (ev_var 1 rfl (.inl v_20_1) nd_41.1 nd_41.2) g_20_list T.z_list (by decide +kernel) an_lst))))) (sv_one (sv_ret (ev_bl))) (sv_nil))
    (sv_cons (sv_if (tv_cmp (ov_ne xo.hu) (ev_bi ov_len g_20_len T.z_len (by decide +kernel) (av_cons (ev_var 0 rfl (.inl v_20_0) nd_40.1 nd_40.2) (av_nil))) (ev_bi ov_len g_20_len T.z_len (by decide +kernel) (av_cons (ev_var 1 rfl (.inl v_20_1) nd_41.1 nd_41.2) (av_nil)))) (sv_one (sv_ret (ev_bl))) (sv_nil))
    (sv_cons (sv_forR1 xo.hp xo.calm g_20_range T.z_range (av_cons (ev_bi ov_len g_20_len T.z_len (by decide +kernel) (av_cons (ev_var 1 rfl (.inl v_20_1) nd_41.1 nd_41.2) (av_nil))) (av_nil)) (gv_name 2 sc_20.nd rfl (.inl v_20_2) (hf := .inr v_20_2)) (sv_one (sv_if (tv_not (tv_val (ev_call (IH 20) (xo.hr.mono (Nat.le_succ _)) xo.tk g_20__law_same T.g20 T.F20.kp T.b20 (av_cons (ev_ix xo.hu1 (ev_var 0 rfl (.inl v_20_0) nd_40.1 nd_40.2) (ev_var 2 rfl (.inl v_20_2) nd_22.1 nd_22.2)) (av_cons (ev_ix xo.hu1 (ev_var 1 rfl (.inl v_20_1) nd_41.1 nd_41.2) (ev_var 2 rfl (.inl v_20_2) nd_22.1 nd_22.2)) (av_nil))) nd_42.1))) (sv_one (sv_ret (ev_bl))) (sv_nil))))
    (sv_one (sv_ret (ev_bl)))))))
theorem ok_21 {k : Nat} (T : Txt w K mg cl fa fd) (IH : IHt P w K mg base cl fa fd k) : FnOk P w K mg base (L2N.CX P w) (2 * k + 3 + 1) (fa 21) (fd 21) ["_law_pool_here", "_law_room"] (SpR K cl (runF 2 3 (B21 (tb k)))) :=
  fn_ok T.F21 sc_21 rfl rfl fun cdv A outer s H E xo =>
    sv_cons (sv_set 2 (ev_tup (av_cons (ev_bin ov_add (ev_int) (ev_call (IH 14) (xo.hr.mono (Nat.le_succ _)) xo.tk g_21__law_next T.g14 T.F14.kp T.b14 (av_cons (ev_var 0 rfl (.inl v_21_0) nd_28.1 nd_28.2) (av_cons (ev_int) (av_nil))) nd_46.1)) (av_cons (ev_call (IH 14) (xo.hr.mono (Nat.le_succ _)) xo.tk g_21__law_next T.g14 T.F14.kp T.b14 (av_cons (ev_var 0 rfl (.inl v_21_0) nd_28.1 nd_28.2) (av_cons (ev_int) (av_nil))) nd_46.1) (av_nil)))) sc_21.nd rfl (.inl v_21_2) (hf := .inr v_21_2))
    (sv_cons (sv_if (tv_pw (tv_or (tv_cmp (ov_eq xo.hu) (ev_call (IH 14) (xo.hr.mono (Nat.le_succ _)) xo.tk g_21__law_next T.g14 T.F14.kp T.b14 (av_cons (ev_var 0 rfl (.inl v_21_0) nd_28.1 nd_28.2) (av_cons (ev_int) (av_nil))) nd_46.1) (ev_int)) (tv_or1 (tv_cmp ov_gt (ev_ix xo.hu1 (ev_var 2 rfl (.inl v_21_2) nd_44.1 nd_44.2) (ev_int)) (ev_var 1 rfl (.inl v_21_1) nd_45.1 nd_45.2))))) (sv_one (sv_ret (ev_str))) (sv_nil))
    (sv_one (sv_ret (ev_var 2 rfl (.inl v_21_2) nd_44.1 nd_44.2))))
theorem ok_22 {k : Nat} (T : Txt w K mg cl fa fd) (IH : IHt P w K mg base cl fa fd k) : FnOk P w K mg base (L2N.CX P w) (2 * k + 3 + 1) (fa 22) (fd 22) ["_law_way", "_law_many", "_law_level", "_law_room", "_law_name", "_law_ref", "_law_which"] (SpR K cl (runF 7 9 (B22 (tb k)))) :=
  fn_ok T.F22 sc_22 rfl rfl fun cdv A outer s H E xo =>
    sv_cons (sv_set 7 (ev_call (IH 14) (xo.hr.mono (Nat.le_succ _)) xo.tk g_22__law_next T.g14 T.F14.kp T.b14 (av_cons (ev_ix xo.hu1 (ev_var 0 rfl (.inl v_22_0) nd_52.1 nd_52.2) (ev_str)) (av_cons (ev_int) (av_nil))) nd_46.1) sc_22.nd rfl (.inl v_22_7) (hf := .inr v_22_7))
    (sv_cons (sv_if (tv_cmp (ov_eq xo.hu) (ev_var 6 rfl (.inl v_22_6) nd_51.1 nd_51.2) (ev_int)) (sv_one (sv_ret (ev_tup (av_cons (ev_str) (av_cons (ev_var 4 rfl (.inl v_22_4) nd_48.1 nd_48.2) (av_cons (ev_var 7 rfl (.inl v_22_7) nd_49.1 nd_49.2) (av_cons (ev_call (IH 24) (xo.hr.mono (Nat.le_succ _)) xo.tk g_22__law_free T.g24 T.F24.kp T.b24 (av_cons (ev_var 0 rfl (.inl v_22_0) nd_52.1 nd_52.2) (av_cons (ev_var 1 rfl (.inl v_22_1) nd_27.1 nd_27.2) (av_cons (ev_var 2 rfl (.inl v_22_2) nd_53.1 nd_53.2) (av_cons (ev_var 3 rfl (.inl v_22_3) nd_45.1 nd_45.2) (av_nil))))) nd_54.1) (av_nil)))))))) (sv_nil))
    (sv_cons (sv_set 8 (ev_call (IH 24) (xo.hr.mono (Nat.le_succ _)) xo.tk g_22__law_free T.g24 T.F24.kp T.b24 (av_cons (ev_var 0 rfl (.inl v_22_0) nd_52.1 nd_52.2) (av_cons (ev_var 1 rfl (.inl v_22_1) nd_27.1 nd_27.2) (av_cons (ev_bin ov_add (ev_var 2 rfl (.inl v_22_2) nd_53.1 nd_53.2) (ev_int)) (av_cons (ev_var 3 rfl (.inl v_22_3) nd_45.1 nd_45.2) (av_nil))))) nd_54.1) sc_22.nd rfl (.inl v_22_8) (hf := .inr v_22_8))
    (sv_cons (sv_if (tv_cmp (ov_eq xo.hu) (ev_var 6 rfl (.inl v_22_6) nd_51.1 nd_51.2) (ev_int)) (sv_one (sv_ret (ev_tup (av_cons (ev_str) (av_cons (ev_var 8 rfl (.inl v_22_8) nd_50.1 nd_50.2) (av_nil)))))) (sv_nil))
    (sv_cons (sv_if (tv_cmp (ov_eq xo.hu) (ev_var 6 rfl (.inl v_22_6) nd_51.1 nd_51.2) (ev_int)) (sv_one (sv_ret (ev_tup (av_cons (ev_str) (av_cons (ev_var 5 rfl (.inl v_22_5) nd_47.1 nd_47.2) (av_cons (ev_ix xo.hu1 (ev_lst (av_cons (ev_str) (av_cons (ev_str) (av_nil)))) (ev_bin ov_mod (ev_ty ov_intc g_22_int T.z_int (by decide +kernel) (av_cons (ev_var 7 rfl (.inl v_22_7) nd_49.1 nd_49.2) (av_nil))) (ev_int))) (av_cons (ev_var 8 rfl (.inl v_22_8) nd_50.1 nd_50.2) (av_nil)))))))) (sv_nil))
    (sv_one (sv_ret (ev_tup (av_cons (ev_str) (av_cons (ev_var 5 rfl (.inl v_22_5) nd_47.1 nd_47.2) (av_cons (ev_var 4 rfl (.inl v_22_4) nd_48.1 nd_48.2) (av_cons (ev_var 7 rfl (.inl v_22_7) nd_49.1 nd_49.2) (av_cons (ev_var 8 rfl (.inl v_22_8) nd_50.1 nd_50.2) (av_nil)))))))))))))
theorem ok_23 {k : Nat} (T : Txt w K mg cl fa fd) (IH : IHt P w K mg base cl fa fd k) : FnOk P w K mg base (L2N.CX P w) (2 * k + 3 + 1) (fa 23) (fd 23) ["_law_way", "_law_many", "_law_level", "_law_room", "_law_name", "_law_ref", "_law_which"] (SpR K cl (runF 7 13 (B23 (tb k)))) :=
  fn_ok T.F23 sc_23 rfl rfl fun cdv A outer s H E xo =>
    sv_cons (sv_set 7 (ev_ix xo.hu1 (ev_var 0 rfl (.inl v_23_0) nd_52.1 nd_52.2) (ev_str)) sc_23.nd rfl (.inl v_23_7) (hf := .inr v_23_7))
    (sv_cons (sv_set 8 (ev_bin ov_add (ev_int) (ev_call (IH 14) (xo.hr.mono (Nat.le_succ _)) xo.tk g_23__law_next T.g14 T.F14.kp T.b14 (av_cons (ev_var 7 rfl (.inl v_23_7) nd_28.1 nd_28.2) (av_cons (ev_bin ov_sub (ev_var 1 rfl (.inl v_23_1) nd_27.1 nd_27.2) (ev_int)) (av_nil))) nd_46.1)) sc_23.nd rfl (.inl v_23_8) (hf := .inr v_23_8))
    (sv_cons (sv_set 9 (ev_call (IH 21) (xo.hr.mono (Nat.le_succ _)) xo.tk g_23__law_mode T.g21 T.F21.kp T.b21 (av_cons (ev_var 7 rfl (.inl v_23_7) nd_28.1 nd_28.2) (av_cons (ev_var 3 rfl (.inl v_23_3) nd_45.1 nd_45.2) (av_nil))) nd_59.1) sc_23.nd rfl (.inl v_23_9) (hf := .inr v_23_9))
    (sv_cons (sv_if (tv_pw (tv_and (tv_cmp (ov_in xo.hu) (ev_var 6 rfl (.inl v_23_6) nd_51.1 nd_51.2) (ev_tup (av_cons (ev_int) (av_cons (ev_int) (av_nil))))) (tv_and1 (tv_cmp ov_gt (ev_ix xo.hu1 (ev_var 0 rfl (.inl v_23_0) nd_52.1 nd_52.2) (ev_str)) (ev_int))))) (sv_cons (sv_sub xo.hu1 (ev_var 0 rfl (.inl v_23_0) nd_52.1 nd_52.2) (ev_str) (ev_bin ov_sub (ev_ix xo.hu1 (ev_var 0 rfl (.inl v_23_0) nd_52.1 nd_52.2) (ev_str)) (ev_int)))
    (sv_cons (sv_set 10 (ev_call (IH 24) (xo.hr.mono (Nat.le_succ _)) xo.tk g_23__law_free T.g24 T.F24.kp T.b24 (av_cons (ev_var 0 rfl (.inl v_23_0) nd_52.1 nd_52.2) (av_cons (ev_var 8 rfl (.inl v_23_8) nd_57.1 nd_57.2) (av_cons (ev_var 2 rfl (.inl v_23_2) nd_53.1 nd_53.2) (av_cons (ev_var 3 rfl (.inl v_23_3) nd_45.1 nd_45.2) (av_nil))))) nd_54.1) sc_23.nd rfl (.inl v_23_10) (hf := .inr v_23_10))
    (sv_one (sv_ret (ev_tup (av_cons (ev_str) (av_cons (ev_var 10 rfl (.inl v_23_10) nd_55.1 nd_55.2) (av_cons (ev_call (IH 24) (xo.hr.mono (Nat.le_succ _)) xo.tk g_23__law_free T.g24 T.F24.kp T.b24 (av_cons (ev_var 0 rfl (.inl v_23_0) nd_52.1 nd_52.2) (av_cons (ev_bin ov_sub (ev_var 1 rfl (.inl v_23_1) nd_27.1 nd_27.2) (ev_var 8 rfl (.inl v_23_8) nd_57.1 nd_57.2)) (av_cons (ev_var 2 rfl (.inl v_23_2) nd_53.1 nd_53.2) (av_cons (ev_var 3 rfl (.inl v_23_3) nd_45.1 nd_45.2) (av_nil))))) nd_54.1) (av_nil))))))))) (sv_nil))
    (sv_cons (sv_set 11 (ev_var 3 rfl (.inl v_23_3) nd_45.1 nd_45.2) sc_23.nd rfl (.inl v_23_11) (hf := .inr v_23_11))
    (sv_cons (sv_if (tv_cmp (ov_ne xo.hu) (ev_var 9 rfl (.inl v_23_9) nd_44.1 nd_44.2) (ev_str)) (sv_one (sv_set 11 (ev_bin ov_div (ev_var 3 rfl (.inl v_23_3) nd_45.1 nd_45.2) (ev_ix xo.hu1 (ev_var 9 rfl (.inl v_23_9) nd_44.1 nd_44.2) (ev_int))) sc_23.nd rfl (.inl v_23_11) (hf := .inr v_23_11))) (sv_nil))
    (sv_cons (sv_set 10 (ev_call (IH 24) (xo.hr.mono (Nat.le_succ _)) xo.tk g_23__law_free T.g24 T.F24.kp T.b24 (av_cons (ev_var 0 rfl (.inl v_23_0) nd_52.1 nd_52.2) (av_cons (ev_var 8 rfl (.inl v_23_8) nd_57.1 nd_57.2) (av_cons (ev_var 2 rfl (.inl v_23_2) nd_53.1 nd_53.2) (av_cons (ev_var 11 rfl (.inl v_23_11) nd_58.1 nd_58.2) (av_nil))))) nd_54.1) sc_23.nd rfl (.inl v_23_10) (hf := .inr v_23_10))
    (sv_cons (sv_set 12 (ev_call (IH 24) (xo.hr.mono (Nat.le_succ _)) xo.tk g_23__law_free T.g24 T.F24.kp T.b24 (av_cons (ev_var 0 rfl (.inl v_23_0) nd_52.1 nd_52.2) (av_cons (ev_bin ov_sub (ev_var 1 rfl (.inl v_23_1) nd_27.1 nd_27.2) (ev_var 8 rfl (.inl v_23_8) nd_57.1 nd_57.2)) (av_cons (ev_bin ov_add (ev_var 2 rfl (.inl v_23_2) nd_53.1 nd_53.2) (ev_int)) (av_cons (ev_var 3 rfl (.inl v_23_3) nd_45.1 nd_45.2) (av_nil))))) nd_54.1) sc_23.nd rfl (.inl v_23_12) (hf := .inr v_23_12))
    (sv_cons (sv_if (tv_cmp (ov_eq xo.hu) (ev_var 6 rfl (.inl v_23_6) nd_51.1 nd_51.2) (ev_int)) (sv_one (sv_ret (ev_tup (av_cons (ev_str) (av_cons (ev_var 9 rfl (.inl v_23_9) nd_44.1 nd_44.2) (av_cons (ev_tup (av_cons (ev_str) (av_cons (ev_tup (av_cons (ev_str) (av_cons (ev_str) (av_nil)))) (av_cons (ev_tup (av_cons (ev_str) (av_cons (ev_var 4 rfl (.inl v_23_4) nd_48.1 nd_48.2) (av_nil)))) (av_nil))))) (av_cons (ev_var 10 rfl (.inl v_23_10) nd_55.1 nd_55.2) (av_cons (ev_var 12 rfl (.inl v_23_12) nd_56.1 nd_56.2) (av_nil))))))))) (sv_nil))
    (sv_one (sv_ret (ev_tup (av_cons (ev_str) (av_cons (ev_var 5 rfl (.inl v_23_5) nd_47.1 nd_47.2) (av_cons (ev_var 9 rfl (.inl v_23_9) nd_44.1 nd_44.2) (av_cons (ev_var 10 rfl (.inl v_23_10) nd_55.1 nd_55.2) (av_cons (ev_var 12 rfl (.inl v_23_12) nd_56.1 nd_56.2) (av_nil)))))))))))))))))
theorem ok_24 {k : Nat} (T : Txt w K mg cl fa fd) (IH : IHt P w K mg base cl fa fd k) : FnOk P w K mg base (L2N.CX P w) (2 * k + 3 + 1) (fa 24) (fd 24) ["_law_way", "_law_many", "_law_level", "_law_room"] (SpR K cl (runF 4 9 (B24 (tb k)))) :=
  fn_ok T.F24 sc_24 rfl rfl fun cdv A outer s H E xo =>
    sv_cons (sv_set 4 (ev_ix xo.hu1 (ev_var 0 rfl (.inl v_24_0) nd_52.1 nd_52.2) (ev_str)) sc_24.nd rfl (.inl v_24_4) (hf := .inr v_24_4))
    (sv_cons (sv_set 5 (ev_lst (av_cons (ev_str) (av_cons (ev_str) (av_cons (ev_str) (av_cons (ev_str) (av_cons (ev_str) (av_cons (ev_str) (av_cons (ev_str) (av_cons (ev_str) (av_cons (ev_str) (av_cons (ev_str) (av_cons (ev_str) (av_cons (ev_str) (av_nil)))))))))))))) sc_24.nd rfl (.inl v_24_5) (hf := .inr v_24_5))
    (sv_cons (sv_set 6 (ev_ix xo.hu1 (ev_var 5 rfl (.inl v_24_5) nd_32.1 nd_32.2) (ev_call (IH 14) (xo.hr.mono (Nat.le_succ _)) xo.tk g_24__law_next T.g14 T.F14.kp T.b14 (av_cons (ev_var 4 rfl (.inl v_24_4) nd_28.1 nd_28.2) (av_cons (ev_int) (av_nil))) nd_46.1)) sc_24.nd rfl (.inl v_24_6) (hf := .inr v_24_6))
    (sv_cons (sv_set 7 (ev_var 6 rfl (.inl v_24_6) nd_48.1 nd_48.2) sc_24.nd rfl (.inl v_24_7) (hf := .inr v_24_7))
    (sv_cons (sv_if (tv_pw (tv_and (tv_cmp ov_gt (ev_var 2 rfl (.inl v_24_2) nd_53.1 nd_53.2) (ev_int)) (tv_and1 (tv_cmp (ov_eq xo.hu) (ev_call (IH 14) (xo.hr.mono (Nat.le_succ _)) xo.tk g_24__law_next T.g14 T.F14.kp T.b14 (av_cons (ev_var 4 rfl (.inl v_24_4) nd_28.1 nd_28.2) (av_cons (ev_int) (av_nil))) nd_46.1) (ev_int))))) (sv_one (sv_set 7 (ev_call (IH 14) (xo.hr.mono (Nat.le_succ _)) xo.tk g_24__law_next T.g14 T.F14.kp T.b14 (av_cons (ev_var 4 rfl (.inl v_24_4) nd_28.1 nd_28.2) (av_cons (ev_var 2 rfl (.inl v_24_2) nd_53.1 nd_53.2) (av_nil))) nd_46.1) sc_24.nd rfl (.inl v_24_7) (hf := .inr v_24_7))) (sv_nil))
    (sv_cons (sv_set 8 (ev_call (IH 14) (xo.hr.mono (Nat.le_succ _)) xo.tk g_24__law_next T.g14 T.F14.kp T.b14 (av_cons (ev_var 4 rfl (.inl v_24_4) nd_28.1 nd_28.2) (av_cons (ev_int) (av_nil))) nd_46.1) sc_24.nd rfl (.inl v_24_8) (hf := .inr v_24_8))
    (sv_cons (sv_if (tv_pw (tv_and (tv_cmp ov_lt (ev_var 1 rfl (.inl v_24_1) nd_27.1 nd_27.2) (ev_int)) (tv_and1 (tv_cmp (ov_eq xo.hu) (ev_var 8 rfl (.inl v_24_8) nd_60.1 nd_60.2) (ev_int))))) (sv_one (sv_ret (ev_tup (av_cons (ev_str) (av_cons (ev_var 6 rfl (.inl v_24_6) nd_48.1 nd_48.2) (av_nil)))))) (sv_nil))
    (sv_cons (sv_if (tv_cmp ov_lt (ev_var 1 rfl (.inl v_24_1) nd_27.1 nd_27.2) (ev_int)) (sv_one (sv_ret (ev_tup (av_cons (ev_str) (av_cons (ev_var 7 rfl (.inl v_24_7) nd_47.1 nd_47.2) (av_nil)))))) (sv_nil))
    (sv_cons (sv_if (tv_pw (tv_or (tv_cmp (ov_eq xo.hu) (ev_var 1 rfl (.inl v_24_1) nd_27.1 nd_27.2) (ev_int)) (tv_or1 (tv_cmp ov_lt (ev_var 8 rfl (.inl v_24_8) nd_60.1 nd_60.2) (ev_int))))) (sv_one (sv_ret (ev_call (IH 22) (xo.hr.mono (Nat.le_succ _)) xo.tk g_24__law_free_one T.g22 T.F22.kp T.b22 (av_cons (ev_var 0 rfl (.inl v_24_0) nd_52.1 nd_52.2) (av_cons (ev_bin ov_sub (ev_var 1 rfl (.inl v_24_1) nd_27.1 nd_27.2) (ev_int)) (av_cons (ev_var 2 rfl (.inl v_24_2) nd_53.1 nd_53.2) (av_cons (ev_var 3 rfl (.inl v_24_3) nd_45.1 nd_45.2) (av_cons (ev_var 6 rfl (.inl v_24_6) nd_48.1 nd_48.2) (av_cons (ev_var 7 rfl (.inl v_24_7) nd_47.1 nd_47.2) (av_cons (ev_bin ov_mod (ev_ty ov_intc g_24_int T.z_int (by decide +kernel) (av_cons (ev_var 8 rfl (.inl v_24_8) nd_60.1 nd_60.2) (av_nil))) (ev_int)) (av_nil)))))))) nd_62.1))) (sv_nil))
    (sv_one (sv_ret (ev_call (IH 23) (xo.hr.mono (Nat.le_succ _)) xo.tk g_24__law_free_two T.g23 T.F23.kp T.b23 (av_cons (ev_var 0 rfl (.inl v_24_0) nd_52.1 nd_52.2) (av_cons (ev_bin ov_sub (ev_var 1 rfl (.inl v_24_1) nd_27.1 nd_27.2) (ev_int)) (av_cons (ev_var 2 rfl (.inl v_24_2) nd_53.1 nd_53.2) (av_cons (ev_var 3 rfl (.inl v_24_3) nd_45.1 nd_45.2) (av_cons (ev_var 6 rfl (.inl v_24_6) nd_48.1 nd_48.2) (av_cons (ev_var 7 rfl (.inl v_24_7) nd_47.1 nd_47.2) (av_cons (ev_bin ov_mod (ev_ty ov_intc g_24_int T.z_int (by decide +kernel) (av_cons (ev_var 8 rfl (.inl v_24_8) nd_60.1 nd_60.2) (av_nil))) (ev_int)) (av_nil)))))))) nd_61.1)))))))))))
theorem ok_25 {k : Nat} (T : Txt w K mg cl fa fd) (IH : IHt P w K mg base cl fa fd k) : FnOk P w K mg base (L2N.CX P w) (2 * k + 3 + 1) (fa 25) (fd 25) ["_law_row_here", "_law_product", "_law_days", "_law_plain"] (SpR K cl (runF 4 7 (B25 (tb k)))) :=
  fn_ok T.F25 sc_25 rfl rfl fun cdv A outer s H E xo =>
    sv_cons (sv_setLc 4 fi_finK xo.calm sc_25.nd (blkOk_by (N := ["_law_row_here", "_law_product", "_law_days", "_law_plain", "_law_found", "_law_premise", "_law_mode_here"]) (sc := defScope (top 22)) (own := [("_law_premise", 5)]) (by decide +kernel)) rfl (ev_call (IH 17) (xo.hr.mono (Nat.le_succ _)) xo.tk g_25__law_parts T.g17 T.F17.kp T.b17 (av_cons (ev_var 0 rfl (.inl v_25_0) nd_65.1 nd_65.2) (av_nil)) nd_39.1) rfl v_25_4 (sw_true rfl v_25_4 rfl (by decide +kernel)) (fun _ _ _ _ _ => gw_name 5 sc_25.nd rfl (blk_loc (by decide +kernel))) (fun _ _ _ _ _ => ptv_nil) (fun _ _ _ _ _ => ev_tup (av_cons (ev_var 5 rfl (.inl (blk_loc (by decide +kernel))) nd_66.1 nd_66.2) (av_cons (ev_var 1 rfl (blk_vis (by decide +kernel)) nd_63.1 nd_63.2) (av_cons (ev_var 2 rfl (blk_vis (by decide +kernel)) nd_64.1 nd_64.2) (av_cons (ev_var 3 rfl (blk_vis (by decide +kernel)) nd_67.1 nd_67.2) (av_nil)))))))
    (sv_cons (sv_set 6 (ev_str) sc_25.nd rfl (.inl v_25_6) (hf := .inr v_25_6))
    (sv_cons (sv_if (tv_cmp (ov_eq xo.hu) (ev_ix xo.hu1 (ev_var 0 rfl (.inl v_25_0) nd_65.1 nd_65.2) (ev_int)) (ev_str)) (sv_one (sv_set 6 (ev_ix xo.hu1 (ev_var 0 rfl (.inl v_25_0) nd_65.1 nd_65.2) (ev_int)) sc_25.nd rfl (.inl v_25_6) (hf := .inr v_25_6))) (sv_nil))
    (sv_cons (sv_if (tv_cmp (ov_eq xo.hu) (ev_ix xo.hu1 (ev_var 0 rfl (.inl v_25_0) nd_65.1 nd_65.2) (ev_int)) (ev_str)) (sv_one (sv_set 6 (ev_ix xo.hu1 (ev_var 0 rfl (.inl v_25_0) nd_65.1 nd_65.2) (ev_int)) sc_25.nd rfl (.inl v_25_6) (hf := .inr v_25_6))) (sv_nil))
    (sv_cons (sv_if (tv_cmp (ov_ne xo.hu) (ev_var 6 rfl (.inl v_25_6) nd_44.1 nd_44.2) (ev_str)) (sv_one (sv_sub xo.hu1 (ev_var 4 rfl (.inl v_25_4) nd_35.1 nd_35.2) (ev_int) (ev_tup (av_cons (ev_ix xo.hu1 (ev_ix xo.hu1 (ev_var 4 rfl (.inl v_25_4) nd_35.1 nd_35.2) (ev_int)) (ev_int)) (av_cons (ev_bin ov_mul (ev_var 1 rfl (.inr (.inl v_25_1)) nd_63.1 nd_63.2) (ev_ix xo.hu1 (ev_var 6 rfl (.inl v_25_6) nd_44.1 nd_44.2) (ev_int))) (av_cons (ev_bin ov_add (ev_var 2 rfl (.inr (.inl v_25_2)) nd_64.1 nd_64.2) (ev_ix xo.hu1 (ev_var 6 rfl (.inl v_25_6) nd_44.1 nd_44.2) (ev_int))) (av_cons (ev_bl) (av_nil)))))))) (sv_nil))
    (sv_one (sv_ret (ev_var 4 rfl (.inl v_25_4) nd_35.1 nd_35.2)))))))
theorem ok_26 {k : Nat} (T : Txt w K mg cl fa fd) (IH : IHt P w K mg base cl fa fd k) : FnOk P w K mg base (L2N.CX P w) (2 * k + 3 + 1) (fa 26) (fd 26) ["_law_tree", "_law_level", "_law_number"] (SpR K cl (runF 3 11 (B26 (tb k)))) :=
  fn_ok T.F26 sc_26 rfl rfl fun cdv A outer s H E xo =>
    sv_cons (sv_set 3 (ev_lstM (av_nil)) sc_26.nd rfl (.inl v_26_3) (hf := .inr v_26_3))
    (sv_cons (sv_set 4 (ev_lstM (av_cons (ev_tup (av_cons (ev_var 0 rfl (.inl v_26_0) nd_33.1 nd_33.2) (av_cons (ev_int) (av_cons (ev_int) (av_cons (ev_bl) (av_nil)))))) (av_nil))) sc_26.nd rfl (.inl v_26_4) (hf := .inr v_26_4))
    (sv_cons (sv_forR1 xo.hp xo.calm g_26_range T.z_range (av_cons (ev_int) (av_nil)) (gv_name 5 sc_26.nd rfl (.inl v_26_5) (hf := .inr v_26_5)) (sv_cons (sv_if (tv_not (tv_truth (ev_var 4 rfl (.inl v_26_4) nd_69.1 nd_69.2))) (sv_one (sv_break)) (sv_nil))
    (sv_cons (sv_asg (ev_mut0 PySem.F.slot_list_pop PySem.F.type_list_pop ov_pop (ev_var 4 rfl (.inl v_26_4) nd_69.1 nd_69.2)) (gv_tup xo.calm (gvs_cons (gv_name 6 sc_26.nd rfl (.inl v_26_6) (hf := .inr v_26_6)) (gvs_cons (gv_name 7 sc_26.nd rfl (.inl v_26_7) (hf := .inr v_26_7)) (gvs_cons (gv_name 8 sc_26.nd rfl (.inl v_26_8) (hf := .inr v_26_8)) (gvs_cons (gv_name 9 sc_26.nd rfl (.inl v_26_9) (hf := .inr v_26_9)) (gvs_nil)))))))
    (sv_cons (sv_if (tv_pw (tv_and (tv_cmp (ov_in xo.hu) (ev_ix xo.hu1 (ev_var 6 rfl (.inl v_26_6) nd_65.1 nd_65.2) (ev_int)) (ev_tup (av_cons (ev_str) (av_cons (ev_str) (av_cons (ev_str) (av_cons (ev_str) (av_nil))))))) (tv_and1 (tv_pw (tv_or (tv_val (ev_isi (noOwn fun _ => rfl) g_26_isinstance T.z_isinstance (ev_ix xo.hu1 (ev_var 6 rfl (.inl v_26_6) nd_65.1 nd_65.2) (ev_int)) g_26_str T.z_str (by decide +kernel) an_str)) (tv_or1 (tv_cmp ov_lt (ev_ix xo.hu1 (ev_var 6 rfl (.inl v_26_6) nd_65.1 nd_65.2) (ev_int)) (ev_var 1 rfl (.inl v_26_1) nd_53.1 nd_53.2)))))))) (sv_one (sv_expr (ev_mut PySem.F.slot_list_append PySem.F.type_list_append ov_append (ev_var 3 rfl (.inl v_26_3) nd_68.1 nd_68.2) (av_cons (ev_tup (av_cons (ev_ix xo.hu1 (ev_var 6 rfl (.inl v_26_6) nd_65.1 nd_65.2) (ev_int)) (av_cons (ev_var 7 rfl (.inl v_26_7) nd_63.1 nd_63.2) (av_cons (ev_var 8 rfl (.inl v_26_8) nd_64.1 nd_64.2) (av_cons (ev_var 9 rfl (.inl v_26_9) nd_67.1 nd_67.2) (av_nil)))))) (av_nil))))) (sv_nil))
    (sv_cons (sv_set 10 (ev_call (IH 25) (xo.hr.mono (Nat.le_succ _)) xo.tk g_26__law_above T.g25 T.F25.kp T.b25 (av_cons (ev_var 6 rfl (.inl v_26_6) nd_65.1 nd_65.2) (av_cons (ev_var 7 rfl (.inl v_26_7) nd_63.1 nd_63.2) (av_cons (ev_var 8 rfl (.inl v_26_8) nd_64.1 nd_64.2) (av_cons (ev_var 9 rfl (.inl v_26_9) nd_67.1 nd_67.2) (av_nil))))) nd_72.1) sc_26.nd rfl (.inl v_26_10) (hf := .inr v_26_10))
    (sv_cons (sv_if (tv_pw (tv_and (tv_cmp (ov_eq xo.hu) (ev_ix xo.hu1 (ev_var 6 rfl (.inl v_26_6) nd_65.1 nd_65.2) (ev_int)) (ev_str)) (tv_and1 (tv_cmp ov_ge (ev_var 2 rfl (.inl v_26_2) nd_71.1 nd_71.2) (ev_int))))) (sv_cons (sv_set 10 (ev_lst (av_cons (ev_ix xo.hu1 (ev_var 10 rfl (.inl v_26_10) nd_70.1 nd_70.2) (ev_bin ov_mod (ev_ty ov_intc g_26_int T.z_int (by decide +kernel) (av_cons (ev_var 2 rfl (.inl v_26_2) nd_71.1 nd_71.2) (av_nil))) (ev_int))) (av_nil))) sc_26.nd rfl (.inl v_26_10) (hf := .inr v_26_10))
    (sv_one (sv_set 2 (ev_bin ov_div (ev_var 2 rfl (.inl v_26_2) nd_71.1 nd_71.2) (ev_int)) sc_26.nd rfl (.inl v_26_2) (hf := .inr v_26_2)))) (sv_nil))
    (sv_one (sv_set 4 (ev_catM (ev_var 4 rfl (.inl v_26_4) nd_69.1 nd_69.2) (ev_var 10 rfl (.inl v_26_10) nd_70.1 nd_70.2)) sc_26.nd rfl (.inl v_26_4) (hf := .inr v_26_4)))))))))
    (sv_one (sv_ret (ev_var 3 rfl (.inl v_26_3) nd_68.1 nd_68.2)))))
theorem ok_27 {k : Nat} (T : Txt w K mg cl fa fd) (IH : IHt P w K mg base cl fa fd k) : FnOk P w K mg base (L2N.CX P w) (2 * k + 3 + 1) (fa 27) (fd 27) ["_law_tree", "_law_level"] (SpR K cl (runF 2 12 (B27 (tb k)))) :=
  fn_ok T.F27 sc_27 rfl rfl fun cdv A outer s H E xo =>
    sv_cons (sv_set 2 (ev_dic0M) sc_27.nd rfl (.inl v_27_2) (hf := .inr v_27_2))
    (sv_cons (sv_for xo.hp xo.calm (ev_call (IH 26) (xo.hr.mono (Nat.le_succ _)) xo.tk g_27__law_uses T.g26 T.F26.kp T.b26 (av_cons (ev_var 0 rfl (.inl v_27_0) nd_33.1 nd_33.2) (av_cons (ev_var 1 rfl (.inl v_27_1) nd_53.1 nd_53.2) (av_cons (ev_neg (ev_int)) (av_nil)))) nd_77.1) (gv_name 3 sc_27.nd rfl (.inl v_27_3) (hf := .inr v_27_3)) (sv_cons (sv_set 4 (ev_get xo.hu1 (ev_var 2 rfl (.inl v_27_2) nd_41.1 nd_41.2) (ev_ix xo.hu1 (ev_var 3 rfl (.inl v_27_3) nd_76.1 nd_76.2) (ev_int)) (ev_tup (av_cons (ev_int) (av_cons (ev_int) (av_cons (ev_int) (av_nil)))))) sc_27.nd rfl (.inl v_27_4) (hf := .inr v_27_4))
    (sv_one (sv_sub xo.hu1 (ev_var 2 rfl (.inl v_27_2) nd_41.1 nd_41.2) (ev_ix xo.hu1 (ev_var 3 rfl (.inl v_27_3) nd_76.1 nd_76.2) (ev_int)) (ev_tup (av_cons (ev_ix xo.hu1 (ev_var 4 rfl (.inl v_27_4) nd_73.1 nd_73.2) (ev_int)) (av_cons (ev_ix xo.hu1 (ev_var 4 rfl (.inl v_27_4) nd_73.1 nd_73.2) (ev_int)) (av_cons (ev_bi (ov_max xo.calm) g_27_max T.z_max (by decide +kernel) (av_cons (ev_ix xo.hu1 (ev_var 4 rfl (.inl v_27_4) nd_73.1 nd_73.2) (ev_int)) (av_cons (ev_ix xo.hu1 (ev_var 3 rfl (.inl v_27_3) nd_76.1 nd_76.2) (ev_int)) (av_nil)))) (av_nil)))))))))
    (sv_cons (sv_set 5 (ev_int) sc_27.nd rfl (.inl v_27_5) (hf := .inr v_27_5))
    (sv_cons (sv_for xo.hp xo.calm (ev_call (IH 18) (xo.hr.mono (Nat.le_succ _)) xo.tk g_27__law_paths T.g18 T.F18.kp T.b18 (av_cons (ev_var 0 rfl (.inl v_27_0) nd_33.1 nd_33.2) (av_cons (ev_tup (av_nil)) (av_nil))) nd_38.1) (gv_name 6 sc_27.nd rfl (.inl v_27_6) (hf := .inr v_27_6)) (sv_one (sv_if (tv_cmp (ov_eq xo.hu) (ev_ix xo.hu1 (ev_call (IH 19) (xo.hr.mono (Nat.le_succ _)) xo.tk g_27__law_at T.g19 T.F19.kp T.b19 (av_cons (ev_var 0 rfl (.inl v_27_0) nd_33.1 nd_33.2) (av_cons (ev_var 6 rfl (.inl v_27_6) nd_37.1 nd_37.2) (av_nil))) nd_79.1) (ev_int)) (ev_str)) (sv_one (sv_set 5 (ev_bin ov_mul (ev_var 5 rfl (.inl v_27_5) nd_78.1 nd_78.2) (ev_int)) sc_27.nd rfl (.inl v_27_5) (hf := .inr v_27_5))) (sv_nil))))
    (sv_cons (sv_forR1 xo.hp xo.calm g_27_range T.z_range (av_cons (ev_var 5 rfl (.inl v_27_5) nd_78.1 nd_78.2) (av_nil)) (gv_name 7 sc_27.nd rfl (.inl v_27_7) (hf := .inr v_27_7)) (sv_cons (sv_set 8 (ev_call (IH 26) (xo.hr.mono (Nat.le_succ _)) xo.tk g_27__law_uses T.g26 T.F26.kp T.b26 (av_cons (ev_var 0 rfl (.inl v_27_0) nd_33.1 nd_33.2) (av_cons (ev_var 1 rfl (.inl v_27_1) nd_53.1 nd_53.2) (av_cons (ev_var 7 rfl (.inl v_27_7) nd_71.1 nd_71.2) (av_nil)))) nd_77.1) sc_27.nd rfl (.inl v_27_8) (hf := .inr v_27_8))
    (sv_one (sv_for xo.hp xo.calm (ev_ty (ov_listD xo.calm) g_27_list T.z_list (by decide +kernel) (av_cons (ev_var 2 rfl (.inl v_27_2) nd_41.1 nd_41.2) (av_nil))) (gv_name 9 sc_27.nd rfl (.inr v_27_9) (hf := .inl rfl)) (sv_cons (sv_set 4 (ev_ix xo.hu1 (ev_var 2 rfl (.inl v_27_2) nd_41.1 nd_41.2) (ev_var 9 rfl (.inr (.inl v_27_9)) nd_47.1 nd_47.2)) sc_27.nd rfl (.inl v_27_4) (hf := .inr v_27_4))
    (sv_cons (sv_set 10 (ev_bi (ov_sum xo.calm) g_27_sum T.z_sum (by decide +kernel) (av_cons (ev_lc fi_fin xo.calm sc_27.nd (blkOk_by (N := ["_law_tree", "_law_level", "_law_due_here", "_law_use", "_law_old", "_law_total", "_law_path", "_law_number", "_law_uses_here", "_law_ref", "_law_least", "_law_most"]) (sc := defScope (top 24)) (own := [("_law_use", 3)]) (by decide +kernel)) rfl (ev_var 8 rfl (.inl v_27_8) nd_68.1 nd_68.2) (fun _ _ _ _ _ => gw_name 3 sc_27.nd rfl (blk_loc (by decide +kernel))) (fun _ _ _ _ _ => pts_one (tv_cmp (ov_eq xo.hu) (ev_ix xo.hu1 (ev_var 3 rfl (.inl (blk_loc (by decide +kernel))) nd_76.1 nd_76.2) (ev_int)) (ev_var 9 rfl (blk_vis (by decide +kernel)) nd_47.1 nd_47.2))) (fun _ _ _ _ _ => ev_ty ov_intc (blk_gl (by decide +kernel)) T.z_int (by decide +kernel) (av_cons (ev_ix xo.hu1 (ev_var 3 rfl (.inl (blk_loc (by decide +kernel))) nd_76.1 nd_76.2) (ev_int)) (av_nil)))) (av_nil))) sc_27.nd rfl (.inl v_27_10) (hf := .inr v_27_10))
    (sv_cons (sv_set 11 (ev_bi (ov_sum xo.calm) g_27_sum T.z_sum (by decide +kernel) (av_cons (ev_lc fi_fin xo.calm sc_27.nd (blkOk_by (N := ["_law_tree", "_law_level", "_law_due_here", "_law_use", "_law_old", "_law_total", "_law_path", "_law_number", "_law_uses_here", "_law_ref", "_law_least", "_law_most"]) (sc := defScope (top 24)) (own := [("_law_use", 3)]) (by decide +kernel)) rfl (ev_var 8 rfl (.inl v_27_8) nd_68.1 nd_68.2) (fun _ _ _ _ _ => gw_name 3 sc_27.nd rfl (blk_loc (by decide +kernel))) (fun _ _ _ _ _ => pts_one (tv_cmp (ov_eq xo.hu) (ev_ix xo.hu1 (ev_var 3 rfl (.inl (blk_loc (by decide +kernel))) nd_76.1 nd_76.2) (ev_int)) (ev_var 9 rfl (blk_vis (by decide +kernel)) nd_47.1 nd_47.2))) (fun _ _ _ _ _ => ev_ix xo.hu1 (ev_var 3 rfl (.inl (blk_loc (by decide +kernel))) nd_76.1 nd_76.2) (ev_int))) (av_nil))) sc_27.nd rfl (.inl v_27_11) (hf := .inr v_27_11))
    (sv_one (sv_sub xo.hu1 (ev_var 2 rfl (.inl v_27_2) nd_41.1 nd_41.2) (ev_var 9 rfl (.inr (.inl v_27_9)) nd_47.1 nd_47.2) (ev_tup (av_cons (ev_bi (ov_min xo.calm) g_27_min T.z_min (by decide +kernel) (av_cons (ev_ix xo.hu1 (ev_var 4 rfl (.inl v_27_4) nd_73.1 nd_73.2) (ev_int)) (av_cons (ev_var 10 rfl (.inl v_27_10) nd_74.1 nd_74.2) (av_nil)))) (av_cons (ev_bi (ov_max xo.calm) g_27_max T.z_max (by decide +kernel) (av_cons (ev_ix xo.hu1 (ev_var 4 rfl (.inl v_27_4) nd_73.1 nd_73.2) (ev_int)) (av_cons (ev_var 11 rfl (.inl v_27_11) nd_75.1 nd_75.2) (av_nil)))) (av_cons (ev_ix xo.hu1 (ev_var 4 rfl (.inl v_27_4) nd_73.1 nd_73.2) (ev_int)) (av_nil))))))))))))))
    (sv_one (sv_ret (ev_var 2 rfl (.inl v_27_2) nd_41.1 nd_41.2)))))))
theorem ok_28 {k : Nat} (T : Txt w K mg cl fa fd) (IH : IHt P w K mg base cl fa fd k) : FnOk P w K mg base (L2N.CX P w) (2 * k + 3 + 1) (fa 28) (fd 28) ["_law_told_here", "_law_due_here"] (SpR K cl (runF 2 4 (B28 (tb k)))) :=
  fn_ok T.F28 sc_28 rfl rfl fun cdv A outer s H E xo =>
    sv_cons (sv_if (tv_pw (tv_or (tv_not (tv_val (ev_isi (noOwn fun _ => rfl) g_28_isinstance T.z_isinstance (ev_var 0 rfl (.inl v_28_0) nd_40.1 nd_40.2) g_28_dict T.z_dict (by decide +kernel) an_dic))) (tv_or1 (tv_cmp (ov_ne xo.hu) (ev_bi ov_len g_28_len T.z_len (by decide +kernel) (av_cons (ev_var 0 rfl (.inl v_28_0) nd_40.1 nd_40.2) (av_nil))) (ev_bi ov_len g_28_len T.z_len (by decide +kernel) (av_cons (ev_var 1 rfl (.inl v_28_1) nd_41.1 nd_41.2) (av_nil))))))) (sv_one (sv_ret (ev_bl))) (sv_nil))
    (sv_cons (sv_forK 0 xo.hp xo.calm rfl (.inl v_28_0) nd_40.1 nd_40.2 (gv_name 2 sc_28.nd rfl (.inl v_28_2) (hf := .inr v_28_2)) (sv_cons (sv_if (tv_pw (tv_or (tv_pw (tv_and (tv_not (tv_val (ev_isi (noOwn fun _ => rfl) g_28_isinstance T.z_isinstance (ev_var 2 rfl (.inl v_28_2) nd_47.1 nd_47.2) g_28_str T.z_str (by decide +kernel) an_str))) (tv_and1 (tv_not (tv_val (ev_call (IH 15) (xo.hr.mono (Nat.le_succ _)) xo.tk g_28__law_is_number T.g15 T.F15.kp T.b15 (av_cons (ev_var 2 rfl (.inl v_28_2) nd_47.1 nd_47.2) (av_nil)) nd_43.1)))))) (tv_or (tv_cmp (ov_notIn xo.hu) (ev_var 2 rfl (.inl v_28_2) nd_47.1 nd_47.2) (ev_var 1 rfl (.inl v_28_1) nd_41.1 nd_41.2)) (tv_or1 (tv_not (tv_val (ev_isiC (oneOwn T.w0) g_28_isinstance T.z_isinstance (ev_ix xo.hu1 (ev_var 0 rfl (.inl v_28_0) nd_40.1 nd_40.2) (ev_var 2 rfl (.inl v_28_2) nd_47.1 nd_47.2)) g_28_Count T.gC0 (an_own T.n0) nd_5.1))))))) (sv_one (sv_ret (ev_bl))) (sv_nil))
    (sv_cons (sv_set 3 (ev_ix xo.hu1 (ev_var 0 rfl (.inl v_28_0) nd_40.1 nd_40.2) (ev_var 2 rfl (.inl v_28_2) nd_47.1 nd_47.2)) sc_28.nd rfl (.inl v_28_3) (hf := .inr v_28_3))
    (sv_one (sv_if (tv_pw (tv_or (tv_not (tv_val (ev_call (IH 20) (xo.hr.mono (Nat.le_succ _)) xo.tk g_28__law_same T.g20 T.F20.kp T.b20 (av_cons (ev_meth0 (ev_var 3 rfl (.inl v_28_3) nd_35.1 nd_35.2) T.cl0 T.m6 (IH 6) (xo.hr.mono (Nat.le_succ _)) xo.tk T.b6) (av_cons (ev_ix xo.hu1 (ev_var 1 rfl (.inl v_28_1) nd_41.1 nd_41.2) (ev_var 2 rfl (.inl v_28_2) nd_47.1 nd_47.2)) (av_nil))) nd_42.1))) (tv_or1 (tv_not (tv_val (ev_call (IH 20) (xo.hr.mono (Nat.le_succ _)) xo.tk g_28__law_same T.g20 T.F20.kp T.b20 (av_cons (ev_tup (av_cons (ev_fld T.fl_least (ev_var 3 rfl (.inl v_28_3) nd_35.1 nd_35.2)) (av_cons (ev_fld T.fl_most (ev_var 3 rfl (.inl v_28_3) nd_35.1 nd_35.2)) (av_cons (ev_fld T.fl_days (ev_var 3 rfl (.inl v_28_3) nd_35.1 nd_35.2)) (av_nil))))) (av_cons (ev_ix xo.hu1 (ev_var 1 rfl (.inl v_28_1) nd_41.1 nd_41.2) (ev_var 2 rfl (.inl v_28_2) nd_47.1 nd_47.2)) (av_nil))) nd_42.1)))))) (sv_one (sv_ret (ev_bl))) (sv_nil))))))
    (sv_one (sv_ret (ev_bl))))
theorem ok_29 {k : Nat} (T : Txt w K mg cl fa fd) (IH : IHt P w K mg base cl fa fd k) : FnOk P w K mg base (L2N.CX P w) (2 * k + 3 + 1) (fa 29) (fd 29) ["_law_script"] (SpR K cl (runF 1 7 (B29 (tb k)))) :=
  fn_ok T.F29 sc_29 rfl rfl fun cdv A outer s H E xo =>
    sv_cons (sv_set 1 (ev_callK (IH 13) (xo.hr.mono (Nat.le_succ _)) xo.tk g_29__law_pool T.g13 T.F13.kp T.b13 (av_cons (ev_var 0 rfl (.inl v_29_0) nd_23.1 nd_23.2) (av_cons (ev_int) (av_nil))) nd_82.1) sc_29.nd rfl (.inl v_29_1) (hf := .inr v_29_1))
    (sv_cons (sv_set 2 (ev_call (IH 14) (xo.hr.mono (Nat.le_succ _)) xo.tk g_29__law_next T.g14 T.F14.kp T.b14 (av_cons (ev_var 1 rfl (.inl v_29_1) nd_28.1 nd_28.2) (av_cons (ev_int) (av_nil))) nd_46.1) sc_29.nd rfl (.inl v_29_2) (hf := .inr v_29_2))
    (sv_cons (sv_set 3 (ev_bin ov_add (ev_int) (ev_call (IH 14) (xo.hr.mono (Nat.le_succ _)) xo.tk g_29__law_next T.g14 T.F14.kp T.b14 (av_cons (ev_var 1 rfl (.inl v_29_1) nd_28.1 nd_28.2) (av_cons (ev_int) (av_nil))) nd_46.1)) sc_29.nd rfl (.inl v_29_3) (hf := .inr v_29_3))
    (sv_cons (sv_if (tv_cmp (ov_eq xo.hu) (ev_call (IH 14) (xo.hr.mono (Nat.le_succ _)) xo.tk g_29__law_next T.g14 T.F14.kp T.b14 (av_cons (ev_var 1 rfl (.inl v_29_1) nd_28.1 nd_28.2) (av_cons (ev_int) (av_nil))) nd_46.1) (ev_int)) (sv_one (sv_set 3 (ev_int) sc_29.nd rfl (.inl v_29_3) (hf := .inr v_29_3))) (sv_nil))
    (sv_cons (sv_set 4 (ev_call (IH 24) (xo.hr.mono (Nat.le_succ _)) xo.tk g_29__law_free T.g24 T.F24.kp T.b24 (av_cons (ev_dsp fi_finK (pp_cons (ev_str) (ev_var 1 rfl (.inl v_29_1) nd_28.1 nd_28.2) (pp_cons (ev_str) (ev_int) (pp_nil))) (by rfl) (by rfl) (fun z => by cases z) (by decide)) (av_cons (ev_var 3 rfl (.inl v_29_3) nd_27.1 nd_27.2) (av_cons (ev_var 2 rfl (.inl v_29_2) nd_53.1 nd_53.2) (av_cons (ev_int) (av_nil))))) nd_54.1) sc_29.nd rfl (.inl v_29_4) (hf := .inr v_29_4))
    (sv_cons (sv_set 5 (ev_call (IH 27) (xo.hr.mono (Nat.le_succ _)) xo.tk g_29__law_due T.g27 T.F27.kp T.b27 (av_cons (ev_var 4 rfl (.inl v_29_4) nd_33.1 nd_33.2) (av_cons (ev_var 2 rfl (.inl v_29_2) nd_53.1 nd_53.2) (av_nil))) nd_81.1) sc_29.nd rfl (.inl v_29_5) (hf := .inr v_29_5))
    (sv_cons (sv_set 6 (ev_callK (IH 33) (xo.hr.mono (Nat.le_succ _)) xo.tk g_29_counts T.g33 T.F33.kp T.b33 (av_cons (ev_var 4 rfl (.inl v_29_4) nd_33.1 nd_33.2) (av_cons (ev_var 2 rfl (.inl v_29_2) nd_53.1 nd_53.2) (av_nil))) nd_18.1) sc_29.nd rfl (.inl v_29_6) (hf := .inr v_29_6))
    (sv_cons (sv_if (tv_not (tv_val (ev_call (IH 28) (xo.hr.mono (Nat.le_succ _)) xo.tk g_29__law_told T.g28 T.F28.kp T.b28 (av_cons (ev_var 6 rfl (.inl v_29_6) nd_40.1 nd_40.2) (av_cons (ev_var 5 rfl (.inl v_29_5) nd_41.1 nd_41.2) (av_nil))) nd_80.1))) (sv_one (sv_ret (ev_bl))) (sv_nil))
    (sv_cons (sv_expr (ev_clr (ev_var 6 rfl (.inl v_29_6) nd_40.1 nd_40.2)))
    (sv_cons (sv_sub xo.hu1 (ev_var 6 rfl (.inl v_29_6) nd_40.1 nd_40.2) (ev_str) (ev_make T.M0 (IH 1) xo.hr xo.tk g_29_Count T.gC0 T.b1 (av_cons (ev_int) (av_cons (ev_int) (av_cons (ev_int) (av_nil)))) nd_5.1))
    (sv_cons (sv_if (tv_not (tv_val (ev_call (IH 28) (xo.hr.mono (Nat.le_succ _)) xo.tk g_29__law_told T.g28 T.F28.kp T.b28 (av_cons (ev_callK (IH 33) (xo.hr.mono (Nat.le_succ _)) xo.tk g_29_counts T.g33 T.F33.kp T.b33 (av_cons (ev_var 4 rfl (.inl v_29_4) nd_33.1 nd_33.2) (av_cons (ev_var 2 rfl (.inl v_29_2) nd_53.1 nd_53.2) (av_nil))) nd_18.1) (av_cons (ev_var 5 rfl (.inl v_29_5) nd_41.1 nd_41.2) (av_nil))) nd_80.1))) (sv_one (sv_ret (ev_bl))) (sv_nil))
    (sv_one (sv_ret (ev_or (ev_cmp ov_gt (ev_var 2 rfl (.inl v_29_2) nd_53.1 nd_53.2) (ev_int)) (ev_one (ev_call (IH 28) (xo.hr.mono (Nat.le_succ _)) xo.tk g_29__law_told T.g28 T.F28.kp T.b28 (av_cons (ev_callDK (IH 33) (xo.hr.mono (Nat.le_succ _)) xo.tk g_29_counts T.g33 T.F33.kp T.bd33_1 (by decide +kernel) (av_cons (ev_var 4 rfl (.inl v_29_4) nd_33.1 nd_33.2) (av_nil)) nd_18.1) (av_cons (ev_var 5 rfl (.inl v_29_5) nd_41.1 nd_41.2) (av_nil))) nd_80.1)))))))))))))))
theorem ok_30 {k : Nat} (T : Txt w K mg cl fa fd) (IH : IHt P w K mg base cl fa fd k) : FnOk P w K mg base (L2N.CX P w) (2 * k + 3 + 1) (fa 30) (fd 30) ["first", "second"] (SpR K cl (runF 2 4 (B30 (tb k)))) :=
  fn_ok T.F30 sc_30 rfl rfl fun cdv A outer s H E xo =>
    sv_cons (sv_set 2 (ev_dic0M) sc_30.nd rfl (.inl v_30_2) (hf := .inr v_30_2))
    (sv_cons (sv_for xo.hp xo.calm (ev_var 0 rfl (.inl v_30_0) nd_11.1 nd_11.2) (gv_name 3 sc_30.nd rfl (.inl v_30_3) (hf := .inr v_30_3)) (sv_one (sv_sub xo.hu1 (ev_var 2 rfl (.inl v_30_2) nd_8.1 nd_8.2) (ev_var 3 rfl (.inl v_30_3) nd_9.1 nd_9.2) (ev_ix xo.hu1 (ev_var 0 rfl (.inl v_30_0) nd_11.1 nd_11.2) (ev_var 3 rfl (.inl v_30_3) nd_9.1 nd_9.2)))))
    (sv_cons (sv_for xo.hp xo.calm (ev_var 1 rfl (.inl v_30_1) nd_10.1 nd_10.2) (gv_name 3 sc_30.nd rfl (.inl v_30_3) (hf := .inr v_30_3)) (sv_one (sv_if (tv_cmp (ov_in xo.hu) (ev_var 3 rfl (.inl v_30_3) nd_9.1 nd_9.2) (ev_var 2 rfl (.inl v_30_2) nd_8.1 nd_8.2)) (sv_one (sv_sub xo.hu1 (ev_var 2 rfl (.inl v_30_2) nd_8.1 nd_8.2) (ev_var 3 rfl (.inl v_30_3) nd_9.1 nd_9.2) (ev_own T.o0_Add (IH 2) (xo.hr.mono (Nat.le_succ _)) xo.tk T.b2 ov_add (ev_ix xo.hu1 (ev_var 2 rfl (.inl v_30_2) nd_8.1 nd_8.2) (ev_var 3 rfl (.inl v_30_3) nd_9.1 nd_9.2)) (ev_ix xo.hu1 (ev_var 1 rfl (.inl v_30_1) nd_10.1 nd_10.2) (ev_var 3 rfl (.inl v_30_3) nd_9.1 nd_9.2))))) (sv_one (sv_sub xo.hu1 (ev_var 2 rfl (.inl v_30_2) nd_8.1 nd_8.2) (ev_var 3 rfl (.inl v_30_3) nd_9.1 nd_9.2) (ev_ix xo.hu1 (ev_var 1 rfl (.inl v_30_1) nd_10.1 nd_10.2) (ev_var 3 rfl (.inl v_30_3) nd_9.1 nd_9.2)))))))
    (sv_one (sv_ret (ev_var 2 rfl (.inl v_30_2) nd_8.1 nd_8.2)))))
theorem ok_31 {k : Nat} (T : Txt w K mg cl fa fd) (IH : IHt P w K mg base cl fa fd k) : FnOk P w K mg base (L2N.CX P w) (2 * k + 3 + 1) (fa 31) (fd 31) ["first", "second"] (SpR K cl (runF 2 4 (B31 (tb k)))) :=
  fn_ok T.F31 sc_31 rfl rfl fun cdv A outer s H E xo =>
    sv_cons (sv_set 2 (ev_dic0M) sc_31.nd rfl (.inl v_31_2) (hf := .inr v_31_2))
    (sv_cons (sv_for xo.hp xo.calm (ev_var 0 rfl (.inl v_31_0) nd_11.1 nd_11.2) (gv_name 3 sc_31.nd rfl (.inl v_31_3) (hf := .inr v_31_3)) (sv_one (sv_sub xo.hu1 (ev_var 2 rfl (.inl v_31_2) nd_8.1 nd_8.2) (ev_var 3 rfl (.inl v_31_3) nd_9.1 nd_9.2) (ev_own T.o0_BitOr (IH 3) (xo.hr.mono (Nat.le_succ _)) xo.tk T.b3 ov_bor (ev_ix xo.hu1 (ev_var 0 rfl (.inl v_31_0) nd_11.1 nd_11.2) (ev_var 3 rfl (.inl v_31_3) nd_9.1 nd_9.2)) (ev_get xo.hu1 (ev_var 1 rfl (.inl v_31_1) nd_10.1 nd_10.2) (ev_var 3 rfl (.inl v_31_3) nd_9.1 nd_9.2) (ev_make T.M0 (IH 1) xo.hr xo.tk g_31_Count T.gC0 T.b1 (av_cons (ev_int) (av_cons (ev_int) (av_cons (ev_int) (av_nil)))) nd_5.1))))))
    (sv_cons (sv_for xo.hp xo.calm (ev_var 1 rfl (.inl v_31_1) nd_10.1 nd_10.2) (gv_name 3 sc_31.nd rfl (.inl v_31_3) (hf := .inr v_31_3)) (sv_one (sv_if (tv_cmp (ov_notIn xo.hu) (ev_var 3 rfl (.inl v_31_3) nd_9.1 nd_9.2) (ev_var 0 rfl (.inl v_31_0) nd_11.1 nd_11.2)) (sv_one (sv_sub xo.hu1 (ev_var 2 rfl (.inl v_31_2) nd_8.1 nd_8.2) (ev_var 3 rfl (.inl v_31_3) nd_9.1 nd_9.2) (ev_own T.o0_BitOr (IH 3) (xo.hr.mono (Nat.le_succ _)) xo.tk T.b3 ov_bor (ev_ix xo.hu1 (ev_var 1 rfl (.inl v_31_1) nd_10.1 nd_10.2) (ev_var 3 rfl (.inl v_31_3) nd_9.1 nd_9.2)) (ev_make T.M0 (IH 1) xo.hr xo.tk g_31_Count T.gC0 T.b1 (av_cons (ev_int) (av_cons (ev_int) (av_cons (ev_int) (av_nil)))) nd_5.1)))) (sv_nil))))
    (sv_one (sv_ret (ev_var 2 rfl (.inl v_31_2) nd_8.1 nd_8.2)))))
theorem ok_32 {k : Nat} (T : Txt w K mg cl fa fd) (IH : IHt P w K mg base cl fa fd k) : FnOk P w K mg base (L2N.CX P w) (2 * k + 3 + 1) (fa 32) (fd 32) ["found", "ref"] (SpR K cl (runF 2 3 (B32 (tb k)))) :=
  fn_ok T.F32 sc_32 rfl rfl fun cdv A outer s H E xo =>
    sv_one (sv_ret (ev_dc fi_finK xo.calm sc_32.nd (blkOk_by (N := ["found", "ref", "other"]) (sc := defScope (top 6)) (own := [("other", 2)]) (by decide +kernel)) rfl (ev_var 0 rfl (.inr (.inl v_32_0)) nd_12.1 nd_12.2) (fun _ _ _ _ _ => gw_name 2 sc_32.nd rfl (blk_loc (by decide +kernel))) (fun _ _ _ _ _ => pts_one (tv_cmp (ov_ne xo.hu) (ev_var 2 rfl (.inl (blk_loc (by decide +kernel))) nd_4.1 nd_4.2) (ev_var 1 rfl (blk_vis (by decide +kernel)) nd_9.1 nd_9.2))) (fun _ _ _ _ _ => ev_var 2 rfl (.inl (blk_loc (by decide +kernel))) nd_4.1 nd_4.2) (fun _ _ _ _ _ => ev_ix xo.hu1 (ev_var 0 rfl (blk_vis (by decide +kernel)) nd_12.1 nd_12.2) (ev_var 2 rfl (.inl (blk_loc (by decide +kernel))) nd_4.1 nd_4.2))))
theorem ok_33 {k : Nat} (T : Txt w K mg cl fa fd) (IH : IHt P w K mg base cl fa fd k) : FnOk P w K mg base (L2N.CX P w) (2 * k + 3 + 1) (fa 33) (fd 33) ["derivation", "level"] (SpR K cl (runF 2 5 (B33 (tb k)))) :=
  fn_okE T.F33 sc_33 rfl rfl fun cdv A outer s H E xo =>
    sv_cons (sv_set 2 (ev_ix xo.hu1 (ev_var 0 rfl (.inl v_33_0) nd_16.1 nd_16.2) (ev_int)) sc_33.nd rfl (.inl v_33_2) (hf := .inr v_33_2))
    (sv_cons (sv_if (tv_cmp (ov_eq xo.hu) (ev_var 2 rfl (.inl v_33_2) nd_15.1 nd_15.2) (ev_str)) (sv_one (sv_ret (ev_dsp fi_finK (pp_cons (ev_ix xo.hu1 (ev_var 0 rfl (.inl v_33_0) nd_16.1 nd_16.2) (ev_int)) (ev_make T.M0 (IH 1) xo.hr xo.tk g_33_Count T.gC0 T.b1 (av_cons (ev_int) (av_cons (ev_int) (av_cons (ev_int) (av_nil)))) nd_5.1) (pp_nil)) (by rfl) (by rfl) (fun z => by cases z) (by decide)))) (sv_nil))
    (sv_cons (sv_if (tv_cmp (ov_eq xo.hu) (ev_var 2 rfl (.inl v_33_2) nd_15.1 nd_15.2) (ev_str)) (sv_one (sv_ret (ev_dic0M))) (sv_nil))
    (sv_cons (sv_if (tv_cmp (ov_eq xo.hu) (ev_var 2 rfl (.inl v_33_2) nd_15.1 nd_15.2) (ev_str)) (sv_one (sv_ret (ev_callK (IH 32) (xo.hr.mono (Nat.le_succ _)) xo.tk g_33_without T.g32 T.F32.kp T.b32 (av_cons (ev_call (IH 11) (xo.hr.mono (Nat.le_succ _)) xo.tk g_33_counts T.g11 T.F11.kp T.b11 (av_cons (ev_ix xo.hu1 (ev_var 0 rfl (.inl v_33_0) nd_16.1 nd_16.2) (ev_int)) (av_cons (ev_bin ov_add (ev_var 1 rfl (.inl v_33_1) nd_17.1 nd_17.2) (ev_int)) (av_nil))) nd_18.1) (av_cons (ev_var 1 rfl (.inl v_33_1) nd_17.1 nd_17.2) (av_nil))) nd_20.1))) (sv_nil))
    (sv_cons (sv_if (tv_cmp (ov_eq xo.hu) (ev_var 2 rfl (.inl v_33_2) nd_15.1 nd_15.2) (ev_str)) (sv_one (sv_ret (ev_callK (IH 33) (xo.hr.mono (Nat.le_succ _)) xo.tk g_33_counts T.g33 T.F33.kp T.b33 (av_cons (ev_ix xo.hu1 (ev_var 0 rfl (.inl v_33_0) nd_16.1 nd_16.2) (ev_int)) (av_cons (ev_var 1 rfl (.inl v_33_1) nd_17.1 nd_17.2) (av_nil))) nd_18.1))) (sv_nil))
    (sv_cons (sv_if (tv_cmp (ov_eq xo.hu) (ev_var 2 rfl (.inl v_33_2) nd_15.1 nd_15.2) (ev_str)) (sv_one (sv_ret (ev_callK (IH 31) (xo.hr.mono (Nat.le_succ _)) xo.tk g_33_either T.g31 T.F31.kp T.b31 (av_cons (ev_call (IH 11) (xo.hr.mono (Nat.le_succ _)) xo.tk g_33_counts T.g11 T.F11.kp T.b11 (av_cons (ev_ix xo.hu1 (ev_var 0 rfl (.inl v_33_0) nd_16.1 nd_16.2) (ev_int)) (av_cons (ev_var 1 rfl (.inl v_33_1) nd_17.1 nd_17.2) (av_nil))) nd_18.1) (av_cons (ev_call (IH 11) (xo.hr.mono (Nat.le_succ _)) xo.tk g_33_counts T.g11 T.F11.kp T.b11 (av_cons (ev_ix xo.hu1 (ev_var 0 rfl (.inl v_33_0) nd_16.1 nd_16.2) (ev_int)) (av_cons (ev_var 1 rfl (.inl v_33_1) nd_17.1 nd_17.2) (av_nil))) nd_18.1) (av_nil))) nd_21.1))) (sv_nil))
    (sv_cons (sv_set 3 (ev_call (IH 10) (xo.hr.mono (Nat.le_succ _)) xo.tk g_33_without T.g10 T.F10.kp T.b10 (av_cons (ev_call (IH 11) (xo.hr.mono (Nat.le_succ _)) xo.tk g_33_counts T.g11 T.F11.kp T.b11 (av_cons (ev_ix xo.hu1 (ev_var 0 rfl (.inl v_33_0) nd_16.1 nd_16.2) (ev_bin ov_sub (ev_bi ov_len g_33_len T.z_len (by decide +kernel) (av_cons (ev_var 0 rfl (.inl v_33_0) nd_16.1 nd_16.2) (av_nil))) (ev_int))) (av_cons (ev_bin ov_add (ev_var 1 rfl (.inl v_33_1) nd_17.1 nd_17.2) (ev_int)) (av_nil))) nd_18.1) (av_cons (ev_var 1 rfl (.inl v_33_1) nd_17.1 nd_17.2) (av_nil))) nd_20.1) sc_33.nd rfl (.inl v_33_3) (hf := .inr v_33_3))
    (sv_cons (sv_if (tv_cmp (ov_eq xo.hu) (ev_var 2 rfl (.inl v_33_2) nd_15.1 nd_15.2) (ev_str)) (sv_one (sv_ret (ev_callK (IH 30) (xo.hr.mono (Nat.le_succ _)) xo.tk g_33_added T.g30 T.F30.kp T.b30 (av_cons (ev_call (IH 9) (xo.hr.mono (Nat.le_succ _)) xo.tk g_33_boxed_counts T.g9 T.F9.kp T.b9 (av_cons (ev_call (IH 11) (xo.hr.mono (Nat.le_succ _)) xo.tk g_33_counts T.g11 T.F11.kp T.b11 (av_cons (ev_ix xo.hu1 (ev_var 0 rfl (.inl v_33_0) nd_16.1 nd_16.2) (ev_int)) (av_cons (ev_var 1 rfl (.inl v_33_1) nd_17.1 nd_17.2) (av_nil))) nd_18.1) (av_cons (ev_ix xo.hu1 (ev_var 0 rfl (.inl v_33_0) nd_16.1 nd_16.2) (ev_int)) (av_nil))) nd_19.1) (av_cons (ev_var 3 rfl (.inl v_33_3) nd_13.1 nd_13.2) (av_nil))) nd_14.1))) (sv_nil))
    (sv_cons (sv_set 4 (ev_dsp fi_fin (pp_cons (ev_ix xo.hu1 (ev_var 0 rfl (.inl v_33_0) nd_16.1 nd_16.2) (ev_int)) (ev_make T.M0 (IH 1) xo.hr xo.tk g_33_Count T.gC0 T.b1 (av_cons (ev_int) (av_cons (ev_int) (av_cons (ev_int) (av_nil)))) nd_5.1) (pp_nil)) (by rfl) (by rfl) (fun z => by cases z) (by decide)) sc_33.nd rfl (.inl v_33_4) (hf := .inr v_33_4))
    (sv_cons (sv_if (tv_cmp (ov_eq xo.hu) (ev_var 2 rfl (.inl v_33_2) nd_15.1 nd_15.2) (ev_str)) (sv_one (sv_set 4 (ev_call (IH 7) (xo.hr.mono (Nat.le_succ _)) xo.tk g_33_added T.g7 T.F7.kp T.b7 (av_cons (ev_var 4 rfl (.inl v_33_4) nd_12.1 nd_12.2) (av_cons (ev_call (IH 9) (xo.hr.mono (Nat.le_succ _)) xo.tk g_33_boxed_counts T.g9 T.F9.kp T.b9 (av_cons (ev_call (IH 11) (xo.hr.mono (Nat.le_succ _)) xo.tk g_33_counts T.g11 T.F11.kp T.b11 (av_cons (ev_ix xo.hu1 (ev_var 0 rfl (.inl v_33_0) nd_16.1 nd_16.2) (ev_int)) (av_cons (ev_var 1 rfl (.inl v_33_1) nd_17.1 nd_17.2) (av_nil))) nd_18.1) (av_cons (ev_ix xo.hu1 (ev_var 0 rfl (.inl v_33_0) nd_16.1 nd_16.2) (ev_int)) (av_nil))) nd_19.1) (av_nil))) nd_14.1) sc_33.nd rfl (.inl v_33_4) (hf := .inr v_33_4))) (sv_nil))
    (sv_one (sv_ret (ev_callK (IH 30) (xo.hr.mono (Nat.le_succ _)) xo.tk g_33_added T.g30 T.F30.kp T.b30 (av_cons (ev_var 4 rfl (.inl v_33_4) nd_12.1 nd_12.2) (av_cons (ev_var 3 rfl (.inl v_33_3) nd_13.1 nd_13.2) (av_nil))) nd_14.1))))))))))))
theorem all_ok (T : Txt w K mg cl fa fd) : ∀ k, IHt P w K mg base cl fa fd k
  | 0, i => fn_bad fun _ _ _ => rfl
  | k + 1, 0 => ok_0 T (all_ok T k)
  | k + 1, 1 => ok_1 T (all_ok T k)
  | k + 1, 2 => ok_2 T (all_ok T k)
  | k + 1, 3 => ok_3 T (all_ok T k)
  | k + 1, 4 => ok_4 T (all_ok T k)
  | k + 1, 5 => ok_5 T (all_ok T k)
  | k + 1, 6 => ok_6 T (all_ok T k)
  | k + 1, 7 => ok_7 T (all_ok T k)
  | k + 1, 8 => ok_8 T (all_ok T k)
  | k + 1, 9 => ok_9 T (all_ok T k)
  | k + 1, 10 => ok_10 T (all_ok T k)
  | k + 1, 11 => ok_11 T (all_ok T k)
  | k + 1, 12 => ok_12 T (all_ok T k)
  | k + 1, 13 => ok_13 T (all_ok T k)
  | k + 1, 14 => ok_14 T (all_ok T k)
  | k + 1, 15 => ok_15 T (all_ok T k)
  | k + 1, 16 => ok_16 T (all_ok T k)
  | k + 1, 17 => ok_17 T (all_ok T k)
  | k + 1, 18 => ok_18 T (all_ok T k)
  | k + 1, 19 => ok_19 T (all_ok T k)
  | k + 1, 20 => ok_20 T (all_ok T k)
  | k + 1, 21 => ok_21 T (all_ok T k)
  | k + 1, 22 => ok_22 T (all_ok T k)
  | k + 1, 23 => ok_23 T (all_ok T k)
  | k + 1, 24 => ok_24 T (all_ok T k)
  | k + 1, 25 => ok_25 T (all_ok T k)
  | k + 1, 26 => ok_26 T (all_ok T k)
  | k + 1, 27 => ok_27 T (all_ok T k)
  | k + 1, 28 => ok_28 T (all_ok T k)
  | k + 1, 29 => ok_29 T (all_ok T k)
  | k + 1, 30 => ok_30 T (all_ok T k)
  | k + 1, 31 => ok_31 T (all_ok T k)
  | k + 1, 32 => ok_32 T (all_ok T k)
  | k + 1, 33 => ok_33 T (all_ok T k)
  | k + 1, i + 34 => fn_bad fun _ _ _ => rfl
end
/-! ### the end -/
set_option maxHeartbeats 0 in
theorem all_mk (hlaw : ∀ ns : List Int, ns.length ≤ 63 → ∃ S, tb 100 29 0 [.d (.lst (ns.map .int))] [] = .ok (.d (.bl true)) S) {l : PySem.W.OpenLaw} {w : World} {K : PySem.W.Frag} {h : Heap} {mg : Str → Option Value} {fa C0 f0 f1 f2 f3 f4 f5 f6 f7 f8 f9 f10 f11 f12 f13 f14 f15 f16 f17 f18 f19 f20 f21 f22 f23 f24 f25 f26 f27 f28 f29 dT11 : Addr} (X : K.In h) (G : h.Ns mainGlobals mg) (hfa : mg "law" = some (.ref fa))
    {od0 od1 od2 od3 od4 od5 od6 od7 od8 od9 od10 od11 od12 od13 od14 od15 od16 od17 od18 od19 od20 od21 od22 od23 od24 od25 od26 od27 od28 od29 an0 an1 an2 an3 an4 an5 an6 an7 an8 an9 an10 an11 an12 an13 an14 an15 an16 an17 an18 an19 an20 an21 an22 an23 an24 an25 an26 an27 an28 an29 : Option Addr} {sl0 sl1 sl2 sl3 sl4 sl5 sl6 sl7 sl8 sl9 sl10 sl11 sl12 sl13 sl14 sl15 sl16 sl17 sl18 sl19 sl20 sl21 sl22 sl23 sl24 sl25 sl26 sl27 sl28 sl29 : Array (Option Value)} {oc0 oc1 oc2 oc3 oc4 oc5 oc6 oc7 oc8 oc9 oc10 oc11 oc12 oc13 oc14 oc15 oc16 oc17 oc18 oc19 oc20 oc21 oc22 oc23 oc24 oc25 oc26 oc27 oc28 oc29 kV0 kV1 kV2 kV3 kV4 kV5 kV6 kV7 kV8 kV9 kV10 kV11 kV12 kV13 kV14 kV15 kV16 kV17 kV18 kV19 kV20 kV21 kV22 kV23 kV24 kV25 kV26 kV27 kV28 kV29 dc0 dc1 dc2 dc3 dc4 dc5 dc6 dc7 dc8 dc9 dc10 dc11 dc12 dc13 dc14 dc15 dc16 dc17 dc18 dc19 dc20 dc21 dc22 dc23 dc24 dc25 dc26 dc27 dc28 dc29 pm0 pm1 pm2 pm3 pm4 pm5 pm6 pm7 pm8 pm9 pm10 pm11 pm12 pm13 pm14 pm15 pm16 pm17 pm18 pm19 pm20 pm21 pm22 pm23 pm24 pm25 pm26 pm27 pm28 pm29 cd0 cd1 cd2 cd3 cd4 cd5 cd6 cd7 cd8 cd9 cd10 cd11 cd12 cd13 cd14 cd15 cd16 cd17 cd18 cd19 cd20 cd21 cd22 cd23 cd24 cd25 cd26 cd27 cd28 cd29 ct0 ct1 ct2 ct3 ct4 ct5 ct6 ct7 ct8 ct9 ct10 ct11 ct12 ct13 ct14 ct15 ct16 ct17 ct18 ct19 ct20 ct21 ct22 ct23 ct24 ct25 ct26 ct27 ct28 ct29 : Value}
    {toc11 : Value} {tod11 : Option Addr} {its11 : Array Value} {tn11 : Nat} {tsl11 : Array (Option Value)}
    (aC0 : PySem.W.nsIn K mainGlobals "Count" = some (some (.ref C0)))
    (a0 : PySem.W.nsIn K mainGlobals "_wall" = some (some (.ref f0)))
    (l0 : K.lookup f0 = some ⟨oc0, od0, .func (PySem.W.fnOf "_wall" "_wall" (defArgs (top 0)) (defBody (top 0)) (defScope (top 0)) .none kV0 dc0 pm0 an0 cd0 ct0), sl0⟩)
    (c0 : PySem.W.codeIn K cd0 "_wall" = true)
    (k0 : PySem.W.keepIn K (.ref f0) = true)
    (a1 : PySem.W.findIn K (.ref C0) "__init__" = some (some (.ref f1)))
    (i1 : PySem.W.isFn K (.ref f1) = true)
    (l1 : K.lookup f1 = some ⟨oc1, od1, .func (PySem.W.fnOf "__init__" "Count.__init__" (defArgs (inClass (top 2) 0)) (defBody (inClass (top 2) 0)) (defScope (inClass (top 2) 0)) .none kV1 dc1 pm1 an1 cd1 ct1), sl1⟩)
    (c1 : PySem.W.codeIn K cd1 "Count.__init__" = true)
    (k1 : PySem.W.keepIn K (.ref f1) = true)
    (a2 : PySem.W.findIn K (.ref C0) "__add__" = some (some (.ref f2)))
    (i2 : PySem.W.isFn K (.ref f2) = true)
    (l2 : K.lookup f2 = some ⟨oc2, od2, .func (PySem.W.fnOf "__add__" "Count.__add__" (defArgs (inClass (top 2) 1)) (defBody (inClass (top 2) 1)) (defScope (inClass (top 2) 1)) .none kV2 dc2 pm2 an2 cd2 ct2), sl2⟩)
    (c2 : PySem.W.codeIn K cd2 "Count.__add__" = true)
    (k2 : PySem.W.keepIn K (.ref f2) = true)
    (a3 : PySem.W.findIn K (.ref C0) "__or__" = some (some (.ref f3)))
    (i3 : PySem.W.isFn K (.ref f3) = true)
    (l3 : K.lookup f3 = some ⟨oc3, od3, .func (PySem.W.fnOf "__or__" "Count.__or__" (defArgs (inClass (top 2) 2)) (defBody (inClass (top 2) 2)) (defScope (inClass (top 2) 2)) .none kV3 dc3 pm3 an3 cd3 ct3), sl3⟩)
    (c3 : PySem.W.codeIn K cd3 "Count.__or__" = true)
    (k3 : PySem.W.keepIn K (.ref f3) = true)
    (a4 : PySem.W.findIn K (.ref C0) "boxed" = some (some (.ref f4)))
    (i4 : PySem.W.isFn K (.ref f4) = true)
    (l4 : K.lookup f4 = some ⟨oc4, od4, .func (PySem.W.fnOf "boxed" "Count.boxed" (defArgs (inClass (top 2) 3)) (defBody (inClass (top 2) 3)) (defScope (inClass (top 2) 3)) .none kV4 dc4 pm4 an4 cd4 ct4), sl4⟩)
    (c4 : PySem.W.codeIn K cd4 "Count.boxed" = true)
    (k4 : PySem.W.keepIn K (.ref f4) = true)
    (a5 : PySem.W.findIn K (.ref C0) "fits" = some (some (.ref f5)))
    (i5 : PySem.W.isFn K (.ref f5) = true)
    (l5 : K.lookup f5 = some ⟨oc5, od5, .func (PySem.W.fnOf "fits" "Count.fits" (defArgs (inClass (top 2) 4)) (defBody (inClass (top 2) 4)) (defScope (inClass (top 2) 4)) .none kV5 dc5 pm5 an5 cd5 ct5), sl5⟩)
    (c5 : PySem.W.codeIn K cd5 "Count.fits" = true)
    (k5 : PySem.W.keepIn K (.ref f5) = true)
    (a6 : PySem.W.findIn K (.ref C0) "triple" = some (some (.ref f6)))
    (i6 : PySem.W.isFn K (.ref f6) = true)
    (l6 : K.lookup f6 = some ⟨oc6, od6, .func (PySem.W.fnOf "triple" "Count.triple" (defArgs (inClass (top 2) 5)) (defBody (inClass (top 2) 5)) (defScope (inClass (top 2) 5)) .none kV6 dc6 pm6 an6 cd6 ct6), sl6⟩)
    (c6 : PySem.W.codeIn K cd6 "Count.triple" = true)
    (k6 : PySem.W.keepIn K (.ref f6) = true)
    (a7 : PySem.W.nsIn K mainGlobals "added" = some (some (.ref f7)))
    (l7 : K.lookup f7 = some ⟨oc7, od7, .func (PySem.W.fnOf "added" "added" (defArgs (top 3)) (defBody (top 3)) (defScope (top 3)) .none kV7 dc7 pm7 an7 cd7 ct7), sl7⟩)
    (c7 : PySem.W.codeIn K cd7 "added" = true)
    (k7 : PySem.W.keepIn K (.ref f7) = true)
    (a8 : PySem.W.nsIn K mainGlobals "either" = some (some (.ref f8)))
    (l8 : K.lookup f8 = some ⟨oc8, od8, .func (PySem.W.fnOf "either" "either" (defArgs (top 4)) (defBody (top 4)) (defScope (top 4)) .none kV8 dc8 pm8 an8 cd8 ct8), sl8⟩)
    (c8 : PySem.W.codeIn K cd8 "either" = true)
    (k8 : PySem.W.keepIn K (.ref f8) = true)
    (a9 : PySem.W.nsIn K mainGlobals "boxed_counts" = some (some (.ref f9)))
    (l9 : K.lookup f9 = some ⟨oc9, od9, .func (PySem.W.fnOf "boxed_counts" "boxed_counts" (defArgs (top 5)) (defBody (top 5)) (defScope (top 5)) .none kV9 dc9 pm9 an9 cd9 ct9), sl9⟩)
    (c9 : PySem.W.codeIn K cd9 "boxed_counts" = true)
    (k9 : PySem.W.keepIn K (.ref f9) = true)
    (a10 : PySem.W.nsIn K mainGlobals "without" = some (some (.ref f10)))
    (l10 : K.lookup f10 = some ⟨oc10, od10, .func (PySem.W.fnOf "without" "without" (defArgs (top 6)) (defBody (top 6)) (defScope (top 6)) .none kV10 dc10 pm10 an10 cd10 ct10), sl10⟩)
    (c10 : PySem.W.codeIn K cd10 "without" = true)
    (k10 : PySem.W.keepIn K (.ref f10) = true)
    (a11 : PySem.W.nsIn K mainGlobals "counts" = some (some (.ref f11)))
    (l11 : K.lookup f11 = some ⟨oc11, od11, .func (PySem.W.fnOf "counts" "counts" (defArgs (top 7)) (defBody (top 7)) (defScope (top 7)) (.ref dT11) kV11 dc11 pm11 an11 cd11 ct11), sl11⟩)
    (dl11 : K.lookup dT11 = some ⟨toc11, tod11, .seq its11 tn11, tsl11⟩)
    (rl11 : He.relAll (([.int 0] : List Dv).map cstV) its11.toList = true)
    (c11 : PySem.W.codeIn K cd11 "counts" = true)
    (k11 : PySem.W.keepIn K (.ref f11) = true)
    (a12 : PySem.W.nsIn K mainGlobals "_law_cell" = some (some (.ref f12)))
    (l12 : K.lookup f12 = some ⟨oc12, od12, .func (PySem.W.fnOf "_law_cell" "_law_cell" (defArgs (top 9)) (defBody (top 9)) (defScope (top 9)) .none kV12 dc12 pm12 an12 cd12 ct12), sl12⟩)
    (c12 : PySem.W.codeIn K cd12 "_law_cell" = true)
    (k12 : PySem.W.keepIn K (.ref f12) = true)
    (a13 : PySem.W.nsIn K mainGlobals "_law_pool" = some (some (.ref f13)))
    (l13 : K.lookup f13 = some ⟨oc13, od13, .func (PySem.W.fnOf "_law_pool" "_law_pool" (defArgs (top 10)) (defBody (top 10)) (defScope (top 10)) .none kV13 dc13 pm13 an13 cd13 ct13), sl13⟩)
    (c13 : PySem.W.codeIn K cd13 "_law_pool" = true)
    (k13 : PySem.W.keepIn K (.ref f13) = true)
    (a14 : PySem.W.nsIn K mainGlobals "_law_next" = some (some (.ref f14)))
    (l14 : K.lookup f14 = some ⟨oc14, od14, .func (PySem.W.fnOf "_law_next" "_law_next" (defArgs (top 11)) (defBody (top 11)) (defScope (top 11)) .none kV14 dc14 pm14 an14 cd14 ct14), sl14⟩)
    (c14 : PySem.W.codeIn K cd14 "_law_next" = true)
    (k14 : PySem.W.keepIn K (.ref f14) = true)
    (a15 : PySem.W.nsIn K mainGlobals "_law_is_number" = some (some (.ref f15)))
    (l15 : K.lookup f15 = some ⟨oc15, od15, .func (PySem.W.fnOf "_law_is_number" "_law_is_number" (defArgs (top 12)) (defBody (top 12)) (defScope (top 12)) .none kV15 dc15 pm15 an15 cd15 ct15), sl15⟩)
    (c15 : PySem.W.codeIn K cd15 "_law_is_number" = true)
    (k15 : PySem.W.keepIn K (.ref f15) = true)
    (a16 : PySem.W.nsIn K mainGlobals "_law_row" = some (some (.ref f16)))
    (l16 : K.lookup f16 = some ⟨oc16, od16, .func (PySem.W.fnOf "_law_row" "_law_row" (defArgs (top 13)) (defBody (top 13)) (defScope (top 13)) .none kV16 dc16 pm16 an16 cd16 ct16), sl16⟩)
    (c16 : PySem.W.codeIn K cd16 "_law_row" = true)
    (k16 : PySem.W.keepIn K (.ref f16) = true)
    (a17 : PySem.W.nsIn K mainGlobals "_law_parts" = some (some (.ref f17)))
    (l17 : K.lookup f17 = some ⟨oc17, od17, .func (PySem.W.fnOf "_law_parts" "_law_parts" (defArgs (top 14)) (defBody (top 14)) (defScope (top 14)) .none kV17 dc17 pm17 an17 cd17 ct17), sl17⟩)
    (c17 : PySem.W.codeIn K cd17 "_law_parts" = true)
    (k17 : PySem.W.keepIn K (.ref f17) = true)
    (a18 : PySem.W.nsIn K mainGlobals "_law_paths" = some (some (.ref f18)))
    (l18 : K.lookup f18 = some ⟨oc18, od18, .func (PySem.W.fnOf "_law_paths" "_law_paths" (defArgs (top 15)) (defBody (top 15)) (defScope (top 15)) .none kV18 dc18 pm18 an18 cd18 ct18), sl18⟩)
    (c18 : PySem.W.codeIn K cd18 "_law_paths" = true)
    (k18 : PySem.W.keepIn K (.ref f18) = true)
    (a19 : PySem.W.nsIn K mainGlobals "_law_at" = some (some (.ref f19)))
    (l19 : K.lookup f19 = some ⟨oc19, od19, .func (PySem.W.fnOf "_law_at" "_law_at" (defArgs (top 16)) (defBody (top 16)) (defScope (top 16)) .none kV19 dc19 pm19 an19 cd19 ct19), sl19⟩)
    (c19 : PySem.W.codeIn K cd19 "_law_at" = true)
    (k19 : PySem.W.keepIn K (.ref f19) = true)
    (a20 : PySem.W.nsIn K mainGlobals "_law_same" = some (some (.ref f20)))
    (l20 : K.lookup f20 = some ⟨oc20, od20, .func (PySem.W.fnOf "_law_same" "_law_same" (defArgs (top 17)) (defBody (top 17)) (defScope (top 17)) .none kV20 dc20 pm20 an20 cd20 ct20), sl20⟩)
    (c20 : PySem.W.codeIn K cd20 "_law_same" = true)
    (k20 : PySem.W.keepIn K (.ref f20) = true)
    (a21 : PySem.W.nsIn K mainGlobals "_law_mode" = some (some (.ref f21)))
    (l21 : K.lookup f21 = some ⟨oc21, od21, .func (PySem.W.fnOf "_law_mode" "_law_mode" (defArgs (top 18)) (defBody (top 18)) (defScope (top 18)) .none kV21 dc21 pm21 an21 cd21 ct21), sl21⟩)
    (c21 : PySem.W.codeIn K cd21 "_law_mode" = true)
    (k21 : PySem.W.keepIn K (.ref f21) = true)
    (a22 : PySem.W.nsIn K mainGlobals "_law_free_one" = some (some (.ref f22)))
    (l22 : K.lookup f22 = some ⟨oc22, od22, .func (PySem.W.fnOf "_law_free_one" "_law_free_one" (defArgs (top 19)) (defBody (top 19)) (defScope (top 19)) .none kV22 dc22 pm22 an22 cd22 ct22), sl22⟩)
    (c22 : PySem.W.codeIn K cd22 "_law_free_one" = true)
    (k22 : PySem.W.keepIn K (.ref f22) = true)
    (a23 : PySem.W.nsIn K mainGlobals "_law_free_two" = some (some (.ref f23)))
    (l23 : K.lookup f23 = some ⟨oc23, od23, .func (PySem.W.fnOf "_law_free_two" "_law_free_two" (defArgs (top 20)) (defBody (top 20)) (defScope (top 20)) .none kV23 dc23 pm23 an23 cd23 ct23), sl23⟩)
    (c23 : PySem.W.codeIn K cd23 "_law_free_two" = true)
    (k23 : PySem.W.keepIn K (.ref f23) = true)
    (a24 : PySem.W.nsIn K mainGlobals "_law_free" = some (some (.ref f24)))
    (l24 : K.lookup f24 = some ⟨oc24, od24, .func (PySem.W.fnOf "_law_free" "_law_free" (defArgs (top 21)) (defBody (top 21)) (defScope (top 21)) .none kV24 dc24 pm24 an24 cd24 ct24), sl24⟩)
    (c24 : PySem.W.codeIn K cd24 "_law_free" = true)
    (k24 : PySem.W.keepIn K (.ref f24) = true)
    (a25 : PySem.W.nsIn K mainGlobals "_law_above" = some (some (.ref f25)))
    (l25 : K.lookup f25 = some ⟨oc25, od25, .func (PySem.W.fnOf "_law_above" "_law_above" (defArgs (top 22)) (defBody (top 22)) (defScope (top 22)) .none kV25 dc25 pm25 an25 cd25 ct25), sl25⟩)
    (c25 : PySem.W.codeIn K cd25 "_law_above" = true)
    (k25 : PySem.W.keepIn K (.ref f25) = true)
    (a26 : PySem.W.nsIn K mainGlobals "_law_uses" = some (some (.ref f26)))
    (l26 : K.lookup f26 = some ⟨oc26, od26, .func (PySem.W.fnOf "_law_uses" "_law_uses" (defArgs (top 23)) (defBody (top 23)) (defScope (top 23)) .none kV26 dc26 pm26 an26 cd26 ct26), sl26⟩)
    (c26 : PySem.W.codeIn K cd26 "_law_uses" = true)
    (k26 : PySem.W.keepIn K (.ref f26) = true)
    (a27 : PySem.W.nsIn K mainGlobals "_law_due" = some (some (.ref f27)))
    (l27 : K.lookup f27 = some ⟨oc27, od27, .func (PySem.W.fnOf "_law_due" "_law_due" (defArgs (top 24)) (defBody (top 24)) (defScope (top 24)) .none kV27 dc27 pm27 an27 cd27 ct27), sl27⟩)
    (c27 : PySem.W.codeIn K cd27 "_law_due" = true)
    (k27 : PySem.W.keepIn K (.ref f27) = true)
    (a28 : PySem.W.nsIn K mainGlobals "_law_told" = some (some (.ref f28)))
    (l28 : K.lookup f28 = some ⟨oc28, od28, .func (PySem.W.fnOf "_law_told" "_law_told" (defArgs (top 25)) (defBody (top 25)) (defScope (top 25)) .none kV28 dc28 pm28 an28 cd28 ct28), sl28⟩)
    (c28 : PySem.W.codeIn K cd28 "_law_told" = true)
    (k28 : PySem.W.keepIn K (.ref f28) = true)
    (a29 : PySem.W.nsIn K mainGlobals "law" = some (some (.ref f29)))
    (l29 : K.lookup f29 = some ⟨oc29, od29, .func (PySem.W.fnOf "law" "law" (defArgs (top 26)) (defBody (top 26)) (defScope (top 26)) .none kV29 dc29 pm29 an29 cd29 ct29), sl29⟩)
    (c29 : PySem.W.codeIn K cd29 "law" = true)
    (k29 : PySem.W.keepIn K (.ref f29) = true)
    (pg0 : PySem.W.plainGet K C0 Str.empty = true)
    (hd0 : PySem.W.hasDictIn K C0 = true)
    (po0 : PySem.W.plainOver K C0 = true)
    (sa0 : PySem.W.findIn K (.ref C0) "__setattr__" = some (some (.builtin "object.__setattr__")))
    (mk0 : PySem.W.makesIn K C0 = true)
    (kc0 : PySem.W.keepIn K (.ref C0) = true)
    (ha0 : PySem.W.findIn K (.ref C0) "__class__" = some (some (.builtin "object.__class__")))
    (hn0 : PySem.W.specialIn K (.builtin "object.__class__") "__get__" = some (some (.builtin "getset_descriptor.__get__")))
    (ht0 : PySem.W.takesIn K (.builtin "object.__class__") = some true)
    (hm0 : PySem.W.mroIn K C0 (.type "object") = some true)
    (nc0 : PySem.W.isClsIn K C0 = true)
    (nt0 : PySem.W.typeIn K (.ref C0) = some (.type "type"))
    (nnon0 : PySem.W.subIn K (.type "NoneType") (.ref C0) = some false)
    (nbl0 : PySem.W.subIn K (.type "bool") (.ref C0) = some false)
    (nint0 : PySem.W.subIn K (.type "int") (.ref C0) = some false)
    (nstr0 : PySem.W.subIn K (.type "str") (.ref C0) = some false)
    (ntup0 : PySem.W.subIn K (.type "tuple") (.ref C0) = some false)
    (nlst0 : PySem.W.subIn K (.type "list") (.ref C0) = some false)
    (ndic0 : PySem.W.subIn K (.type "dict") (.ref C0) = some false)
    (na0_least : PySem.W.findIn K (.ref C0) "least" = some none)
    (na0_most : PySem.W.findIn K (.ref C0) "most" = some none)
    (na0_days : PySem.W.findIn K (.ref C0) "days" = some none)
    (sf0_Add : PySem.W.selfFirst K C0 = true)
    (sf0_BitOr : PySem.W.selfFirst K C0 = true)
    (z_abs : PySem.W.nsIn K mainGlobals "abs" = some none)
    (z_bool : PySem.W.nsIn K mainGlobals "bool" = some none)
    (z_dict : PySem.W.nsIn K mainGlobals "dict" = some none)
    (z_int : PySem.W.nsIn K mainGlobals "int" = some none)
    (z_isinstance : PySem.W.nsIn K mainGlobals "isinstance" = some none)
    (z_len : PySem.W.nsIn K mainGlobals "len" = some none)
    (z_list : PySem.W.nsIn K mainGlobals "list" = some none)
    (z_max : PySem.W.nsIn K mainGlobals "max" = some none)
    (z_min : PySem.W.nsIn K mainGlobals "min" = some none)
    (z_range : PySem.W.nsIn K mainGlobals "range" = some none)
    (z_str : PySem.W.nsIn K mainGlobals "str" = some none)
    (z_sum : PySem.W.nsIn K mainGlobals "sum" = some none)
    (z_tuple : PySem.W.nsIn K mainGlobals "tuple" = some none)
    : ∃ fd : FuncData, (∀ (s : Shared) (v : Value), BindsTo s fd ⟨[v], []⟩ [("_law_script", v)]) ∧ ∀ base : Heap, K.In base → base.Ns mainGlobals mg → FnOk l.prog w K mg base (L2N.CX l.prog w) 202 fa fd ["_law_script"] (spL K) := by
  have e : f29 = fa := by
    have z := (PySem.W.mg_of X G a29).symm.trans hfa
    injection z with z
    injection z
  subst e
  let cl : Nat → Addr := fun i => [C0].getD i 0
  let fas : Nat → Addr := fun i => [f0, f1, f2, f3, f4, f5, f6, f7, f8, f9, f10, f11, f12, f13, f14, f15, f16, f17, f18, f19, f20, f21, f22, f23, f24, f25, f26, f27, f28, f29, f7, f8, f10, f11].getD i 0
  let fds : Nat → FuncData := fun i => [PySem.W.fnOf "_wall" "_wall" (defArgs (top 0)) (defBody (top 0)) (defScope (top 0)) .none kV0 dc0 pm0 an0 cd0 ct0, PySem.W.fnOf "__init__" "Count.__init__" (defArgs (inClass (top 2) 0)) (defBody (inClass (top 2) 0)) (defScope (inClass (top 2) 0)) .none kV1 dc1 pm1 an1 cd1 ct1, PySem.W.fnOf "__add__" "Count.__add__" (defArgs (inClass (top 2) 1)) (defBody (inClass (top 2) 1)) (defScope (inClass (top 2) 1)) .none kV2 dc2 pm2 an2 cd2 ct2, PySem.W.fnOf "__or__" "Count.__or__" (defArgs (inClass (top 2) 2)) (defBody (inClass (top 2) 2)) (defScope (inClass (top 2) 2)) .none kV3 dc3 pm3 an3 cd3 ct3, PySem.W.fnOf "boxed" "Count.boxed" (defArgs (inClass (top 2) 3)) (defBody (inClass (top 2) 3)) (defScope (inClass (top 2) 3)) .none kV4 dc4 pm4 an4 cd4 ct4, PySem.W.fnOf "fits" "Count.fits" (defArgs (inClass (top 2) 4)) (defBody (inClass (top 2) 4)) (defScope (inClass (top 2) 4)) .none kV5 dc5 pm5 an5 cd5 ct5, PySem.W.fnOf "triple" "Count.triple" (defArgs (inClass (top 2) 5)) (defBody (inClass (top 2) 5)) (defScope (inClass (top 2) 5)) .none kV6 dc6 pm6 an6 cd6 ct6, PySem.W.fnOf "added" "added" (defArgs (top 3)) (defBody (top 3)) (defScope (top 3)) .none kV7 dc7 pm7 an7 cd7 ct7, PySem.W.fnOf "either" "either" (defArgs (top 4)) (defBody (top 4)) (defScope (top 4)) .none kV8 dc8 pm8 an8 cd8 ct8, PySem.W.fnOf "boxed_counts" "boxed_counts" (defArgs (top 5)) (defBody (top 5)) (defScope (top 5)) .none kV9 dc9 pm9 an9 cd9 ct9, PySem.W.fnOf "without" "without" (defArgs (top 6)) (defBody (top 6)) (defScope (top 6)) .none kV10 dc10 pm10 an10 cd10 ct10, PySem.W.fnOf "counts" "counts" (defArgs (top 7)) (defBody (top 7)) (defScope (top 7)) (.ref dT11) kV11 dc11 pm11 an11 cd11 ct11, PySem.W.fnOf "_law_cell" "_law_cell" (defArgs (top 9)) (defBody (top 9)) (defScope (top 9)) .none kV12 dc12 pm12 an12 cd12 ct12, PySem.W.fnOf "_law_pool" "_law_pool" (defArgs (top 10)) (defBody (top 10)) (defScope (top 10)) .none kV13 dc13 pm13 an13 cd13 ct13, PySem.W.fnOf "_law_next" "_law_next" (defArgs (top 11)) (defBody (top 11)) (defScope (top 11)) .none kV14 dc14 pm14 an14 cd14 ct14, PySem.W.fnOf "_law_is_number" "_law_is_number" (defArgs (top 12)) (defBody (top 12)) (defScope (top 12)) .none kV15 dc15 pm15 an15 cd15 ct15, PySem.W.fnOf "_law_row" "_law_row" (defArgs (top 13)) (defBody (top 13)) (defScope (top 13)) .none kV16 dc16 pm16 an16 cd16 ct16, PySem.W.fnOf "_law_parts" "_law_parts" (defArgs (top 14)) (defBody (top 14)) (defScope (top 14)) .none kV17 dc17 pm17 an17 cd17 ct17, PySem.W.fnOf "_law_paths" "_law_paths" (defArgs (top 15)) (defBody (top 15)) (defScope (top 15)) .none kV18 dc18 pm18 an18 cd18 ct18, PySem.W.fnOf "_law_at" "_law_at" (defArgs (top 16)) (defBody (top 16)) (defScope (top 16)) .none kV19 dc19 pm19 an19 cd19 ct19, PySem.W.fnOf "_law_same" "_law_same" (defArgs (top 17)) (defBody (top 17)) (defScope (top 17)) .none kV20 dc20 pm20 an20 cd20 ct20, PySem.W.fnOf "_law_mode" "_law_mode" (defArgs (top 18)) (defBody (top 18)) (defScope (top 18)) .none kV21 dc21 pm21 an21 cd21 ct21, PySem.W.fnOf "_law_free_one" "_law_free_one" (defArgs (top 19)) (defBody (top 19)) (defScope (top 19)) .none kV22 dc22 pm22 an22 cd22 ct22, PySem.W.fnOf "_law_free_two" "_law_free_two" (defArgs (top 20)) (defBody (top 20)) (defScope (top 20)) .none kV23 dc23 pm23 an23 cd23 ct23, PySem.W.fnOf "_law_free" "_law_free" (defArgs (top 21)) (defBody (top 21)) (defScope (top 21)) .none kV24 dc24 pm24 an24 cd24 ct24, PySem.W.fnOf "_law_above" "_law_above" (defArgs (top 22)) (defBody (top 22)) (defScope (top 22)) .none kV25 dc25 pm25 an25 cd25 ct25, PySem.W.fnOf "_law_uses" "_law_uses" (defArgs (top 23)) (defBody (top 23)) (defScope (top 23)) .none kV26 dc26 pm26 an26 cd26 ct26, PySem.W.fnOf "_law_due" "_law_due" (defArgs (top 24)) (defBody (top 24)) (defScope (top 24)) .none kV27 dc27 pm27 an27 cd27 ct27, PySem.W.fnOf "_law_told" "_law_told" (defArgs (top 25)) (defBody (top 25)) (defScope (top 25)) .none kV28 dc28 pm28 an28 cd28 ct28, PySem.W.fnOf "law" "law" (defArgs (top 26)) (defBody (top 26)) (defScope (top 26)) .none kV29 dc29 pm29 an29 cd29 ct29, PySem.W.fnOf "added" "added" (defArgs (top 3)) (defBody (top 3)) (defScope (top 3)) .none kV7 dc7 pm7 an7 cd7 ct7, PySem.W.fnOf "either" "either" (defArgs (top 4)) (defBody (top 4)) (defScope (top 4)) .none kV8 dc8 pm8 an8 cd8 ct8, PySem.W.fnOf "without" "without" (defArgs (top 6)) (defBody (top 6)) (defScope (top 6)) .none kV10 dc10 pm10 an10 cd10 ct10, PySem.W.fnOf "counts" "counts" (defArgs (top 7)) (defBody (top 7)) (defScope (top 7)) (.ref dT11) kV11 dc11 pm11 an11 cd11 ct11].getD i (PySem.W.fnOf "_wall" "_wall" (defArgs (top 0)) (defBody (top 0)) (defScope (top 0)) .none kV0 dc0 pm0 an0 cd0 ct0)
  have T : Txt w K mg cl fas fds := {
    F0 := fun_mk (st := (top 0)) l0 c0 k0
    b0 := (fun_mk (st := (top 0)) l0 c0 k0).binds (ps := ["k"]) fun _ _ _ _ _ _ us hl => match us, hl with | [_], _ => rfl
    g0 := PySem.W.mg_of X G a0
    F1 := fun_mk (st := (inClass (top 2) 0)) l1 c1 k1
    b1 := (fun_mk (st := (inClass (top 2) 0)) l1 c1 k1).binds (ps := ["self", "least", "most", "days"]) fun _ _ _ _ _ _ us hl => match us, hl with | [_, _, _, _], _ => rfl
    F2 := fun_mk (st := (inClass (top 2) 1)) l2 c2 k2
    b2 := (fun_mk (st := (inClass (top 2) 1)) l2 c2 k2).binds (ps := ["self", "other"]) fun _ _ _ _ _ _ us hl => match us, hl with | [_, _], _ => rfl
    m2 := ⟨a2, i2, k2⟩
    F3 := fun_mk (st := (inClass (top 2) 2)) l3 c3 k3
    b3 := (fun_mk (st := (inClass (top 2) 2)) l3 c3 k3).binds (ps := ["self", "other"]) fun _ _ _ _ _ _ us hl => match us, hl with | [_, _], _ => rfl
    m3 := ⟨a3, i3, k3⟩
    F4 := fun_mk (st := (inClass (top 2) 3)) l4 c4 k4
    b4 := (fun_mk (st := (inClass (top 2) 3)) l4 c4 k4).binds (ps := ["self", "kind"]) fun _ _ _ _ _ _ us hl => match us, hl with | [_, _], _ => rfl
    m4 := ⟨a4, i4, k4⟩
    F5 := fun_mk (st := (inClass (top 2) 4)) l5 c5 k5
    b5 := (fun_mk (st := (inClass (top 2) 4)) l5 c5 k5).binds (ps := ["self", "kind"]) fun _ _ _ _ _ _ us hl => match us, hl with | [_, _], _ => rfl
    m5 := ⟨a5, i5, k5⟩
    F6 := fun_mk (st := (inClass (top 2) 5)) l6 c6 k6
    b6 := (fun_mk (st := (inClass (top 2) 5)) l6 c6 k6).binds (ps := ["self"]) fun _ _ _ _ _ _ us hl => match us, hl with | [_], _ => rfl
    m6 := ⟨a6, i6, k6⟩
    F7 := fun_mk (st := (top 3)) l7 c7 k7
    b7 := (fun_mk (st := (top 3)) l7 c7 k7).binds (ps := ["first", "second"]) fun _ _ _ _ _ _ us hl => match us, hl with | [_, _], _ => rfl
    g7 := PySem.W.mg_of X G a7
    F8 := fun_mk (st := (top 4)) l8 c8 k8
    b8 := (fun_mk (st := (top 4)) l8 c8 k8).binds (ps := ["first", "second"]) fun _ _ _ _ _ _ us hl => match us, hl with | [_, _], _ => rfl
    g8 := PySem.W.mg_of X G a8
    F9 := fun_mk (st := (top 5)) l9 c9 k9
    b9 := (fun_mk (st := (top 5)) l9 c9 k9).binds (ps := ["found", "kind"]) fun _ _ _ _ _ _ us hl => match us, hl with | [_, _], _ => rfl
    g9 := PySem.W.mg_of X G a9
    F10 := fun_mk (st := (top 6)) l10 c10 k10
    b10 := (fun_mk (st := (top 6)) l10 c10 k10).binds (ps := ["found", "ref"]) fun _ _ _ _ _ _ us hl => match us, hl with | [_, _], _ => rfl
    g10 := PySem.W.mg_of X G a10
    F11 := funE_mk (st := (top 7)) (ds := [.int 0]) l11 c11 k11 dl11 rl11 (by simp)
    b11 := binds_nil (bindE (ps := ["derivation", "level"]) (funE_mk (st := (top 7)) (ds := [.int 0]) l11 c11 k11 dl11 rl11 (by simp)) 2 (by simp) (by rfl) fun _ _ _ _ _ _ _ us its h1 h2 => match us, its, h1, h2 with | [_, _], [_], _, _ => ⟨_, rfl, rfl⟩)
    g11 := PySem.W.mg_of X G a11
    F12 := fun_mk (st := (top 9)) l12 c12 k12
    b12 := (fun_mk (st := (top 9)) l12 c12 k12).binds (ps := ["_law_script", "_law_k"]) fun _ _ _ _ _ _ us hl => match us, hl with | [_, _], _ => rfl
    g12 := PySem.W.mg_of X G a12
    F13 := fun_mk (st := (top 10)) l13 c13 k13
    b13 := (fun_mk (st := (top 10)) l13 c13 k13).binds (ps := ["_law_script", "_law_k"]) fun _ _ _ _ _ _ us hl => match us, hl with | [_, _], _ => rfl
    g13 := PySem.W.mg_of X G a13
    F14 := fun_mk (st := (top 11)) l14 c14 k14
    b14 := (fun_mk (st := (top 11)) l14 c14 k14).binds (ps := ["_law_pool_here", "_law_many"]) fun _ _ _ _ _ _ us hl => match us, hl with | [_, _], _ => rfl
    g14 := PySem.W.mg_of X G a14
    F15 := fun_mk (st := (top 12)) l15 c15 k15
    b15 := (fun_mk (st := (top 12)) l15 c15 k15).binds (ps := ["_law_value"]) fun _ _ _ _ _ _ us hl => match us, hl with | [_], _ => rfl
    g15 := PySem.W.mg_of X G a15
    F16 := fun_mk (st := (top 13)) l16 c16 k16
    b16 := (fun_mk (st := (top 13)) l16 c16 k16).binds (ps := ["_law_item"]) fun _ _ _ _ _ _ us hl => match us, hl with | [_], _ => rfl
    g16 := PySem.W.mg_of X G a16
    F17 := fun_mk (st := (top 14)) l17 c17 k17
    b17 := (fun_mk (st := (top 14)) l17 c17 k17).binds (ps := ["_law_tree"]) fun _ _ _ _ _ _ us hl => match us, hl with | [_], _ => rfl
    g17 := PySem.W.mg_of X G a17
    F18 := fun_mk (st := (top 15)) l18 c18 k18
    b18 := (fun_mk (st := (top 15)) l18 c18 k18).binds (ps := ["_law_tree", "_law_path"]) fun _ _ _ _ _ _ us hl => match us, hl with | [_, _], _ => rfl
    g18 := PySem.W.mg_of X G a18
    F19 := fun_mk (st := (top 16)) l19 c19 k19
    b19 := (fun_mk (st := (top 16)) l19 c19 k19).binds (ps := ["_law_tree", "_law_path"]) fun _ _ _ _ _ _ us hl => match us, hl with | [_, _], _ => rfl
    g19 := PySem.W.mg_of X G a19
    F20 := fun_mk (st := (top 17)) l20 c20 k20
    b20 := (fun_mk (st := (top 17)) l20 c20 k20).binds (ps := ["_law_told_here", "_law_due_here"]) fun _ _ _ _ _ _ us hl => match us, hl with | [_, _], _ => rfl
    g20 := PySem.W.mg_of X G a20
    F21 := fun_mk (st := (top 18)) l21 c21 k21
    b21 := (fun_mk (st := (top 18)) l21 c21 k21).binds (ps := ["_law_pool_here", "_law_room"]) fun _ _ _ _ _ _ us hl => match us, hl with | [_, _], _ => rfl
    g21 := PySem.W.mg_of X G a21
    F22 := fun_mk (st := (top 19)) l22 c22 k22
    b22 := (fun_mk (st := (top 19)) l22 c22 k22).binds (ps := ["_law_way", "_law_many", "_law_level", "_law_room", "_law_name", "_law_ref", "_law_which"]) fun _ _ _ _ _ _ us hl => match us, hl with | [_, _, _, _, _, _, _], _ => rfl
    g22 := PySem.W.mg_of X G a22
    F23 := fun_mk (st := (top 20)) l23 c23 k23
    b23 := (fun_mk (st := (top 20)) l23 c23 k23).binds (ps := ["_law_way", "_law_many", "_law_level", "_law_room", "_law_name", "_law_ref", "_law_which"]) fun _ _ _ _ _ _ us hl => match us, hl with | [_, _, _, _, _, _, _], _ => rfl
    g23 := PySem.W.mg_of X G a23
    F24 := fun_mk (st := (top 21)) l24 c24 k24
    b24 := (fun_mk (st := (top 21)) l24 c24 k24).binds (ps := ["_law_way", "_law_many", "_law_level", "_law_room"]) fun _ _ _ _ _ _ us hl => match us, hl with | [_, _, _, _], _ => rfl
    g24 := PySem.W.mg_of X G a24
    F25 := fun_mk (st := (top 22)) l25 c25 k25
    b25 := (fun_mk (st := (top 22)) l25 c25 k25).binds (ps := ["_law_row_here", "_law_product", "_law_days", "_law_plain"]) fun _ _ _ _ _ _ us hl => match us, hl with | [_, _, _, _], _ => rfl
    g25 := PySem.W.mg_of X G a25
    F26 := fun_mk (st := (top 23)) l26 c26 k26
    b26 := (fun_mk (st := (top 23)) l26 c26 k26).binds (ps := ["_law_tree", "_law_level", "_law_number"]) fun _ _ _ _ _ _ us hl => match us, hl with | [_, _, _], _ => rfl
    g26 := PySem.W.mg_of X G a26
    F27 := fun_mk (st := (top 24)) l27 c27 k27
    b27 := (fun_mk (st := (top 24)) l27 c27 k27).binds (ps := ["_law_tree", "_law_level"]) fun _ _ _ _ _ _ us hl => match us, hl with | [_, _], _ => rfl
    g27 := PySem.W.mg_of X G a27
    F28 := fun_mk (st := (top 25)) l28 c28 k28
    b28 := (fun_mk (st := (top 25)) l28 c28 k28).binds (ps := ["_law_told_here", "_law_due_here"]) fun _ _ _ _ _ _ us hl => match us, hl with | [_, _], _ => rfl
    g28 := PySem.W.mg_of X G a28
    F29 := fun_mk (st := (top 26)) l29 c29 k29
    b29 := (fun_mk (st := (top 26)) l29 c29 k29).binds (ps := ["_law_script"]) fun _ _ _ _ _ _ us hl => match us, hl with | [_], _ => rfl
    g29 := PySem.W.mg_of X G a29
    F30 := fun_mk (st := (top 3)) l7 c7 k7
    b30 := (fun_mk (st := (top 3)) l7 c7 k7).binds (ps := ["first", "second"]) fun _ _ _ _ _ _ us hl => match us, hl with | [_, _], _ => rfl
    g30 := PySem.W.mg_of X G a7
    F31 := fun_mk (st := (top 4)) l8 c8 k8
    b31 := (fun_mk (st := (top 4)) l8 c8 k8).binds (ps := ["first", "second"]) fun _ _ _ _ _ _ us hl => match us, hl with | [_, _], _ => rfl
    g31 := PySem.W.mg_of X G a8
    F32 := fun_mk (st := (top 6)) l10 c10 k10
    b32 := (fun_mk (st := (top 6)) l10 c10 k10).binds (ps := ["found", "ref"]) fun _ _ _ _ _ _ us hl => match us, hl with | [_, _], _ => rfl
    g32 := PySem.W.mg_of X G a10
    F33 := funE_mk (st := (top 7)) (ds := [.int 0]) l11 c11 k11 dl11 rl11 (by simp)
    b33 := binds_nil (bindE (ps := ["derivation", "level"]) (funE_mk (st := (top 7)) (ds := [.int 0]) l11 c11 k11 dl11 rl11 (by simp)) 2 (by simp) (by rfl) fun _ _ _ _ _ _ _ us its h1 h2 => match us, its, h1, h2 with | [_, _], [_], _, _ => ⟨_, rfl, rfl⟩)
    bd33_1 := bindE (ps := ["derivation", "level"]) (funE_mk (st := (top 7)) (ds := [.int 0]) l11 c11 k11 dl11 rl11 (by simp)) 1 (by simp) (by rfl) fun _ _ _ _ _ _ _ us its h1 h2 => match us, its, h1, h2 with | [_], [_], _, _ => ⟨_, rfl, rfl⟩
    g33 := PySem.W.mg_of X G a11
    cl0 := ⟨pg0, hd0, po0, sa0⟩
    gC0 := PySem.W.mg_of X G aC0
    M0 := ⟨mk0, a1, i1, kc0⟩
    w0 := ⟨⟨pg0, hd0, po0, sa0⟩, ha0, hn0, ht0, hm0⟩
    n0 := ⟨nc0, nt0, nnon0, nbl0, nint0, nstr0, ntup0, nlst0, ndic0⟩
    o0_Add := ⟨sf0_Add, a2, i2⟩
    o0_BitOr := ⟨sf0_BitOr, a3, i3⟩
    fl_least := (fun c hc => by
      simp only [List.mem_cons, List.not_mem_nil, or_false] at hc
      rcases hc with rfl
      · exact ⟨⟨pg0, hd0, po0, sa0⟩, na0_least⟩)
    fl_most := (fun c hc => by
      simp only [List.mem_cons, List.not_mem_nil, or_false] at hc
      rcases hc with rfl
      · exact ⟨⟨pg0, hd0, po0, sa0⟩, na0_most⟩)
    fl_days := (fun c hc => by
      simp only [List.mem_cons, List.not_mem_nil, or_false] at hc
      rcases hc with rfl
      · exact ⟨⟨pg0, hd0, po0, sa0⟩, na0_days⟩)
    z_abs := PySem.W.mg_none_of X G z_abs
    z_bool := PySem.W.mg_none_of X G z_bool
    z_dict := PySem.W.mg_none_of X G z_dict
    z_int := PySem.W.mg_none_of X G z_int
    z_isinstance := PySem.W.mg_none_of X G z_isinstance
    z_len := PySem.W.mg_none_of X G z_len
    z_list := PySem.W.mg_none_of X G z_list
    z_max := PySem.W.mg_none_of X G z_max
    z_min := PySem.W.mg_none_of X G z_min
    z_range := PySem.W.mg_none_of X G z_range
    z_str := PySem.W.mg_none_of X G z_str
    z_sum := PySem.W.mg_none_of X G z_sum
    z_tuple := PySem.W.mg_none_of X G z_tuple
  }
  exact ⟨PySem.W.fnOf "law" "law" (defArgs (top 26)) (defBody (top 26)) (defScope (top 26)) .none kV29 dc29 pm29 an29 cd29 ct29, fun s v => .of_eq rfl, fun base _ _ => FnOk.imp (all_ok T 100 29) (spL_imp hlaw)⟩
end Lw

open PySem PySem.W PyProof.Rows in
set_option maxRecDepth 100000 in
set_option maxHeartbeats 0 in
theorem PySem.Challenge.cw_heldproofs_k27_whole_counts_by_choices_holds : PySem.Challenge.rw_heldproofs_k27_whole_counts_by_choices.Holds := by
  w_on; o_law; k_head; (case hw => w_witness2)
  k_fill
  refine Ev.walk_law (l := PySem.Challenge.rw_heldproofs_k27_whole_counts_by_choices) (x := "_law_script") (k := 202) rfl rfl ⟨rfl, by decide, by decide⟩ (fun w h Y => PySem.W.kIn_of Y) ?F
  case F =>
    intro w mg fa h KX G hmg
    refine' Lw.all_mk Lw.law_true KX G hmg ?aC0 ?a0 ?l0 ?c0 ?k0 ?a1 ?i1 ?l1 ?c1 ?k1 ?a2 ?i2 ?l2 ?c2 ?k2 ?a3 ?i3 ?l3 ?c3 ?k3 ?a4 ?i4 ?l4 ?c4 ?k4 ?a5 ?i5 ?l5 ?c5 ?k5 ?a6 ?i6 ?l6 ?c6 ?k6 ?a7 ?l7 ?c7 ?k7 ?a8 ?l8 ?c8 ?k8 ?a9 ?l9 ?c9 ?k9 ?a10 ?l10 ?c10 ?k10 ?a11 ?l11 ?dl11 ?rl11 ?c11 ?k11 ?a12 ?l12 ?c12 ?k12 ?a13 ?l13 ?c13 ?k13 ?a14 ?l14 ?c14 ?k14 ?a15 ?l15 ?c15 ?k15 ?a16 ?l16 ?c16 ?k16 ?a17 ?l17 ?c17 ?k17 ?a18 ?l18 ?c18 ?k18 ?a19 ?l19 ?c19 ?k19 ?a20 ?l20 ?c20 ?k20 ?a21 ?l21 ?c21 ?k21 ?a22 ?l22 ?c22 ?k22 ?a23 ?l23 ?c23 ?k23 ?a24 ?l24 ?c24 ?k24 ?a25 ?l25 ?c25 ?k25 ?a26 ?l26 ?c26 ?k26 ?a27 ?l27 ?c27 ?k27 ?a28 ?l28 ?c28 ?k28 ?a29 ?l29 ?c29 ?k29 ?pg0 ?hd0 ?po0 ?sa0 ?mk0 ?kc0 ?ha0 ?hn0 ?ht0 ?hm0 ?nc0 ?nt0 ?nnon0 ?nbl0 ?nint0 ?nstr0 ?ntup0 ?nlst0 ?ndic0 ?na0_least ?na0_most ?na0_days ?sf0_Add ?sf0_BitOr ?z_abs ?z_bool ?z_dict ?z_int ?z_isinstance ?z_len ?z_list ?z_max ?z_min ?z_range ?z_str ?z_sum ?z_tuple
    (case aC0 => k_is)
    (case a0 => k_is)
    (case l0 => k_is)
    (case c0 => k_is)
    (case k0 => k_is)
    (case a1 => k_is)
    (case i1 => k_is)
    (case l1 => k_is)
    (case c1 => k_is)
    (case k1 => k_is)
    (case a2 => k_is)
    (case i2 => k_is)
    (case l2 => k_is)
    (case c2 => k_is)
    (case k2 => k_is)
    (case a3 => k_is)
    (case i3 => k_is)
    (case l3 => k_is)
    (case c3 => k_is)
    (case k3 => k_is)
    (case a4 => k_is)
    (case i4 => k_is)
    (case l4 => k_is)
    (case c4 => k_is)
    (case k4 => k_is)
    (case a5 => k_is)
    (case i5 => k_is)
    (case l5 => k_is)
    (case c5 => k_is)
    (case k5 => k_is)
    (case a6 => k_is)
    (case i6 => k_is)
    (case l6 => k_is)
    (case c6 => k_is)
    (case k6 => k_is)
    (case a7 => k_is)
    (case l7 => k_is)
    (case c7 => k_is)
    (case k7 => k_is)
    (case a8 => k_is)
    (case l8 => k_is)
    (case c8 => k_is)
    (case k8 => k_is)
    (case a9 => k_is)
    (case l9 => k_is)
    (case c9 => k_is)
    (case k9 => k_is)
    (case a10 => k_is)
    (case l10 => k_is)
    (case c10 => k_is)
    (case k10 => k_is)
    (case a11 => k_is)
    (case l11 => k_is)
    (case dl11 => k_is)
    (case rl11 => first | rfl | decide +kernel)
    (case c11 => k_is)
    (case k11 => k_is)
    (case a12 => k_is)
    (case l12 => k_is)
    (case c12 => k_is)
    (case k12 => k_is)
    (case a13 => k_is)
    (case l13 => k_is)
    (case c13 => k_is)
    (case k13 => k_is)
    (case a14 => k_is)
    (case l14 => k_is)
    (case c14 => k_is)
    (case k14 => k_is)
    (case a15 => k_is)
    (case l15 => k_is)
    (case c15 => k_is)
    (case k15 => k_is)
    (case a16 => k_is)
    (case l16 => k_is)
    (case c16 => k_is)
    (case k16 => k_is)
    (case a17 => k_is)
    (case l17 => k_is)
    (case c17 => k_is)
    (case k17 => k_is)
    (case a18 => k_is)
    (case l18 => k_is)
    (case c18 => k_is)
    (case k18 => k_is)
    (case a19 => k_is)
    (case l19 => k_is)
    (case c19 => k_is)
    (case k19 => k_is)
    (case a20 => k_is)
    (case l20 => k_is)
    (case c20 => k_is)
    (case k20 => k_is)
    (case a21 => k_is)
    (case l21 => k_is)
    (case c21 => k_is)
    (case k21 => k_is)
    (case a22 => k_is)
    (case l22 => k_is)
    (case c22 => k_is)
    (case k22 => k_is)
    (case a23 => k_is)
    (case l23 => k_is)
    (case c23 => k_is)
    (case k23 => k_is)
    (case a24 => k_is)
    (case l24 => k_is)
    (case c24 => k_is)
    (case k24 => k_is)
    (case a25 => k_is)
    (case l25 => k_is)
    (case c25 => k_is)
    (case k25 => k_is)
    (case a26 => k_is)
    (case l26 => k_is)
    (case c26 => k_is)
    (case k26 => k_is)
    (case a27 => k_is)
    (case l27 => k_is)
    (case c27 => k_is)
    (case k27 => k_is)
    (case a28 => k_is)
    (case l28 => k_is)
    (case c28 => k_is)
    (case k28 => k_is)
    (case a29 => k_is)
    (case l29 => k_is)
    (case c29 => k_is)
    (case k29 => k_is)
    (case pg0 => k_is)
    (case hd0 => k_is)
    (case po0 => k_is)
    (case sa0 => k_is)
    (case mk0 => k_is)
    (case kc0 => k_is)
    (case ha0 => k_is)
    (case hn0 => k_is)
    (case ht0 => k_is)
    (case hm0 => k_is)
    (case nc0 => k_is)
    (case nt0 => k_is)
    (case nnon0 => k_is)
    (case nbl0 => k_is)
    (case nint0 => k_is)
    (case nstr0 => k_is)
    (case ntup0 => k_is)
    (case nlst0 => k_is)
    (case ndic0 => k_is)
    (case na0_least => k_is)
    (case na0_most => k_is)
    (case na0_days => k_is)
    (case sf0_Add => k_is)
    (case sf0_BitOr => k_is)
    (case z_abs => k_is)
    (case z_bool => k_is)
    (case z_dict => k_is)
    (case z_int => k_is)
    (case z_isinstance => k_is)
    (case z_len => k_is)
    (case z_list => k_is)
    (case z_max => k_is)
    (case z_min => k_is)
    (case z_range => k_is)
    (case z_str => k_is)
    (case z_sum => k_is)
    (case z_tuple => k_is)
