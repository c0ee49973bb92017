import PyProof.Rows.All
import Wide.All
import OpenK.AllK
import Wide.FinOn
import HandS.ForMost
import HandS.ForExc
import HandS.IsInst
import HandS.Small
import PyProof.MaxThree
import HandS.HotCalls
import OpenK.KMeth
import HandS.Iter
import HandS.Comp
import HandS.WideBits
import HandS.ExcInit
import HandS.ExcField
import KE.KExcIs
import KE.KTryMore
import HandS.ExcIs
import HandS.TupLe
import HandS.TupAny
import HandS.Text
import HandS.DictComp
import HandS.More
import HandS.HeadHook3
import HandS.Finally
import HandS.CallSlots
import HandS.MakeKwOnly
import HandS.TryOnly
import PySem.Challenge.RW_heldproofs_k02_sentences_and_legs
set_option Elab.async false
set_option linter.all false
set_option maxRecDepth 100000
/-! Ev1: pure data, a store of changing things, and how they lie in the heap. -/
namespace Ev
open PySem L2

/-- pure data -/
inductive Dv where
  | non | bl (b : Bool) | int (i : Int) | str (s : Str)
  | tup (xs : List Dv) | lst (xs : List Dv)
  | dic (ks : List Key) (xs : List Dv)
  | ins (c : Nat) (fs : List Str) (xs : List Dv)
inductive SV where
  | d (x : Dv) | m (i : Nat)
inductive MO where
  | lst (xs : List SV) | dic (ks : List Key) (xs : List SV)
  | ins (c : Nat) (fs : List Str) (xs : List SV) | frz (x : Dv)
  | tup (xs : List SV) | lck (ks : List Key) (xs : List SV)
abbrev Sto := List MO
abbrev Env := List (Option SV)
structure Exc where
  c : Nat
  fs : List Str
  xs : List Dv
inductive Res (α : Type) where
  | ok (a : α) (S : Sto) | ex (e : Exc) (S : Sto) | bad
def Res.bind {α β : Type} : Res α → (α → Sto → Res β) → Res β
  | .ok a S, g => g a S
  | .ex e S, _ => .ex e S
  | .bad, _ => .bad
@[simp] theorem Res.bind_ok {α β : Type} (a : α) (S : Sto) (g : α → Sto → Res β) : (Res.ok a S).bind g = g a S := rfl
@[simp] theorem Res.bind_ex {α β : Type} (e : Exc) (S : Sto) (g : α → Sto → Res β) : (Res.ex e S : Res α).bind g = .ex e S := rfl
@[simp] theorem Res.bind_bad {α β : Type} (g : α → Sto → Res β) : (Res.bad : Res α).bind g = .bad := rfl

def isMut : MO → Bool
  | .frz _ => false
  | _ => true

def isLck : MO → Bool
  | .lck _ _ => true
  | _ => false
/-- a lock is looked through -/
def core : HO → HO
  | .frz _ u => u
  | o => o
def Sim (o o' : HO) : Prop := o' = o ∨ ∃ kvs od, o = .dK kvs ∧ o' = .frz od (.dK kvs)
def keyOk : Key → Bool
  | .inl _ => true
  | .inr s => PyData.strOk s
/-- a dict's keys: as many as things, each of good signs -/
def DKl (ks : List Key) (n : Nat) : Prop := ks.length = n ∧ ks.all keyOk = true
/-- where the store's things lie, what nobody will change, what is locked for a while -/
structure Wd where
  ρ : Nat → Addr
  G : Hp
  L : Hp
structure Le (n : Nat) (W W' : Wd) : Prop where
  g : ∀ a o, W.G a = some o → ∃ o', W'.G a = some o' ∧ Sim o o'
  r : ∀ i, i < n → W'.ρ i = W.ρ i
  l : ∀ a o, W.L a = some o → W'.L a = some o
theorem Sim.refl (o : HO) : Sim o o := .inl rfl
theorem Sim.trans {a b c : HO} (h : Sim a b) (k : Sim b c) : Sim a c := by
  rcases h with rfl | ⟨kvs, od, rfl, rfl⟩
  · exact k
  · rcases k with rfl | ⟨kvs', od', k1, k2⟩
    · exact .inr ⟨kvs, od, rfl, rfl⟩
    · cases k1
theorem Le.refl (n : Nat) (W : Wd) : Le n W W := ⟨fun a o h => ⟨o, h, .refl o⟩, fun _ _ => rfl, fun _ _ h => h⟩
theorem Le.trans {n k : Nat} {A B C : Wd} (h : Le n A B) (q : Le k B C) (hn : n ≤ k) : Le n A C :=
  ⟨fun a o e => by
    obtain ⟨o1, e1, s1⟩ := h.g a o e
    obtain ⟨o2, e2, s2⟩ := q.g a o1 e1
    exact ⟨o2, e2, s1.trans s2⟩, fun i hi => (q.r i (Nat.lt_of_lt_of_le hi hn)).trans (h.r i hi), fun a o e => q.l a o (h.l a o e)⟩
theorem Le.less {n k : Nat} {A B : Wd} (h : Le k A B) (hn : n ≤ k) : Le n A B := ⟨h.g, fun i hi => h.r i (Nat.lt_of_lt_of_le hi hn), h.l⟩

def plainO : HO → Bool
  | .frz _ _ => false
  | .dK _ => false
  | _ => true
theorem Sim.plain {o o' : HO} (h : Sim o o') (p : plainO (core o) = true) : o' = o := by
  rcases h with h | ⟨kvs, od, rfl, _⟩
  · exact h
  · cases p
theorem Rd.le {n : Nat} {W W' : Wd} (h : Le n W W') {a : Addr} {u : HO} (p : plainO u = true) (r : Rd W.G a u) : Rd W'.G a u := by
  rcases r with r | ⟨o, r⟩
  · obtain ⟨o', e, s⟩ := h.g _ _ r
    have pc : plainO (core u) = true := by cases u <;> first | exact p | cases p
    rw [s.plain pc] at e
    exact .inl e
  · obtain ⟨o', e, s⟩ := h.g _ _ r
    have pc : plainO (core (.frz o u)) = true := p
    rw [s.plain pc] at e
    exact .inr ⟨o, e⟩
theorem SqL.le {K : PySem.W.Frag} {n : Nat} {W W' : Wd} (h : Le n W W') {a : Addr} {vs : List V} (r : SqL K W.G a vs) : SqL K W'.G a vs := r.imp (Rd.le h rfl) id
theorem SqT.le {K : PySem.W.Frag} {n : Nat} {W W' : Wd} (h : Le n W W') {a : Addr} {vs : List V} (r : SqT K W.G a vs) : SqT K W'.G a vs := r.imp (Rd.le h rfl) id
theorem Rd.up {G H : Hp} (h : ∀ a o, G a = some o → H a = some o) {a : Addr} {u : HO} (r : Rd G a u) : Rd H a u := r.imp (h _ _) fun ⟨o, e⟩ => ⟨o, h _ _ e⟩
theorem SqL.up {K : PySem.W.Frag} {G H : Hp} (h : ∀ a o, G a = some o → H a = some o) {a : Addr} {vs : List V} (r : SqL K G a vs) : SqL K H a vs := r.imp (Rd.up h) id
theorem SqT.up {K : PySem.W.Frag} {G H : Hp} (h : ∀ a o, G a = some o → H a = some o) {a : Addr} {vs : List V} (r : SqT K G a vs) : SqT K H a vs := r.imp (Rd.up h) id

mutual
inductive RelD (K : PySem.W.Frag) (cl : Nat → Addr) (G : Hp) : Dv → V → Prop
  | non : RelD K cl G .non .non
  | bl (b : Bool) : RelD K cl G (.bl b) (.bl b)
  | int (i : Int) : RelD K cl G (.int i) (.int i)
  | str (s : Str) (h : PyData.strOk s = true) : RelD K cl G (.str s) (.str s)
  | tup {a : Addr} {xs : List Dv} {vs : List V} (h : SqT K G a vs) (r : RelDs K cl G xs vs) : RelD K cl G (.tup xs) (.ref a)
  | lst {a : Addr} {xs : List Dv} {vs : List V} (h : SqL K G a vs) (r : RelDs K cl G xs vs) : RelD K cl G (.lst xs) (.ref a)
  | dic {a : Addr} {o : HO} {ks : List Key} {xs : List Dv} {vs : List V} (h : G a = some o) (c : core o = .dK (ks.zip vs)) (l : DKl ks xs.length) (r : RelDs K cl G xs vs) : RelD K cl G (.dic ks xs) (.ref a)
  | ins {a dx : Addr} {c : Nat} {fs : List Str} {xs : List Dv} {vs : List V} (h : G a = some (.ins (cl c) dx (fs.zip vs))) (l : fs.length = xs.length) (r : RelDs K cl G xs vs) : RelD K cl G (.ins c fs xs) (.ref a)
inductive RelDs (K : PySem.W.Frag) (cl : Nat → Addr) (G : Hp) : List Dv → List V → Prop
  | nil : RelDs K cl G [] []
  | cons {x : Dv} {v : V} {xs : List Dv} {vs : List V} (h : RelD K cl G x v) (r : RelDs K cl G xs vs) : RelDs K cl G (x :: xs) (v :: vs)
end

section
variable {K : PySem.W.Frag} {cl : Nat → Addr} {n : Nat} {W W' : Wd}
theorem RelD.le (h : Le n W W') : ∀ {x : Dv} {v : V}, RelD K cl W.G x v → RelD K cl W'.G x v := by
  intro x v r
  refine RelD.rec (motive_1 := fun x v _ => RelD K cl W'.G x v) (motive_2 := fun xs vs _ => RelDs K cl W'.G xs vs) .non .bl .int .str ?_ ?_ ?_ ?_ .nil ?_ r
  · intro a xs vs e _ ih; exact .tup (SqT.le h e) ih
  · intro a xs vs e _ ih; exact .lst (SqL.le h e) ih
  · intro a o ks xs vs e c l _ ih
    obtain ⟨o', e', s⟩ := h.g _ _ e
    refine .dic e' ?_ l ih
    rcases s with rfl | ⟨kvs, od, rfl, rfl⟩
    · exact c
    · exact c
  · intro a dx c fs xs vs e l _ ih
    obtain ⟨o', e', s⟩ := h.g _ _ e
    rw [s.plain rfl] at e'
    exact .ins e' l ih
  · intro x v xs vs _ _ i1 i2; exact .cons i1 i2
theorem RelDs.le (h : Le n W W') : ∀ {xs : List Dv} {vs : List V}, RelDs K cl W.G xs vs → RelDs K cl W'.G xs vs
  | _, _, .nil => .nil
  | _, _, .cons a b => .cons (RelD.le h a) (RelDs.le h b)
theorem RelDs.length {G : Hp} : ∀ {xs : List Dv} {vs : List V}, RelDs K cl G xs vs → xs.length = vs.length
  | _, _, .nil => rfl
  | _, _, .cons _ b => congrArg Nat.succ (RelDs.length b)
theorem RelDs.paired {G : Hp} : ∀ {xs : List Dv} {vs : List V}, RelDs K cl G xs vs → Paired (RelD K cl G) xs vs
  | _, _, .nil => .nil
  | _, _, .cons a b => .cons a (RelDs.paired b)
theorem RelDs.of {G : Hp} : ∀ {xs : List Dv} {vs : List V}, Paired (RelD K cl G) xs vs → RelDs K cl G xs vs
  | _, _, .nil => .nil
  | _, _, .cons a b => .cons a (RelDs.of b)

variable (K cl)
def RelSV (W : Wd) (n : Nat) : SV → V → Prop
  | .d x, v => RelD K cl W.G x v
  | .m i, v => i < n ∧ v = .ref (W.ρ i)
def Wd.un (W : Wd) (a : Addr) : Prop := W.G a = none ∧ W.L a = none
def RelMO (W : Wd) (n : Nat) (H : Hp) (a : Addr) : MO → Prop
  | .lst xs => W.un a ∧ ∃ vs, H a = some (.lst vs) ∧ Paired (RelSV K cl W n) xs vs
  | .dic ks xs => W.un a ∧ ∃ vs, H a = some (.dK (ks.zip vs)) ∧ DKl ks xs.length ∧ Paired (RelSV K cl W n) xs vs
  | .ins c fs xs => W.un a ∧ ∃ vs dx, H a = some (.ins (cl c) dx (fs.zip vs)) ∧ fs.length = xs.length ∧ Paired (RelSV K cl W n) xs vs
  | .frz x => RelD K cl W.G x (.ref a)
  | .tup xs => W.un a ∧ ∃ vs, H a = some (.tup vs) ∧ Paired (RelSV K cl W n) xs vs
  | .lck ks xs => W.G a = none ∧ ∃ vs od, (H a = some (.frz od (.dK (ks.zip vs))) ∧ W.L a = some (.frz od (.dK (ks.zip vs)))) ∧ DKl ks xs.length ∧ Paired (RelSV K cl W n) xs vs
structure Rel (W : Wd) (S : Sto) (H : Hp) : Prop where
  fz : ∀ a o, W.G a = some o → H a = some o
  st : ∀ (i : Nat) (mo : MO), S[i]? = some mo → RelMO K cl W S.length H (W.ρ i) mo
  inj : ∀ (i j : Nat) (mi mj : MO), S[i]? = some mi → S[j]? = some mj → isMut mi = true → isMut mj = true → W.ρ i = W.ρ j → i = j
  lk : ∀ a o, W.L a = some o → H a = some o ∧ ∃ od u, o = .frz od u
structure EnvR (W : Wd) (n : Nat) (env : Env) (σ : St) : Prop where
  len : σ.length = env.length
  get : ∀ (i : Nat) (sv : SV), env[i]? = some (some sv) → ∃ v, σ[i]? = some (some v) ∧ RelSV K cl W n sv v
/-- an exception: its class, its fields -/
def RelX (W : Wd) (e : Exc) (c : Value) (d : Option Addr) (H : Hp) : Prop :=
  c = .ref (cl e.c) ∧ e.fs.length = e.xs.length ∧ (e.fs = [] ∧ d = none ∨ ∃ dd vs, d = some dd ∧ H dd = some (.xd (e.fs.zip vs)) ∧ RelDs K cl W.G e.xs vs)
variable {K cl}
theorem RelSV.le {k : Nat} (h : Le n W W') (hk : n ≤ k) {sv : SV} {v : V} (r : RelSV K cl W n sv v) : RelSV K cl W' k sv v := by
  cases sv with
  | d x => exact RelD.le h r
  | m i =>
    obtain ⟨r1, r2⟩ := r
    exact ⟨Nat.lt_of_lt_of_le r1 hk, by rw [h.r i r1]; exact r2⟩
theorem RelSVs.le {k : Nat} (h : Le n W W') (hk : n ≤ k) {sv : List SV} {v : List V} (r : Paired (RelSV K cl W n) sv v) : Paired (RelSV K cl W' k) sv v :=
  Paired.mapP r fun _ _ q => RelSV.le h hk q
theorem EnvR.le {k : Nat} {env : Env} {σ : St} (h : Le n W W') (hk : n ≤ k) (r : EnvR K cl W n env σ) : EnvR K cl W' k env σ :=
  ⟨r.len, fun i sv e => let ⟨v, e1, r1⟩ := r.get i sv e; ⟨v, e1, RelSV.le h hk r1⟩⟩
theorem EnvR.set {env : Env} {σ : St} {sv : SV} {v : V} (r : EnvR K cl W n env σ) (i : Nat) (q : RelSV K cl W n sv v) : EnvR K cl W n (env.set i (some sv)) (σ.set i (some v)) := by
  refine ⟨by rw [List.length_set, List.length_set, r.len], fun j w e => ?_⟩
  by_cases hj : i = j
  · subst hj
    rw [List.getElem?_set] at e
    split at e
    · rename_i hl
      split at e
      · rename_i hl2
        cases e
        refine ⟨v, ?_, q⟩
        rw [List.getElem?_set, if_pos rfl, if_pos (by rw [r.len]; exact hl2)]
      · cases e
    · rename_i hl; exact absurd rfl hl
  · rw [List.getElem?_set_ne hj] at e
    obtain ⟨w', e1, r1⟩ := r.get j w e
    exact ⟨w', by rw [List.getElem?_set_ne hj]; exact e1, r1⟩
end

/-! ### what a result asks -/
def SV.below (b : Nat) : SV → Prop
  | .d _ => True
  | .m i => i < b
def MO.below (b : Nat) : MO → Prop
  | .lst xs => ∀ x ∈ xs, SV.below b x
  | .dic _ xs => ∀ x ∈ xs, SV.below b x
  | .ins _ _ xs => ∀ x ∈ xs, SV.below b x
  | .frz _ => True
  | .tup xs => ∀ x ∈ xs, SV.below b x
  | .lck _ xs => ∀ x ∈ xs, SV.below b x
/-- nothing below b looks above b -/
def WFB (b : Nat) (S : Sto) : Prop := ∀ (i : Nat) (mo : MO), i < b → S[i]? = some mo → mo.below b
structure Gr (b : Nat) (S S' : Sto) : Prop where
  len : S.length ≤ S'.length
  wf : ∀ b', b' ≤ b → WFB b' S → WFB b' S'
theorem Gr.refl (b : Nat) (S : Sto) : Gr b S S := ⟨Nat.le_refl _, fun _ _ h => h⟩
theorem Gr.trans {b c : Nat} {S S1 S2 : Sto} (h : Gr b S S1) (k : Gr c S1 S2) (hb : b ≤ c) : Gr b S S2 := ⟨Nat.le_trans h.len k.len, fun b' hb' w => k.wf b' (Nat.le_trans hb' hb) (h.wf b' hb' w)⟩
theorem Gr.less {b c : Nat} {S S1 : Sto} (h : Gr c S S1) (hb : b ≤ c) : Gr b S S1 := ⟨h.len, fun b' hb' => h.wf b' (Nat.le_trans hb' hb)⟩
/-- a frame: its floor in the store, its names -/
structure Fr where
  b : Nat
  v : Env
section
variable (K : PySem.W.Frag) (cl : Nat → Addr) (Wx : WX)
def Out {α β : Type} (Ra : Wd → Nat → α → β → Prop) (b : Nat) (W : Wd) (S : Sto) (σ : St) (r : Res α) (Q : β → Hp → Prop) : Prop := match r with
  | .ok a S' => ∀ W' H' v, Gr b S S' → Le S.length W W' → Rel K cl W' S' H' → Ra W' S'.length a v → Q v H'
  | .ex e S' => ∀ W' H' c d, Gr b S S' → Le S.length W W' → Rel K cl W' S' H' → RelX K cl W' e c d H' → Wx c d σ H'
  | .bad => False
abbrev RSV : Wd → Nat → SV → V → Prop := fun W n => RelSV K cl W n
abbrev RSVs : Wd → Nat → List SV → List V → Prop := fun W n => Paired (RelSV K cl W n)
abbrev RB : Wd → Nat → Bool → Bool → Prop := fun _ _ a b => b = a
variable {K cl Wx} {α β γ δ : Type} {Ra : Wd → Nat → α → β → Prop} {Rb : Wd → Nat → γ → δ → Prop} {W W1 : Wd} {b : Nat} {S S1 : Sto} {σ : St}
theorem Out.rebase {r : Res α} {Q : β → Hp → Prop} (h : Out K cl Wx Ra b W S σ r Q) (hn : Gr b S S1) (hl : Le S.length W W1) : Out K cl Wx Ra b W1 S1 σ r Q := by
  cases r with
  | ok a S' => exact fun W' H' v h1 h2 => h W' H' v (hn.trans h1 (Nat.le_refl _)) (hl.trans h2 hn.len)
  | ex e S' => exact fun W' H' c d h1 h2 => h W' H' c d (hn.trans h1 (Nat.le_refl _)) (hl.trans h2 hn.len)
  | bad => exact h
/-- behind the first part -/
def Mid (K : PySem.W.Frag) (cl : Nat → Addr) (Ra : Wd → Nat → α → β → Prop) (b : Nat) (W : Wd) (S : Sto) (P : Wd → Sto → α → Prop) (v : β) (H1 : Hp) : Prop :=
  ∃ W1 S1 a, Gr b S S1 ∧ Le S.length W W1 ∧ Rel K cl W1 S1 H1 ∧ Ra W1 S1.length a v ∧ P W1 S1 a
theorem Out.bind {r : Res α} {g : α → Sto → Res γ} {Q : δ → Hp → Prop} (h : Out K cl Wx Rb b W S σ (r.bind g) Q) :
    Out K cl Wx Ra b W S σ r (Mid K cl Ra b W S fun W1 S1 a => Out K cl Wx Rb b W1 S1 σ (g a S1) Q) := by
  cases r with
  | ok a S' => exact fun W' H' v h1 h2 h3 h4 => ⟨W', S', a, h1, h2, h3, h4, Out.rebase h h1 h2⟩
  | ex e S' => exact h
  | bad => exact h
theorem Out.mono {r : Res α} {Q Q' : β → Hp → Prop} (h : Out K cl Wx Ra b W S σ r Q) (hq : ∀ v H, Q v H → Q' v H) : Out K cl Wx Ra b W S σ r Q' := by
  cases r with
  | ok a S' => exact fun W' H' v h1 h2 h3 h4 => hq _ _ (h W' H' v h1 h2 h3 h4)
  | ex e S' => exact h
  | bad => exact h
end
/-- where the classes lie; what else is known of the world for as long as the judgement lasts -/
structure CL where
  f : Nat → Addr
  gh : Wd → Env → St → Prop
  mono : ∀ {n : Nat} {W W' : Wd} {v : Env} {σ : St}, Le n W W' → gh W v σ → gh W' v σ
  put : ∀ {W : Wd} {v : Env} {σ : St} (i : Nat) (x : SV) (y : V), gh W v σ → gh W (v.set i (some x)) (σ.set i (some y))
instance : CoeFun CL (fun _ => Nat → Addr) := ⟨CL.f⟩
instance : Coe CL (Nat → Addr) := ⟨CL.f⟩
abbrev CL.pure (f : Nat → Addr) : CL := ⟨f, fun _ _ _ => True, fun _ _ => trivial, fun _ _ _ _ => trivial⟩
/-- the state of a frame -/
structure At (K : PySem.W.Frag) (cl : CL) (W : Wd) (F : Fr) (S : Sto) (σ : St) (H : Hp) : Prop where
  b : F.b ≤ S.length
  rel : Rel K cl W S H
  env : EnvR K cl W S.length F.v σ
  gh : cl.gh W F.v σ
theorem At.on {K : PySem.W.Frag} {cl : CL} {W W1 : Wd} {F : Fr} {S S1 : Sto} {σ : St} {H H1 : Hp} (h : At K cl W F S σ H) (g : Gr F.b S S1) (l : Le S.length W W1) (r : Rel K cl W1 S1 H1) : At K cl W1 F S1 σ H1 :=
  ⟨Nat.le_trans h.b g.len, r, h.env.le l g.len, cl.mono l h.gh⟩

theorem PE.weak {X : Cx} {e : Expr} {t t' : TE} (h : PE X e t) (k : ∀ σ H Q, t' σ H Q → t σ H Q) : PE X e t' := ⟨fun pins s σ H Q I q => h.run pins s σ H Q I (k σ H Q q)⟩
theorem PT.weak {X : Cx} {e : Expr} {t t' : TT} (h : PT X e t) (k : ∀ σ H Q, t' σ H Q → t σ H Q) : PT X e t' := ⟨fun pins s σ H Q I q => h.run pins s σ H Q I (k σ H Q q)⟩
theorem PA.weak {X : Cx} {e : List Expr} {t t' : TA} (h : PA X e t) (k : ∀ σ H Q, t' σ H Q → t σ H Q) : PA X e t' := ⟨fun pos pins s σ H Q I q => h.run pos pins s σ H Q I (k σ H Q q)⟩
theorem PS.weak {X : Cx} {e : Stmt} {t t' : TS} (h : PS X e t) (k : ∀ D σ H, t' D σ H → t D σ H) : PS X e t' := ⟨fun pins s σ H D I q => h.run pins s σ H D I (k D σ H q)⟩
theorem PSs.weak {X : Cx} {e : List Stmt} {t t' : TS} (h : PSs X e t) (k : ∀ D σ H, t' D σ H → t D σ H) : PSs X e t' := ⟨fun pins s σ H D I q => h.run pins s σ H D I (k D σ H q)⟩
theorem OpR.weak {X : Cx} {f : Value → Value → Sem Value} {r r' : R2} (h : OpR X f r) (k : ∀ x y H Q, r' x y H Q → r x y H Q) : OpR X f r' := by
  intro pins s σ H x y v u Q I h1 h2 q
  exact h pins s σ H x y v u Q I h1 h2 (k _ _ _ _ q)
theorem CallR.weak {X : Cx} {f : Value} {r r' : List V → Hp → VK → Prop} (h : CallR X f r) (k : ∀ x H Q, r' x H Q → r x H Q) : CallR X f r' := by
  intro pins s σ H x us Q I h1 q
  exact h pins s σ H x us Q I h1 (k _ _ _ q)
end Ev

set_option Elab.async false
set_option linter.all false
set_option maxRecDepth 100000
/-! Ev2: freezing, new objects, the plainest expressions. -/
namespace Ev
open PySem L2

/-! ### freezing -/
def rdD (S : Sto) : SV → Option Dv
  | .d x => some x
  | .m i => match S[i]? with
    | some (.frz x) => some x
    | _ => none
def rdDs (S : Sto) : List SV → Option (List Dv)
  | [] => some []
  | x :: r => match rdD S x, rdDs S r with
    | some a, some b => some (a :: b)
    | _, _ => none
def frzO (S : Sto) (i : Nat) (x : List Dv → Dv) (xs : List SV) : Sto := match rdDs S xs with
  | some ds => S.set i (.frz (x ds))
  | none => S
def fz1 (S : Sto) (i : Nat) : Sto := match S[i]? with
  | some (.lst xs) => frzO S i .lst xs
  | some (.dic ks xs) => frzO S i (.dic ks) xs
  | some (.ins c fs xs) => frzO S i (.ins c fs) xs
  | some (.tup xs) => frzO S i .tup xs
  | _ => S
def fzD : Nat → Sto → SV → Sto
  | 0, S, _ => S
  | _ + 1, S, .d _ => S
  | k + 1, S, .m i => fz1 (match S[i]? with
    | some (.lst xs) => xs.foldl (fzD k) S
    | some (.dic _ xs) => xs.foldl (fzD k) S
    | some (.ins _ _ xs) => xs.foldl (fzD k) S
    | some (.tup xs) => xs.foldl (fzD k) S
    | _ => S) i
def freeze (S : Sto) (x : SV) : Option (Dv × Sto) := match rdD (fzD 6 S x) x with
  | some a => some (a, fzD 6 S x)
  | none => none
def frzs : Sto → List SV → Option (List Dv × Sto)
  | S, [] => some ([], S)
  | S, x :: r => match freeze S x with
    | some (a, S1) => match frzs S1 r with
      | some (as, S2) => some (a :: as, S2)
      | none => none
    | none => none
@[simp] theorem fzD_d (k : Nat) (S : Sto) (x : Dv) : fzD k S (.d x) = S := by cases k <;> rfl
@[simp] theorem rdD_d (S : Sto) (x : Dv) : rdD S (.d x) = some x := rfl
@[simp] theorem freeze_d (S : Sto) (x : Dv) : freeze S (.d x) = some (x, S) := rfl
@[simp] theorem rdDs_d (S : Sto) : ∀ xs : List Dv, rdDs S (xs.map .d) = some xs
  | [] => rfl
  | x :: r => by rw [List.map_cons, rdDs, rdDs_d S r]; rfl
@[simp] theorem frzs_d (S : Sto) : ∀ xs : List Dv, frzs S (xs.map .d) = some (xs, S)
  | [] => rfl
  | x :: r => by rw [List.map_cons, frzs, freeze_d]; simp only; rw [frzs_d S r]
theorem fold_d (k : Nat) (S : Sto) : ∀ xs : List Dv, (xs.map SV.d).foldl (fzD k) S = S
  | [] => rfl
  | x :: r => by rw [List.map_cons, List.foldl_cons, fzD_d, fold_d k S r]
theorem freeze_lst {S : Sto} {i : Nat} {xs : List Dv} (h : S[i]? = some (.lst (xs.map .d))) : freeze S (.m i) = some (.lst xs, S.set i (.frz (.lst xs))) := by
  have hi := (List.getElem?_eq_some_iff.mp h).1
  have e : fzD 6 S (.m i) = S.set i (.frz (.lst xs)) := by
    unfold fzD
    simp only [h, fold_d]
    unfold fz1
    simp only [h]
    unfold frzO
    rw [rdDs_d]
  unfold freeze
  rw [e]
  simp [rdD, hi]
theorem freeze_tup {S : Sto} {i : Nat} {xs : List Dv} (h : S[i]? = some (.tup (xs.map .d))) : freeze S (.m i) = some (.tup xs, S.set i (.frz (.tup xs))) := by
  have hi := (List.getElem?_eq_some_iff.mp h).1
  have e : fzD 6 S (.m i) = S.set i (.frz (.tup xs)) := by
    unfold fzD
    simp only [h, fold_d]
    unfold fz1
    simp only [h]
    unfold frzO
    rw [rdDs_d]
  unfold freeze
  rw [e]
  simp [rdD, hi]
theorem freeze_dic {S : Sto} {i : Nat} {ks : List Key} {xs : List Dv} (h : S[i]? = some (.dic ks (xs.map .d))) : freeze S (.m i) = some (.dic ks xs, S.set i (.frz (.dic ks xs))) := by
  have hi := (List.getElem?_eq_some_iff.mp h).1
  have e : fzD 6 S (.m i) = S.set i (.frz (.dic ks xs)) := by
    unfold fzD
    simp only [h, fold_d]
    unfold fz1
    simp only [h]
    unfold frzO
    rw [rdDs_d]
  unfold freeze
  rw [e]
  simp [rdD, hi]
theorem freeze_ins {S : Sto} {i c : Nat} {fs : List Str} {xs : List Dv} (h : S[i]? = some (.ins c fs (xs.map .d))) : freeze S (.m i) = some (.ins c fs xs, S.set i (.frz (.ins c fs xs))) := by
  have hi := (List.getElem?_eq_some_iff.mp h).1
  have e : fzD 6 S (.m i) = S.set i (.frz (.ins c fs xs)) := by
    unfold fzD
    simp only [h, fold_d]
    unfold fz1
    simp only [h]
    unfold frzO
    rw [rdDs_d]
  unfold freeze
  rw [e]
  simp [rdD, hi]
theorem freeze_frz {S : Sto} {i : Nat} {x : Dv} (h : S[i]? = some (.frz x)) : freeze S (.m i) = some (x, S) := by
  have e : fzD 6 S (.m i) = S := by
    unfold fzD
    simp only [h]
    unfold fz1
    simp only [h]
  unfold freeze
  rw [e]
  simp [rdD, h]

section
variable {K : PySem.W.Frag} {cl : Nat → Addr}
/-- a step of the store alone -/
structure GSt (K : PySem.W.Frag) (cl : Nat → Addr) (S S' : Sto) : Prop where
  len : S'.length = S.length
  wf : ∀ b, WFB b S → WFB b S'
  rel : ∀ W H, Rel K cl W S H → ∃ W', W'.ρ = W.ρ ∧ Le S.length W W' ∧ Rel K cl W' S' H
theorem GSt.refl (S : Sto) : GSt K cl S S := ⟨rfl, fun _ h => h, fun W H r => ⟨W, rfl, .refl _ _, r⟩⟩
theorem GSt.trans {S S1 S2 : Sto} (h : GSt K cl S S1) (k : GSt K cl S1 S2) : GSt K cl S S2 :=
  ⟨k.len.trans h.len, fun b w => k.wf b (h.wf b w), fun W H r => by
    obtain ⟨W1, e1, l1, r1⟩ := h.rel W H r
    obtain ⟨W2, e2, l2, r2⟩ := k.rel W1 H r1
    exact ⟨W2, e2.trans e1, l1.trans l2 (Nat.le_of_eq h.len.symm), r2⟩⟩
theorem rdD_rel {W : Wd} {S : Sto} {H : Hp} {n : Nat} (r : Rel K cl W S H) : ∀ {x : SV} {y : Dv} {v : V}, rdD S x = some y → RelSV K cl W n x v → RelD K cl W.G y v
  | .d x, y, v, e, q => by cases e; exact q
  | .m i, y, v, e, q => by
    simp only [rdD] at e
    split at e
    · rename_i hz
      cases e
      obtain ⟨_, rfl⟩ := q
      exact r.st i _ hz
    · cases e
theorem rdDs_rel {W : Wd} {S : Sto} {H : Hp} {n : Nat} (r : Rel K cl W S H) : ∀ {xs : List SV} {ys : List Dv} {vs : List V}, rdDs S xs = some ys → Paired (RelSV K cl W n) xs vs → RelDs K cl W.G ys vs
  | [], ys, [], e, .nil => by cases e; exact .nil
  | x :: xs, ys, v :: vs, e, .cons q t => by
    unfold rdDs at e
    split at e
    · rename_i a b h1 h2
      cases e
      exact .cons (rdD_rel r h1 q) (rdDs_rel r h2 t)
    · cases e
theorem rdDs_len {S : Sto} : ∀ {xs : List SV} {ys : List Dv}, rdDs S xs = some ys → xs.length = ys.length
  | [], ys, e => by cases e; rfl
  | x :: xs, ys, e => by
    unfold rdDs at e
    split at e
    · rename_i a b h1 h2
      cases e
      exact congrArg Nat.succ (rdDs_len h2)
    · cases e
/-- an entry is frozen -/
theorem frz_set {S : Sto} {i : Nat} {mo : MO} {x : Dv} (hi : S[i]? = some mo) (hm : isMut mo = true)
    (h : ∀ W H, Rel K cl W S H → ∃ ho, H (W.ρ i) = some ho ∧ W.G (W.ρ i) = none ∧ RelD K cl (upd W.G (W.ρ i) ho) x (.ref (W.ρ i))) : GSt K cl S (S.set i (.frz x)) := by
  have hl : i < S.length := (List.getElem?_eq_some_iff.mp hi).1
  refine ⟨by rw [List.length_set], fun b w j mj hj ej => ?_, fun W H r => ?_⟩
  · by_cases e : i = j
    · subst e
      rw [List.getElem?_set, if_pos rfl, if_pos hl] at ej
      cases ej
      trivial
    · rw [List.getElem?_set_ne e] at ej
      exact w j mj hj ej
  · obtain ⟨ho, h1, h2, h3⟩ := h W H r
    have le : Le S.length W ⟨W.ρ, upd W.G (W.ρ i) ho, W.L⟩ := ⟨fun a o e => ⟨o, by
      show upd _ _ _ _ = _
      rw [upd_ne (fun q => by rw [q, h2] at e; cases e)]
      exact e, .refl _⟩, fun _ _ => rfl, fun _ _ h => h⟩
    refine ⟨⟨W.ρ, upd W.G (W.ρ i) ho, W.L⟩, rfl, le, ⟨fun a o e => ?_, fun j mj ej => ?_, fun j k mj mk ej ek a1 a2 q => ?_, r.lk⟩⟩
    · have e : upd W.G (W.ρ i) ho a = some o := e
      by_cases ea : a = W.ρ i
      · subst ea
        rw [upd_same] at e
        cases e
        exact h1
      · rw [upd_ne ea] at e
        exact r.fz a o e
    · rw [List.length_set]
      by_cases e : i = j
      · subst e
        rw [List.getElem?_set, if_pos rfl, if_pos hl] at ej
        cases ej
        exact h3
      · rw [List.getElem?_set_ne e] at ej
        have q := r.st j mj ej
        have ne : isMut mj = true → W.ρ j ≠ W.ρ i := fun a z => e ((r.inj i j mo mj hi ej hm a z.symm))
        cases mj with
        | lst xs => obtain ⟨q1, vs, q2, q3⟩ := q; exact ⟨⟨by show upd _ _ _ _ = _; rw [upd_ne (ne rfl)]; exact q1.1, q1.2⟩, vs, q2, RelSVs.le le (Nat.le_refl _) q3⟩
        | dic ks xs => obtain ⟨q1, vs, q2, q4, q3⟩ := q; exact ⟨⟨by show upd _ _ _ _ = _; rw [upd_ne (ne rfl)]; exact q1.1, q1.2⟩, vs, q2, q4, RelSVs.le le (Nat.le_refl _) q3⟩
        | ins c fs xs => obtain ⟨q1, vs, dx, q2, q4, q3⟩ := q; exact ⟨⟨by show upd _ _ _ _ = _; rw [upd_ne (ne rfl)]; exact q1.1, q1.2⟩, vs, dx, q2, q4, RelSVs.le le (Nat.le_refl _) q3⟩
        | frz y => exact RelD.le le q
        | tup xs => obtain ⟨q1, vs, q2, q3⟩ := q; exact ⟨⟨by show upd _ _ _ _ = _; rw [upd_ne (ne rfl)]; exact q1.1, q1.2⟩, vs, q2, RelSVs.le le (Nat.le_refl _) q3⟩
        | lck ks xs => obtain ⟨q1, vs, od, q2, q4, q3⟩ := q; exact ⟨by show upd _ _ _ _ = _; rw [upd_ne (ne rfl)]; exact q1, vs, od, q2, q4, RelSVs.le le (Nat.le_refl _) q3⟩
    · have hj : i ≠ j := fun z => by
        subst z
        rw [List.getElem?_set, if_pos rfl, if_pos hl] at ej
        cases ej
        cases a1
      have hk : i ≠ k := fun z => by
        subst z
        rw [List.getElem?_set, if_pos rfl, if_pos hl] at ek
        cases ek
        cases a2
      rw [List.getElem?_set_ne hj] at ej
      rw [List.getElem?_set_ne hk] at ek
      exact r.inj j k mj mk ej ek a1 a2 q
theorem gpin {W : Wd} {a : Addr} {ho : HO} (h2 : W.G a = none) (n : Nat) : Le n W ⟨W.ρ, upd W.G a ho, W.L⟩ := ⟨fun b o e => ⟨o, by
      show upd _ _ _ _ = _
      rw [upd_ne (fun q => by rw [q, h2] at e; cases e)]
      exact e, .refl _⟩, fun _ _ => rfl, fun _ _ h => h⟩
theorem fz1_ok (S : Sto) (i : Nat) : GSt K cl S (fz1 S i) := by
  unfold fz1
  split
  · rename_i xs hx
    unfold frzO
    split
    · rename_i ds hd
      refine frz_set hx rfl fun W H r => ?_
      obtain ⟨q1, vs, q2, q3⟩ := r.st i _ hx
      exact ⟨_, q2, q1.1, .lst (.of upd_same) (RelDs.le (gpin q1.1 0) (rdDs_rel r hd q3))⟩
    · exact .refl _
  · rename_i ks xs hx
    unfold frzO
    split
    · rename_i ds hd
      refine frz_set hx rfl fun W H r => ?_
      obtain ⟨q1, vs, q2, q4, q3⟩ := r.st i _ hx
      exact ⟨_, q2, q1.1, .dic (upd_same) rfl (rdDs_len hd ▸ q4) (RelDs.le (gpin q1.1 0) (rdDs_rel r hd q3))⟩
    · exact .refl _
  · rename_i c fs xs hx
    unfold frzO
    split
    · rename_i ds hd
      refine frz_set hx rfl fun W H r => ?_
      obtain ⟨q1, vs, dx, q2, q4, q3⟩ := r.st i _ hx
      exact ⟨_, q2, q1.1, .ins (upd_same) (q4.trans (rdDs_len hd)) (RelDs.le (gpin q1.1 0) (rdDs_rel r hd q3))⟩
    · exact .refl _
  · rename_i xs hx
    unfold frzO
    split
    · rename_i ds hd
      refine frz_set hx rfl fun W H r => ?_
      obtain ⟨q1, vs, q2, q3⟩ := r.st i _ hx
      exact ⟨_, q2, q1.1, .tup (.of upd_same) (RelDs.le (gpin q1.1 0) (rdDs_rel r hd q3))⟩
    · exact .refl _
  · exact .refl _
theorem fold_ok {k : Nat} (h : ∀ S x, GSt K cl S (fzD k S x)) : ∀ (xs : List SV) (S : Sto), GSt K cl S (xs.foldl (fzD k) S)
  | [], S => .refl S
  | x :: r, S => (h S x).trans (fold_ok h r _)
theorem fzD_ok : ∀ (k : Nat) (S : Sto) (x : SV), GSt K cl S (fzD k S x)
  | 0, S, x => .refl S
  | k + 1, S, .d x => by rw [fzD_d]; exact .refl S
  | k + 1, S, .m i => by
    unfold fzD
    refine GSt.trans ?_ (fz1_ok _ i)
    split
    · exact fold_ok (fzD_ok k) _ _
    · exact fold_ok (fzD_ok k) _ _
    · exact fold_ok (fzD_ok k) _ _
    · exact fold_ok (fzD_ok k) _ _
    · exact .refl _
theorem freeze_ok {S S' : Sto} {x : SV} {y : Dv} (h : freeze S x = some (y, S')) : S'.length = S.length ∧ (∀ b, WFB b S → WFB b S') ∧
    ∀ W H v, Rel K cl W S H → RelSV K cl W S.length x v → ∃ W', W'.ρ = W.ρ ∧ Le S.length W W' ∧ Rel K cl W' S' H ∧ RelD K cl W'.G y v := by
  unfold freeze at h
  split at h
  · rename_i a ha
    cases h
    obtain ⟨h1, h2, h3⟩ := fzD_ok (K := K) (cl := cl) 6 S x
    refine ⟨h1, h2, fun W H v r q => ?_⟩
    obtain ⟨W', e, l, r'⟩ := h3 W H r
    exact ⟨W', e, l, r', rdD_rel r' ha (RelSV.le l (Nat.le_refl _) q)⟩
  · cases h
theorem frzs_ok : ∀ {xs : List SV} {S S' : Sto} {ys : List Dv}, frzs S xs = some (ys, S') → S'.length = S.length ∧ (∀ b, WFB b S → WFB b S') ∧
    ∀ W H vs, Rel K cl W S H → Paired (RelSV K cl W S.length) xs vs → ∃ W', W'.ρ = W.ρ ∧ Le S.length W W' ∧ Rel K cl W' S' H ∧ RelDs K cl W'.G ys vs
  | [], S, S', ys, h => by
    cases h
    refine ⟨rfl, fun _ w => w, fun W H vs r q => ?_⟩
    cases q
    exact ⟨W, rfl, .refl _ _, r, .nil⟩
  | x :: xs, S, S', ys, h => by
    unfold frzs at h
    split at h
    · rename_i a S1 h1
      split at h
      · rename_i as S2 h2
        cases h
        obtain ⟨l1, w1, k1⟩ := freeze_ok (K := K) (cl := cl) h1
        obtain ⟨l2, w2, k2⟩ := frzs_ok h2
        refine ⟨l2.trans l1, fun b w => w2 b (w1 b w), fun W H vs r q => ?_⟩
        cases q with
        | cons q t =>
          obtain ⟨W1, e1, le1, r1, q1⟩ := k1 W H _ r q
          obtain ⟨W2, e2, le2, r2, q2⟩ := k2 W1 H _ r1 (RelSVs.le le1 (Nat.le_of_eq l1.symm) t)
          exact ⟨W2, e2.trans e1, le1.trans le2 (Nat.le_of_eq l1.symm), r2, .cons (RelD.le le2 q1) q2⟩
      · cases h
    · cases h

/-! ### new objects -/
theorem Rel.gnone {W : Wd} {S : Sto} {H : Hp} (r : Rel K cl W S H) {p : Addr} (h : H p = none) : W.G p = none := by
  cases e : W.G p with
  | none => rfl
  | some o => rw [r.fz p o e] at h; cases h
theorem Rel.unone {W : Wd} {S : Sto} {H : Hp} (r : Rel K cl W S H) {p : Addr} (h : H p = none) : W.un p := ⟨r.gnone h, by
  cases e : W.L p with
  | none => rfl
  | some o => rw [(r.lk p o e).1] at h; cases h⟩
theorem Rel.there {W : Wd} {S : Sto} {H : Hp} (r : Rel K cl W S H) {i : Nat} {mo : MO} (e : S[i]? = some mo) (hm : isMut mo = true) : ∃ o, H (W.ρ i) = some o := by
  have q := r.st i mo e
  cases mo with
  | lst xs => obtain ⟨_, _, q, _⟩ := q; exact ⟨_, q⟩
  | dic ks xs => obtain ⟨_, _, q, _⟩ := q; exact ⟨_, q⟩
  | ins c fs xs => obtain ⟨_, _, _, q, _⟩ := q; exact ⟨_, q⟩
  | frz x => cases hm
  | tup xs => obtain ⟨_, _, q, _⟩ := q; exact ⟨_, q⟩
  | lck ks xs => obtain ⟨_, _, _, q, _⟩ := q; exact ⟨_, q.1⟩
/-- what is changed or new in the heap touches nothing that is told -/
theorem RelMO.keep {W W' : Wd} {n k : Nat} {H H' : Hp} {a : Addr} {mo : MO} (q : RelMO K cl W n H a mo) (l : Le n W W') (hk : n ≤ k) (hL : W'.L = W.L) (hg : isMut mo = true → W.G a = none → W'.G a = none) (hh : isMut mo = true → H' a = H a) : RelMO K cl W' k H' a mo := by
  cases mo with
  | lst xs => obtain ⟨q1, vs, q2, q3⟩ := q; exact ⟨⟨hg rfl q1.1, by rw [hL]; exact q1.2⟩, vs, by rw [hh rfl]; exact q2, RelSVs.le l hk q3⟩
  | dic ks xs => obtain ⟨q1, vs, q2, q4, q3⟩ := q; exact ⟨⟨hg rfl q1.1, by rw [hL]; exact q1.2⟩, vs, by rw [hh rfl]; exact q2, q4, RelSVs.le l hk q3⟩
  | ins c fs xs => obtain ⟨q1, vs, dx, q2, q4, q3⟩ := q; exact ⟨⟨hg rfl q1.1, by rw [hL]; exact q1.2⟩, vs, dx, by rw [hh rfl]; exact q2, q4, RelSVs.le l hk q3⟩
  | frz x => exact RelD.le l q
  | tup xs => obtain ⟨q1, vs, q2, q3⟩ := q; exact ⟨⟨hg rfl q1.1, by rw [hL]; exact q1.2⟩, vs, by rw [hh rfl]; exact q2, RelSVs.le l hk q3⟩
  | lck ks xs => obtain ⟨q1, vs, od, q2, q4, q3⟩ := q; exact ⟨hg rfl q1, vs, od, ⟨by rw [hh rfl]; exact q2.1, by rw [hL]; exact q2.2⟩, q4, RelSVs.le l hk q3⟩
/-- a new thing that nobody will change -/
theorem Rel.newF {W : Wd} {S : Sto} {H : Hp} (r : Rel K cl W S H) {p : Addr} {ho : HO} (h : H p = none) : Rel K cl ⟨W.ρ, upd W.G p ho, W.L⟩ S (upd H p ho) ∧ Le S.length W ⟨W.ρ, upd W.G p ho, W.L⟩ := by
  have l : Le S.length W ⟨W.ρ, upd W.G p ho, W.L⟩ := gpin (r.gnone h) _
  refine ⟨⟨fun a o e => ?_, fun i mo e => ?_, r.inj, fun a o e => by rw [upd_ne (ne_of_none (r.lk a o e).1 h)]; exact r.lk a o e⟩, l⟩
  · have e : upd W.G p ho a = some o := e
    by_cases ea : a = p
    · subst ea
      rw [upd_same] at e ⊢
      exact e
    · rw [upd_ne ea] at e ⊢
      exact r.fz a o e
  · refine (r.st i mo e).keep l (Nat.le_refl _) rfl (fun hm g => ?_) fun hm => ?_
    · obtain ⟨o, ho'⟩ := r.there e hm
      show upd _ _ _ _ = _
      rw [upd_ne (ne_of_none ho' h)]
      exact g
    · obtain ⟨o, ho'⟩ := r.there e hm
      rw [upd_ne (ne_of_none ho' h)]
/-- a new thing of the store -/
def Wd.add (W : Wd) (n : Nat) (p : Addr) : Wd := ⟨fun i => if i = n then p else W.ρ i, W.G, W.L⟩
theorem Wd.add_at (W : Wd) (n : Nat) (p : Addr) : (W.add n p).ρ n = p := if_pos rfl
theorem Wd.add_le (W : Wd) (n : Nat) (p : Addr) : Le n W (W.add n p) := ⟨fun a o e => ⟨o, e, .refl _⟩, fun i hi => if_neg (Nat.ne_of_lt hi), fun _ _ h => h⟩
theorem Rel.newM {W : Wd} {S : Sto} {H : Hp} (r : Rel K cl W S H) {p : Addr} {ho : HO} {mo : MO} (h : H p = none) (hn : RelMO K cl (W.add S.length p) (S.length + 1) (upd H p ho) p mo) :
    Rel K cl (W.add S.length p) (S ++ [mo]) (upd H p ho) := by
  refine ⟨fun a o e => ?_, fun i mi e => ?_, fun i j mi mj ei ej ai aj q => ?_, fun a o e => by rw [upd_ne (ne_of_none (r.lk a o e).1 h)]; exact r.lk a o e⟩
  · rw [upd_ne (ne_of_none (r.fz a o e) h)]
    exact r.fz a o e
  · rw [List.length_append, List.length_singleton]
    by_cases hi : i < S.length
    · rw [List.getElem?_append_left hi] at e
      rw [show (W.add S.length p).ρ i = W.ρ i from if_neg (Nat.ne_of_lt hi)]
      refine (r.st i mi e).keep (W.add_le _ _) (Nat.le_succ _) rfl (fun _ g => g) fun hm => ?_
      obtain ⟨o, ho'⟩ := r.there e hm
      rw [upd_ne (ne_of_none ho' h)]
    · rw [List.getElem?_append_right (Nat.le_of_not_lt hi)] at e
      have z : i - S.length = 0 := by
        cases q : i - S.length with
        | zero => rfl
        | succ k => rw [q] at e; cases e
      have ei : i = S.length := by omega
      subst ei
      rw [z] at e
      cases e
      rw [Wd.add_at]
      exact hn
  · have one : ∀ i mi, (S ++ [mo])[i]? = some mi → i < S.length ∧ S[i]? = some mi ∨ i = S.length := fun i mi e => by
      by_cases hi : i < S.length
      · rw [List.getElem?_append_left hi] at e
        exact .inl ⟨hi, e⟩
      · have := (List.getElem?_eq_some_iff.mp e).1
        rw [List.length_append, List.length_singleton] at this
        exact .inr (by omega)
    rcases one i mi ei with ⟨h1, h2⟩ | rfl <;> rcases one j mj ej with ⟨k1, k2⟩ | rfl
    · rw [show (W.add S.length p).ρ i = W.ρ i from if_neg (Nat.ne_of_lt h1), show (W.add S.length p).ρ j = W.ρ j from if_neg (Nat.ne_of_lt k1)] at q
      exact r.inj i j mi mj h2 k2 ai aj q
    · rw [show (W.add S.length p).ρ i = W.ρ i from if_neg (Nat.ne_of_lt h1), Wd.add_at] at q
      obtain ⟨o, e⟩ := r.there h2 ai
      rw [q, h] at e; cases e
    · rw [show (W.add S.length p).ρ j = W.ρ j from if_neg (Nat.ne_of_lt k1), Wd.add_at] at q
      obtain ⟨o, e⟩ := r.there k2 aj
      rw [← q, h] at e; cases e
    · rfl
theorem Gr.add (b : Nat) (S : Sto) (mo : MO) (hb : b ≤ S.length) : Gr b S (S ++ [mo]) := ⟨by rw [List.length_append]; omega, fun b' hb' w i mi hi e => by
  rw [List.getElem?_append_left (by omega)] at e
  exact w i mi hi e⟩
end

/-! ### the judgements' readings -/
section
variable (X : Cx) (cl : CL) (Wx : WX)
def RE (f : Fr → Sto → Res SV) : TE := fun σ H Q => ∃ W F S, At X.K cl W F S σ H ∧ Out X.K cl Wx (RSV X.K cl) F.b W S σ (f F S) Q
def RT (f : Fr → Sto → Res Bool) : TT := fun σ H Q => ∃ W F S, At X.K cl W F S σ H ∧ Out X.K cl Wx RB F.b W S σ (f F S) Q
def RA (f : Fr → Sto → Res (List SV)) : TA := fun σ H Q => ∃ W F S, At X.K cl W F S σ H ∧ Out X.K cl Wx (RSVs X.K cl) F.b W S σ (f F S) Q
end
section
variable {X : Cx} {cl : CL} {Wx : WX} {σ : St} {H : Hp} {W : Wd} {F : Fr} {S : Sto}
theorem Out.here {K : PySem.W.Frag} {α β : Type} {Ra : Wd → Nat → α → β → Prop} {b : Nat} {a : α} {Q : β → Hp → Prop} {v : β} (h : Out K cl Wx Ra b W S σ (.ok a S) Q) (r : Rel K cl W S H) (q : Ra W S.length a v) : Q v H :=
  h W H v (.refl _ _) (.refl _ _) r q
/-- the part that stands first -/
theorem RE.of {f : Fr → Sto → Res SV} {g : SV → Sto → Res SV} {Q Q' : VK} (a : At X.K cl W F S σ H) (h : Out X.K cl Wx (RSV X.K cl) F.b W S σ ((f F S).bind g) Q)
    (k : ∀ W1 S1 x v H1, Gr F.b S S1 → Le S.length W W1 → At X.K cl W1 F S1 σ H1 → RelSV X.K cl W1 S1.length x v → Out X.K cl Wx (RSV X.K cl) F.b W1 S1 σ (g x S1) Q → Q' v H1) : RE X cl Wx f σ H Q' :=
  ⟨W, F, S, a, (Out.bind h).mono fun v H1 ⟨W1, S1, x, g1, l1, r1, q1, o1⟩ => k W1 S1 x v H1 g1 l1 (a.on g1 l1 r1) q1 o1⟩
theorem RT.of {f : Fr → Sto → Res Bool} {α β : Type} {Ra : Wd → Nat → α → β → Prop} {g : Bool → Sto → Res α} {Q : β → Hp → Prop} {Q' : Bool → Hp → Prop} (a : At X.K cl W F S σ H) (h : Out X.K cl Wx Ra F.b W S σ ((f F S).bind g) Q)
    (k : ∀ W1 S1 x H1, Gr F.b S S1 → Le S.length W W1 → At X.K cl W1 F S1 σ H1 → Out X.K cl Wx Ra F.b W1 S1 σ (g x S1) Q → Q' x H1) : RT X cl Wx f σ H Q' :=
  ⟨W, F, S, a, (Out.bind (Ra := RB) h).mono fun v H1 ⟨W1, S1, x, g1, l1, r1, q1, o1⟩ => by
    obtain rfl : v = x := q1
    exact k W1 S1 v H1 g1 l1 (a.on g1 l1 r1) o1⟩
theorem RE.ofT {f : Fr → Sto → Res SV} {g : SV → Sto → Res Bool} {Q : Bool → Hp → Prop} {Q' : VK} (a : At X.K cl W F S σ H) (h : Out X.K cl Wx RB F.b W S σ ((f F S).bind g) Q)
    (k : ∀ W1 S1 x v H1, Gr F.b S S1 → Le S.length W W1 → At X.K cl W1 F S1 σ H1 → RelSV X.K cl W1 S1.length x v → Out X.K cl Wx RB F.b W1 S1 σ (g x S1) Q → Q' v H1) : RE X cl Wx f σ H Q' :=
  ⟨W, F, S, a, (Out.bind h).mono fun v H1 ⟨W1, S1, x, g1, l1, r1, q1, o1⟩ => k W1 S1 x v H1 g1 l1 (a.on g1 l1 r1) q1 o1⟩
theorem RA.of {f : Fr → Sto → Res (List SV)} {g : List SV → Sto → Res SV} {Q : VK} {Q' : List V → Hp → Prop} (a : At X.K cl W F S σ H) (h : Out X.K cl Wx (RSV X.K cl) F.b W S σ ((f F S).bind g) Q)
    (k : ∀ W1 S1 x v H1, Gr F.b S S1 → Le S.length W W1 → At X.K cl W1 F S1 σ H1 → Paired (RelSV X.K cl W1 S1.length) x v → Out X.K cl Wx (RSV X.K cl) F.b W1 S1 σ (g x S1) Q → Q' v H1) : RA X cl Wx f σ H Q' :=
  ⟨W, F, S, a, (Out.bind h).mono fun v H1 ⟨W1, S1, x, g1, l1, r1, q1, o1⟩ => k W1 S1 x v H1 g1 l1 (a.on g1 l1 r1) q1 o1⟩

def eVar (i : Nat) : Fr → Sto → Res SV := fun F S => match F.v[i]? with
  | some (some x) => .ok x S
  | _ => .bad
def eC (x : Dv) : Fr → Sto → Res SV := fun _ S => .ok (.d x) S
theorem ev_var (i : Nat) {x : Str} {pos : Pos} (hN : X.N[i]? = some x := by rfl) (hv : Vis X.env.scope x := by first | exact Or.inl rfl | exact Or.inr (Or.inl rfl) | exact Or.inr (Or.inr rfl))
    (hd : (x == ("__debug__" : Str)) = false := by decide +kernel) (hcd : (x == ("__classdict__" : Str)) = false := by decide +kernel) : PE X (.Name x pos) (RE X cl Wx (eVar i)) :=
  PE.weak (pe_var hN hv hd hcd) fun σ H Q ⟨W, F, S, a, o⟩ => by
    unfold eVar at o
    split at o
    · rename_i sv e
      obtain ⟨v, e1, r1⟩ := a.env.get i sv e
      exact ⟨v, e1, o.here a.rel r1⟩
    · exact o.elim
theorem ev_int {i j pos} : PE X (.Constant (.int i) j pos) (RE X cl Wx (eC (.int i))) := PE.weak pe_int fun σ H Q ⟨W, F, S, a, o⟩ => o.here a.rel (RelD.int i)
theorem ev_bl {i j pos} : PE X (.Constant (.bool i) j pos) (RE X cl Wx (eC (.bl i))) := PE.weak pe_bl fun σ H Q ⟨W, F, S, a, o⟩ => o.here a.rel (RelD.bl i)
theorem ev_str {i j pos} (h : PyData.strOk i = true := by decide +kernel) : PE X (.Constant (.str i) j pos) (RE X cl Wx (eC (.str i))) := PE.weak pe_str fun σ H Q ⟨W, F, S, a, o⟩ => o.here a.rel (RelD.str i h)
theorem ev_non {j pos} : PE X (.Constant .none j pos) (RE X cl Wx (eC .non)) := PE.weak pe_non fun σ H Q ⟨W, F, S, a, o⟩ => o.here a.rel RelD.non

/-! arguments -/
def aNil : Fr → Sto → Res (List SV) := fun _ S => .ok [] S
def aCons (f : Fr → Sto → Res SV) (g : Fr → Sto → Res (List SV)) : Fr → Sto → Res (List SV) := fun F S => (f F S).bind fun x S1 => (g F S1).bind fun xs S2 => .ok (x :: xs) S2
theorem av_nil : PA X [] (RA X cl Wx aNil) := PA.weak pa_nil fun σ H Q ⟨W, F, S, a, o⟩ => Out.here (Ra := RSVs X.K cl) (v := []) o a.rel .nil
theorem av_cons {e : Expr} {es : List Expr} {f : Fr → Sto → Res SV} {g : Fr → Sto → Res (List SV)} (h : PE X e (RE X cl Wx f)) (k : PA X es (RA X cl Wx g))
    (hs : starEach (e :: es) X.env = (false, eval e X.env) :: starEach es X.env := by rfl) : PA X (e :: es) (RA X cl Wx (aCons f g)) :=
  PA.weak (pa_cons h k hs) fun σ H Q ⟨W, F, S, a, o⟩ => by
    refine ⟨W, F, S, a, (Out.bind o).mono fun v H1 ⟨W1, S1, x, g1, l1, r1, q1, o1⟩ => ?_⟩
    refine ⟨W1, F, S1, a.on g1 l1 r1, (Out.bind o1).mono fun vs H2 ⟨W2, S2, xs, g2, l2, r2, q2, o2⟩ => ?_⟩
    exact Out.here (Ra := RSVs X.K cl) (v := v :: vs) o2 r2 (.cons (RelSV.le l2 g2.len q1) q2)

/-! tuples and lists that are written -/
def most : Nat := 16777216
theorem most_eq : most = sizeLine := rfl
def eSeq (mk : List Dv → Dv) (f : Fr → Sto → Res (List SV)) : Fr → Sto → Res SV := fun F S => (f F S).bind fun xs S1 => match frzs S1 xs with
  | some (ds, S2) => if ds.length ≤ most then .ok (.d (mk ds)) S2 else .bad
  | none => .bad
abbrev eTup := eSeq .tup
abbrev eLst := eSeq .lst
/-- a list that will change -/
def eLstM (f : Fr → Sto → Res (List SV)) : Fr → Sto → Res SV := fun F S => (f F S).bind fun xs S1 =>
  if xs.length ≤ most then .ok (.m S1.length) (S1 ++ [.lst xs]) else .bad
theorem ev_tup {es : List Expr} {k : Nat} {pos : Pos} {f : Fr → Sto → Res (List SV)} (h : PA X es (RA X cl Wx f)) : PE X (.Tuple es k pos) (RE X cl Wx (eTup f)) :=
  PE.weak (pe_tup h) fun σ H Q ⟨W, F, S, a, o⟩ => RA.of a o fun W1 S1 xs vs H1 g1 l1 a1 q1 o1 => by
    split at o1
    · rename_i ds S2 hf
      split at o1
      · rename_i hm
        obtain ⟨n2, w2, k2⟩ := frzs_ok (K := X.K) (cl := cl) hf
        obtain ⟨W2, e2, l2, r2, q2⟩ := k2 W1 H1 vs a1.rel q1
        refine ⟨by rw [← q2.length, ← most_eq]; exact hm, fun p hp => ?_⟩
        obtain ⟨r3, l3⟩ := r2.newF (ho := .tup vs) hp
        exact o1 _ _ _ ⟨Nat.le_of_eq n2.symm, fun b _ => w2 b⟩ (l2.trans l3 (Nat.le_of_eq n2.symm)) r3 (RelD.tup (.of upd_same) (RelDs.le l3 q2))
      · exact o1.elim
    · exact o1.elim
theorem ev_lst {es : List Expr} {pos : Pos} {f : Fr → Sto → Res (List SV)} (h : PA X es (RA X cl Wx f)) : PE X (.List es pos) (RE X cl Wx (eLst f)) :=
  PE.weak (pe_lst h) fun σ H Q ⟨W, F, S, a, o⟩ => RA.of a o fun W1 S1 xs vs H1 g1 l1 a1 q1 o1 => by
    split at o1
    · rename_i ds S2 hf
      split at o1
      · rename_i hm
        obtain ⟨n2, w2, k2⟩ := frzs_ok (K := X.K) (cl := cl) hf
        obtain ⟨W2, e2, l2, r2, q2⟩ := k2 W1 H1 vs a1.rel q1
        refine ⟨by rw [← q2.length, ← most_eq]; exact hm, fun p hp => ?_⟩
        obtain ⟨r3, l3⟩ := r2.newF (ho := .lst vs) hp
        exact o1 _ _ _ ⟨Nat.le_of_eq n2.symm, fun b _ => w2 b⟩ (l2.trans l3 (Nat.le_of_eq n2.symm)) r3 (RelD.lst (.of upd_same) (RelDs.le l3 q2))
      · exact o1.elim
    · exact o1.elim
theorem ev_lstM {es : List Expr} {pos : Pos} {f : Fr → Sto → Res (List SV)} (h : PA X es (RA X cl Wx f)) : PE X (.List es pos) (RE X cl Wx (eLstM f)) :=
  PE.weak (pe_lst h) fun σ H Q ⟨W, F, S, a, o⟩ => RA.of a o fun W1 S1 xs vs H1 g1 l1 a1 q1 o1 => by
    split at o1
    · rename_i hm
      refine ⟨by rw [← PySem.Paired.length q1, ← most_eq]; exact hm, fun p hp => ?_⟩
      have r3 := a1.rel.newM (mo := .lst xs) (ho := .lst vs) hp ⟨a1.rel.unone hp, vs, upd_same, RelSVs.le (W1.add_le _ _) (Nat.le_succ _) q1⟩
      exact o1 _ _ _ (.add _ _ _ a1.b) (W1.add_le _ _) r3 ⟨by rw [List.length_append]; exact Nat.lt_succ_self _, by rw [Wd.add_at]⟩
    · exact o1.elim
end
end Ev

set_option Elab.async false
set_option linter.all false
set_option maxRecDepth 100000
/-! Ev3: operators, comparisons, tests. -/
namespace Ev
open PySem L2

mutual
def Dv.pd : Dv → PyData
  | .non => .none | .bl b => .bool b | .int i => .int i | .str s => .str s
  | .tup xs => .tuple (Dv.pds xs) | .lst xs => .list (Dv.pds xs)
  | .dic _ _ => .dict [] | .ins _ _ _ => .dict []
def Dv.pds : List Dv → List PyData
  | [] => []
  | x :: r => Dv.pd x :: Dv.pds r
end
mutual
def Dv.flat : Dv → Bool
  | .tup xs => Dv.flats xs | .lst xs => Dv.flats xs
  | .dic _ _ => false | .ins _ _ _ => false
  | _ => true
def Dv.flats : List Dv → Bool
  | [] => true
  | x :: r => Dv.flat x && Dv.flats r
end
section
variable {K : PySem.W.Frag} {cl : Nat → Addr} {G H : Hp}
theorem RelD.dp (up : ∀ a o, G a = some o → H a = some o) {x : Dv} {v : V} (r : RelD K cl G x v) : x.flat = true → Dp K H v x.pd ∧ x.pd.canLay0 = true := by
  refine RelD.rec (motive_1 := fun x v _ => x.flat = true → Dp K H v x.pd ∧ x.pd.canLay0 = true) (motive_2 := fun xs vs _ => Dv.flats xs = true → DpAll K H vs (Dv.pds xs) ∧ PyData.canLayAll0 (Dv.pds xs) = true)
    (fun _ => ⟨.non, rfl⟩) (fun b _ => ⟨.bl b, rfl⟩) (fun i _ => ⟨.int i, rfl⟩) (fun s h _ => ⟨.str s, h⟩) ?_ ?_ ?_ ?_ (fun _ => ⟨.nil, rfl⟩) ?_ r
  · intro a xs vs h _ ih f
    obtain ⟨h1, h2⟩ := ih f
    exact ⟨.tup (SqT.up up h) h1, h2⟩
  · intro a xs vs h _ ih f
    obtain ⟨h1, h2⟩ := ih f
    exact ⟨.lst (SqL.up up h) h1, h2⟩
  · intro a o ks xs vs _ _ _ _ _ f; cases f
  · intro a dx c fs xs vs _ _ _ _ f; cases f
  · intro x v xs vs _ _ i1 i2 f
    obtain ⟨f1, f2⟩ := Bool.and_eq_true_iff.mp (show (Dv.flat x && Dv.flats xs) = true from f)
    obtain ⟨a1, a2⟩ := i1 f1
    obtain ⟨b1, b2⟩ := i2 f2
    exact ⟨.cons a1 b1, by show (_ && _) = true; rw [a2, b2]; rfl⟩
end

theorem RelDs.dp {K : PySem.W.Frag} {cl : Nat → Addr} {G H : Hp} (up : ∀ a o, G a = some o → H a = some o) : ∀ {xs : List Dv} {vs : List V}, RelDs K cl G xs vs → Dv.flats xs = true → DpAll K H vs (Dv.pds xs) ∧ PyData.canLayAll0 (Dv.pds xs) = true
  | _, _, .nil, _ => ⟨.nil, rfl⟩
  | _, _, .cons (x := x) (xs := xs) h t, f => by
    obtain ⟨f1, f2⟩ := Bool.and_eq_true_iff.mp (show (Dv.flat x && Dv.flats xs) = true from f)
    obtain ⟨a1, a2⟩ := RelD.dp up h f1
    obtain ⟨b1, b2⟩ := RelDs.dp up t f2
    exact ⟨.cons a1 b1, by show (_ && _) = true; rw [a2, b2]; rfl⟩
/-- what a thing shows when it is read -/
def view (S : Sto) : SV → Option Dv
  | .d x => some x
  | .m i => match S[i]? with
    | some (.lst xs) => (rdDs S xs).map .lst
    | some (.dic ks xs) => (rdDs S xs).map (.dic ks)
    | some (.ins c fs xs) => (rdDs S xs).map (.ins c fs)
    | some (.frz x) => some x
    | some (.tup _) => none
    | some (.lck ks xs) => (rdDs S xs).map (.dic ks)
    | none => none
@[simp] theorem view_d (S : Sto) (x : Dv) : view S (.d x) = some x := rfl
section
variable {K : PySem.W.Frag} {cl : Nat → Addr} {W : Wd} {S : Sto} {H : Hp}
/-- a list that is read -/
theorem view_lst (r : Rel K cl W S H) {x : SV} {ds : List Dv} {v : V} {n : Nat} (e : view S x = some (.lst ds)) (q : RelSV K cl W n x v) : ∃ a vs, v = .ref a ∧ SqL K H a vs ∧ RelDs K cl W.G ds vs := by
  cases x with
  | d y =>
    cases e
    cases q with
    | lst h t => exact ⟨_, _, rfl, SqL.up r.fz h, t⟩
  | m i =>
    obtain ⟨_, rfl⟩ := q
    simp only [view] at e
    split at e
    · rename_i xs hx
      obtain ⟨g, vs, h1, h2⟩ := r.st i _ hx
      cases z : rdDs S xs with
      | none => rw [z] at e; cases e
      | some ys =>
        rw [z] at e
        cases e
        exact ⟨_, vs, rfl, .of h1, rdDs_rel r z h2⟩
    · rename_i ks xs hx
      cases z : rdDs S xs with
      | none => rw [z] at e; cases e
      | some ys => rw [z] at e; cases e
    · rename_i c fs xs hx
      cases z : rdDs S xs with
      | none => rw [z] at e; cases e
      | some ys => rw [z] at e; cases e
    · rename_i y hy
      cases e
      have := r.st i _ hy
      cases this with
      | lst h t => exact ⟨_, _, rfl, SqL.up r.fz h, t⟩
    · cases e
    · rename_i ks xs hx
      cases z : rdDs S xs with
      | none => rw [z] at e; cases e
      | some ys => rw [z] at e; cases e
    · cases e
theorem view_dp (r : Rel K cl W S H) {x : SV} {y : Dv} {v : V} {n : Nat} (e : view S x = some y) (q : RelSV K cl W n x v) (f : y.flat = true) : Dp K H v y.pd ∧ y.pd.canLay0 = true := by
  cases x with
  | d z => cases e; exact RelD.dp r.fz q f
  | m i =>
    have k := e
    simp only [view] at k
    split at k
    · rename_i xs hx
      cases z : rdDs S xs with
      | none => rw [z] at k; cases k
      | some ys =>
        rw [z] at k
        cases k
        obtain ⟨a, vs, rfl, h, t⟩ := view_lst r e q
        obtain ⟨h1, h2⟩ := RelDs.dp r.fz t f
        exact ⟨.lst h h1, h2⟩
    · rename_i ks xs hx
      cases z : rdDs S xs with
      | none => rw [z] at k; cases k
      | some ys => rw [z] at k; cases k; cases f
    · rename_i c fs xs hx
      cases z : rdDs S xs with
      | none => rw [z] at k; cases k
      | some ys => rw [z] at k; cases k; cases f
    · rename_i y' hy
      cases k
      obtain ⟨_, rfl⟩ := q
      exact RelD.dp r.fz (r.st i _ hy) f
    · cases k
    · rename_i ks xs hx
      cases z : rdDs S xs with
      | none => rw [z] at k; cases k
      | some ys => rw [z] at k; cases k; cases f
    · cases k
end

/-! ### operators -/
section
variable (X : Cx) (cl : CL)
/-- a pure operation's reading: by values -/
def ROp (g : Sto → SV → SV → Option Dv) : R2 := fun x y H Q => ∃ W S a b z, Rel X.K cl W S H ∧ RelSV X.K cl W S.length a x ∧ RelSV X.K cl W S.length b y ∧ g S a b = some z ∧
  ∀ W' H' v, Le S.length W W' → Rel X.K cl W' S H' → RelD X.K cl W'.G z v → Q v H'
end
def eOp (g : Sto → SV → SV → Option Dv) (f h : Fr → Sto → Res SV) : Fr → Sto → Res SV := fun F S => (f F S).bind fun x S1 => (h F S1).bind fun y S2 => match g S2 x y with
  | some z => .ok (.d z) S2
  | none => .bad
section
variable {X : Cx} {cl : CL} {Wx : WX} {e1 e2 : Expr} {f g h : Fr → Sto → Res SV} {pos : Pos}
theorem eOp_use {o : Sto → SV → SV → Option Dv} {σ : St} {H : Hp} {Q : VK} (q : RE X cl Wx (eOp o f h) σ H Q) : tOp (ROp X cl o) (RE X cl Wx f) (RE X cl Wx h) σ H Q := by
  obtain ⟨W, F, S, a, q⟩ := q
  refine RE.of a q fun W1 S1 x v H1 g1 l1 a1 q1 o1 => ?_
  refine RE.of a1 o1 fun W2 S2 y u H2 g2 l2 a2 q2 o2 => ?_
  cases z : o S2 x y with
  | none => simp only [z] at o2; exact o2.elim
  | some w =>
    simp only [z] at o2
    exact ⟨W2, S2, x, y, w, a2.rel, RelSV.le l2 g2.len q1, q2, z, fun W' H' v l r q => o2 W' H' v (.refl _ _) l r q⟩
theorem ev_bin {op : Operator} {o : Sto → SV → SV → Option Dv} (ho : OpR X (binaryOp op) (ROp X cl o)) (ha : PE X e1 (RE X cl Wx f)) (hb : PE X e2 (RE X cl Wx h)) : PE X (.BinOp e1 op e2 pos) (RE X cl Wx (eOp o f h)) :=
  PE.weak (pe_op ho ha hb) fun _ _ _ q => eOp_use q
theorem ev_cmp {op : CmpOp} {o : Sto → SV → SV → Option Dv} (ho : OpR X (compareOp op) (ROp X cl o)) (ha : PE X e1 (RE X cl Wx f)) (hb : PE X e2 (RE X cl Wx h)) (hm : behindInMarks op e2 = false := by rfl) : PE X (.Compare e1 [op] [e2] pos) (RE X cl Wx (eOp o f h)) :=
  PE.weak (pe_cmpR ho ha hb hm) fun _ _ _ q => eOp_use q
/-- a value that is a bool, as a test -/
def tV (f : Fr → Sto → Res SV) : Fr → Sto → Res Bool := fun F S => (f F S).bind fun x S1 => match x with
  | .d (.bl b) => .ok b S1
  | _ => .bad
theorem tV_use {σ : St} {H : Hp} {Q : Bool → Hp → Prop} (q : RT X cl Wx (tV f) σ H Q) : RE X cl Wx f σ H (fun x H1 => ∃ k, x = .bl k ∧ Q k H1) := by
  obtain ⟨W, F, S, a, q⟩ := q
  refine RE.ofT a q fun W1 S1 x v H1 g1 l1 a1 q1 o1 => ?_
  split at o1
  · rename_i b
    cases q1
    exact ⟨b, rfl, o1.here a1.rel rfl⟩
  · exact o1.elim
theorem tv_cmp {op : CmpOp} {o : Sto → SV → SV → Option Dv} (ho : OpR X (compareOp op) (ROp X cl o)) (ha : PE X e1 (RE X cl Wx f)) (hb : PE X e2 (RE X cl Wx h)) (hm : behindInMarks op e2 = false := by rfl) : PT X (.Compare e1 [op] [e2] pos) (RT X cl Wx (tV (eOp o f h))) :=
  PT.weak (pt_cmpR ho ha hb hm) fun _ _ _ q => eOp_use (tV_use q)
/-- an expression that gives a bool, as a test (no comparison, and, or, not) -/
theorem tv_val (ha : PE X e1 (RE X cl Wx f)) (he : ∀ whole, isTrue e1 X.env whole = (do let v ← whole; standAt e1.pos; holding [v] (truthy v)) := by intro _; rfl) : PT X e1 (RT X cl Wx (tV f)) :=
  PT.weak (pt_val ha he) fun _ _ _ q => tV_use q
/-! and, or, not -/
def tAn (f g : Fr → Sto → Res Bool) : Fr → Sto → Res Bool := fun F S => (f F S).bind fun c S1 => if c = true then g F S1 else .ok false S1
def tOrr (f g : Fr → Sto → Res Bool) : Fr → Sto → Res Bool := fun F S => (f F S).bind fun c S1 => if c = true then .ok true S1 else g F S1
def tNo (f : Fr → Sto → Res Bool) : Fr → Sto → Res Bool := fun F S => (f F S).bind fun c S1 => .ok (!c) S1
theorem PW.weak {X : Cx} {e : Expr} {t t' : TT} (h : PW X e t) (k : ∀ σ H Q, t' σ H Q → t σ H Q) : PW X e t' := ⟨fun wh pins s σ H Q I q => h.run wh pins s σ H Q I (k σ H Q q)⟩
section
variable {tf tg : Fr → Sto → Res Bool} {rest : List Expr}
theorem tv_and1 (ha : PT X e1 (RT X cl Wx tf)) : PW X (.BoolOp .And [e1] pos) (RT X cl Wx tf) := pw_and1 ha
theorem tv_or1 (ha : PT X e1 (RT X cl Wx tf)) : PW X (.BoolOp .Or [e1] pos) (RT X cl Wx tf) := pw_or1 ha
theorem tv_and (ha : PT X e1 (RT X cl Wx tf)) (hb : PW X (.BoolOp .And (e2 :: rest) pos) (RT X cl Wx tg)) : PW X (.BoolOp .And (e1 :: e2 :: rest) pos) (RT X cl Wx (tAn tf tg)) :=
  PW.weak (pw_and ha hb) fun σ H Q ⟨W, F, S, a, q⟩ => RT.of a q fun W1 S1 c H1 g1 l1 a1 o1 => by
    split at o1
    · rename_i hc; rw [if_pos hc]; exact ⟨W1, F, S1, a1, o1⟩
    · rename_i hc; rw [if_neg hc]; exact o1.here a1.rel rfl
theorem tv_or (ha : PT X e1 (RT X cl Wx tf)) (hb : PW X (.BoolOp .Or (e2 :: rest) pos) (RT X cl Wx tg)) : PW X (.BoolOp .Or (e1 :: e2 :: rest) pos) (RT X cl Wx (tOrr tf tg)) :=
  PW.weak (pw_or ha hb) fun σ H Q ⟨W, F, S, a, q⟩ => RT.of a q fun W1 S1 c H1 g1 l1 a1 o1 => by
    split at o1
    · rename_i hc; rw [if_pos hc]; exact o1.here a1.rel rfl
    · rename_i hc; rw [if_neg hc]; exact ⟨W1, F, S1, a1, o1⟩
theorem tv_not (ha : PT X e1 (RT X cl Wx tf)) : PT X (.UnaryOp .Not e1 pos) (RT X cl Wx (tNo tf)) :=
  PT.weak (pt_not ha) fun σ H Q ⟨W, F, S, a, q⟩ => RT.of a q fun W1 S1 c H1 g1 l1 a1 o1 => o1.here a1.rel rfl
theorem tv_pw (h : PW X e1 (RT X cl Wx tf)) : PT X e1 (RT X cl Wx tf) := h.pt
/-! the same as values: all but the last are bools -/
def eAn (f g : Fr → Sto → Res SV) : Fr → Sto → Res SV := fun F S => (f F S).bind fun x S1 => match x with
  | .d (.bl true) => g F S1
  | .d (.bl false) => .ok (.d (.bl false)) S1
  | _ => .bad
def eOr (f g : Fr → Sto → Res SV) : Fr → Sto → Res SV := fun F S => (f F S).bind fun x S1 => match x with
  | .d (.bl true) => .ok (.d (.bl true)) S1
  | .d (.bl false) => g F S1
  | _ => .bad
def eNo (f : Fr → Sto → Res SV) : Fr → Sto → Res SV := fun F S => (f F S).bind fun x S1 => match x with
  | .d (.bl b) => .ok (.d (.bl (!b))) S1
  | _ => .bad
theorem ev_one {op} (h : PE X e1 (RE X cl Wx f)) : PE X (.BoolOp op [e1] pos) (RE X cl Wx f) := pe_one h
theorem ev_and (ha : PE X e1 (RE X cl Wx f)) (hb : PE X (.BoolOp .And (e2 :: rest) pos) (RE X cl Wx g)) : PE X (.BoolOp .And (e1 :: e2 :: rest) pos) (RE X cl Wx (eAn f g)) :=
  PE.weak (pe_and ha hb) fun σ H Q ⟨W, F, S, a, q⟩ => RE.of a q fun W1 S1 x v H1 g1 l1 a1 q1 o1 => by
    split at o1
    · cases q1; exact ⟨true, rfl, by rw [if_pos rfl]; exact ⟨W1, F, S1, a1, o1⟩⟩
    · cases q1; exact ⟨false, rfl, by rw [if_neg Bool.false_ne_true]; exact o1.here a1.rel (RelD.bl false)⟩
    · exact o1.elim
theorem ev_or (ha : PE X e1 (RE X cl Wx f)) (hb : PE X (.BoolOp .Or (e2 :: rest) pos) (RE X cl Wx g)) : PE X (.BoolOp .Or (e1 :: e2 :: rest) pos) (RE X cl Wx (eOr f g)) :=
  PE.weak (pe_or ha hb) fun σ H Q ⟨W, F, S, a, q⟩ => RE.of a q fun W1 S1 x v H1 g1 l1 a1 q1 o1 => by
    split at o1
    · cases q1; exact ⟨true, rfl, by rw [if_pos rfl]; exact o1.here a1.rel (RelD.bl true)⟩
    · cases q1; exact ⟨false, rfl, by rw [if_neg Bool.false_ne_true]; exact ⟨W1, F, S1, a1, o1⟩⟩
    · exact o1.elim
theorem ev_not (ha : PE X e1 (RE X cl Wx f)) : PE X (.UnaryOp .Not e1 pos) (RE X cl Wx (eNo f)) :=
  PE.weak (pe_not ha) fun σ H Q ⟨W, F, S, a, q⟩ => RE.of a q fun W1 S1 x v H1 g1 l1 a1 q1 o1 => by
    split at o1
    · rename_i b; cases q1; exact ⟨b, rfl, o1.here a1.rel (RelD.bl (!b))⟩
    · exact o1.elim
def eIf (t : Fr → Sto → Res Bool) (f g : Fr → Sto → Res SV) : Fr → Sto → Res SV := fun F S => (t F S).bind fun c S1 => if c = true then f F S1 else g F S1
theorem ev_ifExp {c : Expr} (hc : PT X c (RT X cl Wx tf)) (ha : PE X e1 (RE X cl Wx f)) (hb : PE X e2 (RE X cl Wx g)) : PE X (.IfExp c e1 e2 pos) (RE X cl Wx (eIf tf f g)) :=
  PE.weak (pe_ifExp hc ha hb) fun σ H Q ⟨W, F, S, a, q⟩ => RT.of a q fun W1 S1 c H1 g1 l1 a1 o1 => by
    split at o1
    · rename_i hc; rw [if_pos hc]; exact ⟨W1, F, S1, a1, o1⟩
    · rename_i hc; rw [if_neg hc]; exact ⟨W1, F, S1, a1, o1⟩
end
end
end Ev

set_option Elab.async false
set_option linter.all false
set_option maxRecDepth 100000
/-! Ev4: the operators one by one. -/
namespace Ev
open PySem L2

section
variable {K : PySem.W.Frag} {cl : Nat → Addr} {W : Wd} {S : Sto} {H : Hp}
/-- what shows as no list, dict or instance that changes is told by its data -/
def Dv.lone : Dv → Bool
  | .lst _ => false | .dic _ _ => false | .ins _ _ _ => false
  | _ => true
theorem view_lone (r : Rel K cl W S H) {x : SV} {y : Dv} {v : V} {n : Nat} (e : view S x = some y) (q : RelSV K cl W n x v) (f : y.lone = true) : RelD K cl W.G y v := by
  cases x with
  | d z => cases e; exact q
  | m i =>
    have k := e
    simp only [view] at k
    split at k
    · rename_i xs hx
      cases z : rdDs S xs with
      | none => rw [z] at k; cases k
      | some ys => rw [z] at k; cases k; cases f
    · rename_i ks xs hx
      cases z : rdDs S xs with
      | none => rw [z] at k; cases k
      | some ys => rw [z] at k; cases k; cases f
    · rename_i c fs xs hx
      cases z : rdDs S xs with
      | none => rw [z] at k; cases k
      | some ys => rw [z] at k; cases k; cases f
    · rename_i y' hy
      cases k
      obtain ⟨_, rfl⟩ := q
      exact r.st i _ hy
    · cases k
    · rename_i ks xs hx
      cases z : rdDs S xs with
      | none => rw [z] at k; cases k
      | some ys => rw [z] at k; cases k; cases f
    · cases k
theorem view_int (r : Rel K cl W S H) {x : SV} {i : Int} {v : V} {n : Nat} (e : view S x = some (.int i)) (q : RelSV K cl W n x v) : v = .int i := by
  cases view_lone r e q rfl; rfl
theorem view_bl (r : Rel K cl W S H) {x : SV} {i : Bool} {v : V} {n : Nat} (e : view S x = some (.bl i)) (q : RelSV K cl W n x v) : v = .bl i := by
  cases view_lone r e q rfl; rfl
theorem view_str (r : Rel K cl W S H) {x : SV} {i : Str} {v : V} {n : Nat} (e : view S x = some (.str i)) (q : RelSV K cl W n x v) : v = .str i ∧ PyData.strOk i = true := by
  cases view_lone r e q rfl with
  | str _ h => exact ⟨rfl, h⟩
theorem view_non (r : Rel K cl W S H) {x : SV} {v : V} {n : Nat} (e : view S x = some .non) (q : RelSV K cl W n x v) : v = .non := by
  cases view_lone r e q rfl; rfl
theorem view_tup (r : Rel K cl W S H) {x : SV} {ds : List Dv} {v : V} {n : Nat} (e : view S x = some (.tup ds)) (q : RelSV K cl W n x v) : ∃ a vs, v = .ref a ∧ SqT K H a vs ∧ RelDs K cl W.G ds vs ∧ RelD K cl W.G (.tup ds) v := by
  have z := view_lone r e q rfl
  cases id z with
  | tup h t => exact ⟨_, _, rfl, SqT.up r.fz h, t, z⟩
end
theorem strOk_add {a b : Str} (h : PyData.strOk a = true) (k : PyData.strOk b = true) : PyData.strOk (a ++ b) = true := by
  unfold PyData.strOk at *
  show Array.all (a.cps ++ b.cps) _ = true
  rw [Array.all_append, h, k]; rfl

/-! ### two rules of the model that the layer lacks -/
section
variable {X : Cx}
theorem op_catT0 : OpR X (binaryOp .Add) (fun x y H Q => ∃ a b ys, x = .ref a ∧ y = .ref b ∧ SqT X.K H a [] ∧ SqT X.K H b ys ∧ Q (.ref b) H) := by
  intro pins s σ H x y v u Q I rx ry h
  obtain ⟨a, b, ys, rfl, rfl, ha, hb, q⟩ := h
  cases rx
  cases ry
  obtain ⟨its, r1, p1, _⟩ := I.tuple ha
  obtain ⟨its2, r2, p2, _⟩ := I.tuple hb
  cases r1
  obtain ⟨⟨cls, dd, data, sl⟩, ho, hc, n, hd⟩ := id p1
  obtain ⟨⟨cls2, dd2, data2, sl2⟩, ho2, hc2, n2, hd2⟩ := id p2
  simp only at hc hd hc2 hd2
  subst hc hd hc2 hd2
  exact PySem.concat_meets ⟨_, ho, rfl⟩ ⟨_, ho2, rfl⟩ PySem.noFill_tuple_add PySem.seq_tuple_add PySem.F.slot_tuple_add PySem.F.entry_tuple_add (PySem.F.args_tuple_add_2 _ _)
      (PyProof.Rows.tuple_addW0 a b _ its2.toArray n n2 dd dd2 sl sl2 rfl) ⟨ho, ho2, ⟨.ref b, H, I, rfl, q⟩⟩
theorem op_catL : OpR X (binaryOp .Add) (fun x y H Q => ∃ a b xs ys, x = .ref a ∧ y = .ref b ∧ SqL X.K H a xs ∧ SqL X.K H b ys ∧ xs.length + ys.length ≤ sizeLine ∧ ∀ p, H p = none → Q (.ref p) (upd H p (.lst (xs ++ ys)))) := by
  intro pins s σ H x y v u Q I rx ry h
  obtain ⟨a, b, xs, ys, rfl, rfl, ha, hb, hz, q⟩ := h
  cases rx
  cases ry
  obtain ⟨its, r1, p1, _⟩ := I.list ha
  obtain ⟨its2, r2, p2, _⟩ := I.list hb
  have l1 := r1.length
  have l2 := r2.length
  obtain ⟨⟨cls, dd, data, sl⟩, n, ho, hc, hn, hd⟩ := id p1
  obtain ⟨⟨cls2, dd2, data2, sl2⟩, n2, ho2, hc2, hn2, hd2⟩ := id p2
  simp only at hc hd hn hc2 hd2 hn2
  subst hc hd hc2 hd2
  have e : its.toArray ++ its2.toArray = (its ++ its2).toArray := by simp
  refine PySem.concat_meets ⟨_, ho, rfl⟩ ⟨_, ho2, rfl⟩ PySem.noFill_list_add PySem.seq_list_add PySem.F.slot_list_add PySem.F.entry_list_add (PySem.F.args_list_add_2 _ _)
      (PyProof.Rows.list_addW a b its.toArray its2.toArray n n2 dd dd2 sl sl2 (by rw [List.size_toArray, List.size_toArray]; omega)) ⟨ho, ho2, ?_⟩
  rw [e]
  refine ⟨.ref s.heap.objs.size, _, I.laid (t' := s.toks) (o := .lst (xs ++ ys)) (fun b ob q => Heap.get?_push_of_some _ q) (Nat.le_refl _) ?_, rfl, q _ (I.hok.fresh (Nat.le_refl _))⟩
  exact ⟨by rw [List.length_append]; exact hz, its ++ its2, 0, r1.append r2, Heap.get?_push_size _ rfl⟩
end

/-! ### + - * // % ** -/
def opAdd (S : Sto) (a b : SV) : Option Dv := match view S a, view S b with
  | some (.int i), some (.int j) => some (.int (i + j))
  | some (.str i), some (.str j) => if i.length + j.length ≤ most then some (.str (i ++ j)) else none
  | some (.tup xs), some (.tup ys) => if xs.length + ys.length ≤ most then some (.tup (xs ++ ys)) else none
  | some (.lst xs), some (.lst ys) => if xs.length + ys.length ≤ most then some (.lst (xs ++ ys)) else none
  | _, _ => none
theorem RelDs.append {K : PySem.W.Frag} {cl : Nat → Addr} {G : Hp} : ∀ {xs ys : List Dv} {vs ws : List V}, RelDs K cl G xs vs → RelDs K cl G ys ws → RelDs K cl G (xs ++ ys) (vs ++ ws)
  | _, _, _, _, .nil, s => s
  | _, _, _, _, .cons r t, s => .cons r (RelDs.append t s)
section
variable {X : Cx} {cl : CL}
/-- a new list or tuple as a result -/
theorem new_lst {K : PySem.W.Frag} {W : Wd} {S : Sto} {H : Hp} {Q : VK} {ds : List Dv} {vs : List V} (r : Rel K cl W S H) (t : RelDs K cl W.G ds vs)
    (k : ∀ W' H' v, Le S.length W W' → Rel K cl W' S H' → RelD K cl W'.G (.lst ds) v → Q v H') (p : Addr) (hp : H p = none) : Q (.ref p) (upd H p (.lst vs)) := by
  obtain ⟨r3, l3⟩ := r.newF (ho := .lst vs) hp
  exact k _ _ _ l3 r3 (.lst (.of upd_same) (RelDs.le l3 t))
theorem new_tup {K : PySem.W.Frag} {W : Wd} {S : Sto} {H : Hp} {Q : VK} {ds : List Dv} {vs : List V} (r : Rel K cl W S H) (t : RelDs K cl W.G ds vs)
    (k : ∀ W' H' v, Le S.length W W' → Rel K cl W' S H' → RelD K cl W'.G (.tup ds) v → Q v H') (p : Addr) (hp : H p = none) : Q (.ref p) (upd H p (.tup vs)) := by
  obtain ⟨r3, l3⟩ := r.newF (ho := .tup vs) hp
  exact k _ _ _ l3 r3 (.tup (.of upd_same) (RelDs.le l3 t))
theorem ov_add : OpR X (binaryOp .Add) (ROp X cl opAdd) := by
  refine OpR.weak ((op_add (X := X)).or (op_add_str.or (op_catT.or (op_catT0.or op_catL)))) fun x y H Q ⟨W, S, a, b, z, r, ra, rb, e, k⟩ => ?_
  unfold opAdd at e
  split at e
  · rename_i i j ea eb
    cases e
    exact .inl ⟨i, j, view_int r ea ra, view_int r eb rb, k W H _ (.refl _ _) r (.int _)⟩
  · rename_i i j ea eb
    split at e
    · rename_i hm
      cases e
      obtain ⟨e1, k1⟩ := view_str r ea ra
      obtain ⟨e2, k2⟩ := view_str r eb rb
      exact .inr (.inl ⟨i, j, e1, e2, hm, k W H _ (.refl _ _) r (.str _ (strOk_add k1 k2))⟩)
    · cases e
  · rename_i xs ys ea eb
    split at e
    · rename_i hm
      cases e
      obtain ⟨p, vs, e1, s1, t1, z1⟩ := view_tup r ea ra
      obtain ⟨q, ws, e2, s2, t2, z2⟩ := view_tup r eb rb
      have n1 := t1.length
      have n2 := t2.length
      by_cases hx : vs = []
      · subst hx
        cases t1
        exact .inr (.inr (.inr (.inl ⟨p, q, ws, e1, e2, s1, s2, k W H _ (.refl _ _) r (e2 ▸ z2)⟩)))
      · refine .inr (.inr (.inl ⟨p, q, vs, ws, e1, e2, s1, s2, hx, by rw [← n1, ← n2]; exact hm, fun hy => ?_, fun hy => ?_⟩))
        · subst hy
          cases t2
          rw [List.append_nil] at k
          exact k W H _ (.refl _ _) r (e1 ▸ z1)
        · exact new_tup r (t1.append t2) k
    · cases e
  · rename_i xs ys ea eb
    split at e
    · rename_i hm
      cases e
      obtain ⟨p, vs, e1, s1, t1⟩ := view_lst r ea ra
      obtain ⟨q, ws, e2, s2, t2⟩ := view_lst r eb rb
      exact .inr (.inr (.inr (.inr ⟨p, q, vs, ws, e1, e2, s1, s2, by rw [← t1.length, ← t2.length]; exact hm, new_lst r (t1.append t2) k⟩)))
    · cases e
  · cases e
/-- an operation on ints, by its rule -/
def opInt (C : Int → Int → Bool) (g : Int → Int → Dv) (S : Sto) (a b : SV) : Option Dv := match view S a, view S b with
  | some (.int i), some (.int j) => if C i j = true then some (g i j) else none
  | _, _ => none
theorem ov_int {f : Value → Value → Sem Value} {C : Int → Int → Bool} {D : Int → Int → Prop} {g : Int → Int → Dv} {gv : Int → Int → V} (h : OpR X f (rI D gv)) (hc : ∀ i j, C i j = true → D i j) (hg : ∀ K cl G i j, RelD K cl G (g i j) (gv i j)) : OpR X f (ROp X cl (opInt C g)) :=
  OpR.weak h fun x y H Q ⟨W, S, a, b, z, r, ra, rb, e, k⟩ => by
    unfold opInt at e
    split at e
    · rename_i i j ea eb
      split at e
      · rename_i hcc
        cases e
        exact ⟨i, j, view_int r ea ra, view_int r eb rb, hc i j hcc, k W H _ (.refl _ _) r (hg _ _ _ _ _)⟩
      · cases e
    · cases e
theorem rI_of {f : Value → Value → Sem Value} {g : Int → Int → V} (h : OpR X f (rI0 g)) : OpR X f (rI (fun _ _ => True) g) := OpR.weak h fun x y H Q ⟨i, j, e1, e2, _, q⟩ => ⟨i, j, e1, e2, q⟩
abbrev yes : Int → Int → Bool := fun _ _ => true
def big64 (i : Int) : Bool := decide (-18446744073709551616 < i) && decide (i < 18446744073709551616)
abbrev opSub := opInt yes fun i j => .int (i - j)
abbrev opMul := opInt (fun i j => big64 i || big64 j) fun i j => .int (i * j)
abbrev opDiv := opInt (fun _ j => decide (0 < j) && decide (j < 1073741824)) fun i j => .int (i / j)
abbrev opMod := opInt (fun _ j => decide (0 < j)) fun i j => .int (i % j)
abbrev opPow := opInt (fun i j => decide (0 ≤ j) && decide (j ≤ 1000000) && decide (i.natAbs < 18446744073709551616)) fun i j => .int (i ^ j.toNat)
theorem ov_sub : OpR X (binaryOp .Sub) (ROp X cl opSub) := ov_int (rI_of op_sub) (fun _ _ _ => trivial) fun _ _ _ i j => .int _
theorem ov_mul : OpR X (binaryOp .Mult) (ROp X cl opMul) := ov_int op_mul (fun i j h => by
  unfold big64 at h
  simp only [Bool.or_eq_true, Bool.and_eq_true, decide_eq_true_eq] at h
  unfold CMul
  omega) fun _ _ _ i j => .int _
theorem ov_div : OpR X (binaryOp .FloorDiv) (ROp X cl opDiv) := ov_int op_fdiv (fun i j h => by
  simp only [Bool.and_eq_true, decide_eq_true_eq] at h
  exact h) fun _ _ _ i j => .int _
theorem ov_mod : OpR X (binaryOp .Mod) (ROp X cl opMod) := ov_int op_mod (fun i j h => by simpa using h) fun _ _ _ i j => .int _
theorem ov_pow : OpR X (binaryOp .Pow) (ROp X cl opPow) := ov_int op_pow (fun i j h => by
  simp only [Bool.and_eq_true, decide_eq_true_eq] at h
  unfold CPow
  omega) fun _ _ _ i j => .int _

/-! ### comparisons -/
def deq (x y : Dv) : Option Bool := if x.flat && y.flat && decide (min x.pd.depth y.pd.depth ≤ 199) then some (PyData.eqv x.pd y.pd) else none
def opEq (S : Sto) (a b : SV) : Option Dv := match view S a, view S b with
  | some x, some y => (deq x y).map .bl
  | _, _ => none
def opNe (S : Sto) (a b : SV) : Option Dv := match view S a, view S b with
  | some x, some y => (deq x y).map fun c => .bl (!c)
  | _, _ => none
theorem op_eqR (hu : X.A.units + 200 < cLine) : OpR X (compareOp .Eq) (fun x y H Q => ∃ d e, Dp X.K H x d ∧ Dp X.K H y e ∧ d.canLay0 = true ∧ e.canLay0 = true ∧ min d.depth e.depth ≤ 199 ∧ Q (.bl (PyData.eqv d e)) H) := by
  intro pins s σ H x y v u Q I rx ry h
  obtain ⟨d, e, hd, he, sd, se, hm, q⟩ := h
  obtain ⟨as, r1⟩ := Dp.reads I d x v hd rx
  obtain ⟨bs, r2⟩ := Dp.reads I e y u he ry
  exact PySem.SeqAt.compareEq_reads r1 r2 sd se (by omega) ⟨.bl _, H, I, rfl, q⟩
theorem op_neR (hu : X.A.units + 200 < cLine) : OpR X (compareOp .NotEq) (fun x y H Q => ∃ d e, Dp X.K H x d ∧ Dp X.K H y e ∧ d.canLay0 = true ∧ e.canLay0 = true ∧ min d.depth e.depth ≤ 199 ∧ Q (.bl (!PyData.eqv d e)) H) := by
  intro pins s σ H x y v u Q I rx ry h
  obtain ⟨d, e, hd, he, sd, se, hm, q⟩ := h
  obtain ⟨as, r1⟩ := Dp.reads I d x v hd rx
  obtain ⟨bs, r2⟩ := Dp.reads I e y u he ry
  exact PySem.SeqAt.compareNe_reads r1 r2 sd se (by omega) ⟨.bl _, H, I, rfl, q⟩
theorem ov_eq (hu : X.A.units + 200 < cLine) : OpR X (compareOp .Eq) (ROp X cl opEq) := OpR.weak (op_eqR hu) fun x y H Q ⟨W, S, a, b, z, r, ra, rb, e, k⟩ => by
  unfold opEq at e
  split at e
  · rename_i p q ea eb
    unfold deq at e
    split at e
    · rename_i hc
      cases e
      simp only [Bool.and_eq_true, decide_eq_true_eq] at hc
      obtain ⟨⟨f1, f2⟩, f3⟩ := hc
      obtain ⟨d1, c1⟩ := view_dp r ea ra f1
      obtain ⟨d2, c2⟩ := view_dp r eb rb f2
      exact ⟨_, _, d1, d2, c1, c2, f3, k W H _ (.refl _ _) r (.bl _)⟩
    · cases e
  · cases e
theorem ov_ne (hu : X.A.units + 200 < cLine) : OpR X (compareOp .NotEq) (ROp X cl opNe) := OpR.weak (op_neR hu) fun x y H Q ⟨W, S, a, b, z, r, ra, rb, e, k⟩ => by
  unfold opNe at e
  split at e
  · rename_i p q ea eb
    unfold deq at e
    split at e
    · rename_i hc
      cases e
      simp only [Bool.and_eq_true, decide_eq_true_eq] at hc
      obtain ⟨⟨f1, f2⟩, f3⟩ := hc
      obtain ⟨d1, c1⟩ := view_dp r ea ra f1
      obtain ⟨d2, c2⟩ := view_dp r eb rb f2
      exact ⟨_, _, d1, d2, c1, c2, f3, k W H _ (.refl _ _) r (.bl _)⟩
    · cases e
  · cases e
abbrev opLt := opInt yes fun i j => .bl (decide (i < j))
abbrev opLe := opInt yes fun i j => .bl (decide (i ≤ j))
abbrev opGt := opInt yes fun i j => .bl (decide (j < i))
abbrev opGe := opInt yes fun i j => .bl (decide (j ≤ i))
theorem ov_lt : OpR X (compareOp .Lt) (ROp X cl opLt) := ov_int (rI_of op_lt) (fun _ _ _ => trivial) fun _ _ _ i j => .bl _
theorem ov_le : OpR X (compareOp .LtE) (ROp X cl opLe) := ov_int (rI_of op_le) (fun _ _ _ => trivial) fun _ _ _ i j => .bl _
theorem ov_gt : OpR X (compareOp .Gt) (ROp X cl opGt) := ov_int (rI_of op_gt) (fun _ _ _ => trivial) fun _ _ _ i j => .bl _
theorem ov_ge : OpR X (compareOp .GtE) (ROp X cl opGe) := ov_int (rI_of op_ge) (fun _ _ _ => trivial) fun _ _ _ i j => .bl _
def SV.isNon : SV → Bool
  | .d .non => true
  | _ => false
def opIsN (S : Sto) (a b : SV) : Option Dv := match view S b with
  | some .non => some (.bl a.isNon)
  | _ => none
def opIsNot (S : Sto) (a b : SV) : Option Dv := match view S b with
  | some .non => some (.bl (!a.isNon))
  | _ => none
theorem non_iff {K : PySem.W.Frag} {W : Wd} {n : Nat} {a : SV} {x : V} (r : RelSV K cl W n a x) : decide (x = .non) = a.isNon := by
  cases a with
  | m i => obtain ⟨_, rfl⟩ := r; rfl
  | d y => cases r <;> rfl
theorem ov_is : OpR X (compareOp .Is) (ROp X cl opIsN) := OpR.weak op_isN fun x y H Q ⟨W, S, a, b, z, r, ra, rb, e, k⟩ => by
  unfold opIsN at e
  split at e
  · rename_i eb
    cases e
    refine ⟨view_non r eb rb, ?_⟩
    rw [non_iff ra]
    exact k W H _ (.refl _ _) r (.bl _)
  · cases e
theorem ov_isnot : OpR X (compareOp .IsNot) (ROp X cl opIsNot) := OpR.weak op_notN fun x y H Q ⟨W, S, a, b, z, r, ra, rb, e, k⟩ => by
  unfold opIsNot at e
  split at e
  · rename_i eb
    cases e
    refine ⟨view_non r eb rb, ?_⟩
    rw [non_iff ra]
    exact k W H _ (.refl _ _) r (.bl _)
  · cases e
end
end Ev

set_option Elab.async false
set_option linter.all false
set_option maxRecDepth 100000
/-! Ev5: items, in, built-in functions, isinstance. -/
namespace Ev
open PySem L2

/-- the items of a list or tuple as they lie -/
def itemsOf (S : Sto) : SV → Option (List SV)
  | .d (.lst xs) => some (xs.map .d)
  | .d (.tup xs) => some (xs.map .d)
  | .d _ => none
  | .m i => match S[i]? with
    | some (.lst xs) => some xs
    | some (.frz (.lst xs)) => some (xs.map .d)
    | some (.frz (.tup xs)) => some (xs.map .d)
    | some (.tup xs) => some xs
    | _ => none
/-- the pairs of a dict as they lie -/
def dictOf (S : Sto) : SV → Option (List Key × List SV)
  | .d (.dic ks xs) => some (ks, xs.map .d)
  | .d _ => none
  | .m i => match S[i]? with
    | some (.dic ks xs) => some (ks, xs)
    | some (.frz (.dic ks xs)) => some (ks, xs.map .d)
    | some (.lck ks xs) => some (ks, xs)
    | _ => none
def keyD : Key → Dv
  | .inl i => .int i
  | .inr s => .str s
abbrev keyS (k : Key) : SV := .d (keyD k)
def lookK {α : Type} (k : Key) : List Key → List α → Option α
  | a :: ks, x :: xs => if a = k then some x else lookK k ks xs
  | _, _ => none
section
variable {K : PySem.W.Frag} {cl : Nat → Addr} {W : Wd} {S : Sto} {H : Hp} {n : Nat}
theorem RelDs.sv : ∀ {xs : List Dv} {vs : List V}, RelDs K cl W.G xs vs → Paired (RelSV K cl W n) (xs.map .d) vs
  | _, _, .nil => .nil
  | _, _, .cons a b => .cons a (RelDs.sv b)
theorem items_rel (r : Rel K cl W S H) {x : SV} {xs : List SV} {v : V} (e : itemsOf S x = some xs) (q : RelSV K cl W S.length x v) : ∃ a vs, v = .ref a ∧ (SqL K H a vs ∨ SqT K H a vs) ∧ Paired (RelSV K cl W S.length) xs vs := by
  cases x with
  | d y =>
    cases y <;> first | (cases e; done) | skip
    · cases e; cases q with
      | tup h t => exact ⟨_, _, rfl, .inr (SqT.up r.fz h), t.sv⟩
    · cases e; cases q with
      | lst h t => exact ⟨_, _, rfl, .inl (SqL.up r.fz h), t.sv⟩
  | m i =>
    obtain ⟨_, rfl⟩ := q
    simp only [itemsOf] at e
    split at e
    · rename_i ys hy
      cases e
      obtain ⟨_, vs, h1, h2⟩ := r.st i _ hy
      exact ⟨_, vs, rfl, .inl (.of h1), h2⟩
    · rename_i ys hy
      cases e
      have := r.st i _ hy
      cases this with
      | lst h t => exact ⟨_, _, rfl, .inl (SqL.up r.fz h), t.sv⟩
    · rename_i ys hy
      cases e
      have := r.st i _ hy
      cases this with
      | tup h t => exact ⟨_, _, rfl, .inr (SqT.up r.fz h), t.sv⟩
    · rename_i ys hy
      cases e
      obtain ⟨_, vs, h1, h2⟩ := r.st i _ hy
      exact ⟨_, vs, rfl, .inr (.of h1), h2⟩
    · cases e
theorem Rd_of_core {a : Addr} {o : HO} {kvs : List (Key × V)} (h : H a = some o) (c : core o = .dK kvs) : Rd H a (.dK kvs) := by
  cases o <;> first
    | (cases c; exact .inl h)
    | (rename_i ob u
       have c' : u = .dK kvs := c
       subst c'
       exact .inr ⟨_, h⟩)
    | (cases c)
theorem dict_rel (r : Rel K cl W S H) {x : SV} {ks : List Key} {xs : List SV} {v : V} (e : dictOf S x = some (ks, xs)) (q : RelSV K cl W S.length x v) : ∃ a vs, v = .ref a ∧ Rd H a (.dK (ks.zip vs)) ∧ DKl ks xs.length ∧ Paired (RelSV K cl W S.length) xs vs := by
  cases x with
  | d y =>
    cases y <;> first | (cases e; done) | skip
    cases e; cases q with
    | dic h c l t => exact ⟨_, _, rfl, Rd_of_core (r.fz _ _ h) c, by rw [List.length_map]; exact l, t.sv⟩
  | m i =>
    obtain ⟨_, rfl⟩ := q
    simp only [dictOf] at e
    split at e
    · rename_i ks' ys hy
      cases e
      obtain ⟨_, vs, h1, h3, h2⟩ := r.st i _ hy
      exact ⟨_, vs, rfl, .inl h1, h3, h2⟩
    · rename_i ks' ys hy
      cases e
      have := r.st i _ hy
      cases this with
      | dic h c l t => exact ⟨_, _, rfl, Rd_of_core (r.fz _ _ h) c, by rw [List.length_map]; exact l, t.sv⟩
    · rename_i ks' ys hy
      cases e
      obtain ⟨_, vs, od, h1, h3, h2⟩ := r.st i _ hy
      exact ⟨_, vs, rfl, .inr ⟨od, h1.1⟩, h3, h2⟩
    · cases e
theorem look_rel (k : Key) : ∀ {ks : List Key} {xs : List SV} {vs : List V}, ks.length = xs.length → Paired (RelSV K cl W n) xs vs →
    (∀ x, lookK k ks xs = some x → ∃ v, valV (ks.zip vs) k = some v ∧ RelSV K cl W n x v) ∧ (lookK k ks xs = none → valV (ks.zip vs) k = none)
  | [], [], [], _, .nil => ⟨fun _ e => (by cases e), fun _ => rfl⟩
  | a :: ks, x :: xs, v :: vs, l, .cons q t => by
    obtain ⟨i1, i2⟩ := look_rel k (Nat.succ.inj l) t
    have e0 : valV ((a :: ks).zip (v :: vs)) k = if a = k then some v else valV (ks.zip vs) k := by
      unfold valV
      rw [List.zip_cons_cons, List.find?_cons]
      by_cases h : a = k
      · simp [h]
      · simp [h]
    unfold lookK
    rw [e0]
    by_cases h : a = k
    · rw [if_pos h, if_pos h]
      exact ⟨fun y e => (by cases e; exact ⟨v, rfl, q⟩), fun e => (by cases e)⟩
    · rw [if_neg h, if_neg h]
      exact ⟨i1, i2⟩
  | [], _ :: _, _, l, _ => by cases l
  | _ :: _, [], _, l, _ => by cases l
theorem paired_get {α β : Type} {R : α → β → Prop} : ∀ {xs : List α} {ys : List β} {i : Nat} {x : α}, Paired R xs ys → xs[i]? = some x → ∃ y, ys[i]? = some y ∧ R x y
  | _, _, _, _, .nil, e => by simp at e
  | _, _, 0, _, .cons r _, e => by simp at e; subst e; exact ⟨_, rfl, r⟩
  | _, _, i + 1, x, .cons _ t, e => by
    obtain ⟨y, h1, h2⟩ := paired_get (i := i) (x := x) t (by simpa using e)
    exact ⟨y, by simpa using h1, h2⟩
theorem atI_rel {xs : List SV} {vs : List V} {i : Int} {x : SV} (p : Paired (RelSV K cl W n) xs vs) (e : atI xs i = some x) : ∃ v, atI vs i = some v ∧ RelSV K cl W n x v := by
  unfold atI at *
  rw [← PySem.Paired.length p]
  cases h : ixN xs.length i with
  | none => rw [h] at e; cases e
  | some j =>
    rw [h] at e
    exact paired_get p e
end

/-! ### x[i] -/
def kOf : Dv → Option Key
  | .int i => some (.inl i)
  | .str s => some (.inr s)
  | _ => none
def opIx (S : Sto) (a b : SV) : Option SV := match view S b with
  | some k => match itemsOf S a, k with
    | some xs, .int i => atI xs i
    | some _, _ => none
    | none, _ => match dictOf S a with
      | some (ks, xs) => match kOf k with
        | some kk => lookK kk ks xs
        | none => none
      | none => match view S a, k with
        | some (.str z), .int i => if z.length ≤ most then (atI z.cps.toList i).map fun c => .d (.str ⟨#[c]⟩) else none
        | _, _ => none
  | none => none
def ROpS (X : Cx) (cl : Nat → Addr) (g : Sto → SV → SV → Option SV) : R2 := fun x y H Q => ∃ W S a b z, Rel X.K cl W S H ∧ RelSV X.K cl W S.length a x ∧ RelSV X.K cl W S.length b y ∧ g S a b = some z ∧
  ∀ W' H' v, Le S.length W W' → Rel X.K cl W' S H' → RelSV X.K cl W' S.length z v → Q v H'
def eOpS (g : Sto → SV → SV → Option SV) (f h : Fr → Sto → Res SV) : Fr → Sto → Res SV := fun F S => (f F S).bind fun x S1 => (h F S1).bind fun y S2 => match g S2 x y with
  | some z => .ok z S2
  | none => .bad
section
variable {X : Cx} {cl : CL} {Wx : WX} {e1 e2 : Expr} {f g h : Fr → Sto → Res SV} {pos : Pos}
theorem eOpS_use {o : Sto → SV → SV → Option SV} {σ : St} {H : Hp} {Q : VK} (q : RE X cl Wx (eOpS o f h) σ H Q) : tOp (ROpS X cl o) (RE X cl Wx f) (RE X cl Wx h) σ H Q := by
  obtain ⟨W, F, S, a, q⟩ := q
  refine RE.of a q fun W1 S1 x v H1 g1 l1 a1 q1 o1 => ?_
  refine RE.of a1 o1 fun W2 S2 y u H2 g2 l2 a2 q2 o2 => ?_
  cases z : o S2 x y with
  | none => simp only [z] at o2; exact o2.elim
  | some w =>
    simp only [z] at o2
    exact ⟨W2, S2, x, y, w, a2.rel, RelSV.le l2 g2.len q1, q2, z, fun W' H' v l r q => o2 W' H' v (.refl _ _) l r q⟩
theorem ix_dict (hu : X.A.units + 1 < cLine) : IxR X (fun x y H Q => ∃ a v, x = .ref a ∧ DGet H a y (some v) ∧ Q v H) := by
  intro value slice pins s σ H x y v u Q I rx ry h hs
  obtain ⟨a, w, rfl, g, q⟩ := h
  obtain rfl : v = Value.ref a := rx
  have hT := dict_typeIs I g
  unfold PyProof.Rows.subscriptTail
  refine wpAny_bind ?_
  rw [getitemInPython_of_ne hT.not_modules]
  refine wpAny_bind (wpAny_specialOf hT PySem.F.slot_dict_getitem.lookup ?_)
  have fin : wpAny (model X.prog X.w) X.A (subscripted slice false (.ref a) u) (fun r s₃ => wpAny (model X.prog X.w) X.A (letTemporaryGo value (.ref a) r >>= fun _ => pure r) (EP X pins σ Q) X.xe s₃) X.xe s := by
    rw [hs]
    exact wpAny_operating (d_getItem hu I g ry fun w' s' I' rw' => wpAny_bind (wpAny_letTemporaryGo (wpAny_pure ⟨w, H, I', rw', q⟩)))
  first
    | exact wpAny_pure (wpAny_bind fin)
    | exact wpAny_bind (wpAny_pure (wpAny_bind fin))
    | exact wpAny_bind fin
theorem strOk_at {z : Str} {i : Int} {c : Nat} (h : PyData.strOk z = true) (e : atI z.cps.toList i = some c) : PyData.strOk ⟨#[c]⟩ = true := by
  have hm : c ∈ z.cps.toList := by
    unfold atI at e
    cases k : ixN z.cps.toList.length i with
    | none => rw [k] at e; cases e
    | some j => rw [k] at e; exact List.mem_of_getElem? e
  unfold PyData.strOk at *
  rw [Array.all_eq_true'] at h
  have := h c (Array.mem_toList_iff.mp hm)
  simpa using this
theorem key_rel {K : PySem.W.Frag} {cl : Nat → Addr} {W : Wd} {S : Sto} {H : Hp} {b : SV} {y : V} {k : Dv} {kk : Key} (r : Rel K cl W S H) (eb : view S b = some k) (rb : RelSV K cl W S.length b y) (e : kOf k = some kk) : y = kV kk := by
  cases k <;> first | (cases e; done) | skip
  · cases e; exact view_int r eb rb
  · cases e; exact (view_str r eb rb).1
theorem ov_ix (hu : X.A.units + 1 < cLine) (value slice : Expr) (hs : ∀ v u, subscripted slice false v u = operate [v, u] (getItem v u)) : OpR X (fun v u => PyProof.Rows.subscriptTail value slice v u) (ROpS X cl opIx) := by
  intro pins s σ H x y v u Q I rx ry h
  refine ((ix_list (X := X)).or (ix_tup.or (ix_str.or (ix_dict hu)))) value slice pins s σ H x y v u Q I rx ry ?_ (hs v u)
  obtain ⟨W, S, a, b, z, r, ra, rb, e, k⟩ := h
  unfold opIx at e
  split at e
  · rename_i kk eb
    split at e
    · rename_i xs i ea
      obtain ⟨p, vs, e1, s1, t1⟩ := items_rel r ea ra
      obtain ⟨w, hw, rw'⟩ := atI_rel t1 e
      have e2 := view_int r eb rb
      rcases s1 with s1 | s1
      · exact .inl ⟨p, vs, i, w, e1, e2, s1, hw, k W H _ (.refl _ _) r rw'⟩
      · exact .inr (.inl ⟨p, vs, i, w, e1, e2, s1, hw, k W H _ (.refl _ _) r rw'⟩)
    · cases e
    · rename_i ea
      split at e
      · rename_i ks xs ed
        split at e
        · rename_i kk' ek
          obtain ⟨p, vs, e1, s1, l1, t1⟩ := dict_rel r ed ra
          obtain ⟨w, hw, rw'⟩ := (look_rel kk' l1.1 t1).1 z e
          exact .inr (.inr (.inr ⟨p, w, e1, .inl ⟨_, kk', s1, key_rel r eb rb ek, hw.symm⟩, k W H _ (.refl _ _) r rw'⟩))
        · cases e
      · split at e
        · rename_i zz i ez
          split at e
          · rename_i hm
            cases hc : atI zz.cps.toList i with
            | none => rw [hc] at e; cases e
            | some c =>
              rw [hc] at e
              cases e
              obtain ⟨e1, k1⟩ := view_str r ez ra
              exact .inr (.inr (.inl ⟨zz, i, c, e1, view_int r eb rb, hm, hc, k W H _ (.refl _ _) r (RelD.str _ (strOk_at k1 hc))⟩))
          · cases e
        · cases e
  · cases e
theorem ev_ix (hu : X.A.units + 1 < cLine) (ha : PE X e1 (RE X cl Wx f)) (hb : PE X e2 (RE X cl Wx h)) (hs : PlainIx e2 := by exact fun _ _ => rfl) : PE X (.Subscript e1 e2 pos) (RE X cl Wx (eOpS opIx f h)) := by
  refine PE.weak (t := tOp (ROpS X cl opIx) (RE X cl Wx f) (RE X cl Wx h)) ?_ fun _ _ _ q => eOpS_use q
  refine ⟨fun pins s σ H Q I q => ?_⟩
  exact PyProof.Rows.Subscript_ (binT ha hb I q fun v u s2 x y H2 I2 rx ry q => ov_ix hu e1 e2 hs pins s2 σ H2 x y v u Q I2 rx ry q)
end

/-! ### in, not in -/
section
variable {X : Cx} {cl : CL}
theorem any_reads {h : Heap} {d : PyData} (e : Value → Bool) (he : ∀ y dd as, Reads h y dd as → dd.canLay0 = true → e y = PyData.eqv dd d) : ∀ {ds : List PyData} {its : List Value} {bs : List Addr}, ReadsAll h its ds bs → PyData.canLayAll0 ds = true →
    its.any e = ds.any (fun x => PyData.eqv x d) ∧ ∀ y ∈ its, ∃ dd as, Reads h y dd as ∧ dd.canLay0 = true
  | _, _, _, .nil, _ => ⟨rfl, fun y h => by cases h⟩
  | x :: ds, _, _, .cons (v := y) (vs := its) r t, c => by
    obtain ⟨c1, c2⟩ := Bool.and_eq_true_iff.mp (show (PyData.canLay0 x && PyData.canLayAll0 ds) = true from c)
    obtain ⟨i1, i2⟩ := any_reads e he t c2
    refine ⟨by rw [List.any_cons, List.any_cons, i1, he y x _ r c1], fun z hz => ?_⟩
    rcases List.mem_cons.mp hz with rfl | hz
    · exact ⟨_, _, r, c1⟩
    · exact i2 z hz
def rInD (K : PySem.W.Frag) (neg : Bool) : R2 := fun x y H Q => ∃ p vs d ds, y = .ref p ∧ (SqL K H p vs ∨ SqT K H p vs) ∧ Dp K H x d ∧ DpAll K H vs ds ∧ d.canLay0 = true ∧ PyData.canLayAll0 ds = true ∧ d.depth ≤ 190 ∧ Q (.bl (neg ^^ ds.any fun e => PyData.eqv e d)) H
open Classical in
theorem in_core {pins : List (Addr × Obj)} {σ : St} {H : Hp} {s : Shared} {x : V} {u : Value} {vs : List V} {d : PyData} {ds : List PyData} {its : List Value} (hu : X.A.units + 200 < cLine) (I : Inv X pins σ H s) (rx : RelV x u) (hd : Dp X.K H x d) (hds : DpAll X.K H vs ds) (c1 : d.canLay0 = true) (c2 : PyData.canLayAll0 ds = true)
    (hm : d.depth ≤ 190) (rv : Vals vs its) : ∃ e : Value → Bool, (∀ y, y ∈ its.toArray → PySem.SeqAt.EqAt X.A.in1 s y u (e y)) ∧ its.toArray.any e = ds.any fun z => PyData.eqv z d := by
  obtain ⟨as, r1⟩ := Dp.reads I d x u hd rx
  obtain ⟨bs, r2⟩ := Dp.readsAll I ds vs its hds rv
  let e : Value → Bool := fun y => decide (∃ dd as, Reads s.heap y dd as ∧ dd.canLay0 = true ∧ PyData.eqv dd d = true)
  have he : ∀ y dd as, Reads s.heap y dd as → dd.canLay0 = true → e y = PyData.eqv dd d := fun y dd as r c => by
    by_cases h : PyData.eqv dd d = true
    · rw [h]; exact decide_eq_true ⟨dd, as, r, c, h⟩
    · have h' : PyData.eqv dd d = false := by simpa using h
      rw [h']
      refine decide_eq_false fun ⟨dd', as', r', c', h2⟩ => h ?_
      rw [PySem.SeqAt.Reads.unique dd dd' y as as' c r r']
      exact h2
  obtain ⟨a1, a2⟩ := any_reads e he r2 c2
  refine ⟨e, fun y hy => ?_, by rw [← a1]; simp⟩
  obtain ⟨dd, as', r, c⟩ := a2 y (by simpa using hy)
  rw [he y dd as' r c]
  refine PySem.SeqAt.eqAt_reads dd d X.A.in1 s y u as' as r r1 c c1 ?_
  show X.A.units + 1 + _ < _
  omega
theorem op_inD (hu : X.A.units + 200 < cLine) : OpR X (compareOp .In) (rInD X.K false) := by
  intro pins s σ H x y v u Q I rx ry h
  obtain ⟨p, vs, d, ds, rfl, hq, hd, hds, c1, c2, hm, q⟩ := h
  cases ry
  rw [Bool.false_xor] at q
  rcases hq with hq | hq
  · obtain ⟨its, rv, pl, _⟩ := I.list hq
    obtain ⟨e, he, ha⟩ := in_core hu I rx hd hds c1 c2 hm rv
    exact PySem.SeqAt.in_listAt e pl.isList he (by rw [ha]; exact ⟨.bl _, H, I, rfl, q⟩)
  · obtain ⟨its, rv, pl, _⟩ := I.tuple hq
    obtain ⟨e, he, ha⟩ := in_core hu I rx hd hds c1 c2 hm rv
    exact PySem.SeqAt.in_tupleAt e pl he (by rw [ha]; exact ⟨.bl _, H, I, rfl, q⟩)
theorem op_notInD (hu : X.A.units + 200 < cLine) : OpR X (compareOp .NotIn) (rInD X.K true) := by
  intro pins s σ H x y v u Q I rx ry h
  obtain ⟨p, vs, d, ds, rfl, hq, hd, hds, c1, c2, hm, q⟩ := h
  cases ry
  rw [Bool.true_xor] at q
  rcases hq with hq | hq
  · obtain ⟨its, rv, pl, _⟩ := I.list hq
    obtain ⟨e, he, ha⟩ := in_core hu I rx hd hds c1 c2 hm rv
    exact PySem.SeqAt.notIn_listAt e pl.isList he (by rw [ha]; exact ⟨.bl _, H, I, rfl, q⟩)
  · obtain ⟨its, rv, pl, _⟩ := I.tuple hq
    obtain ⟨e, he, ha⟩ := in_core hu I rx hd hds c1 c2 hm rv
    exact PySem.SeqAt.notIn_tupleAt e pl he (by rw [ha]; exact ⟨.bl _, H, I, rfl, q⟩)
theorem op_inDict (hu : X.A.units + 1 < cLine) : OpR X (compareOp .In) (fun x y H Q => ∃ a o, y = .ref a ∧ DGet H a x o ∧ Q (.bl o.isSome) H) := by
  intro pins s σ H x y v u Q I rx ry h
  obtain ⟨a, o, rfl, g, q⟩ := h
  obtain rfl : u = Value.ref a := ry
  exact d_in hu I g rx fun s3 I3 => ⟨.bl o.isSome, H, I3, rfl, q⟩
theorem op_notInDict (hu : X.A.units + 1 < cLine) : OpR X (compareOp .NotIn) (fun x y H Q => ∃ a o, y = .ref a ∧ DGet H a x o ∧ Q (.bl (!o.isSome)) H) := by
  intro pins s σ H x y v u Q I rx ry h
  obtain ⟨a, o, rfl, g, q⟩ := h
  obtain rfl : u = Value.ref a := ry
  exact d_notIn hu I g rx fun s3 I3 => ⟨.bl (!o.isSome), H, I3, rfl, q⟩
/-- is x among the items, the keys, the signs? -/
def inS (S : Sto) (a b : SV) : Option Bool := match view S a with
  | some x => match view S b with
    | some (.lst ys) => if x.flat && Dv.flats ys && decide (x.pd.depth ≤ 190) then some ((Dv.pds ys).any fun y => PyData.eqv y x.pd) else none
    | some (.tup ys) => if x.flat && Dv.flats ys && decide (x.pd.depth ≤ 190) then some ((Dv.pds ys).any fun y => PyData.eqv y x.pd) else none
    | some (.str t) => match x with
      | .str s => some (!(Builtin.Str.occurrences t s 0 t.length 1).isEmpty)
      | _ => none
    | _ => match dictOf S b, kOf x with
      | some (ks, xs), some k => some (lookK k ks xs).isSome
      | _, _ => none
  | none => none
def opIn (S : Sto) (a b : SV) : Option Dv := (inS S a b).map .bl
def opNotIn (S : Sto) (a b : SV) : Option Dv := (inS S a b).map fun c => .bl (!c)
theorem inS_rel {K : PySem.W.Frag} {W : Wd} {S : Sto} {H : Hp} {a b : SV} {x y : V} {c : Bool} (r : Rel K cl W S H) (ra : RelSV K cl W S.length a x) (rb : RelSV K cl W S.length b y) (e : inS S a b = some c) :
    (∃ p vs d ds, y = .ref p ∧ (SqL K H p vs ∨ SqT K H p vs) ∧ Dp K H x d ∧ DpAll K H vs ds ∧ d.canLay0 = true ∧ PyData.canLayAll0 ds = true ∧ d.depth ≤ 190 ∧ c = ds.any fun e => PyData.eqv e d) ∨
    (∃ i j, x = .str i ∧ y = .str j ∧ c = !(Builtin.Str.occurrences j i 0 j.length 1).isEmpty) ∨ ∃ p o, y = .ref p ∧ DGet H p x o ∧ c = o.isSome := by
  unfold inS at e
  split at e
  · rename_i z ea
    have dct : (match dictOf S b, kOf z with
      | some (ks, xs), some k => some (lookK k ks xs).isSome
      | _, _ => none) = some c → ∃ p o, y = .ref p ∧ DGet H p x o ∧ c = o.isSome := fun e => by
      split at e
      · rename_i ks xs k ed ek
        cases e
        obtain ⟨p, vs, e1, s1, l1, t1⟩ := dict_rel r ed rb
        refine ⟨p, valV (ks.zip vs) k, e1, .inl ⟨_, k, s1, key_rel r ea ra ek, rfl⟩, ?_⟩
        have lr := look_rel k l1.1 t1
        cases h : lookK k ks xs with
        | none => rw [lr.2 h]; rfl
        | some w =>
          obtain ⟨w', h1, _⟩ := lr.1 w h
          rw [h1]; rfl
      · cases e
    split at e
    · rename_i ys eb
      split at e
      · rename_i hc
        cases e
        simp only [Bool.and_eq_true, decide_eq_true_eq] at hc
        obtain ⟨⟨f1, f2⟩, f3⟩ := hc
        obtain ⟨p, vs, e1, s1, t1⟩ := view_lst r eb rb
        obtain ⟨d1, c1⟩ := view_dp r ea ra f1
        obtain ⟨d2, c2⟩ := RelDs.dp r.fz t1 f2
        exact .inl ⟨p, vs, _, _, e1, .inl s1, d1, d2, c1, c2, f3, rfl⟩
      · cases e
    · rename_i ys eb
      split at e
      · rename_i hc
        cases e
        simp only [Bool.and_eq_true, decide_eq_true_eq] at hc
        obtain ⟨⟨f1, f2⟩, f3⟩ := hc
        obtain ⟨p, vs, e1, s1, t1, _⟩ := view_tup r eb rb
        obtain ⟨d1, c1⟩ := view_dp r ea ra f1
        obtain ⟨d2, c2⟩ := RelDs.dp r.fz t1 f2
        exact .inl ⟨p, vs, _, _, e1, .inr s1, d1, d2, c1, c2, f3, rfl⟩
      · cases e
    · rename_i t eb
      split at e
      · rename_i s
        cases e
        exact .inr (.inl ⟨s, t, (view_str r ea ra).1, (view_str r eb rb).1, rfl⟩)
      · cases e
    · exact .inr (.inr (dct e))
  · cases e
theorem ov_in (hu : X.A.units + 200 < cLine) : OpR X (compareOp .In) (ROp X cl opIn) := OpR.weak ((op_inD hu).or (op_in_str.or (op_inDict (by omega)))) fun x y H Q ⟨W, S, a, b, z, r, ra, rb, e, k⟩ => by
  unfold opIn at e
  cases h : inS S a b with
  | none => rw [h] at e; cases e
  | some c =>
    rw [h] at e
    cases e
    have q := k W H _ (.refl _ _) r (.bl c)
    rcases inS_rel r ra rb h with ⟨p, vs, d, ds, e1, s1, d1, d2, c1, c2, f3, rfl⟩ | ⟨i, j, e1, e2, rfl⟩ | ⟨p, o, e1, g, rfl⟩
    · exact .inl ⟨p, vs, d, ds, e1, s1, d1, d2, c1, c2, f3, by rw [Bool.false_xor]; exact q⟩
    · exact .inr (.inl ⟨i, j, e1, e2, q⟩)
    · exact .inr (.inr ⟨p, o, e1, g, q⟩)
theorem ov_notIn (hu : X.A.units + 200 < cLine) : OpR X (compareOp .NotIn) (ROp X cl opNotIn) := OpR.weak ((op_notInD hu).or (op_notin_str.or (op_notInDict (by omega)))) fun x y H Q ⟨W, S, a, b, z, r, ra, rb, e, k⟩ => by
  unfold opNotIn at e
  cases h : inS S a b with
  | none => rw [h] at e; cases e
  | some c =>
    rw [h] at e
    cases e
    have q := k W H _ (.refl _ _) r (.bl (!c))
    rcases inS_rel r ra rb h with ⟨p, vs, d, ds, e1, s1, d1, d2, c1, c2, f3, rfl⟩ | ⟨i, j, e1, e2, rfl⟩ | ⟨p, o, e1, g, rfl⟩
    · exact .inl ⟨p, vs, d, ds, e1, s1, d1, d2, c1, c2, f3, by rw [Bool.true_xor]; exact q⟩
    · exact .inr (.inl ⟨i, j, e1, e2, q⟩)
    · exact .inr (.inr ⟨p, o, e1, g, q⟩)
end
end Ev

set_option Elab.async false
set_option linter.all false
set_option maxRecDepth 100000
/-! Ev6: built-in functions, isinstance, attributes, calls. -/
namespace Ev
open PySem L2

def RCall (X : Cx) (cl : Nat → Addr) (g : Sto → List SV → Option Dv) : List V → Hp → VK → Prop := fun xs H Q => ∃ W S as z, Rel X.K cl W S H ∧ Paired (RelSV X.K cl W S.length) as xs ∧ g S as = some z ∧
  ∀ W' H' v, Le S.length W W' → Rel X.K cl W' S H' → RelD X.K cl W'.G z v → Q v H'
def eBi (g : Sto → List SV → Option Dv) (f : Fr → Sto → Res (List SV)) : Fr → Sto → Res SV := fun F S => (f F S).bind fun xs S1 => match g S1 xs with
  | some z => .ok (.d z) S1
  | none => .bad
section
variable {X : Cx} {cl : CL} {Wx : WX} {e : Expr} {es : List Expr} {f : Fr → Sto → Res (List SV)} {p pos : Pos} {x : Str}
theorem eBi_use {g : Sto → List SV → Option Dv} {σ : St} {H : Hp} {Q : VK} (q : RE X cl Wx (eBi g f) σ H Q) : tCB (RCall X cl g) (RA X cl Wx f) σ H Q := by
  obtain ⟨W, F, S, a, q⟩ := q
  refine RA.of a q fun W1 S1 xs vs H1 g1 l1 a1 q1 o1 => ?_
  cases z : g S1 xs with
  | none => simp only [z] at o1; exact o1.elim
  | some w =>
    simp only [z] at o1
    exact ⟨W1, S1, xs, w, a1.rel, q1, z, fun W' H' v l r q => o1 W' H' v (.refl _ _) l r q⟩
theorem ev_bi {id : String} {g : Sto → List SV → Option Dv} (hc : CallR X (.builtin id) (RCall X cl g)) (hg : Gl X x) (hm : X.mg x = none) (hv : bootBuiltins x = some (.builtin id)) (ha : PA X (e :: es) (RA X cl Wx f)) (hn : x ≠ "__name__" := by decide +kernel) (hdb : (x == ("__debug__" : Str)) = false := by decide +kernel)
    (he : starEach (e :: es) X.env = (false, eval e X.env) :: starEach es X.env := by rfl) (hpl : (backTo pos (starEach es X.env)).any (·.1) = false := by rfl) : PE X (.Call (.Name x p) (e :: es) [] pos) (RE X cl Wx (eBi g f)) :=
  PE.weak (pe_callB hc hg hm hv ha hn hdb he hpl) fun _ _ _ q => eBi_use q
theorem ev_ty {T : String} {g : Sto → List SV → Option Dv} (hc : CallR X (.type T) (RCall X cl g)) (hg : Gl X x) (hm : X.mg x = none) (hv : bootBuiltins x = some (.type T)) (ha : PA X (e :: es) (RA X cl Wx f)) (hn : x ≠ "__name__" := by decide +kernel) (hdb : (x == ("__debug__" : Str)) = false := by decide +kernel)
    (he : starEach (e :: es) X.env = (false, eval e X.env) :: starEach es X.env := by rfl) (hpl : (backTo pos (starEach es X.env)).any (·.1) = false := by rfl) : PE X (.Call (.Name x p) (e :: es) [] pos) (RE X cl Wx (eBi g f)) :=
  PE.weak (pe_callTy hc hg hm hv ha hn hdb he hpl) fun _ _ _ q => eBi_use q

/-! len, abs, max, min, int, str -/
def biLen (S : Sto) : List SV → Option Dv
  | [a] => match itemsOf S a with
    | some xs => some (.int xs.length)
    | none => match dictOf S a with
      | some (ks, _) => some (.int ks.length)
      | none => match a with
        | .d (.str z) => if z.length ≤ most then some (.int z.length) else none
        | _ => none
  | _ => none
theorem CallR.or {f : Value} {r r' : List V → Hp → VK → Prop} (h : CallR X f r) (h' : CallR X f r') : CallR X f (fun x H Q => r x H Q ∨ r' x H Q) := by
  intro pins s σ H x us Q I h1 q
  rcases q with q | q
  · exact h pins s σ H x us Q I h1 q
  · exact h' pins s σ H x us Q I h1 q
theorem call_lenR : CallR X (.builtin "len") (fun xs H Q => ∃ a kvs, xs = [V.ref a] ∧ Rd H a (.dK kvs) ∧ Q (.int kvs.length) H) := by
  intro pins s σ H xs us Q I r h
  obtain ⟨a, kvs, rfl, ha, q⟩ := h
  obtain ⟨u, rfl, ru⟩ := vals1 r
  cases ru
  exact d_len I ha fun t s' I' => ⟨.int kvs.length, H, I', ⟨t, rfl⟩, q⟩
theorem ov_len : CallR X (.builtin "len") (RCall X cl biLen) := CallR.weak (CallR.or (call_len (X := X)) call_lenR) fun xs H Q ⟨W, S, as, z, r, ra, e, k⟩ => by
  match as, xs, ra, e with
  | [a], [v], .cons ra .nil, e =>
    simp only [biLen] at e
    split at e
    · rename_i ys ea
      cases e
      obtain ⟨p, vs, rfl, s1, t1⟩ := items_rel r ea ra
      have hl := PySem.Paired.length t1
      refine .inl ⟨.ref p, ys.length, rfl, ?_, k W H _ (.refl _ _) r (.int _)⟩
      rcases s1 with s1 | s1
      · exact .inl ⟨vs, s1, hl⟩
      · exact .inr ⟨vs, s1, hl⟩
    · split at e
      · rename_i ks ys ed
        cases e
        obtain ⟨p, vs, rfl, h1, h2, h3⟩ := dict_rel r ed ra
        have hz : (ks.zip vs).length = ks.length := by
          rw [List.length_zip, ← PySem.Paired.length h3, ← h2.1, Nat.min_self]
        exact .inr ⟨_, _, rfl, h1, by rw [hz]; exact k W H _ (.refl _ _) r (.int _)⟩
      · split at e
        · rename_i z _ _
          split at e
          · rename_i hm
            cases e
            cases ra
            exact .inl ⟨.str z, z.length, rfl, ⟨hm, rfl⟩, k W H _ (.refl _ _) r (.int _)⟩
          · cases e
        · cases e
def biAbs (S : Sto) : List SV → Option Dv
  | [.d (.int i)] => some (.int (if i < 0 then -i else i))
  | _ => none
theorem ov_abs : CallR X (.builtin "abs") (RCall X cl biAbs) := CallR.weak call_abs fun xs H Q ⟨W, S, as, z, r, ra, e, k⟩ => by
  unfold biAbs at e
  split at e
  · rename_i i
    cases e
    cases ra with
    | cons ra t =>
      cases t
      cases ra
      exact ⟨i, rfl, k W H _ (.refl _ _) r (.int _)⟩
  · cases e
def biMax (S : Sto) : List SV → Option Dv
  | [.d (.int i), .d (.int j)] => some (.int (if j > i then j else i))
  | [.d (.int a), .d (.int b), .d (.int c)] => some (.int (if b > a then (if c > b then c else b) else (if c > a then c else a)))
  | _ => none
def biMin (S : Sto) : List SV → Option Dv
  | [.d (.int i), .d (.int j)] => some (.int (if j < i then j else i))
  | [.d (.int a), .d (.int b), .d (.int c)] => some (.int (if b < a then (if c < b then c else b) else (if c < a then c else a)))
  | _ => none
theorem vals3 {x y z : V} {us : List Value} (r : Vals [x, y, z] us) : ∃ u v w, us = [u, v, w] ∧ RelV x u ∧ RelV y v ∧ RelV z w := by
  match us, r with
  | [u, v, w], .cons a (.cons b (.cons c .nil)) => exact ⟨u, v, w, rfl, a, b, c⟩
theorem call_max3 (hc : X.calm = true) : CallR X (.builtin "max") (fun xs H Q => ∃ a b c, xs = [.int a, .int b, .int c] ∧ Q (.int (if b > a then (if c > b then c else b) else (if c > a then c else a))) H) := by
  intro pins s σ H xs us Q I r h
  obtain ⟨a, b, c, rfl, q⟩ := h
  obtain ⟨u, v, w, rfl, ⟨t, rfl⟩, ⟨t', rfl⟩, ⟨t'', rfl⟩⟩ := vals3 r
  refine PySem.max_three_ints (I.ok.hd hc) fun h' tk k => ⟨_, H, I.kept k, ?_, q⟩
  by_cases h1 : b > a
  · rw [if_pos h1, if_pos h1]
    by_cases h2 : c > b
    · rw [if_pos h2, if_pos h2]; exact ⟨_, rfl⟩
    · rw [if_neg h2, if_neg h2]; exact ⟨_, rfl⟩
  · rw [if_neg h1, if_neg h1]
    by_cases h2 : c > a
    · rw [if_pos h2, if_pos h2]; exact ⟨_, rfl⟩
    · rw [if_neg h2, if_neg h2]; exact ⟨_, rfl⟩
theorem call_min3 (hc : X.calm = true) : CallR X (.builtin "min") (fun xs H Q => ∃ a b c, xs = [.int a, .int b, .int c] ∧ Q (.int (if b < a then (if c < b then c else b) else (if c < a then c else a))) H) := by
  intro pins s σ H xs us Q I r h
  obtain ⟨a, b, c, rfl, q⟩ := h
  obtain ⟨u, v, w, rfl, ⟨t, rfl⟩, ⟨t', rfl⟩, ⟨t'', rfl⟩⟩ := vals3 r
  refine PySem.min_three_ints (I.ok.hd hc) fun h' tk k => ⟨_, H, I.kept k, ?_, q⟩
  by_cases h1 : b < a
  · rw [if_pos h1, if_pos h1]
    by_cases h2 : c < b
    · rw [if_pos h2, if_pos h2]; exact ⟨_, rfl⟩
    · rw [if_neg h2, if_neg h2]; exact ⟨_, rfl⟩
  · rw [if_neg h1, if_neg h1]
    by_cases h2 : c < a
    · rw [if_pos h2, if_pos h2]; exact ⟨_, rfl⟩
    · rw [if_neg h2, if_neg h2]; exact ⟨_, rfl⟩
theorem ov_max (hc : X.calm = true) : CallR X (.builtin "max") (RCall X cl biMax) := CallR.weak ((call_max2 hc).or (call_max3 hc)) fun xs H Q ⟨W, S, as, z, r, ra, e, k⟩ => by
  unfold biMax at e
  split at e
  · cases e
    match xs, ra with
    | _, .cons r1 (.cons r2 .nil) => cases r1; cases r2; exact .inl ⟨_, _, rfl, k W H _ (.refl _ _) r (.int _)⟩
  · cases e
    match xs, ra with
    | _, .cons r1 (.cons r2 (.cons r3 .nil)) => cases r1; cases r2; cases r3; exact .inr ⟨_, _, _, rfl, k W H _ (.refl _ _) r (.int _)⟩
  · cases e
theorem ov_min (hc : X.calm = true) : CallR X (.builtin "min") (RCall X cl biMin) := CallR.weak ((call_min2 hc).or (call_min3 hc)) fun xs H Q ⟨W, S, as, z, r, ra, e, k⟩ => by
  unfold biMin at e
  split at e
  · cases e
    match xs, ra with
    | _, .cons r1 (.cons r2 .nil) => cases r1; cases r2; exact .inl ⟨_, _, rfl, k W H _ (.refl _ _) r (.int _)⟩
  · cases e
    match xs, ra with
    | _, .cons r1 (.cons r2 (.cons r3 .nil)) => cases r1; cases r2; cases r3; exact .inr ⟨_, _, _, rfl, k W H _ (.refl _ _) r (.int _)⟩
  · cases e
def biInt (S : Sto) : List SV → Option Dv
  | [.d (.int i)] => some (.int i)
  | [.d (.bl b)] => some (.int (if b then 1 else 0))
  | _ => none
theorem ov_intc : CallR X (.type "int") (RCall X cl biInt) := CallR.weak call_int1 fun xs H Q ⟨W, S, as, z, r, ra, e, k⟩ => by
  unfold biInt at e
  split at e
  · cases e
    match xs, ra with
    | _, .cons r1 .nil => cases r1; exact .inl ⟨_, rfl, k W H _ (.refl _ _) r (.int _)⟩
  · cases e
    match xs, ra with
    | _, .cons r1 .nil => cases r1; exact .inr ⟨_, rfl, k W H _ (.refl _ _) r (.int _)⟩
  · cases e
theorem strOk_of (s : String) : PyData.strOk (Str.ofString s) = true := by
  rw [Str.ofString_eq_toList]
  unfold PyData.strOk
  rw [Array.all_eq_true']
  intro c hc
  rw [List.mem_toArray, List.mem_map] at hc
  obtain ⟨ch, _, rfl⟩ := hc
  have h := ch.valid
  refine decide_eq_true ?_
  rcases h with h | ⟨_, h⟩
  · exact Nat.lt_of_lt_of_le h (by decide)
  · exact h
def biStr (S : Sto) : List SV → Option Dv
  | [.d (.int i)] => if i.natAbs.log2 < 1920 then some (.str (Str.ofString (toString i))) else none
  | _ => none
theorem ov_str : CallR X (.type "str") (RCall X cl biStr) := CallR.weak call_str_int fun xs H Q ⟨W, S, as, z, r, ra, e, k⟩ => by
  unfold biStr at e
  split at e
  · split at e
    · rename_i hz
      cases e
      match xs, ra with
      | _, .cons r1 .nil => cases r1; exact ⟨_, rfl, hz, k W H _ (.refl _ _) r (.str _ (strOk_of _))⟩
    · cases e
  · cases e
/-! list(x), tuple(x): a new list that nobody changes -/
def biList (S : Sto) : List SV → Option Dv
  | [a] => match view S a with
    | some (.lst xs) => some (.lst xs)
    | some (.tup xs) => some (.lst xs)
    | _ => none
  | _ => none
def biTuple (S : Sto) : List SV → Option Dv
  | [a] => match view S a with
    | some (.lst xs) => some (.tup xs)
    | some (.tup xs) => some (.tup xs)
    | _ => none
  | _ => none
theorem ov_list : CallR X (.type "list") (RCall X cl biList) := CallR.weak call_list_of fun xs H Q ⟨W, S, as, z, r, ra, e, k⟩ => by
  match as, xs, ra, e with
  | [a], [v], .cons ra .nil, e =>
    simp only [biList] at e
    split at e
    · rename_i ys ea
      cases e
      obtain ⟨p, vs, rfl, s1, t1⟩ := view_lst r ea ra
      exact ⟨p, vs, rfl, .inl s1, new_lst r t1 k⟩
    · rename_i ys ea
      cases e
      obtain ⟨p, vs, rfl, s1, t1, _⟩ := view_tup r ea ra
      exact ⟨p, vs, rfl, .inr s1, new_lst r t1 k⟩
    · cases e
theorem ov_tuple : CallR X (.type "tuple") (RCall X cl biTuple) := CallR.weak call_tuple_of fun xs H Q ⟨W, S, as, z, r, ra, e, k⟩ => by
  match as, xs, ra, e with
  | [a], [v], .cons ra .nil, e =>
    simp only [biTuple] at e
    split at e
    · rename_i ys ea
      cases e
      obtain ⟨p, vs, rfl, s1, t1⟩ := view_lst r ea ra
      exact ⟨p, vs, rfl, .inl ⟨s1, new_tup r t1 k⟩⟩
    · rename_i ys ea
      cases e
      obtain ⟨p, vs, rfl, s1, t1, q1⟩ := view_tup r ea ra
      exact ⟨p, vs, rfl, .inr ⟨s1, k W H _ (.refl _ _) r q1⟩⟩
    · cases e
end
/-- list(x): a list that will change -/
def eListM (f : Fr → Sto → Res (List SV)) : Fr → Sto → Res SV := fun F S => (f F S).bind fun as S1 => match as with
  | [a] => match itemsOf S1 a with
    | some xs => .ok (.m S1.length) (S1 ++ [.lst xs])
    | none => .bad
  | _ => .bad
section
variable {X : Cx} {cl : CL} {Wx : WX} {e : Expr} {es : List Expr} {f : Fr → Sto → Res (List SV)} {p pos : Pos} {x : Str}
theorem ev_listM (hg : Gl X "list") (hm : X.mg "list" = none) (ha : PA X (e :: es) (RA X cl Wx f))
    (he : starEach (e :: es) X.env = (false, eval e X.env) :: starEach es X.env := by rfl) (hpl : (backTo pos (starEach es X.env)).any (·.1) = false := by rfl) : PE X (.Call (.Name "list" p) (e :: es) [] pos) (RE X cl Wx (eListM f)) :=
  PE.weak (pe_callTy call_list_of hg hm (by decide +kernel) ha (by decide +kernel) (by decide +kernel) he hpl) fun σ H Q ⟨W, F, S, a, q⟩ => by
    refine RA.of a q fun W1 S1 xs vs H1 g1 l1 a1 q1 o1 => ?_
    match xs, vs, q1, o1 with
    | [y], [v], .cons q1 .nil, o1 =>
      simp only at o1
      split at o1
      · rename_i ys ey
        obtain ⟨p, ws, rfl, s1, t1⟩ := items_rel a1.rel ey q1
        refine ⟨p, ws, rfl, s1, fun l hl => ?_⟩
        have r3 := a1.rel.newM (mo := .lst ys) (ho := .lst ws) hl ⟨a1.rel.unone hl, ws, upd_same, RelSVs.le (W1.add_le _ _) (Nat.le_succ _) t1⟩
        exact o1 _ _ _ (.add _ _ _ a1.b) (W1.add_le _ _) r3 ⟨by rw [List.length_append]; exact Nat.lt_succ_self _, by rw [Wd.add_at]⟩
      · exact o1.elim
end
end Ev

set_option Elab.async false
set_option linter.all false
set_option maxRecDepth 100000
/-! Ev7: isinstance, attributes, calls of one's own. -/
namespace Ev
open PySem L2

/-! ### isinstance -/
inductive Ty where
  | non | bl | int | str | tup | lst | dic | own (c : Nat)
  deriving DecidableEq
def Dv.ty : Dv → Ty
  | .non => .non | .bl _ => .bl | .int _ => .int | .str _ => .str | .tup _ => .tup | .lst _ => .lst | .dic _ _ => .dic | .ins c _ _ => .own c
def tyS (S : Sto) : SV → Option Ty
  | .d x => some x.ty
  | .m i => match S[i]? with
    | some (.lst _) => some .lst | some (.dic _ _) => some .dic | some (.ins c _ _) => some (.own c) | some (.frz x) => some x.ty
    | some (.tup _) => some .tup | some (.lck _ _) => some .dic
    | none => none
def Ty.v (cl : Nat → Addr) : Ty → Value
  | .non => .type "NoneType" | .bl => .type "bool" | .int => .type "int" | .str => .type "str" | .tup => .type "tuple" | .lst => .type "list" | .dic => .type "dict" | .own c => .ref (cl c)
/-- what isinstance wants of one's own class -/
structure OwnC (K : PySem.W.Frag) (C : Addr) : Prop where
  cls : Cls K C
  ha : PySem.W.findIn K (.ref C) "__class__" = some (some (.builtin "object.__class__"))
  hn : PySem.W.specialIn K (.builtin "object.__class__") "__get__" = some (some (.builtin "getset_descriptor.__get__"))
  htk : PySem.W.takesIn K (.builtin "object.__class__") = some true
  hm : PySem.W.mroIn K C (.type "object") = some true
section
variable {K : PySem.W.Frag} {cl : Nat → Addr} {W : Wd} {S : Sto} {H : Hp} {n : Nat}
theorem sql_ty {a : Addr} {vs : List V} (h : SqL K H a vs) : TyX K H (.ref a) (.type "list") := by
  rcases h with (h | ⟨o, h⟩) | ⟨o, _, _, h, c, _⟩
  · exact .base (.lst h)
  · exact .base (.frz h)
  · exact .kList h c
theorem sqt_ty {a : Addr} {vs : List V} (h : SqT K H a vs) : TyX K H (.ref a) (.type "tuple") := by
  rcases h with (h | ⟨o, h⟩) | ⟨o, _, _, h, c, _⟩
  · exact .base (.tup h)
  · exact .fTuple h
  · exact .kTuple h c
theorem rd_ty {a : Addr} {kvs : List (Key × V)} (h : Rd H a (.dK kvs)) : TyX K H (.ref a) (.type "dict") := by
  rcases h with h | ⟨o, h⟩
  · exact .base (.dK h)
  · exact .fDict h
theorem reld_ty (fz : ∀ a o, W.G a = some o → H a = some o) {x : Dv} (hc : ∀ c, x.ty = .own c → OwnC K (cl c)) {v : V} (r : RelD K cl W.G x v) : TyX K H v (x.ty.v cl) := by
  cases r with
  | non => exact .base .non
  | bl b => exact .base (.bl b)
  | int i => exact .base (.int i)
  | str s _ => exact .base (.str s)
  | tup h t => exact sqt_ty (SqT.up fz h)
  | lst h t => exact sql_ty (SqL.up fz h)
  | dic h c l t => exact rd_ty (Rd_of_core (fz _ _ h) c)
  | @ins a dx c fs xs vs h l t =>
    have o := hc c rfl
    exact .base (.ins (fz _ _ h) o.cls o.ha o.hn o.htk o.hm)
theorem ty_rel (r : Rel K cl W S H) {a : SV} {t : Ty} (hc : ∀ c, t = .own c → OwnC K (cl c)) {v : V} (e : tyS S a = some t) (q : RelSV K cl W n a v) : TyX K H v (t.v cl) := by
  cases a with
  | d x => cases e; exact reld_ty r.fz hc q
  | m i =>
    obtain ⟨_, rfl⟩ := q
    simp only [tyS] at e
    split at e
    · rename_i xs hx; cases e; obtain ⟨_, _, h, _⟩ := r.st i _ hx; exact .base (.lst h)
    · rename_i ks xs hx; cases e; obtain ⟨_, _, h, _⟩ := r.st i _ hx; exact .base (.dK h)
    · rename_i c fs xs hx; cases e; obtain ⟨_, _, _, h, _⟩ := r.st i _ hx
      have o := hc c rfl
      exact .base (.ins h o.cls o.ha o.hn o.htk o.hm)
    · rename_i x hx; cases e; exact reld_ty r.fz hc (r.st i _ hx)
    · rename_i xs hx; cases e; obtain ⟨_, _, h, _⟩ := r.st i _ hx; exact .base (.tup h)
    · rename_i ks xs hx; cases e; obtain ⟨_, _, _, h, _⟩ := r.st i _ hx; exact rd_ty (.inr ⟨_, h.1⟩)
    · cases e
end
/-- isinstance(e, T) -/
def eIsi (ans : Ty → Option Bool) (f : Fr → Sto → Res SV) : Fr → Sto → Res SV := fun F S => (f F S).bind fun x S1 => match tyS S1 x with
  | some t => match ans t with
    | some b => .ok (.d (.bl b)) S1
    | none => .bad
  | none => .bad
section
variable {X : Cx} {cl : CL} {Wx : WX} {e : Expr} {es : List Expr} {f : Fr → Sto → Res SV} {p pos : Pos} {x : Str}
theorem eIsi_use {ans : Ty → Option Bool} {σ : St} {H : Hp} {Q : VK} (hc : ∀ c, (ans (.own c)).isSome = true → OwnC X.K (cl c)) {P : V → Hp → Prop} (q : RE X cl Wx (eIsi ans f) σ H Q) (k : ∀ v H1 t b, TyX X.K H1 v (Ty.v cl t) → ans t = some b → Q (.bl b) H1 → P v H1) : RE X cl Wx f σ H P := by
  obtain ⟨W, F, S, a, q⟩ := q
  refine RE.of a q fun W1 S1 y v H1 g1 l1 a1 q1 o1 => ?_
  split at o1
  · rename_i t et
    split at o1
    · rename_i b eb
      exact k v H1 t b (ty_rel a1.rel (fun c ec => hc c (by rw [← ec, eb]; rfl)) et q1) eb (o1.here a1.rel (RelD.bl b))
    · exact o1.elim
  · exact o1.elim
/-- a built-in class -/
theorem ev_isi {T : String} {pc : Pos} {xc : Str} {ans : Ty → Option Bool} (hc : ∀ c, (ans (.own c)).isSome = true → OwnC X.K (cl c)) (hg : Gl X "isinstance") (hm : X.mg "isinstance" = none) (ha : PE X e (RE X cl Wx f)) (hgc : Gl X xc) (hmc : X.mg xc = none) (hv : bootBuiltins xc = some (.type T)) (hk : ∀ t b, ans t = some b → PySem.W.kitOne X.K (t.v cl) (.type T) = some b)
    (h1 : xc ≠ "__name__" := by decide +kernel) (h2 : (xc == ("__debug__" : Str)) = false := by decide +kernel)
    (he : starEach [e, .Name xc pc] X.env = (false, eval e X.env) :: starEach [.Name xc pc] X.env := by rfl) : PE X (.Call (.Name "isinstance" p) [e, .Name xc pc] [] pos) (RE X cl Wx (eIsi ans f)) :=
  PE.weak (pe_callB call_isi hg hm (by decide +kernel) (pa_cons ha (pa_cons (pe_bltn (v := .ty T) hgc hmc hv rfl h1 h2) pa_nil) he) (by decide +kernel) (by decide +kernel) he (by rfl)) fun σ H Q q =>
    eIsi_use hc q fun v H1 t b ty eb q => ⟨v, .ty T, _, _, b, rfl, .ty T, ty, hk t b eb, q⟩
/-- one's own class -/
theorem ev_isiC {pc : Pos} {xc : Str} {C : Addr} {ans : Ty → Option Bool} (hc : ∀ c, (ans (.own c)).isSome = true → OwnC X.K (cl c)) (hg : Gl X "isinstance") (hm : X.mg "isinstance" = none) (ha : PE X e (RE X cl Wx f)) (hgc : Gl X xc) (hmc : X.mg xc = some (.ref C)) (hk : ∀ t b, ans t = some b → PySem.W.kitOne X.K (t.v cl) (.ref C) = some b)
    (h2 : (xc == ("__debug__" : Str)) = false := by decide +kernel)
    (he : starEach [e, .Name xc pc] X.env = (false, eval e X.env) :: starEach [.Name xc pc] X.env := by rfl) : PE X (.Call (.Name "isinstance" p) [e, .Name xc pc] [] pos) (RE X cl Wx (eIsi ans f)) :=
  PE.weak (pe_callB call_isi hg hm (by decide +kernel) (pa_cons ha (pa_cons (pe_glob (v := .ref C) hgc hmc rfl h2) pa_nil) he) (by decide +kernel) (by decide +kernel) he (by rfl)) fun σ H Q q =>
    eIsi_use hc q fun v H1 t b ty eb q => ⟨v, .ref C, _, _, b, rfl, .own C, ty, hk t b eb, q⟩
/-- two built-in classes -/
theorem ev_isi2 {T T' : String} {pc pc' pt : Pos} {kt : Nat} {xc xc' : Str} {ans : Ty → Option Bool} (hc : ∀ c, (ans (.own c)).isSome = true → OwnC X.K (cl c)) (hg : Gl X "isinstance") (hm : X.mg "isinstance" = none) (ha : PE X e (RE X cl Wx f)) (hgc : Gl X xc) (hmc : X.mg xc = none) (hv : bootBuiltins xc = some (.type T))
    (hgc' : Gl X xc') (hmc' : X.mg xc' = none) (hv' : bootBuiltins xc' = some (.type T')) (hk : ∀ t b, ans t = some b → PySem.W.kitAny X.K (t.v cl) [.type T, .type T'] = some b)
    (h1 : xc ≠ "__name__" := by decide +kernel) (h2 : (xc == ("__debug__" : Str)) = false := by decide +kernel) (h1' : xc' ≠ "__name__" := by decide +kernel) (h2' : (xc' == ("__debug__" : Str)) = false := by decide +kernel)
    (he : starEach [e, .Tuple [.Name xc pc, .Name xc' pc'] kt pt] X.env = (false, eval e X.env) :: starEach [.Tuple [.Name xc pc, .Name xc' pc'] kt pt] X.env := by rfl) :
    PE X (.Call (.Name "isinstance" p) [e, .Tuple [.Name xc pc, .Name xc' pc'] kt pt] [] pos) (RE X cl Wx (eIsi ans f)) :=
  PE.weak (pe_callB call_isiT hg hm (by decide +kernel) (pa_cons ha (pa_cons (pe_tup (pa_cons (pe_bltn (v := .ty T) hgc hmc hv rfl h1 h2) (pa_cons (pe_bltn (v := .ty T') hgc' hmc' hv' rfl h1' h2') pa_nil))) pa_nil) he) (by decide +kernel) (by decide +kernel) he (by rfl)) fun σ H Q ⟨W, F, S, a, q⟩ => by
    refine RE.of a q fun W1 S1 y v H1 g1 l1 a1 q1 o1 => ?_
    split at o1
    · rename_i t et
      split at o1
      · rename_i b eb
        refine ⟨by show 2 ≤ sizeLine; decide, fun tp htp => ?_⟩
        obtain ⟨r3, l3⟩ := a1.rel.newF (ho := .tup [.ty T, .ty T']) htp
        exact ⟨v, tp, _, _, _, b, rfl, upd_same, .cons (.ty T) (.cons (.ty T') .nil), ty_rel r3 (fun c ec => hc c (by rw [← ec, eb]; rfl)) et (RelSV.le l3 (Nat.le_refl _) q1), hk t b eb, o1 _ _ _ (.refl _ _) l3 r3 (RelD.bl b)⟩
      · exact o1.elim
    · exact o1.elim
end

/-! ### attributes -/
def instOf (S : Sto) : SV → Option (Nat × List Str × List SV)
  | .d (.ins c fs xs) => some (c, fs, xs.map .d)
  | .d _ => none
  | .m i => match S[i]? with
    | some (.ins c fs xs) => some (c, fs, xs)
    | some (.frz (.ins c fs xs)) => some (c, fs, xs.map .d)
    | _ => none
def lookF {α : Type} (f : Str) : List Str → List α → Option α
  | a :: fs, x :: xs => if f = a then some x else lookF f fs xs
  | _, _ => none
theorem inst_rel {K : PySem.W.Frag} {cl : Nat → Addr} {W : Wd} {S : Sto} {H : Hp} (r : Rel K cl W S H) {a : SV} {c : Nat} {fs : List Str} {xs : List SV} {v : V} (e : instOf S a = some (c, fs, xs)) (q : RelSV K cl W S.length a v) :
    ∃ p dx vs, v = .ref p ∧ H p = some (.ins (cl c) dx (fs.zip vs)) ∧ fs.length = xs.length ∧ Paired (RelSV K cl W S.length) xs vs := by
  cases a with
  | d y =>
    cases y <;> first | (cases e; done) | skip
    cases e; cases q with
    | ins h l t => exact ⟨_, _, _, rfl, r.fz _ _ h, by rw [List.length_map]; exact l, t.sv⟩
  | m i =>
    obtain ⟨_, rfl⟩ := q
    simp only [instOf] at e
    split at e
    · rename_i c' fs' ys hy
      cases e
      obtain ⟨_, vs, dx, h1, h3, h2⟩ := r.st i _ hy
      exact ⟨_, dx, vs, rfl, h1, h3, h2⟩
    · rename_i c' fs' ys hy
      cases e
      have := r.st i _ hy
      cases this with
      | ins h l t => exact ⟨_, _, _, rfl, r.fz _ _ h, by rw [List.length_map]; exact l, t.sv⟩
    · cases e
theorem lookF_rel {R : SV → V → Prop} (f : Str) : ∀ {fs : List Str} {xs : List SV} {vs : List V}, fs.length = xs.length → Paired R xs vs →
    (∀ x, lookF f fs xs = some x → ∃ v, (fs.zip vs).lookup f = some v ∧ R x v) ∧ (lookF f fs xs = none → (fs.zip vs).lookup f = none)
  | [], [], [], _, .nil => ⟨fun _ e => (by cases e), fun _ => rfl⟩
  | a :: fs, x :: xs, v :: vs, l, .cons q t => by
    obtain ⟨i1, i2⟩ := lookF_rel f (Nat.succ.inj l) t
    unfold lookF
    rw [List.zip_cons_cons, List.lookup_cons]
    by_cases h : f = a
    · rw [if_pos h]
      have hb : (f == a) = true := beq_iff_eq.mpr h
      simp only [hb]
      exact ⟨fun y e => (by cases e; exact ⟨v, rfl, q⟩), fun e => (by cases e)⟩
    · rw [if_neg h]
      have hb : (f == a) = false := beq_eq_false_iff_ne.mpr h
      simp only [hb]
      exact ⟨i1, i2⟩
  | [], _ :: _, _, l, _ => by cases l
  | _ :: _, [], _, l, _ => by cases l
def eFld (cs : List Nat) (nm : Str) (f : Fr → Sto → Res SV) : Fr → Sto → Res SV := fun F S => (f F S).bind fun a S1 => match instOf S1 a with
  | some (c, fs, xs) => if cs.contains c then match lookF nm fs xs with
    | some x => .ok x S1
    | none => .bad
    else .bad
  | none => .bad
section
variable {X : Cx} {cl : CL} {Wx : WX} {e : Expr} {es : List Expr} {f : Fr → Sto → Res SV} {p pos : Pos} {x : Str}
theorem ev_fld {cs : List Nat} {nm : Str} (hc : ∀ c, c ∈ cs → Cls X.K (cl c) ∧ NoAttr X.K (cl c) nm) (ha : PE X e (RE X cl Wx f)) (hb : attributeBase e nm X.env (eval e X.env) = eval e X.env := by rfl) : PE X (.Attribute e nm pos) (RE X cl Wx (eFld cs nm f)) :=
  PE.weak (pe_fld ha hb) fun σ H Q ⟨W, F, S, a, q⟩ => by
    refine RE.of a q fun W1 S1 y v H1 g1 l1 a1 q1 o1 => ?_
    split at o1
    · rename_i c fs xs ey
      split at o1
      · rename_i hcs
        obtain ⟨p, dx, vs, rfl, h1, h2, h3⟩ := inst_rel a1.rel ey q1
        split at o1
        · rename_i w ew
          obtain ⟨u, e1, r1⟩ := (lookF_rel nm h2 h3).1 w ew
          obtain ⟨c1, c2⟩ := hc c (by simpa using hcs)
          exact ⟨p, cl c, dx, _, u, rfl, h1, c1, c2, e1, o1.here a1.rel r1⟩
        · exact o1.elim
      · exact o1.elim
    · exact o1.elim
end

/-! ### a def's promise, its call -/
def SpR (K : PySem.W.Frag) (cl : Nat → Addr) (g : Nat → List SV → Sto → Res SV) : Sp := fun vs H Q E => ∃ W S as b, b ≤ S.length ∧ Rel K cl W S H ∧ Paired (RelSV K cl W S.length) as vs ∧ Out K cl (fun c d _ H => E c d H) (RSV K cl) b W S [] (g b as S) Q
/-- the call's end: what it hands back is frozen, what it made is dropped -/
def fin (n : Nat) : Res SV → Res SV
  | .ok x S => match freeze S x with
    | some (y, S1) => .ok (.d y) (S1.take n)
    | none => .bad
  | .ex e S => .ex e (S.take n)
  | .bad => .bad
/-- .. is kept -/
def finK (n : Nat) : Res SV → Res SV
  | .ok x S => .ok x S
  | .ex e S => .ex e (S.take n)
  | .bad => .bad
section
variable {K : PySem.W.Frag} {cl : Nat → Addr} {Wx : WX} {W : Wd} {S : Sto} {H : Hp} {b : Nat} {σ : St}
theorem below_of {n : Nat} {x : SV} {v : V} (q : RelSV K cl W n x v) : x.below n := by
  cases x with
  | d y => trivial
  | m i => exact q.1
theorem belows_of {n : Nat} : ∀ {xs : List SV} {vs : List V}, Paired (RelSV K cl W n) xs vs → ∀ x ∈ xs, x.below n
  | _, _, .nil, x, h => by cases h
  | _, _, .cons q t, x, h => by
    rcases List.mem_cons.mp h with rfl | h
    · exact below_of q
    · exact belows_of t x h
theorem Rel.wfb (r : Rel K cl W S H) : WFB S.length S := fun i mo hi e => by
  have q := r.st i mo e
  cases mo with
  | lst xs => obtain ⟨_, _, _, q⟩ := q; exact belows_of q
  | dic ks xs => obtain ⟨_, _, _, _, q⟩ := q; exact belows_of q
  | ins c fs xs => obtain ⟨_, _, _, _, _, q⟩ := q; exact belows_of q
  | frz x => trivial
  | tup xs => obtain ⟨_, _, _, q⟩ := q; exact belows_of q
  | lck ks xs => obtain ⟨_, _, _, _, _, q⟩ := q; exact belows_of q
theorem relsv_low {n k : Nat} {x : SV} {v : V} (q : RelSV K cl W n x v) (h : x.below k) : RelSV K cl W k x v := by
  cases x with
  | d y => exact q
  | m i => exact ⟨h, q.2⟩
theorem relsvs_low {n k : Nat} : ∀ {xs : List SV} {vs : List V}, Paired (RelSV K cl W n) xs vs → (∀ x ∈ xs, x.below k) → Paired (RelSV K cl W k) xs vs
  | _, _, .nil, _ => .nil
  | _, _, .cons q t, h => .cons (relsv_low q (h _ (List.mem_cons_self ..))) (relsvs_low t fun x hx => h x (List.mem_cons_of_mem _ hx))
theorem Rel.take (r : Rel K cl W S H) {n : Nat} (hn : n ≤ S.length) (w : WFB n S) : Rel K cl W (S.take n) H := by
  have one : ∀ i mo, (S.take n)[i]? = some mo → i < n ∧ S[i]? = some mo := fun i mo e => by
    rw [List.getElem?_take] at e
    split at e
    · rename_i h; exact ⟨h, e⟩
    · cases e
  have hl : (S.take n).length = n := by rw [List.length_take]; omega
  refine ⟨r.fz, fun i mo e => ?_, fun i j mi mj ei ej => r.inj i j mi mj (one i mi ei).2 (one j mj ej).2, r.lk⟩
  obtain ⟨hi, e⟩ := one i mo e
  have q := r.st i mo e
  have b := w i mo hi e
  rw [hl]
  cases mo with
  | lst xs => obtain ⟨q1, vs, q2, q3⟩ := q; exact ⟨q1, vs, q2, relsvs_low q3 b⟩
  | dic ks xs => obtain ⟨q1, vs, q2, q4, q3⟩ := q; exact ⟨q1, vs, q2, q4, relsvs_low q3 b⟩
  | ins c fs xs => obtain ⟨q1, vs, dx, q2, q4, q3⟩ := q; exact ⟨q1, vs, dx, q2, q4, relsvs_low q3 b⟩
  | frz x => exact q
  | tup xs => obtain ⟨q1, vs, q2, q3⟩ := q; exact ⟨q1, vs, q2, relsvs_low q3 b⟩
  | lck ks xs => obtain ⟨q1, vs, od, q2, q4, q3⟩ := q; exact ⟨q1, vs, od, q2, q4, relsvs_low q3 b⟩
theorem Gr.take {b n : Nat} {S S' : Sto} (g : Gr b S S') (hn : n ≤ S'.length) (h : S.length ≤ n) (hb : b ≤ n) : Gr b S (S'.take n) :=
  ⟨by rw [List.length_take]; omega, fun b' hb' w i mo hi e => by
    rw [List.getElem?_take] at e
    split at e
    · exact g.wf b' hb' w i mo hi e
    · cases e⟩
theorem fin_out {r : Res SV} {Q : VK} (hr : Rel K cl W S H) (hb : b ≤ S.length) (h : Out K cl Wx (RSV K cl) b W S σ (fin S.length r) Q) : Out K cl Wx (RSV K cl) S.length W S σ r Q := by
  cases r with
  | ok x S' =>
    intro W' H' v g l r' q
    unfold fin at h
    simp only at h
    split at h
    · rename_i y S1 hf
      obtain ⟨n1, w1, k1⟩ := freeze_ok (K := K) (cl := cl) hf
      obtain ⟨W2, e2, l2, r2, q2⟩ := k1 W' H' v r' q
      have hl1 : S.length ≤ S1.length := by rw [n1]; exact g.len
      have w2 : WFB S.length S1 := w1 _ (g.wf _ (Nat.le_refl _) hr.wfb)
      have g1 : Gr b S S1 := ⟨hl1, fun b' hb' w => w1 b' (g.wf b' (Nat.le_trans hb' hb) w)⟩
      exact h W2 H' v (g1.take hl1 (Nat.le_refl _) hb) (l.trans l2 g.len) (r2.take hl1 w2) q2
    · exact h.elim
  | ex e S' =>
    intro W' H' c d g l r' q
    exact h W' H' c d ((g.less hb).take g.len (Nat.le_refl _) hb) l (r'.take g.len (g.wf _ (Nat.le_refl _) hr.wfb)) q
  | bad => exact h
theorem finK_out {r : Res SV} {Q : VK} (hr : Rel K cl W S H) (hb : b ≤ S.length) (h : Out K cl Wx (RSV K cl) b W S σ (finK S.length r) Q) : Out K cl Wx (RSV K cl) S.length W S σ r Q := by
  cases r with
  | ok x S' => exact fun W' H' v g l r' q => h W' H' v (g.less hb) l r' q
  | ex e S' =>
    intro W' H' c d g l r' q
    exact h W' H' c d ((g.less hb).take g.len (Nat.le_refl _) hb) l (r'.take g.len (g.wf _ (Nat.le_refl _) hr.wfb)) q
  | bad => exact h
/-- from what a call's end asks to what the promise asks -/
theorem out_sp {r : Res SV} {Q : VK} {n : Nat} (h : Out K cl Wx (RSV K cl) n W S σ r Q) : Out K cl (fun c d _ H => Wx c d σ H) (RSV K cl) n W S [] r Q := by
  cases r with
  | ok x S' => exact h
  | ex e S' => exact h
  | bad => exact h
end
def eCall (g : Nat → List SV → Sto → Res SV) (f : Fr → Sto → Res (List SV)) : Fr → Sto → Res SV := fun F S => (f F S).bind fun as S1 => fin S1.length (g S1.length as S1)
def eCallK (g : Nat → List SV → Sto → Res SV) (f : Fr → Sto → Res (List SV)) : Fr → Sto → Res SV := fun F S => (f F S).bind fun as S1 => finK S1.length (g S1.length as S1)
end Ev

set_option Elab.async false
set_option linter.all false
set_option maxRecDepth 100000
/-! Ev8: calls of one's own defs, methods, classes, operators. -/
namespace Ev
open PySem L2

section
variable {X : Cx} {cl : CL} {Wx : WX} {k : Nat} {fa C : Addr} {fd : FuncData} {ps : List Str} {g : Nat → List SV → Sto → Res SV} {x m : Str} {p pos apos : Pos} {e o e1 e2 : Expr} {es : List Expr} {f : Fr → Sto → Res (List SV)} {fo f1 f2 : Fr → Sto → Res SV}
/-- the promise of the table's def -/
abbrev FnE (X : Cx) (cl : Nat → Addr) (k : Nat) (fa : Addr) (fd : FuncData) (ps : List Str) (g : Nat → List SV → Sto → Res SV) : Prop := FnOk X.prog X.w X.K X.mg X.base (L2N.CX X.prog X.w) k fa fd ps (SpR X.K cl g)
theorem sp_fin {σ : St} {H1 : Hp} {Q : VK} {W1 : Wd} {F : Fr} {S1 : Sto} {as : List SV} {vs : List V} (a1 : At X.K cl W1 F S1 σ H1) (q1 : Paired (RelSV X.K cl W1 S1.length) as vs)
    (o1 : Out X.K cl Wx (RSV X.K cl) F.b W1 S1 σ (fin S1.length (g S1.length as S1)) Q) : SpR X.K cl g vs H1 Q (WE Wx σ) :=
  ⟨W1, S1, as, S1.length, Nat.le_refl _, a1.rel, q1, out_sp (fin_out a1.rel a1.b o1)⟩
theorem sp_finK {σ : St} {H1 : Hp} {Q : VK} {W1 : Wd} {F : Fr} {S1 : Sto} {as : List SV} {vs : List V} (a1 : At X.K cl W1 F S1 σ H1) (q1 : Paired (RelSV X.K cl W1 S1.length) as vs)
    (o1 : Out X.K cl Wx (RSV X.K cl) F.b W1 S1 σ (finK S1.length (g S1.length as S1)) Q) : SpR X.K cl g vs H1 Q (WE Wx σ) :=
  ⟨W1, S1, as, S1.length, Nat.le_refl _, a1.rel, q1, out_sp (finK_out a1.rel a1.b o1)⟩
theorem ev_call (Fk : FnE X cl k fa fd ps g) (hr : Room k X.A) (tk : L2N.Takes X Wx) (hg : Gl X x) (hm : X.mg x = some (.ref fa)) (hk : PySem.W.keepIn X.K (.ref fa) = true) (hb : Binds X.K fd ps []) (ha : PA X (e :: es) (RA X cl Wx f))
    (hdb : (x == ("__debug__" : Str)) = false := by decide +kernel) (he : starEach (e :: es) X.env = (false, eval e X.env) :: starEach es X.env := by rfl) (hpl : (backTo pos (starEach es X.env)).any (·.1) = false := by rfl) :
    PE X (.Call (.Name x p) (e :: es) [] pos) (RE X cl Wx (eCall g f)) :=
  PE.weak (pe_callS (E := WE Wx) Fk hr hg hm hk hb (fun σ => L2N.passAt tk σ) ha hdb he hpl) fun σ H Q ⟨W, F, S, a, q⟩ =>
    RA.of a q fun W1 S1 as vs H1 g1 l1 a1 q1 o1 => sp_fin a1 q1 o1
theorem ev_callK (Fk : FnE X cl k fa fd ps g) (hr : Room k X.A) (tk : L2N.Takes X Wx) (hg : Gl X x) (hm : X.mg x = some (.ref fa)) (hk : PySem.W.keepIn X.K (.ref fa) = true) (hb : Binds X.K fd ps []) (ha : PA X (e :: es) (RA X cl Wx f))
    (hdb : (x == ("__debug__" : Str)) = false := by decide +kernel) (he : starEach (e :: es) X.env = (false, eval e X.env) :: starEach es X.env := by rfl) (hpl : (backTo pos (starEach es X.env)).any (·.1) = false := by rfl) :
    PE X (.Call (.Name x p) (e :: es) [] pos) (RE X cl Wx (eCallK g f)) :=
  PE.weak (pe_callS (E := WE Wx) Fk hr hg hm hk hb (fun σ => L2N.passAt tk σ) ha hdb he hpl) fun σ H Q ⟨W, F, S, a, q⟩ =>
    RA.of a q fun W1 S1 as vs H1 g1 l1 a1 q1 o1 => sp_finK a1 q1 o1

/-! ### methods -/
def eMeth (c : Nat) (m : Str) (g : Nat → List SV → Sto → Res SV) (fo : Fr → Sto → Res SV) (f : Fr → Sto → Res (List SV)) : Fr → Sto → Res SV := fun F S => (fo F S).bind fun x S1 => match instOf S1 x with
  | some (c', fs, xs) => if c' = c ∧ (lookF m fs xs).isNone = true then (f F S1).bind fun as S2 => fin S2.length (g S2.length (x :: as) S2) else .bad
  | none => .bad
theorem pe_methE {CX : CXT} {sp : Sp} {E : St → XK} {ta : TE} {t : TA} {pl : Sem Bool} (he : PE X o ta) (c : Cls X.K C) (hm : Meth X.K C m fa) (Fk : FnOk X.prog X.w X.K X.mg X.base CX k fa fd ps sp) (hr : Room k X.A) (hb : Binds X.K fd ps []) (hx : ∀ σ, PassesAt CX X σ (E σ)) (ha : PA X (e :: es) t)
    (hst : starEach (e :: es) X.env = (false, eval e X.env) :: starEach es X.env := by rfl) (hpl : (backTo pos (starEach es X.env)).any (·.1) = false := by rfl)
    (ht : eval (.Call (.Attribute o m apos) (e :: es) [] pos) X.env = (do
      let ov ← eval o X.env
      standAt apos.atName
      let (f, first) ← holding [ov] (getMethod ov m pl)
      callWith pos f first (backTo pos (starEach (e :: es) X.env)) (backToKw pos (keywordEach [] X.env))) := by rfl) :
    PE X (.Call (.Attribute o m apos) (e :: es) [] pos) (fun σ H Q => ta σ H fun x H1 => ∃ a dx fs, x = .ref a ∧ H1 a = some (.ins C dx fs) ∧ fs.lookup m = none ∧ t σ H1 fun vs H2 => sp (x :: vs) H2 Q (E σ)) := by
  refine ⟨fun pins s σ H Q I h => ?_⟩
  refine PySem.W.methodCall_KW (pl := pl) (thn (he.run pins s σ H _ I h) fun u s1 ⟨x, H1, I1, rx, a, dx, fs, ex, ea, l, q⟩ => ?_) ht
  subst ex
  obtain rfl : u = Value.ref a := rx
  refine getmeth_ok I1 ea c hm l ?_
  refine PySem.W.callWith_K (first := [.ref a]) (h₀ := X.base) I.ok.mod.kin hm.kp (thn (ha.run pos pins s1 σ H1 _ I1 q) fun us s2 ⟨vs, H2, I2, r, q2⟩ => ⟨I2.kIn, ?_⟩) hst hpl
  exact run_fnS (us := .ref a :: us) (vs := .ref a :: vs) Fk hr hb (hx σ) I2 (.cons rfl r) q2
theorem pe_methE0 {CX : CXT} {sp : Sp} {E : St → XK} {ta : TE} {pl : Sem Bool} (he : PE X o ta) (c : Cls X.K C) (hm : Meth X.K C m fa) (Fk : FnOk X.prog X.w X.K X.mg X.base CX k fa fd ps sp) (hr : Room k X.A) (hb : Binds X.K fd ps []) (hx : ∀ σ, PassesAt CX X σ (E σ))
    (ht : eval (.Call (.Attribute o m apos) [] [] pos) X.env = (do
      let ov ← eval o X.env
      standAt apos.atName
      let (f, first) ← holding [ov] (getMethod ov m pl)
      callWith pos f first (backTo pos (starEach [] X.env)) (backToKw pos (keywordEach [] X.env))) := by rfl) :
    PE X (.Call (.Attribute o m apos) [] [] pos) (fun σ H Q => ta σ H fun x H1 => ∃ a dx fs, x = .ref a ∧ H1 a = some (.ins C dx fs) ∧ fs.lookup m = none ∧ sp [x] H1 Q (E σ)) := by
  refine ⟨fun pins s σ H Q I h => ?_⟩
  refine PySem.W.methodCall_KW (pl := pl) (thn (he.run pins s σ H _ I h) fun u s1 ⟨x, H1, I1, rx, a, dx, fs, ex, ea, l, q⟩ => ?_) ht
  subst ex
  obtain rfl : u = Value.ref a := rx
  refine getmeth_ok I1 ea c hm l ?_
  exact PySem.W.callWith_K0 (first := [.ref a]) I1.kIn hm.kp (run_fnS (us := [.ref a]) (vs := [.ref a]) Fk hr hb (hx σ) I1 (.cons rfl .nil) q)
theorem ev_meth {c : Nat} {pl : Sem Bool} (he : PE X o (RE X cl Wx fo)) (hc : Cls X.K (cl c)) (hm : Meth X.K (cl c) m fa) (Fk : FnE X cl k fa fd ps g) (hr : Room k X.A) (tk : L2N.Takes X Wx) (hb : Binds X.K fd ps []) (ha : PA X (e :: es) (RA X cl Wx f))
    (hst : starEach (e :: es) X.env = (false, eval e X.env) :: starEach es X.env := by rfl) (hpl : (backTo pos (starEach es X.env)).any (·.1) = false := by rfl)
    (ht : eval (.Call (.Attribute o m apos) (e :: es) [] pos) X.env = (do
      let ov ← eval o X.env
      standAt apos.atName
      let (f, first) ← holding [ov] (getMethod ov m pl)
      callWith pos f first (backTo pos (starEach (e :: es) X.env)) (backToKw pos (keywordEach [] X.env))) := by rfl) :
    PE X (.Call (.Attribute o m apos) (e :: es) [] pos) (RE X cl Wx (eMeth c m g fo f)) :=
  PE.weak (pe_methE (E := WE Wx) (pl := pl) he hc hm Fk hr hb (fun σ => L2N.passAt tk σ) ha hst hpl ht) fun σ H Q ⟨W, F, S, a, q⟩ => by
    refine RE.of a q fun W1 S1 y v H1 g1 l1 a1 q1 o1 => ?_
    split at o1
    · rename_i c' fs xs ey
      split at o1
      · rename_i hc'
        obtain ⟨rfl, hn⟩ := hc'
        obtain ⟨pp, dx, vs, rfl, h1, h2, h3⟩ := inst_rel a1.rel ey q1
        refine ⟨pp, dx, _, rfl, h1, (lookF_rel m h2 h3).2 (Option.isNone_iff_eq_none.mp hn), ?_⟩
        refine RA.of a1 o1 fun W2 S2 as ws H2 g2 l2 a2 q2 o2 => ?_
        exact sp_fin a2 (.cons (RelSV.le l2 g2.len q1) q2) o2
      · exact o1.elim
    · exact o1.elim
theorem ev_meth0 {c : Nat} {pl : Sem Bool} (he : PE X o (RE X cl Wx fo)) (hc : Cls X.K (cl c)) (hm : Meth X.K (cl c) m fa) (Fk : FnE X cl k fa fd ps g) (hr : Room k X.A) (tk : L2N.Takes X Wx) (hb : Binds X.K fd ps [])
    (ht : eval (.Call (.Attribute o m apos) [] [] pos) X.env = (do
      let ov ← eval o X.env
      standAt apos.atName
      let (f, first) ← holding [ov] (getMethod ov m pl)
      callWith pos f first (backTo pos (starEach [] X.env)) (backToKw pos (keywordEach [] X.env))) := by rfl) :
    PE X (.Call (.Attribute o m apos) [] [] pos) (RE X cl Wx (eMeth c m g fo aNil)) :=
  PE.weak (pe_methE0 (E := WE Wx) (pl := pl) he hc hm Fk hr hb (fun σ => L2N.passAt tk σ) ht) fun σ H Q ⟨W, F, S, a, q⟩ => by
    refine RE.of a q fun W1 S1 y v H1 g1 l1 a1 q1 o1 => ?_
    split at o1
    · rename_i c' fs xs ey
      split at o1
      · rename_i hc'
        obtain ⟨rfl, hn⟩ := hc'
        obtain ⟨pp, dx, vs, rfl, h1, h2, h3⟩ := inst_rel a1.rel ey q1
        refine ⟨pp, dx, _, rfl, h1, (lookF_rel m h2 h3).2 (Option.isNone_iff_eq_none.mp hn), ?_⟩
        exact sp_fin a1 (.cons q1 .nil) o1
      · exact o1.elim
    · exact o1.elim

/-! ### C(..) -/
def mkd (n : Nat) : Res SV → Res SV
  | .ok (.d .non) S => .ok (.m n) S
  | .ok _ _ => .bad
  | .ex e S => .ex e S
  | .bad => .bad
def eMake (c : Nat) (g : Nat → List SV → Sto → Res SV) (f : Fr → Sto → Res (List SV)) : Fr → Sto → Res SV := fun F S => (f F S).bind fun as S1 => fin S1.length (mkd S1.length (g S1.length (.m S1.length :: as) (S1 ++ [.ins c [] []])))
def eMakeK (c : Nat) (g : Nat → List SV → Sto → Res SV) (f : Fr → Sto → Res (List SV)) : Fr → Sto → Res SV := fun F S => (f F S).bind fun as S1 => finK S1.length (mkd S1.length (g S1.length (.m S1.length :: as) (S1 ++ [.ins c [] []])))
theorem Rel.extra {K : PySem.W.Frag} {W : Wd} {S : Sto} {H : Hp} (r : Rel K cl W S H) {d : Addr} {ho : HO} (h : H d = none) : Rel K cl W S (upd H d ho) := by
  refine ⟨fun a o e => ?_, fun i mo e => ?_, r.inj, fun a o e => by rw [upd_ne (ne_of_none (r.lk a o e).1 h)]; exact r.lk a o e⟩
  · rw [upd_ne (ne_of_none (r.fz a o e) h)]
    exact r.fz a o e
  · refine (r.st i mo e).keep (.refl _ _) (Nat.le_refl _) rfl (fun _ g => g) fun hm => ?_
    obtain ⟨o, ho'⟩ := r.there e hm
    rw [upd_ne (ne_of_none ho' h)]
/-- at the entry of __init__ -/
theorem make_in {K : PySem.W.Frag} {W1 : Wd} {S1 : Sto} {H1 : Hp} {Q : VK} {σ : St} {c : Nat} {as : List SV} {vs : List V} {E : XK} (hE : E = WE Wx σ) (r : Rel K cl W1 S1 H1) (q1 : Paired (RelSV K cl W1 S1.length) as vs)
    (o1 : Out K cl Wx (RSV K cl) S1.length W1 S1 σ (mkd S1.length (g S1.length (.m S1.length :: as) (S1 ++ [.ins c [] []]))) Q) {y dx : Addr} (hy : H1 y = none) (hd : H1 dx = none) (hne : dx ≠ y) :
    SpR K cl g (.ref y :: vs) (upd (upd H1 dx (.own y)) y (.ins (cl c) dx [])) (fun v H2 => v = .non ∧ Q (.ref y) H2) E := by
  subst hE
  have hy2 : upd H1 dx (.own y) y = none := by rw [upd_ne hne.symm]; exact hy
  have r0 := r.extra (ho := .own y) hd
  have r1 := r0.newM (mo := .ins c [] []) (ho := .ins (cl c) dx []) hy2 ⟨r0.unone hy2, [], dx, upd_same, rfl, .nil⟩
  have le := W1.add_le S1.length y
  have gr := Gr.add S1.length S1 (.ins c [] []) (Nat.le_refl _)
  have hl : (S1 ++ [MO.ins c [] []]).length = S1.length + 1 := by rw [List.length_append]; rfl
  refine ⟨W1.add S1.length y, S1 ++ [.ins c [] []], .m S1.length :: as, S1.length, by omega, r1, .cons ⟨by omega, by rw [Wd.add_at]⟩ (RelSVs.le le (by omega) q1), ?_⟩
  have o2 := Out.rebase o1 gr le
  cases hq : g S1.length (.m S1.length :: as) (S1 ++ [.ins c [] []]) with
  | ok x S2 =>
    rw [hq] at o2
    intro W' H' v g2 l2 r2 q2
    cases x with
    | m i => exact o2.elim
    | d z =>
      cases z <;> first | exact o2.elim | skip
      cases q2
      refine ⟨rfl, o2 W' H' _ g2 l2 r2 ⟨?_, ?_⟩⟩
      · have := g2.len
        omega
      · rw [l2.r S1.length (by omega), Wd.add_at]
  | ex e S2 => rw [hq] at o2; exact o2
  | bad => rw [hq] at o2; exact o2
theorem pe_makeE {CX : CXT} {sp : Sp} {E : St → XK} {t : TA} (M : Mk X.K C fa) (Fk : FnOk X.prog X.w X.K X.mg X.base CX k fa fd ps sp) (hr : Room (k + 1) X.A) (hg : Gl X x) (hm : X.mg x = some (.ref C)) (hb : Binds X.K fd ps []) (hx : ∀ σ, PassesAt CX X σ (E σ)) (ha : PA X (e :: es) t)
    (hdb : (x == ("__debug__" : Str)) = false := by decide +kernel) (he : starEach (e :: es) X.env = (false, eval e X.env) :: starEach es X.env := by rfl) (hpl : (backTo pos (starEach es X.env)).any (·.1) = false := by rfl) :
    PE X (.Call (.Name x p) (e :: es) [] pos) (fun σ H Q => t σ H fun vs H1 => ∀ y dx, H1 y = none → H1 dx = none → dx ≠ y → sp (.ref y :: vs) (upd (upd H1 dx (.own y)) y (.ins C dx [])) (fun v H2 => v = .non ∧ Q (.ref y) H2) (E σ)) := by
  refine ⟨fun pins s σ H Q I h => ?_⟩
  refine wpAny_Call_Name_kw (ld_glob I hg hm ?_ hdb)
  refine PySem.W.callWith_K (h₀ := X.base) I.ok.mod.kin M.kp (thn (ha.run pos pins s σ H _ I h) fun us s1 ⟨vs, H1, I1, r, q⟩ => ⟨I1.kIn, ?_⟩) he hpl
  have hq := q (s1.heap.objs.size + 1) s1.heap.objs.size (I1.hok.fresh (Nat.le_succ _)) (I1.hok.fresh (Nat.le_refl _)) (Nat.ne_of_lt (Nat.lt_succ_self _))
  have I2 := Inv.made (C := C) I1
  have r2 : Vals (V.ref (s1.heap.objs.size + 1) :: vs) (Value.ref (s1.heap.objs.size + 1) :: us) := .cons rfl r
  have hl : (Value.ref (s1.heap.objs.size + 1) :: us).length = ps.length := by
    have e' := r2.length
    rw [Fk.len _ _ _ _ hq] at e'
    exact e'.symm
  have hbb := hb _ (Value.ref (s1.heap.objs.size + 1) :: us) I2.kIn (by rw [List.append_nil]; exact hl)
  rw [List.append_nil] at hbb
  refine wpAny_call (make_map (f := fa) I1.kIn M.makes M.init (beq_iff_eq.mp M.fn) (codeAny_mono (Fk.run _ X.stack _ _ ⟨Value.ref (s1.heap.objs.size + 1) :: us, []⟩ (Value.ref (s1.heap.objs.size + 1) :: us) _ _ (E σ) (hr.make C us [])
    (I2.env0.make C us []) hbb r2 hq) fun r s' hq' => ?_))
  cases r with
  | error er => exact hx σ pins _ _ er s' I2 hq'
  | ok fl =>
    cases fl with
    | ret u =>
      obtain ⟨v, H', I3, rv, ev, q3⟩ := I2.after hq'
      subst ev
      exact ⟨rv, ⟨V.ref (s1.heap.objs.size + 1), H', I3, rfl, q3⟩⟩
    | next => exact False.elim hq'
    | brk => exact False.elim hq'
    | cont => exact False.elim hq'
theorem ev_make {c : Nat} (M : Mk X.K (cl c) fa) (Fk : FnE X cl k fa fd ps g) (hr : Room (k + 1) X.A) (tk : L2N.Takes X Wx) (hg : Gl X x) (hm : X.mg x = some (.ref (cl c))) (hb : Binds X.K fd ps []) (ha : PA X (e :: es) (RA X cl Wx f))
    (hdb : (x == ("__debug__" : Str)) = false := by decide +kernel) (he : starEach (e :: es) X.env = (false, eval e X.env) :: starEach es X.env := by rfl) (hpl : (backTo pos (starEach es X.env)).any (·.1) = false := by rfl) :
    PE X (.Call (.Name x p) (e :: es) [] pos) (RE X cl Wx (eMake c g f)) :=
  PE.weak (pe_makeE (E := WE Wx) M Fk hr hg hm hb (fun σ => L2N.passAt tk σ) ha hdb he hpl) fun σ H Q ⟨W, F, S, a, q⟩ =>
    RA.of a q fun W1 S1 as vs H1 g1 l1 a1 q1 o1 y dx hy hd hne => make_in rfl a1.rel q1 (fin_out a1.rel a1.b o1) hy hd hne
theorem ev_makeK {c : Nat} (M : Mk X.K (cl c) fa) (Fk : FnE X cl k fa fd ps g) (hr : Room (k + 1) X.A) (tk : L2N.Takes X Wx) (hg : Gl X x) (hm : X.mg x = some (.ref (cl c))) (hb : Binds X.K fd ps []) (ha : PA X (e :: es) (RA X cl Wx f))
    (hdb : (x == ("__debug__" : Str)) = false := by decide +kernel) (he : starEach (e :: es) X.env = (false, eval e X.env) :: starEach es X.env := by rfl) (hpl : (backTo pos (starEach es X.env)).any (·.1) = false := by rfl) :
    PE X (.Call (.Name x p) (e :: es) [] pos) (RE X cl Wx (eMakeK c g f)) :=
  PE.weak (pe_makeE (E := WE Wx) M Fk hr hg hm hb (fun σ => L2N.passAt tk σ) ha hdb he hpl) fun σ H Q ⟨W, F, S, a, q⟩ =>
    RA.of a q fun W1 S1 as vs H1 g1 l1 a1 q1 o1 y dx hy hd hne => make_in rfl a1.rel q1 (finK_out a1.rel a1.b o1) hy hd hne

/-! ### a op b of one's own class -/
def eOwn (o : Sto → SV → SV → Option Dv) (c : Nat) (g : Nat → List SV → Sto → Res SV) (f1 f2 : Fr → Sto → Res SV) : Fr → Sto → Res SV := fun F S => (f1 F S).bind fun x S1 => (f2 F S1).bind fun y S2 => match instOf S2 x, instOf S2 y with
  | some (c1, _, _), some (c2, _, _) => if c1 = c ∧ c2 = c then fin S2.length (g S2.length [x, y] S2) else .bad
  | _, _ => match o S2 x y with
    | some z => .ok (.d z) S2
    | none => .bad
structure OwnOp (K : PySem.W.Frag) (C : Addr) (op : Operator) (fa : Addr) : Prop where
  first : PySem.W.selfFirst K C = true
  at_ : PySem.W.findIn K (.ref C) (PySem.dunder op.info.2) = some (some (.ref fa))
  fn : PySem.W.isFn K (.ref fa) = true
theorem cmpBack_of {Q : Value → Shared → Prop} {v : V} {u : Value} {s' : Shared} (r : RelV v u) (q : Q u s') : PySem.W.CmpBack Q u s' := by
  cases v with
  | non => cases (show u = Value.none from r); exact q
  | bl _ => cases (show u = Value.bool _ from r); exact q
  | int _ => obtain ⟨t, rfl⟩ := r; exact q
  | str _ => obtain ⟨t, rfl⟩ := r; exact q
  | byt _ => obtain ⟨t, rfl⟩ := r; exact q
  | flt _ => obtain ⟨t, rfl⟩ := r; exact q
  | ref _ => cases (show u = Value.ref _ from r); exact q
  | ty _ => cases (show u = Value.type _ from r); exact q
theorem ev_own {c : Nat} {op : Operator} {o : Sto → SV → SV → Option Dv} (O : OwnOp X.K (cl c) op fa) (Fk : FnE X cl k fa fd ps g) (hr : Room k X.A) (tk : L2N.Takes X Wx) (hb : Binds X.K fd ps []) (ho : OpR X (binaryOp op) (ROp X cl o)) (h1 : PE X e1 (RE X cl Wx f1)) (h2 : PE X e2 (RE X cl Wx f2)) :
    PE X (.BinOp e1 op e2 pos) (RE X cl Wx (eOwn o c g f1 f2)) := by
  refine ⟨fun pins s σ H Q I ⟨W, F, S, a, q⟩ => ?_⟩
  let P : V → V → Hp → Prop := fun x y H2 => ROp X cl o x y H2 Q ∨ ∃ p q dx dy fs gs, x = .ref p ∧ y = .ref q ∧ H2 p = some (.ins (cl c) dx fs) ∧ H2 q = some (.ins (cl c) dy gs) ∧ SpR X.K cl g [x, y] H2 Q (WE Wx σ)
  have h0 : RE X cl Wx f1 σ H fun x H1 => RE X cl Wx f2 σ H1 fun y H2 => P x y H2 := by
    refine RE.of a q fun W1 S1 x v H1 g1 l1 a1 q1 o1 => ?_
    refine RE.of a1 o1 fun W2 S2 y u H2 g2 l2 a2 q2 o2 => ?_
    have q1' := RelSV.le l2 g2.len q1
    split at o2
    · rename_i c1 fs xs c2 gs ys ex ey
      split at o2
      · rename_i hc
        obtain ⟨rfl, rfl⟩ := hc
        obtain ⟨pp, dx, vs, rfl, k1, k2, k3⟩ := inst_rel a2.rel ex q1'
        obtain ⟨qq, dy, ws, rfl, m1, m2, m3⟩ := inst_rel a2.rel ey q2
        exact .inr ⟨pp, qq, dx, dy, _, _, rfl, rfl, k1, m1, sp_fin a2 (.cons q1' (.cons q2 .nil)) o2⟩
      · exact o2.elim
    · cases z : o S2 x y with
      | none => simp only [z] at o2; exact o2.elim
      | some w =>
        simp only [z] at o2
        exact .inl ⟨W2, S2, x, y, w, a2.rel, q1', q2, z, fun W' H' v l r q => o2 W' H' v (.refl _ _) l r q⟩
  refine wpAny_BinOp (bin h1 h2 I h0 fun v u s2 x y H2 I2 rx ry q => ?_)
  rcases q with q | ⟨pp, qq, dx, dy, fs, gs, rfl, rfl, k1, m1, q⟩
  · exact ho pins s2 σ H2 x y v u Q I2 rx ry q
  · obtain rfl : v = Value.ref pp := rx
    obtain rfl : u = Value.ref qq := ry
    obtain ⟨mA, O1, _⟩ := ins_get I2.hok k1
    obtain ⟨od, J1, _⟩ := O1.look
    obtain ⟨mB, O2, _⟩ := ins_get I2.hok m1
    obtain ⟨od2, J2, _⟩ := O2.look
    obtain ⟨mm, Fm⟩ := I2.fr
    refine PySem.W.binop_K Fm I2.mod.kin J1 J2.type O.first O.at_ O.fn ?_
    exact thn (run_fnS (us := [.ref pp, .ref qq]) (vs := [.ref pp, .ref qq]) Fk hr hb (L2N.passAt tk σ) I2 (.cons rfl (.cons rfl .nil)) q) fun w s3 ⟨z, H3, I3, r3, q3⟩ => cmpBack_of r3 ⟨z, H3, I3, r3, q3⟩
end
end Ev

set_option Elab.async false
set_option linter.all false
set_option maxRecDepth 100000
/-! Ev9: the store changed, statements. -/
namespace Ev
open PySem L2

/-! ### a thing of the store is changed -/
def okIn (b i : Nat) : SV → Bool
  | .d _ => true
  | .m j => decide (j ≤ i) || decide (b ≤ i)
section
variable {K : PySem.W.Frag} {cl : Nat → Addr} {W : Wd} {S : Sto} {H : Hp}
theorem Rel.set (r : Rel K cl W S H) {i : Nat} {mo mo' : MO} {ho : HO} (e : S[i]? = some mo) (hm : isMut mo = true) (hn : RelMO K cl W S.length (upd H (W.ρ i) ho) (W.ρ i) mo') (hk : isLck mo = false := by rfl) : Rel K cl W (S.set i mo') (upd H (W.ρ i) ho) := by
  have hl : i < S.length := (List.getElem?_eq_some_iff.mp e).1
  have hu : W.un (W.ρ i) := by
    have q := r.st i mo e
    cases mo with
    | lst xs => exact q.1
    | dic ks xs => exact q.1
    | ins c fs xs => exact q.1
    | frz x => cases hm
    | tup xs => exact q.1
    | lck ks xs => cases hk
  have hg := hu.1
  refine ⟨fun a o ea => ?_, fun j mj ej => ?_, fun j k mj mk ej ek a1 a2 q => ?_, fun a o ea => by
    rw [upd_ne (fun z => by rw [z, hu.2] at ea; cases ea)]
    exact r.lk a o ea⟩
  · rw [upd_ne (fun z => by rw [z, hg] at ea; cases ea)]
    exact r.fz a o ea
  · rw [List.length_set]
    by_cases h : i = j
    · subst h
      rw [List.getElem?_set, if_pos rfl, if_pos hl] at ej
      cases ej
      exact hn
    · rw [List.getElem?_set_ne h] at ej
      refine (r.st j mj ej).keep (.refl _ _) (Nat.le_refl _) rfl (fun _ g => g) fun a => ?_
      rw [upd_ne fun z => h (r.inj i j mo mj e ej hm a z.symm)]
  · have un : ∀ j mj, (S.set i mo')[j]? = some mj → isMut mj = true → ∃ mj', S[j]? = some mj' ∧ isMut mj' = true := fun j mj ej a => by
      by_cases h : i = j
      · subst h; exact ⟨mo, e, hm⟩
      · rw [List.getElem?_set_ne h] at ej; exact ⟨mj, ej, a⟩
    obtain ⟨mj', e1, b1⟩ := un j mj ej a1
    obtain ⟨mk', e2, b2⟩ := un k mk ek a2
    exact r.inj j k mj' mk' e1 e2 b1 b2 q
theorem Gr.set {b : Nat} {i : Nat} {mo : MO} (h : ∀ b', b' ≤ b → WFB b' S → i < b' → mo.below b') : Gr b S (S.set i mo) :=
  ⟨by rw [List.length_set]; exact Nat.le_refl _, fun b' hb' w j mj hj ej => by
    by_cases e : i = j
    · subst e
      rw [List.getElem?_set, if_pos rfl] at ej
      split at ej
      · cases ej; exact h b' hb' w hj
      · cases ej
    · rw [List.getElem?_set_ne e] at ej
      exact w j mj hj ej⟩
theorem okIn_below {b b' i : Nat} {x : SV} (h : okIn b i x = true) (hb : b' ≤ b) (hi : i < b') : x.below b' := by
  cases x with
  | d y => trivial
  | m j =>
    simp only [okIn, Bool.or_eq_true, decide_eq_true_eq] at h
    show j < b'
    omega
end

/-! ### methods of lists that change them -/
def isL (S : Sto) : SV → Bool
  | .m i => match S[i]? with
    | some (.lst _) => true
    | _ => false
  | _ => false
def eMut (g : Nat → Sto → SV → List SV → Option (SV × Sto)) (fo : Fr → Sto → Res SV) (f : Fr → Sto → Res (List SV)) : Fr → Sto → Res SV := fun F S => (fo F S).bind fun x S1 =>
  if isL S1 x = true then (f F S1).bind fun as S2 => match g F.b S2 x as with
    | some (y, S3) => .ok y S3
    | none => .bad
  else .bad
def RMut (X : Cx) (cl : Nat → Addr) (g : Nat → Sto → SV → List SV → Option (SV × Sto)) : V → List V → Hp → VK → Prop := fun x xs H Q => ∃ W S a as b y S', b ≤ S.length ∧ Rel X.K cl W S H ∧ RelSV X.K cl W S.length a x ∧ Paired (RelSV X.K cl W S.length) as xs ∧ g b S a as = some (y, S') ∧
  ∀ W' H' v, Gr b S S' → Le S.length W W' → Rel X.K cl W' S' H' → RelSV X.K cl W' S'.length y v → Q v H'
section
variable {X : Cx} {cl : CL} {Wx : WX} {o e : Expr} {es : List Expr} {f : Fr → Sto → Res (List SV)} {fo : Fr → Sto → Res SV} {apos cpos : Pos} {name : Str} {id : String} {g : Nat → Sto → SV → List SV → Option (SV × Sto)}
theorem MtR.weak {r r' : V → List V → Hp → VK → Prop} (h : MtR X id r) (k : ∀ x xs H Q, r' x xs H Q → r x xs H Q) : MtR X id r' := by
  intro pins s σ H x xs v us Q I h1 h2 q
  exact h pins s σ H x xs v us Q I h1 h2 (k _ _ _ _ q)
theorem isL_rel {K : PySem.W.Frag} {W : Wd} {S : Sto} {H : Hp} {x : SV} {v : V} (r : Rel K cl W S H) (h : isL S x = true) (q : RelSV K cl W S.length x v) : tyV K "list" v H := by
  cases x with
  | d y => cases h
  | m i =>
    obtain ⟨_, rfl⟩ := q
    simp only [isL] at h
    split at h
    · rename_i xs hx
      obtain ⟨_, vs, h1, _⟩ := r.st i _ hx
      exact .inl ⟨rfl, vs, SqL.of h1⟩
    · cases h
theorem ev_mut (slot : Slot "list" name id) (hty : typeOf (.builtin id) = pure (.type "method_descriptor")) (hm : MtR X id (RMut X cl g)) (ho : PE X o (RE X cl Wx fo)) (ha : PA X (e :: es) (RA X cl Wx f))
    (hbase : attributeBase o name X.env (eval o X.env) = eval o X.env := by rfl)
    (hfew : ((backTo cpos (starEach (e :: es) X.env)).all (fun x => !x.1) && (backToKw cpos (keywordEach [] X.env)).all (fun x => x.1.isSome)
      && decide ((e :: es).length + ([] : List Keyword).length + (if ([] : List Keyword).isEmpty then 0 else 1) < 30)) = true := by rfl)
    (hline : (apos.endLine == cpos.line) = true := by rfl) (hs : starEach (e :: es) X.env = (false, eval e X.env) :: starEach es X.env := by rfl) (hplain : (backTo cpos (starEach es X.env)).any (·.1) = false := by rfl) :
    PE X (.Call (.Attribute o name apos) (e :: es) [] cpos) (RE X cl Wx (eMut g fo f)) :=
  PE.weak (pe_bm PySem.F.plainAttrs_list slot hty hm ho ha hbase hfew hline hs hplain) fun σ H Q ⟨W, F, S, a, q⟩ => by
    refine RE.of a q fun W1 S1 y v H1 g1 l1 a1 q1 o1 => ?_
    split at o1
    · rename_i hl
      refine ⟨isL_rel a1.rel hl q1, ?_⟩
      refine RA.of a1 o1 fun W2 S2 as ws H2 g2 l2 a2 q2 o2 => ?_
      split at o2
      · rename_i z S3 hg
        exact ⟨W2, S2, y, as, F.b, z, S3, a2.b, a2.rel, RelSV.le l2 g2.len q1, q2, hg, o2⟩
      · exact o2.elim
    · exact o1.elim
theorem ev_mut0 (slot : Slot "list" name id) (hty : typeOf (.builtin id) = pure (.type "method_descriptor")) (hm : MtR X id (RMut X cl g)) (ho : PE X o (RE X cl Wx fo))
    (hbase : attributeBase o name X.env (eval o X.env) = eval o X.env := by rfl) (hline : (apos.endLine == cpos.line) = true := by rfl) :
    PE X (.Call (.Attribute o name apos) [] [] cpos) (RE X cl Wx (eMut g fo aNil)) :=
  PE.weak (pe_bm0 PySem.F.plainAttrs_list slot hty hm ho hbase hline) fun σ H Q ⟨W, F, S, a, q⟩ => by
    refine RE.of a q fun W1 S1 y v H1 g1 l1 a1 q1 o1 => ?_
    split at o1
    · rename_i hl
      refine ⟨isL_rel a1.rel hl q1, ?_⟩
      simp only [aNil, Res.bind_ok] at o1
      split at o1
      · rename_i z S3 hg
        exact ⟨W1, S1, y, [], F.b, z, S3, a1.b, a1.rel, q1, .nil, hg, o1⟩
      · exact o1.elim
    · exact o1.elim
def muAppend (b : Nat) (S : Sto) : SV → List SV → Option (SV × Sto)
  | .m i, [y] => match S[i]? with
    | some (.lst xs) => if xs.length < most ∧ okIn b i y = true then some (.d .non, S.set i (.lst (xs ++ [y]))) else none
    | _ => none
  | _, _ => none
theorem paired_snoc {α β : Type} {R : α → β → Prop} : ∀ {xs : List α} {ys : List β} {x : α} {y : β}, Paired R xs ys → R x y → Paired R (xs ++ [x]) (ys ++ [y])
  | _, _, _, _, .nil, r => .cons r .nil
  | _, _, _, _, .cons q t, r => .cons q (paired_snoc t r)
theorem ov_append : MtR X "list.append" (RMut X cl muAppend) := MtR.weak mt_append fun x xs H Q ⟨W, S, a, as, b, y, S', hb, r, ra, ras, e, k⟩ => by
  unfold muAppend at e
  split at e
  · rename_i i z
    split at e
    · rename_i zs hz
      split at e
      · rename_i hc
        cases e
        obtain ⟨_, rfl⟩ := ra
        obtain ⟨g0, vs, h1, h2⟩ := r.st i _ hz
        match xs, ras with
        | [v], .cons rz .nil =>
          refine ⟨_, vs, v, rfl, rfl, h1, by rw [← PySem.Paired.length h2]; exact hc.1, ?_⟩
          refine k W _ _ (.set fun b' hb' w hi x hx => ?_) (.refl _ _) (r.set hz rfl ⟨g0, _, upd_same, paired_snoc h2 rz⟩) RelD.non
          rcases List.mem_append.mp hx with hx | hx
          · exact w i _ hi hz x hx
          · cases List.mem_singleton.mp hx
            exact okIn_below hc.2 hb' hi
      · cases e
    · cases e
  · cases e
def muPop (b : Nat) (S : Sto) : SV → List SV → Option (SV × Sto)
  | .m i, [] => match S[i]? with
    | some (.lst xs) => match xs[xs.length - 1]? with
      | some y => some (y, S.set i (.lst xs.dropLast))
      | none => none
    | _ => none
  | _, _ => none
theorem paired_dropLast {α β : Type} {R : α → β → Prop} : ∀ {xs : List α} {ys : List β}, Paired R xs ys → Paired R xs.dropLast ys.dropLast
  | _, _, .nil => .nil
  | _, _, .cons _ .nil => .nil
  | _, _, .cons q (.cons r t) => .cons q (paired_dropLast (.cons r t))
theorem ov_pop : MtR X "list.pop" (RMut X cl muPop) := MtR.weak mt_pop fun x xs H Q ⟨W, S, a, as, b, y, S', hb, r, ra, ras, e, k⟩ => by
  unfold muPop at e
  split at e
  · rename_i i
    split at e
    · rename_i zs hz
      split at e
      · rename_i w hw
        cases e
        cases ras
        obtain ⟨_, rfl⟩ := ra
        obtain ⟨g0, vs, h1, h2⟩ := r.st i _ hz
        obtain ⟨u, h3, h4⟩ := paired_get h2 hw
        refine ⟨_, vs, u, rfl, rfl, h1, by rw [← PySem.Paired.length h2]; exact h3, ?_⟩
        refine k W _ _ (.set fun b' hb' w hi x hx => ?_) (.refl _ _) (r.set hz rfl ⟨g0, _, upd_same, paired_dropLast h2⟩) (by rw [List.length_set]; exact h4)
        exact w i _ hi hz x (List.dropLast_subset _ hx)
      · cases e
    · cases e
  · cases e
end

/-! ### statements -/
inductive SRes where
  | nx (v : Env) (S : Sto) | rt (x : SV) (S : Sto) | bk (v : Env) (S : Sto) | ct (v : Env) (S : Sto) | ex (e : Exc) (v : Env) (S : Sto) | bad
def Res.st {α : Type} (F : Fr) : Res α → (α → Sto → SRes) → SRes
  | .ok a S, k => k a S
  | .ex e S, _ => .ex e F.v S
  | .bad, _ => .bad
@[simp] theorem Res.st_ok {α : Type} (F : Fr) (a : α) (S : Sto) (k : α → Sto → SRes) : (Res.ok a S).st F k = k a S := rfl
@[simp] theorem Res.st_ex {α : Type} (F : Fr) (e : Exc) (S : Sto) (k : α → Sto → SRes) : (Res.ex e S : Res α).st F k = .ex e F.v S := rfl
@[simp] theorem Res.st_bad {α : Type} (F : Fr) (k : α → Sto → SRes) : (Res.bad : Res α).st F k = .bad := rfl
section
variable (K : PySem.W.Frag) (cl : CL) (Wx : WX)
def OutS (D : Ends) (b : Nat) (W : Wd) (S : Sto) (r : SRes) : Prop := match r with
  | .nx v' S' => ∀ W' σ' H', Gr b S S' → Le S.length W W' → At K cl W' ⟨b, v'⟩ S' σ' H' → D.nx σ' H'
  | .bk v' S' => ∀ W' σ' H', Gr b S S' → Le S.length W W' → At K cl W' ⟨b, v'⟩ S' σ' H' → D.bk σ' H'
  | .ct v' S' => ∀ W' σ' H', Gr b S S' → Le S.length W W' → At K cl W' ⟨b, v'⟩ S' σ' H' → D.ct σ' H'
  | .rt v S' => ∀ W' H' x, Gr b S S' → Le S.length W W' → Rel K cl W' S' H' → RelSV K cl W' S'.length v x → D.rt x H'
  | .ex e v' S' => ∀ W' σ' H' c d, Gr b S S' → Le S.length W W' → At K cl W' ⟨b, v'⟩ S' σ' H' → RelX K cl W' e c d H' → Wx c d σ' H'
  | .bad => False
variable {K cl Wx}
theorem OutS.rebase {D : Ends} {b : Nat} {W W1 : Wd} {S S1 : Sto} {r : SRes} (h : OutS K cl Wx D b W S r) (hn : Gr b S S1) (hl : Le S.length W W1) : OutS K cl Wx D b W1 S1 r := by
  cases r with
  | nx F' S' => exact fun W' σ' H' h1 h2 => h W' σ' H' (hn.trans h1 (Nat.le_refl _)) (hl.trans h2 hn.len)
  | bk F' S' => exact fun W' σ' H' h1 h2 => h W' σ' H' (hn.trans h1 (Nat.le_refl _)) (hl.trans h2 hn.len)
  | ct F' S' => exact fun W' σ' H' h1 h2 => h W' σ' H' (hn.trans h1 (Nat.le_refl _)) (hl.trans h2 hn.len)
  | rt v S' => exact fun W' H' x h1 h2 => h W' H' x (hn.trans h1 (Nat.le_refl _)) (hl.trans h2 hn.len)
  | ex e F' S' => exact fun W' σ' H' c d h1 h2 => h W' σ' H' c d (hn.trans h1 (Nat.le_refl _)) (hl.trans h2 hn.len)
  | bad => exact h
end
section
variable (X : Cx) (cl : CL) (Wx : WX)
def RS (f : Fr → Sto → SRes) : TS := fun D σ H => ∃ W F S, At X.K cl W F S σ H ∧ OutS X.K cl Wx D F.b W S (f F S)
end
section
variable {X : Cx} {cl : CL} {Wx : WX} {e e1 e2 : Expr} {fe : Fr → Sto → Res SV} {t : Fr → Sto → Res Bool} {f g : Fr → Sto → SRes} {st : Stmt} {rest sts : List Stmt} {pos pos' : Pos} {D : Ends} {W : Wd} {F : Fr} {S : Sto} {σ : St} {H : Hp}
theorem RE.ofS {k : SV → Sto → SRes} {Q' : VK} (a : At X.K cl W F S σ H) (h : OutS X.K cl Wx D F.b W S ((fe F S).st F k))
    (kk : ∀ W1 S1 x v H1, Gr F.b S S1 → Le S.length W W1 → At X.K cl W1 F S1 σ H1 → RelSV X.K cl W1 S1.length x v → OutS X.K cl Wx D F.b W1 S1 (k x S1) → Q' v H1) : RE X cl Wx fe σ H Q' := by
  refine ⟨W, F, S, a, ?_⟩
  cases hr : fe F S with
  | ok x S1 =>
    rw [hr] at h
    exact fun W1 H1 v g1 l1 r1 q1 => kk W1 S1 x v H1 g1 l1 (a.on g1 l1 r1) q1 (OutS.rebase h g1 l1)
  | ex ec S1 =>
    rw [hr] at h
    exact fun W1 H1 c d g1 l1 r1 q1 => h W1 σ H1 c d g1 l1 (a.on g1 l1 r1) q1
  | bad => rw [hr] at h; exact h
theorem RT.ofS {k : Bool → Sto → SRes} {Q' : Bool → Hp → Prop} (a : At X.K cl W F S σ H) (h : OutS X.K cl Wx D F.b W S ((t F S).st F k))
    (kk : ∀ W1 S1 x H1, Gr F.b S S1 → Le S.length W W1 → At X.K cl W1 F S1 σ H1 → OutS X.K cl Wx D F.b W1 S1 (k x S1) → Q' x H1) : RT X cl Wx t σ H Q' := by
  refine ⟨W, F, S, a, ?_⟩
  cases hr : t F S with
  | ok x S1 =>
    rw [hr] at h
    intro W1 H1 v g1 l1 r1 q1
    obtain rfl : v = x := q1
    exact kk W1 S1 v H1 g1 l1 (a.on g1 l1 r1) (OutS.rebase h g1 l1)
  | ex ec S1 =>
    rw [hr] at h
    exact fun W1 H1 c d g1 l1 r1 q1 => h W1 σ H1 c d g1 l1 (a.on g1 l1 r1) q1
  | bad => rw [hr] at h; exact h
theorem OutS.here {v' : Env} {b : Nat} (h : OutS X.K cl Wx D b W S (.nx v' S)) (a : At X.K cl W ⟨b, v'⟩ S σ H) : D.nx σ H := h W σ H (.refl _ _) (.refl _ _) a
def Fr.put (F : Fr) (i : Nat) (x : SV) : Env := F.v.set i (some x)
theorem At.put (a : At X.K cl W F S σ H) (i : Nat) {x : SV} {v : V} (q : RelSV X.K cl W S.length x v) : At X.K cl W ⟨F.b, F.put i x⟩ S (σ.set i (some v)) H := ⟨a.b, a.rel, a.env.set i q, cl.put i x v a.gh⟩
/-- one after another -/
theorem OutS.seq {r : SRes} {b : Nat} {k : Env → Sto → SRes} {N : St → Hp → Prop} (h : OutS X.K cl Wx D b W S (match r with | .nx v1 S1 => k v1 S1 | r => r))
    (kk : ∀ v1 S1 W' σ' H', Gr b S S1 → Le S.length W W' → At X.K cl W' ⟨b, v1⟩ S1 σ' H' → OutS X.K cl Wx D b W' S1 (k v1 S1) → N σ' H') : OutS X.K cl Wx { D with nx := N } b W S r := by
  cases r with
  | nx v1 S1 => exact fun W' σ' H' g l a => kk v1 S1 W' σ' H' g l a (OutS.rebase h g l)
  | bk v1 S1 => exact h
  | ct v1 S1 => exact h
  | rt v S1 => exact h
  | ex ec v1 S1 => exact h
  | bad => exact h

def sNil : Fr → Sto → SRes := fun F S => .nx F.v S
def sSeq (f g : Fr → Sto → SRes) : Fr → Sto → SRes := fun F S => match f F S with
  | .nx v1 S1 => g ⟨F.b, v1⟩ S1
  | r => r
theorem sv_nil : PSs X [] (RS X cl Wx sNil) := PSs.weak pss_nil fun D σ H ⟨W, F, S, a, o⟩ => OutS.here o a
theorem sv_one (h : PS X st (RS X cl Wx f)) : PSs X [st] (RS X cl Wx f) := pss_one h
theorem sv_cons (h : PS X st (RS X cl Wx f)) (k : PSs X rest (RS X cl Wx g)) : PSs X (st :: rest) (RS X cl Wx (sSeq f g)) :=
  PSs.weak (pss_cons h k) fun D σ H ⟨W, F, S, a, o⟩ =>
    ⟨W, F, S, a, OutS.seq (k := fun v1 S1 => g ⟨F.b, v1⟩ S1) o fun v1 S1 W' σ' H' g l a' o' => ⟨W', ⟨F.b, v1⟩, S1, a', o'⟩⟩
def sPass : Fr → Sto → SRes := sNil
def sBrk : Fr → Sto → SRes := fun F S => .bk F.v S
def sCont : Fr → Sto → SRes := fun F S => .ct F.v S
theorem sv_pass : PS X (.Pass pos) (RS X cl Wx sPass) := PS.weak ps_pass fun D σ H ⟨W, F, S, a, o⟩ => OutS.here o a
theorem sv_break : PS X (.Break pos) (RS X cl Wx sBrk) := PS.weak ps_break fun D σ H ⟨W, F, S, a, o⟩ => o W σ H (.refl _ _) (.refl _ _) a
theorem sv_continue : PS X (.Continue pos) (RS X cl Wx sCont) := PS.weak ps_continue fun D σ H ⟨W, F, S, a, o⟩ => o W σ H (.refl _ _) (.refl _ _) a
def sSet (i : Nat) (fe : Fr → Sto → Res SV) : Fr → Sto → SRes := fun F S => (fe F S).st F fun x S1 => .nx (F.put i x) S1
theorem sv_set (i : Nat) {x : Str} (he : PE X e (RE X cl Wx fe)) (hN : X.N.Nodup) (hi : X.N[i]? = some x := by rfl) (hx : Loc X.env.scope x := by first | exact Or.inl rfl | exact Or.inr rfl) (hs : swapsWith e (some (.Name x pos')) pos.line X.env = pure false := by rfl)
    (hf : X.fn x = true ∨ X.env.scope.names.lookup x = some .local := by first | exact .inl rfl | exact .inr rfl) : PS X (.Assign [.Name x pos'] e pos) (RS X cl Wx (sSet i fe)) :=
  PS.weak (ps_set hN hi hx he hs hf) fun D σ H ⟨W, F, S, a, o⟩ => RE.ofS a o fun W1 S1 y v H1 g1 l1 a1 q1 o1 => OutS.here o1 (a1.put i q1)
def sExpr (fe : Fr → Sto → Res SV) : Fr → Sto → SRes := fun F S => (fe F S).st F fun _ S1 => .nx F.v S1
theorem sv_expr (he : PE X e (RE X cl Wx fe)) (hs : swapsWith e none pos.line X.env = pure false := by rfl) : PS X (.Expr e pos) (RS X cl Wx (sExpr fe)) :=
  PS.weak (ps_expr he hs) fun D σ H ⟨W, F, S, a, o⟩ => RE.ofS a o fun W1 S1 y v H1 g1 l1 a1 q1 o1 => OutS.here o1 a1
def sRet (fe : Fr → Sto → Res SV) : Fr → Sto → SRes := fun F S => (fe F S).st F fun x S1 => .rt x S1
theorem sv_ret (he : PE X e (RE X cl Wx fe)) : PS X (.Return (some e) pos) (RS X cl Wx (sRet fe)) :=
  PS.weak (ps_ret he) fun D σ H ⟨W, F, S, a, o⟩ => RE.ofS a o fun W1 S1 y v H1 g1 l1 a1 q1 o1 => o1 W1 H1 v (.refl _ _) (.refl _ _) a1.rel q1
def sRetN : Fr → Sto → SRes := fun F S => .rt (.d .non) S
theorem sv_retN : PS X (.Return none pos) (RS X cl Wx sRetN) := PS.weak ps_retN fun D σ H ⟨W, F, S, a, o⟩ => o W H _ (.refl _ _) (.refl _ _) a.rel RelD.non
def sIf (t : Fr → Sto → Res Bool) (f g : Fr → Sto → SRes) : Fr → Sto → SRes := fun F S => (t F S).st F fun c S1 => if c = true then f F S1 else g F S1
theorem sv_if {c : Expr} {as bs : List Stmt} (hc : PT X c (RT X cl Wx t)) (ha : PSs X as (RS X cl Wx f)) (hb : PSs X bs (RS X cl Wx g)) : PS X (.If c as bs pos) (RS X cl Wx (sIf t f g)) :=
  PS.weak (ps_if hc ha hb) fun D σ H ⟨W, F, S, a, o⟩ => RT.ofS a o fun W1 S1 c H1 g1 l1 a1 o1 => by
    split at o1
    · rename_i h; rw [if_pos h]; exact ⟨W1, F, S1, a1, o1⟩
    · rename_i h; rw [if_neg h]; exact ⟨W1, F, S1, a1, o1⟩

/-! targets -/
abbrev Tg := SV → Fr → Sto → Option Env
def RG (X : Cx) (cl : CL) (tg : Tg) : TG := fun v σ H Q => ∃ W F S sv v', At X.K cl W F S σ H ∧ RelSV X.K cl W S.length sv v ∧ tg sv F S = some v' ∧ ∀ σ', At X.K cl W ⟨F.b, v'⟩ S σ' H → Q σ' H
theorem PG.weak {X : Cx} {e : Expr} {t t' : TG} (h : PG X e t) (k : ∀ v σ H Q, t' v σ H Q → t v σ H Q) : PG X e t' := ⟨fun pins s σ H v u Q I r q => h.run pins s σ H v u Q I r (k v σ H Q q)⟩
def gNm (i : Nat) : Tg := fun x F _ => some (F.put i x)
theorem gv_name (i : Nat) {x : Str} (hN : X.N.Nodup) (hi : X.N[i]? = some x := by rfl) (hx : Loc X.env.scope x := by first | exact Or.inl rfl | exact Or.inr rfl) (hf : X.fn x = true ∨ X.env.scope.names.lookup x = some .local := by first | exact .inl rfl | exact .inr rfl) : PG X (.Name x pos) (RG X cl (gNm i)) :=
  PG.weak (pg_name hN hi hx hf) fun v σ H Q ⟨W, F, S, sv, v', a, q, e, k⟩ => by
    cases e
    exact k _ (a.put i q)

/-! for -/
def forL (tg : Tg) (body : Fr → Sto → SRes) (b : Nat) : List SV → Env → Sto → SRes
  | [], v, S => .nx v S
  | x :: r, v, S => match tg x ⟨b, v⟩ S with
    | some v1 => match body ⟨b, v1⟩ S with
      | .nx v2 S2 => forL tg body b r v2 S2
      | .ct v2 S2 => forL tg body b r v2 S2
      | .bk v2 S2 => .nx v2 S2
      | o => o
    | none => .bad
/-- over a list, a tuple or a dict, which is frozen -/
def sFor (fe : Fr → Sto → Res SV) (tg : Tg) (body : Fr → Sto → SRes) : Fr → Sto → SRes := fun F S => (fe F S).st F fun x S1 => match freeze S1 x with
  | some (.lst xs, S2) => forL tg body F.b (xs.map .d) F.v S2
  | some (.tup xs, S2) => forL tg body F.b (xs.map .d) F.v S2
  | some (.dic ks _, S2) => forL tg body F.b (ks.map keyS) F.v S2
  | _ => .bad
theorem turn_out {N : St → Hp → Prop} {b : Nat} {tg : Tg} {body : Fr → Sto → SRes} {r : List SV} {v1 : Env} (h : OutS X.K cl Wx D b W S (match body ⟨b, v1⟩ S with
      | .nx v2 S2 => forL tg body b r v2 S2
      | .ct v2 S2 => forL tg body b r v2 S2
      | .bk v2 S2 => .nx v2 S2
      | o => o)) (kk : ∀ v2 S2 W' σ' H', Gr b S S2 → Le S.length W W' → At X.K cl W' ⟨b, v2⟩ S2 σ' H' → OutS X.K cl Wx D b W' S2 (forL tg body b r v2 S2) → N σ' H') :
    OutS X.K cl Wx { D with nx := N, ct := N, bk := D.nx } b W S (body ⟨b, v1⟩ S) := by
  cases hr : body ⟨b, v1⟩ S with
  | nx v2 S2 => rw [hr] at h; exact fun W' σ' H' g l a => kk v2 S2 W' σ' H' g l a (OutS.rebase h g l)
  | ct v2 S2 => rw [hr] at h; exact fun W' σ' H' g l a => kk v2 S2 W' σ' H' g l a (OutS.rebase h g l)
  | bk v2 S2 => rw [hr] at h; exact h
  | rt v S2 => rw [hr] at h; exact h
  | ex ec v2 S2 => rw [hr] at h; exact h
  | bad => rw [hr] at h; exact h
/-- what holds ahead of turn i -/
def ForP (X : Cx) (cl : CL) (Wx : WX) (D : Ends) (b : Nat) (W0 : Wd) (n0 : Nat) (tg : Tg) (body : Fr → Sto → SRes) (xs : List SV) (i : Nat) (σ : St) (H : Hp) : Prop :=
  ∃ W v S, n0 ≤ S.length ∧ Le n0 W0 W ∧ At X.K cl W ⟨b, v⟩ S σ H ∧ OutS X.K cl Wx D b W S (forL tg body b (xs.drop i) v S)
theorem forP_turn {b : Nat} {W0 : Wd} {n0 : Nat} {tg : Tg} {body : Fr → Sto → SRes} {xs : List SV} {i : Nat} {x : V} {sv : SV} (hx : xs[i]? = some sv) (hq : ∀ W n, Le n0 W0 W → n0 ≤ n → RelSV X.K cl W n sv x) (h : ForP X cl Wx D b W0 n0 tg body xs i σ H) :
    RG X cl tg x σ H fun σ2 H2 => RS X cl Wx body { D with nx := ForP X cl Wx D b W0 n0 tg body xs (i + 1), ct := ForP X cl Wx D b W0 n0 tg body xs (i + 1), bk := D.nx } σ2 H2 := by
  obtain ⟨W, v, S, hn, hl, a, o⟩ := h
  have hi := (List.getElem?_eq_some_iff.mp hx).1
  have hd : xs.drop i = sv :: xs.drop (i + 1) := by
    rw [List.drop_eq_getElem_cons hi]
    congr 1
    exact (List.getElem?_eq_some_iff.mp hx).2
  rw [hd] at o
  unfold forL at o
  cases ht : tg sv ⟨b, v⟩ S with
  | none => simp only [ht] at o; exact o.elim
  | some v1 =>
    simp only [ht] at o
    refine ⟨W, ⟨b, v⟩, S, sv, v1, a, hq W _ hl hn, ht, fun σ' a' => ?_⟩
    refine ⟨W, ⟨b, v1⟩, S, a', turn_out o fun v2 S2 W' σ'' H'' g2 l2 a2 o2 => ?_⟩
    exact ⟨W', v2, S2, Nat.le_trans hn g2.len, hl.trans l2 hn, a2, o2⟩
/-- a dict that nobody will change is locked -/
theorem Rel.pin {K : PySem.W.Frag} {cl : Nat → Addr} {W : Wd} {S : Sto} {H : Hp} (r : Rel K cl W S H) {a : Addr} {kvs : List (Key × V)} (h : W.G a = some (.dK kvs)) (o : Obj) (n : Nat) :
    Rel K cl ⟨W.ρ, upd W.G a (.frz o (.dK kvs)), W.L⟩ S (upd H a (.frz o (.dK kvs))) ∧ Le n W ⟨W.ρ, upd W.G a (.frz o (.dK kvs)), W.L⟩ := by
  have l : ∀ n, Le n W ⟨W.ρ, upd W.G a (.frz o (.dK kvs)), W.L⟩ := fun n => ⟨fun b u e => by
    by_cases hb : b = a
    · subst hb
      rw [h] at e
      cases e
      exact ⟨_, upd_same, .inr ⟨kvs, o, rfl, rfl⟩⟩
    · exact ⟨u, by show upd _ _ _ _ = _; rw [upd_ne hb]; exact e, .refl _⟩, fun _ _ => rfl, fun _ _ h => h⟩
  refine ⟨⟨fun b u e => ?_, fun i mo e => ?_, r.inj, fun b u e => ?_⟩, l n⟩
  · have e : upd W.G a (.frz o (.dK kvs)) b = some u := e
    by_cases hb : b = a
    · subst hb
      rw [upd_same] at e ⊢
      exact e
    · rw [upd_ne hb] at e ⊢
      exact r.fz b u e
  · have ne : isMut mo = true → W.ρ i ≠ a := fun hm z => by
      have q := r.st i mo e
      have g : W.G (W.ρ i) = none := by
        cases mo with
        | lst xs => exact q.1.1
        | dic ks xs => exact q.1.1
        | ins c fs xs => exact q.1.1
        | frz x => cases hm
        | tup xs => exact q.1.1
        | lck ks xs => exact q.1
      rw [z, h] at g
      cases g
    refine (r.st i mo e).keep (l _) (Nat.le_refl _) rfl (fun hm g => ?_) fun hm => ?_
    · show upd _ _ _ _ = _
      rw [upd_ne (ne hm)]
      exact g
    · rw [upd_ne (ne hm)]
  · obtain ⟨h1, od, v, h2⟩ := r.lk b u e
    refine ⟨?_, od, v, h2⟩
    rw [upd_ne (fun z => ?_)]
    · exact h1
    · subst z
      have := r.fz _ _ h
      rw [h1, h2] at this
      cases this
theorem for_itk {d : Addr} {o : Obj} {kvs : List (Key × V)} {g : TG} {tb : TS} {D : Ends} {σ : St} {H : Hp} (Pv : Nat → St → Hp → Prop) (h0 : Pv 0 σ H) (hl : ∀ i σ H, i ≤ kvs.length → Pv i σ H → H d = some (.frz o (.dK kvs)))
    (hs : ∀ i k v σ H, kvs[i]? = some (k, v) → Pv i σ H → g (kV k) σ H fun σ2 H2 => tb { D with nx := Pv (i + 1), ct := Pv (i + 1), bk := D.nx } σ2 H2) (hd : ∀ σ H, Pv kvs.length σ H → D.nx σ H) :
    ∃ W : Nat → Nat → St → Hp → Prop, (∃ m, W 0 m σ H) ∧ ∀ i m σ H, W i m σ H →
      ((Itk d o kvs).stop i H ∧ D.nx σ H) ∨ ((Itk d o kvs).go i H ∧ ∃ N : St → Hp → Prop, (∀ σ' H', N σ' H' → ∃ m', m' < m ∧ W (i + 1) m' σ' H') ∧ ∀ x H', (Itk d o kvs).yld i H x H' → g x σ H' fun σ2 H2 => tb { D with nx := N, ct := N, bk := D.nx } σ2 H2) := by
  refine ⟨fun i m σ H => m = kvs.length - i ∧ i ≤ kvs.length ∧ Pv i σ H, ⟨kvs.length, by simp, Nat.zero_le _, h0⟩, ?_⟩
  rintro i m σ H ⟨rfl, hi, p⟩
  have q := hl i σ H hi p
  by_cases hlt : i < kvs.length
  · refine .inr ⟨⟨q, hlt⟩, Pv (i + 1), fun σ' H' p' => ⟨kvs.length - (i + 1), by omega, rfl, hlt, p'⟩, fun x H' y => ?_⟩
    obtain ⟨e, k, v, hk, rfl⟩ := y
    subst e
    exact hs i k v σ _ hk p
  · have e : i = kvs.length := by omega
    subst e
    exact .inl ⟨⟨q, Nat.le_refl _⟩, hd σ H p⟩
/-- what a for walks: a list, a tuple or a dict -/
def iSeq (K : PySem.W.Frag) (tl : TE) : TI := fun σ H R => tl σ H fun x H1 => ∃ a, x = .ref a ∧ ((∃ xs, SqL K H1 a xs) ∧ R (Itl K a) H1 ∨ (∃ xs, SqT K H1 a xs) ∧ R (Itt K a) H1 ∨ (∃ kvs o, H1 a = some (.frz o (.dK kvs)) ∧ R (Itk a o kvs) H1) ∨ ∃ kvs, H1 a = some (.dK kvs) ∧ ∀ o, R (Itk a o kvs) (upd H1 a (.frz o (.dK kvs))))
theorem pi_seq {tg l : Expr} {tl : TE} (hl : PE X l tl) : PI X tg l (iSeq X.K tl) := by
  constructor
  intro pins s σ H R I h
  refine thn (hl.run pins s σ H _ I h) fun v s1 ⟨x, H1, I1, r1, a, e, q1⟩ => ?_
  subst e
  obtain rfl : v = Value.ref a := r1
  rcases q1 with ⟨⟨xs, hq⟩, q⟩ | ⟨⟨xs, hq⟩, q⟩ | ⟨kvs, o, hd, q⟩ | ⟨kvs, hd, q⟩
  · obtain ⟨its, rv, p, hz⟩ := I1.list hq
    refine wpAny_pyIter_list p.isList ⟨s1.heap.objs.size, [s1.heap.objs.size], _, _, H1, rfl, I1.kept (t' := s1.toks) fun b o e => Heap.get?_push_of_some _ e, turn_list a _, ⟨_, Heap.get?_push_size _ rfl, rfl, rfl⟩, fun b hb => ?_, q⟩
    rw [List.mem_singleton.mp hb]
    exact I1.fpOk (Nat.le_refl _) (I1.hok.fresh (Nat.le_refl _))
  · obtain ⟨its, rv, p, hz⟩ := I1.tuple hq
    refine wpAny_pyIter_tuple (show s1.heap.IsTuple a its.toArray from p) ⟨s1.heap.objs.size, [s1.heap.objs.size], _, _, H1, rfl, I1.kept (t' := s1.toks) fun b o e => Heap.get?_push_of_some _ e, turn_tuple a _, ⟨_, Heap.get?_push_size _ rfl, rfl, rfl⟩, fun b hb => ?_, q⟩
    rw [List.mem_singleton.mp hb]
    exact I1.fpOk (Nat.le_refl _) (I1.hok.fresh (Nat.le_refl _))
  · obtain ⟨hs, hgd, hx, es, ep, vs, hdt, hsz, kv, hm⟩ := I1.frzK hd
    refine iter_keys hs hgd hx hdt (pi_one (tk := s1.toks) I1 _ (turn_keys _ hdt) ⟨_, Heap.get?_push_size _ rfl, rfl, ?_⟩ q)
    rw [hsz] <;> rfl
  · obtain ⟨od, I2⟩ := I1.lock hd trivial
    obtain ⟨hs, hgd, hx, es, ep, vs, hdt, hsz, kv, hm⟩ := I2.frzK upd_same
    refine iter_keys hs hgd hx hdt (pi_one (tk := s1.toks) I2 _ (turn_keys _ hdt) ⟨_, Heap.get?_push_size _ rfl, rfl, ?_⟩ (q od))
    rw [hsz] <;> rfl
theorem item_of {G : Hp} {xs : List Dv} {vs : List V} {i : Nat} {x : V} (t : RelDs X.K cl G xs vs) (hx : vs[i]? = some x) : ∃ d, xs[i]? = some d ∧ RelD X.K cl G d x := by
  have ht := t.paired
  have hi : i < xs.length := by rw [t.length]; exact (List.getElem?_eq_some_iff.mp hx).1
  obtain ⟨y, h1, h2⟩ := paired_get (i := i) (x := xs[i]) ht (by simp [hi])
  rw [hx] at h1
  cases h1
  exact ⟨_, by simp [hi], h2⟩
theorem sv_for {it tgt : Expr} {body : List Stmt} {tg : Tg} {fb : Fr → Sto → SRes} (hp : PassesOwn (model X.prog X.w) X.A X.env X.xe) (hc : X.calm = true) (hi : PE X it (RE X cl Wx fe)) (hg : PG X tgt (RG X cl tg)) (hb : PSs X body (RS X cl Wx fb))
    (hs : ∀ x, foldedSetIterable it X.env x = pure x := by exact fun _ => rfl) : PS X (.For tgt it body [] pos) (RS X cl Wx (sFor fe tg fb)) :=
  PS.weak (ps_for hp hc (pi_seq hi) hg hb hs) fun D σ H ⟨W, F, S, a, o⟩ => by
    refine RE.ofS a o fun W1 S1 y v H1 g1 l1 a1 q1 o1 => ?_
    split at o1
    · rename_i xs S2 hf
      obtain ⟨n2, w2, k2⟩ := freeze_ok (K := X.K) (cl := cl) hf
      obtain ⟨W2, e2, l2, r2, q2⟩ := k2 W1 H1 v a1.rel q1
      have g2 : Gr F.b S1 S2 := ⟨Nat.le_of_eq n2.symm, fun b _ => w2 b⟩
      have a2 := a1.on g2 l2 r2
      cases q2 with
      | lst h t =>
        refine ⟨_, rfl, .inl ⟨⟨_, SqL.up r2.fz h⟩, for_list (ForP X cl Wx D F.b W2 S2.length tg fb (xs.map .d)) ⟨W2, F.v, S2, Nat.le_refl _, .refl _ _, a2, OutS.rebase o1 g2 l2⟩ (fun i σ H _ ⟨W, v, S, hn, hl, a, _⟩ => SqL.up a.rel.fz (SqL.le hl h)) (fun i x σ H hx hP => ?_) fun σ H hP => ?_⟩⟩
        · obtain ⟨d, hd, rd⟩ := item_of t hx
          exact forP_turn (sv := .d d) (by rw [List.getElem?_map, hd]; rfl) (fun W n hl hn => RelD.le hl rd) hP
        · obtain ⟨W, v, S, hn, hl, a, o⟩ := hP
          rw [List.drop_of_length_le (by rw [List.length_map, t.length]; exact Nat.le_refl _)] at o
          exact OutS.here o a
    · rename_i xs S2 hf
      obtain ⟨n2, w2, k2⟩ := freeze_ok (K := X.K) (cl := cl) hf
      obtain ⟨W2, e2, l2, r2, q2⟩ := k2 W1 H1 v a1.rel q1
      have g2 : Gr F.b S1 S2 := ⟨Nat.le_of_eq n2.symm, fun b _ => w2 b⟩
      have a2 := a1.on g2 l2 r2
      cases q2 with
      | tup h t =>
        refine ⟨_, rfl, .inr (.inl ⟨⟨_, SqT.up r2.fz h⟩, for_tup (ForP X cl Wx D F.b W2 S2.length tg fb (xs.map .d)) ⟨W2, F.v, S2, Nat.le_refl _, .refl _ _, a2, OutS.rebase o1 g2 l2⟩ (fun i σ H _ ⟨W, v, S, hn, hl, a, _⟩ => SqT.up a.rel.fz (SqT.le hl h)) (fun i x σ H hx hP => ?_) fun σ H hP => ?_⟩)⟩
        · obtain ⟨d, hd, rd⟩ := item_of t hx
          exact forP_turn (sv := .d d) (by rw [List.getElem?_map, hd]; rfl) (fun W n hl hn => RelD.le hl rd) hP
        · obtain ⟨W, v, S, hn, hl, a, o⟩ := hP
          rw [List.drop_of_length_le (by rw [List.length_map, t.length]; exact Nat.le_refl _)] at o
          exact OutS.here o a
    · rename_i ks xs S2 hf
      obtain ⟨n2, w2, k2⟩ := freeze_ok (K := X.K) (cl := cl) hf
      obtain ⟨W2, e2, l2, r2, q2⟩ := k2 W1 H1 v a1.rel q1
      have g2 : Gr F.b S1 S2 := ⟨Nat.le_of_eq n2.symm, fun b _ => w2 b⟩
      have a2 := a1.on g2 l2 r2
      have o2 := OutS.rebase o1 g2 l2
      cases q2 with
      | @dic ad hob _ _ vs h c l t =>
        have lz : (ks.zip vs).length = ks.length := by rw [List.length_zip, ← t.length, ← l.1, Nat.min_self]
        have kz : ∀ {i k v}, (ks.zip vs)[i]? = some (k, v) → ks[i]? = some k := fun {i k v} e => (List.getElem?_zip_eq_some.mp e).1
        have kk : ∀ {i k} {G : Hp}, ks[i]? = some k → RelD X.K cl G (keyD k) (kV k) := fun {i k G} e => by
          have := List.all_eq_true.mp l.2 k (List.mem_of_getElem? e)
          cases k with
          | inl i => exact .int i
          | inr s => exact .str s this
        have body : ∀ W3 H3 o, W3.G ad = some (.frz o (.dK (ks.zip vs))) → At X.K cl W3 F S2 σ H3 → Le S2.length W2 W3 → ∃ Wf : Nat → Nat → St → Hp → Prop, (∃ m, Wf 0 m σ H3) ∧ ∀ i m σ H, Wf i m σ H →
            ((Itk ad o (ks.zip vs)).stop i H ∧ D.nx σ H) ∨ ((Itk ad o (ks.zip vs)).go i H ∧ ∃ N : St → Hp → Prop, (∀ σ' H', N σ' H' → ∃ m', m' < m ∧ Wf (i + 1) m' σ' H') ∧ ∀ x H', (Itk ad o (ks.zip vs)).yld i H x H' → RG X cl tg x σ H' fun σ2 H2 => RS X cl Wx fb { D with nx := N, ct := N, bk := D.nx } σ2 H2) := by
          intro W3 H3 o g3 a3 l3
          refine for_itk (ForP X cl Wx D F.b W3 S2.length tg fb (ks.map keyS)) ⟨W3, F.v, S2, Nat.le_refl _, .refl _ _, a3, OutS.rebase o2 (.refl _ _) l3⟩ (fun i σ H _ ⟨W, v, S, hn, hl, a, _⟩ => ?_) (fun i k v σ H hx hP => ?_) fun σ H hP => ?_
          · obtain ⟨o', e', s'⟩ := hl.g _ _ g3
            rcases s' with rfl | ⟨_, _, z, _⟩
            · exact a.rel.fz _ _ e'
            · cases z
          · exact forP_turn (sv := keyS k) (by rw [List.getElem?_map, kz hx]; rfl) (fun W n hl hn => kk (kz hx)) hP
          · obtain ⟨W, v, S, hn, hl, a, o⟩ := hP
            rw [List.drop_of_length_le (by rw [List.length_map, lz]; exact Nat.le_refl _)] at o
            exact OutS.here o a
        refine ⟨_, rfl, .inr (.inr ?_)⟩
        cases hob <;> first
          | (cases c
             refine .inr ⟨_, r2.fz _ _ h, fun o => ?_⟩
             obtain ⟨r3, l3⟩ := r2.pin h o S2.length
             exact body _ _ o upd_same (a2.on (.refl _ _) l3 r3) l3)
          | (rename_i ob u
             have c' : u = .dK (ks.zip vs) := c
             subst c'
             exact .inl ⟨_, ob, r2.fz _ _ h, body W2 H1 ob h a2 (.refl _ _)⟩)
          | (cases c)
    · exact o1.elim
/-- over range(lo, hi) -/
def rng (lo : Int) (n : Nat) : List SV := (List.range n).map fun (i : Nat) => .d (.int (lo + (i : Int)))
def small62 (i : Int) : Bool := decide (-4611686018427387904 ≤ i) && decide (i < 4611686018427387904)
def sForR (fa : Fr → Sto → Res (List SV)) (tg : Tg) (body : Fr → Sto → SRes) : Fr → Sto → SRes := fun F S => (fa F S).st F fun as S1 => match as with
  | [.d (.int n)] => if small62 n = true then forL tg body F.b (rng 0 n.toNat) F.v S1 else .bad
  | _ => .bad
def sForR2 (fa : Fr → Sto → Res (List SV)) (tg : Tg) (body : Fr → Sto → SRes) : Fr → Sto → SRes := fun F S => (fa F S).st F fun as S1 => match as with
  | [.d (.int m), .d (.int n)] => if (small62 m && small62 n) = true then forL tg body F.b (rng m (n - m).toNat) F.v S1 else .bad
  | _ => .bad
theorem rng_at {lo : Int} {n i : Nat} (h : i < n) : (rng lo n)[i]? = some (.d (.int (lo + i))) := by
  unfold rng
  rw [List.getElem?_map, List.getElem?_range h]
  rfl
theorem rng_len (lo : Int) (n : Nat) : (rng lo n).length = n := by unfold rng; rw [List.length_map, List.length_range]
theorem RA.ofS {fa : Fr → Sto → Res (List SV)} {k : List SV → Sto → SRes} {Q' : List V → Hp → Prop} (a : At X.K cl W F S σ H) (h : OutS X.K cl Wx D F.b W S ((fa F S).st F k))
    (kk : ∀ W1 S1 x v H1, Gr F.b S S1 → Le S.length W W1 → At X.K cl W1 F S1 σ H1 → Paired (RelSV X.K cl W1 S1.length) x v → OutS X.K cl Wx D F.b W1 S1 (k x S1) → Q' v H1) : RA X cl Wx fa σ H Q' := by
  refine ⟨W, F, S, a, ?_⟩
  cases hr : fa F S with
  | ok x S1 =>
    rw [hr] at h
    exact fun W1 H1 v g1 l1 r1 q1 => kk W1 S1 x v H1 g1 l1 (a.on g1 l1 r1) q1 (OutS.rebase h g1 l1)
  | ex ec S1 =>
    rw [hr] at h
    exact fun W1 H1 c d g1 l1 r1 q1 => h W1 σ H1 c d g1 l1 (a.on g1 l1 r1) q1
  | bad => rw [hr] at h; exact h
theorem range_turns {g : TG} {tb : TS} {lo : Int} {n : Nat} {tg : Tg} {fb : Fr → Sto → SRes} (a1 : At X.K cl W F S σ H) (o1 : OutS X.K cl Wx D F.b W S (forL tg fb F.b (rng lo n) F.v S)) (hg : g = RG X cl tg) (hb : tb = RS X cl Wx fb) :
    ∃ Wn : Nat → Nat → St → Hp → Prop, (∃ m, Wn 0 m σ H) ∧ ∀ i m σ H, Wn i m σ H →
      ((Itr lo n).stop i H ∧ D.nx σ H) ∨ ((Itr lo n).go i H ∧ ∃ N : St → Hp → Prop, (∀ σ' H', N σ' H' → ∃ m', m' < m ∧ Wn (i + 1) m' σ' H') ∧ ∀ x H', (Itr lo n).yld i H x H' → g x σ H' fun σ2 H2 => tb { D with nx := N, ct := N, bk := D.nx } σ2 H2) := by
  subst hg hb
  refine for_range (ForP X cl Wx D F.b W S.length tg fb (rng lo n)) ⟨W, F.v, S, Nat.le_refl _, .refl _ _, a1, o1⟩ (fun i σ H hi hP => forP_turn (rng_at hi) (fun _ _ _ _ => RelD.int _) hP) fun σ H hP => ?_
  obtain ⟨W, v, S, hn, hl, a, o⟩ := hP
  rw [List.drop_of_length_le (by rw [rng_len]; exact Nat.le_refl _)] at o
  exact OutS.here o a
theorem sv_forR1 {ea tgt : Expr} {p pc : Pos} {body : List Stmt} {tg : Tg} {fa : Fr → Sto → Res (List SV)} {fb : Fr → Sto → SRes} (hp : PassesOwn (model X.prog X.w) X.A X.env X.xe) (hc : X.calm = true) (hgl : Gl X "range") (hm : X.mg "range" = none) (ha : PA X [ea] (RA X cl Wx fa)) (hg : PG X tgt (RG X cl tg)) (hb : PSs X body (RS X cl Wx fb))
    (hs : starEach [ea] X.env = [(false, eval ea X.env)] := by rfl) : PS X (.For tgt (.Call (.Name "range" p) [ea] [] pc) body [] pos) (RS X cl Wx (sForR fa tg fb)) :=
  PS.weak (ps_for hp hc (pi_range1 hgl hm ha hs) hg hb) fun D σ H ⟨W, F, S, a, o⟩ => by
    refine RA.ofS a o fun W1 S1 as vs H1 g1 l1 a1 q1 o1 => ?_
    split at o1
    · split at o1
      · rename_i n hn
        simp only [small62, Bool.and_eq_true, decide_eq_true_eq] at hn
        match vs, q1 with
        | [v], .cons q .nil =>
          cases q
          exact ⟨n, rfl, by omega, by omega, range_turns a1 o1 rfl rfl⟩
      · exact o1.elim
    · exact o1.elim
theorem sv_forR2 {ea eb tgt : Expr} {p pc : Pos} {body : List Stmt} {tg : Tg} {fa : Fr → Sto → Res (List SV)} {fb : Fr → Sto → SRes} (hp : PassesOwn (model X.prog X.w) X.A X.env X.xe) (hc : X.calm = true) (hgl : Gl X "range") (hm : X.mg "range" = none) (ha : PA X [ea, eb] (RA X cl Wx fa)) (hg : PG X tgt (RG X cl tg)) (hb : PSs X body (RS X cl Wx fb))
    (hs : starEach [ea, eb] X.env = [(false, eval ea X.env), (false, eval eb X.env)] := by rfl) (hs2 : starEach [eb] X.env = [(false, eval eb X.env)] := by rfl) : PS X (.For tgt (.Call (.Name "range" p) [ea, eb] [] pc) body [] pos) (RS X cl Wx (sForR2 fa tg fb)) :=
  PS.weak (ps_for hp hc (pi_range2 hgl hm ha hs hs2) hg hb) fun D σ H ⟨W, F, S, a, o⟩ => by
    refine RA.ofS a o fun W1 S1 as vs H1 g1 l1 a1 q1 o1 => ?_
    split at o1
    · split at o1
      · rename_i m n hn
        simp only [small62, Bool.and_eq_true, decide_eq_true_eq] at hn
        match vs, q1 with
        | [v, u], .cons q (.cons q' .nil) =>
          cases q
          cases q'
          exact ⟨m, n, rfl, by omega, range_turns a1 o1 rfl rfl⟩
      · exact o1.elim
    · exact o1.elim
end
end Ev

set_option Elab.async false
set_option linter.all false
set_option maxRecDepth 100000
/-! Ev10: stores into things, while, unpacking; a def's body. -/
namespace Ev
open PySem L2

/-! ### o[i] = e -/
def hasK (k : Key) (ks : List Key) : Bool := ks.any fun a => decide (a = k)
def dPut (k : Key) (x : SV) (ks : List Key) (xs : List SV) : List Key × List SV := if hasK k ks = true then (ks, List.zipWith (fun a y => if a = k then x else y) ks xs) else (ks ++ [k], xs ++ [x])
def putIx (b : Nat) (S : Sto) (o i x : SV) : Option Sto := match o with
  | .m j => match S[j]? with
    | some (.lst xs) => match view S i with
      | some (.int k) => match ixN xs.length k with
        | some n => if okIn b j x = true then some (S.set j (.lst (xs.set n x))) else none
        | none => none
      | _ => none
    | some (.dic ks xs) => match view S i with
      | some kd => match kOf kd with
        | some k => if okIn b j x = true ∧ ks.length < most then some (S.set j (.dic (dPut k x ks xs).1 (dPut k x ks xs).2)) else none
        | none => none
      | none => none
    | _ => none
  | _ => none
section
variable {K : PySem.W.Frag} {cl : Nat → Addr} {W : Wd} {n : Nat}
theorem paired_set {α β : Type} {R : α → β → Prop} {x : α} {y : β} (r : R x y) : ∀ {xs : List α} {ys : List β} (i : Nat), Paired R xs ys → Paired R (xs.set i x) (ys.set i y)
  | _, _, _, .nil => .nil
  | _, _, 0, .cons _ t => .cons r t
  | _, _, i + 1, .cons q t => .cons q (paired_set r i t)
theorem paired_zw {k : Key} {x : SV} {v : V} (r : RelSV K cl W n x v) : ∀ {ks : List Key} {xs : List SV} {vs : List V}, Paired (RelSV K cl W n) xs vs → Paired (RelSV K cl W n) (List.zipWith (fun a y => if a = k then x else y) ks xs) (List.zipWith (fun a y => if a = k then v else y) ks vs)
  | [], _, _, _ => by simp only [List.zipWith_nil_left]; exact .nil
  | _ :: _, _, _, .nil => by simp only [List.zipWith_nil_right]; exact .nil
  | a :: ks, _, _, .cons q t => by
    simp only [List.zipWith_cons_cons]
    refine .cons ?_ (paired_zw r t)
    by_cases h : a = k
    · rw [if_pos h, if_pos h]; exact r
    · rw [if_neg h, if_neg h]; exact q
theorem put_zip {k : Key} {v : V} : ∀ {ks : List Key} {vs : List V}, ks.length = vs.length → putK (ks.zip vs) k v = if hasK k ks = true then ks.zip (List.zipWith (fun a y => if a = k then v else y) ks vs) else (ks ++ [k]).zip (vs ++ [v]) := by
  intro ks vs l
  have hany : ∀ {ks : List Key} {vs : List V}, ks.length = vs.length → ((ks.zip vs).any fun kv => decide (kv.1 = k)) = hasK k ks := by
    intro ks
    induction ks with
    | nil => intro vs _; rfl
    | cons a ks ih =>
      intro vs l
      cases vs with
      | nil => cases l
      | cons y vs =>
        rw [List.zip_cons_cons, List.any_cons, ih (Nat.succ.inj l)]
        rfl
  have hmap : ∀ {ks : List Key} {vs : List V}, (ks.zip vs).map (fun kv => if kv.1 = k then (kv.1, v) else kv) = ks.zip (List.zipWith (fun a y => if a = k then v else y) ks vs) := by
    intro ks
    induction ks with
    | nil => intro vs; rfl
    | cons a ks ih =>
      intro vs
      cases vs with
      | nil => rfl
      | cons y vs =>
        simp only [List.zip_cons_cons, List.map_cons, List.zipWith_cons_cons]
        rw [ih]
        congr 1
        by_cases h : a = k
        · rw [if_pos h, if_pos h]
        · rw [if_neg h, if_neg h]
  unfold putK
  rw [hany l]
  by_cases h : hasK k ks = true
  · rw [if_pos h, if_pos h, hmap]
  · rw [if_neg h, if_neg h, List.zip_append l]
    rfl
end
theorem key_ok {K : PySem.W.Frag} {cl : Nat → Addr} {W : Wd} {S : Sto} {H : Hp} {b : SV} {y : V} {k : Dv} {kk : Key} (r : Rel K cl W S H) (eb : view S b = some k) (rb : RelSV K cl W S.length b y) (e : kOf k = some kk) : keyOk kk = true := by
  cases k <;> first | (cases e; done) | skip
  · cases e; rfl
  · cases e; exact (view_str r eb rb).2
def RSet (X : Cx) (cl : Nat → Addr) : TSet := fun o i v H Q => ∃ W S a k x b S', b ≤ S.length ∧ Rel X.K cl W S H ∧ RelSV X.K cl W S.length a o ∧ RelSV X.K cl W S.length k i ∧ RelSV X.K cl W S.length x v ∧ putIx b S a k x = some S' ∧
  ∀ H', Gr b S S' → Rel X.K cl W S' H' → Q H'
theorem PSet.or {X : Cx} {t t' : TSet} (h : PSet X t) (h' : PSet X t') : PSet X (fun o i v H Q => t o i v H Q ∨ t' o i v H Q) := by
  intro pins s σ H o i v ov iv u Q I h1 h2 h3 q
  rcases q with q | q
  · exact h pins s σ H o i v ov iv u Q I h1 h2 h3 q
  · exact h' pins s σ H o i v ov iv u Q I h1 h2 h3 q
theorem PSet.weak {X : Cx} {t t' : TSet} (h : PSet X t) (k : ∀ o i v H Q, t' o i v H Q → t o i v H Q) : PSet X t' := by
  intro pins s σ H o i v ov iv u Q I h1 h2 h3 q
  exact h pins s σ H o i v ov iv u Q I h1 h2 h3 (k _ _ _ _ _ q)
theorem zw_len {α β γ : Type} {f : α → β → γ} {xs : List α} {ys : List β} (h : xs.length = ys.length) : xs.length = (List.zipWith f xs ys).length := by
  rw [List.length_zipWith, ← h, Nat.min_self]
theorem mem_zw {k : Key} {x y : SV} : ∀ {ks : List Key} {xs : List SV}, y ∈ List.zipWith (fun a z => if a = k then x else z) ks xs → y = x ∨ y ∈ xs
  | [], _, h => by simp at h
  | _ :: _, [], h => by simp at h
  | a :: ks, z :: xs, h => by
    rw [List.zipWith_cons_cons] at h
    rcases List.mem_cons.mp h with h | h
    · by_cases e : a = k
      · rw [if_pos e] at h; exact .inl h
      · rw [if_neg e] at h; exact .inr (by rw [h]; exact List.mem_cons_self ..)
    · exact (mem_zw h).imp id (List.mem_cons_of_mem _)
theorem ov_setIx {X : Cx} {cl : Nat → Addr} (hu : X.A.units + 1 < cLine) : PSet X (RSet X cl) := PSet.weak (PSet.or (set_list (X := X)) (set_dict hu)) fun o i v H Q ⟨W, S, a, k, x, b, S', hb, r, ra, rk, rx, e, q⟩ => by
  unfold putIx at e
  split at e
  · rename_i j
    obtain ⟨_, rfl⟩ := ra
    split at e
    · rename_i xs hx
      obtain ⟨g0, vs, h1, h2⟩ := r.st j _ hx
      split at e
      · rename_i kk ek
        split at e
        · rename_i m hm
          split at e
          · rename_i hok
            cases e
            refine .inl ⟨_, vs, kk, m, rfl, view_int r ek rk, h1, by rw [← PySem.Paired.length h2]; exact hm, q _ (.set fun b' hb' w hi y hy => ?_) (r.set hx rfl ⟨g0, _, upd_same, paired_set rx m h2⟩)⟩
            rcases List.mem_or_eq_of_mem_set hy with hy | rfl
            · exact w j _ hi hx y hy
            · exact okIn_below hok hb' hi
          · cases e
        · cases e
      · cases e
    · rename_i ks xs hx
      obtain ⟨g0, vs, h1, l1, h2⟩ := r.st j _ hx
      split at e
      · rename_i kd ekd
        split at e
        · rename_i kk ek
          split at e
          · rename_i hok
            cases e
            have lv : ks.length = vs.length := l1.1.trans (PySem.Paired.length h2)
            have ko : keyOk kk = true := key_ok r ekd rk ek
            have lz : (ks.zip vs).length = ks.length := by rw [List.length_zip, ← lv, Nat.min_self]
            refine .inr ⟨_, _, rfl, .inl ⟨_, kk, h1, key_rel r ekd rk ek, by rw [lz]; exact hok.2, rfl⟩, ?_⟩
            rw [put_zip lv]
            unfold dPut at q
            by_cases hm : hasK kk ks = true
            · simp only [if_pos hm] at q ⊢
              refine q _ (.set fun b' hb' w hi y hy => ?_) (r.set hx rfl ⟨g0, _, upd_same, ⟨zw_len l1.1, l1.2⟩, paired_zw rx h2⟩)
              rcases mem_zw hy with rfl | hy
              · exact okIn_below hok.1 hb' hi
              · exact w j _ hi hx y hy
            · simp only [if_neg hm] at q ⊢
              refine q _ (.set fun b' hb' w hi y hy => ?_) (r.set hx rfl ⟨g0, _, upd_same, ⟨by rw [List.length_append, List.length_append, l1.1]; rfl, by rw [List.all_append, l1.2]; simp [ko]⟩, paired_snoc h2 rx⟩)
              rcases List.mem_append.mp hy with hy | hy
              · exact w j _ hi hx y hy
              · cases List.mem_singleton.mp hy
                exact okIn_below hok.1 hb' hi
          · cases e
        · cases e
      · cases e
    · cases e
  · cases e
section
variable {X : Cx} {cl : CL} {Wx : WX} {e eo ei : Expr} {fe fo fi : Fr → Sto → Res SV} {t : Fr → Sto → Res Bool} {fb : Fr → Sto → SRes} {pos pos' : Pos} {D : Ends} {W : Wd} {F : Fr} {S : Sto} {σ : St} {H : Hp}
def sSub (fo fi fe : Fr → Sto → Res SV) : Fr → Sto → SRes := fun F S => (fe F S).st F fun x S1 => (fo F S1).st F fun o S2 => (fi F S2).st F fun i S3 => match putIx F.b S3 o i x with
  | some S4 => .nx F.v S4
  | none => .bad
theorem sv_sub (hu : X.A.units + 1 < cLine) (ho : PE X eo (RE X cl Wx fo)) (hi : PE X ei (RE X cl Wx fi)) (he : PE X e (RE X cl Wx fe))
    (hs : swapsWithSole [.Subscript eo ei pos'] e pos.line X.env = pure false := by rfl) (hw : swappedStores [.Subscript eo ei pos'] e X.env = pure none := by rfl)
    (h1 : (assignEach [.Subscript eo ei pos'] X.env).map (·.2) = [assign (.Subscript eo ei pos') X.env] := by rfl)
    (ha : ∀ v, assign (.Subscript eo ei pos') X.env v = (do
      let ov ← holding [v] (eval eo X.env)
      let iv ← holding [v, ov] (eval ei X.env)
      standAt pos'
      holding [v, ov, iv] (setItem ov iv v)
      release [v, ov, iv] []) := by exact fun _ => rfl) : PS X (.Assign [.Subscript eo ei pos'] e pos) (RS X cl Wx (sSub fo fi fe)) :=
  PS.weak (ps_asg he (pg_sub ho hi (ov_setIx (cl := cl) hu) ha) hs hw h1) fun D σ H ⟨W, F, S, a, o⟩ => by
    refine RE.ofS a o fun W1 S1 x v H1 g1 l1 a1 q1 o1 => ?_
    refine RE.ofS a1 o1 fun W2 S2 y u H2 g2 l2 a2 q2 o2 => ?_
    refine RE.ofS a2 o2 fun W3 S3 z w H3 g3 l3 a3 q3 o3 => ?_
    split at o3
    · rename_i S4 hp
      exact ⟨W3, S3, y, z, x, F.b, S4, a3.b, a3.rel, RelSV.le l3 g3.len q2, q3, RelSV.le (l2.trans l3 g2.len) (Nat.le_trans g2.len g3.len) q1, hp,
        fun H' g r => o3 W3 σ H' g (.refl _ _) (a3.on g (.refl _ _) r)⟩
    · exact o3.elim

/-! ### o.f = e -/
def putX (nm : Str) (x : SV) : List Str → List SV → List Str × List SV
  | g :: fs, y :: xs => if g = nm then (g :: fs, x :: xs) else (g :: (putX nm x fs xs).1, y :: (putX nm x fs xs).2)
  | _, _ => ([nm], [x])
theorem putX_rel {K : PySem.W.Frag} {n : Nat} {nm : Str} {x : SV} {v : V} (r : RelSV K cl W n x v) : ∀ {fs : List Str} {xs : List SV} {vs : List V}, fs.length = xs.length → Paired (RelSV K cl W n) xs vs →
    ∃ ws, putF nm v (fs.zip vs) = (putX nm x fs xs).1.zip ws ∧ (putX nm x fs xs).1.length = (putX nm x fs xs).2.length ∧ Paired (RelSV K cl W n) (putX nm x fs xs).2 ws
  | [], [], [], _, .nil => ⟨[v], rfl, rfl, .cons r .nil⟩
  | g :: fs, y :: xs, u :: vs, l, .cons q t => by
    obtain ⟨ws, h1, h2, h3⟩ := putX_rel r (Nat.succ.inj l) t
    unfold putX
    rw [List.zip_cons_cons]
    unfold putF
    by_cases h : g = nm
    · simp only [if_pos h]
      exact ⟨v :: vs, rfl, by simpa using l, .cons r t⟩
    · simp only [if_neg h]
      exact ⟨u :: ws, by rw [h1, List.zip_cons_cons], by simp [h2], .cons q h3⟩
  | [], _ :: _, _, l, _ => by cases l
  | _ :: _, [], _, l, _ => by cases l
theorem putX_mem {nm : Str} {x z : SV} : ∀ {fs : List Str} {xs : List SV}, z ∈ (putX nm x fs xs).2 → z = x ∨ z ∈ xs
  | [], _, h => by simp [putX] at h; exact .inl h
  | _ :: _, [], h => by simp [putX] at h; exact .inl h
  | g :: fs, y :: xs, h => by
    unfold putX at h
    by_cases e : g = nm
    · simp only [if_pos e] at h
      rcases List.mem_cons.mp h with h | h
      · exact .inl h
      · exact .inr (List.mem_cons_of_mem _ h)
    · simp only [if_neg e] at h
      rcases List.mem_cons.mp h with h | h
      · exact .inr (by rw [h]; exact List.mem_cons_self ..)
      · exact (putX_mem h).imp id (List.mem_cons_of_mem _)
def sAttr (cs : List Nat) (nm : Str) (fo fe : Fr → Sto → Res SV) : Fr → Sto → SRes := fun F S => (fe F S).st F fun x S1 => (fo F S1).st F fun o S2 => match o with
  | .m j => match S2[j]? with
    | some (.ins c fs xs) => if cs.contains c = true ∧ fs.length < 1000 ∧ okIn F.b j x = true then .nx F.v (S2.set j (.ins c (putX nm x fs xs).1 (putX nm x fs xs).2)) else .bad
    | _ => .bad
  | _ => .bad
theorem sv_attr {cs : List Nat} {nm : Str} (hc : ∀ c, c ∈ cs → Cls X.K (cl c) ∧ NoAttr X.K (cl c) nm) (ho : PE X eo (RE X cl Wx fo)) (he : PE X e (RE X cl Wx fe)) (hs : swapsWith e (some (.Attribute eo nm pos')) pos.line X.env = pure false := by rfl) :
    PS X (.Assign [.Attribute eo nm pos'] e pos) (RS X cl Wx (sAttr cs nm fo fe)) :=
  PS.weak (ps_fld ho he hs) fun D σ H ⟨W, F, S, a, o⟩ => by
    refine RE.ofS a o fun W1 S1 x v H1 g1 l1 a1 q1 o1 => ?_
    refine RE.ofS a1 o1 fun W2 S2 y u H2 g2 l2 a2 q2 o2 => ?_
    split at o2
    · rename_i j
      split at o2
      · rename_i c fs xs hx
        split at o2
        · rename_i hcc
          obtain ⟨h1, h2, h3⟩ := hcc
          obtain ⟨_, rfl⟩ := q2
          obtain ⟨g0, vs, dx, k1, k2, k3⟩ := a2.rel.st j _ hx
          obtain ⟨c1, c2⟩ := hc c (by simpa using h1)
          have q1' := RelSV.le l2 g2.len q1
          obtain ⟨ws, m1, m2, m3⟩ := putX_rel (nm := nm) q1' k2 k3
          have lz : (fs.zip vs).length = fs.length := by rw [List.length_zip, ← PySem.Paired.length k3, ← k2, Nat.min_self]
          refine ⟨_, cl c, dx, _, rfl, k1, c1, c2, by rw [lz]; exact h2, ?_⟩
          rw [m1]
          have gr : Gr F.b S2 (S2.set j (.ins c (putX nm x fs xs).1 (putX nm x fs xs).2)) := .set fun b' hb' w hi z hz => by
            rcases putX_mem hz with rfl | hz
            · exact okIn_below h3 hb' hi
            · exact w j _ hi hx z hz
          exact o2 W2 σ _ gr (.refl _ _) (a2.on gr (.refl _ _) (a2.rel.set hx rfl ⟨g0, ws, dx, upd_same, m2, m3⟩))
        · exact o2.elim
      · exact o2.elim
    · exact o2.elim

/-! ### x op= e -/
def sAug (i : Nat) (o : Sto → SV → SV → Option Dv) (fe : Fr → Sto → Res SV) : Fr → Sto → SRes := fun F S => match F.v[i]? with
  | some (some x) => (fe F S).st F fun y S1 => match o S1 x y with
    | some z => .nx (F.put i (.d z)) S1
    | none => .bad
  | _ => .bad
theorem sv_aug (i : Nat) {x : Str} {op : Operator} {o : Sto → SV → SV → Option Dv} (ho : OpR X (inplaceOp op) (ROp X cl o)) (he : PE X e (RE X cl Wx fe)) (hN : X.N.Nodup) (hi : X.N[i]? = some x := by rfl) (hx : Loc X.env.scope x := by first | exact Or.inl rfl | exact Or.inr rfl)
    (hf : X.fn x = true ∨ X.env.scope.names.lookup x = some .local := by first | exact .inl rfl | exact .inr rfl) : PS X (.AugAssign (.Name x pos') op e pos) (RS X cl Wx (sAug i o fe)) :=
  PS.weak (ps_aug (ti := ROp X cl o) hN hi hx he ho hf) fun D σ H ⟨W, F, S, a, o⟩ => by
    unfold sAug at o
    split at o
    · rename_i sv esv
      obtain ⟨v, e1, r1⟩ := a.env.get i sv esv
      refine ⟨v, e1, RE.ofS a o fun W1 S1 y u H1 g1 l1 a1 q1 o1 => ?_⟩
      split at o1
      · rename_i z hz
        exact ⟨W1, S1, sv, y, z, a1.rel, RelSV.le l1 g1.len r1, q1, hz, fun W' H' v' l r q => o1 W' _ H' (.refl _ _) l ((a1.on (.refl _ _) l r).put i q)⟩
      · exact o1.elim
    · exact o.elim
def opIAdd (S : Sto) (a b : SV) : Option Dv := match view S a, view S b with
  | some (.int i), some (.int j) => some (.int (i + j))
  | some (.str i), some (.str j) => if i.length + j.length ≤ most then some (.str (i ++ j)) else none
  | _, _ => none
theorem ov_iadd : OpR X (inplaceOp .Add) (ROp X cl opIAdd) := OpR.weak ((iop_add (X := X)).or iop_add_str) fun x y H Q ⟨W, S, a, b, z, r, ra, rb, e, k⟩ => by
  unfold opIAdd at e
  split at e
  · rename_i i j ea eb
    cases e
    exact .inl ⟨i, j, view_int r ea ra, view_int r eb rb, k W H _ (.refl _ _) r (.int _)⟩
  · rename_i i j ea eb
    split at e
    · rename_i hm
      cases e
      obtain ⟨e1, k1⟩ := view_str r ea ra
      obtain ⟨e2, k2⟩ := view_str r eb rb
      exact .inr ⟨i, j, e1, e2, hm, k W H _ (.refl _ _) r (.str _ (strOk_add k1 k2))⟩
    · cases e
  · cases e
theorem ov_isub : OpR X (inplaceOp .Sub) (ROp X cl opSub) := ov_int (rI_of iop_sub) (fun _ _ _ => trivial) fun _ _ _ i j => .int _

/-! ### while -/
def whl (t : Fr → Sto → Res Bool) (body : Fr → Sto → SRes) (b : Nat) : Nat → Env → Sto → SRes
  | 0, _, _ => .bad
  | k + 1, v, S => (t ⟨b, v⟩ S).st ⟨b, v⟩ fun c S1 => if c = true then (match body ⟨b, v⟩ S1 with
      | .nx v2 S2 => whl t body b k v2 S2
      | .ct v2 S2 => whl t body b k v2 S2
      | .bk v2 S2 => .nx v2 S2
      | o => o) else .nx v S1
def sWhile (n : Nat) (t : Fr → Sto → Res Bool) (body : Fr → Sto → SRes) : Fr → Sto → SRes := fun F S => whl t body F.b n F.v S
theorem sv_while (n : Nat) {c : Expr} {body : List Stmt} (hp : PassesOwn (model X.prog X.w) X.A X.env X.xe) (hc : PT X c (RT X cl Wx t)) (hb : PSs X body (RS X cl Wx fb)) : PS X (.While c body [] pos) (RS X cl Wx (sWhile n t fb)) :=
  PS.weak (ps_while hp hc hb) fun D σ H ⟨W, F, S, a, o⟩ => by
    refine ⟨fun m σ H => ∃ W v S, At X.K cl W ⟨F.b, v⟩ S σ H ∧ OutS X.K cl Wx D F.b W S (whl t fb F.b m v S), ⟨n, W, F.v, S, a, o⟩, ?_⟩
    rintro m σ H ⟨W, v, S, a, o⟩
    cases m with
    | zero => exact o.elim
    | succ m =>
      refine RT.ofS a o fun W1 S1 c H1 g1 l1 a1 o1 => ?_
      split at o1
      · rename_i hcc
        rw [if_pos hcc]
        refine ⟨fun σ' H' => ∃ W v S, At X.K cl W ⟨F.b, v⟩ S σ' H' ∧ OutS X.K cl Wx D F.b W S (whl t fb F.b m v S), fun σ' H' h => ⟨m, Nat.lt_succ_self _, h⟩, W1, ⟨F.b, v⟩, S1, a1, ?_⟩
        cases hr : fb ⟨F.b, v⟩ S1 with
        | nx v2 S2 => rw [hr] at o1; exact fun W' σ' H' g l a => ⟨W', v2, S2, a, OutS.rebase o1 g l⟩
        | ct v2 S2 => rw [hr] at o1; exact fun W' σ' H' g l a => ⟨W', v2, S2, a, OutS.rebase o1 g l⟩
        | bk v2 S2 => rw [hr] at o1; exact o1
        | rt v S2 => rw [hr] at o1; exact o1
        | ex ec v2 S2 => rw [hr] at o1; exact o1
        | bad => rw [hr] at o1; exact o1
      · rename_i hcc
        rw [if_neg hcc]
        exact OutS.here o1 a1

/-! ### a, b = e -/
def gTs : List Tg → List SV → Fr → Sto → Option Env
  | [], [], F, _ => some F.v
  | t :: ts, x :: xs, F, S => match t x F S with
    | some v1 => gTs ts xs ⟨F.b, v1⟩ S
    | none => none
  | _, _, _, _ => none
def RGs (X : Cx) (cl : CL) (tgs : List Tg) : TGs := fun vs σ H Q => ∃ W F S svs v', At X.K cl W F S σ H ∧ Paired (RelSV X.K cl W S.length) svs vs ∧ gTs tgs svs F S = some v' ∧ ∀ σ', At X.K cl W ⟨F.b, v'⟩ S σ' H → Q σ' H
theorem PGs.weak {X : Cx} {e : List Expr} {t t' : TGs} (h : PGs X e t) (k : ∀ v σ H Q, t' v σ H Q → t v σ H Q) : PGs X e t' := ⟨fun pins s σ H v u Q I r q => h.run pins s σ H v u Q I r (k v σ H Q q)⟩
theorem gvs_nil : PGs X [] (RGs X cl []) := PGs.weak pgs_nil fun vs σ H Q ⟨W, F, S, svs, v', a, p, e, k⟩ => by
  cases svs with
  | nil => cases p; cases e; exact ⟨rfl, k σ a⟩
  | cons x xs => cases e
theorem gvs_cons {te : Expr} {tes : List Expr} {tg : Tg} {tgs : List Tg} (h1 : PG X te (RG X cl tg)) (h2 : PGs X tes (RGs X cl tgs)) (hs : (assignEach (te :: tes) X.env).map (·.2) = assign te X.env :: (assignEach tes X.env).map (·.2) := by rfl) : PGs X (te :: tes) (RGs X cl (tg :: tgs)) :=
  PGs.weak (pgs_cons h1 h2 hs) fun vs σ H Q ⟨W, F, S, svs, v', a, p, e, k⟩ => by
    cases p with
    | nil => cases e
    | cons q t =>
      unfold gTs at e
      split at e
      · rename_i v1 h
        exact ⟨_, _, rfl, W, F, S, _, v1, a, q, h, fun σ1 a1 => ⟨W, ⟨F.b, v1⟩, S, _, v', a1, t, e, k⟩⟩
      · cases e
def tupOf (S : Sto) : SV → Option (List SV)
  | .d (.tup xs) => some (xs.map .d)
  | .m i => match S[i]? with
    | some (.frz (.tup xs)) => some (xs.map .d)
    | some (.tup xs) => some xs
    | _ => none
  | _ => none
theorem tup_rel {K : PySem.W.Frag} (r : Rel K cl W S H) {x : SV} {xs : List SV} {v : V} (e : tupOf S x = some xs) (q : RelSV K cl W S.length x v) : ∃ a vs, v = .ref a ∧ SqT K H a vs ∧ Paired (RelSV K cl W S.length) xs vs := by
  unfold tupOf at e
  split at e
  · cases e; cases q with
    | tup h t => exact ⟨_, _, rfl, SqT.up r.fz h, t.sv⟩
  · split at e
    · rename_i hy
      cases e
      obtain ⟨_, rfl⟩ := q
      have := r.st _ _ hy
      cases this with
      | tup h t => exact ⟨_, _, rfl, SqT.up r.fz h, t.sv⟩
    · rename_i hy
      cases e
      obtain ⟨_, rfl⟩ := q
      obtain ⟨_, vs, h1, h2⟩ := r.st _ _ hy
      exact ⟨_, vs, rfl, .of h1, h2⟩
    · cases e
  · cases e
def gUn (n : Nat) (tgs : List Tg) : Tg := fun x F S => match tupOf S x with
  | some xs => if xs.length = n then gTs tgs xs F S else none
  | none => none
theorem gv_tup {n : Nat} {es : List Expr} {k : Nat} {tgs : List Tg} (hc : X.calm = true) (h : PGs X es (RGs X cl tgs)) (hn : (assignEach es X.env).length = n := by rfl) (hst : (assignEach es X.env).findIdx? (·.1) = none := by rfl) : PG X (.Tuple es k pos) (RG X cl (gUn n tgs)) :=
  PG.weak (pg_tup hc h hn hst) fun v σ H Q ⟨W, F, S, sv, v', a, q, e, kk⟩ => by
    unfold gUn at e
    split at e
    · rename_i xs hx
      split at e
      · rename_i hl
        obtain ⟨p, vs, rfl, s1, t1⟩ := tup_rel a.rel hx q
        exact ⟨p, vs, rfl, s1, by rw [← PySem.Paired.length t1]; exact hl, W, F, S, xs, v', a, t1, e, kk⟩
      · cases e
    · cases e
def sAsg (fe : Fr → Sto → Res SV) (tg : Tg) : Fr → Sto → SRes := fun F S => (fe F S).st F fun x S1 => match tg x F S1 with
  | some v1 => .nx v1 S1
  | none => .bad
theorem sv_asg {te : Expr} {tg : Tg} (he : PE X e (RE X cl Wx fe)) (hg : PG X te (RG X cl tg)) (hs : swapsWithSole [te] e pos.line X.env = pure false := by rfl) (hw : swappedStores [te] e X.env = pure none := by rfl)
    (h1 : (assignEach [te] X.env).map (·.2) = [assign te X.env] := by rfl) : PS X (.Assign [te] e pos) (RS X cl Wx (sAsg fe tg)) :=
  PS.weak (ps_asg he hg hs hw h1) fun D σ H ⟨W, F, S, a, o⟩ => by
    refine RE.ofS a o fun W1 S1 x v H1 g1 l1 a1 q1 o1 => ?_
    split at o1
    · rename_i v1 hv
      exact ⟨W1, F, S1, x, v1, a1, q1, hv, fun σ' a' => OutS.here o1 a'⟩
    · exact o1.elim
end

/-! ### a def's body -/
def SRes.res : SRes → Res SV
  | .rt x S => .ok x S
  | .nx _ S => .ok (.d .non) S
  | .ex e _ S => .ex e S
  | _ => .bad
def runF (np nn : Nat) (body : Fr → Sto → SRes) (b : Nat) (as : List SV) (S : Sto) : Res SV := if as.length = np then (body ⟨b, as.map some ++ List.replicate (nn - np) none⟩ S).res else .bad
section
variable {K : PySem.W.Frag} {cl : Nat → Addr} {W : Wd} {S : Sto} {H : Hp} {b : Nat}
theorem env_start {as : List SV} {vs : List V} {N : List Str} (p : Paired (RelSV K cl W S.length) as vs) : EnvR K cl W S.length (as.map some ++ List.replicate (N.length - as.length) none) (L2.start N vs) := by
  have hl := PySem.Paired.length p
  refine ⟨?_, fun i sv e => ?_⟩
  · unfold L2.start
    rw [List.length_append, List.length_append, List.length_map, List.length_map, List.length_replicate, List.length_replicate, hl]
  · by_cases hi : i < as.length
    · rw [List.getElem?_append_left (by simpa using hi), List.getElem?_map] at e
      cases h : as[i]? with
      | none => rw [h] at e; cases e
      | some x =>
        rw [h] at e
        cases e
        obtain ⟨v, h1, h2⟩ := paired_get p h
        refine ⟨v, ?_, h2⟩
        unfold L2.start
        rw [List.getElem?_append_left (by rw [List.length_map, ← hl]; exact hi), List.getElem?_map, h1]
        rfl
    · rw [List.getElem?_append_right (by simpa using hi), List.getElem?_replicate] at e
      split at e <;> cases e
end
/-- what a body's rules want of where they stand -/
structure XOk (X : Cx) (Wx : WX) (k : Nat) : Prop where
  hr : Room k X.A
  tk : L2N.Takes X Wx
  hp : PassesOwn (model X.prog X.w) X.A X.env X.xe
  calm : X.calm = true
  hu : X.A.units + 200 < cLine
  hu1 : X.A.units + 1 < cLine
/-- a def by its body, errors being without context -/
theorem okN {P : Program} {w : World} {K : PySem.W.Frag} {mg : Str → Option Value} {base : Heap} {x qual : Str} {st : Stmt} {f : Addr} {fd : FuncData} {N ps : List Str} {k : Nat} {sp : Sp} (Fu : Fun K x qual st f fd) (Sc : FnScope N ps (defScope st)) (len : ∀ vs H Q E, sp vs H Q E → vs.length = ps.length)
    (hb : ∀ (cdv : Value) (A : Around) (outer : List PySem.Env) (s : Shared) (H : Hp) (vs : List V) (Q : VK) (E : XK), Room k (cxOf (L2N.CX P w) P w K mg base N qual (defScope st) f cdv A outer s H E).A → sp vs H Q E →
      ∃ t, PSs (cxOf (L2N.CX P w) P w K mg base N qual (defScope st) f cdv A outer s H E) (defBody st) t ∧ t { nx := fun _ H' => Q .non H', rt := Q } (L2.start N vs) H) : FnOk P w K mg base (L2N.CX P w) (k + 1) f fd ps sp := by
  obtain ⟨oc, od, kV, doc, pm, an, cdv, ct, osl, rfl, lk, hcd⟩ := Fu.ex
  exact fn_of lk hcd Sc len fun A outer s H vs Q E hr hsp => hb cdv A outer s H vs Q E hr hsp
/-- THE RULE: a def keeps what the evaluator says of its body -/
theorem fn_ok {P : Program} {w : World} {K : PySem.W.Frag} {mg : Str → Option Value} {base : Heap} {cl : Nat → Addr} {x qual : Str} {st : Stmt} {f : Addr} {fd : FuncData} {N ps : List Str} {k np nn : Nat} {body : Fr → Sto → SRes} (Fu : Fun K x qual st f fd) (Sc : FnScope N ps (defScope st)) (hnp : ps.length = np) (hnn : N.length = nn)
    (hbody : ∀ (cdv : Value) (A : Around) (outer : List PySem.Env) (s : Shared) (H : Hp) (E : XK), XOk (cxOf (L2N.CX P w) P w K mg base N qual (defScope st) f cdv A outer s H E) (fun c d _ H => E c d H) k →
      PSs (cxOf (L2N.CX P w) P w K mg base N qual (defScope st) f cdv A outer s H E) (defBody st) (RS (cxOf (L2N.CX P w) P w K mg base N qual (defScope st) f cdv A outer s H E) (CL.pure cl) (fun c d _ H => E c d H) body)) :
    FnOk P w K mg base (L2N.CX P w) (k + 1) f fd ps (SpR K cl (runF np nn body)) := by
  refine okN Fu Sc (fun vs H Q E ⟨W, S, as, b, hb, r, p, o⟩ => ?_) fun cdv A outer s H vs Q E hr ⟨W, S, as, b, hb, r, p, o⟩ => ?_
  · unfold runF at o
    split at o
    · rename_i hl; rw [hnp, ← hl, PySem.Paired.length p]
    · exact o.elim
  · refine ⟨_, hbody cdv A outer s H E ⟨hr, L2N.takes_of rfl rfl rfl rfl, passes_of rfl, rfl, ?_, ?_⟩, ?_⟩
    · have := hr.un
      omega
    · have := hr.un
      omega
    unfold runF at o
    split at o
    · rename_i hl
      subst hl
      refine ⟨W, ⟨b, as.map some ++ List.replicate (nn - as.length) none⟩, S, ⟨hb, r, by rw [← hnn]; exact env_start p, trivial⟩, ?_⟩
      cases hr : body ⟨b, as.map some ++ List.replicate (nn - as.length) none⟩ S with
      | nx v2 S2 => rw [hr] at o; exact fun W' σ' H' g l a => o W' H' _ g l a.rel RelD.non
      | ct v2 S2 => rw [hr] at o; exact o.elim
      | bk v2 S2 => rw [hr] at o; exact o.elim
      | rt v S2 => rw [hr] at o; exact o
      | ex ec v2 S2 => rw [hr] at o; exact fun W' σ' H' c d g l a q => o W' H' c d g l a.rel q
      | bad => rw [hr] at o; exact o
    · exact o.elim
theorem fn_bad {P : Program} {w : World} {K : PySem.W.Frag} {mg : Str → Option Value} {base : Heap} {cl : Nat → Addr} {f : Addr} {fd : FuncData} {ps : List Str} {k : Nat} {g : Nat → List SV → Sto → Res SV} (hg : ∀ b as S, g b as S = .bad) :
    FnOk P w K mg base (L2N.CX P w) k f fd ps (SpR K cl g) :=
  ⟨fun vs H Q E ⟨W, S, as, b, hb, r, p, o⟩ => by rw [hg] at o; exact o.elim, fun A outer s H args us vs Q E _ _ _ _ ⟨W, S, as, b, hb, r, p, o⟩ => by rw [hg] at o; exact o.elim⟩

/-! ### the answers of isinstance -/
def anInt : Ty → Option Bool
  | .int => some true | .bl => some true | .own _ => none | _ => some false
def anBool : Ty → Option Bool
  | .bl => some true | .own _ => none | _ => some false
def anStr : Ty → Option Bool
  | .str => some true | .own _ => none | _ => some false
def anTup : Ty → Option Bool
  | .tup => some true | .own _ => none | _ => some false
def anLst : Ty → Option Bool
  | .lst => some true | .own _ => none | _ => some false
def anDic : Ty → Option Bool
  | .dic => some true | .own _ => none | _ => some false
def anTL : Ty → Option Bool
  | .tup => some true | .lst => some true | .own _ => none | _ => some false
/-- one's own class c: others are none of it -/
def anOwn (c : Nat) : Ty → Option Bool
  | .own c' => if c' = c then some true else none
  | _ => some false
section
variable {K : PySem.W.Frag} {cl : Nat → Addr}
theorem an_int : ∀ t b, anInt t = some b → PySem.W.kitOne K (Ty.v cl t) (.type "int") = some b := by
  intro t b h
  cases t <;> first | (cases h; done) | (cases h; exact kit_ty (by decide +kernel))
theorem an_bool : ∀ t b, anBool t = some b → PySem.W.kitOne K (Ty.v cl t) (.type "bool") = some b := by
  intro t b h
  cases t <;> first | (cases h; done) | (cases h; exact kit_ty (by decide +kernel))
theorem an_str : ∀ t b, anStr t = some b → PySem.W.kitOne K (Ty.v cl t) (.type "str") = some b := by
  intro t b h
  cases t <;> first | (cases h; done) | (cases h; exact kit_ty (by decide +kernel))
theorem an_tup : ∀ t b, anTup t = some b → PySem.W.kitOne K (Ty.v cl t) (.type "tuple") = some b := by
  intro t b h
  cases t <;> first | (cases h; done) | (cases h; exact kit_ty (by decide +kernel))
theorem an_lst : ∀ t b, anLst t = some b → PySem.W.kitOne K (Ty.v cl t) (.type "list") = some b := by
  intro t b h
  cases t <;> first | (cases h; done) | (cases h; exact kit_ty (by decide +kernel))
theorem an_dic : ∀ t b, anDic t = some b → PySem.W.kitOne K (Ty.v cl t) (.type "dict") = some b := by
  intro t b h
  cases t <;> first | (cases h; done) | (cases h; exact kit_ty (by decide +kernel))
theorem an_tl : ∀ t b, anTL t = some b → PySem.W.kitAny K (Ty.v cl t) [.type "tuple", .type "list"] = some b := by
  intro t b h
  cases t with
  | own c => cases h
  | tup => cases h; exact kitAny_cons (b := true) (kit_ty (by decide +kernel)) (fun q => by cases q) fun _ => rfl
  | lst => cases h; exact kitAny_cons (b := false) (kit_ty (by decide +kernel)) (fun _ => kitAny_cons (b := true) (kit_ty (by decide +kernel)) (fun q => by cases q) fun _ => rfl) fun q => by cases q
  | _ => cases h; exact kitAny_cons (b := false) (kit_ty (by decide +kernel)) (fun _ => kitAny_cons (b := false) (kit_ty (by decide +kernel)) (fun _ => rfl) fun q => by cases q) fun q => by cases q
/-- what is known of one's own class beside the others -/
structure NotIn (K : PySem.W.Frag) (C : Addr) : Prop where
  ci : PySem.W.isClsIn K C = true
  ct : PySem.W.typeIn K (.ref C) = some (.type "type")
  non : PySem.W.subIn K (.type "NoneType") (.ref C) = some false
  bl : PySem.W.subIn K (.type "bool") (.ref C) = some false
  int : PySem.W.subIn K (.type "int") (.ref C) = some false
  str : PySem.W.subIn K (.type "str") (.ref C) = some false
  tup : PySem.W.subIn K (.type "tuple") (.ref C) = some false
  lst : PySem.W.subIn K (.type "list") (.ref C) = some false
  dic : PySem.W.subIn K (.type "dict") (.ref C) = some false
theorem NotIn.isc {C : Addr} (n : NotIn K C) : ((PySem.W.clsIn K C).isSome && PySem.W.typeIn K (.ref C) == some (.type "type")) = true := by
  have h := n.ci
  unfold PySem.W.isClsIn at h
  rw [h, n.ct]
  exact beq_self_eq_true _
theorem kit_sub {C : Addr} {T : String} {b : Bool} (hc : ((PySem.W.clsIn K C).isSome && PySem.W.typeIn K (.ref C) == some (.type "type")) = true) (h : PySem.W.subIn K (.type T) (.ref C) = some b) : PySem.W.kitOne K (.type T) (.ref C) = some b := by
  unfold PySem.W.kitOne
  rw [if_neg (by intro q; cases (beq_iff_eq.mp q))]
  show PySem.W.kitCls K (.type T) (.ref C) = some b
  unfold PySem.W.kitCls
  simp only
  rw [if_pos hc]
  exact h
theorem an_own {c : Nat} (n : NotIn K (cl c)) : ∀ t b, anOwn c t = some b → PySem.W.kitOne K (Ty.v cl t) (.ref (cl c)) = some b := by
  intro t b h
  cases t with
  | own c' =>
    unfold anOwn at h
    simp only at h
    split at h
    · rename_i e
      subst e
      cases h
      unfold PySem.W.kitOne
      exact if_pos (beq_self_eq_true _)
    · cases h
  | non => cases h; exact kit_sub n.isc n.non
  | bl => cases h; exact kit_sub n.isc n.bl
  | int => cases h; exact kit_sub n.isc n.int
  | str => cases h; exact kit_sub n.isc n.str
  | tup => cases h; exact kit_sub n.isc n.tup
  | lst => cases h; exact kit_sub n.isc n.lst
  | dic => cases h; exact kit_sub n.isc n.dic
end
theorem noOwn {K : PySem.W.Frag} {cl : Nat → Addr} {ans : Ty → Option Bool} (h : ∀ c, ans (.own c) = none) : ∀ c, (ans (.own c)).isSome = true → OwnC K (cl c) := fun c q => by rw [h c] at q; cases q
theorem oneOwn {K : PySem.W.Frag} {cl : Nat → Addr} {c : Nat} (o : OwnC K (cl c)) : ∀ c', (anOwn c (.own c')).isSome = true → OwnC K (cl c') := fun c' q => by
  unfold anOwn at q
  simp only at q
  split at q
  · rename_i e; rw [e]; exact o
  · cases q
end Ev

set_option Elab.async false
set_option linter.all false
set_option maxRecDepth 100000
/-! Ev11: some more operators; the law's end. -/
namespace Ev
open PySem L2
section
variable {X : Cx} {cl : CL}
abbrev opBor := opInt yes fun i j => .int (Builtin.bitOr i j)
theorem ov_bor : OpR X (binaryOp .BitOr) (ROp X cl opBor) := ov_int (rI_of op_or) (fun _ _ _ => trivial) fun _ _ _ i j => .int _
end
/-- what the law's def promises -/
def spL (K : PySem.W.Frag) : Sp := fun vs H Q _ => ∃ (a : Addr) (ns : List Int), vs = [.ref a] ∧ SqL K H a (ns.map V.int) ∧ ns.length ≤ 63 ∧ ∀ H', Q (.bl true) H'
theorem ints_rel {K : PySem.W.Frag} {cl : Nat → Addr} {H : Hp} : ∀ ns : List Int, RelDs K cl H (ns.map Dv.int) (ns.map V.int)
  | [] => .nil
  | n :: r => .cons (.int n) (ints_rel r)
theorem spL_imp {K : PySem.W.Frag} {cl : Nat → Addr} {g : Nat → List SV → Sto → Res SV} (h : ∀ ns : List Int, ns.length ≤ 63 → ∃ S, g 0 [.d (.lst (ns.map .int))] [] = .ok (.d (.bl true)) S) (vs : List V) (H : Hp) (Q : VK) (E : XK) (q : spL K vs H Q E) : SpR K cl g vs H Q E := by
  obtain ⟨a, ns, rfl, hS, hl, hQ⟩ := q
  obtain ⟨S, e⟩ := h ns hl
  refine ⟨⟨fun _ => 0, H, fun _ => none⟩, [], [.d (.lst (ns.map .int))], 0, Nat.le_refl _, ⟨fun _ _ q => q, fun i mo q => (by cases q), fun i j mi mj q => (by cases q), fun a o q => (by cases q)⟩, .cons (RelD.lst hS (ints_rel ns)) .nil, ?_⟩
  rw [e]
  intro W' H' v _ _ _ q
  cases q
  exact hQ H'
theorem walk_law {l : PySem.W.OpenLaw} {k : Nat} {q : Program} {loose : List Str} {XP : (Str → Option Value) → Heap → Prop} {YP : World → Heap → Prop} {d : DefRec} {K : Params → PySem.W.Frag} {x : Str} (hn : l.most = some 63) (hdf : d.params.defaults = []) (hr : Room k callerA)
    (hY : ∀ (w : World) (h : Heap), YP w h → (K w.params).In h)
    (F : ∀ (w : World) (mg : Str → Option Value) (fa : Addr) (h : Heap), (K w.params).In h → h.Ns mainGlobals mg → mg d.name = some (.ref fa) →
      ∃ fd : FuncData, (∀ (s : Shared) (u : Value), BindsTo s fd ⟨[u], []⟩ [(x, u)]) ∧ ∀ base : Heap, (K w.params).In base → base.Ns mainGlobals mg → FnOk l.prog w (K w.params) mg base (L2N.CX l.prog w) k fa fd [x] (spL (K w.params))) :
    PySem.W.WalkO q loose XP YP l.row.toRowW d [] (fun f vs => PySem.call f vs) :=
  L2.walk_of (n := 63) (k := k) (x := x) (CX := fun w => L2N.CX l.prog w) (sp := fun w => spL (K w.params)) hn (by decide) hdf hr hY F (fun _ _ a ns hl _ hS => ⟨a, ns, rfl, hS, hl, fun _ => rfl⟩) fun _ _ _ _ _ z => by
    obtain ⟨_, _, _, _, _, _, _, _, _, _, _, _, z⟩ := z
    exact z
end Ev

set_option Elab.async false
set_option linter.all false
set_option maxRecDepth 100000
/-! Ev12: reckoning with the evaluator: what simp is to unfold. No lambda stands in what is left to do. -/
namespace Ev
open PySem L2
def optD : Option Dv → Sto → Res SV
  | some z, S => .ok (.d z) S
  | none, _ => .bad
def optS : Option SV → Sto → Res SV
  | some z, S => .ok z S
  | none, _ => .bad
@[simp] theorem optD_s (z : Dv) (S : Sto) : optD (some z) S = .ok (.d z) S := Eq.trans rfl rfl
@[simp] theorem optS_s (z : SV) (S : Sto) : optS (some z) S = .ok z S := Eq.trans rfl rfl
@[simp] theorem optD_n (S : Sto) : optD none S = .bad := Eq.trans rfl rfl
@[simp] theorem optS_n (S : Sto) : optS none S = .bad := Eq.trans rfl rfl
def optV : Option Env → Sto → SRes
  | some v, S => .nx v S
  | none, _ => .bad
@[simp] theorem optV_s (v : Env) (S : Sto) : optV (some v) S = .nx v S := Eq.trans rfl rfl
def optT : Option Sto → Env → SRes
  | some S, v => .nx v S
  | none, _ => .bad
@[simp] theorem optT_s (v : Env) (S : Sto) : optT (some S) v = .nx v S := Eq.trans rfl rfl
def optM : Option (SV × Sto) → Res SV
  | some (y, S) => .ok y S
  | none => .bad
@[simp] theorem optM_s (y : SV) (S : Sto) : optM (some (y, S)) = .ok y S := Eq.trans rfl rfl

@[simp] theorem eVar_ap (i : Nat) (F : Fr) (S : Sto) : eVar i F S = (match F.v[i]? with | some (some x) => .ok x S | _ => .bad) := Eq.trans rfl rfl
@[simp] theorem eC_ap (x : Dv) (F : Fr) (S : Sto) : eC x F S = .ok (.d x) S := Eq.trans rfl rfl
@[simp] theorem aNil_ap  (F : Fr) (S : Sto) : aNil F S = .ok [] S := Eq.trans rfl rfl
def kA2 (x : SV) (r : Res (List SV)) : Res (List SV) := r.bind fun xs S2 => .ok (x :: xs) S2
@[simp] theorem kA2_ok (x : SV) (xs : (List SV)) (S2 : Sto) : kA2 x (.ok xs S2) = .ok (x :: xs) S2 := Eq.trans rfl rfl
@[simp] theorem kA2_ex (x : SV) (e : Exc) (S : Sto) : kA2 x (.ex e S) = .ex e S := Eq.trans rfl rfl
@[simp] theorem kA2_bad (x : SV) : kA2 x .bad = .bad := Eq.trans rfl rfl
def kA1 (fa : Fr → Sto → Res (List SV)) (F : Fr) (r : Res SV) : Res (List SV) := r.bind fun x S1 => kA2 x (fa F S1)
@[simp] theorem kA1_ok (fa : Fr → Sto → Res (List SV)) (F : Fr) (x : SV) (S1 : Sto) : kA1 fa F (.ok x S1) = kA2 x (fa F S1) := Eq.trans rfl rfl
@[simp] theorem kA1_ex (fa : Fr → Sto → Res (List SV)) (F : Fr) (e : Exc) (S : Sto) : kA1 fa F (.ex e S) = .ex e S := Eq.trans rfl rfl
@[simp] theorem kA1_bad (fa : Fr → Sto → Res (List SV)) (F : Fr) : kA1 fa F .bad = .bad := Eq.trans rfl rfl
@[simp] theorem aCons_ap (f : Fr → Sto → Res SV) (fa : Fr → Sto → Res (List SV)) (F : Fr) (S : Sto) : aCons f fa F S = kA1 fa F (f F S) := Eq.trans rfl rfl
def seqR (mk : List Dv → Dv) : Option (List Dv × Sto) → Res SV
  | some (ds, S2) => if ds.length ≤ most then .ok (.d (mk ds)) S2 else .bad
  | none => .bad
@[simp] theorem seqR_s (mk : List Dv → Dv) (ds : List Dv) (S2 : Sto) : seqR mk (some (ds, S2)) = if ds.length ≤ most then .ok (.d (mk ds)) S2 else .bad := Eq.trans rfl rfl
def kSq (mk : List Dv → Dv) (r : Res (List SV)) : Res SV := r.bind fun xs S1 => seqR mk (frzs S1 xs)
@[simp] theorem kSq_ok (mk : List Dv → Dv) (xs : List SV) (S1 : Sto) : kSq mk (.ok xs S1) = seqR mk (frzs S1 xs) := Eq.trans rfl rfl
@[simp] theorem kSq_ex (mk : List Dv → Dv) (e : Exc) (S : Sto) : kSq mk (.ex e S) = .ex e S := Eq.trans rfl rfl
@[simp] theorem kSq_bad (mk : List Dv → Dv) : kSq mk .bad = .bad := Eq.trans rfl rfl
@[simp] theorem eSeq_ap (mk : List Dv → Dv) (fa : Fr → Sto → Res (List SV)) (F : Fr) (S : Sto) : eSeq mk fa F S = kSq mk (fa F S) := Eq.trans rfl rfl
def kLM  (r : Res (List SV)) : Res SV := r.bind fun xs S1 => if xs.length ≤ most then .ok (.m S1.length) (S1 ++ [.lst xs]) else .bad
@[simp] theorem kLM_ok  (xs : (List SV)) (S1 : Sto) : kLM  (.ok xs S1) = if xs.length ≤ most then .ok (.m S1.length) (S1 ++ [.lst xs]) else .bad := Eq.trans rfl rfl
@[simp] theorem kLM_ex  (e : Exc) (S : Sto) : kLM  (.ex e S) = .ex e S := Eq.trans rfl rfl
@[simp] theorem kLM_bad  : kLM  .bad = .bad := Eq.trans rfl rfl
@[simp] theorem eLstM_ap (fa : Fr → Sto → Res (List SV)) (F : Fr) (S : Sto) : eLstM fa F S = kLM (fa F S) := Eq.trans rfl rfl
def kO2 (o : Sto → SV → SV → Option Dv) (x : SV) (r : Res SV) : Res SV := r.bind fun y S2 => optD (o S2 x y) S2
@[simp] theorem kO2_ok (o : Sto → SV → SV → Option Dv) (x : SV) (y : SV) (S2 : Sto) : kO2 o x (.ok y S2) = optD (o S2 x y) S2 := Eq.trans rfl rfl
@[simp] theorem kO2_ex (o : Sto → SV → SV → Option Dv) (x : SV) (e : Exc) (S : Sto) : kO2 o x (.ex e S) = .ex e S := Eq.trans rfl rfl
@[simp] theorem kO2_bad (o : Sto → SV → SV → Option Dv) (x : SV) : kO2 o x .bad = .bad := Eq.trans rfl rfl
def kO1 (o : Sto → SV → SV → Option Dv) (h : Fr → Sto → Res SV) (F : Fr) (r : Res SV) : Res SV := r.bind fun x S1 => kO2 o x (h F S1)
@[simp] theorem kO1_ok (o : Sto → SV → SV → Option Dv) (h : Fr → Sto → Res SV) (F : Fr) (x : SV) (S1 : Sto) : kO1 o h F (.ok x S1) = kO2 o x (h F S1) := Eq.trans rfl rfl
@[simp] theorem kO1_ex (o : Sto → SV → SV → Option Dv) (h : Fr → Sto → Res SV) (F : Fr) (e : Exc) (S : Sto) : kO1 o h F (.ex e S) = .ex e S := Eq.trans rfl rfl
@[simp] theorem kO1_bad (o : Sto → SV → SV → Option Dv) (h : Fr → Sto → Res SV) (F : Fr) : kO1 o h F .bad = .bad := Eq.trans rfl rfl
@[simp] theorem eOp_ap (o : Sto → SV → SV → Option Dv) (f : Fr → Sto → Res SV) (h : Fr → Sto → Res SV) (F : Fr) (S : Sto) : eOp o f h F S = kO1 o h F (f F S) := by
  show (f F S).bind _ = (f F S).bind _
  congr 1
  funext x S1
  show (h F S1).bind _ = (h F S1).bind _
  congr 1
  funext y S2
  cases o S2 x y <;> rfl
def kP2 (o : Sto → SV → SV → Option SV) (x : SV) (r : Res SV) : Res SV := r.bind fun y S2 => optS (o S2 x y) S2
@[simp] theorem kP2_ok (o : Sto → SV → SV → Option SV) (x : SV) (y : SV) (S2 : Sto) : kP2 o x (.ok y S2) = optS (o S2 x y) S2 := Eq.trans rfl rfl
@[simp] theorem kP2_ex (o : Sto → SV → SV → Option SV) (x : SV) (e : Exc) (S : Sto) : kP2 o x (.ex e S) = .ex e S := Eq.trans rfl rfl
@[simp] theorem kP2_bad (o : Sto → SV → SV → Option SV) (x : SV) : kP2 o x .bad = .bad := Eq.trans rfl rfl
def kP1 (o : Sto → SV → SV → Option SV) (h : Fr → Sto → Res SV) (F : Fr) (r : Res SV) : Res SV := r.bind fun x S1 => kP2 o x (h F S1)
@[simp] theorem kP1_ok (o : Sto → SV → SV → Option SV) (h : Fr → Sto → Res SV) (F : Fr) (x : SV) (S1 : Sto) : kP1 o h F (.ok x S1) = kP2 o x (h F S1) := Eq.trans rfl rfl
@[simp] theorem kP1_ex (o : Sto → SV → SV → Option SV) (h : Fr → Sto → Res SV) (F : Fr) (e : Exc) (S : Sto) : kP1 o h F (.ex e S) = .ex e S := Eq.trans rfl rfl
@[simp] theorem kP1_bad (o : Sto → SV → SV → Option SV) (h : Fr → Sto → Res SV) (F : Fr) : kP1 o h F .bad = .bad := Eq.trans rfl rfl
@[simp] theorem eOpS_ap (o : Sto → SV → SV → Option SV) (f : Fr → Sto → Res SV) (h : Fr → Sto → Res SV) (F : Fr) (S : Sto) : eOpS o f h F S = kP1 o h F (f F S) := by
  show (f F S).bind _ = (f F S).bind _
  congr 1
  funext x S1
  show (h F S1).bind _ = (h F S1).bind _
  congr 1
  funext y S2
  cases o S2 x y <;> rfl
def blR : SV → Sto → Res Bool
  | .d (.bl b), S => .ok b S
  | _, _ => .bad
@[simp] theorem blR_b (b : Bool) (S : Sto) : blR (.d (.bl b)) S = .ok b S := Eq.trans rfl rfl
def kV  (r : Res SV) : Res Bool := r.bind fun x S1 => blR x S1
@[simp] theorem kV_ok  (x : SV) (S1 : Sto) : kV  (.ok x S1) = blR x S1 := Eq.trans rfl rfl
@[simp] theorem kV_ex  (e : Exc) (S : Sto) : kV  (.ex e S) = .ex e S := Eq.trans rfl rfl
@[simp] theorem kV_bad  : kV  .bad = .bad := Eq.trans rfl rfl
@[simp] theorem tV_ap (f : Fr → Sto → Res SV) (F : Fr) (S : Sto) : tV f F S = kV (f F S) := by
  show (f F S).bind _ = (f F S).bind _
  congr 1
  funext x S1
  rcases x with x | x
  · cases x <;> rfl
  · rfl
def kAn (u : Fr → Sto → Res Bool) (F : Fr) (r : Res Bool) : Res Bool := r.bind fun c S1 => if c = true then u F S1 else .ok false S1
@[simp] theorem kAn_ok (u : Fr → Sto → Res Bool) (F : Fr) (c : Bool) (S1 : Sto) : kAn u F (.ok c S1) = if c = true then u F S1 else .ok false S1 := Eq.trans rfl rfl
@[simp] theorem kAn_ex (u : Fr → Sto → Res Bool) (F : Fr) (e : Exc) (S : Sto) : kAn u F (.ex e S) = .ex e S := Eq.trans rfl rfl
@[simp] theorem kAn_bad (u : Fr → Sto → Res Bool) (F : Fr) : kAn u F .bad = .bad := Eq.trans rfl rfl
@[simp] theorem tAn_ap (t : Fr → Sto → Res Bool) (u : Fr → Sto → Res Bool) (F : Fr) (S : Sto) : tAn t u F S = kAn u F (t F S) := Eq.trans rfl rfl
def kOr (u : Fr → Sto → Res Bool) (F : Fr) (r : Res Bool) : Res Bool := r.bind fun c S1 => if c = true then .ok true S1 else u F S1
@[simp] theorem kOr_ok (u : Fr → Sto → Res Bool) (F : Fr) (c : Bool) (S1 : Sto) : kOr u F (.ok c S1) = if c = true then .ok true S1 else u F S1 := Eq.trans rfl rfl
@[simp] theorem kOr_ex (u : Fr → Sto → Res Bool) (F : Fr) (e : Exc) (S : Sto) : kOr u F (.ex e S) = .ex e S := Eq.trans rfl rfl
@[simp] theorem kOr_bad (u : Fr → Sto → Res Bool) (F : Fr) : kOr u F .bad = .bad := Eq.trans rfl rfl
@[simp] theorem tOrr_ap (t : Fr → Sto → Res Bool) (u : Fr → Sto → Res Bool) (F : Fr) (S : Sto) : tOrr t u F S = kOr u F (t F S) := Eq.trans rfl rfl
def kNo  (r : Res Bool) : Res Bool := r.bind fun c S1 => .ok (!c) S1
@[simp] theorem kNo_ok  (c : Bool) (S1 : Sto) : kNo  (.ok c S1) = .ok (!c) S1 := Eq.trans rfl rfl
@[simp] theorem kNo_ex  (e : Exc) (S : Sto) : kNo  (.ex e S) = .ex e S := Eq.trans rfl rfl
@[simp] theorem kNo_bad  : kNo  .bad = .bad := Eq.trans rfl rfl
@[simp] theorem tNo_ap (t : Fr → Sto → Res Bool) (F : Fr) (S : Sto) : tNo t F S = kNo (t F S) := Eq.trans rfl rfl
def anR (g : Fr → Sto → Res SV) (F : Fr) : SV → Sto → Res SV
  | .d (.bl true), S => g F S
  | .d (.bl false), S => .ok (.d (.bl false)) S
  | _, _ => .bad
@[simp] theorem anR_b (g : Fr → Sto → Res SV) (F : Fr) (b : Bool) (S : Sto) : anR g F (.d (.bl b)) S = if b = true then g F S else .ok (.d (.bl false)) S := by cases b <;> rfl
def orR (g : Fr → Sto → Res SV) (F : Fr) : SV → Sto → Res SV
  | .d (.bl true), S => .ok (.d (.bl true)) S
  | .d (.bl false), S => g F S
  | _, _ => .bad
@[simp] theorem orR_b (g : Fr → Sto → Res SV) (F : Fr) (b : Bool) (S : Sto) : orR g F (.d (.bl b)) S = if b = true then .ok (.d (.bl true)) S else g F S := by cases b <;> rfl
def noR : SV → Sto → Res SV
  | .d (.bl b), S => .ok (.d (.bl (!b))) S
  | _, _ => .bad
@[simp] theorem noR_b (b : Bool) (S : Sto) : noR (.d (.bl b)) S = .ok (.d (.bl (!b))) S := Eq.trans rfl rfl
def kEan (g : Fr → Sto → Res SV) (F : Fr) (r : Res SV) : Res SV := r.bind (anR g F)
@[simp] theorem kEan_ok (g : Fr → Sto → Res SV) (F : Fr) (x : SV) (S : Sto) : kEan g F (.ok x S) = anR g F x S := Eq.trans rfl rfl
@[simp] theorem kEan_ex (g : Fr → Sto → Res SV) (F : Fr) (e : Exc) (S : Sto) : kEan g F (.ex e S) = .ex e S := Eq.trans rfl rfl
@[simp] theorem kEan_bad (g : Fr → Sto → Res SV) (F : Fr) : kEan g F .bad = .bad := Eq.trans rfl rfl
def kEor (g : Fr → Sto → Res SV) (F : Fr) (r : Res SV) : Res SV := r.bind (orR g F)
@[simp] theorem kEor_ok (g : Fr → Sto → Res SV) (F : Fr) (x : SV) (S : Sto) : kEor g F (.ok x S) = orR g F x S := Eq.trans rfl rfl
@[simp] theorem kEor_ex (g : Fr → Sto → Res SV) (F : Fr) (e : Exc) (S : Sto) : kEor g F (.ex e S) = .ex e S := Eq.trans rfl rfl
@[simp] theorem kEor_bad (g : Fr → Sto → Res SV) (F : Fr) : kEor g F .bad = .bad := Eq.trans rfl rfl
def kEno  (r : Res SV) : Res SV := r.bind (noR)
@[simp] theorem kEno_ok  (x : SV) (S : Sto) : kEno  (.ok x S) = noR x S := Eq.trans rfl rfl
@[simp] theorem kEno_ex  (e : Exc) (S : Sto) : kEno  (.ex e S) = .ex e S := Eq.trans rfl rfl
@[simp] theorem kEno_bad  : kEno  .bad = .bad := Eq.trans rfl rfl
@[simp] theorem eAn_ap (f : Fr → Sto → Res SV) (g : Fr → Sto → Res SV) (F : Fr) (S : Sto) : eAn f g F S = kEan g F (f F S) := by
  show (f F S).bind _ = (f F S).bind _
  congr 1
  funext x S1
  rcases x with x | x
  · cases x <;> first | rfl | (rename_i b; cases b <;> rfl)
  · rfl
@[simp] theorem eOr_ap (f : Fr → Sto → Res SV) (g : Fr → Sto → Res SV) (F : Fr) (S : Sto) : eOr f g F S = kEor g F (f F S) := by
  show (f F S).bind _ = (f F S).bind _
  congr 1
  funext x S1
  rcases x with x | x
  · cases x <;> first | rfl | (rename_i b; cases b <;> rfl)
  · rfl
@[simp] theorem eNo_ap (f : Fr → Sto → Res SV) (F : Fr) (S : Sto) : eNo f F S = kEno (f F S) := by
  show (f F S).bind _ = (f F S).bind _
  congr 1
  funext x S1
  rcases x with x | x
  · cases x <;> first | rfl | (rename_i b; cases b <;> rfl)
  · rfl
def kEif (f : Fr → Sto → Res SV) (g : Fr → Sto → Res SV) (F : Fr) (r : Res Bool) : Res SV := r.bind fun c S1 => if c = true then f F S1 else g F S1
@[simp] theorem kEif_ok (f : Fr → Sto → Res SV) (g : Fr → Sto → Res SV) (F : Fr) (c : Bool) (S1 : Sto) : kEif f g F (.ok c S1) = if c = true then f F S1 else g F S1 := Eq.trans rfl rfl
@[simp] theorem kEif_ex (f : Fr → Sto → Res SV) (g : Fr → Sto → Res SV) (F : Fr) (e : Exc) (S : Sto) : kEif f g F (.ex e S) = .ex e S := Eq.trans rfl rfl
@[simp] theorem kEif_bad (f : Fr → Sto → Res SV) (g : Fr → Sto → Res SV) (F : Fr) : kEif f g F .bad = .bad := Eq.trans rfl rfl
@[simp] theorem eIf_ap (t : Fr → Sto → Res Bool) (f : Fr → Sto → Res SV) (g : Fr → Sto → Res SV) (F : Fr) (S : Sto) : eIf t f g F S = kEif f g F (t F S) := Eq.trans rfl rfl
def kBi (o : Sto → List SV → Option Dv) (r : Res (List SV)) : Res SV := r.bind fun xs S1 => optD (o S1 xs) S1
@[simp] theorem kBi_ok (o : Sto → List SV → Option Dv) (xs : (List SV)) (S1 : Sto) : kBi o (.ok xs S1) = optD (o S1 xs) S1 := Eq.trans rfl rfl
@[simp] theorem kBi_ex (o : Sto → List SV → Option Dv) (e : Exc) (S : Sto) : kBi o (.ex e S) = .ex e S := Eq.trans rfl rfl
@[simp] theorem kBi_bad (o : Sto → List SV → Option Dv) : kBi o .bad = .bad := Eq.trans rfl rfl
@[simp] theorem eBi_ap (o : Sto → List SV → Option Dv) (fa : Fr → Sto → Res (List SV)) (F : Fr) (S : Sto) : eBi o fa F S = kBi o (fa F S) := by
  show (fa F S).bind _ = (fa F S).bind _
  congr 1
  funext xs S1
  cases o S1 xs <;> rfl
def isiR (ans : Ty → Option Bool) : Option Ty → Sto → Res SV
  | some t, S => optD ((ans t).map .bl) S
  | none, _ => .bad
@[simp] theorem isiR_s (ans : Ty → Option Bool) (t : Ty) (S : Sto) : isiR ans (some t) S = optD ((ans t).map .bl) S := Eq.trans rfl rfl
def kIsi (ans : Ty → Option Bool) (r : Res SV) : Res SV := r.bind fun x S1 => isiR ans (tyS S1 x) S1
@[simp] theorem kIsi_ok (ans : Ty → Option Bool) (x : SV) (S1 : Sto) : kIsi ans (.ok x S1) = isiR ans (tyS S1 x) S1 := Eq.trans rfl rfl
@[simp] theorem kIsi_ex (ans : Ty → Option Bool) (e : Exc) (S : Sto) : kIsi ans (.ex e S) = .ex e S := Eq.trans rfl rfl
@[simp] theorem kIsi_bad (ans : Ty → Option Bool) : kIsi ans .bad = .bad := Eq.trans rfl rfl
@[simp] theorem eIsi_ap (ans : Ty → Option Bool) (f : Fr → Sto → Res SV) (F : Fr) (S : Sto) : eIsi ans f F S = kIsi ans (f F S) := by
  show (f F S).bind _ = (f F S).bind _
  congr 1
  funext x S1
  cases h : tyS S1 x with
  | none => simp only [isiR, h]
  | some t => simp only [isiR, h]; cases ans t <;> rfl
def fldR (cs : List Nat) (nm : Str) : Option (Nat × List Str × List SV) → Sto → Res SV
  | some (c, fs, xs), S => if cs.contains c = true then optS (lookF nm fs xs) S else .bad
  | none, _ => .bad
@[simp] theorem fldR_s (cs : List Nat) (nm : Str) (c : Nat) (fs : List Str) (xs : List SV) (S : Sto) : fldR cs nm (some (c, fs, xs)) S = if cs.contains c = true then optS (lookF nm fs xs) S else .bad := Eq.trans rfl rfl
def kFld (cs : List Nat) (nm : Str) (r : Res SV) : Res SV := r.bind fun x S1 => fldR cs nm (instOf S1 x) S1
@[simp] theorem kFld_ok (cs : List Nat) (nm : Str) (x : SV) (S1 : Sto) : kFld cs nm (.ok x S1) = fldR cs nm (instOf S1 x) S1 := Eq.trans rfl rfl
@[simp] theorem kFld_ex (cs : List Nat) (nm : Str) (e : Exc) (S : Sto) : kFld cs nm (.ex e S) = .ex e S := Eq.trans rfl rfl
@[simp] theorem kFld_bad (cs : List Nat) (nm : Str) : kFld cs nm .bad = .bad := Eq.trans rfl rfl
@[simp] theorem eFld_ap (cs : List Nat) (nm : Str) (f : Fr → Sto → Res SV) (F : Fr) (S : Sto) : eFld cs nm f F S = kFld cs nm (f F S) := by
  show (f F S).bind _ = (f F S).bind _
  congr 1
  funext x S1
  cases h : instOf S1 x with
  | none => simp only [fldR, h]
  | some t =>
    obtain ⟨c, fs, xs⟩ := t
    simp only [fldR, h]
    cases lookF nm fs xs <;> rfl
/-- a call, as it is told of a def -/
def callF (g : Nat → List SV → Sto → Res SV) (as : List SV) (S : Sto) : Res SV := fin S.length (g S.length as S)
def callK (g : Nat → List SV → Sto → Res SV) (as : List SV) (S : Sto) : Res SV := finK S.length (g S.length as S)
def makF (c : Nat) (g : Nat → List SV → Sto → Res SV) (as : List SV) (S : Sto) : Res SV := fin S.length (mkd S.length (g S.length (.m S.length :: as) (S ++ [.ins c [] []])))
def makK (c : Nat) (g : Nat → List SV → Sto → Res SV) (as : List SV) (S : Sto) : Res SV := finK S.length (mkd S.length (g S.length (.m S.length :: as) (S ++ [.ins c [] []])))
def kC (gg : Nat → List SV → Sto → Res SV) (r : Res (List SV)) : Res SV := r.bind fun as S1 => fin S1.length (gg S1.length as S1)
@[simp] theorem kC_ok (gg : Nat → List SV → Sto → Res SV) (as : (List SV)) (S1 : Sto) : kC gg (.ok as S1) = callF gg as S1 := Eq.trans rfl rfl
@[simp] theorem kC_ex (gg : Nat → List SV → Sto → Res SV) (e : Exc) (S : Sto) : kC gg (.ex e S) = .ex e S := Eq.trans rfl rfl
@[simp] theorem kC_bad (gg : Nat → List SV → Sto → Res SV) : kC gg .bad = .bad := Eq.trans rfl rfl
@[simp] theorem eCall_ap (gg : Nat → List SV → Sto → Res SV) (fa : Fr → Sto → Res (List SV)) (F : Fr) (S : Sto) : eCall gg fa F S = kC gg (fa F S) := Eq.trans rfl rfl
def kCK (gg : Nat → List SV → Sto → Res SV) (r : Res (List SV)) : Res SV := r.bind fun as S1 => finK S1.length (gg S1.length as S1)
@[simp] theorem kCK_ok (gg : Nat → List SV → Sto → Res SV) (as : (List SV)) (S1 : Sto) : kCK gg (.ok as S1) = callK gg as S1 := Eq.trans rfl rfl
@[simp] theorem kCK_ex (gg : Nat → List SV → Sto → Res SV) (e : Exc) (S : Sto) : kCK gg (.ex e S) = .ex e S := Eq.trans rfl rfl
@[simp] theorem kCK_bad (gg : Nat → List SV → Sto → Res SV) : kCK gg .bad = .bad := Eq.trans rfl rfl
@[simp] theorem eCallK_ap (gg : Nat → List SV → Sto → Res SV) (fa : Fr → Sto → Res (List SV)) (F : Fr) (S : Sto) : eCallK gg fa F S = kCK gg (fa F S) := Eq.trans rfl rfl
def kM2 (gg : Nat → List SV → Sto → Res SV) (x : SV) (r : Res (List SV)) : Res SV := r.bind fun as S2 => fin S2.length (gg S2.length (x :: as) S2)
@[simp] theorem kM2_ok (gg : Nat → List SV → Sto → Res SV) (x : SV) (as : (List SV)) (S2 : Sto) : kM2 gg x (.ok as S2) = callF gg (x :: as) S2 := Eq.trans rfl rfl
@[simp] theorem kM2_ex (gg : Nat → List SV → Sto → Res SV) (x : SV) (e : Exc) (S : Sto) : kM2 gg x (.ex e S) = .ex e S := Eq.trans rfl rfl
@[simp] theorem kM2_bad (gg : Nat → List SV → Sto → Res SV) (x : SV) : kM2 gg x .bad = .bad := Eq.trans rfl rfl
def meR (c : Nat) (m : Str) (gg : Nat → List SV → Sto → Res SV) (fa : Fr → Sto → Res (List SV)) (F : Fr) (x : SV) : Option (Nat × List Str × List SV) → Sto → Res SV
  | some (c', fs, xs), S => if c' = c ∧ (lookF m fs xs).isNone = true then kM2 gg x (fa F S) else .bad
  | none, _ => .bad
@[simp] theorem meR_s (c : Nat) (m : Str) (gg : Nat → List SV → Sto → Res SV) (fa : Fr → Sto → Res (List SV)) (F : Fr) (x : SV) (c' : Nat) (fs : List Str) (xs : List SV) (S : Sto) : meR c m gg fa F x (some (c', fs, xs)) S = if c' = c ∧ (lookF m fs xs).isNone = true then kM2 gg x (fa F S) else .bad := Eq.trans rfl rfl
def kM1 (c : Nat) (m : Str) (gg : Nat → List SV → Sto → Res SV) (fa : Fr → Sto → Res (List SV)) (F : Fr) (r : Res SV) : Res SV := r.bind fun x S1 => meR c m gg fa F x (instOf S1 x) S1
@[simp] theorem kM1_ok (c : Nat) (m : Str) (gg : Nat → List SV → Sto → Res SV) (fa : Fr → Sto → Res (List SV)) (F : Fr) (x : SV) (S1 : Sto) : kM1 c m gg fa F (.ok x S1) = meR c m gg fa F x (instOf S1 x) S1 := Eq.trans rfl rfl
@[simp] theorem kM1_ex (c : Nat) (m : Str) (gg : Nat → List SV → Sto → Res SV) (fa : Fr → Sto → Res (List SV)) (F : Fr) (e : Exc) (S : Sto) : kM1 c m gg fa F (.ex e S) = .ex e S := Eq.trans rfl rfl
@[simp] theorem kM1_bad (c : Nat) (m : Str) (gg : Nat → List SV → Sto → Res SV) (fa : Fr → Sto → Res (List SV)) (F : Fr) : kM1 c m gg fa F .bad = .bad := Eq.trans rfl rfl
@[simp] theorem eMeth_ap (c : Nat) (m : Str) (gg : Nat → List SV → Sto → Res SV) (f : Fr → Sto → Res SV) (fa : Fr → Sto → Res (List SV)) (F : Fr) (S : Sto) : eMeth c m gg f fa F S = kM1 c m gg fa F (f F S) := by
  show (f F S).bind _ = (f F S).bind _
  congr 1
  funext x S1
  cases h : instOf S1 x with
  | none => simp only [meR, h]
  | some t => simp only [meR, h, kM2]
def kMk (c : Nat) (gg : Nat → List SV → Sto → Res SV) (r : Res (List SV)) : Res SV := r.bind fun as S1 => fin S1.length (mkd S1.length (gg S1.length (.m S1.length :: as) (S1 ++ [.ins c [] []])))
@[simp] theorem kMk_ok (c : Nat) (gg : Nat → List SV → Sto → Res SV) (as : (List SV)) (S1 : Sto) : kMk c gg (.ok as S1) = makF c gg as S1 := Eq.trans rfl rfl
@[simp] theorem kMk_ex (c : Nat) (gg : Nat → List SV → Sto → Res SV) (e : Exc) (S : Sto) : kMk c gg (.ex e S) = .ex e S := Eq.trans rfl rfl
@[simp] theorem kMk_bad (c : Nat) (gg : Nat → List SV → Sto → Res SV) : kMk c gg .bad = .bad := Eq.trans rfl rfl
@[simp] theorem eMake_ap (c : Nat) (gg : Nat → List SV → Sto → Res SV) (fa : Fr → Sto → Res (List SV)) (F : Fr) (S : Sto) : eMake c gg fa F S = kMk c gg (fa F S) := Eq.trans rfl rfl
def kMkK (c : Nat) (gg : Nat → List SV → Sto → Res SV) (r : Res (List SV)) : Res SV := r.bind fun as S1 => finK S1.length (mkd S1.length (gg S1.length (.m S1.length :: as) (S1 ++ [.ins c [] []])))
@[simp] theorem kMkK_ok (c : Nat) (gg : Nat → List SV → Sto → Res SV) (as : (List SV)) (S1 : Sto) : kMkK c gg (.ok as S1) = makK c gg as S1 := Eq.trans rfl rfl
@[simp] theorem kMkK_ex (c : Nat) (gg : Nat → List SV → Sto → Res SV) (e : Exc) (S : Sto) : kMkK c gg (.ex e S) = .ex e S := Eq.trans rfl rfl
@[simp] theorem kMkK_bad (c : Nat) (gg : Nat → List SV → Sto → Res SV) : kMkK c gg .bad = .bad := Eq.trans rfl rfl
@[simp] theorem eMakeK_ap (c : Nat) (gg : Nat → List SV → Sto → Res SV) (fa : Fr → Sto → Res (List SV)) (F : Fr) (S : Sto) : eMakeK c gg fa F S = kMkK c gg (fa F S) := Eq.trans rfl rfl
def owR (o : Sto → SV → SV → Option Dv) (c : Nat) (gg : Nat → List SV → Sto → Res SV) (x y : SV) (S : Sto) : Option (Nat × List Str × List SV) → Option (Nat × List Str × List SV) → Res SV
  | some (c1, _, _), some (c2, _, _) => if c1 = c ∧ c2 = c then fin S.length (gg S.length [x, y] S) else .bad
  | _, _ => optD (o S x y) S
@[simp] theorem owR_ss (o : Sto → SV → SV → Option Dv) (c : Nat) (gg : Nat → List SV → Sto → Res SV) (x y : SV) (S : Sto) (c1 c2 : Nat) (a b : List Str × List SV) : owR o c gg x y S (some (c1, a)) (some (c2, b)) = if c1 = c ∧ c2 = c then callF gg [x, y] S else .bad := Eq.trans rfl rfl
@[simp] theorem owR_n (o : Sto → SV → SV → Option Dv) (c : Nat) (gg : Nat → List SV → Sto → Res SV) (x y : SV) (S : Sto) (z : Option (Nat × List Str × List SV)) : owR o c gg x y S none z = optD (o S x y) S := Eq.trans rfl rfl
def kW2 (o : Sto → SV → SV → Option Dv) (c : Nat) (gg : Nat → List SV → Sto → Res SV) (x : SV) (r : Res SV) : Res SV := r.bind fun y S2 => owR o c gg x y S2 (instOf S2 x) (instOf S2 y)
@[simp] theorem kW2_ok (o : Sto → SV → SV → Option Dv) (c : Nat) (gg : Nat → List SV → Sto → Res SV) (x : SV) (y : SV) (S2 : Sto) : kW2 o c gg x (.ok y S2) = owR o c gg x y S2 (instOf S2 x) (instOf S2 y) := Eq.trans rfl rfl
@[simp] theorem kW2_ex (o : Sto → SV → SV → Option Dv) (c : Nat) (gg : Nat → List SV → Sto → Res SV) (x : SV) (e : Exc) (S : Sto) : kW2 o c gg x (.ex e S) = .ex e S := Eq.trans rfl rfl
@[simp] theorem kW2_bad (o : Sto → SV → SV → Option Dv) (c : Nat) (gg : Nat → List SV → Sto → Res SV) (x : SV) : kW2 o c gg x .bad = .bad := Eq.trans rfl rfl
def kW1 (o : Sto → SV → SV → Option Dv) (c : Nat) (gg : Nat → List SV → Sto → Res SV) (g : Fr → Sto → Res SV) (F : Fr) (r : Res SV) : Res SV := r.bind fun x S1 => kW2 o c gg x (g F S1)
@[simp] theorem kW1_ok (o : Sto → SV → SV → Option Dv) (c : Nat) (gg : Nat → List SV → Sto → Res SV) (g : Fr → Sto → Res SV) (F : Fr) (x : SV) (S1 : Sto) : kW1 o c gg g F (.ok x S1) = kW2 o c gg x (g F S1) := Eq.trans rfl rfl
@[simp] theorem kW1_ex (o : Sto → SV → SV → Option Dv) (c : Nat) (gg : Nat → List SV → Sto → Res SV) (g : Fr → Sto → Res SV) (F : Fr) (e : Exc) (S : Sto) : kW1 o c gg g F (.ex e S) = .ex e S := Eq.trans rfl rfl
@[simp] theorem kW1_bad (o : Sto → SV → SV → Option Dv) (c : Nat) (gg : Nat → List SV → Sto → Res SV) (g : Fr → Sto → Res SV) (F : Fr) : kW1 o c gg g F .bad = .bad := Eq.trans rfl rfl
@[simp] theorem eOwn_ap (o : Sto → SV → SV → Option Dv) (c : Nat) (gg : Nat → List SV → Sto → Res SV) (f : Fr → Sto → Res SV) (g : Fr → Sto → Res SV) (F : Fr) (S : Sto) : eOwn o c gg f g F S = kW1 o c gg g F (f F S) := by
  show (f F S).bind _ = (f F S).bind _
  congr 1
  funext x S1
  show (g F S1).bind _ = (g F S1).bind _
  congr 1
  funext y S2
  cases h : instOf S2 x with
  | none => cases instOf S2 y <;> (simp only [owR]; cases o S2 x y <;> rfl)
  | some p =>
    obtain ⟨c1, a, b⟩ := p
    cases h2 : instOf S2 y with
    | none => simp only [owR]; cases o S2 x y <;> rfl
    | some q => rfl
def kU2 (m : Nat → Sto → SV → List SV → Option (SV × Sto)) (b : Nat) (x : SV) (r : Res (List SV)) : Res SV := r.bind fun as S2 => optM (m b S2 x as)
@[simp] theorem kU2_ok (m : Nat → Sto → SV → List SV → Option (SV × Sto)) (b : Nat) (x : SV) (as : List SV) (S2 : Sto) : kU2 m b x (.ok as S2) = optM (m b S2 x as) := Eq.trans rfl rfl
@[simp] theorem kU2_ex (m : Nat → Sto → SV → List SV → Option (SV × Sto)) (b : Nat) (x : SV) (e : Exc) (S2 : Sto) : kU2 m b x (.ex e S2) = .ex e S2 := Eq.trans rfl rfl
def kU1 (m : Nat → Sto → SV → List SV → Option (SV × Sto)) (fa : Fr → Sto → Res (List SV)) (F : Fr) (r : Res SV) : Res SV := r.bind fun x S1 => if isL S1 x = true then kU2 m F.b x (fa F S1) else .bad
@[simp] theorem kU1_ok (m : Nat → Sto → SV → List SV → Option (SV × Sto)) (fa : Fr → Sto → Res (List SV)) (F : Fr) (x : SV) (S1 : Sto) : kU1 m fa F (.ok x S1) = if isL S1 x = true then kU2 m F.b x (fa F S1) else .bad := Eq.trans rfl rfl
@[simp] theorem kU1_ex (m : Nat → Sto → SV → List SV → Option (SV × Sto)) (fa : Fr → Sto → Res (List SV)) (F : Fr) (e : Exc) (S : Sto) : kU1 m fa F (.ex e S) = .ex e S := Eq.trans rfl rfl
@[simp] theorem kU1_bad (m : Nat → Sto → SV → List SV → Option (SV × Sto)) (fa : Fr → Sto → Res (List SV)) (F : Fr) : kU1 m fa F .bad = .bad := Eq.trans rfl rfl
@[simp] theorem eMut_ap (m : Nat → Sto → SV → List SV → Option (SV × Sto)) (f : Fr → Sto → Res SV) (fa : Fr → Sto → Res (List SV)) (F : Fr) (S : Sto) : eMut m f fa F S = kU1 m fa F (f F S) := Eq.trans rfl rfl
def kSeq (s' : Fr → Sto → SRes) (b : Nat) (r : SRes) : SRes := match r with
  | .nx v S => s' ⟨b, v⟩ S
  | r => r
@[simp] theorem kSeq_nx (s' : Fr → Sto → SRes) (b : Nat) (v : Env) (S : Sto) : kSeq s' b (.nx v S) = s' ⟨b, v⟩ S := Eq.trans rfl rfl
@[simp] theorem kSeq_bk (s' : Fr → Sto → SRes) (b : Nat) (v : Env) (S : Sto) : kSeq s' b (.bk v S) = .bk v S := Eq.trans rfl rfl
@[simp] theorem kSeq_ct (s' : Fr → Sto → SRes) (b : Nat) (v : Env) (S : Sto) : kSeq s' b (.ct v S) = .ct v S := Eq.trans rfl rfl
@[simp] theorem kSeq_rt (s' : Fr → Sto → SRes) (b : Nat) (v : SV) (S : Sto) : kSeq s' b (.rt v S) = .rt v S := Eq.trans rfl rfl
@[simp] theorem kSeq_ex (s' : Fr → Sto → SRes) (b : Nat) (e : Exc) (v : Env) (S : Sto) : kSeq s' b (.ex e v S) = .ex e v S := Eq.trans rfl rfl
@[simp] theorem kSeq_bad (s' : Fr → Sto → SRes) (b : Nat) : kSeq s' b .bad = .bad := Eq.trans rfl rfl
@[simp] theorem sSeq_ap (s : Fr → Sto → SRes) (s' : Fr → Sto → SRes) (F : Fr) (S : Sto) : sSeq s s' F S = kSeq s' F.b (s F S) := by
  unfold sSeq kSeq
  cases s F S <;> rfl
@[simp] theorem sNil_ap  (F : Fr) (S : Sto) : sNil F S = .nx F.v S := Eq.trans rfl rfl
@[simp] theorem sPass_ap  (F : Fr) (S : Sto) : sPass F S = .nx F.v S := Eq.trans rfl rfl
@[simp] theorem sBrk_ap  (F : Fr) (S : Sto) : sBrk F S = .bk F.v S := Eq.trans rfl rfl
@[simp] theorem sCont_ap  (F : Fr) (S : Sto) : sCont F S = .ct F.v S := Eq.trans rfl rfl
@[simp] theorem sRetN_ap  (F : Fr) (S : Sto) : sRetN F S = .rt (.d .non) S := Eq.trans rfl rfl
def kSet (i : Nat) (F : Fr) (r : Res SV) : SRes := r.st F fun x S1 => .nx (F.put i x) S1
@[simp] theorem kSet_ok (i : Nat) (F : Fr) (x : SV) (S1 : Sto) : kSet i F (.ok x S1) = .nx (F.put i x) S1 := Eq.trans rfl rfl
@[simp] theorem kSet_ex (i : Nat) (F : Fr) (e : Exc) (S : Sto) : kSet i F (.ex e S) = .ex e F.v S := Eq.trans rfl rfl
@[simp] theorem kSet_bad (i : Nat) (F : Fr) : kSet i F .bad = .bad := Eq.trans rfl rfl
@[simp] theorem sSet_ap (i : Nat) (f : Fr → Sto → Res SV) (F : Fr) (S : Sto) : sSet i f F S = kSet i F (f F S) := Eq.trans rfl rfl
@[simp] theorem put_ap (i : Nat) (x : SV) (b : Nat) (v : Env) : (Fr.mk b v).put i x = v.set i (some x) := Eq.trans rfl rfl
def kEx (F : Fr) (r : Res SV) : SRes := r.st F fun x S1 => .nx F.v S1
@[simp] theorem kEx_ok (F : Fr) (x : SV) (S1 : Sto) : kEx F (.ok x S1) = .nx F.v S1 := Eq.trans rfl rfl
@[simp] theorem kEx_ex (F : Fr) (e : Exc) (S : Sto) : kEx F (.ex e S) = .ex e F.v S := Eq.trans rfl rfl
@[simp] theorem kEx_bad (F : Fr) : kEx F .bad = .bad := Eq.trans rfl rfl
@[simp] theorem sExpr_ap (f : Fr → Sto → Res SV) (F : Fr) (S : Sto) : sExpr f F S = kEx F (f F S) := Eq.trans rfl rfl
def kRt (F : Fr) (r : Res SV) : SRes := r.st F fun x S1 => .rt x S1
@[simp] theorem kRt_ok (F : Fr) (x : SV) (S1 : Sto) : kRt F (.ok x S1) = .rt x S1 := Eq.trans rfl rfl
@[simp] theorem kRt_ex (F : Fr) (e : Exc) (S : Sto) : kRt F (.ex e S) = .ex e F.v S := Eq.trans rfl rfl
@[simp] theorem kRt_bad (F : Fr) : kRt F .bad = .bad := Eq.trans rfl rfl
@[simp] theorem sRet_ap (f : Fr → Sto → Res SV) (F : Fr) (S : Sto) : sRet f F S = kRt F (f F S) := Eq.trans rfl rfl
def kIf (s : Fr → Sto → SRes) (s' : Fr → Sto → SRes) (F : Fr) (r : Res Bool) : SRes := r.st F fun c S1 => if c = true then s F S1 else s' F S1
@[simp] theorem kIf_ok (s : Fr → Sto → SRes) (s' : Fr → Sto → SRes) (F : Fr) (c : Bool) (S1 : Sto) : kIf s s' F (.ok c S1) = if c = true then s F S1 else s' F S1 := Eq.trans rfl rfl
@[simp] theorem kIf_ex (s : Fr → Sto → SRes) (s' : Fr → Sto → SRes) (F : Fr) (e : Exc) (S : Sto) : kIf s s' F (.ex e S) = .ex e F.v S := Eq.trans rfl rfl
@[simp] theorem kIf_bad (s : Fr → Sto → SRes) (s' : Fr → Sto → SRes) (F : Fr) : kIf s s' F .bad = .bad := Eq.trans rfl rfl
@[simp] theorem sIf_ap (t : Fr → Sto → Res Bool) (s : Fr → Sto → SRes) (s' : Fr → Sto → SRes) (F : Fr) (S : Sto) : sIf t s s' F S = kIf s s' F (t F S) := Eq.trans rfl rfl
def kS3 (x o : SV) (F : Fr) (r : Res SV) : SRes := r.st F fun i S3 => optT (putIx F.b S3 o i x) F.v
@[simp] theorem kS3_ok (x o : SV) (F : Fr) (i : SV) (S3 : Sto) : kS3 x o F (.ok i S3) = optT (putIx F.b S3 o i x) F.v := Eq.trans rfl rfl
@[simp] theorem kS3_ex (x o : SV) (F : Fr) (e : Exc) (S : Sto) : kS3 x o F (.ex e S) = .ex e F.v S := Eq.trans rfl rfl
@[simp] theorem kS3_bad (x o : SV) (F : Fr) : kS3 x o F .bad = .bad := Eq.trans rfl rfl
def kS2 (g : Fr → Sto → Res SV) (x : SV) (F : Fr) (r : Res SV) : SRes := r.st F fun o S2 => kS3 x o F (g F S2)
@[simp] theorem kS2_ok (g : Fr → Sto → Res SV) (x : SV) (F : Fr) (o : SV) (S2 : Sto) : kS2 g x F (.ok o S2) = kS3 x o F (g F S2) := Eq.trans rfl rfl
@[simp] theorem kS2_ex (g : Fr → Sto → Res SV) (x : SV) (F : Fr) (e : Exc) (S : Sto) : kS2 g x F (.ex e S) = .ex e F.v S := Eq.trans rfl rfl
@[simp] theorem kS2_bad (g : Fr → Sto → Res SV) (x : SV) (F : Fr) : kS2 g x F .bad = .bad := Eq.trans rfl rfl
def kS1 (f : Fr → Sto → Res SV) (g : Fr → Sto → Res SV) (F : Fr) (r : Res SV) : SRes := r.st F fun x S1 => kS2 g x F (f F S1)
@[simp] theorem kS1_ok (f : Fr → Sto → Res SV) (g : Fr → Sto → Res SV) (F : Fr) (x : SV) (S1 : Sto) : kS1 f g F (.ok x S1) = kS2 g x F (f F S1) := Eq.trans rfl rfl
@[simp] theorem kS1_ex (f : Fr → Sto → Res SV) (g : Fr → Sto → Res SV) (F : Fr) (e : Exc) (S : Sto) : kS1 f g F (.ex e S) = .ex e F.v S := Eq.trans rfl rfl
@[simp] theorem kS1_bad (f : Fr → Sto → Res SV) (g : Fr → Sto → Res SV) (F : Fr) : kS1 f g F .bad = .bad := Eq.trans rfl rfl
@[simp] theorem sSub_ap (f : Fr → Sto → Res SV) (g : Fr → Sto → Res SV) (h : Fr → Sto → Res SV) (F : Fr) (S : Sto) : sSub f g h F S = kS1 f g F (h F S) := by
  show (h F S).st F _ = (h F S).st F _
  congr 1
  funext x S1
  show (f F S1).st F _ = (f F S1).st F _
  congr 1
  funext o S2
  show (g F S2).st F _ = (g F S2).st F _
  congr 1
  funext i S3
  cases putIx F.b S3 o i x <;> rfl
def atR (cs : List Nat) (nm : Str) (F : Fr) (x : SV) (j : Nat) (S2 : Sto) : Option MO → SRes
  | some (.ins c fs xs) => if cs.contains c = true ∧ fs.length < 1000 ∧ okIn F.b j x = true then .nx F.v (S2.set j (.ins c (putX nm x fs xs).1 (putX nm x fs xs).2)) else .bad
  | _ => .bad
@[simp] theorem atR_s (cs : List Nat) (nm : Str) (F : Fr) (x : SV) (j : Nat) (S2 : Sto) (c : Nat) (fs : List Str) (xs : List SV) :
    atR cs nm F x j S2 (some (.ins c fs xs)) = if cs.contains c = true ∧ fs.length < 1000 ∧ okIn F.b j x = true then .nx F.v (S2.set j (.ins c (putX nm x fs xs).1 (putX nm x fs xs).2)) else .bad := rfl
def atQ (cs : List Nat) (nm : Str) (F : Fr) (x : SV) (S2 : Sto) : SV → SRes
  | .m j => atR cs nm F x j S2 S2[j]?
  | _ => .bad
@[simp] theorem atQ_m (cs : List Nat) (nm : Str) (F : Fr) (x : SV) (j : Nat) (S2 : Sto) : atQ cs nm F x S2 (.m j) = atR cs nm F x j S2 S2[j]? := Eq.trans rfl rfl
def kT2 (cs : List Nat) (nm : Str) (x : SV) (F : Fr) (r : Res SV) : SRes := r.st F fun o S2 => atQ cs nm F x S2 o
@[simp] theorem kT2_ok (cs : List Nat) (nm : Str) (x : SV) (F : Fr) (o : SV) (S2 : Sto) : kT2 cs nm x F (.ok o S2) = atQ cs nm F x S2 o := Eq.trans rfl rfl
@[simp] theorem kT2_ex (cs : List Nat) (nm : Str) (x : SV) (F : Fr) (e : Exc) (S : Sto) : kT2 cs nm x F (.ex e S) = .ex e F.v S := Eq.trans rfl rfl
@[simp] theorem kT2_bad (cs : List Nat) (nm : Str) (x : SV) (F : Fr) : kT2 cs nm x F .bad = .bad := Eq.trans rfl rfl
def kT1 (cs : List Nat) (nm : Str) (f : Fr → Sto → Res SV) (F : Fr) (r : Res SV) : SRes := r.st F fun x S1 => kT2 cs nm x F (f F S1)
@[simp] theorem kT1_ok (cs : List Nat) (nm : Str) (f : Fr → Sto → Res SV) (F : Fr) (x : SV) (S1 : Sto) : kT1 cs nm f F (.ok x S1) = kT2 cs nm x F (f F S1) := Eq.trans rfl rfl
@[simp] theorem kT1_ex (cs : List Nat) (nm : Str) (f : Fr → Sto → Res SV) (F : Fr) (e : Exc) (S : Sto) : kT1 cs nm f F (.ex e S) = .ex e F.v S := Eq.trans rfl rfl
@[simp] theorem kT1_bad (cs : List Nat) (nm : Str) (f : Fr → Sto → Res SV) (F : Fr) : kT1 cs nm f F .bad = .bad := Eq.trans rfl rfl
@[simp] theorem sAttr_ap (cs : List Nat) (nm : Str) (f : Fr → Sto → Res SV) (g : Fr → Sto → Res SV) (F : Fr) (S : Sto) : sAttr cs nm f g F S = kT1 cs nm f F (g F S) := by
  show (g F S).st F _ = (g F S).st F _
  congr 1
def gR (i : Nat) (F : Fr) (S : Sto) : Option Dv → SRes
  | some z => .nx (F.put i (.d z)) S
  | none => .bad
@[simp] theorem gR_s (i : Nat) (F : Fr) (S : Sto) (z : Dv) : gR i F S (some z) = .nx (F.put i (.d z)) S := Eq.trans rfl rfl
def kG1 (i : Nat) (o : Sto → SV → SV → Option Dv) (x : SV) (F : Fr) (r : Res SV) : SRes := r.st F fun y S1 => gR i F S1 (o S1 x y)
@[simp] theorem kG1_ok (i : Nat) (o : Sto → SV → SV → Option Dv) (x : SV) (F : Fr) (y : SV) (S1 : Sto) : kG1 i o x F (.ok y S1) = gR i F S1 (o S1 x y) := Eq.trans rfl rfl
@[simp] theorem kG1_ex (i : Nat) (o : Sto → SV → SV → Option Dv) (x : SV) (F : Fr) (e : Exc) (S : Sto) : kG1 i o x F (.ex e S) = .ex e F.v S := Eq.trans rfl rfl
@[simp] theorem kG1_bad (i : Nat) (o : Sto → SV → SV → Option Dv) (x : SV) (F : Fr) : kG1 i o x F .bad = .bad := Eq.trans rfl rfl
def agR (i : Nat) (o : Sto → SV → SV → Option Dv) (f : Fr → Sto → Res SV) (F : Fr) (S : Sto) : Option (Option SV) → SRes
  | some (some x) => kG1 i o x F (f F S)
  | _ => .bad
@[simp] theorem agR_s (i : Nat) (o : Sto → SV → SV → Option Dv) (f : Fr → Sto → Res SV) (F : Fr) (S : Sto) (x : SV) : agR i o f F S (some (some x)) = kG1 i o x F (f F S) := Eq.trans rfl rfl
@[simp] theorem sAug_ap (i : Nat) (o : Sto → SV → SV → Option Dv) (f : Fr → Sto → Res SV) (F : Fr) (S : Sto) : sAug i o f F S = agR i o f F S F.v[i]? := by
  unfold sAug agR
  rcases F.v[i]? with _ | _ | x
  · rfl
  · rfl
  · show (f F S).st F _ = (f F S).st F _
    congr 1
def kAs (tg : Tg) (F : Fr) (r : Res SV) : SRes := r.st F fun x S1 => optV (tg x F S1) S1
@[simp] theorem kAs_ok (tg : Tg) (F : Fr) (x : SV) (S1 : Sto) : kAs tg F (.ok x S1) = optV (tg x F S1) S1 := Eq.trans rfl rfl
@[simp] theorem kAs_ex (tg : Tg) (F : Fr) (e : Exc) (S : Sto) : kAs tg F (.ex e S) = .ex e F.v S := Eq.trans rfl rfl
@[simp] theorem kAs_bad (tg : Tg) (F : Fr) : kAs tg F .bad = .bad := Eq.trans rfl rfl
@[simp] theorem sAsg_ap (f : Fr → Sto → Res SV) (tg : Tg) (F : Fr) (S : Sto) : sAsg f tg F S = kAs tg F (f F S) := by
  show (f F S).st F _ = (f F S).st F _
  congr 1
  funext x S1
  cases tg x F S1 <;> rfl
@[simp] theorem gNm_ap (i : Nat) (x : SV) (F : Fr) (S : Sto) : gNm i x F S = some (F.put i x) := Eq.trans rfl rfl
def unR (n : Nat) (tgs : List Tg) (F : Fr) (S : Sto) : Option (List SV) → Option Env
  | some xs => if xs.length = n then gTs tgs xs F S else none
  | none => none
@[simp] theorem unR_s (n : Nat) (tgs : List Tg) (F : Fr) (S : Sto) (xs : List SV) : unR n tgs F S (some xs) = if xs.length = n then gTs tgs xs F S else none := Eq.trans rfl rfl
@[simp] theorem gUn_ap (n : Nat) (tgs : List Tg) (x : SV) (F : Fr) (S : Sto) : gUn n tgs x F S = unR n tgs F S (tupOf S x) := by
  unfold gUn unR
  cases tupOf S x <;> rfl
def gtK (ts : List Tg) (xs : List SV) (b : Nat) (S : Sto) : Option Env → Option Env
  | some v => gTs ts xs ⟨b, v⟩ S
  | none => none
@[simp] theorem gtK_s (ts : List Tg) (xs : List SV) (b : Nat) (S : Sto) (v : Env) : gtK ts xs b S (some v) = gTs ts xs ⟨b, v⟩ S := Eq.trans rfl rfl
@[simp] theorem gTs_nil (F : Fr) (S : Sto) : gTs [] [] F S = some F.v := Eq.trans rfl rfl
@[simp] theorem gTs_cons (t : Tg) (ts : List Tg) (x : SV) (xs : List SV) (F : Fr) (S : Sto) : gTs (t :: ts) (x :: xs) F S = gtK ts xs F.b S (t x F S) := by
  show (match t x F S with | some v1 => gTs ts xs ⟨F.b, v1⟩ S | none => none) = _
  cases t x F S <;> rfl
@[simp] theorem tupOf_d (S : Sto) (xs : List Dv) : tupOf S (.d (.tup xs)) = some (xs.map .d) := Eq.trans rfl rfl
def fr1 (tg : Tg) (s : Fr → Sto → SRes) (F : Fr) (S : Sto) : List SV → SRes
  | [.d (.int n)] => if small62 n = true then forL tg s F.b (rng 0 n.toNat) F.v S else .bad
  | _ => .bad
@[simp] theorem fr1_i (tg : Tg) (s : Fr → Sto → SRes) (F : Fr) (S : Sto) (n : Int) : fr1 tg s F S [.d (.int n)] = if small62 n = true then forL tg s F.b (rng 0 n.toNat) F.v S else .bad := Eq.trans rfl rfl
def fr2 (tg : Tg) (s : Fr → Sto → SRes) (F : Fr) (S : Sto) : List SV → SRes
  | [.d (.int m), .d (.int n)] => if (small62 m && small62 n) = true then forL tg s F.b (rng m (n - m).toNat) F.v S else .bad
  | _ => .bad
@[simp] theorem fr2_i (tg : Tg) (s : Fr → Sto → SRes) (F : Fr) (S : Sto) (m n : Int) : fr2 tg s F S [.d (.int m), .d (.int n)] = if (small62 m && small62 n) = true then forL tg s F.b (rng m (n - m).toNat) F.v S else .bad := Eq.trans rfl rfl
def kF1 (tg : Tg) (s : Fr → Sto → SRes) (F : Fr) (r : Res (List SV)) : SRes := r.st F fun as S1 => fr1 tg s F S1 as
@[simp] theorem kF1_ok (tg : Tg) (s : Fr → Sto → SRes) (F : Fr) (as : (List SV)) (S1 : Sto) : kF1 tg s F (.ok as S1) = fr1 tg s F S1 as := Eq.trans rfl rfl
@[simp] theorem kF1_ex (tg : Tg) (s : Fr → Sto → SRes) (F : Fr) (e : Exc) (S : Sto) : kF1 tg s F (.ex e S) = .ex e F.v S := Eq.trans rfl rfl
@[simp] theorem kF1_bad (tg : Tg) (s : Fr → Sto → SRes) (F : Fr) : kF1 tg s F .bad = .bad := Eq.trans rfl rfl
@[simp] theorem sForR_ap (fa : Fr → Sto → Res (List SV)) (tg : Tg) (s : Fr → Sto → SRes) (F : Fr) (S : Sto) : sForR fa tg s F S = kF1 tg s F (fa F S) := Eq.trans rfl rfl
def kF2 (tg : Tg) (s : Fr → Sto → SRes) (F : Fr) (r : Res (List SV)) : SRes := r.st F fun as S1 => fr2 tg s F S1 as
@[simp] theorem kF2_ok (tg : Tg) (s : Fr → Sto → SRes) (F : Fr) (as : (List SV)) (S1 : Sto) : kF2 tg s F (.ok as S1) = fr2 tg s F S1 as := Eq.trans rfl rfl
@[simp] theorem kF2_ex (tg : Tg) (s : Fr → Sto → SRes) (F : Fr) (e : Exc) (S : Sto) : kF2 tg s F (.ex e S) = .ex e F.v S := Eq.trans rfl rfl
@[simp] theorem kF2_bad (tg : Tg) (s : Fr → Sto → SRes) (F : Fr) : kF2 tg s F .bad = .bad := Eq.trans rfl rfl
@[simp] theorem sForR2_ap (fa : Fr → Sto → Res (List SV)) (tg : Tg) (s : Fr → Sto → SRes) (F : Fr) (S : Sto) : sForR2 fa tg s F S = kF2 tg s F (fa F S) := Eq.trans rfl rfl
def frR (tg : Tg) (s : Fr → Sto → SRes) (F : Fr) : Option (Dv × Sto) → SRes
  | some (.lst xs, S2) => forL tg s F.b (xs.map .d) F.v S2
  | some (.tup xs, S2) => forL tg s F.b (xs.map .d) F.v S2
  | some (.dic ks _, S2) => forL tg s F.b (ks.map keyS) F.v S2
  | _ => .bad
@[simp] theorem frR_d (tg : Tg) (s : Fr → Sto → SRes) (F : Fr) (ks : List Key) (xs : List Dv) (S2 : Sto) : frR tg s F (some (.dic ks xs, S2)) = forL tg s F.b (ks.map keyS) F.v S2 := Eq.trans rfl rfl
@[simp] theorem frR_l (tg : Tg) (s : Fr → Sto → SRes) (F : Fr) (xs : List Dv) (S2 : Sto) : frR tg s F (some (.lst xs, S2)) = forL tg s F.b (xs.map .d) F.v S2 := Eq.trans rfl rfl
@[simp] theorem frR_t (tg : Tg) (s : Fr → Sto → SRes) (F : Fr) (xs : List Dv) (S2 : Sto) : frR tg s F (some (.tup xs, S2)) = forL tg s F.b (xs.map .d) F.v S2 := Eq.trans rfl rfl
def kFo (tg : Tg) (s : Fr → Sto → SRes) (F : Fr) (r : Res SV) : SRes := r.st F fun x S1 => frR tg s F (freeze S1 x)
@[simp] theorem kFo_ok (tg : Tg) (s : Fr → Sto → SRes) (F : Fr) (x : SV) (S1 : Sto) : kFo tg s F (.ok x S1) = frR tg s F (freeze S1 x) := Eq.trans rfl rfl
@[simp] theorem kFo_ex (tg : Tg) (s : Fr → Sto → SRes) (F : Fr) (e : Exc) (S1 : Sto) : kFo tg s F (.ex e S1) = .ex e F.v S1 := Eq.trans rfl rfl
@[simp] theorem kFo_bad (tg : Tg) (s : Fr → Sto → SRes) (F : Fr) : kFo tg s F .bad = .bad := Eq.trans rfl rfl
@[simp] theorem sFor_ap (f : Fr → Sto → Res SV) (tg : Tg) (s : Fr → Sto → SRes) (F : Fr) (S : Sto) : sFor f tg s F S = kFo tg s F (f F S) := Eq.trans rfl rfl
/-! loops, turn by turn -/
@[simp] theorem forL_nil (tg : Tg) (s : Fr → Sto → SRes) (b : Nat) (v : Env) (S : Sto) : forL tg s b [] v S = .nx v S := Eq.trans rfl rfl
def kTu (tg : Tg) (s : Fr → Sto → SRes) (b : Nat) (r : List SV) : SRes → SRes
  | .nx v2 S2 => forL tg s b r v2 S2
  | .ct v2 S2 => forL tg s b r v2 S2
  | .bk v2 S2 => .nx v2 S2
  | o => o
@[simp] theorem kTu_nx (tg : Tg) (s : Fr → Sto → SRes) (b : Nat) (r : List SV) (v : Env) (S : Sto) : kTu tg s b r (.nx v S) = forL tg s b r v S := Eq.trans rfl rfl
@[simp] theorem kTu_ct (tg : Tg) (s : Fr → Sto → SRes) (b : Nat) (r : List SV) (v : Env) (S : Sto) : kTu tg s b r (.ct v S) = forL tg s b r v S := Eq.trans rfl rfl
@[simp] theorem kTu_bk (tg : Tg) (s : Fr → Sto → SRes) (b : Nat) (r : List SV) (v : Env) (S : Sto) : kTu tg s b r (.bk v S) = .nx v S := Eq.trans rfl rfl
@[simp] theorem kTu_rt (tg : Tg) (s : Fr → Sto → SRes) (b : Nat) (r : List SV) (v : SV) (S : Sto) : kTu tg s b r (.rt v S) = .rt v S := Eq.trans rfl rfl
@[simp] theorem kTu_ex (tg : Tg) (s : Fr → Sto → SRes) (b : Nat) (r : List SV) (e : Exc) (v : Env) (S : Sto) : kTu tg s b r (.ex e v S) = .ex e v S := Eq.trans rfl rfl
def kTg (tg : Tg) (s : Fr → Sto → SRes) (b : Nat) (r : List SV) (S : Sto) : Option Env → SRes
  | some v1 => kTu tg s b r (s ⟨b, v1⟩ S)
  | none => .bad
@[simp] theorem kTg_s (tg : Tg) (s : Fr → Sto → SRes) (b : Nat) (r : List SV) (S : Sto) (v1 : Env) : kTg tg s b r S (some v1) = kTu tg s b r (s ⟨b, v1⟩ S) := Eq.trans rfl rfl
theorem forL_cons (tg : Tg) (s : Fr → Sto → SRes) (b : Nat) (x : SV) (r : List SV) (v : Env) (S : Sto) : forL tg s b (x :: r) v S = kTg tg s b r S (tg x ⟨b, v⟩ S) := by
  show (match tg x ⟨b, v⟩ S with | some v1 => _ | none => _) = _
  cases tg x ⟨b, v⟩ S with
  | none => rfl
  | some v1 =>
    show (match s ⟨b, v1⟩ S with | .nx v2 S2 => _ | .ct v2 S2 => _ | .bk v2 S2 => _ | o => o) = kTu tg s b r (s ⟨b, v1⟩ S)
    cases s ⟨b, v1⟩ S <;> rfl
/-! results -/
@[simp] theorem res_rt (x : SV) (S : Sto) : (SRes.rt x S).res = .ok x S := Eq.trans rfl rfl
@[simp] theorem res_nx (v : Env) (S : Sto) : (SRes.nx v S).res = .ok (.d .non) S := Eq.trans rfl rfl
@[simp] theorem res_ex (e : Exc) (v : Env) (S : Sto) : (SRes.ex e v S).res = .ex e S := Eq.trans rfl rfl
@[simp] theorem fin_d (n : Nat) (x : Dv) (S : Sto) : fin n (.ok (.d x) S) = .ok (.d x) (S.take n) := Eq.trans rfl rfl
@[simp] theorem fin_ex (n : Nat) (e : Exc) (S : Sto) : fin n (.ex e S) = .ex e (S.take n) := Eq.trans rfl rfl
@[simp] theorem finK_ok (n : Nat) (x : SV) (S : Sto) : finK n (.ok x S) = .ok x S := Eq.trans rfl rfl
@[simp] theorem finK_ex (n : Nat) (e : Exc) (S : Sto) : finK n (.ex e S) = .ex e (S.take n) := Eq.trans rfl rfl
@[simp] theorem mkd_ok (n : Nat) (S : Sto) : mkd n (.ok (.d .non) S) = .ok (.m n) S := Eq.trans rfl rfl
@[simp] theorem take_len (S : Sto) : S.take S.length = S := List.take_length
@[simp] theorem take_set (S : Sto) (i : Nat) (x : MO) : (S.set i x).take S.length = S.set i x := by rw [← List.length_set (as := S) (i := i) (a := x), List.take_length]
@[simp] theorem take_app (S T : Sto) : (S ++ T).take S.length = S := List.take_left' rfl
@[simp] theorem frzs_nil (S : Sto) : frzs S [] = some ([], S) := Eq.trans rfl rfl
@[simp] theorem frzs_cons (S : Sto) (x : Dv) (r : List SV) : frzs S (.d x :: r) = (match frzs S r with | some (as, S2) => some (x :: as, S2) | none => none) := Eq.trans rfl rfl
@[simp] theorem tyS_d (S : Sto) (x : Dv) : tyS S (.d x) = some x.ty := Eq.trans rfl rfl
@[simp] theorem ty_int (i : Int) : (Dv.int i).ty = .int := Eq.trans rfl rfl
@[simp] theorem ty_bl (i : Bool) : (Dv.bl i).ty = .bl := Eq.trans rfl rfl
@[simp] theorem ty_str (i : Str) : (Dv.str i).ty = .str := Eq.trans rfl rfl
@[simp] theorem ty_non : Dv.non.ty = .non := Eq.trans rfl rfl
@[simp] theorem ty_tup (i : List Dv) : (Dv.tup i).ty = .tup := Eq.trans rfl rfl
@[simp] theorem ty_lst (i : List Dv) : (Dv.lst i).ty = .lst := Eq.trans rfl rfl
@[simp] theorem ty_ins (c : Nat) (fs : List Str) (i : List Dv) : (Dv.ins c fs i).ty = .own c := Eq.trans rfl rfl
@[simp] theorem instOf_ins (S : Sto) (c : Nat) (fs : List Str) (xs : List Dv) : instOf S (.d (.ins c fs xs)) = some (c, fs, xs.map .d) := Eq.trans rfl rfl
@[simp] theorem instOf_int (S : Sto) (i : Int) : instOf S (.d (.int i)) = none := Eq.trans rfl rfl
@[simp] theorem itemsOf_tup (S : Sto) (xs : List Dv) : itemsOf S (.d (.tup xs)) = some (xs.map .d) := Eq.trans rfl rfl
@[simp] theorem itemsOf_lst (S : Sto) (xs : List Dv) : itemsOf S (.d (.lst xs)) = some (xs.map .d) := Eq.trans rfl rfl
@[simp] theorem itemsOf_str (S : Sto) (x : Str) : itemsOf S (.d (.str x)) = none := Eq.trans rfl rfl
@[simp] theorem opInt_dd (C : Int → Int → Bool) (g : Int → Int → Dv) (S : Sto) (i j : Int) : opInt C g S (.d (.int i)) (.d (.int j)) = if C i j = true then some (g i j) else none := Eq.trans rfl rfl
@[simp] theorem opAdd_ii (S : Sto) (i j : Int) : opAdd S (.d (.int i)) (.d (.int j)) = some (.int (i + j)) := Eq.trans rfl rfl
@[simp] theorem biInt_i (S : Sto) (i : Int) : biInt S [.d (.int i)] = some (.int i) := Eq.trans rfl rfl
@[simp] theorem biInt_b (S : Sto) (i : Bool) : biInt S [.d (.bl i)] = some (.int (if i then 1 else 0)) := Eq.trans rfl rfl
@[simp] theorem biAbs_i (S : Sto) (i : Int) : biAbs S [.d (.int i)] = some (.int (if i < 0 then -i else i)) := Eq.trans rfl rfl
@[simp] theorem biMax_2 (S : Sto) (i j : Int) : biMax S [.d (.int i), .d (.int j)] = some (.int (if j > i then j else i)) := Eq.trans rfl rfl
@[simp] theorem biMax_3 (S : Sto) (a b c : Int) : biMax S [.d (.int a), .d (.int b), .d (.int c)] = some (.int (if b > a then (if c > b then c else b) else (if c > a then c else a))) := Eq.trans rfl rfl
@[simp] theorem biMin_2 (S : Sto) (i j : Int) : biMin S [.d (.int i), .d (.int j)] = some (.int (if j < i then j else i)) := Eq.trans rfl rfl
@[simp] theorem biMin_3 (S : Sto) (a b c : Int) : biMin S [.d (.int a), .d (.int b), .d (.int c)] = some (.int (if b < a then (if c < b then c else b) else (if c < a then c else a))) := Eq.trans rfl rfl
@[simp] theorem biLen_t (S : Sto) (xs : List Dv) : biLen S [.d (.tup xs)] = some (.int xs.length) := by simp [biLen]
@[simp] theorem biLen_l (S : Sto) (xs : List Dv) : biLen S [.d (.lst xs)] = some (.int xs.length) := by simp [biLen]
@[simp] theorem deq_ii (i j : Int) : deq (.int i) (.int j) = some (i == j) := Eq.trans rfl rfl
@[simp] theorem deq_ss (i j : Str) : deq (.str i) (.str j) = some (i == j) := Eq.trans rfl rfl
@[simp] theorem deq_bb (i j : Bool) : deq (.bl i) (.bl j) = some (i == j) := Eq.trans rfl rfl
@[simp] theorem eqv_ts (xs : List PyData) (s : Str) : PyData.eqv (.tuple xs) (.str s) = false := by simp [PyData.eqv]
@[simp] theorem deq_ts (s : Str) (xs : List Dv) (h : Dv.flats xs = true) : deq (.tup xs) (.str s) = some false := by
  unfold deq
  simp [Dv.flat, Dv.pd, PyData.depth, PyData.eqv, h]
@[simp] theorem deq_st (s : Str) (xs : List Dv) (h : Dv.flats xs = true) : deq (.str s) (.tup xs) = some false := by
  unfold deq
  simp [Dv.flat, Dv.pd, PyData.depth, PyData.eqv, h]
@[simp] theorem opEq_dd (S : Sto) (x y : Dv) : opEq S (.d x) (.d y) = (deq x y).map .bl := Eq.trans rfl rfl
@[simp] theorem opNe_dd (S : Sto) (x y : Dv) : opNe S (.d x) (.d y) = (deq x y).map fun c => .bl (!c) := Eq.trans rfl rfl
@[simp] theorem opIsN_dd (S : Sto) (x : SV) : opIsN S x (.d .non) = some (.bl x.isNon) := Eq.trans rfl rfl
@[simp] theorem flats_nil : Dv.flats [] = true := Eq.trans rfl rfl
@[simp] theorem flats_cons (x : Dv) (r : List Dv) : Dv.flats (x :: r) = (x.flat && Dv.flats r) := Eq.trans rfl rfl
@[simp] theorem flat_int (i : Int) : (Dv.int i).flat = true := Eq.trans rfl rfl
@[simp] theorem flat_str (i : Str) : (Dv.str i).flat = true := Eq.trans rfl rfl
@[simp] theorem flat_bl (i : Bool) : (Dv.bl i).flat = true := Eq.trans rfl rfl
@[simp] theorem flat_non : Dv.non.flat = true := Eq.trans rfl rfl
@[simp] theorem flat_tup (i : List Dv) : (Dv.tup i).flat = Dv.flats i := Eq.trans rfl rfl
@[simp] theorem flat_lst (i : List Dv) : (Dv.lst i).flat = Dv.flats i := Eq.trans rfl rfl
@[simp] theorem most_pos (n : Nat) (h : n ≤ 1000) : n ≤ most := Nat.le_trans h (by decide)
/-- an item by its place -/
theorem atI_n {α : Type} (xs : List α) (i : Nat) : atI xs (i : Int) = xs[i]? := by
  unfold atI ixN
  rw [if_pos (Int.natCast_nonneg i)]
  by_cases h : i < xs.length
  · rw [if_pos (by omega)]; simp
  · rw [if_neg (by omega)]; simp [List.getElem?_eq_none_iff.mpr (Nat.le_of_not_lt h)]
@[simp] theorem atI_0 {α : Type} (xs : List α) : atI xs 0 = xs[0]? := atI_n xs 0
@[simp] theorem atI_1 {α : Type} (xs : List α) : atI xs 1 = xs[1]? := atI_n xs 1
@[simp] theorem atI_2 {α : Type} (xs : List α) : atI xs 2 = xs[2]? := atI_n xs 2
@[simp] theorem atI_3 {α : Type} (xs : List α) : atI xs 3 = xs[3]? := atI_n xs 3
@[simp] theorem atI_4 {α : Type} (xs : List α) : atI xs 4 = xs[4]? := atI_n xs 4
@[simp] theorem opIx_ti (S : Sto) (xs : List Dv) (i : Int) : opIx S (.d (.tup xs)) (.d (.int i)) = atI (xs.map .d) i := Eq.trans rfl rfl
@[simp] theorem opIx_li (S : Sto) (xs : List Dv) (i : Int) : opIx S (.d (.lst xs)) (.d (.int i)) = atI (xs.map .d) i := Eq.trans rfl rfl
@[simp] theorem ofStr_inj {a b : String} : (Str.ofString a = Str.ofString b) = (a = b) := by
  apply propext
  constructor
  · intro h
    rw [Str.ofString_eq_toList, Str.ofString_eq_toList] at h
    have h2 : a.toList.map Char.toNat = b.toList.map Char.toNat := by simpa using congrArg Str.cps h
    have h3 : a.toList = b.toList := (List.map_inj_right (fun x y e => Char.toNat_inj.mp e)).mp h2
    exact String.toList_inj.mp h3
  · intro h; rw [h]
@[simp] theorem ofStr_beq {a b : String} : (Str.ofString a == Str.ofString b) = (a == b) := by
  rw [Bool.eq_iff_iff, beq_iff_eq, beq_iff_eq, ofStr_inj]
@[simp] theorem lookF_cons {α : Type} (f a : Str) (fs : List Str) (x : α) (xs : List α) : lookF f (a :: fs) (x :: xs) = if f = a then some x else lookF f fs xs := Eq.trans rfl rfl
@[simp] theorem lookF_nil {α : Type} (f : Str) (xs : List α) : lookF f [] xs = none := by cases xs <;> rfl
@[simp] theorem putX_cons (nm : Str) (x : SV) (g : Str) (fs : List Str) (y : SV) (xs : List SV) : putX nm x (g :: fs) (y :: xs) = if g = nm then (g :: fs, x :: xs) else (g :: (putX nm x fs xs).1, y :: (putX nm x fs xs).2) := Eq.trans rfl rfl
@[simp] theorem putX_nil (nm : Str) (x : SV) : putX nm x [] [] = ([nm], [x]) := Eq.trans rfl rfl
@[simp] theorem okIn_d (b i : Nat) (x : Dv) : okIn b i (.d x) = true := Eq.trans rfl rfl
@[simp] theorem okIn_m (b i j : Nat) : okIn b i (.m j) = (decide (j ≤ i) || decide (b ≤ i)) := Eq.trans rfl rfl
theorem small62_ap (i : Int) : small62 i = (decide (-4611686018427387904 ≤ i) && decide (i < 4611686018427387904)) := rfl
@[simp] theorem rng_zero (lo : Int) : rng lo 0 = [] := Eq.trans rfl rfl
theorem rng_succ (lo : Int) (n : Nat) : rng lo (n + 1) = .d (.int lo) :: rng (lo + 1) n := by
  unfold rng
  rw [List.range_succ_eq_map, List.map_cons, List.map_map]
  congr 1
  · simp
  · apply List.map_congr_left
    intro i _
    simp only [Function.comp]
    congr 2
    push_cast
    omega
end Ev

set_option Elab.async false
set_option linter.all false
set_option maxRecDepth 100000
/-! Ev13: list comprehensions. -/
namespace Ev
open PySem L2
def noX {α : Type} : Res α → Res α
  | .ex _ _ => .bad
  | r => r
@[simp] theorem noX_ok {α : Type} (a : α) (S : Sto) : noX (.ok a S) = .ok a S := rfl
@[simp] theorem noX_bad {α : Type} : noX (.bad : Res α) = .bad := rfl
def lcPut (b : Nat) (y : SV) (S : Sto) : Option MO → Option Sto
  | some (.lst acc) => if acc.length < most then some (S.set b (.lst (acc ++ [y]))) else none
  | _ => none
/-- the turns; the new list lies at b -/
def lcL (tg : Tg) (tt : Fr → Sto → Res Bool) (te : Fr → Sto → Res SV) (b : Nat) (ve : Env) : List SV → Sto → Res SV
  | [], S => .ok (.m b) S
  | x :: r, S => match tg x ⟨b, ve⟩ S with
    | some v1 => (noX (tt ⟨b, v1⟩ S)).bind fun c S1 => if c = true then (noX (te ⟨b, v1⟩ S1)).bind fun y S2 => match lcPut b y S2 S2[b]? with
        | some S3 => lcL tg tt te b ve r S3
        | none => .bad
      else lcL tg tt te b ve r S1
    | none => .bad
def wipeE (v : Env) : List Nat → Env
  | [] => v
  | i :: r => (wipeE v r).set i none
def lcAll (fi : Nat → Res SV → Res SV) (vs : List Nat) (tg : Tg) (tt : Fr → Sto → Res Bool) (te : Fr → Sto → Res SV) (v : Env) (xs : List SV) (S : Sto) : Res SV :=
  fi S.length (lcL tg tt te S.length (wipeE v vs) xs (S ++ [.lst []]))
def lcS (fi : Nat → Res SV → Res SV) (vs : List Nat) (tg : Tg) (tt : Fr → Sto → Res Bool) (te : Fr → Sto → Res SV) (v : Env) : Option (Dv × Sto) → Res SV
  | some (.lst xs, S) => lcAll fi vs tg tt te v (xs.map .d) S
  | some (.tup xs, S) => lcAll fi vs tg tt te v (xs.map .d) S
  | some (.dic ks _, S) => lcAll fi vs tg tt te v (ks.map keyS) S
  | _ => .bad
def eLcW (fi : Nat → Res SV → Res SV) (vs : List Nat) (fe : Fr → Sto → Res SV) (tg : Tg) (tt : Fr → Sto → Res Bool) (te : Fr → Sto → Res SV) : Fr → Sto → Res SV := fun F S =>
  (fe F S).bind fun x S1 => lcS fi vs tg tt te F.v (freeze S1 x)
abbrev eLc := eLcW fin
abbrev eLcK := eLcW finK
def lcR (fi : Nat → Res SV → Res SV) (vs : List Nat) (tg : Tg) (tt : Fr → Sto → Res Bool) (te : Fr → Sto → Res SV) (v : Env) (S : Sto) : List SV → Res SV
  | [.d (.int n)] => if small62 n = true then lcAll fi vs tg tt te v (rng 0 n.toNat) S else .bad
  | _ => .bad
def lcR2 (fi : Nat → Res SV → Res SV) (vs : List Nat) (tg : Tg) (tt : Fr → Sto → Res Bool) (te : Fr → Sto → Res SV) (v : Env) (S : Sto) : List SV → Res SV
  | [.d (.int m), .d (.int n)] => if (small62 m && small62 n) = true then lcAll fi vs tg tt te v (rng m (n - m).toNat) S else .bad
  | _ => .bad
def eLcRW (fi : Nat → Res SV → Res SV) (vs : List Nat) (fa : Fr → Sto → Res (List SV)) (tg : Tg) (tt : Fr → Sto → Res Bool) (te : Fr → Sto → Res SV) : Fr → Sto → Res SV := fun F S =>
  (fa F S).bind fun as S1 => lcR fi vs tg tt te F.v S1 as
def eLcR2W (fi : Nat → Res SV → Res SV) (vs : List Nat) (fa : Fr → Sto → Res (List SV)) (tg : Tg) (tt : Fr → Sto → Res Bool) (te : Fr → Sto → Res SV) : Fr → Sto → Res SV := fun F S =>
  (fa F S).bind fun as S1 => lcR2 fi vs tg tt te F.v S1 as
abbrev eLcR := eLcRW fin
abbrev eLcRK := eLcRW finK
abbrev eLcR2 := eLcR2W fin
abbrev eLcR2K := eLcR2W finK
def WF : WX := fun _ _ _ _ => False
theorem EnvR.wipe {K : PySem.W.Frag} {cl : Nat → Addr} {W : Wd} {n : Nat} {env : Env} {σ : St} (r : EnvR K cl W n env σ) : ∀ vs, EnvR K cl W n (wipeE env vs) (L2.wipe σ vs)
  | [] => r
  | i :: vs => by
    have q := EnvR.wipe r vs
    refine ⟨by simp only [L2.wipe, wipeE, List.length_set]; exact q.len, fun j sv e => ?_⟩
    unfold wipeE at e
    unfold L2.wipe
    by_cases h : i = j
    · subst h
      rw [List.getElem?_set] at e
      split at e
      · split at e <;> cases e
      · exact absurd rfl (by assumption)
    · rw [List.getElem?_set_ne h] at e ⊢
      exact q.get j sv e
/-! targets that are the block's own -/
def RGw (X : Cx) (cl : CL) (vs : List Nat) (tg : Tg) : TG := fun v σ H Q => ∃ W F S sv v', At X.K cl W F S σ H ∧ RelSV X.K cl W S.length sv v ∧ tg sv F S = some v' ∧ ∀ σ', L2.wipe σ' vs = L2.wipe σ vs → At X.K cl W ⟨F.b, v'⟩ S σ' H → Q σ' H
def RGws (X : Cx) (cl : CL) (vs : List Nat) (tgs : List Tg) : TGs := fun ws σ H Q => ∃ W F S svs v', At X.K cl W F S σ H ∧ Paired (RelSV X.K cl W S.length) svs ws ∧ gTs tgs svs F S = some v' ∧ ∀ σ', L2.wipe σ' vs = L2.wipe σ vs → At X.K cl W ⟨F.b, v'⟩ S σ' H → Q σ' H
theorem wipe_set {σ : St} {i : Nat} {y : Option V} : ∀ vs, L2.wipe (σ.set i y) vs = (L2.wipe σ vs).set i (if i ∈ vs then none else y) ∨ L2.wipe (σ.set i y) vs = L2.wipe σ vs
  | [] => .inl (by simp [L2.wipe])
  | j :: vs => by
    unfold L2.wipe
    by_cases h : j = i
    · subst h
      refine .inr ?_
      rcases wipe_set (σ := σ) (i := j) (y := y) vs with e | e <;> rw [e]
      rw [List.set_set]
    · rcases wipe_set (σ := σ) (i := i) (y := y) vs with e | e
      · refine .inl ?_
        rw [e, List.set_comm _ _ (Ne.symm h)]
        have : (i ∈ j :: vs) ↔ i ∈ vs := by simp [Ne.symm h]
        simp only [this]
      · exact .inr (by rw [e])
theorem wipe_none {σ : St} {i : Nat} : ∀ {vs}, i ∈ vs → (L2.wipe σ vs).set i none = L2.wipe σ vs
  | j :: vs, h => by
    unfold L2.wipe
    by_cases e : j = i
    · subst e; rw [List.set_set]
    · rw [List.set_comm _ _ e, wipe_none ((List.mem_cons.mp h).resolve_left (Ne.symm e))]
theorem wipe_put {σ : St} {i : Nat} {y : Option V} {vs : List Nat} (h : i ∈ vs) : L2.wipe (σ.set i y) vs = L2.wipe σ vs := by
  rcases wipe_set (σ := σ) (i := i) (y := y) vs with e | e
  · rw [e, if_pos h, wipe_none h]
  · exact e
theorem wipe_idem {σ : St} {vs : List Nat} : L2.wipe (L2.wipe σ vs) vs = L2.wipe σ vs := by
  have : ∀ us : List Nat, (∀ i ∈ us, i ∈ vs) → L2.wipe (L2.wipe σ vs) us = L2.wipe σ vs := fun us => by
    induction us with
    | nil => intro _; rfl
    | cons j us ih =>
      intro h
      show (L2.wipe (L2.wipe σ vs) us).set j none = _
      rw [ih fun i hi => h i (List.mem_cons_of_mem _ hi)]
      exact wipe_none (h j (List.mem_cons_self ..))
  exact this vs fun _ h => h
section
variable {X : Cx} {cl : CL} {Wx : WX}
theorem gw_name (i : Nat) {x : Str} {vs : List Nat} {pos : Pos} (hN : X.N.Nodup) (hi : X.N[i]? = some x) (hx : X.env.scope.names.lookup x = some .local) (hv : i ∈ vs := by decide) : PG X (.Name x pos) (RGw X cl vs (gNm i)) :=
  PG.weak (pg_name hN hi (.inl hx) (.inr hx)) fun v σ H Q ⟨W, F, S, sv, v', a, q, e, k⟩ => by
    cases e
    exact k _ (wipe_put hv) (a.put i q)
theorem gws_nil {vs : List Nat} : PGs X [] (RGws X cl vs []) := PGs.weak pgs_nil fun ws σ H Q ⟨W, F, S, svs, v', a, p, e, k⟩ => by
  cases svs with
  | nil => cases p; cases e; exact ⟨rfl, k σ rfl a⟩
  | cons x xs => cases e
theorem gws_cons {vs : List Nat} {te : Expr} {tes : List Expr} {tg : Tg} {tgs : List Tg} (h1 : PG X te (RGw X cl vs tg)) (h2 : PGs X tes (RGws X cl vs tgs)) (hs : (assignEach (te :: tes) X.env).map (·.2) = assign te X.env :: (assignEach tes X.env).map (·.2) := by rfl) : PGs X (te :: tes) (RGws X cl vs (tg :: tgs)) :=
  PGs.weak (pgs_cons h1 h2 hs) fun ws σ H Q ⟨W, F, S, svs, v', a, p, e, k⟩ => by
    cases p with
    | nil => cases e
    | cons q t =>
      unfold gTs at e
      split at e
      · rename_i v1 h
        exact ⟨_, _, rfl, W, F, S, _, v1, a, q, h, fun σ1 w1 a1 => ⟨W, ⟨F.b, v1⟩, S, _, v', a1, t, e, fun σ2 w2 => k σ2 (w2.trans w1)⟩⟩
      · cases e
theorem gw_tup {vs : List Nat} {n : Nat} {es : List Expr} {k : Nat} {tgs : List Tg} {pos : Pos} (hc : X.calm = true) (h : PGs X es (RGws X cl vs tgs)) (hn : (assignEach es X.env).length = n := by rfl) (hst : (assignEach es X.env).findIdx? (·.1) = none := by rfl) : PG X (.Tuple es k pos) (RGw X cl vs (gUn n tgs)) :=
  PG.weak (pg_tup hc h hn hst) fun v σ H Q ⟨W, F, S, sv, v', a, q, e, kk⟩ => by
    unfold gUn at e
    split at e
    · rename_i xs hx
      split at e
      · rename_i hl
        obtain ⟨p, ws, rfl, s1, t1⟩ := tup_rel a.rel hx q
        exact ⟨p, ws, rfl, s1, by rw [← PySem.Paired.length t1]; exact hl, W, F, S, xs, v', a, t1, e, kk⟩
      · cases e
    · cases e
/-! the block's context -/
theorem lookup_keep {env : PySem.Env} {k : NameKind} (hk : k ≠ .free) : ∀ {names : List (Str × NameKind)} {x : Str}, names.lookup x = some k →
    (names.map fun (n, k) => if (k == NameKind.free && env.scope.kind == .function && env.kindOf n == some .cell) then (n, NameKind.cell) else (n, k)).lookup x = some k
  | [], _, h => by simp at h
  | (n, j) :: r, x, h => by
    rw [List.lookup_cons] at h
    simp only [List.map_cons]
    by_cases e : x == n
    · simp only [e] at h
      cases h
      have : (k == NameKind.free) = false := by cases k <;> first | rfl | exact absurd rfl hk
      simp only [this, Bool.false_and, Bool.false_eq_true, if_false, List.lookup_cons, e]
    · simp only [e] at h
      have ih := lookup_keep (env := env) hk h
      split <;> simp only [List.lookup_cons, e] <;> exact ih
theorem lookup_free {env : PySem.Env} : ∀ {names : List (Str × NameKind)} {x : Str}, names.lookup x = some .free →
    (names.map fun (n, k) => if (k == NameKind.free && env.scope.kind == .function && env.kindOf n == some .cell) then (n, NameKind.cell) else (n, k)).lookup x = some .free ∨
    (names.map fun (n, k) => if (k == NameKind.free && env.scope.kind == .function && env.kindOf n == some .cell) then (n, NameKind.cell) else (n, k)).lookup x = some .cell
  | [], _, h => by simp at h
  | (n, j) :: r, x, h => by
    rw [List.lookup_cons] at h
    simp only [List.map_cons]
    by_cases e : x == n
    · simp only [e] at h
      cases h
      split <;> simp [List.lookup_cons, e]
    · simp only [e] at h
      have ih := lookup_free (env := env) h
      split <;> simp only [List.lookup_cons, e] <;> exact ih
variable {s : Shared} {H0 : Hp} {scope : Scope} {C : Addr} {cls : List (Str × Addr)} {fp : List Addr}
abbrev Blk (X : Cx) (s : Shared) (H : Hp) (scope : Scope) (cls : List (Str × Addr)) (C : Addr) (fp : List Addr) : Cx := X.blk s H scope (compEnvC scope cls C X.env) fp
theorem blk_loc {x : Str} (h : scope.names.lookup x = some .local) : (Blk X s H0 scope cls C fp).env.scope.names.lookup x = some .local := lookup_keep (by decide) h
theorem blk_gl {x : Str} (h : scope.names.lookup x = some .globalImplicit) : Gl (Blk X s H0 scope cls C fp) x := lookup_keep (k := .globalImplicit) (by decide) h
theorem blk_vis {x : Str} (h : scope.names.lookup x = some .free) : Vis (Blk X s H0 scope cls C fp).env.scope x := by
  rcases lookup_free (env := X.env) h with e | e
  · exact .inr (.inr e)
  · exact .inr (.inl e)
theorem XOk.blk {k : Nat} (xo : XOk X Wx k) : XOk (Blk X s H0 scope cls C fp) WF k :=
  ⟨xo.hr, fun u s' ⟨a, B, sI, pins, σ, H, cls, d, e, I, nb, up, sky, na, os, ag, w⟩ => w.elim, PassesOwn.never, xo.calm, xo.hu, xo.hu1⟩

def tYs : Fr → Sto → Res Bool := fun _ S => .ok true S
theorem ptv_nil : PTs X [] (RT X cl Wx tYs) := ⟨fun pins s σ H Q I h => pts_nil.run pins s σ H Q I (by
  obtain ⟨W, F, S, a, o⟩ := h
  exact o.here a.rel rfl)⟩
theorem RE.ofN {f : Fr → Sto → Res SV} {g : SV → Sto → Res SV} {W : Wd} {F : Fr} {S : Sto} {σ σ' : St} {H : Hp} {Q Q' : VK} (a : At X.K cl W F S σ' H) (h : Out X.K cl Wx (RSV X.K cl) F.b W S σ ((noX (f F S)).bind g) Q)
    (k : ∀ W1 S1 x v H1, Gr F.b S S1 → Le S.length W W1 → At X.K cl W1 F S1 σ' H1 → RelSV X.K cl W1 S1.length x v → Out X.K cl Wx (RSV X.K cl) F.b W1 S1 σ (g x S1) Q → Q' v H1) : RE X cl WF f σ' H Q' := by
  refine ⟨W, F, S, a, ?_⟩
  cases hr : f F S with
  | ok x S1 =>
    rw [hr] at h
    exact fun W1 H1 v g1 l1 r1 q1 => k W1 S1 x v H1 g1 l1 (a.on g1 l1 r1) q1 (Out.rebase h g1 l1)
  | ex e S1 => rw [hr] at h; exact h.elim
  | bad => rw [hr] at h; exact h.elim
theorem RT.ofN {f : Fr → Sto → Res Bool} {g : Bool → Sto → Res SV} {W : Wd} {F : Fr} {S : Sto} {σ σ' : St} {H : Hp} {Q : VK} {Q' : Bool → Hp → Prop} (a : At X.K cl W F S σ' H) (h : Out X.K cl Wx (RSV X.K cl) F.b W S σ ((noX (f F S)).bind g) Q)
    (k : ∀ W1 S1 x H1, Gr F.b S S1 → Le S.length W W1 → At X.K cl W1 F S1 σ' H1 → Out X.K cl Wx (RSV X.K cl) F.b W1 S1 σ (g x S1) Q → Q' x H1) : RT X cl WF f σ' H Q' := by
  refine ⟨W, F, S, a, ?_⟩
  cases hr : f F S with
  | ok x S1 =>
    rw [hr] at h
    intro W1 H1 v g1 l1 r1 q1
    obtain rfl : v = x := q1
    exact k W1 S1 v H1 g1 l1 (a.on g1 l1 r1) (Out.rebase h g1 l1)
  | ex e S1 => rw [hr] at h; exact h.elim
  | bad => rw [hr] at h; exact h.elim
variable {W W0 : Wd} {F : Fr} {S : Sto} {σ : St} {H : Hp} {D : Addr} {Q : VK} {n0 : Nat} {vs : List Nat} {tg : Tg} {tt : Fr → Sto → Res Bool} {te : Fr → Sto → Res SV} {ve v : Env} {xs : List SV}
/-- what holds ahead of turn i -/
def LcP (X : Cx) (cl : CL) (Wx : WX) (Q : VK) (σ : St) (vs : List Nat) (n0 : Nat) (W0 : Wd) (tg : Tg) (tt : Fr → Sto → Res Bool) (te : Fr → Sto → Res SV) (ve : Env) (xs : List SV) (i : Nat) (H : Hp) : Prop :=
  ∃ W S, n0 < S.length ∧ Le (n0 + 1) W0 W ∧ At X.K (CL.pure cl) W ⟨n0, ve⟩ S (L2.wipe σ vs) H ∧ Out X.K cl Wx (RSV X.K cl) n0 W S σ (lcL tg tt te n0 ve (xs.drop i) S) Q
theorem lcP_turn {i : Nat} {x : V} {sv : SV} (hx : xs[i]? = some sv) (hD : W0.ρ n0 = D) (hq : ∀ W n, Le (n0 + 1) W0 W → n0 < n → RelSV X.K cl W n sv x) (h : LcP X cl Wx Q σ vs n0 W0 tg tt te ve xs i H) :
    RGw X (CL.pure cl) vs tg x (L2.wipe σ vs) H fun σ2 H2 => L2.wipe σ2 vs = L2.wipe σ vs ∧ RT X (CL.pure cl) WF tt σ2 H2 fun b H3 => if b = true then RE X (CL.pure cl) WF te σ2 H3 fun y H4 => ∃ acc, H4 D = some (.lst acc) ∧ acc.length < sizeLine ∧ LcP X cl Wx Q σ vs n0 W0 tg tt te ve xs (i + 1) (upd H4 D (.lst (acc ++ [y]))) else LcP X cl Wx Q σ vs n0 W0 tg tt te ve xs (i + 1) H3 := by
  obtain ⟨W, S, hn, hl, a, o⟩ := h
  have hi := (List.getElem?_eq_some_iff.mp hx).1
  have hd : xs.drop i = sv :: xs.drop (i + 1) := by
    rw [List.drop_eq_getElem_cons hi]
    congr 1
    exact (List.getElem?_eq_some_iff.mp hx).2
  rw [hd] at o
  unfold lcL at o
  have wp : ∀ {W1 : Wd} {S1 : Sto} {v1 : Env} {σ' : St} {H1 : Hp}, L2.wipe σ' vs = L2.wipe σ vs → Le S.length W W1 → S.length ≤ S1.length → At X.K (CL.pure cl) W1 ⟨n0, v1⟩ S1 σ' H1 → At X.K (CL.pure cl) W1 ⟨n0, ve⟩ S1 (L2.wipe σ vs) H1 :=
    fun _ l1 h1 a1 => ⟨a1.b, a1.rel, a.env.le l1 h1, trivial⟩
  cases ht : tg sv ⟨n0, ve⟩ S with
  | none => simp only [ht] at o; exact o.elim
  | some v1 =>
    simp only [ht] at o
    refine ⟨W, ⟨n0, ve⟩, S, sv, v1, a, hq W _ hl hn, ht, fun σ' w' a' => ⟨by rw [w']; exact wipe_idem, ?_⟩⟩
    have w2 : L2.wipe σ' vs = L2.wipe σ vs := by rw [w']; exact wipe_idem
    refine RT.ofN a' o fun W1 S1 c H1 g1 l1 a1 o1 => ?_
    by_cases hc : c = true
    · rw [if_pos hc] at o1 ⊢
      refine RE.ofN a1 o1 fun W2 S2 y yv H2 g2 l2 a2 q2 o2 => ?_
      split at o2
      · rename_i S3 hp
        unfold lcPut at hp
        split at hp
        · rename_i acc ha
          split at hp
          · rename_i hz
            cases hp
            obtain ⟨g0, us, h1, h2⟩ := a2.rel.st n0 _ ha
            have hD2 : W2.ρ n0 = D := by
              rw [l2.r n0 (Nat.lt_of_lt_of_le hn g1.len), l1.r n0 hn, hl.r n0 (Nat.lt_succ_self _), hD]
            rw [hD2] at h1 g0
            refine ⟨us, h1, by rw [← PySem.Paired.length h2]; exact hz, ?_⟩
            have r3 := a2.rel.set ha (ho := .lst (us ++ [yv])) (mo' := .lst (acc ++ [y])) rfl ⟨by rw [hD2]; exact g0, _, by rw [hD2]; exact upd_same, paired_snoc h2 q2⟩
            rw [hD2] at r3
            have g3 : Gr n0 S2 (S2.set n0 (.lst (acc ++ [y]))) := Gr.set fun b' hb' w hi => absurd hi (Nat.not_lt.mpr hb')
            have l12 := l1.trans l2 g1.len
            refine ⟨W2, S2.set n0 (.lst (acc ++ [y])), ?_, hl.trans l12 hn, ?_, Out.rebase o2 g3 (.refl _ _)⟩
            · rw [List.length_set]; exact Nat.lt_of_lt_of_le hn (Nat.le_trans g1.len g2.len)
            · refine ⟨?_, r3, ?_, trivial⟩
              · have := a2.b; rw [List.length_set]; exact this
              · rw [List.length_set]; exact a.env.le l12 (Nat.le_trans g1.len g2.len)
          · cases hp
        · cases hp
      · exact o2.elim
    · rw [if_neg hc] at o1 ⊢
      exact ⟨W1, S1, Nat.lt_of_lt_of_le hn g1.len, hl.trans l1 hn, wp w2 l1 g1.len a1, o1⟩
theorem lcP_start (a : At X.K cl W F S σ H) (hD : H D = none) (o : Out X.K cl Wx (RSV X.K cl) S.length W S σ (lcL tg tt te S.length (wipeE F.v vs) xs (S ++ [.lst []])) Q) :
    LcP X cl Wx Q σ vs S.length (W.add S.length D) tg tt te (wipeE F.v vs) xs 0 (upd H D (.lst [])) := by
  have r1 := a.rel.newM (p := D) (mo := .lst []) (ho := .lst []) hD ⟨a.rel.unone hD, [], upd_same, .nil⟩
  have hl : (S ++ [MO.lst []]).length = S.length + 1 := by rw [List.length_append]; rfl
  refine ⟨_, _, by omega, .refl _ _, ⟨by show S.length ≤ _; omega, r1, ?_, trivial⟩, ?_⟩
  · rw [hl]; exact (EnvR.wipe a.env vs).le (W.add_le _ _) (Nat.le_succ _)
  · exact Out.rebase o (Gr.add _ _ _ (Nat.le_refl _)) (W.add_le _ _)
theorem lcP_end {n : Nat} (hD : W0.ρ n0 = D) (hx : n = xs.length) (h : LcP X cl Wx Q σ vs n0 W0 tg tt te ve xs n H) : Q (.ref D) H := by
  subst hx
  obtain ⟨W, S, hn, hl, a, o⟩ := h
  rw [List.drop_of_length_le (Nat.le_refl _)] at o
  exact o W H _ (.refl _ _) (.refl _ _) a.rel ⟨hn, by rw [hl.r n0 (Nat.lt_succ_self _), hD]⟩
/-- how what was made is handed on -/
structure FiOk (fi : Nat → Res SV → Res SV) : Prop where
  out : ∀ {K : PySem.W.Frag} {cl : Nat → Addr} {Wx : WX} {W : Wd} {S : Sto} {H : Hp} {b : Nat} {σ : St} {r : Res SV} {Q : VK}, Rel K cl W S H → b ≤ S.length → Out K cl Wx (RSV K cl) b W S σ (fi S.length r) Q → Out K cl Wx (RSV K cl) S.length W S σ r Q
theorem fi_fin : FiOk fin := ⟨fin_out⟩
theorem fi_finK : FiOk finK := ⟨finK_out⟩
variable {fi : Nat → Res SV → Res SV} {fe : Fr → Sto → Res SV} {fa : Fr → Sto → Res (List SV)}
theorem lc_itk {d : Addr} {o : Obj} {kvs : List (Key × V)} {g : TG} {tt : TT} {te : TE} {vs : List Nat} {σ : L2.St} {H1 : Hp} {D : Addr} {Qd : Hp → Prop} (Pv : Nat → Hp → Prop) (h0 : Pv 0 (upd H1 D (.lst []))) (hl : ∀ i H, i ≤ kvs.length → Pv i H → H d = some (.frz o (.dK kvs)))
    (hs : ∀ i k v H, kvs[i]? = some (k, v) → Pv i H → g (L2.kV k) (L2.wipe σ vs) H fun σ2 H2 => L2.wipe σ2 vs = L2.wipe σ vs ∧ tt σ2 H2 fun b H3 =>
      if b = true then te σ2 H3 fun y H4 => ∃ acc, H4 D = some (.lst acc) ∧ acc.length < sizeLine ∧ Pv (i + 1) (upd H4 D (.lst (acc ++ [y]))) else Pv (i + 1) H3) (hd : ∀ H, Pv kvs.length H → Qd H) :
    ∃ W : Nat → Nat → Hp → Prop, (∃ m, W 0 m (upd H1 D (.lst []))) ∧ ∀ i m H, W i m H →
      ((Itk d o kvs).stop i H ∧ Qd H) ∨ ((Itk d o kvs).go i H ∧ ∃ Nx : Hp → Prop, (∀ H', Nx H' → ∃ m', m' < m ∧ W (i + 1) m' H') ∧ ∀ x H', (Itk d o kvs).yld i H x H' → g x (L2.wipe σ vs) H' fun σ2 H2 => L2.wipe σ2 vs = L2.wipe σ vs ∧ tt σ2 H2 fun b H3 =>
        if b = true then te σ2 H3 fun y H4 => ∃ acc, H4 D = some (.lst acc) ∧ acc.length < sizeLine ∧ Nx (upd H4 D (.lst (acc ++ [y]))) else Nx H3) := by
  refine ⟨fun i m H => m = kvs.length - i ∧ i ≤ kvs.length ∧ Pv i H, ⟨kvs.length, by simp, Nat.zero_le _, h0⟩, ?_⟩
  rintro i m H ⟨rfl, hi, p⟩
  have q := hl i H hi p
  by_cases hlt : i < kvs.length
  · refine .inr ⟨⟨q, hlt⟩, Pv (i + 1), fun H' p' => ⟨kvs.length - (i + 1), by omega, rfl, hlt, p'⟩, fun x H' y => ?_⟩
    obtain ⟨e, k, v, hk, rfl⟩ := y
    subst e
    exact hs i k v _ hk p
  · have e : i = kvs.length := by omega
    subst e
    exact .inl ⟨⟨q, Nat.le_refl _⟩, hd H p⟩
theorem lc_re (hfi : FiOk fi) (h : RE X cl Wx (eLcW fi vs fe tg tt te) σ H Q) : tLc (iSeq X.K (RE X cl Wx fe)) (RGw X (CL.pure cl) vs tg) (RT X (CL.pure cl) WF tt) (RE X (CL.pure cl) WF te) vs σ H Q := by
  obtain ⟨W, F, S, a, o⟩ := h
  refine RE.of a o fun W1 S1 y v H1 g1 l1 a1 q1 o1 => ?_
  unfold lcS at o1
  split at o1
  · rename_i xs S2 hf
    obtain ⟨n2, w2, k2⟩ := freeze_ok (K := X.K) (cl := cl) hf
    obtain ⟨W2, e2, l2, r2, q2⟩ := k2 W1 H1 v a1.rel q1
    have a2 := a1.on ⟨Nat.le_of_eq n2.symm, fun b _ => w2 b⟩ l2 r2
    have o2 := Out.rebase o1 ⟨Nat.le_of_eq n2.symm, fun b _ => w2 b⟩ l2
    have o3 := hfi.out r2 a2.b o2
    cases q2 with
    | lst h t =>
      refine ⟨_, rfl, .inl ⟨⟨_, SqL.up r2.fz h⟩, fun D hD => ?_⟩⟩
      refine lc_list (xs := _) (LcP X cl Wx Q σ vs S2.length (W2.add S2.length D) tg tt te (wipeE F.v vs) (xs.map .d)) (lcP_start a2 hD o3) (fun i H _ ⟨W, S, hn, hl, a, _⟩ => SqL.up a.rel.fz (SqL.le ((W2.add_le _ _).trans hl (Nat.le_succ _)) h)) (fun i x H hx hP => ?_) fun H hP => ?_
      · obtain ⟨d, hd, rd⟩ := item_of t hx
        exact lcP_turn (sv := .d d) (by rw [List.getElem?_map, hd]; rfl) (Wd.add_at _ _ _) (fun W n hl hn => RelD.le ((W2.add_le _ _).trans hl (Nat.le_succ _)) rd) hP
      · exact lcP_end (Wd.add_at _ _ _) (by rw [List.length_map, t.length]) hP
  · rename_i xs S2 hf
    obtain ⟨n2, w2, k2⟩ := freeze_ok (K := X.K) (cl := cl) hf
    obtain ⟨W2, e2, l2, r2, q2⟩ := k2 W1 H1 v a1.rel q1
    have a2 := a1.on ⟨Nat.le_of_eq n2.symm, fun b _ => w2 b⟩ l2 r2
    have o2 := Out.rebase o1 ⟨Nat.le_of_eq n2.symm, fun b _ => w2 b⟩ l2
    have o3 := hfi.out r2 a2.b o2
    cases q2 with
    | tup h t =>
      refine ⟨_, rfl, .inr (.inl ⟨⟨_, SqT.up r2.fz h⟩, fun D hD => ?_⟩)⟩
      refine lc_tup (xs := _) (LcP X cl Wx Q σ vs S2.length (W2.add S2.length D) tg tt te (wipeE F.v vs) (xs.map .d)) (lcP_start a2 hD o3) (fun i H _ ⟨W, S, hn, hl, a, _⟩ => SqT.up a.rel.fz (SqT.le ((W2.add_le _ _).trans hl (Nat.le_succ _)) h)) (fun i x H hx hP => ?_) fun H hP => ?_
      · obtain ⟨d, hd, rd⟩ := item_of t hx
        exact lcP_turn (sv := .d d) (by rw [List.getElem?_map, hd]; rfl) (Wd.add_at _ _ _) (fun W n hl hn => RelD.le ((W2.add_le _ _).trans hl (Nat.le_succ _)) rd) hP
      · exact lcP_end (Wd.add_at _ _ _) (by rw [List.length_map, t.length]) hP
  · rename_i ks xs S2 hf
    obtain ⟨n2, w2, k2⟩ := freeze_ok (K := X.K) (cl := cl) hf
    obtain ⟨W2, e2, l2, r2, q2⟩ := k2 W1 H1 v a1.rel q1
    have a2 := a1.on ⟨Nat.le_of_eq n2.symm, fun b _ => w2 b⟩ l2 r2
    have o2 := Out.rebase o1 ⟨Nat.le_of_eq n2.symm, fun b _ => w2 b⟩ l2
    have o3 := hfi.out r2 a2.b o2
    cases q2 with
    | @dic ad hob _ _ us h c l t =>
      have lz : (ks.zip us).length = ks.length := by rw [List.length_zip, ← t.length, ← l.1, Nat.min_self]
      have kz : ∀ {i k v}, (ks.zip us)[i]? = some (k, v) → ks[i]? = some k := fun {i k v} e => (List.getElem?_zip_eq_some.mp e).1
      have kk : ∀ {i k} {G : Hp}, ks[i]? = some k → RelD X.K cl G (keyD k) (L2.kV k) := fun {i k G} e => by
        have := List.all_eq_true.mp l.2 k (List.mem_of_getElem? e)
        cases k with
        | inl i => exact .int i
        | inr s => exact .str s this
      have body : ∀ W3 H3 o, W3.G ad = some (.frz o (.dK (ks.zip us))) → At X.K cl W3 F S2 σ H3 → Le S2.length W2 W3 → ∀ D, H3 D = none → ∃ Wn : Nat → Nat → Hp → Prop, (∃ m, Wn 0 m (upd H3 D (.lst []))) ∧ ∀ i m H, Wn i m H →
          ((Itk ad o (ks.zip us)).stop i H ∧ Q (.ref D) H) ∨ ((Itk ad o (ks.zip us)).go i H ∧ ∃ Nx : Hp → Prop, (∀ H', Nx H' → ∃ m', m' < m ∧ Wn (i + 1) m' H') ∧ ∀ x H', (Itk ad o (ks.zip us)).yld i H x H' → RGw X (CL.pure cl) vs tg x (L2.wipe σ vs) H' fun σ2 H2 => L2.wipe σ2 vs = L2.wipe σ vs ∧ RT X (CL.pure cl) WF tt σ2 H2 fun b H3 =>
            if b = true then RE X (CL.pure cl) WF te σ2 H3 fun y H4 => ∃ acc, H4 D = some (.lst acc) ∧ acc.length < sizeLine ∧ Nx (upd H4 D (.lst (acc ++ [y]))) else Nx H3) := by
        intro W3 H3 o g3 a3 l3 D hD
        refine lc_itk (LcP X cl Wx Q σ vs S2.length (W3.add S2.length D) tg tt te (wipeE F.v vs) (ks.map keyS)) (lcP_start a3 hD (Out.rebase o3 (.refl _ _) l3)) (fun i H _ ⟨W, S, hn, hl, a, _⟩ => ?_) (fun i k v H hx hP => ?_) fun H hP => ?_
        · obtain ⟨o', e', s'⟩ := ((W3.add_le _ _).trans hl (Nat.le_succ _)).g _ _ g3
          rcases s' with rfl | ⟨_, _, z, _⟩
          · exact a.rel.fz _ _ e'
          · cases z
        · exact lcP_turn (sv := keyS k) (by rw [List.getElem?_map, kz hx]; rfl) (Wd.add_at _ _ _) (fun W n hl hn => kk (kz hx)) hP
        · exact lcP_end (Wd.add_at _ _ _) (by rw [List.length_map, lz]) hP
      refine ⟨_, rfl, .inr (.inr ?_)⟩
      cases hob <;> first
        | (cases c
           refine .inr ⟨_, r2.fz _ _ h, fun o => ?_⟩
           obtain ⟨r3, l3⟩ := r2.pin h o S2.length
           exact body _ _ o upd_same (a2.on (.refl _ _) l3 r3) l3)
        | (rename_i ob u
           have c' : u = .dK (ks.zip us) := c
           subst c'
           exact .inl ⟨_, ob, r2.fz _ _ h, body W2 H1 ob h a2 (.refl _ _)⟩)
        | (cases c)
  · exact o1.elim
theorem lc_rng {lo : Int} {n : Nat} (hfi : FiOk fi) (a : At X.K cl W F S σ H) (o : Out X.K cl Wx (RSV X.K cl) F.b W S σ (lcAll fi vs tg tt te F.v (rng lo n) S) Q) (D : Addr) (hD : H D = none) :
    ∃ Wn : Nat → Nat → Hp → Prop, (∃ m, Wn 0 m (upd H D (.lst []))) ∧ ∀ i m H, Wn i m H →
      ((Itr lo n).stop i H ∧ Q (.ref D) H) ∨ ((Itr lo n).go i H ∧ ∃ Nx : Hp → Prop, (∀ H', Nx H' → ∃ m', m' < m ∧ Wn (i + 1) m' H') ∧ ∀ x H', (Itr lo n).yld i H x H' → RGw X (CL.pure cl) vs tg x (L2.wipe σ vs) H' fun σ2 H2 => L2.wipe σ2 vs = L2.wipe σ vs ∧ RT X (CL.pure cl) WF tt σ2 H2 fun b H3 =>
        if b = true then RE X (CL.pure cl) WF te σ2 H3 fun y H4 => ∃ acc, H4 D = some (.lst acc) ∧ acc.length < sizeLine ∧ Nx (upd H4 D (.lst (acc ++ [y]))) else Nx H3) := by
  have o3 := hfi.out a.rel a.b o
  refine lc_range (LcP X cl Wx Q σ vs S.length (W.add S.length D) tg tt te (wipeE F.v vs) (rng lo n)) (lcP_start a hD o3) (fun i H hi hP => lcP_turn (rng_at hi) (Wd.add_at _ _ _) (fun _ _ _ _ => RelD.int _) hP) fun H hP => ?_
  exact lcP_end (Wd.add_at _ _ _) (by rw [rng_len]) hP
variable {elt tgt iter ea eb : Expr} {ifs : List Expr} {own : List (Str × Nat)} {pos spos pc p py : Pos} {scope : Scope}
theorem lc_re1 (hfi : FiOk fi) (h : RE X cl Wx (eLcRW fi vs fa tg tt te) σ H Q) : RA X cl Wx fa σ H fun as H1 => ∃ n : Int, as = [.int n] ∧ -4611686018427387904 ≤ n ∧ n < 4611686018427387904 ∧ ∀ D, H1 D = none → ∃ Wn : Nat → Nat → Hp → Prop, (∃ m, Wn 0 m (upd H1 D (.lst []))) ∧ ∀ i m H, Wn i m H →
      ((Itr 0 n.toNat).stop i H ∧ Q (.ref D) H) ∨ ((Itr 0 n.toNat).go i H ∧ ∃ Nx : Hp → Prop, (∀ H', Nx H' → ∃ m', m' < m ∧ Wn (i + 1) m' H') ∧ ∀ x H', (Itr 0 n.toNat).yld i H x H' → RGw X (CL.pure cl) vs tg x (L2.wipe σ vs) H' fun σ2 H2 => L2.wipe σ2 vs = L2.wipe σ vs ∧ RT X (CL.pure cl) WF tt σ2 H2 fun b H3 =>
        if b = true then RE X (CL.pure cl) WF te σ2 H3 fun y H4 => ∃ acc, H4 D = some (.lst acc) ∧ acc.length < sizeLine ∧ Nx (upd H4 D (.lst (acc ++ [y]))) else Nx H3) := by
  obtain ⟨W, F, S, a, o⟩ := h
  refine RA.of a o fun W1 S1 as vs' H1 g1 l1 a1 q1 o1 => ?_
  unfold lcR at o1
  split at o1
  · split at o1
    · rename_i n hn
      simp only [small62, Bool.and_eq_true, decide_eq_true_eq] at hn
      match vs', q1 with
      | [v], .cons q .nil =>
        cases q
        exact ⟨n, rfl, by omega, by omega, fun D hD => lc_rng hfi a1 o1 D hD⟩
    · exact o1.elim
  · exact o1.elim
theorem lc_re2 (hfi : FiOk fi) (h : RE X cl Wx (eLcR2W fi vs fa tg tt te) σ H Q) : RA X cl Wx fa σ H fun as H1 => ∃ m n : Int, as = [.int m, .int n] ∧ (-4611686018427387904 ≤ m ∧ m < 4611686018427387904 ∧ -4611686018427387904 ≤ n ∧ n < 4611686018427387904) ∧ ∀ D, H1 D = none → ∃ Wn : Nat → Nat → Hp → Prop, (∃ m, Wn 0 m (upd H1 D (.lst []))) ∧ ∀ i k H, Wn i k H →
      ((Itr m (n - m).toNat).stop i H ∧ Q (.ref D) H) ∨ ((Itr m (n - m).toNat).go i H ∧ ∃ Nx : Hp → Prop, (∀ H', Nx H' → ∃ m', m' < k ∧ Wn (i + 1) m' H') ∧ ∀ x H', (Itr m (n - m).toNat).yld i H x H' → RGw X (CL.pure cl) vs tg x (L2.wipe σ vs) H' fun σ2 H2 => L2.wipe σ2 vs = L2.wipe σ vs ∧ RT X (CL.pure cl) WF tt σ2 H2 fun b H3 =>
        if b = true then RE X (CL.pure cl) WF te σ2 H3 fun y H4 => ∃ acc, H4 D = some (.lst acc) ∧ acc.length < sizeLine ∧ Nx (upd H4 D (.lst (acc ++ [y]))) else Nx H3) := by
  obtain ⟨W, F, S, a, o⟩ := h
  refine RA.of a o fun W1 S1 as vs' H1 g1 l1 a1 q1 o1 => ?_
  unfold lcR2 at o1
  split at o1
  · split at o1
    · rename_i m n hn
      simp only [small62, Bool.and_eq_true, decide_eq_true_eq] at hn
      match vs', q1 with
      | [v, u], .cons q (.cons q' .nil) =>
        cases q
        cases q'
        exact ⟨m, n, rfl, by omega, fun D hD => lc_rng hfi a1 o1 D hD⟩
    · exact o1.elim
  · exact o1.elim
theorem ev_lc (hfi : FiOk fi) (hc : X.calm = true) (hN : X.N.Nodup) (ok : BlkOk X.N X.env.scope scope own) (hvs : own.map (·.2) = vs := by rfl) (hi : PE X iter (RE X cl Wx fe)) (hg : ∀ (s : Shared) (H : Hp) (C : Addr) (cls : List (Str × Addr)) (fp : List Addr), PG (Blk X s H scope cls C fp) tgt (RGw (Blk X s H scope cls C fp) (CL.pure cl) vs tg)) (ht : ∀ (s : Shared) (H : Hp) (C : Addr) (cls : List (Str × Addr)) (fp : List Addr), PTs (Blk X s H scope cls C fp) ifs (RT (Blk X s H scope cls C fp) (CL.pure cl) WF tt))
    (he : ∀ (s : Shared) (H : Hp) (C : Addr) (cls : List (Str × Addr)) (fp : List Addr), PE (Blk X s H scope cls C fp) elt (RE (Blk X s H scope cls C fp) (CL.pure cl) WF te)) (hs : ∀ x, foldedSetIterable iter X.env x = pure x := by exact fun _ => rfl) :
    PE X (.ListComp elt [⟨tgt, iter, ifs, 0⟩] scope pos) (RE X cl Wx (eLcW fi vs fe tg tt te)) := by
  subst hvs
  exact PE.weak (pe_lc hc hN (pi_seq hi) ok hg ht he hs) fun σ H Q h => lc_re hfi h
theorem sv_setLc (i : Nat) {y : Str} (hfi : FiOk fi) (hc : X.calm = true) (hN : X.N.Nodup) (ok : BlkOk X.N X.env.scope scope own) (hvs : own.map (·.2) = vs := by rfl) (hi : PE X iter (RE X cl Wx fe)) (hy : X.N[i]? = some y) (hyl : X.env.scope.names.lookup y = some .local) (hsw : swapsWith (.ListComp elt [⟨tgt, iter, ifs, 0⟩] scope pos) (some (.Name y py)) spos.line X.env = pure true) (hg : ∀ (s : Shared) (H : Hp) (C : Addr) (cls : List (Str × Addr)) (fp : List Addr), PG (Blk X s H scope cls C fp) tgt (RGw (Blk X s H scope cls C fp) (CL.pure cl) vs tg)) (ht : ∀ (s : Shared) (H : Hp) (C : Addr) (cls : List (Str × Addr)) (fp : List Addr), PTs (Blk X s H scope cls C fp) ifs (RT (Blk X s H scope cls C fp) (CL.pure cl) WF tt))
    (he : ∀ (s : Shared) (H : Hp) (C : Addr) (cls : List (Str × Addr)) (fp : List Addr), PE (Blk X s H scope cls C fp) elt (RE (Blk X s H scope cls C fp) (CL.pure cl) WF te)) (hs : ∀ x, foldedSetIterable iter X.env x = pure x := by exact fun _ => rfl) :
    PS X (.Assign [.Name y py] (.ListComp elt [⟨tgt, iter, ifs, 0⟩] scope pos) spos) (RS X cl Wx (sSet i (eLcW fi vs fe tg tt te))) := by
  subst hvs
  exact PS.weak (ps_setLc hc hN hy hyl hsw (pi_seq hi) ok hg ht he hs) fun D σ H ⟨W, F, S, a, o⟩ => have h := RE.ofS (Q' := fun v H1 => gName i v σ H1 D.nx) a o fun W1 S1 y v H1 g1 l1 a1 q1 o1 => OutS.here o1 (a1.put i q1)
    lc_re hfi h
theorem ev_lcR1 (hfi : FiOk fi) (hc : X.calm = true) (hN : X.N.Nodup) (ok : BlkOk X.N X.env.scope scope own) (hvs : own.map (·.2) = vs := by rfl) (hgl : Gl X "range") (hm : X.mg "range" = none) (ha : PA X [ea] (RA X cl Wx fa)) (hg : ∀ (s : Shared) (H : Hp) (C : Addr) (cls : List (Str × Addr)) (fp : List Addr), PG (Blk X s H scope cls C fp) tgt (RGw (Blk X s H scope cls C fp) (CL.pure cl) vs tg)) (ht : ∀ (s : Shared) (H : Hp) (C : Addr) (cls : List (Str × Addr)) (fp : List Addr), PTs (Blk X s H scope cls C fp) ifs (RT (Blk X s H scope cls C fp) (CL.pure cl) WF tt))
    (he : ∀ (s : Shared) (H : Hp) (C : Addr) (cls : List (Str × Addr)) (fp : List Addr), PE (Blk X s H scope cls C fp) elt (RE (Blk X s H scope cls C fp) (CL.pure cl) WF te)) (hs : starEach [ea] X.env = [(false, eval ea X.env)] := by rfl) :
    PE X (.ListComp elt [⟨tgt, (.Call (.Name "range" p) [ea] [] pc), ifs, 0⟩] scope pos) (RE X cl Wx (eLcRW fi vs fa tg tt te)) := by
  subst hvs
  exact PE.weak (pe_lc hc hN (pi_range1 hgl hm ha hs) ok hg ht he) fun σ H Q h => lc_re1 hfi h
theorem sv_setLcR1 (i : Nat) {y : Str} (hfi : FiOk fi) (hc : X.calm = true) (hN : X.N.Nodup) (ok : BlkOk X.N X.env.scope scope own) (hvs : own.map (·.2) = vs := by rfl) (hgl : Gl X "range") (hm : X.mg "range" = none) (ha : PA X [ea] (RA X cl Wx fa)) (hy : X.N[i]? = some y) (hyl : X.env.scope.names.lookup y = some .local) (hsw : swapsWith (.ListComp elt [⟨tgt, (.Call (.Name "range" p) [ea] [] pc), ifs, 0⟩] scope pos) (some (.Name y py)) spos.line X.env = pure true) (hg : ∀ (s : Shared) (H : Hp) (C : Addr) (cls : List (Str × Addr)) (fp : List Addr), PG (Blk X s H scope cls C fp) tgt (RGw (Blk X s H scope cls C fp) (CL.pure cl) vs tg)) (ht : ∀ (s : Shared) (H : Hp) (C : Addr) (cls : List (Str × Addr)) (fp : List Addr), PTs (Blk X s H scope cls C fp) ifs (RT (Blk X s H scope cls C fp) (CL.pure cl) WF tt))
    (he : ∀ (s : Shared) (H : Hp) (C : Addr) (cls : List (Str × Addr)) (fp : List Addr), PE (Blk X s H scope cls C fp) elt (RE (Blk X s H scope cls C fp) (CL.pure cl) WF te)) (hs : starEach [ea] X.env = [(false, eval ea X.env)] := by rfl) :
    PS X (.Assign [.Name y py] (.ListComp elt [⟨tgt, (.Call (.Name "range" p) [ea] [] pc), ifs, 0⟩] scope pos) spos) (RS X cl Wx (sSet i (eLcRW fi vs fa tg tt te))) := by
  subst hvs
  exact PS.weak (ps_setLc hc hN hy hyl hsw (pi_range1 hgl hm ha hs) ok hg ht he) fun D σ H ⟨W, F, S, a, o⟩ => have h := RE.ofS (Q' := fun v H1 => gName i v σ H1 D.nx) a o fun W1 S1 y v H1 g1 l1 a1 q1 o1 => OutS.here o1 (a1.put i q1)
    lc_re1 hfi h
theorem ev_lcR2 (hfi : FiOk fi) (hc : X.calm = true) (hN : X.N.Nodup) (ok : BlkOk X.N X.env.scope scope own) (hvs : own.map (·.2) = vs := by rfl) (hgl : Gl X "range") (hm : X.mg "range" = none) (ha : PA X [ea, eb] (RA X cl Wx fa)) (hg : ∀ (s : Shared) (H : Hp) (C : Addr) (cls : List (Str × Addr)) (fp : List Addr), PG (Blk X s H scope cls C fp) tgt (RGw (Blk X s H scope cls C fp) (CL.pure cl) vs tg)) (ht : ∀ (s : Shared) (H : Hp) (C : Addr) (cls : List (Str × Addr)) (fp : List Addr), PTs (Blk X s H scope cls C fp) ifs (RT (Blk X s H scope cls C fp) (CL.pure cl) WF tt))
    (he : ∀ (s : Shared) (H : Hp) (C : Addr) (cls : List (Str × Addr)) (fp : List Addr), PE (Blk X s H scope cls C fp) elt (RE (Blk X s H scope cls C fp) (CL.pure cl) WF te)) (hs : starEach [ea, eb] X.env = [(false, eval ea X.env), (false, eval eb X.env)] := by rfl) (hs2 : starEach [eb] X.env = [(false, eval eb X.env)] := by rfl) :
    PE X (.ListComp elt [⟨tgt, (.Call (.Name "range" p) [ea, eb] [] pc), ifs, 0⟩] scope pos) (RE X cl Wx (eLcR2W fi vs fa tg tt te)) := by
  subst hvs
  exact PE.weak (pe_lc hc hN (pi_range2 hgl hm ha hs hs2) ok hg ht he) fun σ H Q h => lc_re2 hfi h
theorem sv_setLcR2 (i : Nat) {y : Str} (hfi : FiOk fi) (hc : X.calm = true) (hN : X.N.Nodup) (ok : BlkOk X.N X.env.scope scope own) (hvs : own.map (·.2) = vs := by rfl) (hgl : Gl X "range") (hm : X.mg "range" = none) (ha : PA X [ea, eb] (RA X cl Wx fa)) (hy : X.N[i]? = some y) (hyl : X.env.scope.names.lookup y = some .local) (hsw : swapsWith (.ListComp elt [⟨tgt, (.Call (.Name "range" p) [ea, eb] [] pc), ifs, 0⟩] scope pos) (some (.Name y py)) spos.line X.env = pure true) (hg : ∀ (s : Shared) (H : Hp) (C : Addr) (cls : List (Str × Addr)) (fp : List Addr), PG (Blk X s H scope cls C fp) tgt (RGw (Blk X s H scope cls C fp) (CL.pure cl) vs tg)) (ht : ∀ (s : Shared) (H : Hp) (C : Addr) (cls : List (Str × Addr)) (fp : List Addr), PTs (Blk X s H scope cls C fp) ifs (RT (Blk X s H scope cls C fp) (CL.pure cl) WF tt))
    (he : ∀ (s : Shared) (H : Hp) (C : Addr) (cls : List (Str × Addr)) (fp : List Addr), PE (Blk X s H scope cls C fp) elt (RE (Blk X s H scope cls C fp) (CL.pure cl) WF te)) (hs : starEach [ea, eb] X.env = [(false, eval ea X.env), (false, eval eb X.env)] := by rfl) (hs2 : starEach [eb] X.env = [(false, eval eb X.env)] := by rfl) :
    PS X (.Assign [.Name y py] (.ListComp elt [⟨tgt, (.Call (.Name "range" p) [ea, eb] [] pc), ifs, 0⟩] scope pos) spos) (RS X cl Wx (sSet i (eLcR2W fi vs fa tg tt te))) := by
  subst hvs
  exact PS.weak (ps_setLc hc hN hy hyl hsw (pi_range2 hgl hm ha hs hs2) ok hg ht he) fun D σ H ⟨W, F, S, a, o⟩ => have h := RE.ofS (Q' := fun v H1 => gName i v σ H1 D.nx) a o fun W1 S1 y v H1 g1 l1 a1 q1 o1 => OutS.here o1 (a1.put i q1)
    lc_re2 hfi h
end
end Ev

set_option Elab.async false
set_option linter.all false
set_option maxRecDepth 100000
/-! Ev14: great products, signs, truth; how comprehensions are reckoned. -/
namespace Ev
open PySem L2
section
variable {X : Cx} {cl : CL} {Wx : WX} {a : Expr} {fe : Fr → Sto → Res SV} {pos : Pos} {W : Wd} {S : Sto} {H : Hp}
def wide (i : Int) : Bool := decide (i.natAbs < 2 ^ 16384)
abbrev opMulX := opInt (fun i j => big64 i || big64 j || (wide i && wide j)) fun i j => .int (i * j)
theorem ov_mulX : OpR X (binaryOp .Mult) (ROp X cl opMulX) := OpR.weak (OpR.or (ov_mul (cl := cl)) (ov_int (cl := cl) (C := fun i j => wide i && wide j) op_mulX (fun i j h => by
  simp only [wide, Bool.and_eq_true, decide_eq_true_eq] at h
  exact mulx_ok h.1 h.2 (by decide)) fun _ _ _ i j => .int _)) fun x y H Q ⟨W, S, a, b, z, r, ra, rb, e, k⟩ => by
    unfold opMulX opInt at e
    split at e
    · rename_i i j ea eb
      split at e
      · rename_i h
        cases e
        by_cases h2 : (big64 i || big64 j) = true
        · exact .inl ⟨W, S, a, b, _, r, ra, rb, by unfold opMul opInt; simp only [ea, eb]; rw [if_pos h2], k⟩
        · refine .inr ⟨W, S, a, b, _, r, ra, rb, ?_, k⟩
          unfold opInt
          simp only [ea, eb]
          rw [if_pos]
          have h3 : (big64 i || big64 j || (wide i && wide j)) = true := h
          rw [Bool.or_eq_true] at h3
          exact h3.resolve_left h2
      · cases e
    · cases e
def eNeg (fe : Fr → Sto → Res SV) : Fr → Sto → Res SV := fun F S => (fe F S).bind fun x S1 => match view S1 x with
  | some (.int i) => .ok (.d (.int (-i))) S1
  | _ => .bad
theorem ev_neg (he : PE X a (RE X cl Wx fe)) : PE X (.UnaryOp .USub a pos) (RE X cl Wx (eNeg fe)) :=
  PE.weak (pe_un un_neg he) fun σ H Q ⟨W, F, S, a, o⟩ => RE.of a o fun W1 S1 x v H1 g1 l1 a1 q1 o1 => by
    split at o1
    · rename_i i e
      exact ⟨i, view_int a1.rel e q1, o1.here a1.rel (RelD.int _)⟩
    · exact o1.elim
def truS (S : Sto) : SV → Option Bool
  | .d .non => some false
  | .d (.bl b) => some b
  | .d (.int i) => some (i != 0)
  | .d (.lst xs) => some (!xs.isEmpty)
  | .d (.tup xs) => some (!xs.isEmpty)
  | .m i => match S[i]? with
    | some (.lst xs) => some (!xs.isEmpty)
    | _ => none
  | _ => none
theorem paired_empty {α β : Type} {R : α → β → Prop} {xs : List α} {ys : List β} (h : Paired R xs ys) : ys.isEmpty = xs.isEmpty := by cases h <;> rfl
theorem truS_rel {K : PySem.W.Frag} (r : Rel K cl W S H) {x : SV} {v : V} {c : Bool} (e : truS S x = some c) (q : RelSV K cl W S.length x v) : TruV K v H c := by
  cases x with
  | d y =>
    cases y <;> first | (cases e; done) | skip
    · cases e; cases q; rfl
    · cases e; cases q; rfl
    · cases e; cases q; rfl
    · cases e; cases q with
      | tup h t => exact .inr (.inl ⟨_, SqT.up r.fz h, by rw [paired_empty t.paired]⟩)
    · cases e; cases q with
      | lst h t => exact .inl ⟨_, SqL.up r.fz h, by rw [paired_empty t.paired]⟩
  | m i =>
    obtain ⟨_, rfl⟩ := q
    simp only [truS] at e
    split at e
    · rename_i xs hx
      cases e
      obtain ⟨_, vs, h1, h2⟩ := r.st i _ hx
      exact .inl ⟨vs, SqL.of h1, by rw [paired_empty h2]⟩
    · cases e
def tTr (fe : Fr → Sto → Res SV) : Fr → Sto → Res Bool := fun F S => (fe F S).bind fun x S1 => match truS S1 x with
  | some c => .ok c S1
  | none => .bad
theorem tv_truth (he : PE X a (RE X cl Wx fe)) (hh : ∀ whole, isTrue a X.env whole = (do let v ← whole; standAt a.pos; holding [v] (truthy v)) := by exact fun _ => rfl) : PT X a (RT X cl Wx (tTr fe)) :=
  ⟨fun pins s σ H Q I h => (pt_truth he hh).run pins s σ H Q I (by
    obtain ⟨W, F, S, a, o⟩ := h
    refine RE.ofT a o fun W1 S1 x v H1 g1 l1 a1 q1 o1 => ?_
    split at o1
    · rename_i c e
      exact ⟨c, truS_rel a1.rel e q1, o1.here a1.rel rfl⟩
    · exact o1.elim)⟩
end
theorem tk_F {X : Cx} : L2N.Takes X WF := fun u s' ⟨a, B, sI, pins, σ, H, cls, d, e, I, nb, up, sky, na, os, ag, w⟩ => w.elim
/-! ### how they are reckoned -/
def negR : Option Dv → Sto → Res SV
  | some (.int i), S => .ok (.d (.int (-i))) S
  | _, _ => .bad
@[simp] theorem negR_i (i : Int) (S : Sto) : negR (some (.int i)) S = .ok (.d (.int (-i))) S := Eq.trans rfl rfl
def kNeg (r : Res SV) : Res SV := r.bind fun x S1 => negR (view S1 x) S1
@[simp] theorem kNeg_ok (x : SV) (S1 : Sto) : kNeg (.ok x S1) = negR (view S1 x) S1 := Eq.trans rfl rfl
@[simp] theorem eNeg_ap (f : Fr → Sto → Res SV) (F : Fr) (S : Sto) : eNeg f F S = kNeg (f F S) := by
  show (f F S).bind _ = (f F S).bind _
  congr 1
  funext x S1
  cases view S1 x with
  | none => rfl
  | some y => cases y <;> rfl
def truR : Option Bool → Sto → Res Bool
  | some c, S => .ok c S
  | none, _ => .bad
@[simp] theorem truR_s (c : Bool) (S : Sto) : truR (some c) S = .ok c S := Eq.trans rfl rfl
def kTr (r : Res SV) : Res Bool := r.bind fun x S1 => truR (truS S1 x) S1
@[simp] theorem kTr_ok (x : SV) (S1 : Sto) : kTr (.ok x S1) = truR (truS S1 x) S1 := Eq.trans rfl rfl
@[simp] theorem tTr_ap (f : Fr → Sto → Res SV) (F : Fr) (S : Sto) : tTr f F S = kTr (f F S) := by
  show (f F S).bind _ = (f F S).bind _
  congr 1
  funext x S1
  cases truS S1 x <;> rfl
@[simp] theorem truS_bl (S : Sto) (b : Bool) : truS S (.d (.bl b)) = some b := Eq.trans rfl rfl
@[simp] theorem truS_non (S : Sto) : truS S (.d .non) = some false := Eq.trans rfl rfl
@[simp] theorem truS_int (S : Sto) (i : Int) : truS S (.d (.int i)) = some (i != 0) := Eq.trans rfl rfl
@[simp] theorem truS_lst (S : Sto) (i : List Dv) : truS S (.d (.lst i)) = some (!i.isEmpty) := Eq.trans rfl rfl
@[simp] theorem truS_tup (S : Sto) (i : List Dv) : truS S (.d (.tup i)) = some (!i.isEmpty) := Eq.trans rfl rfl
def kLc (fi : Nat → Res SV → Res SV) (vs : List Nat) (tg : Tg) (tt : Fr → Sto → Res Bool) (te : Fr → Sto → Res SV) (v : Env) (r : Res SV) : Res SV := r.bind fun x S1 => lcS fi vs tg tt te v (freeze S1 x)
@[simp] theorem kLc_ok (fi : Nat → Res SV → Res SV) (vs : List Nat) (tg : Tg) (tt : Fr → Sto → Res Bool) (te : Fr → Sto → Res SV) (v : Env) (x : SV) (S1 : Sto) : kLc fi vs tg tt te v (.ok x S1) = lcS fi vs tg tt te v (freeze S1 x) := Eq.trans rfl rfl
@[simp] theorem eLcW_ap (fi : Nat → Res SV → Res SV) (vs : List Nat) (fe : Fr → Sto → Res SV) (tg : Tg) (tt : Fr → Sto → Res Bool) (te : Fr → Sto → Res SV) (F : Fr) (S : Sto) : eLcW fi vs fe tg tt te F S = kLc fi vs tg tt te F.v (fe F S) := Eq.trans rfl rfl
@[simp] theorem lcS_l (fi : Nat → Res SV → Res SV) (vs : List Nat) (tg : Tg) (tt : Fr → Sto → Res Bool) (te : Fr → Sto → Res SV) (v : Env) (xs : List Dv) (S : Sto) : lcS fi vs tg tt te v (some (.lst xs, S)) = lcAll fi vs tg tt te v (xs.map .d) S := Eq.trans rfl rfl
@[simp] theorem lcS_d (fi : Nat → Res SV → Res SV) (vs : List Nat) (tg : Tg) (tt : Fr → Sto → Res Bool) (te : Fr → Sto → Res SV) (v : Env) (ks : List Key) (xs : List Dv) (S : Sto) : lcS fi vs tg tt te v (some (.dic ks xs, S)) = lcAll fi vs tg tt te v (ks.map keyS) S := Eq.trans rfl rfl
@[simp] theorem lcS_t (fi : Nat → Res SV → Res SV) (vs : List Nat) (tg : Tg) (tt : Fr → Sto → Res Bool) (te : Fr → Sto → Res SV) (v : Env) (xs : List Dv) (S : Sto) : lcS fi vs tg tt te v (some (.tup xs, S)) = lcAll fi vs tg tt te v (xs.map .d) S := Eq.trans rfl rfl
def kLcR (fi : Nat → Res SV → Res SV) (vs : List Nat) (tg : Tg) (tt : Fr → Sto → Res Bool) (te : Fr → Sto → Res SV) (v : Env) (r : Res (List SV)) : Res SV := r.bind fun as S1 => lcR fi vs tg tt te v S1 as
@[simp] theorem kLcR_ok (fi : Nat → Res SV → Res SV) (vs : List Nat) (tg : Tg) (tt : Fr → Sto → Res Bool) (te : Fr → Sto → Res SV) (v : Env) (as : List SV) (S1 : Sto) : kLcR fi vs tg tt te v (.ok as S1) = lcR fi vs tg tt te v S1 as := Eq.trans rfl rfl
@[simp] theorem eLcRW_ap (fi : Nat → Res SV → Res SV) (vs : List Nat) (fa : Fr → Sto → Res (List SV)) (tg : Tg) (tt : Fr → Sto → Res Bool) (te : Fr → Sto → Res SV) (F : Fr) (S : Sto) : eLcRW fi vs fa tg tt te F S = kLcR fi vs tg tt te F.v (fa F S) := Eq.trans rfl rfl
@[simp] theorem lcR_i (fi : Nat → Res SV → Res SV) (vs : List Nat) (tg : Tg) (tt : Fr → Sto → Res Bool) (te : Fr → Sto → Res SV) (v : Env) (S : Sto) (n : Int) : lcR fi vs tg tt te v S [.d (.int n)] = if small62 n = true then lcAll fi vs tg tt te v (rng 0 n.toNat) S else .bad := Eq.trans rfl rfl
def kLcR2 (fi : Nat → Res SV → Res SV) (vs : List Nat) (tg : Tg) (tt : Fr → Sto → Res Bool) (te : Fr → Sto → Res SV) (v : Env) (r : Res (List SV)) : Res SV := r.bind fun as S1 => lcR2 fi vs tg tt te v S1 as
@[simp] theorem kLcR2_ok (fi : Nat → Res SV → Res SV) (vs : List Nat) (tg : Tg) (tt : Fr → Sto → Res Bool) (te : Fr → Sto → Res SV) (v : Env) (as : List SV) (S1 : Sto) : kLcR2 fi vs tg tt te v (.ok as S1) = lcR2 fi vs tg tt te v S1 as := Eq.trans rfl rfl
@[simp] theorem eLcR2W_ap (fi : Nat → Res SV → Res SV) (vs : List Nat) (fa : Fr → Sto → Res (List SV)) (tg : Tg) (tt : Fr → Sto → Res Bool) (te : Fr → Sto → Res SV) (F : Fr) (S : Sto) : eLcR2W fi vs fa tg tt te F S = kLcR2 fi vs tg tt te F.v (fa F S) := Eq.trans rfl rfl
@[simp] theorem lcR2_i (fi : Nat → Res SV → Res SV) (vs : List Nat) (tg : Tg) (tt : Fr → Sto → Res Bool) (te : Fr → Sto → Res SV) (v : Env) (S : Sto) (m n : Int) : lcR2 fi vs tg tt te v S [.d (.int m), .d (.int n)] = if (small62 m && small62 n) = true then lcAll fi vs tg tt te v (rng m (n - m).toNat) S else .bad := Eq.trans rfl rfl
@[simp] theorem tYs_ap (F : Fr) (S : Sto) : tYs F S = .ok true S := Eq.trans rfl rfl
@[simp] theorem wipeE_nil (v : Env) : wipeE v [] = v := Eq.trans rfl rfl
@[simp] theorem wipeE_cons (v : Env) (i : Nat) (r : List Nat) : wipeE v (i :: r) = (wipeE v r).set i none := Eq.trans rfl rfl
/-- elements that are reckoned without a change of the store -/
theorem lcL_pure {tg : Tg} {te : Fr → Sto → Res SV} {b : Nat} {ve : Env} (f : SV → Dv) {B : Sto} (hb : B.length = b) : ∀ (xs : List SV) (acc : List Dv), acc.length + xs.length ≤ most →
    (∀ x ∈ xs, ∀ zs, ∃ v1, tg x ⟨b, ve⟩ (B ++ [.lst zs]) = some v1 ∧ te ⟨b, v1⟩ (B ++ [.lst zs]) = .ok (.d (f x)) (B ++ [.lst zs])) →
    lcL tg tYs te b ve xs (B ++ [.lst (acc.map .d)]) = .ok (.m b) (B ++ [.lst ((acc ++ xs.map f).map .d)])
  | [], acc, _, _ => by simp [lcL]
  | x :: r, acc, hl, h => by
    obtain ⟨v1, h1, h2⟩ := h x (List.mem_cons_self ..) (acc.map .d)
    simp only [List.length_cons] at hl
    have ih := lcL_pure (te := te) (tg := tg) (ve := ve) f hb r (acc ++ [f x]) (by simp; omega) fun y hy zs => h y (List.mem_cons_of_mem _ hy) zs
    unfold lcL
    have hg : (B ++ [MO.lst (acc.map SV.d)])[b]? = some (.lst (acc.map .d)) := by subst hb; simp
    simp only [h1, tYs_ap, noX_ok, Res.bind_ok, h2, if_true, hg, lcPut, List.length_map]
    rw [if_pos (by omega)]
    simp only
    have hs : (B ++ [MO.lst (acc.map SV.d)]).set b (.lst (acc.map .d ++ [.d (f x)])) = B ++ [.lst ((acc ++ [f x]).map .d)] := by subst hb; simp
    rw [hs, ih]
    simp
theorem lcAll_pure {tg : Tg} {te : Fr → Sto → Res SV} {vs : List Nat} {v : Env} {S : Sto} {xs : List SV} (f : SV → Dv) (hl : xs.length ≤ most)
    (h : ∀ x ∈ xs, ∀ zs, ∃ v1, tg x ⟨S.length, wipeE v vs⟩ (S ++ [.lst zs]) = some v1 ∧ te ⟨S.length, v1⟩ (S ++ [.lst zs]) = .ok (.d (f x)) (S ++ [.lst zs])) :
    lcAll fin vs tg tYs te v xs S = .ok (.d (.lst (xs.map f))) S := by
  unfold lcAll
  have e := lcL_pure (te := te) (tg := tg) (ve := wipeE v vs) f (B := S) rfl xs [] (by simpa using hl) h
  simp only [List.map_nil, List.nil_append] at e
  rw [e]
  unfold fin
  have q : freeze (S ++ [MO.lst ((xs.map f).map SV.d)]) (SV.m S.length) = _ := freeze_lst (xs := xs.map f) (by simp)
  simp only [q]
  congr 1
  simp
@[simp] theorem instOf_lst (S : Sto) (xs : List Dv) : instOf S (.d (.lst xs)) = none := Eq.trans rfl rfl
@[simp] theorem instOf_tup (S : Sto) (xs : List Dv) : instOf S (.d (.tup xs)) = none := Eq.trans rfl rfl
@[simp] theorem instOf_str (S : Sto) (x : Str) : instOf S (.d (.str x)) = none := Eq.trans rfl rfl
@[simp] theorem opAdd_ll (S : Sto) (xs ys : List Dv) : opAdd S (.d (.lst xs)) (.d (.lst ys)) = if xs.length + ys.length ≤ most then some (.lst (xs ++ ys)) else none := Eq.trans rfl rfl
@[simp] theorem opAdd_tt (S : Sto) (xs ys : List Dv) : opAdd S (.d (.tup xs)) (.d (.tup ys)) = if xs.length + ys.length ≤ most then some (.tup (xs ++ ys)) else none := Eq.trans rfl rfl
@[simp] theorem opAdd_ss (S : Sto) (xs ys : Str) : opAdd S (.d (.str xs)) (.d (.str ys)) = if xs.length + ys.length ≤ most then some (.str (xs ++ ys)) else none := Eq.trans rfl rfl
end Ev

set_option Elab.async false
set_option linter.all false
set_option maxRecDepth 100000
set_option maxHeartbeats 1000000
/-! Ev15: own errors: made, raised, caught, looked at. -/
namespace Ev
open PySem L2
/-- what the base class of the errors says: Base.__init__(self, ..) is ValueError's -/
structure BaseC (K : PySem.W.Frag) (CH : Addr) : Prop where
  sp : PySem.W.specialIn K (.ref CH) "__getattribute__" = some (some (.builtin "type.__getattribute__"))
  rd : PySem.W.readsIn K CH (.type "type") = true
  ini : PySem.W.findCls K (.ref CH) (.type "type") "__init__" = some (.val (.builtin "ValueError.__init__"))
section
variable {X : Cx} {e : Expr} {es : List Expr} {ta : TA} {CH : Addr} {x : Str} {p1 p2 pos : Pos}
theorem pe_baseInit {pl : Sem Bool} (B : BaseC X.K CH) (hg : Gl X x) (hm : X.mg x = some (.ref CH)) (ha : PA X (e :: es) ta) (hdb : (x == ("__debug__" : Str)) = false := by decide +kernel)
    (hc : eval (.Call (.Attribute (.Name x p1) "__init__" p2) (e :: es) [] pos) X.env = (do
      let ov ← eval (.Name x p1) X.env
      standAt p2.atName
      let (f, first) ← holding [ov] (getMethod ov "__init__" pl)
      callWith pos f first (backTo pos (starEach (e :: es) X.env)) (backToKw pos (keywordEach [] X.env))) := by rfl)
    (he : starEach (e :: es) X.env = (false, eval e X.env) :: starEach es X.env := by rfl) (hpl : (backTo pos (starEach es X.env)).any (·.1) = false := by rfl) :
    PE X (.Call (.Attribute (.Name x p1) "__init__" p2) (e :: es) [] pos) (tVeI X.K ta) := by
  constructor
  intro pins s σ H Q I h
  refine PySem.W.methodCall_KW (ld_glob I hg hm ?_ hdb) hc
  refine PySem.W.method_cls I.kIn B.sp (PySem.W.cls_value I.kIn B.rd B.ini (by decide +kernel) ?_)
  have I' := I.tok (s.toks + 1)
  refine PyProof.Rows.callWith_method1 (thn (ha.run pos pins _ σ H _ I' h) fun us s1 ⟨vs, H1, I1, r1, a, C, ws, ev, hl, T, ea, q⟩ => ?_) he hpl
  subst ev
  match us, r1 with
  | u0 :: ur, .cons ra rr =>
    obtain rfl : u0 = Value.ref a := ra
    have hlen : ur.length ≤ sizeLine := by
      have := Paired.length rr
      have := sizeLine_eq
      omega
    exact oinit_ok T I1 ea hlen fun s' J => ⟨.non, H1, J, rfl, q⟩
end
/-! ### __init__ of an error -/
def tSts (K : PySem.W.Frag) : List (Str × Nat) → TS
  | [] => tNext
  | q :: r => tSeq (tOst K q.1 (tVar 0) (tVar q.2)) (tSts K r)
/-- an error's __init__: it keeps its arguments in the fields -/
def SpI (C : Addr) (fs : List Str) : Sp := fun vs H Q _ => ∃ a ws, vs = .ref a :: ws ∧ H a = some (exo a C none) ∧ ws.length = fs.length ∧
  ∀ d H2, H d = none → d ≠ a → H2 a = some (exo a C (some d)) → H2 d = some (exd d (fs.zip ws).reverse) → (∀ b, b ≠ a → b ≠ d → H2 b = H b) → Q .non H2
theorem sts_ok {K : PySem.W.Frag} {C a d : Addr} (T : OexC K C) {D : Ends} {σ : St} (had : d ≠ a) (h0 : σ[0]? = some (some (V.ref a))) : ∀ (l : List (Str × Nat)) (ws : List V) (gs : List (Str × V)) (H : Hp), l.length = ws.length → gs.length + l.length ≤ 900 → (∀ p ∈ l, PySem.W.findIn K (.ref C) p.1 = some none) →
    (∀ (j : Nat) (p : Str × Nat) (w : V), l[j]? = some p → ws[j]? = some w → σ[p.2]? = some (some w)) → H a = some (exo a C (some d)) → H d = some (exd d gs) →
    (∀ H', H' a = H a → H' d = some (exd d (((l.map (·.1)).zip ws).reverse ++ gs)) → (∀ b, b ≠ d → H' b = H b) → D.nx σ H') → tSts K l D σ H
  | [], [], gs, H, _, _, _, _, ha, hd, k => k H rfl (by simpa using hd) fun _ _ => rfl
  | q :: r, w :: ws, gs, H, hl, hz, hf, hw, ha, hd, k => by
    simp only [List.length_cons] at hl hz
    refine ⟨w, hw 0 q w rfl rfl, .ref a, h0, a, C, rfl, T, hf q (List.mem_cons_self ..), .inr ⟨d, gs, ha, hd, by omega, ?_⟩⟩
    refine sts_ok T had h0 r ws ((q.1, w) :: gs) _ (by omega) (by simp only [List.length_cons]; omega) (fun p hp => hf p (List.mem_cons_of_mem _ hp)) (fun j p w' h1 h2 => hw (j + 1) p w' h1 h2) ?_ upd_same fun H' e1 e2 e3 => ?_
    · rw [upd_ne (Ne.symm had)]; exact ha
    · refine k H' ?_ ?_ fun b hb => ?_
      · rw [e1, upd_ne (Ne.symm had)]
      · rw [e2]
        simp
      · rw [e3 b hb, upd_ne hb]
theorem ini_ok {P : Program} {w : World} {K : PySem.W.Frag} {mg : Str → Option Value} {base : Heap} {x qual : Str} {st : Stmt} {f C : Addr} {fd : FuncData} {N ps : List Str} {k : Nat} (Fu : Fun K x qual st f fd) (Sc : FnScope N ps (defScope st)) (T : OexC K C) (fs : List Str) (txt : Str)
    (hp : ps.length = fs.length + 1) (h0 : 0 < fs.length) (hz : fs.length ≤ 900) (hf : ∀ g ∈ fs, PySem.W.findIn K (.ref C) g = some none)
    (hbody : ∀ (cdv : Value) (A : Around) (outer : List PySem.Env) (s : Shared) (H : Hp) (E : XK), Room k (cxOf (L2N.CX P w) P w K mg base N qual (defScope st) f cdv A outer s H E).A →
      PSs (cxOf (L2N.CX P w) P w K mg base N qual (defScope st) f cdv A outer s H E) (defBody st) (tSeq (tDrop (tVeI K (tCons (tVar 0) (tCons (tC (.str txt)) tNil)))) (tSts K (fs.zipIdx 1)))) :
    FnOk P w K mg base (L2N.CX P w) (k + 1) f fd ps (SpI C fs) := by
  refine okN Fu Sc (fun vs H Q E ⟨a, ws, e, _, hl, _⟩ => ?_) fun cdv A outer s H vs Q E hr ⟨a, ws, e, ha, hl, q⟩ => ⟨_, hbody cdv A outer s H E hr, ?_⟩
  · rw [e, List.length_cons, hl, hp]
  · subst e
    have g0 : (L2.start N (V.ref a :: ws))[0]? = some (some (V.ref a)) := rfl
    have gi : ∀ (j : Nat) (v : V), ws[j]? = some v → (L2.start N (V.ref a :: ws))[j + 1]? = some (some v) := fun j v h => by
      unfold L2.start
      have hj := (List.getElem?_eq_some_iff.mp h).1
      rw [List.getElem?_append_left (by simp; omega), List.getElem?_map, List.getElem?_cons_succ, h]
      rfl
    refine ⟨_, g0, a, C, _, rfl, by simp, T, ha, ?_⟩
    match fs, ws, hl, h0 with
    | g :: gs, v :: vs, hl, _ =>
      simp only [List.length_cons] at hl hz
      refine ⟨v, gi 0 v rfl, .ref a, g0, a, C, rfl, T, hf g (List.mem_cons_self ..), .inl ⟨ha, fun d hd hda => ?_⟩⟩
      refine sts_ok T hda g0 (gs.zipIdx 2) vs [(g, v)] _ (by simp; omega) (by simp; omega) (fun p hp => hf p.1 (List.mem_cons_of_mem _ ?_)) (fun j p w h1 h2 => ?_) upd_same ?_ fun H' e1 e2 e3 => ?_
      · obtain ⟨b, i⟩ := p
        have := List.mem_zipIdx hp
        rw [this.2.2]
        exact List.getElem_mem _
      · rw [List.getElem?_zipIdx] at h1
        cases hg : gs[j]? with
        | none => rw [hg] at h1; cases h1
        | some y =>
          rw [hg] at h1
          cases h1
          rw [show 2 + j = (j + 1) + 1 by omega]
          exact gi (j + 1) w h2
      · rw [upd_ne hda, upd_same]
      · refine q d H' hd hda ?_ ?_ fun b hb1 hb2 => ?_
        · rw [e1, upd_same]
        · rw [e2]
          have : ((gs.zipIdx 2).map (·.1)) = gs := by simp
          rw [this]
          simp
        · rw [e3 b hb2, upd_ne hb1, upd_ne hb2]
theorem zip_rev {α β : Type} : ∀ {xs : List α} {ys : List β}, xs.length = ys.length → (xs.zip ys).reverse = xs.reverse.zip ys.reverse
  | [], [], _ => rfl
  | x :: xs, y :: ys, h => by
    have h1 : xs.length = ys.length := Nat.succ.inj h
    rw [List.zip_cons_cons, List.reverse_cons, zip_rev h1, List.reverse_cons, List.reverse_cons, List.zip_append (by rw [List.length_reverse, List.length_reverse, h1])]
    rfl
theorem paired_rev {α β : Type} {R : α → β → Prop} : ∀ {xs : List α} {ys : List β}, Paired R xs ys → Paired R xs.reverse ys.reverse
  | _, _, .nil => .nil
  | _, _, .cons q t => by
    rw [List.reverse_cons, List.reverse_cons]
    exact paired_snoc (paired_rev t) q
/-! ### an error is made, its context None -/
section
variable {X : Cx} {pins : List (Addr × Obj)} {σ : St} {x : Str} {e : Expr} {es : List Expr} {ta : TA} {p pos : Pos}
/-- C(e, ..), C's own __init__ keeping sp -/
theorem pmk_oexN {ct : CXT} {C fi : Addr} {lv : Nat} {fd : FuncData} {names : List Str} {sp : Sp} {ds : List Value} {dvs : List V} (T : OexC X.K C) (hini : PySem.W.findIn X.K (.ref C) "__init__" = some (some (.ref fi))) (hty : PySem.W.typeIn X.K (.ref fi) = some (.type "function"))
    (G : FnOk X.prog X.w X.K X.mg X.base ct lv fi fd names sp) (room : Room (lv + 1) X.A) (bnd : Binds X.K fd names ds) (dv : Vals dvs ds) (hps : Passes ct X (fun _ _ _ => False)) (hgl : Gl X x) (hmg : X.mg x = some (.ref C)) (args : PA X (e :: es) ta)
    (hdb : (x == ("__debug__" : Str)) = false := by decide +kernel) (hst : starEach (e :: es) X.env = (false, eval e X.env) :: starEach es X.env := by rfl) (hns : (backTo pos (starEach es X.env)).any (·.1) = false := by rfl) :
    L2N.PMk X (.Call (.Name x p) (e :: es) [] pos) (tMkO C sp dvs ta) := by
  intro pins s σ H Q I hh
  obtain ⟨nm, qn, N, bs, bm, sn, sub, ab, col, dd, k0, k1, k2, k3, k5, lkC, refs⟩ := T.cls
  refine wpAny_Call_Name_kw (ld_glob I hgl hmg ?_ hdb)
  refine PySem.W.callWith_K (h₀ := X.base) I.ok.mod.kin T.kC ?_ hst hns
  refine thn (args.run pos pins s σ H _ I hh) fun us s1 ⟨vs, H1, J, rel, short, want⟩ => ⟨J.kIn, ?_⟩
  show wpAny _ _ (call (.ref C) us) _ _ _
  obtain ⟨hp, gs, drn, tok, os⟩ := s1
  -- the place of the new object, behind its tuple of arguments
  let at_ := hp.objs.size + 1
  have up : hp.objs.size ≤ at_ := Nat.le_succ _
  have asked := want at_ (J.hok.fresh up)
  have keep : ∀ b o, hp.get? b = some o → ((hp.push (PySem.W.kdv_tup us)).push (PySem.HandSPX.excO C hp.objs.size)).get? b = some o :=
    fun b o h0 => Heap.get?_push_of_some _ (Heap.get?_push_of_some _ h0)
  have there : ((hp.push (PySem.W.kdv_tup us)).push (PySem.HandSPX.excO C hp.objs.size)).get? (hp.objs.size + 1) = some (PySem.HandSPX.excO C hp.objs.size) := by heap_get
  have J2 : Inv X pins σ (upd H1 at_ (exo at_ C none)) ⟨(hp.push (PySem.W.kdv_tup us)).push (PySem.HandSPX.excO C hp.objs.size), gs, drn, tok, os⟩ :=
    J.laid (t' := tok) (a := at_) (o := exo at_ C none) (h' := (hp.push (PySem.W.kdv_tup us)).push (PySem.HandSPX.excO C hp.objs.size)) keep up (exo_ok there)
  have all : Vals (V.ref at_ :: (vs ++ dvs)) (Value.ref at_ :: (us ++ ds)) := Paired.cons rfl (rel.append dv)
  have many : (Value.ref at_ :: us ++ ds).length = names.length := by
    have z := all.length
    rw [G.len _ _ _ _ asked] at z
    exact z.symm
  have fits : us.length ≤ sizeLine := by
    have z := Paired.length rel
    have z2 := sizeLine_eq
    omega
  have inner := G.run _ X.stack _ _ ⟨Value.ref at_ :: us, []⟩ (Value.ref at_ :: (us ++ ds)) _ _ (fun _ _ _ => False) (room.make C us []) (J2.env0.make C us []) (bnd _ (Value.ref at_ :: us) J2.kIn many) all asked
  refine wpAny_call (PySem.HandSPX.call_own F.excBase_ValueError (fun Y => PySem.HandSPX.refsVE_contains Y bm refs) (J.kIn _ _ lkC) (PySem.W.looks_findIn J.kIn hini) (fun self => PySem.W.bind_fn J.kIn self hty) fits (codeAny_mono inner fun r s' hr => ?_))
  match r, hr with
  | .error er, hr => exact hps pins σ _ _ er s' J2 hr
  | .ok (.ret u), hr =>
    obtain ⟨v, H2, os2, bare2, un2, hok2, rv, ev, d, fs, ea, ed, hd1, q2⟩ := hr
    subst ev
    obtain ⟨h2, g2, d2, t2, os'⟩ := s'
    obtain ⟨t0, G', J3, kG, ge, hoe, na⟩ := mk_end0 (d2 := d2) (t2 := t2) J up keep un2 hok2 os2 bare2 ea ed hd1
    refine ⟨rv, at_, _, _, ⟨G', g2, d2, t2, os'⟩, _, .ref C, some d, rfl, J3, kG, ge, hoe, ⟨rfl, rfl, fun vs' z => ?_⟩, rfl, rfl, na, rfl, bare2, raises_own T.exC T.tyC, q2⟩
    cases z
    rfl
  | .ok .next, hr => exact False.elim hr
  | .ok .brk, hr => exact False.elim hr
  | .ok .cont, hr => exact False.elim hr
end
/-! ### raise -/
def rsR (c : Nat) (fs : List Str) (v : Ev.Env) : Option (List Dv × Sto) → SRes
  | some (ds, S) => if ds.length = fs.length then .ex ⟨c, fs.reverse, ds.reverse⟩ v S else .bad
  | none => .bad
/-- raise C(e, ..): fs the fields that __init__ keeps -/
def sRaise (c : Nat) (fs : List Str) (fa : Fr → Sto → Res (List SV)) : Fr → Sto → SRes := fun F S => (fa F S).st F fun as S1 => rsR c fs F.v (frzs S1 as)
section
variable {X : Cx} {cl : CL} {Wx : WX} {e : Expr} {es : List Expr} {fa : Fr → Sto → Res (List SV)} {x : Str} {p pos pos' : Pos} {c k : Nat} {fI : Addr} {fd : FuncData} {ps fs : List Str}
theorem sv_raise (hc : X.calm = true) (tk : L2N.Takes X Wx) (T : OexC X.K (cl c)) (iC : PySem.W.findIn X.K (.ref (cl c)) "__init__" = some (some (.ref fI))) (tI : PySem.W.typeIn X.K (.ref fI) = some (.type "function"))
    (F1 : FnOk X.prog X.w X.K X.mg X.base (L2N.CX X.prog X.w) k fI fd ps (SpI (cl c) fs)) (hr : Room (k + 1) X.A) (hb : Binds X.K fd ps []) (hg : Gl X x) (hm : X.mg x = some (.ref (cl c))) (ha : PA X (e :: es) (RA X cl Wx fa)) (hz : fs.length ≤ 900 := by decide)
    (hdb : (x == ("__debug__" : Str)) = false := by decide +kernel) (he : starEach (e :: es) X.env = (false, eval e X.env) :: starEach es X.env := by rfl) (hpl : (backTo pos (starEach es X.env)).any (·.1) = false := by rfl) :
    PS X (.Raise (some (.Call (.Name x p) (e :: es) [] pos)) none pos') (RS X cl Wx (sRaise c fs fa)) :=
  PS.weak (L2N.ps_raise hc tk (pmk_oexN (dvs := []) (ds := []) T iC tI F1 hr hb .nil (L2N.passes_call (E := fun _ _ _ => False) tk fun _ _ _ _ z => z.elim) hg hm ha hdb he hpl)) fun D σ H ⟨W, F, S, a, o⟩ => by
    refine RA.ofS a o fun W1 S1 as vs H1 g1 l1 a1 q1 o1 => ?_
    unfold rsR at o1
    split at o1
    · rename_i ds S2 hf
      split at o1
      · rename_i hl
        obtain ⟨n2, w2, k2⟩ := frzs_ok (K := X.K) (cl := cl) hf
        obtain ⟨W2, e2, l2, r2, q2⟩ := k2 W1 H1 vs a1.rel q1
        have lv : vs.length = fs.length := by rw [← q2.length, hl]
        have a2 := a1.on ⟨Nat.le_of_eq n2.symm, fun b _ => w2 b⟩ l2 r2
        refine ⟨by omega, fun y hy => ⟨y, vs ++ [], rfl, upd_same, by rw [List.append_nil, lv], fun d H2 hd hda e1 e2' e3 => ⟨rfl, d, _, e1, e2', ?_, ?_⟩⟩⟩
        · rw [upd_ne hda] at hd; exact hd
        · have hd1 : H1 d = none := by rw [upd_ne hda] at hd; exact hd
          have hH : upd (del H2 y) d (.xd (fs.zip (vs ++ [])).reverse) = upd H1 d (.xd (fs.zip (vs ++ [])).reverse) := by
            funext b
            by_cases hb : b = d
            · rw [hb, upd_same, upd_same]
            · rw [upd_ne hb, upd_ne hb]
              by_cases hb2 : b = y
              · rw [hb2, del_same, hy]
              · rw [del_ne hb2, e3 b hb2 hb, upd_ne hb2]
          rw [hH, List.append_nil]
          have r3 := r2.extra (d := d) (ho := .xd (fs.zip vs).reverse) hd1
          refine o1 W2 σ _ _ _ ⟨Nat.le_of_eq n2.symm, fun b _ => w2 b⟩ l2 ⟨a2.b, r3, a2.env, a2.gh⟩ ⟨rfl, by simp [hl], .inr ⟨d, vs.reverse, rfl, ?_, RelDs.of ?_⟩⟩
          · rw [upd_same]
            congr 2
            exact zip_rev lv.symm
          · exact paired_rev q2.paired
      · exact o1.elim
    · exact o1.elim
end
/-! ### try .. except -/
/-- the suite's end: e's name is gone -/
def tryE (i : Nat) : SRes → SRes
  | .nx v S => .nx (v.set i none) S
  | .bk v S => .bk (v.set i none) S
  | .ct v S => .ct (v.set i none) S
  | .rt x S => .rt x S
  | .ex _ _ _ => .bad
  | .bad => .bad
def tryC (i : Nat) (h : Exc → Fr → Sto → SRes) (b : Nat) (e : Exc) (v : Ev.Env) (S : Sto) : Option Bool → SRes
  | some true => tryE i (h e ⟨b, v.set i none⟩ S)
  | some false => .ex e v S
  | none => .bad
def tryR (ok : Nat → Option Bool) (i : Nat) (h : Exc → Fr → Sto → SRes) (b : Nat) : SRes → SRes
  | .ex e v S => tryC i h b e v S (ok e.c)
  | r => r
/-- try: f, except C as n (slot i): h -/
def sTryAs (ok : Nat → Option Bool) (i : Nat) (f : Fr → Sto → SRes) (h : Exc → Fr → Sto → SRes) : Fr → Sto → SRes := fun F S => tryR ok i h F.b (f F S)
/-- what the world keeps of a caught error -/
def XG (K : PySem.W.Frag) (cl : Nat → Addr) (W : Wd) (e : Exc) (c : Value) (d : Option Addr) : Prop :=
  c = .ref (cl e.c) ∧ e.fs.length = e.xs.length ∧ (e.fs = [] ∧ d = none ∨ ∃ dd vs, d = some dd ∧ W.G dd = some (.xd (e.fs.zip vs)) ∧ RelDs K cl W.G e.xs vs)
theorem XG.le {K : PySem.W.Frag} {cl : Nat → Addr} {n : Nat} {W W' : Wd} {e : Exc} {c : Value} {d : Option Addr} (l : Le n W W') (h : XG K cl W e c d) : XG K cl W' e c d := by
  obtain ⟨h1, h2, h3⟩ := h
  refine ⟨h1, h2, h3.imp id fun ⟨dd, vs, h4, h5, h6⟩ => ?_⟩
  obtain ⟨o', e', s⟩ := l.g _ _ h5
  rw [s.plain rfl] at e'
  exact ⟨dd, vs, h4, e', h6.le l⟩
/-- within the suite: slot i is the error at a, as long as nobody stores there -/
def CL.exc (cl : Nat → Addr) (K : PySem.W.Frag) (i : Nat) (a : Addr) (e : Exc) (c : Value) (d : Option Addr) : CL where
  f := cl
  gh := fun W v σ => XG K cl W e c d ∧ (v[i]? = some none → σ[i]? = some (some (.ref a)))
  mono := fun l h => ⟨h.1.le l, h.2⟩
  put := fun {W v σ} j x y h => ⟨h.1, fun hv => by
    by_cases hj : j = i
    · subst hj
      rw [List.getElem?_set] at hv
      split at hv
      · split at hv <;> cases hv
      · exact absurd rfl (by assumption)
    · rw [List.getElem?_set_ne hj] at hv ⊢
      exact h.2 hv⟩
theorem EnvR.del {K : PySem.W.Frag} {cl : Nat → Addr} {W : Wd} {n : Nat} {env : Ev.Env} {σ : St} (r : EnvR K cl W n env σ) (i : Nat) (z : Option V) : EnvR K cl W n (env.set i none) (σ.set i z) := by
  refine ⟨by rw [List.length_set, List.length_set]; exact r.len, fun j sv e => ?_⟩
  by_cases h : i = j
  · subst h
    rw [List.getElem?_set] at e
    split at e
    · split at e <;> cases e
    · exact absurd rfl (by assumption)
  · rw [List.getElem?_set_ne h] at e ⊢
    exact r.get j sv e
section
variable {X : Cx} {f0 : Nat → Addr} {Wx : WX} {f : Fr → Sto → SRes} {h : Exc → Fr → Sto → SRes} {n x : Str} {i : Nat} {c0 : Value} {body suite : List Stmt} {b₀ : Stmt} {np pos pos' : Pos} {ok : Nat → Option Bool}
/-- the suite, as told to the rule -/
def tSui (X : Cx) (f0 : Nat → Addr) (i : Nat) (h : Exc → Fr → Sto → SRes) (a : Addr) (cls : Value) (d : Option Addr) : TS := fun D σ H => ∃ e, RS X (CL.exc f0 X.K i a e cls d) WF (h e) D σ H
theorem sv_tryAs (i : Nat) (hs : X.stack = X.env :: X.outer) (hf : X.env.frame = some X.env.locals) (hN : X.N.Nodup) (hi : X.N[i]? = some n) (hln : X.env.kindOf n = some .local) (hc : Names X x c0) (tk : L2N.Takes X Wx)
    (hm : ∀ k b, ok k = some b → PySem.W.exmOne X.K (.ref (f0 k)) c0 = some b)
    (hb : ∀ (W : WX) (pn : List (Addr × Obj)) (xe : Value → Shared → Prop), L2N.Takes (X.tr pn xe) W → PassesOwn (model X.prog X.w) X.A X.env xe → PSs (X.tr pn xe) body (RS (X.tr pn xe) (CL.pure f0) W f))
    (hsu : ∀ (e : Exc) (a : Addr) (oe : Obj) (cls : Value) (d : Option Addr) (pn : List (Addr × Obj)), L2N.Zn cls d oe → (∃ vs, oe.data = .fields vs) → PSs (X.suite a ((a, oe) :: pn)) (b₀ :: suite) (RS (X.suite a ((a, oe) :: pn)) (CL.exc f0 X.K i a e cls d) WF (h e))) :
    PS X (.Try body [.ExceptHandler (some (.Name x np)) (some n) (b₀ :: suite) pos'] [] [] pos) (RS X (CL.pure f0) Wx (sTryAs ok i f h)) :=
  PS.weak (L2N.ps_try_as (tb := fun W => RS X (CL.pure f0) W f) (ts := tSui X f0 i h) hs hf hN hi hln hc tk (fun W pn xe tk' pa => hb W pn xe tk' pa) (fun a oe cls d pn hz hf => ⟨fun pins s σ H D I ⟨e, q⟩ => (hsu e a oe cls d pn hz hf).run pins s σ H D I q⟩)) fun D σ H ⟨W, F, S, a, o⟩ => by
    refine ⟨W, F, S, a, ?_⟩
    unfold sTryAs at o
    cases hr : f F S with
    | nx v S1 => rw [hr] at o; exact o
    | bk v S1 => rw [hr] at o; exact o
    | ct v S1 => rw [hr] at o; exact o
    | rt v S1 => rw [hr] at o; exact o
    | bad => rw [hr] at o; exact o.elim
    | ex e v S1 =>
      rw [hr] at o
      intro W' σ' H' c d g l a1 rx
      have o1 : OutS X.K (CL.pure f0) Wx D F.b W S (tryC i h F.b e v S1 (ok e.c)) := o
      have rc : c = .ref (f0 e.c) := rx.1
      unfold tryC at o1
      split at o1
      · rename_i hk
        refine ⟨true, by rw [rc]; exact hm _ _ hk, fun _ y hy => ?_, fun z => nomatch z⟩
        -- what the error's dict holds stays
        obtain ⟨_, rl, rd⟩ := rx
        have pin : ∃ W2, W2.ρ = W'.ρ ∧ Le S1.length W' W2 ∧ Rel X.K f0 W2 S1 H' ∧ XG X.K f0 W2 e c d := by
          rcases rd with rd | ⟨dd, vs, h1, h2, h3⟩
          · exact ⟨W', rfl, .refl _ _, a1.rel, rc, rl, .inl rd⟩
          · cases hg : W'.G dd with
            | some u =>
              have := a1.rel.fz dd u hg
              rw [h2] at this
              cases this
              exact ⟨W', rfl, .refl _ _, a1.rel, rc, rl, .inr ⟨dd, vs, h1, hg, h3⟩⟩
            | none =>
              have l2 : Le S1.length W' ⟨W'.ρ, upd W'.G dd (.xd (e.fs.zip vs)), W'.L⟩ := gpin hg _
              refine ⟨⟨W'.ρ, upd W'.G dd (.xd (e.fs.zip vs)), W'.L⟩, rfl, l2, ⟨fun b u e1 => ?_, fun j mo e1 => ?_, a1.rel.inj, a1.rel.lk⟩, rc, rl, .inr ⟨dd, vs, h1, upd_same, h3.le l2⟩⟩
              · have e1 : upd W'.G dd (.xd (e.fs.zip vs)) b = some u := e1
                by_cases hb : b = dd
                · rw [hb, upd_same] at e1
                  rw [hb, h2, e1]
                · rw [upd_ne hb] at e1
                  exact a1.rel.fz b u e1
              · refine (a1.rel.st j mo e1).keep l2 (Nat.le_refl _) rfl (fun hm g0 => ?_) fun _ => rfl
                show upd _ _ _ _ = _
                rw [upd_ne fun z => ?_]
                · exact g0
                · have q := a1.rel.st j mo e1
                  rw [z] at q
                  cases mo with
                  | lst xs => obtain ⟨_, _, q, _⟩ := q; rw [h2] at q; cases q
                  | dic ks xs => obtain ⟨_, _, q, _⟩ := q; rw [h2] at q; cases q
                  | ins c fs xs => obtain ⟨_, _, _, q, _⟩ := q; rw [h2] at q; cases q
                  | frz x => cases hm
                  | tup xs => obtain ⟨_, _, q, _⟩ := q; rw [h2] at q; cases q
                  | lck ks xs => obtain ⟨_, _, _, ⟨q, _⟩, _⟩ := q; rw [h2] at q; cases q
        obtain ⟨W2, e2, l2, r2, xg⟩ := pin
        refine ⟨e, W2, ⟨F.b, v.set i none⟩, S1, ⟨a1.b, r2, (a1.env.le l2 (Nat.le_refl _)).del i _, xg, fun hv => ?_⟩, ?_⟩
        · rw [List.getElem?_set] at hv ⊢
          rw [if_pos rfl] at hv ⊢
          split at hv
          · rename_i hl
            rw [if_pos (by rw [a1.env.len]; exact hl)]
          · cases hv
        · have gg : Gr F.b S1 S1 := .refl _ _
          have o2 := OutS.rebase (OutS.rebase o1 g l) gg l2
          cases hh : h e ⟨F.b, v.set i none⟩ S1 with
          | nx v2 S2 => rw [hh] at o2; exact fun W3 σ3 H3 g3 l3 a3 => o2 W3 _ H3 g3 l3 ⟨a3.b, a3.rel, a3.env.del i none, trivial⟩
          | bk v2 S2 => rw [hh] at o2; exact fun W3 σ3 H3 g3 l3 a3 => o2 W3 _ H3 g3 l3 ⟨a3.b, a3.rel, a3.env.del i none, trivial⟩
          | ct v2 S2 => rw [hh] at o2; exact fun W3 σ3 H3 g3 l3 a3 => o2 W3 _ H3 g3 l3 ⟨a3.b, a3.rel, a3.env.del i none, trivial⟩
          | rt v2 S2 => rw [hh] at o2; exact o2
          | ex e' v2 S2 => rw [hh] at o2; exact o2.elim
          | bad => rw [hh] at o2; exact o2.elim
      · rename_i hk
        exact ⟨false, by rw [rc]; exact hm _ _ hk, fun z => absurd z (by decide), fun _ => o1 W' σ' H' c d g l a1 rx⟩
      · exact o1.elim
end
/-! ### the caught error is looked at -/
/-- what an error's class says, so that its instances may be looked at -/
structure ErrC (K : PySem.W.Frag) (C : Addr) : Prop where
  hcl : (PySem.W.clsIn K C).isSome = true
  ga : PySem.W.findIn K (.ref C) "__getattribute__" = some (some (.builtin "BaseException.__getattribute__"))
  gg : PySem.W.findIn K (.ref C) "__getattr__" = some none
  exC : PySem.W.subIn K (.ref C) (.type "BaseException") = some true
  hdC : PySem.W.hasDictIn K C = true
  ha : PySem.W.findIn K (.ref C) "__class__" = some (some (.builtin "object.__class__"))
  hn : PySem.W.specialIn K (.builtin "object.__class__") "__get__" = some (some (.builtin "getset_descriptor.__get__"))
  ht : PySem.W.takesIn K (.builtin "object.__class__") = some true
  hm : PySem.W.mroIn K C (.type "object") = some true
theorem ErrC.xf {K : PySem.W.Frag} {C : Addr} (E : ErrC K C) : XfC K C := ⟨E.ga, E.gg, E.exC, E.hdC⟩
theorem lookA_rel {α : Type} {R : α → V → Prop} (f : Str) : ∀ {fs : List Str} {xs : List α} {vs : List V}, fs.length = xs.length → Paired R xs vs → ∀ x, lookF f fs xs = some x → ∃ v, (fs.zip vs).lookup f = some v ∧ R x v
  | [], [], [], _, .nil, _, e => by cases e
  | a :: fs, x :: xs, v :: vs, l, .cons q t, y, e => by
    unfold lookF at e
    rw [List.zip_cons_cons, List.lookup_cons]
    by_cases h : f = a
    · rw [if_pos h] at e
      have hb : (f == a) = true := beq_iff_eq.mpr h
      simp only [hb]
      cases e
      exact ⟨v, rfl, q⟩
    · rw [if_neg h] at e
      have hb : (f == a) = false := beq_eq_false_iff_ne.mpr h
      simp only [hb]
      exact lookA_rel f (Nat.succ.inj l) t y e
def isHole : Option (Option SV) → Bool
  | some none => true
  | _ => false
theorem isHole_eq {x : Option (Option SV)} (h : isHole x = true) : x = some none := by
  unfold isHole at h
  split at h
  · rfl
  · cases h
def xfR (nm : Str) (e : Exc) (S : Sto) : Option Dv → Res SV
  | some y => .ok (.d y) S
  | none => .bad
/-- e.nm -/
def eXf (i : Nat) (e : Exc) (cs : List Nat) (nm : Str) : Fr → Sto → Res SV := fun F S => if isHole F.v[i]? = true ∧ cs.contains e.c = true then xfR nm e S (lookF nm e.fs e.xs) else .bad
def xiR (S : Sto) : Option Bool → Res SV
  | some b => .ok (.d (.bl b)) S
  | none => .bad
/-- isinstance(e, ..) -/
def eXi (i : Nat) (e : Exc) (ans : Nat → Option Bool) : Fr → Sto → Res SV := fun F S => if isHole F.v[i]? = true then xiR S (ans e.c) else .bad
section
variable {X : Cx} {f0 : Nat → Addr} {i : Nat} {a : Addr} {e : Exc} {cls : Value} {d : Option Addr} {oe : Obj} {pn : List (Addr × Obj)} {n : Str} {p pos : Pos}
theorem ev_xf {cs : List Nat} {nm : Str} (hT : ∀ c, c ∈ cs → ErrC X.K (f0 c) ∧ PySem.W.findIn X.K (.ref (f0 c)) nm = some none) (hz : Zc cls d oe) (hf : ∃ vs, oe.data = .fields vs) (hN : X.N[i]? = some n) (hv : Vis X.env.scope n)
    (hd : (n == ("__debug__" : Str)) = false := by decide +kernel) (hcd : (n == ("__classdict__" : Str)) = false := by decide +kernel) (hb : attributeBase (.Name n p) nm X.env (eval (.Name n p) X.env) = eval (.Name n p) X.env := by rfl) :
    PE (X.suite a ((a, oe) :: pn)) (.Attribute (.Name n p) nm pos) (RE (X.suite a ((a, oe) :: pn)) (CL.exc f0 X.K i a e cls d) WF (eXf i e cs nm)) := by
  by_cases hcs : cs.contains e.c = true
  · obtain ⟨T, hno⟩ := hT e.c (by simpa using hcs)
    refine PE.weak (pe_xf T.xf hno hz hf (pe_var (X := X.suite a ((a, oe) :: pn)) hN hv hd hcd) hb) fun σ H Q ⟨W, F, S, t, o⟩ => ?_
    unfold eXf at o
    split at o
    · rename_i hh
      obtain ⟨⟨h1, h2, h3⟩, h4⟩ := t.gh
      unfold xfR at o
      split at o
      · rename_i y hy
        rcases h3 with h3 | ⟨dd, vs, h5, h6, h7⟩
        · rw [h3.1] at hy; cases hy
        · obtain ⟨v, e1, e2⟩ := lookA_rel nm h2 h7.paired y hy
          exact ⟨_, h4 (isHole_eq hh.1), rfl, h1, dd, _, v, h5, t.rel.fz _ _ h6, e1, o.here t.rel e2⟩
      · exact o.elim
    · exact o.elim
  · refine ⟨fun pins s σ H Q I ⟨W, F, S, t, o⟩ => ?_⟩
    unfold eXf at o
    rw [if_neg fun z => hcs z.2] at o
    exact o.elim
/-- isinstance of the caught error -/
def rXi (X : Cx) (C a : Addr) (d : Option Addr) : List V → Hp → VK → Prop := fun xs H Q => (d = none ∨ ∃ dd fs, d = some dd ∧ H dd = some (.xd fs)) ∧
  ((∃ (c : V) (u : Value) (b : Bool), xs = [.ref a, c] ∧ ClsV c u ∧ PySem.W.kitOne X.K (.ref C) u = some b ∧ Q (.bl b) H) ∨
   ∃ (tp : Addr) (cs : List V) (us : List Value) (b : Bool), xs = [.ref a, .ref tp] ∧ H tp = some (.tup cs) ∧ Paired ClsV cs us ∧ PySem.W.kitAny X.K (.ref C) us = some b ∧ Q (.bl b) H)
theorem call_xi {C : Addr} (E : ErrC X.K C) (hz : Zc (.ref C) d oe) (hf : ∃ vs, oe.data = .fields vs) : CallR (X.suite a ((a, oe) :: pn)) (.builtin "isinstance") (rXi X C a d) := by
  intro pins s σ H xs us Q I r ⟨hd, h⟩
  obtain ⟨hget, _⟩ := I.pin (a, oe) (List.mem_append_left _ List.mem_cons_self)
  obtain ⟨vs, hv⟩ := hf
  have J : ∃ od, PySem.W.InstAt s.heap a oe C od := by
    rcases hd with hd | ⟨dd, fs, hd, hx⟩
    · exact ⟨none, hget, hz.1, by unfold PySem.W.notCls; rw [hv] <;> rfl, by rw [hz.2, hd]; trivial⟩
    · have hx : ObjOk X.prog X.w H s.heap dd (.xd fs) := I.hok dd _ hx
      obtain ⟨mA, hns, _⟩ := hx
      obtain ⟨od, ho, _⟩ := lookIn_ns hns
      exact ⟨some od, hget, hz.1, by unfold PySem.W.notCls; rw [hv] <;> rfl, by rw [hz.2, hd]; exact ho⟩
  obtain ⟨od, J⟩ := J
  have Z := PySem.W.kitx_exc (K := X.K) (x := a) (ox := oe) (od := od) E.hcl E.ga E.gg E.exC E.ha E.hn E.ht E.hm
  rcases h with ⟨c, u, b, rfl, k, e1, q⟩ | ⟨tp, cs, ws, b, rfl, hT, k, e1, q⟩
  · obtain ⟨u1, u2, rfl, r1, r2⟩ := vals2 r
    have e2 := k.eq r2
    subst e2
    obtain rfl : u1 = Value.ref a := r1
    exact PySem.W.kia_one Z I.kIn J e1 (fun z => nomatch z) fun tk => ⟨.bl b, H, I.tok tk, rfl, q⟩
  · obtain ⟨u1, u2, rfl, r1, r2⟩ := vals2 r
    obtain rfl : u1 = Value.ref a := r1
    obtain rfl : u2 = Value.ref tp := r2
    obtain ⟨_, its, rv, o, h1, h2, m, h3⟩ := (show ObjOk X.prog X.w H s.heap tp (.tup cs) from I.hok tp _ hT)
    have e3 := ClsV.all k rv
    subst e3
    obtain ⟨oc, od', dt, sl⟩ := o
    simp only at h2 h3
    subst h2 h3
    exact PySem.W.kia_tup Z I.kIn J h1 e1 (fun z => nomatch z) fun tk => ⟨.bl b, H, I.tok tk, rfl, q⟩
variable {ans : Nat → Option Bool} {ec : Expr} {c : V} {u : Value} {pc : Pos}
theorem ev_xi (hE : ∀ k b, ans k = some b → ErrC X.K (f0 k)) (hk : ∀ k b, ans k = some b → PySem.W.kitOne X.K (.ref (f0 k)) u = some b) (hz : Zc cls d oe) (hf : ∃ vs, oe.data = .fields vs) (hN : X.N[i]? = some n) (hv : Vis X.env.scope n)
    (hg : Gl X "isinstance") (hm : X.mg "isinstance" = none) (hcl : PE (X.suite a ((a, oe) :: pn)) ec (tC c)) (hcv : ClsV c u)
    (hd : (n == ("__debug__" : Str)) = false := by decide +kernel) (hcd : (n == ("__classdict__" : Str)) = false := by decide +kernel)
    (he : starEach [.Name n p, ec] X.env = (false, eval (.Name n p) X.env) :: starEach [ec] X.env := by rfl) (he2 : starEach [ec] X.env = (false, eval ec X.env) :: starEach [] X.env := by rfl) (hpl : (backTo pos (starEach [ec] X.env)).any (·.1) = false := by rfl) :
    PE (X.suite a ((a, oe) :: pn)) (.Call (.Name "isinstance" pc) [.Name n p, ec] [] pos) (RE (X.suite a ((a, oe) :: pn)) (CL.exc f0 X.K i a e cls d) WF (eXi i e ans)) := by
  by_cases hc : cls = .ref (f0 e.c)
  · cases ha : ans e.c with
    | none =>
      refine ⟨fun pins s σ H Q I ⟨W, F, S, t, o⟩ => ?_⟩
      unfold eXi at o
      rw [ha] at o
      split at o <;> exact o.elim
    | some b =>
      subst hc
      refine PE.weak (pe_callB (X := X.suite a ((a, oe) :: pn)) (call_xi (X := X) (hE _ _ ha) hz hf) hg hm (by decide +kernel) (pa_cons (pe_var (X := X.suite a ((a, oe) :: pn)) hN hv hd hcd) (pa_cons hcl pa_nil he2) he) (by decide +kernel) (by decide +kernel) he hpl) fun σ H Q ⟨W, F, S, t, o⟩ => ?_
      unfold eXi at o
      split at o
      · rename_i hh
        rw [ha] at o
        obtain ⟨⟨h1, h2, h3⟩, h4⟩ := t.gh
        refine ⟨_, h4 (isHole_eq hh), ?_, .inl ⟨c, u, b, rfl, hcv, hk _ _ ha, o.here t.rel (RelD.bl b)⟩⟩
        exact h3.imp And.right fun ⟨dd, vs, h5, h6, _⟩ => ⟨dd, _, h5, t.rel.fz _ _ h6⟩
      · exact o.elim
  · refine ⟨fun pins s σ H Q I ⟨W, F, S, t, o⟩ => absurd t.gh.1.1 hc⟩
def tKs : List V → TA
  | [] => tNil
  | c :: r => tCons (tC c) (tKs r)
theorem tKs_of {cs : List V} {σ : St} {H : Hp} {Q : List V → Hp → Prop} (h : Q cs H) : tKs cs σ H Q := by
  induction cs generalizing Q with
  | nil => exact h
  | cons c r ih => exact ih (Q := fun xs H => Q (c :: xs) H) h
variable {ecs : List Expr} {cs : List V} {us : List Value} {kt : Nat} {pt : Pos}
/-- isinstance(e, (C1, C2, ..)) -/
theorem ev_xis (hE : ∀ k b, ans k = some b → ErrC X.K (f0 k)) (hk : ∀ k b, ans k = some b → PySem.W.kitAny X.K (.ref (f0 k)) us = some b) (hz : Zc cls d oe) (hf : ∃ vs, oe.data = .fields vs) (hN : X.N[i]? = some n) (hv : Vis X.env.scope n)
    (hg : Gl X "isinstance") (hm : X.mg "isinstance" = none) (hcl : PA (X.suite a ((a, oe) :: pn)) ecs (tKs cs)) (hcv : Paired ClsV cs us) (hsz : cs.length ≤ 1000 := by decide)
    (hd : (n == ("__debug__" : Str)) = false := by decide +kernel) (hcd : (n == ("__classdict__" : Str)) = false := by decide +kernel)
    (he : starEach [.Name n p, .Tuple ecs kt pt] X.env = (false, eval (.Name n p) X.env) :: starEach [.Tuple ecs kt pt] X.env := by rfl) (he2 : starEach [.Tuple ecs kt pt] X.env = (false, eval (.Tuple ecs kt pt) X.env) :: starEach [] X.env := by rfl) (hpl : (backTo pos (starEach [.Tuple ecs kt pt] X.env)).any (·.1) = false := by rfl) :
    PE (X.suite a ((a, oe) :: pn)) (.Call (.Name "isinstance" pc) [.Name n p, .Tuple ecs kt pt] [] pos) (RE (X.suite a ((a, oe) :: pn)) (CL.exc f0 X.K i a e cls d) WF (eXi i e ans)) := by
  by_cases hc : cls = .ref (f0 e.c)
  · cases ha : ans e.c with
    | none =>
      refine ⟨fun pins s σ H Q I ⟨W, F, S, t, o⟩ => ?_⟩
      unfold eXi at o
      rw [ha] at o
      split at o <;> exact o.elim
    | some b =>
      subst hc
      refine PE.weak (pe_callB (X := X.suite a ((a, oe) :: pn)) (call_xi (X := X) (hE _ _ ha) hz hf) hg hm (by decide +kernel) (pa_cons (pe_var (X := X.suite a ((a, oe) :: pn)) hN hv hd hcd) (pa_cons (pe_tup hcl) pa_nil he2) he) (by decide +kernel) (by decide +kernel) he hpl) fun σ H Q ⟨W, F, S, t, o⟩ => ?_
      unfold eXi at o
      split at o
      · rename_i hh
        rw [ha] at o
        obtain ⟨⟨h1, h2, h3⟩, h4⟩ := t.gh
        refine ⟨_, h4 (isHole_eq hh), tKs_of ⟨Nat.le_trans hsz (by decide), fun tp htp => ?_⟩⟩
        obtain ⟨r3, l3⟩ := t.rel.newF (ho := .tup cs) htp
        refine ⟨h3.imp And.right fun ⟨dd, vs, h5, h6, _⟩ => ⟨dd, e.fs.zip vs, h5, ?_⟩, .inr ⟨tp, cs, us, b, rfl, upd_same, hcv, hk _ _ ha, o _ _ _ (.refl _ _) l3 r3 (RelD.bl b)⟩⟩
        have q := t.rel.fz _ _ h6
        rw [upd_ne fun z => by rw [z, htp] at q; cases q]
        exact q
      · exact o.elim
  · refine ⟨fun pins s σ H Q I ⟨W, F, S, t, o⟩ => absurd t.gh.1.1 hc⟩
end
end Ev

set_option Elab.async false
set_option linter.all false
set_option maxRecDepth 100000
/-! Ev16: own calls within an except suite; how errors are reckoned. -/
namespace Ev
open PySem L2
/-- what is at hand in a body that runs while an error is handled -/
structure XOkH (X : Cx) (Wx : WX) (k : Nat) : Prop where
  hr : L2H.RoomH k X.A
  hot : L2H.HotC X
  tk : L2N.Takes X Wx
  hp : PassesOwn (model X.prog X.w) X.A X.env X.xe
  hu : X.A.units + 200 < cLine
  hu1 : X.A.units + 1 < cLine
abbrev FnHE (X : Cx) (cl : Nat → Addr) (k : Nat) (fa : Addr) (fd : FuncData) (ps : List Str) (g : Nat → List SV → Sto → Res SV) : Prop := L2H.FnH X.prog X.w X.K X.mg X.base (L2N.CX X.prog X.w) k fa fd ps (SpR X.K cl g)
theorem fn_okH {P : Program} {w : World} {K : PySem.W.Frag} {mg : Str → Option Value} {base : Heap} {cl : Nat → Addr} {x qual : Str} {st : Stmt} {f : Addr} {fd : FuncData} {N ps : List Str} {k np nn : Nat} {body : Fr → Sto → SRes} (Fu : Fun K x qual st f fd) (Sc : FnScope N ps (defScope st)) (hnp : ps.length = np) (hnn : N.length = nn)
    (hbody : ∀ (cdv : Value) (A : Around) (outer : List PySem.Env) (s : Shared) (H : Hp) (E : XK) (q : Addr × Obj), XOkH (L2H.cxH (L2N.CX P w) P w K mg base N qual (defScope st) f cdv A outer s H E q) (fun c d _ H => E c d H) k →
      PSs (L2H.cxH (L2N.CX P w) P w K mg base N qual (defScope st) f cdv A outer s H E q) (defBody st) (RS (L2H.cxH (L2N.CX P w) P w K mg base N qual (defScope st) f cdv A outer s H E q) (CL.pure cl) (fun c d _ H => E c d H) body)) :
    L2H.FnH P w K mg base (L2N.CX P w) (k + 1) f fd ps (SpR K cl (runF np nn body)) := by
  obtain ⟨oc, od, kV, doc, pm, an, cdv, ct, osl, rfl, lk, hcd⟩ := Fu.ex
  refine L2H.fn_ofH lk hcd Sc (fun vs H Q E ⟨W, S, as, b, hb, r, p, o⟩ => ?_) fun A outer s H vs Q E q hot hr ⟨W, S, as, b, hb, r, p, o⟩ => ?_
  · unfold runF at o
    split at o
    · rename_i hl; rw [hnp, ← hl, PySem.Paired.length p]
    · exact o.elim
  · refine ⟨_, hbody cdv A outer s H E q ⟨hr, ⟨q, ⟨hot.1, hot.2⟩, List.mem_cons_self ..⟩, L2N.takes_of rfl rfl rfl rfl, passes_of rfl, ?_, ?_⟩, ?_⟩
    · have := hr.un
      show (A.deeper _).units + 200 < cLine
      omega
    · have := hr.un
      show (A.deeper _).units + 1 < cLine
      omega
    unfold runF at o
    split at o
    · rename_i hl
      subst hl
      refine ⟨W, ⟨b, as.map some ++ List.replicate (nn - as.length) none⟩, S, ⟨hb, r, by rw [← hnn]; exact env_start p, trivial⟩, ?_⟩
      cases hr : body ⟨b, as.map some ++ List.replicate (nn - as.length) none⟩ S with
      | nx v2 S2 => rw [hr] at o; exact fun W' σ' H' g l a => o W' H' _ g l a.rel RelD.non
      | ct v2 S2 => rw [hr] at o; exact o.elim
      | bk v2 S2 => rw [hr] at o; exact o.elim
      | rt v S2 => rw [hr] at o; exact o
      | ex ec v2 S2 => rw [hr] at o; exact fun W' σ' H' c d g l a q => o W' H' c d g l a.rel q
      | bad => rw [hr] at o; exact o
    · exact o.elim
theorem fn_badH {P : Program} {w : World} {K : PySem.W.Frag} {mg : Str → Option Value} {base : Heap} {cl : Nat → Addr} {f : Addr} {fd : FuncData} {ps : List Str} {k : Nat} {g : Nat → List SV → Sto → Res SV} (h : ∀ b as S, g b as S = .bad) :
    L2H.FnH P w K mg base (L2N.CX P w) k f fd ps (SpR K cl g) :=
  ⟨fun vs H Q E ⟨W, S, as, b, hb, r, p, o⟩ => by rw [h] at o; exact o.elim, fun A outer s H args us vs Q E q _ _ _ _ _ _ ⟨W, S, as, b, hb, r, p, o⟩ => by rw [h] at o; exact o.elim⟩
section
variable {X : Cx} {cl : CL} {Wx : WX} {k : Nat} {fa : Addr} {fd : FuncData} {ps : List Str} {g : Nat → List SV → Sto → Res SV} {x : Str} {p pos : Pos} {e : Expr} {es : List Expr} {f : Fr → Sto → Res (List SV)}
theorem ev_callH (Fk : FnHE X cl k fa fd ps g) (hr : L2H.RoomH k X.A) (hot : L2H.HotC X) (tk : L2N.Takes X Wx) (hg : Gl X x) (hm : X.mg x = some (.ref fa)) (hk : PySem.W.keepIn X.K (.ref fa) = true) (hb : Binds X.K fd ps []) (ha : PA X (e :: es) (RA X cl Wx f))
    (hdb : (x == ("__debug__" : Str)) = false := by decide +kernel) (he : starEach (e :: es) X.env = (false, eval e X.env) :: starEach es X.env := by rfl) (hpl : (backTo pos (starEach es X.env)).any (·.1) = false := by rfl) :
    PE X (.Call (.Name x p) (e :: es) [] pos) (RE X cl Wx (eCall g f)) :=
  PE.weak (L2H.pe_callH (E := WE Wx) Fk hr hot hg hm hk hb (fun σ => L2N.passAt tk σ) ha hdb he hpl) fun σ H Q ⟨W, F, S, a, q⟩ =>
    RA.of a q fun W1 S1 as vs H1 g1 l1 a1 q1 o1 => sp_fin a1 q1 o1
theorem sv_forR1H {ea tgt : Expr} {p pc : Pos} {body : List Stmt} {tg : Tg} {fa : Fr → Sto → Res (List SV)} {fb : Fr → Sto → SRes} (hp : PassesOwn (model X.prog X.w) X.A X.env X.xe) (hot : L2H.HotC X) (hgl : Gl X "range") (hm : X.mg "range" = none) (ha : PA X [ea] (RA X cl Wx fa)) (hg : PG X tgt (RG X cl tg)) (hb : PSs X body (RS X cl Wx fb))
    (hs : starEach [ea] X.env = [(false, eval ea X.env)] := by rfl) : PS X (.For tgt (.Call (.Name "range" p) [ea] [] pc) body [] pos) (RS X cl Wx (sForR fa tg fb)) :=
  PS.weak (L2H.ps_forH hp hot (L2H.pi_range1H hgl hm ha hs) hg hb) fun D σ H ⟨W, F, S, a, o⟩ => by
    refine RA.ofS a o fun W1 S1 as vs H1 g1 l1 a1 q1 o1 => ?_
    split at o1
    · split at o1
      · rename_i n hn
        simp only [small62, Bool.and_eq_true, decide_eq_true_eq] at hn
        match vs, q1 with
        | [v], .cons q .nil =>
          cases q
          exact ⟨n, rfl, by omega, by omega, range_turns a1 o1 rfl rfl⟩
      · exact o1.elim
    · exact o1.elim
end
section
variable {X : Cx} {Wx : WX} {k : Nat} {a : Addr} {oe : Obj} {cls : Value} {d : Option Addr} {pn : List (Addr × Obj)}
theorem hot_suite (hz : L2N.Zn cls d oe) (hf : ∃ vs, oe.data = .fields vs) : L2H.HotC (X.suite a ((a, oe) :: pn)) := by
  obtain ⟨vs, hv⟩ := hf
  exact ⟨(a, oe), ⟨rfl, vs, hv, hz.2.2 vs hv⟩, List.mem_cons_self ..⟩
theorem XOk.suite (xo : XOk X Wx k) (hz : L2N.Zn cls d oe) (hf : ∃ vs, oe.data = .fields vs) : XOkH (X.suite a ((a, oe) :: pn)) WF k :=
  ⟨⟨xo.hr.dp, xo.hr.un⟩, hot_suite hz hf, tk_F, PassesOwn.never, xo.hu, xo.hu1⟩
theorem XOk.tr {W : WX} {pn : List (Addr × Obj)} {xe : Value → Shared → Prop} (xo : XOk X Wx k) (tk : L2N.Takes (X.tr pn xe) W) (pa : PassesOwn (model X.prog X.w) X.A X.env xe) : XOk (X.tr pn xe) W k :=
  ⟨xo.hr, tk, pa, xo.calm, xo.hu, xo.hu1⟩
end
/-! ### how errors are reckoned -/
def okF (l : List (Nat × Bool)) : Nat → Option Bool := fun k => l.lookup k
theorem okF_all {P : Nat → Bool → Prop} {l : List (Nat × Bool)} (h : ∀ q ∈ l, P q.1 q.2) : ∀ k b, okF l k = some b → P k b := by
  induction l with
  | nil => intro k b e; cases e
  | cons q r ih =>
    intro k b e
    unfold okF at e
    rw [List.lookup_cons] at e
    split at e
    · rename_i hk
      cases e
      rw [beq_iff_eq.mp hk]
      exact h q (List.mem_cons_self ..)
    · exact ih (fun z hz => h z (List.mem_cons_of_mem _ hz)) k b e
theorem okF_dom {P : Nat → Prop} {ks : List Nat} {l : List (Nat × Bool)} (h : ∀ k, k ∈ ks → P k) (hl : l.map (·.1) = ks := by rfl) : ∀ k b, okF l k = some b → P k := fun k b e =>
  okF_all (P := fun k _ => P k) (fun q hq => h q.1 (by rw [← hl]; exact List.mem_map_of_mem hq)) k b e
def kRs (c : Nat) (fs : List Str) (F : Fr) (r : Res (List SV)) : SRes := r.st F fun as S1 => rsR c fs F.v (frzs S1 as)
@[simp] theorem kRs_ok (c : Nat) (fs : List Str) (F : Fr) (as : List SV) (S : Sto) : kRs c fs F (.ok as S) = rsR c fs F.v (frzs S as) := Eq.trans rfl rfl
@[simp] theorem sRaise_ap (c : Nat) (fs : List Str) (fa : Fr → Sto → Res (List SV)) (F : Fr) (S : Sto) : sRaise c fs fa F S = kRs c fs F (fa F S) := Eq.trans rfl rfl
@[simp] theorem rsR_s (c : Nat) (fs : List Str) (v : Ev.Env) (ds : List Dv) (S : Sto) : rsR c fs v (some (ds, S)) = if ds.length = fs.length then .ex ⟨c, fs.reverse, ds.reverse⟩ v S else .bad := Eq.trans rfl rfl
@[simp] theorem sTryAs_ap (ok : Nat → Option Bool) (i : Nat) (f : Fr → Sto → SRes) (h : Exc → Fr → Sto → SRes) (F : Fr) (S : Sto) : sTryAs ok i f h F S = tryR ok i h F.b (f F S) := Eq.trans rfl rfl
@[simp] theorem tryR_ex (ok : Nat → Option Bool) (i : Nat) (h : Exc → Fr → Sto → SRes) (b : Nat) (e : Exc) (v : Ev.Env) (S : Sto) : tryR ok i h b (.ex e v S) = tryC i h b e v S (ok e.c) := Eq.trans rfl rfl
@[simp] theorem tryR_nx (ok : Nat → Option Bool) (i : Nat) (h : Exc → Fr → Sto → SRes) (b : Nat) (v : Ev.Env) (S : Sto) : tryR ok i h b (.nx v S) = .nx v S := Eq.trans rfl rfl
@[simp] theorem tryR_rt (ok : Nat → Option Bool) (i : Nat) (h : Exc → Fr → Sto → SRes) (b : Nat) (v : SV) (S : Sto) : tryR ok i h b (.rt v S) = .rt v S := Eq.trans rfl rfl
@[simp] theorem tryR_bk (ok : Nat → Option Bool) (i : Nat) (h : Exc → Fr → Sto → SRes) (b : Nat) (v : Ev.Env) (S : Sto) : tryR ok i h b (.bk v S) = .bk v S := Eq.trans rfl rfl
@[simp] theorem tryR_ct (ok : Nat → Option Bool) (i : Nat) (h : Exc → Fr → Sto → SRes) (b : Nat) (v : Ev.Env) (S : Sto) : tryR ok i h b (.ct v S) = .ct v S := Eq.trans rfl rfl
@[simp] theorem tryC_t (i : Nat) (h : Exc → Fr → Sto → SRes) (b : Nat) (e : Exc) (v : Ev.Env) (S : Sto) : tryC i h b e v S (some true) = tryE i (h e ⟨b, v.set i none⟩ S) := Eq.trans rfl rfl
@[simp] theorem tryC_f (i : Nat) (h : Exc → Fr → Sto → SRes) (b : Nat) (e : Exc) (v : Ev.Env) (S : Sto) : tryC i h b e v S (some false) = .ex e v S := Eq.trans rfl rfl
@[simp] theorem tryE_nx (i : Nat) (v : Ev.Env) (S : Sto) : tryE i (.nx v S) = .nx (v.set i none) S := Eq.trans rfl rfl
@[simp] theorem tryE_bk (i : Nat) (v : Ev.Env) (S : Sto) : tryE i (.bk v S) = .bk (v.set i none) S := Eq.trans rfl rfl
@[simp] theorem tryE_ct (i : Nat) (v : Ev.Env) (S : Sto) : tryE i (.ct v S) = .ct (v.set i none) S := Eq.trans rfl rfl
@[simp] theorem tryE_rt (i : Nat) (v : SV) (S : Sto) : tryE i (.rt v S) = .rt v S := Eq.trans rfl rfl
@[simp] theorem okF_nil (k : Nat) : okF [] k = none := Eq.trans rfl rfl
@[simp] theorem okF_cons (q : Nat × Bool) (r : List (Nat × Bool)) (k : Nat) : okF (q :: r) k = if k = q.1 then some q.2 else okF r k := by
  unfold okF
  rw [List.lookup_cons]
  by_cases h : k = q.1
  · rw [if_pos h, beq_iff_eq.mpr h]
  · rw [if_neg h, beq_eq_false_iff_ne.mpr h]
@[simp] theorem eXf_ap (i : Nat) (e : Exc) (cs : List Nat) (nm : Str) (F : Fr) (S : Sto) : eXf i e cs nm F S = if isHole F.v[i]? = true ∧ cs.contains e.c = true then xfR nm e S (lookF nm e.fs e.xs) else .bad := Eq.trans rfl rfl
@[simp] theorem xfR_s (nm : Str) (e : Exc) (S : Sto) (y : Dv) : xfR nm e S (some y) = .ok (.d y) S := Eq.trans rfl rfl
@[simp] theorem eXi_ap (i : Nat) (e : Exc) (ans : Nat → Option Bool) (F : Fr) (S : Sto) : eXi i e ans F S = if isHole F.v[i]? = true then xiR S (ans e.c) else .bad := Eq.trans rfl rfl
@[simp] theorem xiR_s (S : Sto) (b : Bool) : xiR S (some b) = .ok (.d (.bl b)) S := Eq.trans rfl rfl
@[simp] theorem isHole_t : isHole (some none) = true := Eq.trans rfl rfl
/-! ### which errors are which -/
section
variable {K : PySem.W.Frag}
theorem kit_err {C D : Addr} {b : Bool} (hi : PySem.W.isClsIn K D = true) (ht : PySem.W.typeIn K (.ref D) = some (.type "type")) (sf : PySem.W.subIn K (.ref C) (.ref C) = some true) (h : PySem.W.subIn K (.ref C) (.ref D) = some b) : PySem.W.kitOne K (.ref C) (.ref D) = some b := by
  unfold PySem.W.kitOne
  by_cases e : C = D
  · subst e
    rw [sf] at h
    cases h
    rw [if_pos (beq_self_eq_true _)]
  · rw [if_neg fun q => e (Value.ref.inj (beq_iff_eq.mp q))]
    show PySem.W.kitCls K (.ref C) (.ref D) = some b
    unfold PySem.W.kitCls
    simp only
    unfold PySem.W.isClsIn at hi
    rw [if_pos (by rw [hi, ht]; exact beq_self_eq_true _)]
    exact h
theorem kit_errT {C : Addr} {T : String} {b : Bool} (hm : PySem.W.kitMeta T = true) (h : PySem.W.subIn K (.ref C) (.type T) = some b) : PySem.W.kitOne K (.ref C) (.type T) = some b := by
  unfold PySem.W.kitOne
  rw [if_neg (by intro q; cases (beq_iff_eq.mp q))]
  show PySem.W.kitCls K (.ref C) (.type T) = some b
  unfold PySem.W.kitCls
  simp only
  rw [if_pos hm]
  exact h
theorem kit_nil {t : Value} : PySem.W.kitAny K t [] = some false := rfl
theorem kit_t {t u : Value} {r : List Value} (h : PySem.W.kitOne K t u = some true) : PySem.W.kitAny K t (u :: r) = some true := by unfold PySem.W.kitAny; rw [h]
theorem kit_f {t u : Value} {r : List Value} {b : Bool} (h : PySem.W.kitOne K t u = some false) (k : PySem.W.kitAny K t r = some b) : PySem.W.kitAny K t (u :: r) = some b := by unfold PySem.W.kitAny; rw [h]; exact k
end
end Ev

set_option Elab.async false
set_option linter.all false
set_option maxRecDepth 100000
/-! Ev17: is True, is False. -/
namespace Ev
open PySem L2
section
variable {X : Cx} {cl : CL}
def opIsB (S : Sto) (a b : SV) : Option Dv := match view S a, view S b with
  | some (.bl i), some (.bl j) => some (.bl (decide (i = j)))
  | _, _ => none
def opIsNotB (S : Sto) (a b : SV) : Option Dv := match view S a, view S b with
  | some (.bl i), some (.bl j) => some (.bl (!decide (i = j)))
  | _, _ => none
theorem ov_isb : OpR X (compareOp .Is) (ROp X cl opIsB) := OpR.weak op_is_bl fun x y H Q ⟨W, S, a, b, z, r, ra, rb, e, k⟩ => by
  unfold opIsB at e
  split at e
  · rename_i i j ea eb
    cases e
    exact ⟨i, j, view_bl r ea ra, view_bl r eb rb, k W H _ (.refl _ _) r (.bl _)⟩
  · cases e
theorem ov_isnotb : OpR X (compareOp .IsNot) (ROp X cl opIsNotB) := OpR.weak op_isnot_bl fun x y H Q ⟨W, S, a, b, z, r, ra, rb, e, k⟩ => by
  unfold opIsNotB at e
  split at e
  · rename_i i j ea eb
    cases e
    exact ⟨i, j, view_bl r ea ra, view_bl r eb rb, k W H _ (.refl _ _) r (.bl _)⟩
  · cases e
def eDic0 : Fr → Sto → Res SV := fun _ S => .ok (.d (.dic [] [])) S
theorem ev_dic0 {Wx : WX} {pos : Pos} : PE X (.Dict [] [] pos) (RE X cl Wx eDic0) :=
  PE.weak pe_dnewK fun σ H Q ⟨W, F, S, a, o⟩ => fun p hp => by
    obtain ⟨r3, l3⟩ := a.rel.newF (ho := .dK []) hp
    exact o _ _ _ (.refl _ _) l3 r3 (RelD.dic (ks := []) (vs := []) upd_same rfl ⟨rfl, rfl⟩ .nil)
def eDic0M : Fr → Sto → Res SV := fun _ S => .ok (.m S.length) (S ++ [.dic [] []])
theorem ev_dic0M {Wx : WX} {pos : Pos} : PE X (.Dict [] [] pos) (RE X cl Wx eDic0M) :=
  PE.weak pe_dnewK fun σ H Q ⟨W, F, S, a, o⟩ => fun p hp => by
    have r3 := a.rel.newM (p := p) (mo := .dic [] []) (ho := .dK []) hp ⟨a.rel.unone hp, [], upd_same, ⟨rfl, rfl⟩, .nil⟩
    refine o _ _ _ (Gr.add _ _ _ a.b) (W.add_le _ _) r3 ⟨?_, by rw [Wd.add_at]⟩
    rw [List.length_append]
    exact Nat.lt_succ_self _
end
@[simp] theorem eDic0_ap (F : Fr) (S : Sto) : eDic0 F S = .ok (.d (.dic [] [])) S := Eq.trans rfl rfl
@[simp] theorem eDic0M_ap (F : Fr) (S : Sto) : eDic0M F S = .ok (.m S.length) (S ++ [.dic [] []]) := Eq.trans rfl rfl
@[simp] theorem opIsB_bb (S : Sto) (i j : Bool) : opIsB S (.d (.bl i)) (.d (.bl j)) = some (.bl (decide (i = j))) := Eq.trans rfl rfl
@[simp] theorem opIsNotB_bb (S : Sto) (i j : Bool) : opIsNotB S (.d (.bl i)) (.d (.bl j)) = some (.bl (!decide (i = j))) := Eq.trans rfl rfl
end Ev

set_option Elab.async false
set_option linter.all false
set_option maxRecDepth 100000
/-! Ev18: slices of lists and tuples. -/
namespace Ev
open PySem L2
def cutG {α : Type} (xs : List α) (lo hi : Option Int) : List α := (xs.drop (HT.sIx xs.length 0 lo)).take (HT.sIx xs.length xs.length hi - HT.sIx xs.length 0 lo)
section
variable {K : PySem.W.Frag} {cl : Nat → Addr} {G : Hp}
theorem RelDs.drop : ∀ {xs : List Dv} {vs : List V} (n : Nat), RelDs K cl G xs vs → RelDs K cl G (xs.drop n) (vs.drop n)
  | _, _, 0, h => h
  | _, _, _ + 1, .nil => .nil
  | _, _, n + 1, .cons _ t => RelDs.drop n t
theorem RelDs.take : ∀ {xs : List Dv} {vs : List V} (n : Nat), RelDs K cl G xs vs → RelDs K cl G (xs.take n) (vs.take n)
  | _, _, 0, _ => .nil
  | _, _, _ + 1, .nil => .nil
  | _, _, n + 1, .cons q t => .cons q (RelDs.take n t)
theorem cutG_rel {xs : List Dv} {vs : List V} (h : RelDs K cl G xs vs) (lo hi : Option Int) : RelDs K cl G (cutG xs lo hi) (cutV vs lo hi) := by
  unfold cutG cutV
  rw [h.length]
  exact (h.drop _).take _
end
theorem strOk_cut {z : Str} {lo hi : Option Int} (h : PyData.strOk z = true) : PyData.strOk (cutS z lo hi) = true := by
  unfold PyData.strOk at *
  rw [Array.all_eq_true'] at h ⊢
  intro c hc
  refine h c ?_
  have hm := Array.mem_toList_iff.mpr hc
  unfold cutS at hm
  simp only at hm
  exact Array.mem_toList_iff.mp (List.mem_of_mem_drop (List.mem_of_mem_take hm))
def RO (X : Cx) (cl : CL) (Wx : WX) (f : Fr → Sto → Res (Option Int)) : TO := fun σ H Q => ∃ W F S, At X.K cl W F S σ H ∧ Out X.K cl Wx (fun _ _ (a b : Option Int) => b = a) F.b W S σ (f F S) Q
def oNo : Fr → Sto → Res (Option Int) := fun _ S => .ok none S
def oSoR : Option Dv → Sto → Res (Option Int)
  | some (.int i), S => .ok (some i) S
  | _, _ => .bad
def oSo (fe : Fr → Sto → Res SV) : Fr → Sto → Res (Option Int) := fun F S => (fe F S).bind fun x S1 => oSoR (view S1 x) S1
def slR (lo hi : Option Int) : Option Dv → Sto → Res SV
  | some (.lst xs), S => .ok (.d (.lst (cutG xs lo hi))) S
  | some (.tup xs), S => .ok (.d (.tup (cutG xs lo hi))) S
  | some (.str z), S => if z.length ≤ most then .ok (.d (.str (cutS z lo hi))) S else .bad
  | _, _ => .bad
/-- x[lo:hi] -/
def eSl (fe : Fr → Sto → Res SV) (fl fh : Fr → Sto → Res (Option Int)) : Fr → Sto → Res SV := fun F S => (fe F S).bind fun x S1 => (fl F S1).bind fun lo S2 => (fh F S2).bind fun hi S3 => slR lo hi (view S3 x) S3
section
variable {X : Cx} {cl : CL} {Wx : WX} {e a : Expr} {fe : Fr → Sto → Res SV} {fl fh : Fr → Sto → Res (Option Int)} {lo hi : Option Expr} {pos p2 : Pos} {W : Wd} {F : Fr} {S : Sto} {σ : St} {H : Hp}
theorem PO.weak {e : Option Expr} {t t' : TO} (h : PO X e t) (k : ∀ σ H Q, t' σ H Q → t σ H Q) : PO X e t' := ⟨fun pins s σ H Q I q => h.run pins s σ H Q I (k σ H Q q)⟩
theorem ov_no : PO X none (RO X cl Wx oNo) := PO.weak po_none fun σ H Q ⟨W, F, S, a, o⟩ => o.here a.rel rfl
theorem RE.ofO {f : Fr → Sto → Res SV} {g : SV → Sto → Res (Option Int)} {Q : Option Int → Hp → Prop} {Q' : VK} (a : At X.K cl W F S σ H) (h : Out X.K cl Wx (fun _ _ (a b : Option Int) => b = a) F.b W S σ ((f F S).bind g) Q)
    (k : ∀ W1 S1 x v H1, Gr F.b S S1 → Le S.length W W1 → At X.K cl W1 F S1 σ H1 → RelSV X.K cl W1 S1.length x v → Out X.K cl Wx (fun _ _ (a b : Option Int) => b = a) F.b W1 S1 σ (g x S1) Q → Q' v H1) : RE X cl Wx f σ H Q' :=
  ⟨W, F, S, a, (Out.bind h).mono fun v H1 ⟨W1, S1, x, g1, l1, r1, q1, o1⟩ => k W1 S1 x v H1 g1 l1 (a.on g1 l1 r1) q1 o1⟩
theorem RO.of {f : Fr → Sto → Res (Option Int)} {g : Option Int → Sto → Res SV} {Q : VK} {Q' : Option Int → Hp → Prop} (a : At X.K cl W F S σ H) (h : Out X.K cl Wx (RSV X.K cl) F.b W S σ ((f F S).bind g) Q)
    (k : ∀ W1 S1 x H1, Gr F.b S S1 → Le S.length W W1 → At X.K cl W1 F S1 σ H1 → Out X.K cl Wx (RSV X.K cl) F.b W1 S1 σ (g x S1) Q → Q' x H1) : RO X cl Wx f σ H Q' :=
  ⟨W, F, S, a, (Out.bind (Ra := fun _ _ (a b : Option Int) => b = a) h).mono fun v H1 ⟨W1, S1, x, g1, l1, r1, q1, o1⟩ => by
    obtain rfl : v = x := q1
    exact k W1 S1 v H1 g1 l1 (a.on g1 l1 r1) o1⟩
theorem ov_so (h : PE X a (RE X cl Wx fe)) : PO X (some a) (RO X cl Wx (oSo fe)) := PO.weak (po_some h) fun σ H Q ⟨W, F, S, a, o⟩ => RE.ofO a o fun W1 S1 x v H1 g1 l1 a1 q1 o1 => by
  unfold oSoR at o1
  split at o1
  · rename_i i e
    exact ⟨i, view_int a1.rel e q1, o1.here a1.rel rfl⟩
  · exact o1.elim
theorem ev_sl (hc : X.calm = true) (h : PE X e (RE X cl Wx fe)) (hl : PO X lo (RO X cl Wx fl)) (hh : PO X hi (RO X cl Wx fh)) : PE X (.Subscript e (.Slice lo hi none p2) pos) (RE X cl Wx (eSl fe fl fh)) :=
  PE.weak (pe_slice (SlR.or (SlR.or sl_list sl_tupA) sl_str) h hl hh) fun σ H Q ⟨W, F, S, a, o⟩ => RE.of a o fun W1 S1 x v H1 g1 l1 a1 q1 o1 => RO.of a1 o1 fun W2 S2 l H2 g2 l2 a2 o2 => RO.of a2 o2 fun W3 S3 u H3 g3 l3 a3 o3 => by
    have q3 := RelSV.le (l2.trans l3 g2.len) (Nat.le_trans g2.len g3.len) q1
    unfold slR at o3
    split at o3
    · rename_i xs e
      obtain ⟨p, vs, rfl, s1, t1⟩ := view_lst a3.rel e q3
      refine .inl (.inl ⟨p, vs, rfl, s1, fun y hy => ?_⟩)
      obtain ⟨r4, l4⟩ := a3.rel.newF (ho := .lst (cutV vs l u)) hy
      exact o3 _ _ _ (.refl _ _) l4 r4 (RelD.lst (SqL.of upd_same) (cutG_rel (RelDs.le l4 t1) l u))
    · rename_i xs e
      obtain ⟨p, vs, rfl, s1, t1, w1⟩ := view_tup a3.rel e q3
      refine .inl (.inr ⟨p, vs, rfl, s1, fun hw => ?_, fun _ y hy => ?_⟩)
      · have hcut : cutG xs l u = xs := by
          unfold cutG
          rw [t1.length, hw.1, hw.2, List.drop_zero, ← t1.length, Nat.sub_zero, List.take_length]
        rw [hcut] at o3
        exact o3.here a3.rel w1
      · obtain ⟨r4, l4⟩ := a3.rel.newF (ho := .tup (cutV vs l u)) hy
        exact o3 _ _ _ (.refl _ _) l4 r4 (RelD.tup (SqT.of upd_same) (cutG_rel (RelDs.le l4 t1) l u))
    · rename_i z e
      split at o3
      · rename_i hz
        obtain ⟨e1, k1⟩ := view_str a3.rel e q3
        exact .inr ⟨z, e1, hz, o3.here a3.rel (RelD.str _ (strOk_cut k1))⟩
      · exact o3.elim
    · exact o3.elim
end
/-! ### how they are reckoned -/
def kO1s (fh : Fr → Sto → Res (Option Int)) (F : Fr) (x : SV) (lo : Option Int) (r : Res (Option Int)) : Res SV := r.bind fun hi S3 => slR lo hi (view S3 x) S3
@[simp] theorem kO1s_ok (fh : Fr → Sto → Res (Option Int)) (F : Fr) (x : SV) (lo hi : Option Int) (S : Sto) : kO1s fh F x lo (.ok hi S) = slR lo hi (view S x) S := Eq.trans rfl rfl
def kO2s (fh : Fr → Sto → Res (Option Int)) (F : Fr) (x : SV) (r : Res (Option Int)) : Res SV := r.bind fun lo S2 => kO1s fh F x lo (fh F S2)
@[simp] theorem kO2s_ok (fh : Fr → Sto → Res (Option Int)) (F : Fr) (x : SV) (lo : Option Int) (S : Sto) : kO2s fh F x (.ok lo S) = kO1s fh F x lo (fh F S) := Eq.trans rfl rfl
def kO3s (fl fh : Fr → Sto → Res (Option Int)) (F : Fr) (r : Res SV) : Res SV := r.bind fun x S1 => kO2s fh F x (fl F S1)
@[simp] theorem kO3s_ok (fl fh : Fr → Sto → Res (Option Int)) (F : Fr) (x : SV) (S : Sto) : kO3s fl fh F (.ok x S) = kO2s fh F x (fl F S) := Eq.trans rfl rfl
@[simp] theorem eSl_ap (fe : Fr → Sto → Res SV) (fl fh : Fr → Sto → Res (Option Int)) (F : Fr) (S : Sto) : eSl fe fl fh F S = kO3s fl fh F (fe F S) := Eq.trans rfl rfl
@[simp] theorem oNo_ap (F : Fr) (S : Sto) : oNo F S = .ok none S := Eq.trans rfl rfl
def kSo (r : Res SV) : Res (Option Int) := r.bind fun x S1 => oSoR (view S1 x) S1
@[simp] theorem kSo_ok (x : SV) (S : Sto) : kSo (.ok x S) = oSoR (view S x) S := Eq.trans rfl rfl
@[simp] theorem oSo_ap (fe : Fr → Sto → Res SV) (F : Fr) (S : Sto) : oSo fe F S = kSo (fe F S) := Eq.trans rfl rfl
@[simp] theorem oSoR_i (i : Int) (S : Sto) : oSoR (some (.int i)) S = .ok (some i) S := Eq.trans rfl rfl
@[simp] theorem slR_l (lo hi : Option Int) (xs : List Dv) (S : Sto) : slR lo hi (some (.lst xs)) S = .ok (.d (.lst (cutG xs lo hi))) S := Eq.trans rfl rfl
@[simp] theorem slR_s (lo hi : Option Int) (z : Str) (S : Sto) : slR lo hi (some (.str z)) S = if z.length ≤ most then .ok (.d (.str (cutS z lo hi))) S else .bad := Eq.trans rfl rfl
@[simp] theorem slR_t (lo hi : Option Int) (xs : List Dv) (S : Sto) : slR lo hi (some (.tup xs)) S = .ok (.d (.tup (cutG xs lo hi))) S := Eq.trans rfl rfl
end Ev

set_option Elab.async false
set_option linter.all false
set_option maxRecDepth 100000
/-! Ev19: chains of two comparisons. -/
namespace Ev
open PySem L2
def chR (o' : Sto → SV → SV → Option Dv) (h : Fr → Sto → Res SV) (F : Fr) (y : SV) (S : Sto) : Option Dv → Res SV
  | some (.bl true) => (h F S).bind fun z S3 => optD (o' S3 y z) S3
  | some (.bl false) => .ok (.d (.bl false)) S
  | _ => .bad
def eChain (o o' : Sto → SV → SV → Option Dv) (f g h : Fr → Sto → Res SV) : Fr → Sto → Res SV := fun F S => (f F S).bind fun x S1 => (g F S1).bind fun y S2 => chR o' h F y S2 (o S2 x y)
section
variable {X : Cx} {cl : CL} {Wx : WX} {a b c : Expr} {f g h : Fr → Sto → Res SV} {op op' : CmpOp} {o o' : Sto → SV → SV → Option Dv} {pos : Pos}
theorem chain_use {σ : St} {H : Hp} {Q : VK} (q0 : RE X cl Wx (eChain o o' f g h) σ H Q) : tChain (ROp X cl o) (ROp X cl o') (RE X cl Wx f) (RE X cl Wx g) (RE X cl Wx h) σ H Q := by
  obtain ⟨W, F, S, t, q⟩ := q0
  exact RE.of t q fun W1 S1 x v H1 g1 l1 a1 q1 o1 => RE.of a1 o1 fun W2 S2 y w H2 g2 l2 a2 q2 o2 => by
    have qx := RelSV.le l2 g2.len q1
    unfold chR at o2
    split at o2
    · rename_i e
      refine ⟨W2, S2, x, y, _, a2.rel, qx, q2, e, fun W' H' v' l' r' d' => ?_⟩
      cases d'
      refine ⟨true, rfl, ?_⟩
      rw [if_pos rfl]
      have a3 := a2.on (Gr.refl F.b S2) l' r'
      refine RE.of a3 (Out.rebase o2 (.refl _ _) l') fun W3 S3 z u H3 g3 l3 a4 q3 o3 => ?_
      cases e' : o' S3 y z with
      | none => rw [e'] at o3; exact o3.elim
      | some zz =>
        rw [e'] at o3
        exact ⟨W3, S3, y, z, zz, a4.rel, RelSV.le (l'.trans l3 (Nat.le_refl _)) g3.len q2, q3, e', fun W4 H4 v4 l4 r4 d4 => o3 W4 H4 v4 (.refl _ _) l4 r4 d4⟩
    · rename_i e
      refine ⟨W2, S2, x, y, _, a2.rel, qx, q2, e, fun W' H' v' l' r' d' => ?_⟩
      cases d'
      exact ⟨false, rfl, by rw [if_neg (by decide)]; exact o2 W' H' _ (.refl _ _) l' r' (RelD.bl false)⟩
    · exact o2.elim
theorem ev_chain (ho : OpR X (compareOp op) (ROp X cl o)) (ho' : OpR X (compareOp op') (ROp X cl o')) (ha : PE X a (RE X cl Wx f)) (hb : PE X b (RE X cl Wx g)) (hc : PE X c (RE X cl Wx h)) (hm : lastMarks [op, op'] [b, c] = false := by with_unfolding_all rfl) :
    PE X (.Compare a [op, op'] [b, c] pos) (RE X cl Wx (eChain o o' f g h)) :=
  PE.weak (pe_chain ho ho' ha hb hc hm) fun σ H Q q => chain_use q
theorem tv_chain (ho : OpR X (compareOp op) (ROp X cl o)) (ho' : OpR X (compareOp op') (ROp X cl o')) (ha : PE X a (RE X cl Wx f)) (hb : PE X b (RE X cl Wx g)) (hc : PE X c (RE X cl Wx h)) (hm : lastMarks [op, op'] [b, c] = false := by with_unfolding_all rfl) :
    PT X (.Compare a [op, op'] [b, c] pos) (RT X cl Wx (tV (eChain o o' f g h))) :=
  PT.weak (pt_chain ho ho' ha hb hc hm) fun σ H Q q => chain_use (tV_use q)
end
def kCh2 (o o' : Sto → SV → SV → Option Dv) (h : Fr → Sto → Res SV) (F : Fr) (x : SV) (r : Res SV) : Res SV := r.bind fun y S2 => chR o' h F y S2 (o S2 x y)
@[simp] theorem kCh2_ok (o o' : Sto → SV → SV → Option Dv) (h : Fr → Sto → Res SV) (F : Fr) (x y : SV) (S : Sto) : kCh2 o o' h F x (.ok y S) = chR o' h F y S (o S x y) := Eq.trans rfl rfl
def kCh1 (o o' : Sto → SV → SV → Option Dv) (g h : Fr → Sto → Res SV) (F : Fr) (r : Res SV) : Res SV := r.bind fun x S1 => kCh2 o o' h F x (g F S1)
@[simp] theorem kCh1_ok (o o' : Sto → SV → SV → Option Dv) (g h : Fr → Sto → Res SV) (F : Fr) (x : SV) (S : Sto) : kCh1 o o' g h F (.ok x S) = kCh2 o o' h F x (g F S) := Eq.trans rfl rfl
@[simp] theorem eChain_ap (o o' : Sto → SV → SV → Option Dv) (f g h : Fr → Sto → Res SV) (F : Fr) (S : Sto) : eChain o o' f g h F S = kCh1 o o' g h F (f F S) := Eq.trans rfl rfl
def kCh3 (o' : Sto → SV → SV → Option Dv) (y : SV) (r : Res SV) : Res SV := r.bind fun z S3 => optD (o' S3 y z) S3
@[simp] theorem kCh3_ok (o' : Sto → SV → SV → Option Dv) (y z : SV) (S : Sto) : kCh3 o' y (.ok z S) = optD (o' S y z) S := Eq.trans rfl rfl
@[simp] theorem chR_b (o' : Sto → SV → SV → Option Dv) (h : Fr → Sto → Res SV) (F : Fr) (y : SV) (S : Sto) (b : Bool) : chR o' h F y S (some (.bl b)) = if b = true then kCh3 o' y (h F S) else .ok (.d (.bl false)) S := by cases b <;> rfl
end Ev

set_option Elab.async false
set_option linter.all false
set_option maxRecDepth 100000
/-! Ev20: dicts that are written, get, dict(d), list(d), dicts of the module, d == d. -/
namespace Ev
open PySem L2
abbrev FE := Fr → Sto → Res SV
/-! ### {k: v, ..} -/
def dspL : List (FE × FE) → Fr → Sto → Res (List (SV × SV))
  | [], _, S => .ok [] S
  | (fk, fv) :: r, F, S => (fk F S).bind fun x S1 => (fv F S1).bind fun y S2 => (dspL r F S2).bind fun ps S3 => .ok ((x, y) :: ps) S3
def dMg (S : Sto) : List (SV × SV) → List Key → List SV → Option (List Key × List SV)
  | [], ks, xs => some (ks, xs)
  | (x, y) :: r, ks, xs => match (view S x).bind kOf with
    | some k => dMg S r (dPut k y ks xs).1 (dPut k y ks xs).2
    | none => none
def dspR (j : Nat) (S : Sto) : Option (List Key × List SV) → Res SV
  | some (ks, xs) => .ok (.m j) (S.set j (.dic ks xs))
  | none => .bad
def dspC (j : Nat) (qs : List (SV × SV)) (S : Sto) : Option MO → Res SV
  | some (.dic [] []) => if qs.length ≤ 15 then dspR j S (dMg S qs [] []) else .bad
  | _ => .bad
def eDspW (fi : Nat → Res SV → Res SV) (ps : List (FE × FE)) : FE := fun F S =>
  fi S.length ((dspL ps ⟨S.length, F.v⟩ (S ++ [.dic [] []])).bind fun qs S1 => dspC S.length qs S1 S1[S.length]?)
abbrev eDsp := eDspW fin
abbrev eDspK := eDspW finK
theorem Res.bind_assoc {α β γ : Type} (r : Res α) (f : α → Sto → Res β) (g : β → Sto → Res γ) : (r.bind f).bind g = r.bind fun a S => (f a S).bind g := by cases r <;> rfl
section
variable {X : Cx} {cl : CL} {Wx : WX}
def dTrs (X : Cx) (cl : CL) (Wx : WX) (ps : List (FE × FE)) : List (TE × TE) := ps.map fun p => (RE X cl Wx p.1, RE X cl Wx p.2)
theorem pp_nil {pos : Pos} : PPs X pos [] [] (dTrs X cl Wx []) := pps_nil
theorem pp_cons {pos : Pos} {k v : Expr} {ks : List (Option Expr)} {vs : List Expr} {fk fv : FE} {ps : List (FE × FE)} (hk : PE X k (RE X cl Wx fk)) (hv : PE X v (RE X cl Wx fv)) (hr : PPs X pos ks vs (dTrs X cl Wx ps)) :
    PPs X pos (some k :: ks) (v :: vs) (dTrs X cl Wx ((fk, fv) :: ps)) := pps_cons hk hv hr
def RPr (K : PySem.W.Frag) (cl : Nat → Addr) (W : Wd) (n : Nat) (p : SV × SV) (q : V × V) : Prop := RelSV K cl W n p.1 q.1 ∧ RelSV K cl W n p.2 q.2
theorem dsp_use {σ : St} {b : Nat} {Q : VK} {F : Fr} : ∀ (ps : List (FE × FE)) {W : Wd} {S : Sto} {H : Hp} {g : List (SV × SV) → Sto → Res SV} {Q' : List (V × V) → Hp → Prop},
    At X.K cl W F S σ H → Out X.K cl Wx (RSV X.K cl) F.b W S σ ((dspL ps F S).bind g) Q →
    (∀ W1 S1 qs ws H1, Gr F.b S S1 → Le S.length W W1 → At X.K cl W1 F S1 σ H1 → Paired (RPr X.K cl W1 S1.length) qs ws → Out X.K cl Wx (RSV X.K cl) F.b W1 S1 σ (g qs S1) Q → Q' ws H1) → tPairs (dTrs X cl Wx ps) σ H Q'
  | [], W, S, H, g, Q', a, o, k => k W S [] [] H (.refl _ _) (.refl _ _) a .nil o
  | (fk, fv) :: r, W, S, H, g, Q', a, o, k => by
    have e : (dspL ((fk, fv) :: r) F S).bind g = (fk F S).bind fun x S1 => (fv F S1).bind fun y S2 => (dspL r F S2).bind fun ps S3 => g ((x, y) :: ps) S3 := by
      show ((fk F S).bind fun x S1 => (fv F S1).bind fun y S2 => (dspL r F S2).bind fun ps S3 => .ok ((x, y) :: ps) S3).bind g = _
      rw [Res.bind_assoc]
      congr 1
      funext x S1
      rw [Res.bind_assoc]
      congr 1
      funext y S2
      rw [Res.bind_assoc]
      rfl
    rw [e] at o
    refine RE.of a o fun W1 S1 x v H1 g1 l1 a1 q1 o1 => ?_
    refine RE.of a1 o1 fun W2 S2 y u H2 g2 l2 a2 q2 o2 => ?_
    refine dsp_use r (b := b) a2 o2 fun W3 S3 qs ws H3 g3 l3 a3 q3 o3 => ?_
    have l13 := l2.trans l3 g2.len
    refine k W3 S3 ((x, y) :: qs) ((v, u) :: ws) H3 (g1.trans (g2.trans g3 (Nat.le_refl _)) (Nat.le_refl _)) (l1.trans l13 g1.len) a3 (.cons ⟨?_, ?_⟩ q3) o3
    · exact RelSV.le l13 (Nat.le_trans g2.len g3.len) q1
    · exact RelSV.le l3 g3.len q2
theorem dPut_len {k : Key} {x : SV} {ks : List Key} {xs : List SV} (l : DKl ks xs.length) (ko : keyOk k = true) : DKl (dPut k x ks xs).1 (dPut k x ks xs).2.length := by
  unfold dPut
  by_cases h : hasK k ks = true
  · rw [if_pos h]
    exact ⟨zw_len l.1, l.2⟩
  · rw [if_neg h]
    exact ⟨by simp [l.1], by simp [l.2, ko]⟩
theorem dMg_rel {W : Wd} {S : Sto} {H : Hp} (r : Rel X.K cl W S H) : ∀ {qs : List (SV × SV)} {ws : List (V × V)} {ks : List Key} {xs : List SV} {vs : List V} {ks' : List Key} {xs' : List SV}, Paired (RPr X.K cl W S.length) qs ws → DKl ks xs.length → Paired (RelSV X.K cl W S.length) xs vs → dMg S qs ks xs = some (ks', xs') →
    ∃ kvs vs', ws = kvs.map (fun kv => (L2.kV kv.1, kv.2)) ∧ kvs.length = qs.length ∧ mergeK (ks.zip vs) kvs = ks'.zip vs' ∧ DKl ks' xs'.length ∧ Paired (RelSV X.K cl W S.length) xs' vs'
  | [], _, ks, xs, vs, ks', xs', .nil, l, p, e => by
    cases e
    exact ⟨[], vs, rfl, rfl, rfl, l, p⟩
  | (x, y) :: qs, (v, u) :: ws, ks, xs, vs, ks', xs', .cons q t, l, p, e => by
    obtain ⟨q1, q2⟩ := q
    unfold dMg at e
    cases hv : view S x with
    | none => rw [hv] at e; cases e
    | some kd =>
      cases hk : kOf kd with
      | none => simp only [hv, Option.bind_some, hk] at e; cases e
      | some k =>
        simp only [hv, Option.bind_some, hk] at e
        have ev : v = L2.kV k := key_rel r hv q1 hk
        have ko := key_ok r hv q1 hk
        have lv : ks.length = vs.length := l.1.trans (PySem.Paired.length p)
        have p2 : ∃ vs2, putK (ks.zip vs) k u = (dPut k y ks xs).1.zip vs2 ∧ Paired (RelSV X.K cl W S.length) (dPut k y ks xs).2 vs2 := by
          rw [put_zip lv]
          unfold dPut
          by_cases h : hasK k ks = true
          · rw [if_pos h, if_pos h]; exact ⟨_, rfl, paired_zw q2 p⟩
          · rw [if_neg h, if_neg h]; exact ⟨_, rfl, paired_snoc p q2⟩
        obtain ⟨vs2, e2, p2⟩ := p2
        obtain ⟨kvs, vs', e3, e4, e5, l', p'⟩ := dMg_rel r t (dPut_len l ko) p2 e
        refine ⟨(k, u) :: kvs, vs', by rw [e3, ev]; rfl, by simp [e4], ?_, l', p'⟩
        show mergeK (putK (ks.zip vs) k u) kvs = _
        rw [e2, e5]
theorem ev_dsp {fi : Nat → Res SV → Res SV} {pos : Pos} {keys : List (Option Expr)} {values : List Expr} {ps : List (FE × FE)} (hfi : FiOk fi) (h : PPs X pos keys values (dTrs X cl Wx ps)) (hall : keys.all (·.isSome) = true) (hl : keys.length = values.length) (h0 : keys ≠ [])
    (h15 : keys.length ≤ 15) : PE X (.Dict keys values pos) (RE X cl Wx (eDspW fi ps)) :=
  PE.weak (pe_disp h hall hl h0 h15) fun σ H Q ⟨W, F, S, a, o⟩ => fun p hp => by
    have o3 := hfi.out a.rel a.b o
    have r1 := a.rel.newM (p := p) (mo := .dic [] []) (ho := .dK []) hp ⟨a.rel.unone hp, [], upd_same, ⟨rfl, rfl⟩, .nil⟩
    have hl : (S ++ [MO.dic [] []]).length = S.length + 1 := by rw [List.length_append]; rfl
    have a1 : At X.K cl (W.add S.length p) ⟨S.length, F.v⟩ (S ++ [.dic [] []]) σ (upd H p (.dK [])) := ⟨by rw [hl]; exact Nat.le_succ _, r1, by rw [hl]; exact a.env.le (W.add_le _ _) (Nat.le_succ _), cl.mono (W.add_le _ _) a.gh⟩
    have o4 := Out.rebase o3 (Gr.add S.length S (.dic [] []) (Nat.le_refl _)) (W.add_le S.length p)
    refine dsp_use ps (b := S.length) a1 o4 fun W1 S1 qs ws H1 g1 l1 a2 q1 o5 => ?_
    have hn : S.length < S1.length := by
      have := g1.len
      rw [hl] at this
      exact this
    have hρ : W1.ρ S.length = p := by rw [l1.r S.length (by rw [hl]; exact Nat.lt_succ_self _), Wd.add_at]
    unfold dspC at o5
    split at o5
    · rename_i hz
      have h15' : qs.length ≤ 15 := by
        by_cases z : qs.length ≤ 15
        · exact z
        · rw [if_neg z] at o5; exact o5.elim
      rw [if_pos h15'] at o5
      cases hd : dMg S1 qs [] [] with
      | none => rw [hd] at o5; exact o5.elim
      | some kx =>
        obtain ⟨ks', xs'⟩ := kx
        rw [hd] at o5
        have z := a2.rel.st _ _ hz
        obtain ⟨g0, vs0, h1, _, p0⟩ := z
        cases p0
        rw [hρ] at h1 g0
        obtain ⟨kvs, vs', e1, e2, e3, l', p'⟩ := dMg_rel a2.rel q1 (vs := []) ⟨rfl, rfl⟩ .nil hd
        refine ⟨h1, kvs, e1, ?_, ?_⟩
        · rw [e2]; exact h15'
        · have e4 : mergeK [] kvs = ks'.zip vs' := e3
          rw [e4]
          have r3 := a2.rel.set hz rfl (ho := .dK (ks'.zip vs')) (mo' := .dic ks' xs') ⟨by rw [hρ]; exact g0, vs', by rw [hρ]; exact upd_same, l', p'⟩
          rw [hρ] at r3
          refine o5 W1 _ _ (Gr.set fun b' hb' w hi => absurd hi (Nat.not_lt.mpr hb')) (.refl _ _) r3 ⟨?_, by rw [hρ]⟩
          rw [List.length_set]
          exact hn
    · exact o5.elim

/-! ### d.get(k, x), d.get(k) -/
def getR (S : Sto) (z : SV) : Option (List Key × List SV) → Option Key → Option SV
  | some (ks, xs), some k => some ((lookK k ks xs).getD z)
  | _, _ => none
def getS (S : Sto) (o y z : SV) : Option SV := getR S z (dictOf S o) ((view S y).bind kOf)
def isDic (S : Sto) (o : SV) : Bool := (dictOf S o).isSome
def eGet (fo fy fz : FE) : FE := fun F S => (fo F S).bind fun o S1 => if isDic S1 o = true then (fy F S1).bind fun y S2 => (fz F S2).bind fun z S3 => optS (getS S3 o y z) S3 else .bad
def eGet1 (fo fy : FE) : FE := fun F S => (fo F S).bind fun o S1 => if isDic S1 o = true then (fy F S1).bind fun y S2 => optS (getS S2 o y (.d .non)) S2 else .bad
variable {o e f : Expr} {apos cpos : Pos} {fo fy fz : FE} {pos : Pos}
theorem dget_rel {K : PySem.W.Frag} {W : Wd} {S : Sto} {H : Hp} {o y z w : SV} {v u t : V} (r : Rel K cl W S H) (ro : RelSV K cl W S.length o v) (ry : RelSV K cl W S.length y u) (rz : RelSV K cl W S.length z t) (e : getS S o y z = some w) :
    ∃ a ov, v = .ref a ∧ DGet H a u ov ∧ RelSV K cl W S.length w (ov.getD t) := by
  unfold getS getR at e
  split at e
  · rename_i ks xs k ed ek
    cases e
    obtain ⟨a, vs, e1, s1, l1, t1⟩ := dict_rel r ed ro
    cases hv : view S y with
    | none => rw [hv] at ek; cases ek
    | some kd =>
      rw [hv] at ek
      have ek : kOf kd = some k := ek
      have lr := look_rel k l1.1 t1
      refine ⟨a, valV (ks.zip vs) k, e1, .inl ⟨_, k, s1, key_rel r hv ry ek, rfl⟩, ?_⟩
      cases h : lookK k ks xs with
      | none => rw [lr.2 h]; exact rz
      | some x =>
        obtain ⟨x', h1, h2⟩ := lr.1 x h
        rw [h1]; exact h2
  · cases e
theorem isDic_rel {K : PySem.W.Frag} {W : Wd} {S : Sto} {H : Hp} {o : SV} {v : V} (r : Rel K cl W S H) (ro : RelSV K cl W S.length o v) (e : isDic S o = true) : ∃ a, v = .ref a ∧ IsD H a := by
  unfold isDic at e
  cases h : dictOf S o with
  | none => rw [h] at e; cases e
  | some p =>
    obtain ⟨a, vs, e1, s1, _⟩ := dict_rel r h ro
    exact ⟨a, e1, .inl ⟨_, s1⟩⟩
theorem ev_get (hu : X.A.units + 1 < cLine) (ho : PE X o (RE X cl Wx fo)) (he : PE X e (RE X cl Wx fy)) (hf : PE X f (RE X cl Wx fz)) (m : M2 X o "get" apos e f cpos := by exact ⟨rfl, rfl, rfl, rfl⟩) : PE X (.Call (.Attribute o "get" apos) [e, f] [] cpos) (RE X cl Wx (eGet fo fy fz)) :=
  PE.weak (pe_dget2 hu ho he hf m) fun σ H Q ⟨W, F, S, a, q⟩ => by
    refine RE.of a q fun W1 S1 x v H1 g1 l1 a1 q1 o1 => ?_
    split at o1
    · rename_i hd
      obtain ⟨p, e1, d1⟩ := isDic_rel a1.rel q1 hd
      refine ⟨p, e1, d1, RE.of a1 o1 fun W2 S2 y u H2 g2 l2 a2 q2 o2 => ?_⟩
      refine RE.of a2 o2 fun W3 S3 z t H3 g3 l3 a3 q3 o3 => ?_
      have l13 := l2.trans l3 g2.len
      cases hg : getS S3 x y z with
      | none => rw [hg] at o3; exact o3.elim
      | some w =>
        rw [hg] at o3
        obtain ⟨a', ov, e2, dg, rw'⟩ := dget_rel a3.rel (RelSV.le l13 (Nat.le_trans g2.len g3.len) q1) (RelSV.le l3 g3.len q2) q3 hg
        rw [e1] at e2
        cases e2
        exact ⟨ov, dg, o3.here a3.rel rw'⟩
    · exact o1.elim
theorem ev_get1 (hu : X.A.units + 1 < cLine) (ho : PE X o (RE X cl Wx fo)) (he : PE X e (RE X cl Wx fy)) (m : M1 X o "get" apos e cpos := by exact ⟨rfl, rfl, rfl, rfl⟩) : PE X (.Call (.Attribute o "get" apos) [e] [] cpos) (RE X cl Wx (eGet1 fo fy)) :=
  PE.weak (pe_dget1 hu ho he m) fun σ H Q ⟨W, F, S, a, q⟩ => by
    refine RE.of a q fun W1 S1 x v H1 g1 l1 a1 q1 o1 => ?_
    split at o1
    · rename_i hd
      obtain ⟨p, e1, d1⟩ := isDic_rel a1.rel q1 hd
      refine ⟨p, e1, d1, RE.of a1 o1 fun W2 S2 y u H2 g2 l2 a2 q2 o2 => ?_⟩
      cases hg : getS S2 x y (.d .non) with
      | none => rw [hg] at o2; exact o2.elim
      | some w =>
        rw [hg] at o2
        obtain ⟨a', ov, e2, dg, rw'⟩ := dget_rel a2.rel (RelSV.le l2 g2.len q1) q2 (show RelSV X.K cl W2 S2.length (.d .non) .non from RelD.non) hg
        rw [e1] at e2
        cases e2
        exact ⟨ov, dg, o2.here a2.rel rw'⟩
    · exact o1.elim

/-! ### a dict of the module: its values -/
def cdR (tbl : List (Str × Dv)) (S : Sto) : Option Dv → Res SV
  | some (.str s) => optD ((tbl.find? fun p => p.1 == s).map (·.2)) S
  | _ => .bad
def eCd (tbl : List (Str × Dv)) (fy : FE) : FE := fun F S => (fy F S).bind fun y S1 => cdR tbl S1 (view S1 y)
structure KTbl (K : PySem.W.Frag) (cl : Nat → Addr) (w : World) (d : Addr) (tbl : List (Str × Dv)) : Prop where
  at' : ∀ q, q ∈ tbl → ∃ v, KDct K w d q.1 v ∧ ∀ G, RelD K cl G q.2 v
theorem ev_cd {d : Addr} {tbl : List (Str × Dv)} {x : Str} {p : Pos} (T : KTbl X.K cl X.w d tbl) (hg : Gl X x) (hm : X.mg x = some (.ref d)) (he : PE X e (RE X cl Wx fy)) (hdb : (x == ("__debug__" : Str)) = false := by decide +kernel) (hs : PlainIx e := by exact fun _ _ => rfl) : PE X (.Subscript (.Name x p) e pos) (RE X cl Wx (eCd tbl fy)) :=
  PE.weak (pe_ix ix_kdict (pe_glob (v := .ref d) hg hm rfl hdb) he hs) fun σ H Q ⟨W, F, S, a, q⟩ => by
    refine RE.of a q fun W1 S1 y u H1 g1 l1 a1 q1 o1 => ?_
    unfold cdR at o1
    split at o1
    · rename_i s hs
      cases hf : tbl.find? fun p => p.1 == s with
      | none => rw [hf] at o1; exact o1.elim
      | some q =>
        rw [hf] at o1
        have hq := List.mem_of_find?_eq_some hf
        have hk : q.1 = s := by
          have := List.find?_some hf
          simpa using this
        obtain ⟨v, kd, rd⟩ := T.at' q hq
        obtain ⟨e1, _⟩ := view_str a1.rel hs q1
        exact ⟨d, s, v, rfl, e1, by rw [← hk]; exact kd, o1.here a1.rel (rd _)⟩
    · exact o1.elim

/-! ### dict(d), list(d) -/
def biDict (S : Sto) : List SV → Option Dv
  | [a] => match dictOf S a with
    | some (ks, xs) => (rdDs S xs).map (.dic ks)
    | none => none
  | _ => none
theorem ov_dict : CallR X (.type "dict") (RCall X cl biDict) := CallR.weak call_dictD fun xs H Q ⟨W, S, as, z, r, ra, e, k⟩ => by
  match as, xs, ra, e with
  | [a], [v], .cons ra .nil, e =>
    simp only [biDict] at e
    split at e
    · rename_i ks ys ed
      obtain ⟨p, vs, rfl, h1, h2, h3⟩ := dict_rel r ed ra
      cases hr : rdDs S ys with
      | none => rw [hr] at e; cases e
      | some ds =>
        rw [hr] at e
        cases e
        refine ⟨p, _, rfl, h1, fun q hq => ?_⟩
        obtain ⟨r2, l2⟩ := r.newF (ho := .dK (ks.zip vs)) hq
        exact k _ _ _ l2 r2 (.dic upd_same rfl (rdDs_len hr ▸ h2) (RelDs.le l2 (rdDs_rel r hr h3)))
    · cases e
def dcM : Option (List Key × List SV) → Sto → Res SV
  | some (ks, xs), S => .ok (.m S.length) (S ++ [.dic ks xs])
  | none, _ => .bad
def dcA (S : Sto) : List SV → Res SV
  | [a] => dcM (dictOf S a) S
  | _ => .bad
/-- dict(d) that will change -/
def eDictM (f : Fr → Sto → Res (List SV)) : FE := fun F S => (f F S).bind fun as S1 => dcA S1 as
theorem ev_dictM {x : Str} {p : Pos} {es : List Expr} {fa : Fr → Sto → Res (List SV)} (hg : Gl X x) (hm : X.mg x = none) (ha : PA X (e :: es) (RA X cl Wx fa)) (hv : bootBuiltins x = some (.type "dict") := by decide +kernel) (hn : x ≠ "__name__" := by decide +kernel) (hdb : (x == ("__debug__" : Str)) = false := by decide +kernel)
    (he : starEach (e :: es) X.env = (false, eval e X.env) :: starEach es X.env := by rfl) (hpl : (backTo pos (starEach es X.env)).any (·.1) = false := by rfl) : PE X (.Call (.Name x p) (e :: es) [] pos) (RE X cl Wx (eDictM fa)) :=
  PE.weak (pe_callTy call_dictD hg hm hv ha hn hdb he hpl) fun σ H Q ⟨W, F, S, a, q⟩ => by
    refine RA.of a q fun W1 S1 xs vs H1 g1 l1 a1 q1 o1 => ?_
    match xs, vs, q1, o1 with
    | [], [], .nil, o1 => exact o1.elim
    | _ :: _ :: _, _, _, o1 => exact o1.elim
    | [x], [v], .cons q1 .nil, o1 =>
      simp only [dcA] at o1
      cases ed : dictOf S1 x with
      | none => rw [ed] at o1; exact o1.elim
      | some kx =>
        obtain ⟨ks, ys⟩ := kx
        rw [ed] at o1
        obtain ⟨p, us, rfl, h1, h2, h3⟩ := dict_rel a1.rel ed q1
        refine ⟨p, _, rfl, h1, fun q hq => ?_⟩
        have r3 := a1.rel.newM (p := q) (mo := .dic ks ys) (ho := .dK (ks.zip us)) hq ⟨a1.rel.unone hq, us, upd_same, h2, RelSVs.le (W1.add_le _ _) (Nat.le_succ _) h3⟩
        refine o1 _ _ _ (Gr.add _ _ _ a1.b) (W1.add_le _ _) r3 ⟨?_, by rw [Wd.add_at]⟩
        rw [List.length_append]
        exact Nat.lt_succ_self _
/-! ### d == d of flat things -/
def f1eq : Dv → Dv → Bool
  | .non, .non => true
  | .bl a, .bl b => a == b
  | .int a, .int b => decide (a = b)
  | .str a, .str b => a == b
  | _, _ => false
def f1eqs : List Dv → List Dv → Bool
  | [], [] => true
  | x :: xs, y :: ys => f1eq x y && f1eqs xs ys
  | _, _ => false
def keysNd : List Key → Bool
  | [] => true
  | k :: r => !hasK k r && keysNd r
theorem f1eq_eq {K : PySem.W.Frag} {G G' : Hp} {x y : Dv} {v u : V} (h : f1eq x y = true) (r : RelD K cl G x v) (r' : RelD K cl G' y u) : v = u ∧ flatB v = true := by
  cases x <;> cases y <;> first | (cases h; done) | skip
  · cases r; cases r'; exact ⟨rfl, rfl⟩
  · cases r; cases r'
    have e := beq_iff_eq.mp h
    exact ⟨by rw [e], rfl⟩
  · cases r; cases r'
    have e := of_decide_eq_true h
    exact ⟨by rw [e], rfl⟩
  · cases r; cases r'
    have e := beq_iff_eq.mp h
    exact ⟨by rw [e], rfl⟩
theorem f1eqs_eq {K : PySem.W.Frag} {G G' : Hp} : ∀ {xs ys : List Dv} {vs us : List V}, f1eqs xs ys = true → RelDs K cl G xs vs → RelDs K cl G' ys us → vs = us ∧ ∀ v ∈ vs, flatB v = true
  | [], [], _, _, _, .nil, .nil => ⟨rfl, fun _ h => by cases h⟩
  | x :: xs, y :: ys, _, _, h, .cons a b, .cons a' b' => by
    obtain ⟨h1, h2⟩ := Bool.and_eq_true_iff.mp (show (f1eq x y && f1eqs xs ys) = true from h)
    obtain ⟨e1, f1⟩ := f1eq_eq h1 a a'
    obtain ⟨e2, f2⟩ := f1eqs_eq h2 b b'
    refine ⟨by rw [e1, e2], fun v hv => ?_⟩
    rcases List.mem_cons.mp hv with rfl | hv
    · exact f1
    · exact f2 v hv
/-- two dicts of the same keys in the same order, with the same flat things -/
def eqDic (S : Sto) (a b : SV) : Option Bool := match dictOf S a, dictOf S b with
  | some (ks, xs), some (ks', xs') => match rdDs S xs, rdDs S xs' with
    | some ds, some ds' => if f1eqs ds ds' = true ∧ ks = ks' ∧ keysNd ks = true then some true else none
    | _, _ => none
  | _, _ => none
theorem val_nd : ∀ {ks : List Key} {vs : List V}, keysNd ks = true → ∀ p ∈ ks.zip vs, valV (ks.zip vs) p.1 = some p.2
  | [], _, _, p, hp => by simp at hp
  | k :: ks, [], _, p, hp => by simp at hp
  | k :: ks, v :: vs, h, p, hp => by
    obtain ⟨h1, h2⟩ := Bool.and_eq_true_iff.mp (show (!hasK k ks && keysNd ks) = true from h)
    rw [List.zip_cons_cons] at hp ⊢
    unfold valV
    rw [List.find?_cons]
    rcases List.mem_cons.mp hp with rfl | hp
    · simp
    · have ih := val_nd h2 p hp
      have hm := (List.of_mem_zip hp).1
      have ne : k ≠ p.1 := fun e => by
        have : hasK k ks = true := List.any_eq_true.mpr ⟨p.1, hm, decide_eq_true e.symm⟩
        rw [this] at h1
        cases h1
      simp only [decide_eq_false ne]
      exact ih
theorem eqDic_rel {K : PySem.W.Frag} {W : Wd} {S : Sto} {H : Hp} {a b : SV} {x y : V} {c : Bool} (r : Rel K cl W S H) (ra : RelSV K cl W S.length a x) (rb : RelSV K cl W S.length b y) (e : eqDic S a b = some c) :
    c = true ∧ ∃ p q kvs, x = .ref p ∧ y = .ref q ∧ Rd H p (.dK kvs) ∧ Rd H q (.dK kvs) ∧ ∀ z ∈ kvs, valV kvs z.1 = some z.2 ∧ flatB z.2 = true := by
  unfold eqDic at e
  split at e
  · rename_i ks xs ks' xs' e1 e2
    split at e
    · rename_i ds ds' h1 h2
      split at e
      · rename_i hc
        cases e
        obtain ⟨c1, rfl, c3⟩ := hc
        obtain ⟨p, vs, rfl, s1, l1, t1⟩ := dict_rel r e1 ra
        obtain ⟨q, us, rfl, s2, l2, t2⟩ := dict_rel r e2 rb
        obtain ⟨rfl, fl⟩ := f1eqs_eq c1 (rdDs_rel r h1 t1) (rdDs_rel r h2 t2)
        exact ⟨rfl, p, q, _, rfl, rfl, s1, s2, fun z hz => ⟨val_nd c3 z hz, fl _ (List.of_mem_zip hz).2⟩⟩
      · cases e
    · cases e
  · cases e
theorem op_eq_dictR (hu : X.A.units < cLine) : OpR X (compareOp .Eq) (fun x y H Q => ∃ a b ks, x = .ref a ∧ y = .ref b ∧ Rd H a (.dK ks) ∧ Rd H b (.dK ks) ∧ (∀ p ∈ ks, valV ks p.1 = some p.2 ∧ flatB p.2 = true) ∧ Q (.bl true) H) := by
  intro pins s σ H x y v u Q I rx ry h
  obtain ⟨a, b, ks, rfl, rfl, ea, eb, hp, q⟩ := h
  obtain rfl : v = Value.ref a := rx
  obtain rfl : u = Value.ref b := ry
  obtain ⟨_, ya, va, ra, da⟩ := dk_rd I.hok ea
  obtain ⟨_, yb, vb, rb, db⟩ := dk_rd I.hok eb
  have hl : va.length = vb.length := by rw [← ra.length, ← rb.length]
  exact PySem.W.keq_eq (knd := mixKind X.prog X.w) (r := true) ya yb da db hu (fun _ => hits_all rb ra hp) (fin_bl I q (by simp [hl]))
theorem op_ne_dictR (hu : X.A.units < cLine) : OpR X (compareOp .NotEq) (fun x y H Q => ∃ a b ks, x = .ref a ∧ y = .ref b ∧ Rd H a (.dK ks) ∧ Rd H b (.dK ks) ∧ (∀ p ∈ ks, valV ks p.1 = some p.2 ∧ flatB p.2 = true) ∧ Q (.bl false) H) := by
  intro pins s σ H x y v u Q I rx ry h
  obtain ⟨a, b, ks, rfl, rfl, ea, eb, hp, q⟩ := h
  obtain rfl : v = Value.ref a := rx
  obtain rfl : u = Value.ref b := ry
  obtain ⟨_, ya, va, ra, da⟩ := dk_rd I.hok ea
  obtain ⟨_, yb, vb, rb, db⟩ := dk_rd I.hok eb
  have hl : va.length = vb.length := by rw [← ra.length, ← rb.length]
  exact PySem.W.keq_ne (knd := mixKind X.prog X.w) (r := true) ya yb da db hu (fun _ => hits_all rb ra hp) (fin_bl I q (by simp [hl]))
def opEqD (S : Sto) (a b : SV) : Option Dv := (eqDic S a b).map .bl
def opNeD (S : Sto) (a b : SV) : Option Dv := (eqDic S a b).map fun c => .bl (!c)
theorem ov_eqD (hu : X.A.units + 200 < cLine) : OpR X (compareOp .Eq) (ROp X cl opEqD) := OpR.weak (op_eq_dictR (by omega)) fun x y H Q ⟨W, S, a, b, z, r, ra, rb, e, k⟩ => by
  unfold opEqD at e
  cases he : eqDic S a b with
  | none => rw [he] at e; cases e
  | some c =>
    rw [he] at e
    cases e
    obtain ⟨rfl, p, q, kvs, rfl, rfl, s1, s2, f⟩ := eqDic_rel r ra rb he
    exact ⟨p, q, kvs, rfl, rfl, s1, s2, f, k W H _ (.refl _ _) r (.bl _)⟩
theorem ov_neD (hu : X.A.units + 200 < cLine) : OpR X (compareOp .NotEq) (ROp X cl opNeD) := OpR.weak (op_ne_dictR (by omega)) fun x y H Q ⟨W, S, a, b, z, r, ra, rb, e, k⟩ => by
  unfold opNeD at e
  cases he : eqDic S a b with
  | none => rw [he] at e; cases e
  | some c =>
    rw [he] at e
    cases e
    obtain ⟨rfl, p, q, kvs, rfl, rfl, s1, s2, f⟩ := eqDic_rel r ra rb he
    exact ⟨p, q, kvs, rfl, rfl, s1, s2, f, k W H _ (.refl _ _) r (.bl _)⟩
end
end Ev

set_option Elab.async false
set_option linter.all false
set_option maxRecDepth 100000
/-! Ev21: how dicts are reckoned. -/
namespace Ev
open PySem L2
theorem kdct_of {K : PySem.W.Frag} {w : World} {a : Addr} {ks : List Str} {x : Str} {v : V} {u : Value} (h : He.dicW K a = some (He.keysIn w.params ks)) (e : PySem.W.nsIn K a x = some (some u)) (r : RelV v u) : KDct K w a x v := by
  obtain ⟨es, n, D⟩ := He.dicW_ok h
  exact ⟨es, n, u, D.at_, D.lit, e, r⟩
def kD3 (x y : SV) (r : Res (List (SV × SV))) : Res (List (SV × SV)) := r.bind fun ps S3 => .ok ((x, y) :: ps) S3
@[simp] theorem kD3_ok (x y : SV) (ps : List (SV × SV)) (S : Sto) : kD3 x y (.ok ps S) = .ok ((x, y) :: ps) S := Eq.trans rfl rfl
def kD2 (l : List (FE × FE)) (x : SV) (F : Fr) (r : Res SV) : Res (List (SV × SV)) := r.bind fun y S2 => kD3 x y (dspL l F S2)
@[simp] theorem kD2_ok (l : List (FE × FE)) (x y : SV) (F : Fr) (S : Sto) : kD2 l x F (.ok y S) = kD3 x y (dspL l F S) := Eq.trans rfl rfl
def kD1 (fv : FE) (l : List (FE × FE)) (F : Fr) (r : Res SV) : Res (List (SV × SV)) := r.bind fun x S1 => kD2 l x F (fv F S1)
@[simp] theorem kD1_ok (fv : FE) (l : List (FE × FE)) (F : Fr) (x : SV) (S : Sto) : kD1 fv l F (.ok x S) = kD2 l x F (fv F S) := Eq.trans rfl rfl
@[simp] theorem dspL_nil (F : Fr) (S : Sto) : dspL [] F S = .ok [] S := Eq.trans rfl rfl
@[simp] theorem dspL_cons (fk fv : FE) (l : List (FE × FE)) (F : Fr) (S : Sto) : dspL ((fk, fv) :: l) F S = kD1 fv l F (fk F S) := by
  show dspL ((fk, fv) :: l) F S = _
  unfold kD1 kD2 kD3
  rfl
def kDsp (fi : Nat → Res SV → Res SV) (j : Nat) (r : Res (List (SV × SV))) : Res SV := fi j (r.bind fun qs S1 => dspC j qs S1 S1[j]?)
@[simp] theorem kDsp_ok (fi : Nat → Res SV → Res SV) (j : Nat) (qs : List (SV × SV)) (S : Sto) : kDsp fi j (.ok qs S) = fi j (dspC j qs S S[j]?) := Eq.trans rfl rfl
@[simp] theorem eDspW_ap (fi : Nat → Res SV → Res SV) (ps : List (FE × FE)) (F : Fr) (S : Sto) : eDspW fi ps F S = kDsp fi S.length (dspL ps ⟨S.length, F.v⟩ (S ++ [.dic [] []])) := Eq.trans rfl rfl
@[simp] theorem dspC_s (j : Nat) (qs : List (SV × SV)) (S : Sto) : dspC j qs S (some (.dic [] [])) = if qs.length ≤ 15 then dspR j S (dMg S qs [] []) else .bad := Eq.trans rfl rfl
@[simp] theorem dspR_s (j : Nat) (S : Sto) (ks : List Key) (xs : List SV) : dspR j S (some (ks, xs)) = .ok (.m j) (S.set j (.dic ks xs)) := Eq.trans rfl rfl
@[simp] theorem dMg_nil (S : Sto) (ks : List Key) (xs : List SV) : dMg S [] ks xs = some (ks, xs) := Eq.trans rfl rfl
@[simp] theorem dMg_str (S : Sto) (s : Str) (y : SV) (r : List (SV × SV)) (ks : List Key) (xs : List SV) : dMg S ((.d (.str s), y) :: r) ks xs = dMg S r (dPut (.inr s) y ks xs).1 (dPut (.inr s) y ks xs).2 := Eq.trans rfl rfl
@[simp] theorem dMg_int (S : Sto) (s : Int) (y : SV) (r : List (SV × SV)) (ks : List Key) (xs : List SV) : dMg S ((.d (.int s), y) :: r) ks xs = dMg S r (dPut (.inl s) y ks xs).1 (dPut (.inl s) y ks xs).2 := Eq.trans rfl rfl
@[simp] theorem hasK_nil (k : Key) : hasK k [] = false := Eq.trans rfl rfl
@[simp] theorem hasK_cons (k a : Key) (r : List Key) : hasK k (a :: r) = (decide (a = k) || hasK k r) := by simp [hasK]
theorem dPut_y {k : Key} {x : SV} {ks : List Key} {xs : List SV} (h : hasK k ks = true) : dPut k x ks xs = (ks, List.zipWith (fun a y => if a = k then x else y) ks xs) := if_pos h
theorem dPut_n {k : Key} {x : SV} {ks : List Key} {xs : List SV} (h : hasK k ks = false) : dPut k x ks xs = (ks ++ [k], xs ++ [x]) := if_neg (by rw [h]; exact Bool.false_ne_true)
@[simp] theorem dPut_nil (k : Key) (x : SV) : dPut k x [] [] = ([k], [x]) := Eq.trans rfl rfl
/-- keys that are written: step by step -/
@[simp] theorem dPut_cons (k a : Key) (x y : SV) (ks : List Key) (xs : List SV) (hl : ks.length = xs.length) : dPut k x (a :: ks) (y :: xs) = if a = k then (a :: ks, x :: List.zipWith (fun a y => if a = k then x else y) ks xs) else (a :: (dPut k x ks xs).1, y :: (dPut k x ks xs).2) := by
  by_cases h : a = k
  · simp [dPut, h, hasK]
  · by_cases h2 : hasK k ks = true
    · simp [dPut, h, h2]
    · simp [dPut, h, h2]
@[simp] theorem lookK_nil {α : Type} (k : Key) (xs : List α) : lookK k [] xs = none := by cases xs <;> rfl
@[simp] theorem lookK_cons {α : Type} (k a : Key) (ks : List Key) (x : α) (xs : List α) : lookK k (a :: ks) (x :: xs) = if a = k then some x else lookK k ks xs := Eq.trans rfl rfl
@[simp] theorem dictOf_d (S : Sto) (ks : List Key) (xs : List Dv) : dictOf S (.d (.dic ks xs)) = some (ks, xs.map .d) := Eq.trans rfl rfl
theorem dictOf_m {S : Sto} {i : Nat} {ks : List Key} {xs : List SV} (h : S[i]? = some (.dic ks xs)) : dictOf S (.m i) = some (ks, xs) := by simp [dictOf, h]
theorem itemsOf_md {S : Sto} {i : Nat} {ks : List Key} {xs : List SV} (h : S[i]? = some (.dic ks xs)) : itemsOf S (.m i) = none := by simp [itemsOf, h]
/-- d[k] of a dict of the store -/
theorem opIx_md {S : Sto} {i : Nat} {ks : List Key} {xs : List SV} {k : Str} (h : S[i]? = some (.dic ks xs)) : opIx S (.m i) (.d (.str k)) = lookK (.inr k) ks xs := by simp [opIx, itemsOf_md h, dictOf_m h, kOf]
theorem opIx_mdi {S : Sto} {i : Nat} {ks : List Key} {xs : List SV} {k : Int} (h : S[i]? = some (.dic ks xs)) : opIx S (.m i) (.d (.int k)) = lookK (.inl k) ks xs := by simp [opIx, itemsOf_md h, dictOf_m h, kOf]
theorem putIx_md {S : Sto} {i b : Nat} {ks : List Key} {xs : List SV} {k : Str} {x : SV} (h : S[i]? = some (.dic ks xs)) (ho : okIn b i x = true) (hl : ks.length < most) : putIx b S (.m i) (.d (.str k)) x = some (S.set i (.dic (dPut (.inr k) x ks xs).1 (dPut (.inr k) x ks xs).2)) := by
  simp [putIx, h, ho, hl, kOf]
theorem putIx_mdi {S : Sto} {i b : Nat} {ks : List Key} {xs : List SV} {k : Int} {x : SV} (h : S[i]? = some (.dic ks xs)) (ho : okIn b i x = true) (hl : ks.length < most) : putIx b S (.m i) (.d (.int k)) x = some (S.set i (.dic (dPut (.inl k) x ks xs).1 (dPut (.inl k) x ks xs).2)) := by
  simp [putIx, h, ho, hl, kOf]
def kGe3 (o y : SV) (r : Res SV) : Res SV := r.bind fun z S3 => optS (getS S3 o y z) S3
@[simp] theorem kGe3_ok (o y z : SV) (S : Sto) : kGe3 o y (.ok z S) = optS (getS S o y z) S := Eq.trans rfl rfl
def kGe2 (fz : FE) (F : Fr) (o : SV) (r : Res SV) : Res SV := r.bind fun y S2 => kGe3 o y (fz F S2)
@[simp] theorem kGe2_ok (fz : FE) (F : Fr) (o y : SV) (S : Sto) : kGe2 fz F o (.ok y S) = kGe3 o y (fz F S) := Eq.trans rfl rfl
def kGe1 (fy fz : FE) (F : Fr) (r : Res SV) : Res SV := r.bind fun o S1 => if isDic S1 o = true then kGe2 fz F o (fy F S1) else .bad
@[simp] theorem kGe1_ok (fy fz : FE) (F : Fr) (o : SV) (S : Sto) : kGe1 fy fz F (.ok o S) = if isDic S o = true then kGe2 fz F o (fy F S) else .bad := Eq.trans rfl rfl
@[simp] theorem eGet_ap (fo fy fz : FE) (F : Fr) (S : Sto) : eGet fo fy fz F S = kGe1 fy fz F (fo F S) := Eq.trans rfl rfl
def kGe4 (o : SV) (r : Res SV) : Res SV := r.bind fun y S2 => optS (getS S2 o y (.d .non)) S2
@[simp] theorem kGe4_ok (o y : SV) (S : Sto) : kGe4 o (.ok y S) = optS (getS S o y (.d .non)) S := Eq.trans rfl rfl
def kGe5 (fy : FE) (F : Fr) (r : Res SV) : Res SV := r.bind fun o S1 => if isDic S1 o = true then kGe4 o (fy F S1) else .bad
@[simp] theorem kGe5_ok (fy : FE) (F : Fr) (o : SV) (S : Sto) : kGe5 fy F (.ok o S) = if isDic S o = true then kGe4 o (fy F S) else .bad := Eq.trans rfl rfl
@[simp] theorem eGet1_ap (fo fy : FE) (F : Fr) (S : Sto) : eGet1 fo fy F S = kGe5 fy F (fo F S) := Eq.trans rfl rfl
@[simp] theorem isDic_d (S : Sto) (ks : List Key) (xs : List Dv) : isDic S (.d (.dic ks xs)) = true := Eq.trans rfl rfl
theorem isDic_m {S : Sto} {i : Nat} {ks : List Key} {xs : List SV} (h : S[i]? = some (.dic ks xs)) : isDic S (.m i) = true := by simp [isDic, dictOf_m h]
@[simp] theorem kOf_str (s : Str) : kOf (.str s) = some (.inr s) := Eq.trans rfl rfl
@[simp] theorem kOf_int (s : Int) : kOf (.int s) = some (.inl s) := Eq.trans rfl rfl
@[simp] theorem getS_d (S : Sto) (ks : List Key) (xs : List Dv) (y : Dv) (z : SV) : getS S (.d (.dic ks xs)) (.d y) z = getR S z (some (ks, xs.map .d)) (kOf y) := Eq.trans rfl rfl
theorem getS_m {S : Sto} {i : Nat} {ks : List Key} {xs : List SV} (h : S[i]? = some (.dic ks xs)) (y : Dv) (z : SV) : getS S (.m i) (.d y) z = getR S z (some (ks, xs)) (kOf y) := by simp [getS, dictOf_m h]
@[simp] theorem getR_s (S : Sto) (z : SV) (ks : List Key) (xs : List SV) (k : Key) : getR S z (some (ks, xs)) (some k) = some ((lookK k ks xs).getD z) := Eq.trans rfl rfl
theorem lookK_map {α β : Type} (f : α → β) (k : Key) : ∀ (ks : List Key) (xs : List α), lookK k ks (xs.map f) = (lookK k ks xs).map f
  | [], xs => by simp
  | a :: ks, [] => rfl
  | a :: ks, x :: xs => by
    simp only [List.map_cons, lookK_cons, lookK_map f k ks xs]
    by_cases h : a = k <;> simp [h]
@[simp] theorem opIx_dd (S : Sto) (ks : List Key) (xs : List Dv) (k : Str) : opIx S (.d (.dic ks xs)) (.d (.str k)) = (lookK (.inr k) ks xs).map .d := by
  rw [← lookK_map]
  rfl
@[simp] theorem opIx_di (S : Sto) (ks : List Key) (xs : List Dv) (k : Int) : opIx S (.d (.dic ks xs)) (.d (.int k)) = (lookK (.inl k) ks xs).map .d := by
  rw [← lookK_map]
  rfl
def kCd (tbl : List (Str × Dv)) (r : Res SV) : Res SV := r.bind fun y S1 => cdR tbl S1 (view S1 y)
@[simp] theorem kCd_ok (tbl : List (Str × Dv)) (y : SV) (S : Sto) : kCd tbl (.ok y S) = cdR tbl S (view S y) := Eq.trans rfl rfl
@[simp] theorem eCd_ap (tbl : List (Str × Dv)) (fy : FE) (F : Fr) (S : Sto) : eCd tbl fy F S = kCd tbl (fy F S) := Eq.trans rfl rfl
@[simp] theorem cdR_s (tbl : List (Str × Dv)) (S : Sto) (s : Str) : cdR tbl S (some (.str s)) = optD ((tbl.find? fun p => p.1 == s).map (·.2)) S := Eq.trans rfl rfl
@[simp] theorem biDict_d (S : Sto) (ks : List Key) (xs : List Dv) : biDict S [.d (.dic ks xs)] = some (.dic ks xs) := by simp [biDict]
theorem biDict_m {S : Sto} {i : Nat} {ks : List Key} {xs : List Dv} (h : S[i]? = some (.dic ks (xs.map .d))) : biDict S [.m i] = some (.dic ks xs) := by simp [biDict, dictOf_m h]
def kDm (r : Res (List SV)) : Res SV := r.bind fun as S1 => dcA S1 as
@[simp] theorem kDm_ok (as : List SV) (S : Sto) : kDm (.ok as S) = dcA S as := Eq.trans rfl rfl
@[simp] theorem eDictM_ap (f : Fr → Sto → Res (List SV)) (F : Fr) (S : Sto) : eDictM f F S = kDm (f F S) := Eq.trans rfl rfl
@[simp] theorem dcA_d (S : Sto) (ks : List Key) (xs : List Dv) : dcA S [.d (.dic ks xs)] = .ok (.m S.length) (S ++ [.dic ks (xs.map .d)]) := Eq.trans rfl rfl
/-- is a key there? -/
@[simp] theorem inS_dic (S : Sto) (ks : List Key) (xs : List Dv) (k : Dv) : inS S (.d k) (.d (.dic ks xs)) = match kOf k with | some kk => some (lookK kk ks (xs.map SV.d)).isSome | none => none := by
  cases k <;> rfl
end Ev

set_option Elab.async false
set_option linter.all false
set_option maxRecDepth 100000
/-! Ev22: membership, as it is reckoned. -/
namespace Ev
open PySem L2
@[simp] theorem eqv_ss (a b : Str) : PyData.eqv (.str a) (.str b) = (a == b) := by simp [PyData.eqv]
@[simp] theorem eqv_ii (a b : Int) : PyData.eqv (.int a) (.int b) = (a == b) := by simp [PyData.eqv]
@[simp] theorem eqv_is (a : Int) (b : Str) : PyData.eqv (.int a) (.str b) = false := by simp [PyData.eqv]
@[simp] theorem eqv_si (a : Str) (b : Int) : PyData.eqv (.str a) (.int b) = false := by simp [PyData.eqv]
@[simp] theorem pd_str (s : Str) : (Dv.str s).pd = .str s := rfl
@[simp] theorem pd_int (s : Int) : (Dv.int s).pd = .int s := rfl
@[simp] theorem pds_nil : Dv.pds [] = [] := rfl
@[simp] theorem pds_cons (x : Dv) (r : List Dv) : Dv.pds (x :: r) = x.pd :: Dv.pds r := rfl
@[simp] theorem inS_ts (S : Sto) (s : Str) (xs : List Dv) (h : Dv.flats xs = true) : inS S (.d (.str s)) (.d (.tup xs)) = some ((Dv.pds xs).any fun y => PyData.eqv y (.str s)) := by
  simp [inS, h, PyData.depth]
@[simp] theorem inS_ti (S : Sto) (s : Int) (xs : List Dv) (h : Dv.flats xs = true) : inS S (.d (.int s)) (.d (.tup xs)) = some ((Dv.pds xs).any fun y => PyData.eqv y (.int s)) := by
  simp [inS, h, PyData.depth]
@[simp] theorem inS_ls (S : Sto) (s : Str) (xs : List Dv) (h : Dv.flats xs = true) : inS S (.d (.str s)) (.d (.lst xs)) = some ((Dv.pds xs).any fun y => PyData.eqv y (.str s)) := by
  simp [inS, h, PyData.depth]
@[simp] theorem inS_li (S : Sto) (s : Int) (xs : List Dv) (h : Dv.flats xs = true) : inS S (.d (.int s)) (.d (.lst xs)) = some ((Dv.pds xs).any fun y => PyData.eqv y (.int s)) := by
  simp [inS, h, PyData.depth]
@[simp] theorem opIn_ap (S : Sto) (a b : SV) : opIn S a b = (inS S a b).map .bl := rfl
@[simp] theorem opNotIn_ap (S : Sto) (a b : SV) : opNotIn S a b = (inS S a b).map fun c => .bl (!c) := rfl
/-! things that are keys -/
@[simp] theorem flat_key (k : Key) : (keyD k).flat = true := by cases k <;> rfl
@[simp] theorem flats_keys : ∀ ks : List Key, Dv.flats (ks.map keyD) = true
  | [] => rfl
  | k :: r => by simp [flats_keys r]
theorem keyD_inj {a b : Key} (h : keyD a = keyD b) : a = b := by
  cases a <;> cases b <;> first | (cases h; done) | (cases h; rfl)
theorem eqv_key (a b : Key) : PyData.eqv (keyD a).pd (keyD b).pd = decide (a = b) := by
  cases a <;> cases b <;> simp only [keyD, pd_str, pd_int, eqv_ss, eqv_ii, eqv_is, eqv_si] <;> (rw [Bool.eq_iff_iff]; simp)
theorem hasK_iff {k : Key} : ∀ {ks : List Key}, hasK k ks = true ↔ k ∈ ks
  | [] => by simp
  | a :: r => by
    rw [hasK_cons, Bool.or_eq_true, hasK_iff (ks := r), List.mem_cons, decide_eq_true_iff]
    exact ⟨fun h => h.imp Eq.symm id, fun h => h.imp Eq.symm id⟩
theorem any_key (k : Key) : ∀ ks : List Key, ((Dv.pds (ks.map keyD)).any fun y => PyData.eqv y (keyD k).pd) = hasK k ks
  | [] => by simp
  | a :: r => by simp only [List.map_cons, pds_cons, List.any_cons, any_key k r, eqv_key, hasK_cons]
theorem depth_key (k : Key) : (keyD k).pd.depth ≤ 190 := by cases k <;> simp [keyD, PyData.depth]
theorem inS_kl (S : Sto) (k : Key) (ks : List Key) : inS S (.d (keyD k)) (.d (.lst (ks.map keyD))) = some (hasK k ks) := by
  simp [inS, depth_key, any_key]
theorem view_ml {S : Sto} {i : Nat} {xs : List Dv} (h : S[i]? = some (.lst (xs.map .d))) : view S (.m i) = some (.lst xs) := by simp [view, h]
theorem inS_km {S : Sto} {i : Nat} {ks : List Key} (k : Key) (h : S[i]? = some (.lst ((ks.map keyD).map .d))) : inS S (.d (keyD k)) (.m i) = some (hasK k ks) := by
  have hv := view_ml h
  unfold inS
  rw [hv]
  simp [depth_key, any_key]
@[simp] theorem kOf_key (k : Key) : kOf (keyD k) = some k := by cases k <;> rfl
theorem inS_kd (S : Sto) (k : Key) (ks : List Key) (xs : List Dv) : inS S (.d (keyD k)) (.d (.dic ks xs)) = some (lookK k ks (xs.map SV.d)).isSome := by simp
theorem inS_kmd {S : Sto} {i : Nat} {ks : List Key} {xs : List Dv} (k : Key) (h : S[i]? = some (.dic ks (xs.map .d))) : inS S (.d (keyD k)) (.m i) = some (lookK k ks (xs.map SV.d)).isSome := by
  have hv : view S (.m i) = some (.dic ks xs) := by simp [view, h]
  unfold inS
  rw [hv]
  simp [dictOf_m h]
theorem opIx_kd (S : Sto) (ks : List Key) (xs : List Dv) (k : Key) : opIx S (.d (.dic ks xs)) (.d (keyD k)) = (lookK k ks xs).map .d := by cases k <;> simp [keyD]
theorem opIx_kmd {S : Sto} {i : Nat} {ks : List Key} {xs : List SV} {k : Key} (h : S[i]? = some (.dic ks xs)) : opIx S (.m i) (.d (keyD k)) = lookK k ks xs := by cases k <;> simp [keyD, opIx_md h, opIx_mdi h]
theorem putIx_kmd {S : Sto} {i b : Nat} {ks : List Key} {xs : List SV} {k : Key} {x : SV} (h : S[i]? = some (.dic ks xs)) (ho : okIn b i x = true) (hl : ks.length < most) : putIx b S (.m i) (.d (keyD k)) x = some (S.set i (.dic (dPut k x ks xs).1 (dPut k x ks xs).2)) := by
  cases k <;> simp [keyD, putIx_md h ho hl, putIx_mdi h ho hl]
@[simp] theorem isNon_non : (SV.d .non).isNon = true := rfl
@[simp] theorem isNon_bl (i : Bool) : (SV.d (.bl i)).isNon = false := rfl
@[simp] theorem isNon_int (i : Int) : (SV.d (.int i)).isNon = false := rfl
@[simp] theorem isNon_str (i : Str) : (SV.d (.str i)).isNon = false := rfl
@[simp] theorem isNon_tup (i : List Dv) : (SV.d (.tup i)).isNon = false := rfl
@[simp] theorem isNon_lst (i : List Dv) : (SV.d (.lst i)).isNon = false := rfl
@[simp] theorem isNon_dic (k : List Key) (i : List Dv) : (SV.d (.dic k i)).isNon = false := rfl
@[simp] theorem isNon_m (i : Nat) : (SV.m i).isNon = false := rfl
@[simp] theorem isNon_key (k : Key) : (SV.d (keyD k)).isNon = false := by cases k <;> rfl
/-! a list of the store, as it is read -/
theorem tyS_ml {S : Sto} {i : Nat} {xs : List SV} (h : S[i]? = some (.lst xs)) : tyS S (.m i) = some .lst := by simp [tyS, h]
theorem tyS_md {S : Sto} {i : Nat} {ks : List Key} {xs : List SV} (h : S[i]? = some (.dic ks xs)) : tyS S (.m i) = some .dic := by simp [tyS, h]
theorem biLen_ml {S : Sto} {i : Nat} {xs : List SV} (h : S[i]? = some (.lst xs)) : biLen S [.m i] = some (.int xs.length) := by simp [biLen, itemsOf, h]
theorem biLen_md {S : Sto} {i : Nat} {ks : List Key} {xs : List SV} (h : S[i]? = some (.dic ks xs)) : biLen S [.m i] = some (.int ks.length) := by simp [biLen, itemsOf, dictOf, h]
theorem truS_ml {S : Sto} {i : Nat} {xs : List SV} (h : S[i]? = some (.lst xs)) : truS S (.m i) = some (!xs.isEmpty) := by simp [truS, h]
theorem muAppend_m {S : Sto} {b i : Nat} {xs : List SV} {y : SV} (h : S[i]? = some (.lst xs)) (ho : okIn b i y = true) (hl : xs.length < most) : muAppend b S (.m i) [y] = some (.d .non, S.set i (.lst (xs ++ [y]))) := by
  simp [muAppend, h, ho, hl]
theorem isL_ml {S : Sto} {i : Nat} {xs : List SV} (h : S[i]? = some (.lst xs)) : isL S (.m i) = true := by simp [isL, h]
@[simp] theorem opIsNot_dd (S : Sto) (x : SV) : opIsNot S x (.d .non) = some (.bl (!x.isNon)) := Eq.trans rfl rfl
end Ev

set_option Elab.async false
set_option linter.all false
set_option maxRecDepth 100000
/-! Ev23: loops and comprehensions by what holds ahead of each turn. -/
namespace Ev
open PySem L2
/-! a thing of the store that will not change again is handed on as data -/
def fzR : Option (Dv × Sto) → Res SV
  | some (y, S) => .ok (.d y) S
  | none => .bad
def eFz (f : FE) : FE := fun F S => (f F S).bind fun x S1 => fzR (freeze S1 x)
theorem ev_fz {X : Cx} {cl : CL} {Wx : WX} {e : Expr} {f : FE} (h : PE X e (RE X cl Wx f)) : PE X e (RE X cl Wx (eFz f)) :=
  PE.weak h fun σ H Q ⟨W, F, S, a, o⟩ => by
    refine RE.of a o fun W1 S1 x v H1 g1 l1 a1 q1 o1 => ?_
    cases hf : freeze S1 x with
    | none => rw [hf] at o1; exact o1.elim
    | some p =>
      obtain ⟨y, S2⟩ := p
      rw [hf] at o1
      obtain ⟨n2, w2, k2⟩ := freeze_ok (K := X.K) (cl := cl) hf
      obtain ⟨W2, e2, l2, r2, q2⟩ := k2 W1 H1 v a1.rel q1
      exact o1 W2 H1 v ⟨Nat.le_of_eq n2.symm, fun b _ => w2 b⟩ l2 r2 q2
def kFz (r : Res SV) : Res SV := r.bind fun x S1 => fzR (freeze S1 x)
@[simp] theorem kFz_ok (x : SV) (S : Sto) : kFz (.ok x S) = fzR (freeze S x) := Eq.trans rfl rfl
@[simp] theorem eFz_ap (f : FE) (F : Fr) (S : Sto) : eFz f F S = kFz (f F S) := Eq.trans rfl rfl
@[simp] theorem fzR_s (y : Dv) (S : Sto) : fzR (some (y, S)) = .ok (.d y) S := Eq.trans rfl rfl
theorem forL_inv {tg : Tg} {s : Fr → Sto → SRes} {b : Nat} (I : Nat → Env → Sto → Prop) : ∀ (xs : List SV) (n : Nat) (v : Env) (S : Sto), I n v S →
    (∀ i x v S, xs[i]? = some x → I (n + i) v S → ∃ v1 v' S', tg x ⟨b, v⟩ S = some v1 ∧ (s ⟨b, v1⟩ S = .nx v' S' ∨ s ⟨b, v1⟩ S = .ct v' S') ∧ I (n + i + 1) v' S') →
    ∃ v' S', forL tg s b xs v S = .nx v' S' ∧ I (n + xs.length) v' S'
  | [], n, v, S, h0, _ => ⟨v, S, rfl, h0⟩
  | x :: r, n, v, S, h0, h => by
    obtain ⟨v1, v2, S2, e1, e2, i2⟩ := h 0 x v S rfl h0
    obtain ⟨v', S', e3, i3⟩ := forL_inv I r (n + 1) v2 S2 i2 fun i y w T hy hi => by
      have := h (i + 1) y w T hy (by rw [show n + (i + 1) = n + 1 + i by omega]; exact hi)
      rw [show n + (i + 1) + 1 = n + 1 + i + 1 by omega] at this
      exact this
    refine ⟨v', S', ?_, by rw [List.length_cons, show n + (r.length + 1) = n + 1 + r.length by omega]; exact i3⟩
    rw [forL_cons, e1]
    rcases e2 with e2 | e2 <;> simp [e2, e3]
/-- loops whose turns leave the store as it is, and do not break -/
theorem forL_same {tg : Tg} {s : Fr → Sto → SRes} {b : Nat} {S : Sto} (f : Env → SV → Env) : ∀ (xs : List SV) (v : Env),
    (∀ x ∈ xs, ∀ v, ∃ v1, tg x ⟨b, v⟩ S = some v1 ∧ s ⟨b, v1⟩ S = .nx (f v x) S) → forL tg s b xs v S = .nx (xs.foldl f v) S
  | [], v, _ => rfl
  | x :: r, v, h => by
    obtain ⟨v1, e1, e2⟩ := h x (List.mem_cons_self ..) v
    rw [forL_cons, e1]
    simp only [kTg_s, e2, kTu_nx, List.foldl_cons]
    exact forL_same f r _ fun y hy => h y (List.mem_cons_of_mem _ hy)
theorem lcL_A {α : Type} (enc : α → SV) {tg : Tg} {tt : Fr → Sto → Res Bool} {te : Fr → Sto → Res SV} {b : Nat} {ve : Env} (p : α → Bool) (f : α → Dv) {B : Sto} (hb : B.length = b) : ∀ (xs : List α) (acc : List Dv), acc.length + xs.length ≤ most →
    (∀ x ∈ xs, ∀ T : Sto, ∃ v1, tg (enc x) ⟨b, ve⟩ T = some v1 ∧ tt ⟨b, v1⟩ T = .ok (p x) T ∧ (p x = true → te ⟨b, v1⟩ T = .ok (.d (f x)) T)) →
    lcL tg tt te b ve (xs.map enc) (B ++ [.lst (acc.map .d)]) = .ok (.m b) (B ++ [.lst ((acc ++ (xs.filter p).map f).map .d)])
  | [], acc, _, _ => by simp [lcL]
  | x :: r, acc, hl, h => by
    obtain ⟨v1, h0, h1, h2⟩ := h x (List.mem_cons_self ..) (B ++ [.lst (acc.map .d)])
    simp only [List.length_cons] at hl
    have hg : (B ++ [MO.lst (acc.map SV.d)])[b]? = some (.lst (acc.map .d)) := by subst hb; simp
    rw [List.map_cons]
    unfold lcL
    cases hp : p x with
    | false =>
      have ih := lcL_A enc (tt := tt) (te := te) (ve := ve) p f hb r acc (by omega) fun y hy T => h y (List.mem_cons_of_mem _ hy) T
      simp only [h0, h1, noX_ok, Res.bind_ok, hp, Bool.false_eq_true, if_false, ih]
      simp [hp]
    | true =>
      have ih := lcL_A enc (tt := tt) (te := te) (ve := ve) p f hb r (acc ++ [f x]) (by simp; omega) fun y hy T => h y (List.mem_cons_of_mem _ hy) T
      simp only [h0, h1, noX_ok, Res.bind_ok, hp, h2 hp, if_true, hg, lcPut, List.length_map]
      rw [if_pos (by omega)]
      simp only
      have hs : (B ++ [MO.lst (acc.map SV.d)]).set b (.lst (acc.map .d ++ [.d (f x)])) = B ++ [.lst ((acc ++ [f x]).map .d)] := by subst hb; simp
      rw [hs, ih]
      simp [hp]
/-- a comprehension over things that are told by their codes, with a test; nothing is changed by a turn -/
theorem lcAll_A {α : Type} (enc : α → SV) {tg : Tg} {tt : Fr → Sto → Res Bool} {te : Fr → Sto → Res SV} {vs : List Nat} {v : Env} {S : Sto} (xs : List α) (p : α → Bool) (f : α → Dv) (hl : xs.length ≤ most)
    (h : ∀ x ∈ xs, ∀ T : Sto, ∃ v1, tg (enc x) ⟨S.length, wipeE v vs⟩ T = some v1 ∧ tt ⟨S.length, v1⟩ T = .ok (p x) T ∧ (p x = true → te ⟨S.length, v1⟩ T = .ok (.d (f x)) T)) :
    lcAll fin vs tg tt te v (xs.map enc) S = .ok (.d (.lst ((xs.filter p).map f))) S := by
  unfold lcAll
  have e := lcL_A enc (tg := tg) (tt := tt) (te := te) (ve := wipeE v vs) p f (B := S) rfl xs [] (by simpa using hl) h
  simp only [List.map_nil, List.nil_append] at e
  rw [e]
  unfold fin
  simp only
  have hf : freeze (S ++ [MO.lst (((xs.filter p).map f).map SV.d)]) (SV.m S.length) = _ := freeze_lst (xs := (xs.filter p).map f) (by simp)
  rw [hf]
  simp
/-- .. without a test -/
theorem lcAll_M {α : Type} (enc : α → SV) {tg : Tg} {te : Fr → Sto → Res SV} {vs : List Nat} {v : Env} {S : Sto} (xs : List α) (f : α → Dv) (hl : xs.length ≤ most)
    (h : ∀ x ∈ xs, ∀ T : Sto, ∃ v1, tg (enc x) ⟨S.length, wipeE v vs⟩ T = some v1 ∧ te ⟨S.length, v1⟩ T = .ok (.d (f x)) T) :
    lcAll fin vs tg tYs te v (xs.map enc) S = .ok (.d (.lst (xs.map f))) S := by
  have := lcAll_A enc (tg := tg) (tt := tYs) (te := te) (vs := vs) (v := v) (S := S) xs (fun _ => true) f hl fun x hx T => by
    obtain ⟨v1, h1, h2⟩ := h x hx T
    exact ⟨v1, h1, rfl, fun _ => h2⟩
  rw [List.filter_eq_self.mpr (fun _ _ => rfl)] at this
  exact this
end Ev

set_option Elab.async false
set_option linter.all false
set_option maxRecDepth 100000
/-! Ev24: loops over a dict that may be changed before and behind them. -/
namespace Ev
open PySem L2
section
variable {K : PySem.W.Frag} {cl : Nat → Addr} {W : Wd} {S : Sto} {H : Hp}
/-- the same world, other locks -/
theorem RelMO.keepL {L' : Hp} {n : Nat} {H' : Hp} {a : Addr} {mo : MO} (q : RelMO K cl W n H a mo) (hL : isMut mo = true → L' a = W.L a) (hh : isMut mo = true → H' a = H a) : RelMO K cl ⟨W.ρ, W.G, L'⟩ n H' a mo := by
  cases mo with
  | lst xs => obtain ⟨q1, vs, q2, q3⟩ := q; exact ⟨⟨q1.1, (hL rfl).trans q1.2⟩, vs, by rw [hh rfl]; exact q2, q3⟩
  | dic ks xs => obtain ⟨q1, vs, q2, q4, q3⟩ := q; exact ⟨⟨q1.1, (hL rfl).trans q1.2⟩, vs, by rw [hh rfl]; exact q2, q4, q3⟩
  | ins c fs xs => obtain ⟨q1, vs, dx, q2, q4, q3⟩ := q; exact ⟨⟨q1.1, (hL rfl).trans q1.2⟩, vs, dx, by rw [hh rfl]; exact q2, q4, q3⟩
  | frz x => exact q
  | tup xs => obtain ⟨q1, vs, q2, q3⟩ := q; exact ⟨⟨q1.1, (hL rfl).trans q1.2⟩, vs, by rw [hh rfl]; exact q2, q3⟩
  | lck ks xs => obtain ⟨q1, vs, od, q2, q4, q3⟩ := q; exact ⟨q1, vs, od, ⟨by rw [hh rfl]; exact q2.1, (hL rfl).trans q2.2⟩, q4, q3⟩
theorem set_inj {j : Nat} {mo mo' : MO} (r : Rel K cl W S H) (e : S[j]? = some mo) (hm : isMut mo = true) : ∀ (i k : Nat) (mi mk : MO), (S.set j mo')[i]? = some mi → (S.set j mo')[k]? = some mk → isMut mi = true → isMut mk = true → W.ρ i = W.ρ k → i = k := by
  intro i k mi mk ei ek a1 a2 q
  have un : ∀ i mi, (S.set j mo')[i]? = some mi → isMut mi = true → ∃ mi', S[i]? = some mi' ∧ isMut mi' = true := fun i mi ei a => by
    by_cases h : j = i
    · subst h; exact ⟨mo, e, hm⟩
    · rw [List.getElem?_set_ne h] at ei; exact ⟨mi, ei, a⟩
  obtain ⟨mi', e1, b1⟩ := un i mi ei a1
  obtain ⟨mk', e2, b2⟩ := un k mk ek a2
  exact r.inj i k mi' mk' e1 e2 b1 b2 q
theorem Rel.lock (r : Rel K cl W S H) {j : Nat} {ks : List Key} {xs : List SV} (e : S[j]? = some (.dic ks xs)) :
    ∃ vs, H (W.ρ j) = some (.dK (ks.zip vs)) ∧ ks.length = vs.length ∧ ks.all keyOk = true ∧ W.un (W.ρ j) ∧ ∀ od, Rel K cl ⟨W.ρ, W.G, upd W.L (W.ρ j) (.frz od (.dK (ks.zip vs)))⟩ (S.set j (.lck ks xs)) (upd H (W.ρ j) (.frz od (.dK (ks.zip vs)))) := by
  obtain ⟨un, vs, h1, l, p⟩ := r.st j _ e
  have hl : j < S.length := (List.getElem?_eq_some_iff.mp e).1
  refine ⟨vs, h1, l.1.trans (PySem.Paired.length p), l.2, un, fun od => ⟨fun a o ea => ?_, fun i mi ei => ?_, fun i k mi mk ei ek a1 a2 q => set_inj r e rfl i k mi mk ei ek a1 a2 q, fun a o ea => ?_⟩⟩
  · rw [upd_ne (fun z => by rw [z, un.1] at ea; cases ea)]
    exact r.fz a o ea
  · rw [List.length_set]
    by_cases h : j = i
    · subst h
      rw [List.getElem?_set, if_pos rfl, if_pos hl] at ei
      cases ei
      exact ⟨un.1, vs, od, ⟨upd_same, upd_same⟩, l, p⟩
    · rw [List.getElem?_set_ne h] at ei
      have ne : isMut mi = true → W.ρ i ≠ W.ρ j := fun hm z => h (r.inj i j mi _ ei e hm rfl z).symm
      exact (r.st i mi ei).keepL (fun hm => upd_ne (ne hm)) fun hm => upd_ne (ne hm)
  · have ea : upd W.L (W.ρ j) (.frz od (.dK (ks.zip vs))) a = some o := ea
    by_cases h : a = W.ρ j
    · subst h
      rw [upd_same] at ea ⊢
      cases ea
      exact ⟨rfl, od, _, rfl⟩
    · rw [upd_ne h] at ea ⊢
      exact r.lk a o ea
def off (L : Hp) (d : Addr) : Hp := fun a => if a = d then none else L a
theorem off_ne {L : Hp} {d a : Addr} (h : a ≠ d) : off L d a = L a := if_neg h
theorem off_same {L : Hp} {d : Addr} : off L d d = none := if_pos rfl
theorem Rel.unlock (r : Rel K cl W S H) {j : Nat} {ks : List Key} {xs : List SV} (e : S[j]? = some (.lck ks xs)) {od : Obj} {u : HO} (hL : W.L (W.ρ j) = some (.frz od u)) :
    H (W.ρ j) = some (.frz od u) ∧ Rel K cl ⟨W.ρ, W.G, off W.L (W.ρ j)⟩ (S.set j (.dic ks xs)) (upd H (W.ρ j) u) := by
  obtain ⟨g0, vs, od', h1, l, p⟩ := r.st j _ e
  have hl : j < S.length := (List.getElem?_eq_some_iff.mp e).1
  have eu : HO.frz od u = .frz od' (.dK (ks.zip vs)) := Option.some.inj (hL.symm.trans h1.2)
  cases eu
  refine ⟨h1.1, ⟨fun a o ea => ?_, fun i mi ei => ?_, fun i k mi mk ei ek a1 a2 q => set_inj r e rfl i k mi mk ei ek a1 a2 q, fun a o ea => ?_⟩⟩
  · rw [upd_ne (fun z => by rw [z, g0] at ea; cases ea)]
    exact r.fz a o ea
  · rw [List.length_set]
    by_cases h : j = i
    · subst h
      rw [List.getElem?_set, if_pos rfl, if_pos hl] at ei
      cases ei
      exact ⟨⟨g0, off_same⟩, vs, upd_same, l, p⟩
    · rw [List.getElem?_set_ne h] at ei
      have ne : isMut mi = true → W.ρ i ≠ W.ρ j := fun hm z => h (r.inj i j mi _ ei e hm rfl z).symm
      exact (r.st i mi ei).keepL (fun hm => off_ne (ne hm)) fun hm => upd_ne (ne hm)
  · have ea : off W.L (W.ρ j) a = some o := ea
    by_cases h : a = W.ρ j
    · rw [h, off_same] at ea; cases ea
    · rw [off_ne h] at ea
      rw [upd_ne h]
      exact r.lk a o ea
end
/-- the end of a loop over a dict: it may be changed again -/
def ulk (j : Nat) (S : Sto) : Option Sto := match S[j]? with
  | some (.lck ks xs) => some (S.set j (.dic ks xs))
  | _ => none
def unlk (j : Nat) : SRes → SRes
  | .nx v S => match ulk j S with | some S2 => .nx v S2 | none => .bad
  | .rt x S => match ulk j S with | some S2 => .rt x S2 | none => .bad
  | _ => .bad
def sForK (i : Nat) (tg : Tg) (body : Fr → Sto → SRes) : Fr → Sto → SRes := fun F S => match F.v[i]? with
  | some (some (.m j)) => match S[j]? with
    | some (.dic ks xs) => unlk j (forL tg body F.b (ks.map keyS) F.v (S.set j (.lck ks xs)))
    | _ => .bad
  | _ => .bad
section
variable {X : Cx} {f : Nat → Addr} {Wx : WX} {D : Ends} {W W2 : Wd} {S S2 : Sto} {b j : Nat} {d : Addr} {od : Obj} {u : HO} {r : SRes}
theorem gr_lck {ks : List Key} {xs : List SV} (e : S[j]? = some (.dic ks xs)) : Gr b S (S.set j (.lck ks xs)) := .set fun b' hb w hi x hx => w j (.dic ks xs) hi e x hx
theorem gr_ulk (e : ulk j S = some S2) : Gr b S S2 ∧ ∃ ks xs, S[j]? = some (.lck ks xs) ∧ S2 = S.set j (.dic ks xs) := by
  unfold ulk at e
  split at e
  · rename_i ks xs h
    cases e
    exact ⟨.set fun b' hb w hi x hx => w j (.lck ks xs) hi h x hx, ks, xs, h, rfl⟩
  · cases e
def lockE (D : Ends) (d : Addr) (od : Obj) (u : HO) : Ends := ⟨fun σ' H' => H' d = some (.frz od u) ∧ D.nx σ' (upd H' d u), fun v H' => H' d = some (.frz od u) ∧ D.rt v (upd H' d u), fun σ' H' => H' d = some (.frz od u) ∧ D.bk σ' (upd H' d u), fun σ' H' => H' d = some (.frz od u) ∧ D.ct σ' (upd H' d u)⟩
theorem le_off {W3 : Wd} (hd : W.L d = none) (l : Le S.length ⟨W.ρ, W.G, upd W.L d (.frz od u)⟩ W3) : Le S.length W ⟨W3.ρ, W3.G, off W3.L d⟩ := by
  refine ⟨l.g, l.r, fun a o e => ?_⟩
  have ne : a ≠ d := fun z => by rw [z, hd] at e; cases e
  show off W3.L d a = some o
  rw [off_ne ne]
  exact l.l a o (by show upd W.L d (.frz od u) a = some o; rw [upd_ne ne]; exact e)
theorem out_unlk (hd : W.L d = none) (hj : j < S.length) (hρ : W.ρ j = d) {ks : List Key} {xs : List SV} (e0 : S[j]? = some (.dic ks xs)) (o : OutS X.K (CL.pure f) Wx D b W S (unlk j r)) :
    OutS X.K (CL.pure f) Wx (lockE D d od u) b ⟨W.ρ, W.G, upd W.L d (.frz od u)⟩ (S.set j (.lck ks xs)) r := by
  have len : (S.set j (.lck ks xs)).length = S.length := List.length_set
  have main : ∀ {W3 : Wd} {S3 S4 : Sto} {H3 : Hp}, Gr b (S.set j (.lck ks xs)) S3 → Le (S.set j (.lck ks xs)).length ⟨W.ρ, W.G, upd W.L d (.frz od u)⟩ W3 → Rel X.K f W3 S3 H3 → ulk j S3 = some S4 →
      Gr b S S4 ∧ Le S.length W ⟨W3.ρ, W3.G, off W3.L d⟩ ∧ H3 d = some (.frz od u) ∧ Rel X.K f ⟨W3.ρ, W3.G, off W3.L d⟩ S4 (upd H3 d u) ∧ S4.length = S3.length := by
    intro W3 S3 S4 H3 g l r3 eu
    rw [len] at l
    obtain ⟨g4, ks', xs', e3, rfl⟩ := gr_ulk (b := b) eu
    have hr : W3.ρ j = d := (l.r j hj).trans hρ
    have hL : W3.L (W3.ρ j) = some (.frz od u) := by
      rw [hr]
      exact l.l d _ (by show upd W.L d (.frz od u) d = _; exact upd_same)
    obtain ⟨h1, h2⟩ := r3.unlock e3 hL
    rw [hr] at h1 h2
    exact ⟨((gr_lck e0).trans g (Nat.le_refl _)).trans g4 (Nat.le_refl _), le_off hd l, h1, h2, List.length_set⟩
  cases r with
  | nx v S3 =>
    unfold unlk at o
    simp only at o
    split at o
    · rename_i S4 h4
      intro W3 σ3 H3 g l a
      obtain ⟨g', l', h1, r', len'⟩ := main g l a.rel h4
      refine ⟨h1, o _ σ3 _ g' l' ⟨?_, r', ?_, trivial⟩⟩
      · rw [len']; exact a.b
      · rw [len']; exact ⟨a.env.len, a.env.get⟩
    · exact o.elim
  | rt x S3 =>
    unfold unlk at o
    simp only at o
    split at o
    · rename_i S4 h4
      intro W3 H3 v g l r3 q
      obtain ⟨g', l', h1, r', len'⟩ := main g l r3 h4
      exact ⟨h1, o _ _ v g' l' r' (by rw [len']; exact q)⟩
    · exact o.elim
  | bk v S3 => exact o.elim
  | ct v S3 => exact o.elim
  | ex e v S3 => exact o.elim
  | bad => exact o.elim
theorem sv_forK (i : Nat) {x : Str} {tgt : Expr} {p pos : Pos} {body : List Stmt} {tg : Tg} {fb : Fr → Sto → SRes} (hp : PassesOwn (model X.prog X.w) X.A X.env X.xe) (hc : X.calm = true) (hN : X.N[i]? = some x) (hv : Vis X.env.scope x) (hd : (x == ("__debug__" : Str)) = false) (hcd : (x == ("__classdict__" : Str)) = false)
    (hg : PG X tgt (RG X (CL.pure f) tg)) (hb : PSs X body (RS X (CL.pure f) Wx fb)) (hs : ∀ y, foldedSetIterable (.Name x p) X.env y = pure y := by exact fun _ => rfl) : PS X (.For tgt (.Name x p) body [] pos) (RS X (CL.pure f) Wx (sForK i tg fb)) :=
  PS.weak (ps_lock (ps_for hp hc (pi_keys (pe_var hN hv hd hcd)) hg hb hs)) fun D σ H ⟨W, F, S, a, o⟩ => by
    unfold sForK at o
    split at o
    · rename_i j ej
      split at o
      · rename_i ks xs hx
        obtain ⟨v, e1, hj, rfl⟩ := a.env.get i _ ej
        obtain ⟨vs, h1, l, ko, un, rl⟩ := a.rel.lock hx
        have lz : (ks.zip vs).length = ks.length := by rw [List.length_zip, ← l, Nat.min_self]
        have kz : ∀ {i k v}, (ks.zip vs)[i]? = some (k, v) → ks[i]? = some k := fun {i k v} e => (List.getElem?_zip_eq_some.mp e).1
        have kk : ∀ {i k} {G : Hp}, ks[i]? = some k → RelD X.K f G (keyD k) (L2.kV k) := fun {i k G} e => by
          have := List.all_eq_true.mp ko k (List.mem_of_getElem? e)
          cases k with
          | inl i => exact .int i
          | inr s => exact .str s this
        refine ⟨W.ρ j, .dK (ks.zip vs), h1, trivial, fun od => ⟨_, e1, W.ρ j, od, rfl, .inl ⟨ks.zip vs, upd_same, ?_⟩⟩⟩
        have a2 : At X.K (CL.pure f) ⟨W.ρ, W.G, upd W.L (W.ρ j) (.frz od (.dK (ks.zip vs)))⟩ F (S.set j (.lck ks xs)) σ (upd H (W.ρ j) (.frz od (.dK (ks.zip vs)))) :=
          ⟨by rw [List.length_set]; exact a.b, rl od, by rw [List.length_set]; exact ⟨a.env.len, a.env.get⟩, trivial⟩
        have o2 := out_unlk (od := od) (u := .dK (ks.zip vs)) un.2 hj rfl hx o
        refine for_itk (D := lockE D (W.ρ j) od (.dK (ks.zip vs))) (ForP X (CL.pure f) Wx (lockE D (W.ρ j) od (.dK (ks.zip vs))) F.b _ _ tg fb (ks.map keyS)) ⟨_, F.v, _, Nat.le_refl _, .refl _ _, a2, o2⟩ (fun i σ H _ ⟨W', v, S', hn, hl, a, _⟩ => ?_) (fun i k v σ H hx hP => ?_) fun σ H hP => ?_
        · exact (a.rel.lk _ _ (hl.l (W.ρ j) _ (by show upd W.L (W.ρ j) _ (W.ρ j) = _; exact upd_same))).1
        · exact forP_turn (sv := keyS k) (by rw [List.getElem?_map, kz hx]; rfl) (fun W n hl hn => kk (kz hx)) hP
        · obtain ⟨W', v, S', hn, hl, a, o⟩ := hP
          rw [List.drop_of_length_le (by rw [List.length_map, lz]; exact Nat.le_refl _)] at o
          exact OutS.here o a
      · exact o.elim
    · exact o.elim
end
def kUl (j : Nat) (r : SRes) : SRes := unlk j r
def optRt (x : SV) : Option Sto → SRes
  | some S => .rt x S
  | none => .bad
@[simp] theorem optRt_s (x : SV) (S : Sto) : optRt x (some S) = .rt x S := Eq.trans rfl rfl
@[simp] theorem unlk_nx (j : Nat) (v : Env) (S : Sto) : unlk j (.nx v S) = optT (ulk j S) v := by
  unfold unlk
  cases h : ulk j S <;> simp [h, optT, optRt]
@[simp] theorem unlk_rt (j : Nat) (x : SV) (S : Sto) : unlk j (.rt x S) = optRt x (ulk j S) := by
  unfold unlk
  cases h : ulk j S <;> simp [h, optT, optRt]
end Ev

set_option Elab.async false
set_option linter.all false
set_option maxRecDepth 100000
/-! Ev25: dict comprehensions. -/
namespace Ev
open PySem L2
def dcPut (b : Nat) (k : Key) (y : SV) (S : Sto) : Option MO → Option Sto
  | some (.dic ks xs) => if ks.length < most then some (S.set b (.dic (dPut k y ks xs).1 (dPut k y ks xs).2)) else none
  | _ => none
def dcL (tg : Tg) (tt : Fr → Sto → Res Bool) (tk tv : Fr → Sto → Res SV) (b : Nat) (ve : Env) : List SV → Sto → Res SV
  | [], S => .ok (.m b) S
  | x :: r, S => match tg x ⟨b, ve⟩ S with
    | some v1 => (noX (tt ⟨b, v1⟩ S)).bind fun c S1 => if c = true then (noX (tk ⟨b, v1⟩ S1)).bind fun kx S2 => match (view S2 kx).bind kOf with
        | some k => (noX (tv ⟨b, v1⟩ S2)).bind fun y S3 => match dcPut b k y S3 S3[b]? with
          | some S4 => dcL tg tt tk tv b ve r S4
          | none => .bad
        | none => .bad
      else dcL tg tt tk tv b ve r S1
    | none => .bad
def dcAll (fi : Nat → Res SV → Res SV) (vs : List Nat) (tg : Tg) (tt : Fr → Sto → Res Bool) (tk tv : Fr → Sto → Res SV) (v : Env) (xs : List SV) (S : Sto) : Res SV :=
  fi S.length (dcL tg tt tk tv S.length (wipeE v vs) xs (S ++ [.dic [] []]))
def dcS (fi : Nat → Res SV → Res SV) (vs : List Nat) (tg : Tg) (tt : Fr → Sto → Res Bool) (tk tv : Fr → Sto → Res SV) (v : Env) : Option (Dv × Sto) → Res SV
  | some (.lst xs, S) => dcAll fi vs tg tt tk tv v (xs.map .d) S
  | some (.tup xs, S) => dcAll fi vs tg tt tk tv v (xs.map .d) S
  | some (.dic ks _, S) => dcAll fi vs tg tt tk tv v (ks.map keyS) S
  | _ => .bad
def eDcW (fi : Nat → Res SV → Res SV) (vs : List Nat) (fe : Fr → Sto → Res SV) (tg : Tg) (tt : Fr → Sto → Res Bool) (tk tv : Fr → Sto → Res SV) : Fr → Sto → Res SV := fun F S =>
  (fe F S).bind fun x S1 => dcS fi vs tg tt tk tv F.v (freeze S1 x)
abbrev eDc := eDcW fin
abbrev eDcK := eDcW finK
section
variable {X : Cx} {cl : CL} {Wx : WX}
variable {W W0 : Wd} {F : Fr} {S : Sto} {σ : St} {H : Hp} {D : Addr} {Q : VK} {n0 : Nat} {vs : List Nat} {tg : Tg} {tt : Fr → Sto → Res Bool} {tk tv : Fr → Sto → Res SV} {ve v : Env} {xs : List SV} {fi : Nat → Res SV → Res SV} {fe : Fr → Sto → Res SV}
def DcP (X : Cx) (cl : CL) (Wx : WX) (Q : VK) (σ : St) (vs : List Nat) (n0 : Nat) (W0 : Wd) (tg : Tg) (tt : Fr → Sto → Res Bool) (tk tv : Fr → Sto → Res SV) (ve : Env) (xs : List SV) (i : Nat) (H : Hp) : Prop :=
  ∃ W S, n0 < S.length ∧ Le (n0 + 1) W0 W ∧ At X.K (CL.pure cl) W ⟨n0, ve⟩ S (L2.wipe σ vs) H ∧ Out X.K cl Wx (RSV X.K cl) n0 W S σ (dcL tg tt tk tv n0 ve (xs.drop i) S) Q
theorem dcP_turn {i : Nat} {x : V} {sv : SV} (hx : xs[i]? = some sv) (hD : W0.ρ n0 = D) (hq : ∀ W n, Le (n0 + 1) W0 W → n0 < n → RelSV X.K cl W n sv x) (h : DcP X cl Wx Q σ vs n0 W0 tg tt tk tv ve xs i H) :
    RGw X (CL.pure cl) vs tg x (L2.wipe σ vs) H fun σ2 H2 => L2.wipe σ2 vs = L2.wipe σ vs ∧ RT X (CL.pure cl) WF tt σ2 H2 fun b H3 => if b = true then RE X (CL.pure cl) WF tk σ2 H3 fun y H4 => RE X (CL.pure cl) WF tv σ2 H4 fun z H5 => ∃ kvs k, y = L2.kV k ∧ H5 D = some (.dK kvs) ∧ kvs.length < sizeLine ∧ DcP X cl Wx Q σ vs n0 W0 tg tt tk tv ve xs (i + 1) (upd H5 D (.dK (putK kvs k z))) else DcP X cl Wx Q σ vs n0 W0 tg tt tk tv ve xs (i + 1) H3 := by
  obtain ⟨W, S, hn, hl, a, o⟩ := h
  have hi := (List.getElem?_eq_some_iff.mp hx).1
  have hd : xs.drop i = sv :: xs.drop (i + 1) := by
    rw [List.drop_eq_getElem_cons hi]
    congr 1
    exact (List.getElem?_eq_some_iff.mp hx).2
  rw [hd] at o
  unfold dcL at o
  have wp : ∀ {W1 : Wd} {S1 : Sto} {v1 : Env} {σ' : St} {H1 : Hp}, L2.wipe σ' vs = L2.wipe σ vs → Le S.length W W1 → S.length ≤ S1.length → At X.K (CL.pure cl) W1 ⟨n0, v1⟩ S1 σ' H1 → At X.K (CL.pure cl) W1 ⟨n0, ve⟩ S1 (L2.wipe σ vs) H1 :=
    fun _ l1 h1 a1 => ⟨a1.b, a1.rel, a.env.le l1 h1, trivial⟩
  cases ht : tg sv ⟨n0, ve⟩ S with
  | none => simp only [ht] at o; exact o.elim
  | some v1 =>
    simp only [ht] at o
    refine ⟨W, ⟨n0, ve⟩, S, sv, v1, a, hq W _ hl hn, ht, fun σ' w' a' => ⟨by rw [w']; exact wipe_idem, ?_⟩⟩
    have w2 : L2.wipe σ' vs = L2.wipe σ vs := by rw [w']; exact wipe_idem
    refine RT.ofN a' o fun W1 S1 c H1 g1 l1 a1 o1 => ?_
    by_cases hc : c = true
    · rw [if_pos hc] at o1 ⊢
      refine RE.ofN a1 o1 fun W2 S2 y yv H2 g2 l2 a2 q2 o2 => ?_
      split at o2
      · rename_i k hk
        have ek : yv = L2.kV k ∧ keyOk k = true := by
          cases hv : view S2 y with
          | none => rw [hv] at hk; cases hk
          | some kd =>
            rw [hv] at hk
            exact ⟨key_rel a2.rel hv q2 hk, key_ok a2.rel hv q2 hk⟩
        refine RE.ofN a2 o2 fun W3 S3 z zv H3 g3 l3 a3 q3 o3 => ?_
        split at o3
        · rename_i S4 hp
          unfold dcPut at hp
          split at hp
          · rename_i ks acc ha
            split at hp
            · rename_i hz
              cases hp
              obtain ⟨g0, us, h1, l0, h2⟩ := a3.rel.st n0 _ ha
              have hD2 : W3.ρ n0 = D := by
                rw [l3.r n0 (Nat.lt_of_lt_of_le hn (Nat.le_trans g1.len g2.len)), l2.r n0 (Nat.lt_of_lt_of_le hn g1.len), l1.r n0 hn, hl.r n0 (Nat.lt_succ_self _), hD]
              rw [hD2] at h1 g0
              have lv : ks.length = us.length := l0.1.trans (PySem.Paired.length h2)
              have p2 : ∃ us2, putK (ks.zip us) k zv = (dPut k z ks acc).1.zip us2 ∧ Paired (RelSV X.K cl W3 S3.length) (dPut k z ks acc).2 us2 := by
                rw [put_zip lv]
                unfold dPut
                by_cases h : hasK k ks = true
                · rw [if_pos h, if_pos h]; exact ⟨_, rfl, paired_zw q3 h2⟩
                · rw [if_neg h, if_neg h]; exact ⟨_, rfl, paired_snoc h2 q3⟩
              obtain ⟨us2, e2, p2⟩ := p2
              refine ⟨ks.zip us, k, ek.1, h1, by rw [List.length_zip, ← lv, Nat.min_self]; exact hz, ?_⟩
              rw [e2]
              have r3 := a3.rel.set ha (ho := .dK ((dPut k z ks acc).1.zip us2)) (mo' := .dic (dPut k z ks acc).1 (dPut k z ks acc).2) rfl ⟨by rw [hD2]; exact g0, _, by rw [hD2]; exact upd_same, dPut_len l0 ek.2, p2⟩
              rw [hD2] at r3
              have g4 : Gr n0 S3 (S3.set n0 (.dic (dPut k z ks acc).1 (dPut k z ks acc).2)) := Gr.set fun b' hb' w hi => absurd hi (Nat.not_lt.mpr hb')
              have l13 := (l1.trans l2 g1.len).trans l3 (Nat.le_trans g1.len g2.len)
              have len := Nat.le_trans (Nat.le_trans g1.len g2.len) g3.len
              refine ⟨W3, S3.set n0 _, ?_, hl.trans l13 hn, ?_, Out.rebase o3 g4 (.refl _ _)⟩
              · rw [List.length_set]; exact Nat.lt_of_lt_of_le hn len
              · refine ⟨?_, r3, ?_, trivial⟩
                · have := a3.b; rw [List.length_set]; exact this
                · rw [List.length_set]; exact a.env.le l13 len
            · cases hp
          · cases hp
        · exact o3.elim
      · exact o2.elim
    · rw [if_neg hc] at o1 ⊢
      exact ⟨W1, S1, Nat.lt_of_lt_of_le hn g1.len, hl.trans l1 hn, wp w2 l1 g1.len a1, o1⟩
theorem dcP_start (a : At X.K cl W F S σ H) (hD : H D = none) (o : Out X.K cl Wx (RSV X.K cl) S.length W S σ (dcL tg tt tk tv S.length (wipeE F.v vs) xs (S ++ [.dic [] []])) Q) :
    DcP X cl Wx Q σ vs S.length (W.add S.length D) tg tt tk tv (wipeE F.v vs) xs 0 (upd H D (.dK [])) := by
  have r1 := a.rel.newM (p := D) (mo := .dic [] []) (ho := .dK []) hD ⟨a.rel.unone hD, [], upd_same, ⟨rfl, rfl⟩, .nil⟩
  have hl : (S ++ [MO.dic [] []]).length = S.length + 1 := by rw [List.length_append]; rfl
  refine ⟨_, _, by omega, .refl _ _, ⟨by show S.length ≤ _; omega, r1, ?_, trivial⟩, ?_⟩
  · rw [hl]; exact (EnvR.wipe a.env vs).le (W.add_le _ _) (Nat.le_succ _)
  · exact Out.rebase o (Gr.add _ _ _ (Nat.le_refl _)) (W.add_le _ _)
theorem dcP_end {n : Nat} (hD : W0.ρ n0 = D) (hx : n = xs.length) (h : DcP X cl Wx Q σ vs n0 W0 tg tt tk tv ve xs n H) : Q (.ref D) H := by
  subst hx
  obtain ⟨W, S, hn, hl, a, o⟩ := h
  rw [List.drop_of_length_le (Nat.le_refl _)] at o
  exact o W H _ (.refl _ _) (.refl _ _) a.rel ⟨hn, by rw [hl.r n0 (Nat.lt_succ_self _), hD]⟩
theorem dc_itk {d : Addr} {o : Obj} {kvs : List (Key × V)} {g : TG} {tt : TT} {tk tv : TE} {vs : List Nat} {σ : L2.St} {H1 : Hp} {D : Addr} {Qd : Hp → Prop} (Pv : Nat → Hp → Prop) (h0 : Pv 0 (upd H1 D (.dK []))) (hl : ∀ i H, i ≤ kvs.length → Pv i H → H d = some (.frz o (.dK kvs)))
    (hs : ∀ i k v H, kvs[i]? = some (k, v) → Pv i H → g (L2.kV k) (L2.wipe σ vs) H fun σ2 H2 => L2.wipe σ2 vs = L2.wipe σ vs ∧ tt σ2 H2 fun b H3 =>
      if b = true then tk σ2 H3 fun y H4 => tv σ2 H4 fun z H5 => ∃ kvs k, y = L2.kV k ∧ H5 D = some (.dK kvs) ∧ kvs.length < sizeLine ∧ Pv (i + 1) (upd H5 D (.dK (putK kvs k z))) else Pv (i + 1) H3) (hd : ∀ H, Pv kvs.length H → Qd H) :
    ∃ W : Nat → Nat → Hp → Prop, (∃ m, W 0 m (upd H1 D (.dK []))) ∧ ∀ i m H, W i m H →
      ((Itk d o kvs).stop i H ∧ Qd H) ∨ ((Itk d o kvs).go i H ∧ ∃ Nx : Hp → Prop, (∀ H', Nx H' → ∃ m', m' < m ∧ W (i + 1) m' H') ∧ ∀ x H', (Itk d o kvs).yld i H x H' → g x (L2.wipe σ vs) H' fun σ2 H2 => L2.wipe σ2 vs = L2.wipe σ vs ∧ tt σ2 H2 fun b H3 =>
        if b = true then tk σ2 H3 fun y H4 => tv σ2 H4 fun z H5 => ∃ kvs k, y = L2.kV k ∧ H5 D = some (.dK kvs) ∧ kvs.length < sizeLine ∧ Nx (upd H5 D (.dK (putK kvs k z))) else Nx H3) := by
  refine ⟨fun i m H => m = kvs.length - i ∧ i ≤ kvs.length ∧ Pv i H, ⟨kvs.length, by simp, Nat.zero_le _, h0⟩, ?_⟩
  rintro i m H ⟨rfl, hi, p⟩
  have q := hl i H hi p
  by_cases hlt : i < kvs.length
  · refine .inr ⟨⟨q, hlt⟩, Pv (i + 1), fun H' p' => ⟨kvs.length - (i + 1), by omega, rfl, hlt, p'⟩, fun x H' y => ?_⟩
    obtain ⟨e, k, v, hk, rfl⟩ := y
    subst e
    exact hs i k v _ hk p
  · have e : i = kvs.length := by omega
    subst e
    exact .inl ⟨⟨q, Nat.le_refl _⟩, hd H p⟩
theorem dc_list {K : PySem.W.Frag} {a : Addr} {xs : List V} {g : TG} {tt : TT} {tk tv : TE} {vs : List Nat} {σ : L2.St} {H1 : Hp} {D : Addr} {Qd : Hp → Prop} (Pv : Nat → Hp → Prop) (h0 : Pv 0 (upd H1 D (.dK []))) (hl : ∀ i H, i ≤ xs.length → Pv i H → SqL K H a xs)
    (hs : ∀ i x H, xs[i]? = some x → Pv i H → g x (L2.wipe σ vs) H fun σ2 H2 => L2.wipe σ2 vs = L2.wipe σ vs ∧ tt σ2 H2 fun b H3 =>
      if b = true then tk σ2 H3 fun y H4 => tv σ2 H4 fun z H5 => ∃ kvs k, y = L2.kV k ∧ H5 D = some (.dK kvs) ∧ kvs.length < sizeLine ∧ Pv (i + 1) (upd H5 D (.dK (putK kvs k z))) else Pv (i + 1) H3) (hd : ∀ H, Pv xs.length H → Qd H) :
    ∃ W : Nat → Nat → Hp → Prop, (∃ m, W 0 m (upd H1 D (.dK []))) ∧ ∀ i m H, W i m H →
      ((Itl K a).stop i H ∧ Qd H) ∨ ((Itl K a).go i H ∧ ∃ Nx : Hp → Prop, (∀ H', Nx H' → ∃ m', m' < m ∧ W (i + 1) m' H') ∧ ∀ x H', (Itl K a).yld i H x H' → g x (L2.wipe σ vs) H' fun σ2 H2 => L2.wipe σ2 vs = L2.wipe σ vs ∧ tt σ2 H2 fun b H3 =>
        if b = true then tk σ2 H3 fun y H4 => tv σ2 H4 fun z H5 => ∃ kvs k, y = L2.kV k ∧ H5 D = some (.dK kvs) ∧ kvs.length < sizeLine ∧ Nx (upd H5 D (.dK (putK kvs k z))) else Nx H3) := by
  refine ⟨fun i m H => m = xs.length - i ∧ i ≤ xs.length ∧ Pv i H, ⟨xs.length, by simp, Nat.zero_le _, h0⟩, ?_⟩
  rintro i m H ⟨rfl, hi, p⟩
  have q := hl i H hi p
  by_cases hlt : i < xs.length
  · refine .inr ⟨⟨xs, xs[i], q, by simp [hlt]⟩, Pv (i + 1), fun H' p' => ⟨xs.length - (i + 1), by omega, rfl, hlt, p'⟩, fun x H' y => ?_⟩
    obtain ⟨e, y⟩ := y
    subst e
    exact hs i x _ (y xs q) p
  · have e : i = xs.length := by omega
    subst e
    exact .inl ⟨⟨xs, q, Nat.le_refl _⟩, hd H p⟩
theorem dc_re (hfi : FiOk fi) (h : RE X cl Wx (eDcW fi vs fe tg tt tk tv) σ H Q) : tDc (iSeq X.K (RE X cl Wx fe)) (RGw X (CL.pure cl) vs tg) (RT X (CL.pure cl) WF tt) (RE X (CL.pure cl) WF tk) (RE X (CL.pure cl) WF tv) vs σ H Q := by
  obtain ⟨W, F, S, a, o⟩ := h
  refine RE.of a o fun W1 S1 y v H1 g1 l1 a1 q1 o1 => ?_
  unfold dcS at o1
  split at o1
  · rename_i xs S2 hf
    obtain ⟨n2, w2, k2⟩ := freeze_ok (K := X.K) (cl := cl) hf
    obtain ⟨W2, e2, l2, r2, q2⟩ := k2 W1 H1 v a1.rel q1
    have a2 := a1.on ⟨Nat.le_of_eq n2.symm, fun b _ => w2 b⟩ l2 r2
    have o2 := Out.rebase o1 ⟨Nat.le_of_eq n2.symm, fun b _ => w2 b⟩ l2
    have o3 := hfi.out r2 a2.b o2
    cases q2 with
    | lst h t =>
      refine ⟨_, rfl, .inl ⟨⟨_, SqL.up r2.fz h⟩, fun D hD => ?_⟩⟩
      refine dc_list (xs := _) (DcP X cl Wx Q σ vs S2.length (W2.add S2.length D) tg tt tk tv (wipeE F.v vs) (xs.map .d)) (dcP_start a2 hD o3) (fun i H _ ⟨W, S, hn, hl, a, _⟩ => SqL.up a.rel.fz (SqL.le ((W2.add_le _ _).trans hl (Nat.le_succ _)) h)) (fun i x H hx hP => ?_) fun H hP => ?_
      · obtain ⟨d, hd, rd⟩ := item_of t hx
        exact dcP_turn (sv := .d d) (by rw [List.getElem?_map, hd]; rfl) (Wd.add_at _ _ _) (fun W n hl hn => RelD.le ((W2.add_le _ _).trans hl (Nat.le_succ _)) rd) hP
      · exact dcP_end (Wd.add_at _ _ _) (by rw [List.length_map, t.length]) hP
  · rename_i xs S2 hf
    obtain ⟨n2, w2, k2⟩ := freeze_ok (K := X.K) (cl := cl) hf
    obtain ⟨W2, e2, l2, r2, q2⟩ := k2 W1 H1 v a1.rel q1
    have a2 := a1.on ⟨Nat.le_of_eq n2.symm, fun b _ => w2 b⟩ l2 r2
    have o2 := Out.rebase o1 ⟨Nat.le_of_eq n2.symm, fun b _ => w2 b⟩ l2
    have o3 := hfi.out r2 a2.b o2
    cases q2 with
    | tup h t =>
      refine ⟨_, rfl, .inr (.inl ⟨⟨_, SqT.up r2.fz h⟩, fun D hD => ?_⟩)⟩
      refine dc_tup (xs := _) (DcP X cl Wx Q σ vs S2.length (W2.add S2.length D) tg tt tk tv (wipeE F.v vs) (xs.map .d)) (dcP_start a2 hD o3) (fun i H _ ⟨W, S, hn, hl, a, _⟩ => SqT.up a.rel.fz (SqT.le ((W2.add_le _ _).trans hl (Nat.le_succ _)) h)) (fun i x H hx hP => ?_) fun H hP => ?_
      · obtain ⟨d, hd, rd⟩ := item_of t hx
        exact dcP_turn (sv := .d d) (by rw [List.getElem?_map, hd]; rfl) (Wd.add_at _ _ _) (fun W n hl hn => RelD.le ((W2.add_le _ _).trans hl (Nat.le_succ _)) rd) hP
      · exact dcP_end (Wd.add_at _ _ _) (by rw [List.length_map, t.length]) hP
  · rename_i ks xs S2 hf
    obtain ⟨n2, w2, k2⟩ := freeze_ok (K := X.K) (cl := cl) hf
    obtain ⟨W2, e2, l2, r2, q2⟩ := k2 W1 H1 v a1.rel q1
    have a2 := a1.on ⟨Nat.le_of_eq n2.symm, fun b _ => w2 b⟩ l2 r2
    have o2 := Out.rebase o1 ⟨Nat.le_of_eq n2.symm, fun b _ => w2 b⟩ l2
    have o3 := hfi.out r2 a2.b o2
    cases q2 with
    | @dic ad hob _ _ us h c l t =>
      have lz : (ks.zip us).length = ks.length := by rw [List.length_zip, ← t.length, ← l.1, Nat.min_self]
      have kz : ∀ {i k v}, (ks.zip us)[i]? = some (k, v) → ks[i]? = some k := fun {i k v} e => (List.getElem?_zip_eq_some.mp e).1
      have kk : ∀ {i k} {G : Hp}, ks[i]? = some k → RelD X.K cl G (keyD k) (L2.kV k) := fun {i k G} e => by
        have := List.all_eq_true.mp l.2 k (List.mem_of_getElem? e)
        cases k with
        | inl i => exact .int i
        | inr s => exact .str s this
      have body : ∀ W3 H3 o, W3.G ad = some (.frz o (.dK (ks.zip us))) → At X.K cl W3 F S2 σ H3 → Le S2.length W2 W3 → ∀ D, H3 D = none → ∃ Wn : Nat → Nat → Hp → Prop, (∃ m, Wn 0 m (upd H3 D (.dK []))) ∧ ∀ i m H, Wn i m H →
          ((Itk ad o (ks.zip us)).stop i H ∧ Q (.ref D) H) ∨ ((Itk ad o (ks.zip us)).go i H ∧ ∃ Nx : Hp → Prop, (∀ H', Nx H' → ∃ m', m' < m ∧ Wn (i + 1) m' H') ∧ ∀ x H', (Itk ad o (ks.zip us)).yld i H x H' → RGw X (CL.pure cl) vs tg x (L2.wipe σ vs) H' fun σ2 H2 => L2.wipe σ2 vs = L2.wipe σ vs ∧ RT X (CL.pure cl) WF tt σ2 H2 fun b H3 =>
            if b = true then RE X (CL.pure cl) WF tk σ2 H3 fun y H4 => RE X (CL.pure cl) WF tv σ2 H4 fun z H5 => ∃ kvs k, y = L2.kV k ∧ H5 D = some (.dK kvs) ∧ kvs.length < sizeLine ∧ Nx (upd H5 D (.dK (putK kvs k z))) else Nx H3) := by
        intro W3 H3 o g3 a3 l3 D hD
        refine dc_itk (DcP X cl Wx Q σ vs S2.length (W3.add S2.length D) tg tt tk tv (wipeE F.v vs) (ks.map keyS)) (dcP_start a3 hD (Out.rebase o3 (.refl _ _) l3)) (fun i H _ ⟨W, S, hn, hl, a, _⟩ => ?_) (fun i k v H hx hP => ?_) fun H hP => ?_
        · obtain ⟨o', e', s'⟩ := ((W3.add_le _ _).trans hl (Nat.le_succ _)).g _ _ g3
          rcases s' with rfl | ⟨_, _, z, _⟩
          · exact a.rel.fz _ _ e'
          · cases z
        · exact dcP_turn (sv := keyS k) (by rw [List.getElem?_map, kz hx]; rfl) (Wd.add_at _ _ _) (fun W n hl hn => kk (kz hx)) hP
        · exact dcP_end (Wd.add_at _ _ _) (by rw [List.length_map, lz]) hP
      refine ⟨_, rfl, .inr (.inr ?_)⟩
      cases hob <;> first
        | (cases c
           refine .inr ⟨_, r2.fz _ _ h, fun o => ?_⟩
           obtain ⟨r3, l3⟩ := r2.pin h o S2.length
           exact body _ _ o upd_same (a2.on (.refl _ _) l3 r3) l3)
        | (rename_i ob u
           have c' : u = .dK (ks.zip us) := c
           subst c'
           exact .inl ⟨_, ob, r2.fz _ _ h, body W2 H1 ob h a2 (.refl _ _)⟩)
        | (cases c)
  · exact o1.elim
variable {kx vx tgt iter : Expr} {ifs : List Expr} {own : List (Str × Nat)} {pos : Pos} {scope : Scope}
theorem ev_dc (hfi : FiOk fi) (hc : X.calm = true) (hN : X.N.Nodup) (ok : BlkOk X.N X.env.scope scope own) (hvs : own.map (·.2) = vs := by rfl) (hi : PE X iter (RE X cl Wx fe)) (hg : ∀ (s : Shared) (H : Hp) (C : Addr) (cls : List (Str × Addr)) (fp : List Addr), PG (Blk X s H scope cls C fp) tgt (RGw (Blk X s H scope cls C fp) (CL.pure cl) vs tg)) (ht : ∀ (s : Shared) (H : Hp) (C : Addr) (cls : List (Str × Addr)) (fp : List Addr), PTs (Blk X s H scope cls C fp) ifs (RT (Blk X s H scope cls C fp) (CL.pure cl) WF tt))
    (hk : ∀ (s : Shared) (H : Hp) (C : Addr) (cls : List (Str × Addr)) (fp : List Addr), PE (Blk X s H scope cls C fp) kx (RE (Blk X s H scope cls C fp) (CL.pure cl) WF tk)) (he : ∀ (s : Shared) (H : Hp) (C : Addr) (cls : List (Str × Addr)) (fp : List Addr), PE (Blk X s H scope cls C fp) vx (RE (Blk X s H scope cls C fp) (CL.pure cl) WF tv)) (hs : ∀ x, foldedSetIterable iter X.env x = pure x := by exact fun _ => rfl) :
    PE X (.DictComp kx vx [⟨tgt, iter, ifs, 0⟩] scope pos) (RE X cl Wx (eDcW fi vs fe tg tt tk tv)) := by
  subst hvs
  exact PE.weak (pe_dc hc hN (pi_seq hi) ok hg ht hk he hs) fun σ H Q h => dc_re hfi h
end
/-! ### reckoning -/
def kDc (fi : Nat → Res SV → Res SV) (vs : List Nat) (tg : Tg) (tt : Fr → Sto → Res Bool) (tk tv : Fr → Sto → Res SV) (v : Env) (r : Res SV) : Res SV := r.bind fun x S1 => dcS fi vs tg tt tk tv v (freeze S1 x)
@[simp] theorem kDc_ok (fi : Nat → Res SV → Res SV) (vs : List Nat) (tg : Tg) (tt : Fr → Sto → Res Bool) (tk tv : Fr → Sto → Res SV) (v : Env) (x : SV) (S : Sto) : kDc fi vs tg tt tk tv v (.ok x S) = dcS fi vs tg tt tk tv v (freeze S x) := Eq.trans rfl rfl
@[simp] theorem eDcW_ap (fi : Nat → Res SV → Res SV) (vs : List Nat) (fe : Fr → Sto → Res SV) (tg : Tg) (tt : Fr → Sto → Res Bool) (tk tv : Fr → Sto → Res SV) (F : Fr) (S : Sto) : eDcW fi vs fe tg tt tk tv F S = kDc fi vs tg tt tk tv F.v (fe F S) := Eq.trans rfl rfl
@[simp] theorem dcS_dic (fi : Nat → Res SV → Res SV) (vs : List Nat) (tg : Tg) (tt : Fr → Sto → Res Bool) (tk tv : Fr → Sto → Res SV) (v : Env) (ks : List Key) (xs : List Dv) (S : Sto) : dcS fi vs tg tt tk tv v (some (.dic ks xs, S)) = dcAll fi vs tg tt tk tv v (ks.map keyS) S := Eq.trans rfl rfl
@[simp] theorem dcS_lst (fi : Nat → Res SV → Res SV) (vs : List Nat) (tg : Tg) (tt : Fr → Sto → Res Bool) (tk tv : Fr → Sto → Res SV) (v : Env) (xs : List Dv) (S : Sto) : dcS fi vs tg tt tk tv v (some (.lst xs, S)) = dcAll fi vs tg tt tk tv v (xs.map .d) S := Eq.trans rfl rfl
@[simp] theorem dcS_tup (fi : Nat → Res SV → Res SV) (vs : List Nat) (tg : Tg) (tt : Fr → Sto → Res Bool) (tk tv : Fr → Sto → Res SV) (v : Env) (xs : List Dv) (S : Sto) : dcS fi vs tg tt tk tv v (some (.tup xs, S)) = dcAll fi vs tg tt tk tv v (xs.map .d) S := Eq.trans rfl rfl
/-- over keys without change of the store: each one's pair -/
theorem dcL_A {tg : Tg} {tt : Fr → Sto → Res Bool} {tk tv : Fr → Sto → Res SV} {b : Nat} {ve : Env} (p : Key → Bool) (f : Key → Dv) {B : Sto} (hb : B.length = b) : ∀ (ks as : List Key) (acc : List Dv), as.length = acc.length → as.length + ks.length ≤ most → ks.Nodup → (∀ k ∈ ks, k ∉ as) →
    (∀ k ∈ ks, ∀ T : Sto, ∃ v1, tg (keyS k) ⟨b, ve⟩ T = some v1 ∧ tt ⟨b, v1⟩ T = .ok (p k) T ∧ (p k = true → tk ⟨b, v1⟩ T = .ok (keyS k) T ∧ tv ⟨b, v1⟩ T = .ok (.d (f k)) T)) →
    dcL tg tt tk tv b ve (ks.map keyS) (B ++ [.dic as (acc.map .d)]) = .ok (.m b) (B ++ [.dic (as ++ ks.filter p) ((acc ++ (ks.filter p).map f).map .d)])
  | [], as, acc, _, _, _, _, _ => by simp [dcL]
  | k :: r, as, acc, la, hl, nd, hn, h => by
    obtain ⟨v1, h0, h1, h2⟩ := h k (List.mem_cons_self ..) (B ++ [.dic as (acc.map .d)])
    simp only [List.length_cons] at hl
    have hg : (B ++ [MO.dic as (acc.map SV.d)])[b]? = some (.dic as (acc.map .d)) := by subst hb; simp
    have ndr := (List.nodup_cons.mp nd)
    rw [List.map_cons]
    unfold dcL
    cases hp : p k with
    | false =>
      rw [hp] at h1
      simp only [h0, h1, noX_ok, Res.bind_ok, Bool.false_eq_true, if_false]
      rw [dcL_A p f hb r as acc la (by omega) ndr.2 (fun x hx => hn x (List.mem_cons_of_mem _ hx)) fun x hx => h x (List.mem_cons_of_mem _ hx)]
      simp [hp]
    | true =>
      rw [hp] at h1
      obtain ⟨e1, e2⟩ := h2 hp
      have hv : (view (B ++ [MO.dic as (acc.map SV.d)]) (keyS k)).bind kOf = some k := by cases k <;> rfl
      have hk : hasK k as = false := by
        unfold hasK
        rw [List.any_eq_false]
        intro a ha
        simp only [decide_eq_true_eq]
        exact fun e => hn k (List.mem_cons_self ..) (e ▸ ha)
      have hput : dcPut b k (.d (f k)) (B ++ [.dic as (acc.map .d)]) (some (.dic as (acc.map .d))) = some (B ++ [.dic (as ++ [k]) ((acc ++ [f k]).map .d)]) := by
        unfold dcPut dPut
        simp only [hk]
        rw [if_pos (by show as.length < most; omega)]
        subst hb
        simp
      simp only [h0, h1, e1, e2, noX_ok, Res.bind_ok, if_true, hv, hg, hput]
      rw [dcL_A p f hb r (as ++ [k]) (acc ++ [f k]) (by simp [la]) (by simp; omega) ndr.2 (fun x hx => ?_) fun x hx => h x (List.mem_cons_of_mem _ hx)]
      · simp [hp]
      · intro z
        rcases List.mem_append.mp z with z | z
        · exact hn x (List.mem_cons_of_mem _ hx) z
        · rw [List.mem_singleton] at z; subst z; exact ndr.1 hx
theorem dcAll_A {vs : List Nat} {tg : Tg} {tt : Fr → Sto → Res Bool} {tk tv : Fr → Sto → Res SV} {v : Env} (p : Key → Bool) (f : Key → Dv) (S : Sto) (ks : List Key) (hl : ks.length ≤ most) (nd : ks.Nodup)
    (h : ∀ k ∈ ks, ∀ T : Sto, ∃ v1, tg (keyS k) ⟨S.length, wipeE v vs⟩ T = some v1 ∧ tt ⟨S.length, v1⟩ T = .ok (p k) T ∧ (p k = true → tk ⟨S.length, v1⟩ T = .ok (keyS k) T ∧ tv ⟨S.length, v1⟩ T = .ok (.d (f k)) T)) :
    dcAll fin vs tg tt tk tv v (ks.map keyS) S = .ok (.d (.dic (ks.filter p) ((ks.filter p).map f))) S := by
  unfold dcAll
  have := dcL_A (tg := tg) (tt := tt) (tk := tk) (tv := tv) (b := S.length) (ve := wipeE v vs) p f (B := S) rfl ks [] [] rfl (by simpa using hl) nd (by simp) h
  simp only [List.map_nil, List.nil_append] at this
  rw [this]
  unfold fin
  simp only
  have hf : freeze (S ++ [MO.dic (ks.filter p) (((ks.filter p).map f).map SV.d)]) (SV.m S.length) = _ := freeze_dic (ks := ks.filter p) (xs := (ks.filter p).map f) (by simp)
  rw [hf]
  simp
end Ev

set_option Elab.async false
set_option linter.all false
set_option maxRecDepth 100000
/-! Ev26: list + list that will change, sum, list(d), d.clear(), defaults. -/
namespace Ev
open PySem L2
section
variable {X : Cx} {cl : CL} {Wx : WX} {e e1 e2 o : Expr} {es : List Expr} {f : Fr → Sto → Res (List SV)} {f1 f2 fo : Fr → Sto → Res SV} {p pos apos cpos : Pos} {x : Str}
/-! ### list + list -/
def lstOf (S : Sto) : SV → Option (List SV)
  | .d (.lst xs) => some (xs.map .d)
  | .d _ => none
  | .m i => match S[i]? with
    | some (.lst xs) => some xs
    | some (.frz (.lst xs)) => some (xs.map .d)
    | _ => none
theorem lst_rel {K : PySem.W.Frag} {cl : Nat → Addr} {W : Wd} {S : Sto} {H : Hp} (r : Rel K cl W S H) {x : SV} {xs : List SV} {v : V} (e : lstOf S x = some xs) (q : RelSV K cl W S.length x v) : ∃ a vs, v = .ref a ∧ SqL K H a vs ∧ Paired (RelSV K cl W S.length) xs vs := by
  unfold lstOf at e
  split at e
  · cases e; cases q with
    | lst h t => exact ⟨_, _, rfl, SqL.up r.fz h, t.sv⟩
  · cases e
  · split at e
    · rename_i hy
      cases e
      obtain ⟨_, rfl⟩ := q
      obtain ⟨_, vs, h1, h2⟩ := r.st _ _ hy
      exact ⟨_, vs, rfl, .of h1, h2⟩
    · rename_i hy
      cases e
      obtain ⟨_, rfl⟩ := q
      have := r.st _ _ hy
      cases this with
      | lst h t => exact ⟨_, _, rfl, SqL.up r.fz h, t.sv⟩
    · cases e
def catR (S : Sto) : Option (List SV) → Option (List SV) → Res SV
  | some xs, some ys => if xs.length + ys.length ≤ most then .ok (.m S.length) (S ++ [.lst (xs ++ ys)]) else .bad
  | _, _ => .bad
def eCatM (f1 f2 : Fr → Sto → Res SV) : Fr → Sto → Res SV := fun F S => (f1 F S).bind fun x S1 => (f2 F S1).bind fun y S2 => catR S2 (lstOf S2 x) (lstOf S2 y)
theorem paired_append {α β : Type} {R : α → β → Prop} : ∀ {xs xs' : List α} {ys ys' : List β}, Paired R xs ys → Paired R xs' ys' → Paired R (xs ++ xs') (ys ++ ys')
  | _, _, _, _, .nil, s => s
  | _, _, _, _, .cons q t, s => .cons q (paired_append t s)
theorem ev_catM (h1 : PE X e1 (RE X cl Wx f1)) (h2 : PE X e2 (RE X cl Wx f2)) : PE X (.BinOp e1 .Add e2 pos) (RE X cl Wx (eCatM f1 f2)) :=
  PE.weak (pe_op op_catL h1 h2) fun σ H Q ⟨W, F, S, a, q⟩ => by
    refine RE.of a q fun W1 S1 x v H1 g1 l1 a1 q1 o1 => ?_
    refine RE.of a1 o1 fun W2 S2 y u H2 g2 l2 a2 q2 o2 => ?_
    have q1' := RelSV.le l2 g2.len q1
    cases hx : lstOf S2 x with
    | none => rw [hx] at o2; exact o2.elim
    | some xs =>
      cases hy : lstOf S2 y with
      | none => rw [hx, hy] at o2; exact o2.elim
      | some ys =>
        rw [hx, hy] at o2
        unfold catR at o2
        simp only at o2
        split at o2
        · rename_i hz
          obtain ⟨pa, vs, rfl, s1, t1⟩ := lst_rel a2.rel hx q1'
          obtain ⟨pb, us, rfl, s2, t2⟩ := lst_rel a2.rel hy q2
          refine ⟨pa, pb, vs, us, rfl, rfl, s1, s2, by rw [← PySem.Paired.length t1, ← PySem.Paired.length t2]; exact hz, fun l hl => ?_⟩
          have r3 := a2.rel.newM (mo := .lst (xs ++ ys)) (ho := .lst (vs ++ us)) hl ⟨a2.rel.unone hl, _, upd_same, RelSVs.le (W2.add_le _ _) (Nat.le_succ _) (paired_append t1 t2)⟩
          exact o2 _ _ _ (.add _ _ _ a2.b) (W2.add_le _ _) r3 ⟨by rw [List.length_append]; exact Nat.lt_succ_self _, by rw [Wd.add_at]⟩
        · exact o2.elim
/-! ### sum(list) -/
def sumI : List Dv → Option (List Int)
  | [] => some []
  | .int i :: r => (sumI r).map (i :: ·)
  | _ :: _ => none
theorem sumI_map (is : List Int) : sumI (is.map .int) = some is := by
  induction is with
  | nil => rfl
  | cons i r ih => simp [sumI, ih]
theorem sumI_rel {K : PySem.W.Frag} {cl : Nat → Addr} {G : Hp} : ∀ {xs : List Dv} {is : List Int} {vs : List V}, sumI xs = some is → RelDs K cl G xs vs → vs = is.map V.int
  | [], is, _, e, .nil => by cases e; rfl
  | x :: r, is, _, e, .cons h t => by
    cases x <;> first | (cases e; done) | skip
    rename_i i
    cases h
    simp only [sumI, Option.map_eq_some_iff] at e
    obtain ⟨js, e1, rfl⟩ := e
    rw [sumI_rel e1 t]
    rfl
def biSum (S : Sto) : List SV → Option Dv
  | [a] => match view S a with
    | some (.lst xs) => (sumI xs).map fun is => .int is.sum
    | _ => none
  | _ => none
theorem ov_sum (hc : X.calm = true) : CallR X (.builtin "sum") (RCall X cl biSum) := CallR.weak (cr_sum hc) fun xs H Q ⟨W, S, as, z, r, ra, e, k⟩ => by
  match as, xs, ra, e with
  | [a], [v], .cons ra .nil, e =>
    simp only [biSum] at e
    split at e
    · rename_i ys ea
      obtain ⟨p, vs, rfl, s1, t1⟩ := view_lst r ea ra
      simp only [Option.map_eq_some_iff] at e
      obtain ⟨is, e1, rfl⟩ := e
      exact ⟨p, is, rfl, by rw [← sumI_rel e1 t1]; exact s1, k W H _ (.refl _ _) r (.int _)⟩
    · cases e
/-! ### list(d) -/
def biListD (S : Sto) : List SV → Option Dv
  | [a] => match dictOf S a with
    | some (ks, _) => some (.lst (ks.map keyD))
    | none => none
  | _ => none
theorem keysV {K : PySem.W.Frag} {cl : Nat → Addr} {G : Hp} {vs : List V} : ∀ {ks : List Key} {vs : List V}, ks.length = vs.length → ks.all keyOk = true → RelDs K cl G (ks.map keyD) ((ks.zip vs).map fun kv => L2.kV kv.1)
  | [], _, _, _ => .nil
  | k :: r, [], l, _ => by cases l
  | k :: r, v :: vs, l, h => by
    rw [List.all_cons, Bool.and_eq_true] at h
    refine .cons ?_ (keysV (vs := vs) (Nat.succ.inj l) h.2)
    cases k with
    | inl i => exact .int i
    | inr s => exact .str s h.1
theorem ov_listD (hc : X.calm = true) : CallR X (.type "list") (RCall X cl biListD) := CallR.weak (call_listD hc) fun xs H Q ⟨W, S, as, z, r, ra, e, k⟩ => by
  match as, xs, ra, e with
  | [a], [v], .cons ra .nil, e =>
    simp only [biListD] at e
    split at e
    · rename_i ks ys ea
      cases e
      obtain ⟨p, us, rfl, h1, h2, h3⟩ := dict_rel r ea ra
      exact ⟨p, _, rfl, h1, new_lst r (keysV (vs := us) (h2.1.trans (PySem.Paired.length h3)) h2.2) k⟩
    · cases e
/-! ### d.clear() -/
def clrR (S : Sto) : SV → Option Sto
  | .m j => match S[j]? with
    | some (.dic _ _) => some (S.set j (.dic [] []))
    | _ => none
  | _ => none
def clrS : Option Sto → Res SV
  | some S => .ok (.d .non) S
  | none => .bad
def eClr (fo : Fr → Sto → Res SV) : Fr → Sto → Res SV := fun F S => (fo F S).bind fun x S1 => clrS (clrR S1 x)
theorem ev_clr (ho : PE X o (RE X cl Wx fo)) (hbase : attributeBase o "clear" X.env (eval o X.env) = eval o X.env := by rfl) (hline : (apos.endLine == cpos.line) = true := by rfl) : PE X (.Call (.Attribute o "clear" apos) [] [] cpos) (RE X cl Wx (eClr fo)) :=
  PE.weak (pe_dclear ho hbase hline) fun σ H Q ⟨W, F, S, a, q⟩ => by
    refine RE.of a q fun W1 S1 y v H1 g1 l1 a1 q1 o1 => ?_
    cases hc : clrR S1 y with
    | none => rw [hc] at o1; exact o1.elim
    | some S2 =>
      rw [hc] at o1
      unfold clrR at hc
      split at hc
      · rename_i j
        split at hc
        · rename_i ks xs hx
          cases hc
          obtain ⟨_, rfl⟩ := q1
          obtain ⟨g0, vs, h1, h2, h3⟩ := a1.rel.st j _ hx
          have r3 := a1.rel.set hx (ho := .dK []) (mo' := .dic [] []) rfl ⟨g0, [], upd_same, ⟨rfl, rfl⟩, .nil⟩
          refine ⟨?_, W1.ρ j, _, rfl, rfl, h1, o1 W1 _ _ (.set fun b' hb w hi z hz => by cases hz) (.refl _ _) r3 RelD.non⟩
          exact .inr (.inr (.inl ⟨rfl, .inl ⟨_, h1⟩⟩))
        · cases hc
      · cases hc
/-! ### f(e, ..) with defaults behind -/
def cstV : Dv → V
  | .non => .non
  | .bl b => .bl b
  | .int i => .int i
  | .str s => .str s
  | _ => .non
def cstOk : Dv → Bool
  | .non => true
  | .bl _ => true
  | .int _ => true
  | .str s => PyData.strOk s
  | _ => false
theorem cst_rel {K : PySem.W.Frag} {cl : Nat → Addr} {W : Wd} {n : Nat} : ∀ {ds : List Dv}, ds.all cstOk = true → Paired (RelSV K cl W n) (ds.map .d) (ds.map cstV)
  | [], _ => .nil
  | d :: r, h => by
    rw [List.all_cons, Bool.and_eq_true] at h
    refine .cons ?_ (cst_rel h.2)
    cases d <;> first | (cases h.1; done) | skip
    · exact RelD.non
    · exact RelD.bl _
    · exact RelD.int _
    · exact RelD.str _ h.1
def BindD (K : PySem.W.Frag) (fd : FuncData) (ps : List Str) (ds : List Dv) : Prop := ∃ us, Vals (ds.map cstV) us ∧ Binds K fd ps us
def eCallD (g : Nat → List SV → Sto → Res SV) (ds : List Dv) (f : Fr → Sto → Res (List SV)) : Fr → Sto → Res SV := fun F S => (f F S).bind fun as S1 => fin S1.length (g S1.length (as ++ ds.map .d) S1)
def eCallDK (g : Nat → List SV → Sto → Res SV) (ds : List Dv) (f : Fr → Sto → Res (List SV)) : Fr → Sto → Res SV := fun F S => (f F S).bind fun as S1 => finK S1.length (g S1.length (as ++ ds.map .d) S1)
variable {k : Nat} {fa : Addr} {fd : FuncData} {ps : List Str} {g : Nat → List SV → Sto → Res SV} {ds : List Dv}
theorem ev_callD (Fk : FnE X cl k fa fd ps g) (hr : Room k X.A) (tk : L2N.Takes X Wx) (hg : Gl X x) (hm : X.mg x = some (.ref fa)) (hk : PySem.W.keepIn X.K (.ref fa) = true) (hb : BindD X.K fd ps ds) (hc : ds.all cstOk = true) (ha : PA X (e :: es) (RA X cl Wx f))
    (hdb : (x == ("__debug__" : Str)) = false := by decide +kernel) (he : starEach (e :: es) X.env = (false, eval e X.env) :: starEach es X.env := by rfl) (hpl : (backTo pos (starEach es X.env)).any (·.1) = false := by rfl) :
    PE X (.Call (.Name x p) (e :: es) [] pos) (RE X cl Wx (eCallD g ds f)) := by
  obtain ⟨us, hv, hb⟩ := hb
  exact PE.weak (pe_callSD (E := WE Wx) Fk hr hg hm hk hb hv (fun σ => L2N.passAt tk σ) ha hdb he hpl) fun σ H Q ⟨W, F, S, a, q⟩ =>
    RA.of a q fun W1 S1 as vs H1 g1 l1 a1 q1 o1 => sp_fin a1 (paired_append q1 (cst_rel hc)) o1
theorem ev_callDK (Fk : FnE X cl k fa fd ps g) (hr : Room k X.A) (tk : L2N.Takes X Wx) (hg : Gl X x) (hm : X.mg x = some (.ref fa)) (hk : PySem.W.keepIn X.K (.ref fa) = true) (hb : BindD X.K fd ps ds) (hc : ds.all cstOk = true) (ha : PA X (e :: es) (RA X cl Wx f))
    (hdb : (x == ("__debug__" : Str)) = false := by decide +kernel) (he : starEach (e :: es) X.env = (false, eval e X.env) :: starEach es X.env := by rfl) (hpl : (backTo pos (starEach es X.env)).any (·.1) = false := by rfl) :
    PE X (.Call (.Name x p) (e :: es) [] pos) (RE X cl Wx (eCallDK g ds f)) := by
  obtain ⟨us, hv, hb⟩ := hb
  exact PE.weak (pe_callSD (E := WE Wx) Fk hr hg hm hk hb hv (fun σ => L2N.passAt tk σ) ha hdb he hpl) fun σ H Q ⟨W, F, S, a, q⟩ =>
    RA.of a q fun W1 S1 as vs H1 g1 l1 a1 q1 o1 => sp_finK a1 (paired_append q1 (cst_rel hc)) o1
end
/-! ### a def with defaults -/
section
variable {P : Program} {w : World} {K : PySem.W.Frag} {mg : Str → Option Value} {base : Heap} {cl : Nat → Addr} {x qual : Str} {st : Stmt} {f : Addr} {fd : FuncData} {N ps : List Str} {k np nn : Nat} {dvs : List V}
abbrev FunE (K : PySem.W.Frag) (x qual : Str) (st : Stmt) (ds : List Dv) (f : Addr) (fd : FuncData) : Prop := FunD K x qual (defArgs st) (defBody st) (defScope st) (ds.map cstV) [] f fd
theorem funE_mk {ds : List Dv} {oc toc kV doc pm cdv ct : Value} {od an tod : Option Addr} {osl tsl : Array (Option Value)} {T : Addr} {its : Array Value} {tn : Nat} (l : K.lookup f = some ⟨oc, od, .func (PySem.W.fnOf x qual (defArgs st) (defBody st) (defScope st) (.ref T) kV doc pm an cdv ct), osl⟩)
    (c : PySem.W.codeIn K cdv qual = true) (kp : PySem.W.keepIn K (.ref f) = true) (lT : K.lookup T = some ⟨toc, tod, .seq its tn, tsl⟩) (h : He.relAll (ds.map cstV) its.toList = true) (hd : ds ≠ []) : FunE K x qual st ds f (PySem.W.fnOf x qual (defArgs st) (defBody st) (defScope st) (.ref T) kV doc pm an cdv ct) :=
  ⟨⟨oc, od, .ref T, kV, doc, pm, an, cdv, ct, osl, rfl, l, c, .inr ⟨by simpa using hd, T, _, its.toList, tn, rfl, lT, by simp, He.relAll_ok h⟩, .inl rfl⟩, kp⟩
theorem bindE {ds : List Dv} (F : FunE K x qual st ds f fd) (n : Nat) (hd : ds ≠ []) (hn : n + (ds.length - (ds.length + n - ps.length)) = ps.length)
    (h : ∀ (T : Addr) (kV doc pm : Value) (an : Option Addr) (cdv ct : Value) (us its : List Value), us.length = n → its.length = ds.length →
      ∃ k, bindArgs (PySem.W.fnOf x qual (defArgs st) (defBody st) (defScope st) (.ref T) kV doc pm an cdv ct) ⟨us, []⟩ = seqItems? (.ref T) >>= k ∧ k (some its.toArray) = pure (ps.zip (us ++ its.drop (ds.length + n - ps.length)))) : BindD K fd ps (ds.drop (ds.length + n - ps.length)) := by
  have := F.binds1 (ps := ps) n (ds.length + n - ps.length) (by simpa using hd) (by rw [List.length_map]; exact hn) (fun T kV doc pm an cdv ct us its h1 h2 => h T kV doc pm an cdv ct us its h1 (by rw [h2, List.length_map]))
  rw [← List.map_drop] at this
  exact this
theorem binds_nil {ps : List Str} (h : BindD K fd ps []) : Binds K fd ps [] := by
  obtain ⟨us, v, b⟩ := h
  cases v
  exact b
theorem okE {kws : List (Str × V)} {sp : Sp} (Fu : FunD K x qual (defArgs st) (defBody st) (defScope st) dvs kws f fd) (Sc : FnScope N ps (defScope st)) (len : ∀ vs H Q E, sp vs H Q E → vs.length = ps.length)
    (hb : ∀ (cdv : Value) (A : Around) (outer : List PySem.Env) (s : Shared) (H : Hp) (vs : List V) (Q : VK) (E : XK), Room k (cxOf (L2N.CX P w) P w K mg base N qual (defScope st) f cdv A outer s H E).A → sp vs H Q E →
      ∃ t, PSs (cxOf (L2N.CX P w) P w K mg base N qual (defScope st) f cdv A outer s H E) (defBody st) t ∧ t { nx := fun _ H' => Q .non H', rt := Q } (L2.start N vs) H) : FnOk P w K mg base (L2N.CX P w) (k + 1) f fd ps sp := by
  obtain ⟨oc, od, dV, kV, doc, pm, an, cdv, ct, osl, rfl, lk, hcd, _, _⟩ := Fu.ex
  exact fn_of lk hcd Sc len fun A outer s H vs Q E hr hsp => hb cdv A outer s H vs Q E hr hsp
/-- THE RULE: a def with defaults keeps what the evaluator says of its body -/
theorem fn_okE {kws : List (Str × V)} {body : Fr → Sto → SRes} (Fu : FunD K x qual (defArgs st) (defBody st) (defScope st) dvs kws f fd) (Sc : FnScope N ps (defScope st)) (hnp : ps.length = np) (hnn : N.length = nn)
    (hbody : ∀ (cdv : Value) (A : Around) (outer : List PySem.Env) (s : Shared) (H : Hp) (E : XK), XOk (cxOf (L2N.CX P w) P w K mg base N qual (defScope st) f cdv A outer s H E) (fun c d _ H => E c d H) k →
      PSs (cxOf (L2N.CX P w) P w K mg base N qual (defScope st) f cdv A outer s H E) (defBody st) (RS (cxOf (L2N.CX P w) P w K mg base N qual (defScope st) f cdv A outer s H E) (CL.pure cl) (fun c d _ H => E c d H) body)) :
    FnOk P w K mg base (L2N.CX P w) (k + 1) f fd ps (SpR K cl (runF np nn body)) := by
  refine okE Fu Sc (fun vs H Q E ⟨W, S, as, b, hb, r, p, o⟩ => ?_) fun cdv A outer s H vs Q E hr ⟨W, S, as, b, hb, r, p, o⟩ => ?_
  · unfold runF at o
    split at o
    · rename_i hl; rw [hnp, ← hl, PySem.Paired.length p]
    · exact o.elim
  · refine ⟨_, hbody cdv A outer s H E ⟨hr, L2N.takes_of rfl rfl rfl rfl, passes_of rfl, rfl, ?_, ?_⟩, ?_⟩
    · have := hr.un
      omega
    · have := hr.un
      omega
    unfold runF at o
    split at o
    · rename_i hl
      subst hl
      refine ⟨W, ⟨b, as.map some ++ List.replicate (nn - as.length) none⟩, S, ⟨hb, r, by rw [← hnn]; exact env_start p, trivial⟩, ?_⟩
      cases hr : body ⟨b, as.map some ++ List.replicate (nn - as.length) none⟩ S with
      | nx v2 S2 => rw [hr] at o; exact fun W' σ' H' g l a => o W' H' _ g l a.rel RelD.non
      | ct v2 S2 => rw [hr] at o; exact o.elim
      | bk v2 S2 => rw [hr] at o; exact o.elim
      | rt v S2 => rw [hr] at o; exact o
      | ex ec v2 S2 => rw [hr] at o; exact fun W' σ' H' c d g l a q => o W' H' c d g l a.rel q
      | bad => rw [hr] at o; exact o
    · exact o.elim
end
/-! ### reckoning -/
def kCt2 (x : SV) (r : Res SV) : Res SV := r.bind fun y S2 => catR S2 (lstOf S2 x) (lstOf S2 y)
@[simp] theorem kCt2_ok (x y : SV) (S : Sto) : kCt2 x (.ok y S) = catR S (lstOf S x) (lstOf S y) := Eq.trans rfl rfl
def kCt1 (f2 : Fr → Sto → Res SV) (F : Fr) (r : Res SV) : Res SV := r.bind fun x S1 => kCt2 x (f2 F S1)
@[simp] theorem kCt1_ok (f2 : Fr → Sto → Res SV) (F : Fr) (x : SV) (S : Sto) : kCt1 f2 F (.ok x S) = kCt2 x (f2 F S) := Eq.trans rfl rfl
@[simp] theorem eCatM_ap (f1 f2 : Fr → Sto → Res SV) (F : Fr) (S : Sto) : eCatM f1 f2 F S = kCt1 f2 F (f1 F S) := Eq.trans rfl rfl
@[simp] theorem catR_s (S : Sto) (xs ys : List SV) : catR S (some xs) (some ys) = if xs.length + ys.length ≤ most then .ok (.m S.length) (S ++ [.lst (xs ++ ys)]) else .bad := Eq.trans rfl rfl
@[simp] theorem lstOf_d (S : Sto) (xs : List Dv) : lstOf S (.d (.lst xs)) = some (xs.map .d) := Eq.trans rfl rfl
def lstM : Option MO → Option (List SV)
  | some (.lst xs) => some xs
  | some (.frz (.lst xs)) => some (xs.map .d)
  | _ => none
@[simp] theorem lstM_l (xs : List SV) : lstM (some (.lst xs)) = some xs := Eq.trans rfl rfl
@[simp] theorem lstM_f (xs : List Dv) : lstM (some (.frz (.lst xs))) = some (xs.map .d) := Eq.trans rfl rfl
@[simp] theorem lstOf_m (S : Sto) (i : Nat) : lstOf S (.m i) = lstM S[i]? := by
  unfold lstOf lstM
  rfl
def kClr (r : Res SV) : Res SV := r.bind fun x S1 => clrS (clrR S1 x)
@[simp] theorem kClr_ok (x : SV) (S : Sto) : kClr (.ok x S) = clrS (clrR S x) := Eq.trans rfl rfl
@[simp] theorem eClr_ap (fo : Fr → Sto → Res SV) (F : Fr) (S : Sto) : eClr fo F S = kClr (fo F S) := Eq.trans rfl rfl
@[simp] theorem clrS_s (S : Sto) : clrS (some S) = .ok (.d .non) S := Eq.trans rfl rfl
def kCalD (g : Nat → List SV → Sto → Res SV) (ds : List Dv) (r : Res (List SV)) : Res SV := r.bind fun as S1 => callF g (as ++ ds.map .d) S1
@[simp] theorem kCalD_ok (g : Nat → List SV → Sto → Res SV) (ds : List Dv) (as : List SV) (S : Sto) : kCalD g ds (.ok as S) = callF g (as ++ ds.map .d) S := Eq.trans rfl rfl
@[simp] theorem eCallD_ap (g : Nat → List SV → Sto → Res SV) (ds : List Dv) (f : Fr → Sto → Res (List SV)) (F : Fr) (S : Sto) : eCallD g ds f F S = kCalD g ds (f F S) := Eq.trans rfl rfl
def kCalDK (g : Nat → List SV → Sto → Res SV) (ds : List Dv) (r : Res (List SV)) : Res SV := r.bind fun as S1 => callK g (as ++ ds.map .d) S1
@[simp] theorem kCalDK_ok (g : Nat → List SV → Sto → Res SV) (ds : List Dv) (as : List SV) (S : Sto) : kCalDK g ds (.ok as S) = callK g (as ++ ds.map .d) S := Eq.trans rfl rfl
@[simp] theorem eCallDK_ap (g : Nat → List SV → Sto → Res SV) (ds : List Dv) (f : Fr → Sto → Res (List SV)) (F : Fr) (S : Sto) : eCallDK g ds f F S = kCalDK g ds (f F S) := Eq.trans rfl rfl
end Ev

set_option Elab.async false
set_option linter.all false
set_option maxRecDepth 100000
/-! Ev27: constants of the module, texts walked and cut, insert, loops over lists whose things change, tuples that hold changing things. -/
namespace Ev
open PySem L2
section
variable {X : Cx} {cl : CL} {Wx : WX} {e e1 e2 o : Expr} {es : List Expr} {f : Fr → Sto → Res (List SV)} {fe f1 f2 fo : Fr → Sto → Res SV} {p pos apos cpos : Pos} {x : Str}
/-! ### a constant of the module -/
def GCon (mg : Str → Option Value) (x : Str) (d : Dv) : Prop := ∃ u, mg x = some u ∧ RelV (cstV d) u
theorem ev_gc {d : Dv} (hg : Gl X x) (h : GCon X.mg x d) (hc : cstOk d = true) (hd : (x == ("__debug__" : Str)) = false := by decide +kernel) : PE X (.Name x pos) (RE X cl Wx (eC d)) := by
  obtain ⟨u, hm, r⟩ := h
  exact PE.weak (pe_glob hg hm r hd) fun σ H Q ⟨W, F, S, a, o⟩ => by
    have q : Paired (RelSV X.K cl W S.length) ([d].map .d) ([d].map cstV) := cst_rel (by simp [hc])
    cases q with
    | cons q _ => exact o.here a.rel q
/-! ### for c in text -/
def chars (z : Str) : List SV := z.cps.toList.map fun c => .d (.str ⟨#[c]⟩)
def txS (tg : Tg) (body : Fr → Sto → SRes) (F : Fr) (S : Sto) : Option Dv → SRes
  | some (.str z) => forL tg body F.b (chars z) F.v S
  | _ => .bad
def sForT (fe : Fr → Sto → Res SV) (tg : Tg) (body : Fr → Sto → SRes) : Fr → Sto → SRes := fun F S => (fe F S).st F fun x S1 => txS tg body F S1 (view S1 x)
variable {it tgt : Expr} {body : List Stmt} {tg : Tg} {fb : Fr → Sto → SRes}
theorem for_its {z : Str} {g : TG} {tb : TS} {D : Ends} {σ : St} {H : Hp} (Pv : Nat → St → Hp → Prop) (h0 : Pv 0 σ H)
    (hs : ∀ i c σ H, z.cps[i]? = some c → Pv i σ H → g (.str ⟨#[c]⟩) σ H fun σ2 H2 => tb { D with nx := Pv (i + 1), ct := Pv (i + 1), bk := D.nx } σ2 H2) (hd : ∀ σ H, Pv z.cps.size σ H → D.nx σ H) :
    ∃ W : Nat → Nat → St → Hp → Prop, (∃ m, W 0 m σ H) ∧ ∀ i m σ H, W i m σ H →
      ((Its z).stop i H ∧ D.nx σ H) ∨ ((Its z).go i H ∧ ∃ N : St → Hp → Prop, (∀ σ' H', N σ' H' → ∃ m', m' < m ∧ W (i + 1) m' σ' H') ∧ ∀ x H', (Its z).yld i H x H' → g x σ H' fun σ2 H2 => tb { D with nx := N, ct := N, bk := D.nx } σ2 H2) := by
  refine ⟨fun i m σ H => m = z.cps.size - i ∧ i ≤ z.cps.size ∧ Pv i σ H, ⟨z.cps.size, by simp, Nat.zero_le _, h0⟩, ?_⟩
  rintro i m σ H ⟨rfl, hi, p⟩
  by_cases hlt : i < z.cps.size
  · refine .inr ⟨hlt, Pv (i + 1), fun σ' H' p' => ⟨z.cps.size - (i + 1), by omega, rfl, hlt, p'⟩, fun x H' y => ?_⟩
    obtain ⟨e, c, hc, rfl⟩ := y
    subst e
    exact hs i c σ _ hc p
  · have e : i = z.cps.size := by omega
    subst e
    exact .inl ⟨Nat.le_refl _, hd σ H p⟩
theorem strOk_c {z : Str} {c : Nat} {i : Nat} (h : PyData.strOk z = true) (e : z.cps[i]? = some c) : PyData.strOk ⟨#[c]⟩ = true :=
  strOk_at (i := (i : Int)) h (by rw [atI_n, ← e]; simp)
theorem sv_forT (hp : PassesOwn (model X.prog X.w) X.A X.env X.xe) (hc : X.calm = true) (hi : PE X it (RE X cl Wx fe)) (hg : PG X tgt (RG X cl tg)) (hb : PSs X body (RS X cl Wx fb))
    (hs : ∀ x, foldedSetIterable it X.env x = pure x := by exact fun _ => rfl) : PS X (.For tgt it body [] pos) (RS X cl Wx (sForT fe tg fb)) :=
  PS.weak (ps_for hp hc (pi_str hi) hg hb hs) fun D σ H ⟨W, F, S, a, o⟩ => by
    refine RE.ofS a o fun W1 S1 y v H1 g1 l1 a1 q1 o1 => ?_
    unfold txS at o1
    split at o1
    · rename_i z ez
      obtain ⟨e1, k1⟩ := view_str a1.rel ez q1
      refine ⟨z, e1, for_its (ForP X cl Wx D F.b W1 S1.length tg fb (chars z)) ⟨W1, F.v, S1, Nat.le_refl _, .refl _ _, a1, o1⟩ (fun i c σ H hx hP => ?_) fun σ H hP => ?_⟩
      · exact forP_turn (sv := .d (.str ⟨#[c]⟩)) (by unfold chars; rw [List.getElem?_map, Array.getElem?_toList, hx]; rfl) (fun W n hl hn => RelD.str _ (strOk_c k1 hx)) hP
      · obtain ⟨W, v, S, hn, hl, a, o⟩ := hP
        rw [List.drop_of_length_le (by unfold chars; rw [List.length_map, Array.length_toList]; exact Nat.le_refl _)] at o
        exact OutS.here o a
    · exact o1.elim
/-! ### a tuple that holds changing things -/
def eTupM (f : Fr → Sto → Res (List SV)) : Fr → Sto → Res SV := fun F S => (f F S).bind fun xs S1 => if xs.length ≤ most then .ok (.m S1.length) (S1 ++ [.tup xs]) else .bad
theorem ev_tupM {k : Nat} (h : PA X es (RA X cl Wx f)) : PE X (.Tuple es k pos) (RE X cl Wx (eTupM f)) :=
  PE.weak (pe_tup h) fun σ H Q ⟨W, F, S, a, o⟩ => RA.of a o fun W1 S1 xs vs H1 g1 l1 a1 q1 o1 => by
    split at o1
    · rename_i hm
      refine ⟨by rw [← PySem.Paired.length q1, ← most_eq]; exact hm, fun p hp => ?_⟩
      have r3 := a1.rel.newM (mo := .tup xs) (ho := .tup vs) hp ⟨a1.rel.unone hp, vs, upd_same, RelSVs.le (W1.add_le _ _) (Nat.le_succ _) q1⟩
      exact o1 _ _ _ (.add _ _ _ a1.b) (W1.add_le _ _) r3 ⟨by rw [List.length_append]; exact Nat.lt_succ_self _, by rw [Wd.add_at]⟩
    · exact o1.elim
/-! ### a for over a list of the store, which may change meanwhile -/
def forM (tg : Tg) (body : Fr → Sto → SRes) (b j : Nat) : Nat → Nat → Env → Sto → SRes
  | 0, _, _, _ => .bad
  | k + 1, i, v, S => match S[j]? with
    | some (.lst xs) => match xs[i]? with
      | none => .nx v S
      | some x => match tg x ⟨b, v⟩ S with
        | some v1 => match body ⟨b, v1⟩ S with
          | .nx v2 S2 => forM tg body b j k (i + 1) v2 S2
          | .ct v2 S2 => forM tg body b j k (i + 1) v2 S2
          | .bk v2 S2 => .nx v2 S2
          | o => o
        | none => .bad
    | _ => .bad
def fmS (n : Nat) (tg : Tg) (body : Fr → Sto → SRes) (F : Fr) (S : Sto) : SV → SRes
  | .m j => forM tg body F.b j n 0 F.v S
  | _ => .bad
def sForM (n : Nat) (fe : Fr → Sto → Res SV) (tg : Tg) (body : Fr → Sto → SRes) : Fr → Sto → SRes := fun F S => (fe F S).st F fun x S1 => fmS n tg body F S1 x
theorem sv_forM (n : Nat) (hp : PassesOwn (model X.prog X.w) X.A X.env X.xe) (hc : X.calm = true) (hi : PE X it (RE X cl Wx fe)) (hg : PG X tgt (RG X cl tg)) (hb : PSs X body (RS X cl Wx fb))
    (hs : ∀ x, foldedSetIterable it X.env x = pure x := by exact fun _ => rfl) : PS X (.For tgt it body [] pos) (RS X cl Wx (sForM n fe tg fb)) :=
  PS.weak (ps_for hp hc (pi_seq hi) hg hb hs) fun D σ H ⟨W, F, S, a, o⟩ => by
    refine RE.ofS a o fun W1 S1 y v H1 g1 l1 a1 q1 o1 => ?_
    unfold fmS at o1
    split at o1
    · rename_i j
      obtain ⟨hj, rfl⟩ := q1
      refine ⟨_, rfl, .inl ⟨?_, fun i m σ H => ∃ W v S, At X.K cl W ⟨F.b, v⟩ S σ H ∧ j < S.length ∧ W.ρ j = W1.ρ j ∧ OutS X.K cl Wx D F.b W S (forM tg fb F.b j m i v S), ⟨n, W1, F.v, S1, a1, hj, rfl, o1⟩, ?_⟩⟩
      · cases n with
        | zero => exact o1.elim
        | succ n =>
          unfold forM at o1
          cases hx : S1[j]? with
          | none => rw [hx] at o1; exact o1.elim
          | some mo =>
            cases mo with
            | lst xs =>
              obtain ⟨_, vs, h1, _⟩ := a1.rel.st j _ hx
              exact ⟨vs, .of h1⟩
            | _ => rw [hx] at o1; exact o1.elim
      · rintro i m σ H ⟨W, v, S, a, hj, hr, o⟩
        cases m with
        | zero => exact o.elim
        | succ m =>
          unfold forM at o
          cases hx : S[j]? with
          | none => rw [hx] at o; exact o.elim
          | some mo =>
            cases mo with
            | lst xs =>
              obtain ⟨_, vs, h1, h2⟩ := a.rel.st j _ hx
              rw [hr] at h1
              rw [hx] at o
              simp only at o
              cases hi : xs[i]? with
              | none =>
                rw [hi] at o
                have hle : xs.length ≤ i := List.getElem?_eq_none_iff.mp hi
                exact .inl ⟨⟨vs, .of h1, by rw [← PySem.Paired.length h2]; exact hle⟩, OutS.here o a⟩
              | some x =>
                rw [hi] at o
                simp only at o
                obtain ⟨u, hu, ru⟩ := paired_get h2 hi
                refine .inr ⟨⟨vs, u, .of h1, hu⟩, fun σ' H' => ∃ W v S, At X.K cl W ⟨F.b, v⟩ S σ' H' ∧ j < S.length ∧ W.ρ j = W1.ρ j ∧ OutS X.K cl Wx D F.b W S (forM tg fb F.b j m (i + 1) v S), fun σ' H' h => ⟨m, Nat.lt_succ_self _, h⟩, ?_⟩
                rintro y H' ⟨rfl, hy⟩
                have ey := hy vs (.of h1)
                rw [hu] at ey
                cases ey
                cases ht : tg x ⟨F.b, v⟩ S with
                | none => rw [ht] at o; exact o.elim
                | some v1 =>
                  rw [ht] at o
                  simp only at o
                  refine ⟨W, ⟨F.b, v⟩, S, x, v1, a, ru, ht, fun σ1 a1 => ⟨W, ⟨F.b, v1⟩, S, a1, ?_⟩⟩
                  have kk : ∀ v2 S2 W' σ' H', Gr F.b S S2 → Le S.length W W' → At X.K cl W' ⟨F.b, v2⟩ S2 σ' H' → OutS X.K cl Wx D F.b W S (forM tg fb F.b j m (i + 1) v2 S2) → ∃ W v S, At X.K cl W ⟨F.b, v⟩ S σ' H' ∧ j < S.length ∧ W.ρ j = W1.ρ j ∧ OutS X.K cl Wx D F.b W S (forM tg fb F.b j m (i + 1) v S) :=
                    fun v2 S2 W' σ' H' g l a o => ⟨W', v2, S2, a, Nat.lt_of_lt_of_le hj g.len, (l.r j hj).trans hr, OutS.rebase o g l⟩
                  cases hr2 : fb ⟨F.b, v1⟩ S with
                  | nx v2 S2 => rw [hr2] at o; exact fun W' σ' H' g l a => kk v2 S2 W' σ' H' g l a o
                  | ct v2 S2 => rw [hr2] at o; exact fun W' σ' H' g l a => kk v2 S2 W' σ' H' g l a o
                  | bk v2 S2 => rw [hr2] at o; exact o
                  | rt v S2 => rw [hr2] at o; exact o
                  | ex ec v2 S2 => rw [hr2] at o; exact o
                  | bad => rw [hr2] at o; exact o
            | _ => rw [hx] at o; exact o.elim
    · exact o1.elim
/-! ### list.insert -/
def muInsert (b : Nat) (S : Sto) : SV → List SV → Option (SV × Sto)
  | .m j, [i, y] => match S[j]? with
    | some (.lst xs) => match view S i with
      | some (.int k) => if (decide (0 ≤ k) && decide (k < 4611686018427387904)) = true ∧ xs.length < most ∧ okIn b j y = true then some (.d .non, S.set j (.lst (xs.take k.toNat ++ [y] ++ xs.drop k.toNat))) else none
      | _ => none
    | _ => none
  | _, _ => none
theorem paired_take {α β : Type} {R : α → β → Prop} : ∀ {xs : List α} {ys : List β} (n : Nat), Paired R xs ys → Paired R (xs.take n) (ys.take n)
  | _, _, 0, _ => by simp only [List.take_zero]; exact .nil
  | _, _, _ + 1, .nil => .nil
  | _, _, n + 1, .cons q t => .cons q (paired_take n t)
theorem paired_drop {α β : Type} {R : α → β → Prop} : ∀ {xs : List α} {ys : List β} (n : Nat), Paired R xs ys → Paired R (xs.drop n) (ys.drop n)
  | _, _, 0, h => h
  | _, _, _ + 1, .nil => .nil
  | _, _, n + 1, .cons _ t => paired_drop n t
theorem ov_insert : MtR X "list.insert" (RMut X cl muInsert) := MtR.weak mt_insert fun x xs H Q ⟨W, S, a, as, b, y, S', hb, r, ra, ras, e, k⟩ => by
  unfold muInsert at e
  split at e
  · rename_i j i y
    split at e
    · rename_i zs hz
      split at e
      · rename_i kk ek
        split at e
        · rename_i hc
          cases e
          obtain ⟨_, rfl⟩ := ra
          obtain ⟨g0, vs, h1, h2⟩ := r.st j _ hz
          match xs, ras with
          | [v1, v2], .cons r1 (.cons r2 .nil) =>
            simp only [Bool.and_eq_true, decide_eq_true_eq] at hc
            have e1 := view_int r ek r1
            subst e1
            refine ⟨_, vs, kk, v2, rfl, rfl, h1, by rw [← PySem.Paired.length h2]; exact hc.2.1, hc.1.1, by omega, ?_⟩
            refine k W _ _ (.set fun b' hb' w hi x hx => ?_) (.refl _ _) (r.set hz rfl ⟨g0, _, upd_same, paired_append (paired_snoc (paired_take _ h2) r2) (paired_drop _ h2)⟩) RelD.non
            rcases List.mem_append.mp hx with hx | hx
            · rcases List.mem_append.mp hx with hx | hx
              · exact w j _ hi hz x (List.mem_of_mem_take hx)
              · cases List.mem_singleton.mp hx
                exact okIn_below hc.2.2 hb' hi
            · exact w j _ hi hz x (List.mem_of_mem_drop hx)
        · cases e
      · cases e
    · cases e
  · cases e
end
end Ev

set_option Elab.async false
set_option linter.all false
set_option maxRecDepth 100000
/-! Ev28: keyword-only parameters, slices that will change. -/
namespace Ev
open PySem L2
section
variable {X : Cx} {cl : CL} {Wx : WX} {e e1 e2 o : Expr} {es : List Expr} {f fk : Fr → Sto → Res (List SV)} {fe : Fr → Sto → Res SV} {p pos apos cpos kpos : Pos} {x : Str} {kws : List Keyword} {nm : Option Str}
theorem PK.weak {t t' : TA} (h : PK X kws t) (k : ∀ σ H Q, t' σ H Q → t σ H Q) : PK X kws t' := ⟨fun pos pins s σ H Q I q => h.run pos pins s σ H Q I (k σ H Q q)⟩
theorem kv_nil : PK X [] (RA X cl Wx aNil) := PK.weak pk_nil fun σ H Q ⟨W, F, S, a, o⟩ => o W H [] (.refl _ _) (.refl _ _) a.rel .nil
theorem kv_cons (he : PE X e (RE X cl Wx fe)) (ha : PK X kws (RA X cl Wx f)) : PK X (⟨nm, e, kpos⟩ :: kws) (RA X cl Wx (aCons fe f)) := PK.weak (pk_cons he ha) fun σ H Q ⟨W, F, S, a, o⟩ => by
  refine ⟨W, F, S, a, (Out.bind o).mono fun v H1 ⟨W1, S1, x, g1, l1, r1, q1, o1⟩ => ?_⟩
  refine ⟨W1, F, S1, a.on g1 l1 r1, (Out.bind o1).mono fun vs H2 ⟨W2, S2, xs, g2, l2, r2, q2, o2⟩ => ?_⟩
  exact o2.here r2 (.cons (RelSV.le l2 g2.len q1) q2)
/-! ### f(e, .., k = v) -/
def KwA (K : PySem.W.Frag) (fd : FuncData) (ps : List Str) (n : Nat) (ks : List Str) : Prop := KBn K fd ps n ks (fun us ws => us ++ ws) (fun vs zs => vs ++ zs)
def clN (n m : Nat) (g : Nat → List SV → Sto → Res SV) (as zs : List SV) (S : Sto) : Res SV := if as.length = n ∧ zs.length = m then fin S.length (g S.length (as ++ zs) S) else .bad
def eCallN (g : Nat → List SV → Sto → Res SV) (n m : Nat) (f fk : Fr → Sto → Res (List SV)) : Fr → Sto → Res SV := fun F S => (f F S).bind fun as S1 => (fk F S1).bind fun zs S2 => clN n m g as zs S2
variable {k n : Nat} {fa : Addr} {fd : FuncData} {ps ks : List Str} {g : Nat → List SV → Sto → Res SV}
theorem run_fnSN {CX : CXT} {sp : Sp} {E : XK} {gl : List Value → List Value → List Value} {gV : List V → List V → List V} {pins : List (Addr × Obj)} {σ : St} {H : Hp} {s : Shared} {Q : VK} {us ws : List Value} {vs zs : List V} (F : FnOk X.prog X.w X.K X.mg X.base CX k fa fd ps sp) (hr : Room k X.A) (hb : KBn X.K fd ps n ks gl gV) (hx : PassesAt CX X σ E)
    (I : Inv X pins σ H s) (r : Vals vs us) (rz : Vals zs ws) (l1 : vs.length = n) (l2 : zs.length = ks.length) (h : sp (gV vs zs) H Q E) : wpAny (model X.prog X.w) X.A (call (.ref fa) us (ks.zip ws)) (EP X pins σ Q) X.xe s := by
  have r2 := hb.rel r rz
  refine wpAny_call (codeAny_mono (F.run X.A X.stack s H ⟨us, ks.zip ws⟩ (gl us ws) (gV vs zs) Q E hr I.env0 (hb.to s us ws I.kIn (r.length.symm.trans l1) (rz.length.symm.trans l2)) r2 h) fun r s' hq => ?_)
  cases r with
  | error e => exact hx pins H s e s' I hq
  | ok fl =>
    cases fl with
    | ret u => exact I.after hq
    | next => exact False.elim hq
    | brk => exact False.elim hq
    | cont => exact False.elim hq
theorem ev_callN (Fk : FnE X cl k fa fd ps g) (hr : Room k X.A) (tk : L2N.Takes X Wx) (hg : Gl X x) (hm : X.mg x = some (.ref fa)) (hk : PySem.W.keepIn X.K (.ref fa) = true) (hb : KwA X.K fd ps n ks) (ha : PA X (e :: es) (RA X cl Wx f)) (hkw : PK X kws (RA X cl Wx fk))
    (hdb : (x == ("__debug__" : Str)) = false := by decide +kernel) (hall : (backToKw pos (keywordEach kws X.env)).all (·.1.isSome) = true := by rfl) (hks : (backToKw pos (keywordEach kws X.env)).filterMap (·.1) = ks := by rfl) (he : starEach (e :: es) X.env = (false, eval e X.env) :: starEach es X.env := by rfl)
    (hpl : ((backTo pos (starEach (e :: es) X.env)).any (·.1) || (backToKw pos (keywordEach kws X.env)).any (·.1.isNone)) = false := by rfl) :
    PE X (.Call (.Name x p) (e :: es) kws pos) (RE X cl Wx (eCallN g n ks.length f fk)) := by
  refine ⟨fun pins s σ H Q I ⟨W, F, S, a, q⟩ => ?_⟩
  have h0 : RA X cl Wx f σ H fun vs H1 => RA X cl Wx fk σ H1 fun zs H2 => vs.length = n ∧ zs.length = ks.length ∧ SpR X.K cl g (vs ++ zs) H2 Q (WE Wx σ) := by
    refine RA.of a q fun W1 S1 as vs H1 g1 l1 a1 q1 o1 => ?_
    refine RA.of a1 o1 fun W2 S2 zs us H2 g2 l2 a2 q2 o2 => ?_
    unfold clN at o2
    split at o2
    · rename_i hl
      exact ⟨(PySem.Paired.length q1).symm.trans hl.1, (PySem.Paired.length q2).symm.trans hl.2, sp_fin a2 (paired_append (RelSVs.le l2 g2.len q1) q2) o2⟩
    · exact o2.elim
  refine wpAny_Call_Name_kw (ld_glob I hg hm ?_ hdb)
  refine PySem.W.callWith_KW (h₀ := X.base) I.ok.mod.kin hk hall (thn (ha.run pos pins s σ H _ I h0) fun us s1 ⟨vs, H1, I1, r, q⟩ => ?_) hpl he
  refine thn (hkw.run pos pins s1 σ H1 _ I1 q) fun ws s2 ⟨zs, H2, I2, rz, l1, l2, q2⟩ => ⟨I2.kIn, ?_⟩
  rw [hks]
  exact run_fnSN Fk hr hb (L2N.passAt tk σ) I2 r rz l1 l2 q2
/-! ### x[lo:hi] of a list, that will change -/
def slM (lo hi : Option Int) (S : Sto) : Option (List SV) → Res SV
  | some xs => .ok (.m S.length) (S ++ [.lst (cutG xs lo hi)])
  | none => .bad
def eSlM (fe : Fr → Sto → Res SV) (fl fh : Fr → Sto → Res (Option Int)) : Fr → Sto → Res SV := fun F S => (fe F S).bind fun x S1 => (fl F S1).bind fun lo S2 => (fh F S2).bind fun hi S3 => slM lo hi S3 (lstOf S3 x)
theorem cutG_pair {α β : Type} {R : α → β → Prop} {xs : List α} {ys : List β} (h : Paired R xs ys) (lo hi : Option Int) : Paired R (cutG xs lo hi) (cutG ys lo hi) := by
  unfold cutG
  rw [PySem.Paired.length h]
  exact paired_take _ (paired_drop _ h)
theorem ev_slM {lo hi : Option Expr} {p2 : Pos} {fl fh : Fr → Sto → Res (Option Int)} (h : PE X e (RE X cl Wx fe)) (hl : PO X lo (RO X cl Wx fl)) (hh : PO X hi (RO X cl Wx fh)) : PE X (.Subscript e (.Slice lo hi none p2) pos) (RE X cl Wx (eSlM fe fl fh)) :=
  PE.weak (pe_slice sl_list h hl hh) fun σ H Q ⟨W, F, S, a, o⟩ => RE.of a o fun W1 S1 x v H1 g1 l1 a1 q1 o1 => RO.of a1 o1 fun W2 S2 l H2 g2 l2 a2 o2 => RO.of a2 o2 fun W3 S3 u H3 g3 l3 a3 o3 => by
    have q3 := RelSV.le (l2.trans l3 g2.len) (Nat.le_trans g2.len g3.len) q1
    cases hx : lstOf S3 x with
    | none => rw [hx] at o3; exact o3.elim
    | some xs =>
      rw [hx] at o3
      obtain ⟨pa, vs, rfl, s1, t1⟩ := lst_rel a3.rel hx q3
      refine ⟨pa, vs, rfl, s1, fun y hy => ?_⟩
      have r3 := a3.rel.newM (mo := .lst (cutG xs l u)) (ho := .lst (cutV vs l u)) hy ⟨a3.rel.unone hy, _, upd_same, RelSVs.le (W3.add_le _ _) (Nat.le_succ _) (cutG_pair t1 l u)⟩
      exact o3 _ _ _ (.add _ _ _ a3.b) (W3.add_le _ _) r3 ⟨by rw [List.length_append]; exact Nat.lt_succ_self _, by rw [Wd.add_at]⟩
end
/-! ### a def with keyword-only parameters -/
section
variable {K : PySem.W.Frag} {x qual : Str} {st : Stmt} {f : Addr} {fd : FuncData} {ps : List Str}
def kwV (ks : List (Str × Dv)) : List (Str × V) := ks.map fun q => (q.1, cstV q.2)
abbrev FunW (K : PySem.W.Frag) (x qual : Str) (st : Stmt) (ks : List (Str × Dv)) (f : Addr) (fd : FuncData) : Prop := FunD K x qual (defArgs st) (defBody st) (defScope st) [] (kwV ks) f fd
theorem funW_mk {ks : List (Str × Dv)} {oc doc pm cdv ct : Value} {od an : Option Addr} {osl : Array (Option Value)} {D : Addr} (l : K.lookup f = some ⟨oc, od, .func (PySem.W.fnOf x qual (defArgs st) (defBody st) (defScope st) .none (.ref D) doc pm an cdv ct), osl⟩)
    (c : PySem.W.codeIn K cdv qual = true) (kp : PySem.W.keepIn K (.ref f) = true) (h : ∀ q ∈ ks, ∃ u, PySem.W.nsIn K D q.1 = some (some u) ∧ He.relB (cstV q.2) u = true) : FunW K x qual st ks f (PySem.W.fnOf x qual (defArgs st) (defBody st) (defScope st) .none (.ref D) doc pm an cdv ct) :=
  ⟨⟨oc, od, .none, .ref D, doc, pm, an, cdv, ct, osl, rfl, l, c, .inl ⟨rfl, rfl⟩, .inr ⟨D, rfl, fun q hq => by
    obtain ⟨z, hz, rfl⟩ := List.mem_map.mp hq
    obtain ⟨u, h1, h2⟩ := h z hz
    exact ⟨u, h1, He.relB_ok h2⟩⟩⟩, kp⟩
/-- the keywords lack: their defaults -/
theorem bindW {ks : List (Str × Dv)} (F : FunW K x qual st ks f fd) (n : Nat) (hk : ks ≠ []) (hn : n + ks.length = ps.length)
    (h : ∀ (D : Addr) (doc pm : Value) (an : Option Addr) (cdv ct : Value) (us vs : List Value), us.length = n → vs.length = ks.length →
      KwChain D ((ks.map (·.1)).zip vs) (bindArgs (PySem.W.fnOf x qual (defArgs st) (defBody st) (defScope st) .none (.ref D) doc pm an cdv ct) ⟨us, []⟩) (ps.zip (us ++ vs))) : BindD K fd ps (ks.map (·.2)) := by
  have e1 : (kwV ks).map (·.1) = ks.map (·.1) := by unfold kwV; rw [List.map_map]; rfl
  have e2 : (kwV ks).map (·.2) = (ks.map (·.2)).map cstV := by unfold kwV; rw [List.map_map, List.map_map]; rfl
  have := F.binds0 (ps := ps) n (by unfold kwV; simpa using hk) (by unfold kwV; rw [List.length_map]; exact hn) (fun D doc pm an cdv ct us vs h1 h2 => by
    rw [e1]
    exact h D doc pm an cdv ct us vs h1 (by rw [h2]; unfold kwV; rw [List.length_map]))
  rw [e2] at this
  exact this
/-- all keywords are given, in their order -/
theorem bindWA {ks : List (Str × Dv)} (F : FunW K x qual st ks f fd) (n : Nat) (hk : ks ≠ []) (nm : List Str)
    (h : ∀ (D : Addr) (doc pm : Value) (an : Option Addr) (cdv ct : Value) (us ws : List Value), us.length = n → ws.length = nm.length →
      bindArgs (PySem.W.fnOf x qual (defArgs st) (defBody st) (defScope st) .none (.ref D) doc pm an cdv ct) ⟨us, nm.zip ws⟩ = pure (ps.zip (us ++ ws))) : KwA K fd ps n nm := by
  obtain ⟨mv, b⟩ := F.kbinds0 (ps := ps) n nm [] (fun us _ ws => us ++ ws) (by unfold kwV; simpa using hk) (fun q hq => by cases hq) (fun h1 _ h3 => h1.append h3) fun D doc pm an cdv ct us mv ws h1 h2 h3 => by
    have : mv = [] := List.length_eq_zero_iff.mp h2
    subst this
    exact h D doc pm an cdv ct us ws h1 h3
  exact b
end
/-! ### reckoning -/
@[simp] theorem txS_s (tg : Tg) (body : Fr → Sto → SRes) (F : Fr) (S : Sto) (z : Str) : txS tg body F S (some (.str z)) = forL tg body F.b (chars z) F.v S := Eq.trans rfl rfl
def kTx (tg : Tg) (body : Fr → Sto → SRes) (F : Fr) (r : Res SV) : SRes := r.st F fun x S1 => txS tg body F S1 (view S1 x)
@[simp] theorem kTx_ok (tg : Tg) (body : Fr → Sto → SRes) (F : Fr) (x : SV) (S : Sto) : kTx tg body F (.ok x S) = txS tg body F S (view S x) := Eq.trans rfl rfl
@[simp] theorem sForT_ap (fe : Fr → Sto → Res SV) (tg : Tg) (body : Fr → Sto → SRes) (F : Fr) (S : Sto) : sForT fe tg body F S = kTx tg body F (fe F S) := Eq.trans rfl rfl
def kTuM (r : Res (List SV)) : Res SV := r.bind fun xs S1 => if xs.length ≤ most then .ok (.m S1.length) (S1 ++ [.tup xs]) else .bad
@[simp] theorem kTuM_ok (xs : List SV) (S : Sto) : kTuM (.ok xs S) = if xs.length ≤ most then .ok (.m S.length) (S ++ [.tup xs]) else .bad := Eq.trans rfl rfl
@[simp] theorem eTupM_ap (f : Fr → Sto → Res (List SV)) (F : Fr) (S : Sto) : eTupM f F S = kTuM (f F S) := Eq.trans rfl rfl
@[simp] theorem fmS_m (n : Nat) (tg : Tg) (body : Fr → Sto → SRes) (F : Fr) (S : Sto) (j : Nat) : fmS n tg body F S (.m j) = forM tg body F.b j n 0 F.v S := Eq.trans rfl rfl
def kFm (n : Nat) (tg : Tg) (body : Fr → Sto → SRes) (F : Fr) (r : Res SV) : SRes := r.st F fun x S1 => fmS n tg body F S1 x
@[simp] theorem kFm_ok (n : Nat) (tg : Tg) (body : Fr → Sto → SRes) (F : Fr) (x : SV) (S : Sto) : kFm n tg body F (.ok x S) = fmS n tg body F S x := Eq.trans rfl rfl
@[simp] theorem sForM_ap (n : Nat) (fe : Fr → Sto → Res SV) (tg : Tg) (body : Fr → Sto → SRes) (F : Fr) (S : Sto) : sForM n fe tg body F S = kFm n tg body F (fe F S) := Eq.trans rfl rfl
theorem muInsert_m {S : Sto} {b j : Nat} {xs : List SV} {y : SV} {k : Int} (h : S[j]? = some (.lst xs)) (h0 : 0 ≤ k) (h1 : k < 4611686018427387904) (hl : xs.length < most) (ho : okIn b j y = true) : muInsert b S (.m j) [.d (.int k), y] = some (.d .non, S.set j (.lst (xs.take k.toNat ++ [y] ++ xs.drop k.toNat))) := by
  simp [muInsert, h, h0, h1, hl, ho]
def kCn2 (n m : Nat) (g : Nat → List SV → Sto → Res SV) (as : List SV) (r : Res (List SV)) : Res SV := r.bind fun zs S2 => clN n m g as zs S2
@[simp] theorem kCn2_ok (n m : Nat) (g : Nat → List SV → Sto → Res SV) (as zs : List SV) (S : Sto) : kCn2 n m g as (.ok zs S) = if as.length = n ∧ zs.length = m then callF g (as ++ zs) S else .bad := Eq.trans rfl rfl
def kCn1 (n m : Nat) (g : Nat → List SV → Sto → Res SV) (fk : Fr → Sto → Res (List SV)) (F : Fr) (r : Res (List SV)) : Res SV := r.bind fun as S1 => kCn2 n m g as (fk F S1)
@[simp] theorem kCn1_ok (n m : Nat) (g : Nat → List SV → Sto → Res SV) (fk : Fr → Sto → Res (List SV)) (F : Fr) (as : List SV) (S : Sto) : kCn1 n m g fk F (.ok as S) = kCn2 n m g as (fk F S) := Eq.trans rfl rfl
@[simp] theorem eCallN_ap (g : Nat → List SV → Sto → Res SV) (n m : Nat) (f fk : Fr → Sto → Res (List SV)) (F : Fr) (S : Sto) : eCallN g n m f fk F S = kCn1 n m g fk F (f F S) := Eq.trans rfl rfl
@[simp] theorem slM_s (lo hi : Option Int) (S : Sto) (xs : List SV) : slM lo hi S (some xs) = .ok (.m S.length) (S ++ [.lst (cutG xs lo hi)]) := Eq.trans rfl rfl
def kSm3 (lo : Option Int) (x : SV) (r : Res (Option Int)) : Res SV := r.bind fun hi S3 => slM lo hi S3 (lstOf S3 x)
@[simp] theorem kSm3_ok (lo hi : Option Int) (x : SV) (S : Sto) : kSm3 lo x (.ok hi S) = slM lo hi S (lstOf S x) := Eq.trans rfl rfl
def kSm2 (fh : Fr → Sto → Res (Option Int)) (F : Fr) (x : SV) (r : Res (Option Int)) : Res SV := r.bind fun lo S2 => kSm3 lo x (fh F S2)
@[simp] theorem kSm2_ok (fh : Fr → Sto → Res (Option Int)) (F : Fr) (x : SV) (lo : Option Int) (S : Sto) : kSm2 fh F x (.ok lo S) = kSm3 lo x (fh F S) := Eq.trans rfl rfl
def kSm1 (fl fh : Fr → Sto → Res (Option Int)) (F : Fr) (r : Res SV) : Res SV := r.bind fun x S1 => kSm2 fh F x (fl F S1)
@[simp] theorem kSm1_ok (fl fh : Fr → Sto → Res (Option Int)) (F : Fr) (x : SV) (S : Sto) : kSm1 fl fh F (.ok x S) = kSm2 fh F x (fl F S) := Eq.trans rfl rfl
@[simp] theorem eSlM_ap (fe : Fr → Sto → Res SV) (fl fh : Fr → Sto → Res (Option Int)) (F : Fr) (S : Sto) : eSlM fe fl fh F S = kSm1 fl fh F (fe F S) := Eq.trans rfl rfl
end Ev

set_option Elab.async false
set_option linter.all false
set_option maxRecDepth 100000
/-! Ev29: a, b = a list. -/
namespace Ev
open PySem L2
section
variable {X : Cx} {cl : CL} {pos : Pos}
def gUl (n : Nat) (tgs : List Tg) : Tg := fun x F S => match lstOf S x with
  | some xs => if xs.length = n then gTs tgs xs F S else none
  | none => none
theorem gv_unl {n : Nat} {es : List Expr} {k : Nat} {tgs : List Tg} (hc : X.calm = true) (h : PGs X es (RGs X cl tgs)) (hn : (assignEach es X.env).length = n := by rfl) (hst : (assignEach es X.env).findIdx? (·.1) = none := by rfl) : PG X (.Tuple es k pos) (RG X cl (gUl n tgs)) :=
  PG.weak (pg_lst hc h hn hst) fun v σ H Q ⟨W, F, S, sv, v', a, q, e, kk⟩ => by
    unfold gUl at e
    split at e
    · rename_i xs hx
      split at e
      · rename_i hl
        obtain ⟨p, vs, rfl, s1, t1⟩ := lst_rel a.rel hx q
        exact ⟨p, vs, rfl, s1, by rw [← PySem.Paired.length t1]; exact hl, W, F, S, xs, v', a, t1, e, kk⟩
      · cases e
    · cases e
end
def ulR (n : Nat) (tgs : List Tg) (F : Fr) (S : Sto) : Option (List SV) → Option Env
  | some xs => if xs.length = n then gTs tgs xs F S else none
  | none => none
@[simp] theorem ulR_s (n : Nat) (tgs : List Tg) (F : Fr) (S : Sto) (xs : List SV) : ulR n tgs F S (some xs) = if xs.length = n then gTs tgs xs F S else none := Eq.trans rfl rfl
@[simp] theorem gUl_ap (n : Nat) (tgs : List Tg) (x : SV) (F : Fr) (S : Sto) : gUl n tgs x F S = ulR n tgs F S (lstOf S x) := by
  unfold gUl ulR
  cases lstOf S x <;> rfl
@[simp] theorem anInt_int : anInt .int = some true := rfl
@[simp] theorem anInt_bl : anInt .bl = some true := rfl
@[simp] theorem anInt_str : anInt .str = some false := rfl
@[simp] theorem anInt_tup : anInt .tup = some false := rfl
@[simp] theorem anInt_lst : anInt .lst = some false := rfl
@[simp] theorem anInt_non : anInt .non = some false := rfl
@[simp] theorem anBool_int : anBool .int = some false := rfl
@[simp] theorem anBool_bl : anBool .bl = some true := rfl
@[simp] theorem anBool_str : anBool .str = some false := rfl
@[simp] theorem anBool_tup : anBool .tup = some false := rfl
@[simp] theorem anBool_lst : anBool .lst = some false := rfl
@[simp] theorem anBool_non : anBool .non = some false := rfl
@[simp] theorem anStr_int : anStr .int = some false := rfl
@[simp] theorem anStr_bl : anStr .bl = some false := rfl
@[simp] theorem anStr_str : anStr .str = some true := rfl
@[simp] theorem anStr_tup : anStr .tup = some false := rfl
@[simp] theorem anStr_lst : anStr .lst = some false := rfl
@[simp] theorem anStr_non : anStr .non = some false := rfl
@[simp] theorem anTup_int : anTup .int = some false := rfl
@[simp] theorem anTup_bl : anTup .bl = some false := rfl
@[simp] theorem anTup_str : anTup .str = some false := rfl
@[simp] theorem anTup_tup : anTup .tup = some true := rfl
@[simp] theorem anTup_lst : anTup .lst = some false := rfl
@[simp] theorem anTup_non : anTup .non = some false := rfl
@[simp] theorem anLst_int : anLst .int = some false := rfl
@[simp] theorem anLst_bl : anLst .bl = some false := rfl
@[simp] theorem anLst_str : anLst .str = some false := rfl
@[simp] theorem anLst_tup : anLst .tup = some false := rfl
@[simp] theorem anLst_lst : anLst .lst = some true := rfl
@[simp] theorem anLst_non : anLst .non = some false := rfl
end Ev

set_option Elab.async false
set_option linter.all false
set_option maxRecDepth 100000
/-! Ev30: texts as lists of signs. -/
namespace Ev
open PySem L2
def T (l : List Nat) : Str := ⟨l.toArray⟩
def cp (z : Str) : List Nat := z.cps.toList
@[simp] theorem cp_T (l : List Nat) : cp (T l) = l := Eq.trans rfl rfl
theorem T_of (z : Str) : z = T (cp z) := rfl
theorem T_inj {a b : List Nat} (h : T a = T b) : a = b := congrArg cp h
theorem T_eq {a b : List Nat} : T a = T b ↔ a = b := ⟨T_inj, fun h => h ▸ rfl⟩
theorem S_len (z : Str) : z.length = (cp z).length := by
  show z.cps.size = z.cps.toList.length
  rw [Array.length_toList]
theorem T_app (a b : List Nat) : T a ++ T b = T (a ++ b) := by
  show Str.mk (a.toArray ++ b.toArray) = _
  simp [T]
theorem cps_app (a b : Str) : cp (a ++ b) = cp a ++ cp b := by
  show (a.cps ++ b.cps).toList = a.cps.toList ++ b.cps.toList
  simp
@[simp] theorem cp_one (c : Nat) : cp ⟨#[c]⟩ = [c] := Eq.trans rfl rfl
theorem T_one (c : Nat) : (⟨#[c]⟩ : Str) = T [c] := rfl
theorem T_ext {a b : Str} (h : cp a = cp b) : a = b := by rw [T_of a, T_of b, h]
theorem cut_def (z : Str) (lo hi : Option Int) : cutS z lo hi = T (((cp z).drop (HT.sIx (cp z).length 0 lo)).take (HT.sIx (cp z).length (cp z).length hi - HT.sIx (cp z).length 0 lo)) := by
  unfold cutS
  rw [S_len]
  rfl
theorem sIx_p {n d : Nat} {i : Int} (h : 0 ≤ i) : HT.sIx n d (some i) = min i.toNat n := by
  show (if i < 0 then _ else min i.toNat n) = _
  rw [if_neg (by omega)]
theorem cut_hi (z : Str) {i : Int} (h : 0 ≤ i) : cutS z none (some i) = T ((cp z).take i.toNat) := by
  rw [cut_def, sIx_p h, HT.sIx_none, List.drop_zero, Nat.sub_zero, List.take_eq_take_min.symm]
theorem cut_aux (l : List Nat) (i j : Nat) : (l.drop (min i l.length)).take (min j l.length - min i l.length) = (l.take j).drop i := by
  apply List.ext_getElem?
  intro n
  simp only [List.getElem?_take, List.getElem?_drop]
  by_cases hi : i ≤ l.length
  · rw [Nat.min_eq_left hi]
    by_cases hj : j ≤ l.length
    · rw [Nat.min_eq_left hj]
      by_cases h : n < j - i
      · rw [if_pos h, if_pos (by omega)]
      · rw [if_neg h, if_neg (by omega)]
    · rw [Nat.min_eq_right (a := j) (by omega)]
      by_cases h : n < l.length - i
      · rw [if_pos h, if_pos (by omega)]
      · rw [if_neg h, List.getElem?_eq_none (by omega)]
        split <;> rfl
  · rw [Nat.min_eq_right (a := i) (by omega)]
    rw [if_neg (by omega), List.getElem?_eq_none (by omega)]
    split <;> rfl
theorem cut_lo (z : Str) {i : Int} (h : 0 ≤ i) : cutS z (some i) none = T ((cp z).drop i.toNat) := by
  rw [cut_def, sIx_p h, HT.sIx_none]
  have := cut_aux (cp z) i.toNat (cp z).length
  rw [Nat.min_self, List.take_length] at this
  rw [this]
theorem cut_mid (z : Str) {i j : Int} (h : 0 ≤ i) (h2 : 0 ≤ j) : cutS z (some i) (some j) = T (((cp z).take j.toNat).drop i.toNat) := by
  rw [cut_def, sIx_p h, sIx_p h2, cut_aux]
theorem bl_s (S : Sto) (z : Str) (h : (cp z).length ≤ 1000) : biLen S [.d (.str z)] = some (.int (cp z).length) := by
  have := S_len z
  have hm : z.length ≤ most := by rw [S_len]; exact most_pos _ h
  simp [biLen, itemsOf, dictOf, this, most_pos _ h]
theorem ix_s {S : Sto} {z : Str} (hz : (cp z).length ≤ 1000) {x : Int} (h0 : 0 ≤ x) (h1 : x < (cp z).length) : opIx S (.d (.str z)) (.d (.int x)) = some (.d (.str ⟨#[(cp z)[x.toNat]'(by omega)]⟩)) := by
  have hm : z.length ≤ most := by rw [S_len]; exact most_pos _ hz
  have e : ((x.toNat : Nat) : Int) = x := Int.toNat_of_nonneg h0
  have e2 := atI_n z.cps.toList x.toNat
  rw [e] at e2
  have hl : x.toNat < z.cps.size := by
    have : z.cps.size = (cp z).length := S_len z
    omega
  simp [opIx, itemsOf, dictOf, hm, e2, hl]
  rfl
theorem ix_s' {z : Str} (hz : (cp z).length ≤ 1000) {x : Int} (h0 : 0 ≤ x) (h1 : x < (cp z).length) : ∃ c, c ∈ cp z ∧ ∀ S, opIx S (.d (.str z)) (.d (.int x)) = some (.d (.str ⟨#[c]⟩)) :=
  ⟨_, List.getElem_mem _, fun _ => ix_s hz h0 h1⟩
theorem sum_s (S : Sto) (a b : Str) (h : (cp a).length + (cp b).length ≤ 1000) : opAdd S (.d (.str a)) (.d (.str b)) = some (.str (a ++ b)) := by
  rw [opAdd_ss, if_pos (by rw [S_len, S_len]; exact most_pos _ h)]
theorem sl_s (S : Sto) (z : Str) (lo hi : Option Int) (h : (cp z).length ≤ 1000) : slR lo hi (some (.str z)) S = .ok (.d (.str (cutS z lo hi))) S := by
  rw [slR_s, if_pos (by rw [S_len]; exact most_pos _ h)]
/-! ### statement by statement -/
section
variable {s s' : Fr → Sto → SRes} {F : Fr} {S S2 : Sto} {v2 : Env} {n : Nat} {y : Res SV} {x : SV}
theorem seq_st {r : SRes} (h : s F S = .nx v2 S2) (h2 : s' ⟨F.b, v2⟩ S2 = r) : sSeq s s' F S = r := by rw [sSeq_ap, h, kSeq_nx, h2]
theorem seq_res (h : s F S = .nx v2 S2) (h2 : (s' ⟨F.b, v2⟩ S2).res = y) : (sSeq s s' F S).res = y := by rw [sSeq_ap, h, kSeq_nx, h2]
theorem seq_fin (h : s F S = .nx v2 S2) (h2 : fin n (s' ⟨F.b, v2⟩ S2).res = y) : fin n (sSeq s s' F S).res = y := by rw [sSeq_ap, h, kSeq_nx, h2]
theorem seq_finK (h : s F S = .nx v2 S2) (h2 : finK n (s' ⟨F.b, v2⟩ S2).res = y) : finK n (sSeq s s' F S).res = y := by rw [sSeq_ap, h, kSeq_nx, h2]
theorem seq_rt_st (h : s F S = .rt x S2) : sSeq s s' F S = .rt x S2 := by rw [sSeq_ap, h, kSeq_rt]
theorem seq_rt_res (h : s F S = .rt x S2) : (sSeq s s' F S).res = .ok x S2 := by rw [sSeq_ap, h, kSeq_rt]; rfl
theorem seq_rt_fin (h : s F S = .rt x S2) (h2 : fin n (.ok x S2) = y) : fin n (sSeq s s' F S).res = y := by rw [seq_rt_res h, h2]
theorem seq_rt_finK (h : s F S = .rt x S2) : finK n (sSeq s s' F S).res = .ok x S2 := by rw [seq_rt_res h]; rfl
end
theorem take_up {S X : Sto} (hl : S.length ≤ X.length) (h : ∀ j, j < S.length → X[j]? = S[j]?) : X.take S.length = S := by
  apply List.ext_getElem?
  intro j
  rw [List.getElem?_take]
  split
  · rename_i hj; exact h j hj
  · rename_i hj; rw [List.getElem?_eq_none_iff.mpr (by omega)]
end Ev

set_option Elab.async false
set_option linter.all false
set_option maxRecDepth 100000
/-! EvLaw: the drawing that all laws share. -/
namespace Ev
open PySem L2
/-- a pool of digits -/
structure Po where
  a : Int
  b : Int
  c : Int
def Po.l (p : Po) : MO := .lst [.d (.int p.a), .d (.int p.b), .d (.int p.c)]
theorem itemsOf_m {S : Sto} {i : Nat} {xs : List SV} (h : S[i]? = some (.lst xs)) : itemsOf S (.m i) = some xs := by simp [itemsOf, h]
theorem view_mi {S : Sto} {i : Nat} : view S (.d (.int i)) = some (.int i) := rfl
theorem opIx_m {S : Sto} {i : Nat} {xs : List SV} {k : Int} (h : S[i]? = some (.lst xs)) : opIx S (.m i) (.d (.int k)) = atI xs k := by simp [opIx, itemsOf_m h]
theorem putIx_m {S : Sto} {i b : Nat} {xs : List SV} {k : Int} {n : Nat} {x : Dv} (h : S[i]? = some (.lst xs)) (hn : ixN xs.length k = some n) : putIx b S (.m i) (.d (.int k)) (.d x) = some (S.set i (.lst (xs.set n (.d x)))) := by
  simp [putIx, h, hn, okIn]
def bNext : Fr → Sto → SRes :=
   sSeq (sIf (tV (eOp opGt (eOpS opIx (eVar 0) (eC (.int 0))) (eC (.int 0)))) (sSeq (sSet 2 (eOp opMod (eBi biInt (aCons (eOpS opIx (eVar 0) (eC (.int 0))) (aNil))) (eVar 1)))
    (sSeq (sSub (eVar 0) (eC (.int 0)) (eOp opDiv (eOpS opIx (eVar 0) (eC (.int 0))) (eVar 1)))
    (sRet (eVar 2)))) (sNil))
    (sSeq (sSub (eVar 0) (eC (.int 1)) (eOp opAdd (eOpS opIx (eVar 0) (eC (.int 1))) (eC (.int 1))))
    (sSeq (sSet 3 (eOp opMod (eBi biInt (aCons (eOp opAdd (eOp opAdd (eOpS opIx (eVar 0) (eC (.int 2))) (eOp opMul (eC (.int 7919)) (eOpS opIx (eVar 0) (eC (.int 1))))) (eC (.int 13))) (aNil))) (eC (.int 2147483647))))
    (sSeq (sSet 3 (eOp opMod (eBi biInt (aCons (eOp opMul (eVar 3) (eOp opAdd (eVar 3) (eC (.int 48271)))) (aNil))) (eC (.int 2147483629))))
    (sSeq (sSet 3 (eOp opMod (eBi biInt (aCons (eOp opAdd (eOp opMul (eVar 3) (eOp opAdd (eVar 3) (eC (.int 69621)))) (eOp opMul (eC (.int 31)) (eOpS opIx (eVar 0) (eC (.int 1))))) (aNil))) (eC (.int 2147483647))))
    (sRet (eOp opMod (eBi biInt (aCons (eOp opDiv (eVar 3) (eC (.int 9))) (aNil))) (eVar 1)))))))
theorem big_of {i : Int} (h0 : 0 ≤ i) (h : i < 2147483648) : big64 i = true := by
  unfold big64
  simp only [Bool.and_eq_true, decide_eq_true_eq]
  omega
theorem ixN0 : ixN 3 0 = some 0 := rfl
theorem ixN1 : ixN 3 1 = some 1 := rfl
theorem next_ok {S : Sto} {i b : Nat} {p : Po} {m : Int} (hS : S[i]? = some p.l) (h0 : 0 < m) (h1 : m < 1073741824) :
    ∃ (d : Int) (q : Po), 0 ≤ d ∧ d < m ∧ runF 2 4 bNext b [.m i, .d (.int m)] S = .ok (.d (.int d)) (S.set i q.l) := by
  have hi : i < S.length := (List.getElem?_eq_some_iff.mp hS).1
  obtain ⟨a, bb, c⟩ := p
  unfold Po.l at hS
  by_cases ha : 0 < a
  · refine ⟨a % m, ⟨a / m, bb, c⟩, Int.emod_nonneg _ (by omega), Int.emod_lt_of_pos _ h0, ?_⟩
    simp [runF, bNext, opIx_m hS, putIx_m hS ixN0, ha, h0, h1, Po.l]
  · have h8 : ∀ x : Int, 0 ≤ x % 2147483647 ∧ x % 2147483647 < 2147483647 := fun x => ⟨Int.emod_nonneg _ (by omega), Int.emod_lt_of_pos _ (by omega)⟩
    have h9 : ∀ x : Int, 0 ≤ x % 2147483629 ∧ x % 2147483629 < 2147483629 := fun x => ⟨Int.emod_nonneg _ (by omega), Int.emod_lt_of_pos _ (by omega)⟩
    have hS' : ∀ z, (S.set i (.lst z))[i]? = some (.lst z) := fun z => by simp [hi]
    have b1 : big64 7919 = true := by decide
    have b2 : big64 31 = true := by decide
    have b3 : ∀ x : Int, big64 (x % 2147483647) = true := fun x => big_of (h8 x).1 (by have := (h8 x).2; omega)
    have b4 : ∀ x : Int, big64 (x % 2147483629) = true := fun x => big_of (h9 x).1 (by have := (h9 x).2; omega)
    let m1 := (c + 7919 * (bb + 1) + 13) % 2147483647
    let m2 := m1 * (m1 + 48271) % 2147483629
    let m3 := (m2 * (m2 + 69621) + 31 * (bb + 1)) % 2147483647
    refine ⟨m3 / 9 % m, ⟨a, bb + 1, c⟩, Int.emod_nonneg _ (by omega), Int.emod_lt_of_pos _ h0, ?_⟩
    simp [runF, bNext, opIx_m hS, putIx_m hS ixN1, ha, h0, h1, Po.l, opIx_m (hS' _), b1, b2, b3, b4, m1, m2, m3]
/-! ### stores that stand apart -/
/-- one thing of the store is another -/
structure Up1 (i : Nat) (S S' : Sto) : Prop where
  len : S'.length = S.length
  oth : ∀ j, j ≠ i → S'[j]? = S[j]?
theorem Up1.refl (i : Nat) (S : Sto) : Up1 i S S := ⟨rfl, fun _ _ => rfl⟩
theorem Up1.trans {i : Nat} {S S1 S2 : Sto} (h : Up1 i S S1) (k : Up1 i S1 S2) : Up1 i S S2 := ⟨k.len.trans h.len, fun j hj => (k.oth j hj).trans (h.oth j hj)⟩
theorem take_eq {S : Sto} {n : Nat} (h : S.length = n) : S.take n = S := by rw [← h]; exact List.take_length
@[simp] theorem set_last (S : Sto) (x y : MO) : (S ++ [x]).set S.length y = S ++ [y] := by
  rw [List.set_append_right _ _ (Nat.le_refl _)]
  simp
/-- a draw, as a call -/
theorem draw_ok {g : Nat → List SV → Sto → Res SV} (hg : ∀ b as S, g b as S = runF 2 4 bNext b as S) {S : Sto} {i : Nat} {p : Po} {m : Int} (hS : S[i]? = some p.l) (h0 : 0 < m) (h1 : m < 1073741824) :
    ∃ (d : Int) (q : Po) (S' : Sto), 0 ≤ d ∧ d < m ∧ S'[i]? = some q.l ∧ Up1 i S S' ∧ callF g [.m i, .d (.int m)] S = .ok (.d (.int d)) S' := by
  obtain ⟨d, q, a, b, e⟩ := next_ok (b := S.length) hS h0 h1
  have hi : i < S.length := (List.getElem?_eq_some_iff.mp hS).1
  refine ⟨d, q, S.set i q.l, a, b, by simp [hi], ⟨by simp, fun j hj => by rw [List.getElem?_set_ne (fun z => hj z.symm)]⟩, ?_⟩
  unfold callF
  rw [hg, e]
  simp
theorem fin_ins {S : Sto} {c : Nat} {fs : List Str} (xs : List Dv) : fin S.length (.ok (.m S.length) (S ++ [.ins c fs (xs.map .d)])) = .ok (.d (.ins c fs xs)) S := by
  unfold fin
  simp only
  have h : freeze (S ++ [MO.ins c fs (xs.map SV.d)]) (SV.m S.length) = _ := freeze_ins (c := c) (fs := fs) (xs := xs) (by simp)
  rw [h]
  simp
def bCell : Fr → Sto → SRes :=
   sSeq (sIf (tV (eOp opLt (eVar 1) (eBi biLen (aCons (eVar 0) (aNil))))) (sRet (eBi biAbs (aCons (eOpS opIx (eVar 0) (eVar 1)) (aNil)))) (sNil))
    (sRet (eC (.int 0)))
/-- the k-th cell of the script -/
def cellOf (ns : List Int) (k : Nat) : Int := match ns[k]? with
  | some n => if n < 0 then -n else n
  | none => 0
theorem cell_ok {S : Sto} {ns : List Int} {k : Nat} {b : Nat} : runF 2 2 bCell b [.d (.lst (ns.map .int)), .d (.int k)] S = .ok (.d (.int (cellOf ns k))) S := by
  unfold cellOf
  by_cases h : k < ns.length
  · have e : ns[k]? = some ns[k] := by simp [h]
    simp [runF, bCell, h, atI_n, e]
  · have e : ns[k]? = none := by simp; omega
    simp [runF, bCell, h, e]
theorem cellOf_nn (ns : List Int) (k : Nat) : 0 ≤ cellOf ns k := by
  unfold cellOf
  split
  · split <;> omega
  · omega
def bPool (c : Nat → List SV → Sto → Res SV) : Fr → Sto → SRes :=
   sSeq (sSet 2 (eCall c (aCons (eVar 0) (aCons (eVar 1) (aNil)))))
    (sSeq (sIf (tV (eOp opGe (eVar 2) (eOp opPow (eC (.int 10)) (eC (.int 18))))) (sRet (eLstM (aCons (eVar 2) (aCons (eC (.int 0)) (aCons (eOp opMod (eBi biInt (aCons (eVar 2) (aNil))) (eC (.int 1000003))) (aNil)))))) (sNil))
    (sRet (eLstM (aCons (eC (.int 0)) (aCons (eC (.int 0)) (aCons (eVar 2) (aNil)))))))
/-- a new pool -/
theorem pool_ok {g c : Nat → List SV → Sto → Res SV} (hg : ∀ b as S, g b as S = runF 2 3 (bPool c) b as S) (hc : ∀ b as S, c b as S = runF 2 2 bCell b as S) {S : Sto} {ns : List Int} {k : Nat} :
    ∃ (p : Po) (S' : Sto), S'[S.length]? = some p.l ∧ S'.length = S.length + 1 ∧ (∀ j, j ≠ S.length → S'[j]? = S[j]?) ∧ callK g [.d (.lst (ns.map .int)), .d (.int k)] S = .ok (.m S.length) S' := by
  have hcc : callF c [.d (.lst (ns.map .int)), .d (.int k)] S = .ok (.d (.int (cellOf ns k))) S := by unfold callF; rw [hc, cell_ok]; simp
  have oth : ∀ (x : MO) (j : Nat), j ≠ S.length → (S ++ [x])[j]? = S[j]? := fun x j hj => by
    by_cases h : j < S.length
    · rw [List.getElem?_append_left h]
    · rw [List.getElem?_append_right (by omega), List.getElem?_eq_none_iff.mpr (show S.length ≤ j by omega)]
      exact List.getElem?_eq_none_iff.mpr (by simp; omega)
  have p18 : (10 : Int) ^ (Int.toNat 18) = 1000000000000000000 := by decide
  by_cases h : 1000000000000000000 ≤ cellOf ns k
  · refine ⟨⟨cellOf ns k, 0, cellOf ns k % 1000003⟩, S ++ [Po.l ⟨cellOf ns k, 0, cellOf ns k % 1000003⟩], by simp, by simp, oth _, ?_⟩
    unfold callK
    rw [hg]
    simp [runF, bPool, hcc, p18, h, Po.l]
  · refine ⟨⟨0, 0, cellOf ns k⟩, S ++ [Po.l ⟨0, 0, cellOf ns k⟩], by simp, by simp, oth _, ?_⟩
    unfold callK
    rw [hg]
    simp [runF, bPool, hcc, p18, h, Po.l]
/-! ### comprehensions whose elements are drawn -/
theorem lcL_draws {i b j : Nat} {ve : Env} {te : Fr → Sto → Res SV} {P : Dv → Prop} (hib : i < b) (hte : ∀ (x : SV) (T : Sto) (p : Po), T[i]? = some p.l → ∃ (y : Dv) (q : Po) (T' : Sto), P y ∧ T'[i]? = some q.l ∧ Up1 i T T' ∧ te ⟨b, ve.set j (some x)⟩ T = .ok (.d y) T') :
    ∀ (xs : List SV) (acc : List Dv) (T : Sto) (p : Po), T.length = b + 1 → T[b]? = some (.lst (acc.map .d)) → T[i]? = some p.l → acc.length + xs.length ≤ 1000 →
      ∃ (ys : List Dv) (q : Po) (T' : Sto), ys.length = xs.length ∧ (∀ y ∈ ys, P y) ∧ T'.length = b + 1 ∧ T'[b]? = some (.lst ((acc ++ ys).map .d)) ∧ T'[i]? = some q.l ∧ (∀ m, m ≠ i → m < b → T'[m]? = T[m]?) ∧ lcL (gNm j) tYs te b ve xs T = .ok (.m b) T'
  | [], acc, T, p, h1, h2, h3, _ => ⟨[], p, T, rfl, fun _ h => absurd h (by simp), h1, by simpa using h2, h3, fun _ _ _ => rfl, rfl⟩
  | x :: r, acc, T, p, h1, h2, h3, h4 => by
    obtain ⟨y, q, T1, py, g1, u1, e1⟩ := hte x T p h3
    simp only [List.length_cons] at h4
    have gb : T1[b]? = some (.lst (acc.map .d)) := by rw [u1.oth b (by omega)]; exact h2
    have l1 : T1.length = b + 1 := by rw [u1.len, h1]
    have bl : b < T1.length := by omega
    obtain ⟨ys, q', T2, ly, pys, l2, g2, g3, o2, e2⟩ := lcL_draws hib hte r (acc ++ [y]) (T1.set b (.lst (acc.map .d ++ [.d y]))) q (by simp [l1]) (by simp [bl]) (by rw [List.getElem?_set_ne (by omega)]; exact g1) (by simp; omega)
    refine ⟨y :: ys, q', T2, by simp [ly], fun z hz => ?_, l2, by simpa using g2, g3, fun m hm hb => ?_, ?_⟩
    · rcases List.mem_cons.mp hz with rfl | hz
      · exact py
      · exact pys z hz
    · rw [o2 m hm hb, List.getElem?_set_ne (by omega), u1.oth m hm]
    · unfold lcL
      have hm : acc.length < most := Nat.lt_of_lt_of_le (show acc.length < 1000 by omega) (by decide)
      simp only [gNm_ap, put_ap, tYs_ap, noX_ok, Res.bind_ok, if_true, e1, gb, lcPut, List.length_map, hm]
      exact e2
theorem lcAll_draws {i j : Nat} {vs : List Nat} {v : Env} {te : Fr → Sto → Res SV} {P : Dv → Prop} {S : Sto} {p : Po} {xs : List SV} (hS : S[i]? = some p.l) (hl : xs.length ≤ 1000)
    (hte : ∀ (x : SV) (T : Sto) (p : Po), T[i]? = some p.l → ∃ (y : Dv) (q : Po) (T' : Sto), P y ∧ T'[i]? = some q.l ∧ Up1 i T T' ∧ te ⟨S.length, (wipeE v vs).set j (some x)⟩ T = .ok (.d y) T') :
    ∃ (ys : List Dv) (q : Po) (S' : Sto), ys.length = xs.length ∧ (∀ y ∈ ys, P y) ∧ S'[i]? = some q.l ∧ Up1 i S S' ∧ lcAll fin vs (gNm j) tYs te v xs S = .ok (.d (.lst ys)) S' := by
  have hi : i < S.length := (List.getElem?_eq_some_iff.mp hS).1
  obtain ⟨ys, q, T, ly, py, l2, g2, g3, o2, e2⟩ := lcL_draws hi hte xs [] (S ++ [.lst []]) p (by simp) (by simp) (by rw [List.getElem?_append_left hi]; exact hS) (by simpa using hl)
  have hf := freeze_lst (xs := ys) (by simpa using g2)
  have tk : ∀ m, m < S.length → ((T.set S.length (.frz (.lst ys))).take S.length)[m]? = T[m]? := fun m hm => by
    rw [List.getElem?_take, if_pos hm, List.getElem?_set_ne (by omega)]
  refine ⟨ys, q, (T.set S.length (.frz (.lst ys))).take S.length, ly, py, by rw [tk i hi]; exact g3, ⟨by simp [l2], fun m hm => ?_⟩, ?_⟩
  · by_cases hb : m < S.length
    · rw [tk m hb, o2 m hm hb, List.getElem?_append_left hb]
    · rw [List.getElem?_eq_none_iff.mpr (by simp [l2]; omega), List.getElem?_eq_none_iff.mpr (by omega)]
  · unfold lcAll
    rw [e2]
    unfold fin
    simp only [hf]
end Ev

set_option Elab.async false
set_option linter.all false
set_option maxRecDepth 100000
namespace Lw
open PySem L2 Ev
def H28_0 (c : Nat → Nat → List SV → Sto → Res SV) (ex : Exc) : Fr → Sto → SRes :=
   sSeq (sIf (tV (eXi 1 ex (okF [(1, false), (4, true)]))) (sRet (eC (.bl false))) (sNil))
    (sRet (eAn (eXi 1 ex (okF [(1, true), (4, true)])) (eAn (eXi 1 ex (okF [(1, true), (4, true)])) (eCall (c 18) (aCons (eXf 1 ex [1] "name") (aCons (eVar 0) (aNil)))))))
def H29_0 (c : Nat → Nat → List SV → Sto → Res SV) (ex : Exc) : Fr → Sto → SRes :=
   sSeq (sIf (tV (eXi 3 ex (okF [(1, true), (4, false)]))) (sRet (eC (.bl false))) (sNil))
    (sRet (eAn (eXi 3 ex (okF [(1, true), (4, true)])) (eAn (eXi 3 ex (okF [(1, true), (4, true)])) (eCall (c 18) (aCons (eXf 3 ex [4] "kind") (aCons (eVar 0) (aNil)))))))
def H30_0 (c : Nat → Nat → List SV → Sto → Res SV) (ex : Exc) : Fr → Sto → SRes :=
   sSet 3 (eOp opAdd (eVar 3) (eBi biInt (aCons (eXi 4 ex (okF [(1, false), (4, true)])) (aNil))))
def H30_1 (c : Nat → Nat → List SV → Sto → Res SV) (ex : Exc) : Fr → Sto → SRes :=
   sSet 3 (eOp opAdd (eVar 3) (eBi biInt (aCons (eXi 4 ex (okF [(1, true), (4, false)])) (aNil))))
def L7_0 (c : Nat → Nat → List SV → Sto → Res SV) : Fr → Sto → SRes :=
   sIf (tAn (tV (eOp opNotIn (eVar 1) (eC (.str "abcdefghijklmnopqrstuvwxyz")))) (tV (eOp opNotIn (eVar 1) (eC (.str "0123456789"))))) (sRet (eC (.bl false))) (sNil)
def L13_0 (c : Nat → Nat → List SV → Sto → Res SV) : Fr → Sto → SRes :=
   sIf (tV (eOp opNotIn (eVar 4) (eVar 3))) (sExpr (eMut muAppend (eVar 3) (aCons (eVar 4) (aNil)))) (sNil)
def E14_0 (c : Nat → Nat → List SV → Sto → Res SV) : FE :=
   eTup (aCons (eOp opAdd (eLst (aCons (eVar 1) (aNil))) (eVar 2)) (aCons (eVar 3) (aNil)))
def L18_0 (c : Nat → Nat → List SV → Sto → Res SV) : Fr → Sto → SRes :=
   sIf (tNo (tV (eCall (c 18) (aCons (eOpS opIx (eVar 0) (eVar 2)) (aCons (eOpS opIx (eVar 1) (eVar 2)) (aNil)))))) (sRet (eC (.bl false))) (sNil)
def L19_0 (c : Nat → Nat → List SV → Sto → Res SV) : Fr → Sto → SRes :=
   sSet 5 (eOp opAdd (eVar 5) (eOpS opIx (eVar 3) (eCall (c 17) (aCons (eVar 0) (aCons (eC (.int 36)) (aNil))))))
def L23_0 (c : Nat → Nat → List SV → Sto → Res SV) : Fr → Sto → SRes :=
   sSeq (sSet 4 (eTup (aCons (eC (.str "word")) (aCons (eOpS opIx (eVar 1) (eCall (c 17) (aCons (eVar 0) (aCons (eBi biLen (aCons (eVar 1) (aNil))) (aNil))))) (aNil)))))
    (sSeq (sSet 5 (eCall (c 17) (aCons (eVar 0) (aCons (eC (.int 4)) (aNil)))))
    (sIf (tV (eOp opEq (eVar 5) (eC (.int 0)))) (sSet 2 (eTup (aCons (eC (.str "menu")) (aCons (eVar 2) (aCons (eVar 4) (aNil)))))) (sIf (tV (eOp opEq (eVar 5) (eC (.int 1)))) (sSet 2 (eTup (aCons (eC (.str "menu")) (aCons (eVar 4) (aCons (eVar 2) (aNil)))))) (sIf (tV (eOp opEq (eVar 5) (eC (.int 2)))) (sSet 2 (eTup (aCons (eC (.str "trade")) (aCons (eCall (c 21) (aCons (eVar 0) (aNil))) (aCons (eVar 2) (aCons (eVar 4) (aNil))))))) (sSet 2 (eTup (aCons (eC (.str "trade")) (aCons (eCall (c 21) (aCons (eVar 0) (aNil))) (aCons (eVar 4) (aCons (eVar 2) (aNil)))))))))))
def L24_0 (c : Nat → Nat → List SV → Sto → Res SV) : Fr → Sto → SRes :=
   sSeq (sSet 3 (eMut muPop (eVar 2) aNil))
    (sSeq (sSet 4 (eOpS opIx (eVar 3) (eC (.int 1))))
    (sIf (tV (eOp opEq (eOpS opIx (eVar 4) (eC (.int 0))) (eC (.str "word")))) (sExpr (eMut muAppend (eVar 1) (aCons (eTup (aCons (eOpS opIx (eVar 3) (eC (.int 0))) (aCons (eOpS opIx (eVar 4) (eC (.int 1))) (aNil)))) (aNil)))) (sIf (tV (eOp opEq (eOpS opIx (eVar 4) (eC (.int 0))) (eC (.str "menu")))) (sSeq (sExpr (eMut muAppend (eVar 2) (aCons (eTup (aCons (eBi biList (aCons (eOpS opIx (eVar 3) (eC (.int 0))) (aNil))) (aCons (eOpS opIx (eVar 4) (eC (.int 2))) (aNil)))) (aNil))))
    (sExpr (eMut muAppend (eVar 2) (aCons (eTup (aCons (eBi biList (aCons (eOpS opIx (eVar 3) (eC (.int 0))) (aNil))) (aCons (eOpS opIx (eVar 4) (eC (.int 1))) (aNil)))) (aNil))))) (sExpr (eMut muAppend (eVar 2) (aCons (eTup (aCons (eOp opAdd (eOpS opIx (eVar 3) (eC (.int 0))) (eLst (aCons (eTup (aCons (eOpS opIx (eVar 4) (eC (.int 1))) (aCons (eOpS opIx (eVar 4) (eC (.int 2))) (aNil)))) (aNil)))) (aCons (eOpS opIx (eVar 4) (eC (.int 3))) (aNil)))) (aNil)))))))
def T24_0 (c : Nat → Nat → List SV → Sto → Res SV) : Fr → Sto → Res Bool :=
   tTr (eVar 2)
def L25_0 (c : Nat → Nat → List SV → Sto → Res SV) : Fr → Sto → SRes :=
   sSeq (sSet 3 (eMut muPop (eVar 2) aNil))
    (sIf (tV (eOp opEq (eOpS opIx (eVar 3) (eC (.int 0))) (eC (.str "word")))) (sExpr (eMut muAppend (eVar 1) (aCons (eOpS opIx (eVar 3) (eC (.int 1))) (aNil)))) (sSeq (sExpr (eMut muAppend (eVar 2) (aCons (eOpS opIx (eVar 3) (eNeg (eC (.int 1)))) (aNil))))
    (sExpr (eMut muAppend (eVar 2) (aCons (eOpS opIx (eVar 3) (eNeg (eC (.int 2)))) (aNil))))))
def T25_0 (c : Nat → Nat → List SV → Sto → Res SV) : Fr → Sto → Res Bool :=
   tTr (eVar 2)
def L26_0 (c : Nat → Nat → List SV → Sto → Res SV) : Fr → Sto → SRes :=
   sSeq (sSet 9 (eOpS opIx (eVar 8) (eC (.int 0))))
    (sExpr (eMut muAppend (eVar 9) (aCons (eTup (aCons (eC (.str "once")) (aCons (eVar 0) (aNil)))) (aNil))))
def L26_1 (c : Nat → Nat → List SV → Sto → Res SV) : Fr → Sto → SRes :=
   sIf (tV (eOp opNotIn (eVar 4) (eVar 3))) (sExpr (eMut muAppend (eVar 3) (aCons (eVar 4) (aNil)))) (sNil)
def L31_0 (c : Nat → Nat → List SV → Sto → Res SV) : Fr → Sto → SRes :=
   sIf (tNo (tV (eCall (c 29) (aCons (eVar 10) (aCons (eVar 4) (aCons (eVar 5) (aNil))))))) (sRet (eC (.bl false))) (sNil)
def L31_1 (c : Nat → Nat → List SV → Sto → Res SV) : Fr → Sto → SRes :=
   sIf (tOrr (tNo (tV (eCall (c 26) (aCons (eVar 7) (aNil))))) (tNo (tV (eCall (c 18) (aCons (eCall (c 27) (aCons (eVar 7) (aNil))) (aCons (eVar 7) (aNil))))))) (sRet (eC (.bl false))) (sNil)
def L31_2 (c : Nat → Nat → List SV → Sto → Res SV) : Fr → Sto → SRes :=
   sExpr (eMut muAppend (eVar 2) (aCons (eCall (c 19) (aCons (eVar 1) (aCons (eVar 2) (aNil)))) (aNil)))
def E32_0 (c : Nat → Nat → List SV → Sto → Res SV) : FE :=
   eTupM (aCons (eCatM (eLstM (aCons (eVar 1) (aNil))) (eVar 2)) (aCons (eVar 3) (aNil)))
def B5 (c : Nat → Nat → List SV → Sto → Res SV) : Fr → Sto → SRes :=
  -- is_number ['value']
   sRet (eAn (eIsi anInt (eVar 0)) (eNo (eIsi anBool (eVar 0))))
def B6 (c : Nat → Nat → List SV → Sto → Res SV) : Fr → Sto → SRes :=
  -- is_kind ['value']
   sSeq (sIf (tV (eIsi anStr (eVar 0))) (sRet (eOp opEq (eVar 0) (eC (.str "once")))) (sNil))
    (sSeq (sIf (tOrr (tNo (tV (eIsi anTup (eVar 0)))) (tV (eOp opNe (eBi biLen (aCons (eVar 0) (aNil))) (eC (.int 2))))) (sRet (eC (.bl false))) (sNil))
    (sSeq (sIf (tOrr (tNo (tV (eCall (c 5) (aCons (eOpS opIx (eVar 0) (eC (.int 0))) (aNil))))) (tNo (tV (eCall (c 5) (aCons (eOpS opIx (eVar 0) (eC (.int 1))) (aNil)))))) (sRet (eC (.bl false))) (sNil))
    (sRet (eAn (eOp opGe (eOpS opIx (eVar 0) (eC (.int 0))) (eC (.int 1))) (eOp opGe (eOpS opIx (eVar 0) (eC (.int 1))) (eC (.int 0)))))))
def B7 (c : Nat → Nat → List SV → Sto → Res SV) : Fr → Sto → SRes :=
  -- is_name ['text', 'char']
   sSeq (sIf (tOrr (tNo (tV (eChain opLe opLe (eC (.int 1)) (eBi biLen (aCons (eVar 0) (aNil))) (eC (.int 12))))) (tV (eOp opNotIn (eOpS opIx (eVar 0) (eC (.int 0))) (eC (.str "abcdefghijklmnopqrstuvwxyz"))))) (sRet (eC (.bl false))) (sNil))
    (sSeq (sForT (eVar 0) (gNm 1) (L7_0 c))
    (sRet (eC (.bl true))))
def B8 (c : Nat → Nat → List SV → Sto → Res SV) : Fr → Sto → SRes :=
  -- word ['name']
   sSeq (sIf (tNo (tV (eCall (c 7) (aCons (eVar 0) (aNil))))) (sRaise 1 ["name"] (aCons (eVar 0) (aNil))) (sNil))
    (sRet (eTup (aCons (eC (.str "word")) (aCons (eVar 0) (aNil)))))
def B9 (c : Nat → Nat → List SV → Sto → Res SV) : Fr → Sto → SRes :=
  -- menu ['left', 'right']
   sRet (eTup (aCons (eC (.str "menu")) (aCons (eVar 0) (aCons (eVar 1) (aNil)))))
def B10 (c : Nat → Nat → List SV → Sto → Res SV) : Fr → Sto → SRes :=
  -- trade ['price', 'goods', 'kind']
   sSeq (sIf (tNo (tV (eCall (c 6) (aCons (eVar 2) (aNil))))) (sRaise 4 ["kind"] (aCons (eVar 2) (aNil))) (sNil))
    (sRet (eTup (aCons (eC (.str "trade")) (aCons (eVar 2) (aCons (eVar 0) (aCons (eVar 1) (aNil)))))))
def B11 (c : Nat → Nat → List SV → Sto → Res SV) : Fr → Sto → SRes :=
  -- sides ['sentence']
   sSeq (sIf (tV (eOp opEq (eOpS opIx (eVar 0) (eC (.int 0))) (eC (.str "word")))) (sRet (eLst (aNil))) (sNil))
    (sSeq (sIf (tV (eOp opEq (eOpS opIx (eVar 0) (eC (.int 0))) (eC (.str "menu")))) (sRet (eLst (aCons (eOpS opIx (eVar 0) (eC (.int 1))) (aCons (eOpS opIx (eVar 0) (eC (.int 2))) (aNil))))) (sNil))
    (sRet (eLst (aCons (eOpS opIx (eVar 0) (eC (.int 2))) (aCons (eOpS opIx (eVar 0) (eC (.int 3))) (aNil))))))
def B12 (c : Nat → Nat → List SV → Sto → Res SV) : Fr → Sto → SRes :=
  -- size ['sentence', 'left', 'right']
   sSeq (sIf (tV (eOp opEq (eOpS opIx (eVar 0) (eC (.int 0))) (eC (.str "word")))) (sRet (eC (.int 1))) (sNil))
    (sSeq (sAsg (eCall (c 11) (aCons (eVar 0) (aNil))) (gUl 2 [gNm 1, gNm 2]))
    (sRet (eOp opAdd (eCall (c 12) (aCons (eVar 1) (aNil))) (eCall (c 12) (aCons (eVar 2) (aNil))))))
def B13 (c : Nat → Nat → List SV → Sto → Res SV) : Fr → Sto → SRes :=
  -- words_in ['sentence', 'left', 'right', 'names', 'name']
   sSeq (sIf (tV (eOp opEq (eOpS opIx (eVar 0) (eC (.int 0))) (eC (.str "word")))) (sRet (eLstM (aCons (eOpS opIx (eVar 0) (eC (.int 1))) (aNil)))) (sNil))
    (sSeq (sAsg (eCall (c 11) (aCons (eVar 0) (aNil))) (gUl 2 [gNm 1, gNm 2]))
    (sSeq (sSet 3 (eCallK (c 13) (aCons (eVar 1) (aNil))))
    (sSeq (sFor (eCall (c 13) (aCons (eVar 2) (aNil))) (gNm 4) (L13_0 c))
    (sRet (eVar 3)))))
def B14 (c : Nat → Nat → List SV → Sto → Res SV) : Fr → Sto → SRes :=
  -- legs ['sentence', 'price', 'prices', 'name']
   sSeq (sIf (tV (eOp opEq (eOpS opIx (eVar 0) (eC (.int 0))) (eC (.str "word")))) (sRet (eLst (aCons (eTup (aCons (eLst (aNil)) (aCons (eOpS opIx (eVar 0) (eC (.int 1))) (aNil)))) (aNil)))) (sNil))
    (sSeq (sIf (tV (eOp opEq (eOpS opIx (eVar 0) (eC (.int 0))) (eC (.str "menu")))) (sRet (eOp opAdd (eCall (c 14) (aCons (eOpS opIx (eVar 0) (eC (.int 1))) (aNil))) (eCall (c 14) (aCons (eOpS opIx (eVar 0) (eC (.int 2))) (aNil))))) (sNil))
    (sSeq (sSet 1 (eTup (aCons (eOpS opIx (eVar 0) (eC (.int 1))) (aCons (eOpS opIx (eVar 0) (eC (.int 2))) (aNil)))))
    (sRet (eLc [2, 3] (eCall (c 14) (aCons (eOpS opIx (eVar 0) (eC (.int 3))) (aNil))) (gUn 2 [gNm 2, gNm 3]) (tYs) (E14_0 c)))))
def B15 (c : Nat → Nat → List SV → Sto → Res SV) : Fr → Sto → SRes :=
  -- _law_cell ['_law_script', '_law_k']
   sSeq (sIf (tV (eOp opLt (eVar 1) (eBi biLen (aCons (eVar 0) (aNil))))) (sRet (eBi biAbs (aCons (eOpS opIx (eVar 0) (eVar 1)) (aNil)))) (sNil))
    (sRet (eC (.int 0)))
def B16 (c : Nat → Nat → List SV → Sto → Res SV) : Fr → Sto → SRes :=
  -- _law_pool ['_law_script', '_law_k', '_law_cell_here']
   sSeq (sSet 2 (eCall (c 15) (aCons (eVar 0) (aCons (eVar 1) (aNil)))))
    (sSeq (sIf (tV (eOp opGe (eVar 2) (eOp opPow (eC (.int 10)) (eC (.int 18))))) (sRet (eLstM (aCons (eVar 2) (aCons (eC (.int 0)) (aCons (eOp opMod (eBi biInt (aCons (eVar 2) (aNil))) (eC (.int 1000003))) (aNil)))))) (sNil))
    (sRet (eLstM (aCons (eC (.int 0)) (aCons (eC (.int 0)) (aCons (eVar 2) (aNil)))))))
def B17 (c : Nat → Nat → List SV → Sto → Res SV) : Fr → Sto → SRes :=
  -- _law_next ['_law_pool_here', '_law_many', '_law_digit', '_law_mixed']
   sSeq (sIf (tV (eOp opGt (eOpS opIx (eVar 0) (eC (.int 0))) (eC (.int 0)))) (sSeq (sSet 2 (eOp opMod (eBi biInt (aCons (eOpS opIx (eVar 0) (eC (.int 0))) (aNil))) (eVar 1)))
    (sSeq (sSub (eVar 0) (eC (.int 0)) (eOp opDiv (eOpS opIx (eVar 0) (eC (.int 0))) (eVar 1)))
    (sRet (eVar 2)))) (sNil))
    (sSeq (sSub (eVar 0) (eC (.int 1)) (eOp opAdd (eOpS opIx (eVar 0) (eC (.int 1))) (eC (.int 1))))
    (sSeq (sSet 3 (eOp opMod (eBi biInt (aCons (eOp opAdd (eOp opAdd (eOpS opIx (eVar 0) (eC (.int 2))) (eOp opMul (eC (.int 7919)) (eOpS opIx (eVar 0) (eC (.int 1))))) (eC (.int 13))) (aNil))) (eC (.int 2147483647))))
    (sSeq (sSet 3 (eOp opMod (eBi biInt (aCons (eOp opMul (eVar 3) (eOp opAdd (eVar 3) (eC (.int 48271)))) (aNil))) (eC (.int 2147483629))))
    (sSeq (sSet 3 (eOp opMod (eBi biInt (aCons (eOp opAdd (eOp opMul (eVar 3) (eOp opAdd (eVar 3) (eC (.int 69621)))) (eOp opMul (eC (.int 31)) (eOpS opIx (eVar 0) (eC (.int 1))))) (aNil))) (eC (.int 2147483647))))
    (sRet (eOp opMod (eBi biInt (aCons (eOp opDiv (eVar 3) (eC (.int 9))) (aNil))) (eVar 1)))))))
def B18 (c : Nat → Nat → List SV → Sto → Res SV) : Fr → Sto → SRes :=
  -- _law_same ['_law_told', '_law_due', '_law_k']
   sSeq (sIf (tV (eOp opIsN (eVar 1) (eC .non))) (sRet (eOp opIsN (eVar 0) (eC .non))) (sNil))
    (sSeq (sIf (tV (eIsi anBool (eVar 1))) (sRet (eAn (eIsi anBool (eVar 0)) (eOp opEq (eVar 0) (eVar 1)))) (sNil))
    (sSeq (sIf (tV (eIsi anInt (eVar 1))) (sRet (eAn (eIsi anInt (eVar 0)) (eAn (eNo (eIsi anBool (eVar 0))) (eOp opEq (eVar 0) (eVar 1))))) (sNil))
    (sSeq (sIf (tV (eIsi anStr (eVar 1))) (sRet (eAn (eIsi anStr (eVar 0)) (eOp opEq (eVar 0) (eVar 1)))) (sNil))
    (sSeq (sIf (tAn (tV (eIsi anLst (eVar 1))) (tNo (tV (eIsi anLst (eVar 0))))) (sRet (eC (.bl false))) (sNil))
    (sSeq (sIf (tAn (tV (eIsi anTup (eVar 1))) (tNo (tV (eIsi anTup (eVar 0))))) (sRet (eC (.bl false))) (sNil))
    (sSeq (sIf (tV (eOp opNe (eBi biLen (aCons (eVar 0) (aNil))) (eBi biLen (aCons (eVar 1) (aNil))))) (sRet (eC (.bl false))) (sNil))
    (sSeq (sForR (aCons (eBi biLen (aCons (eVar 1) (aNil))) (aNil)) (gNm 2) (L18_0 c))
    (sRet (eC (.bl true))))))))))
def B19 (c : Nat → Nat → List SV → Sto → Res SV) : Fr → Sto → SRes :=
  -- _law_name ['_law_pool_here', '_law_names', '_law_letters', '_law_signs', '_law_pick', '_law_name_here', '_law_at', '_law_k']
   sSeq (sSet 2 (eC (.str "abcdefghijklmnopqrstuvwxyz")))
    (sSeq (sSet 3 (eOp opAdd (eVar 2) (eC (.str "0123456789"))))
    (sSeq (sSet 4 (eCall (c 17) (aCons (eVar 0) (aCons (eC (.int 6)) (aNil)))))
    (sSeq (sIf (tAn (tTr (eVar 1)) (tV (eOp opLt (eVar 4) (eC (.int 3))))) (sSeq (sSet 5 (eOpS opIx (eVar 1) (eCall (c 17) (aCons (eVar 0) (aCons (eBi biLen (aCons (eVar 1) (aNil))) (aNil))))))
    (sSeq (sSet 6 (eCall (c 17) (aCons (eVar 0) (aCons (eBi biLen (aCons (eVar 5) (aNil))) (aNil)))))
    (sSeq (sIf (tV (eOp opEq (eVar 4) (eC (.int 0)))) (sRet (eOp opAdd (eOp opAdd (eSl (eVar 5) oNo (oSo (eVar 6))) (eOpS opIx (eVar 2) (eCall (c 17) (aCons (eVar 0) (aCons (eC (.int 26)) (aNil)))))) (eSl (eVar 5) (oSo (eOp opAdd (eVar 6) (eC (.int 1)))) oNo))) (sNil))
    (sSeq (sIf (tAn (tV (eOp opEq (eVar 4) (eC (.int 1)))) (tV (eOp opLt (eBi biLen (aCons (eVar 5) (aNil))) (eC (.int 12))))) (sRet (eOp opAdd (eVar 5) (eOpS opIx (eVar 3) (eCall (c 17) (aCons (eVar 0) (aCons (eC (.int 36)) (aNil))))))) (sNil))
    (sRet (eSl (eVar 5) oNo (oSo (eBi biMax (aCons (eC (.int 1)) (aCons (eVar 6) (aNil))))))))))) (sNil))
    (sSeq (sSet 5 (eOpS opIx (eVar 2) (eCall (c 17) (aCons (eVar 0) (aCons (eC (.int 26)) (aNil))))))
    (sSeq (sForR (aCons (eOpS opIx (eLst (aCons (eC (.int 0)) (aCons (eC (.int 0)) (aCons (eC (.int 1)) (aCons (eC (.int 2)) (aCons (eC (.int 5)) (aCons (eC (.int 11)) (aNil)))))))) (eCall (c 17) (aCons (eVar 0) (aCons (eC (.int 6)) (aNil))))) (aNil)) (gNm 7) (L19_0 c))
    (sRet (eVar 5)))))))
def B20 (c : Nat → Nat → List SV → Sto → Res SV) : Fr → Sto → SRes :=
  -- _law_bad_name ['_law_pool_here', '_law_name_here', '_law_marks', '_law_pick', '_law_at', '_law_mark']
   sSeq (sSet 2 (eC (.str " !\"#$&'()*+,-./:;<=>?@ABCDEFGHIJKLMNOPQRSTUVWXYZ[\\]^_`{|}~")))
    (sSeq (sSet 3 (eCall (c 17) (aCons (eVar 0) (aCons (eC (.int 5)) (aNil)))))
    (sSeq (sSet 4 (eCall (c 17) (aCons (eVar 0) (aCons (eBi biLen (aCons (eVar 1) (aNil))) (aNil)))))
    (sSeq (sSet 5 (eOpS opIx (eVar 2) (eCall (c 17) (aCons (eVar 0) (aCons (eBi biLen (aCons (eVar 2) (aNil))) (aNil))))))
    (sSeq (sIf (tV (eOp opEq (eVar 3) (eC (.int 0)))) (sRet (eC (.str ""))) (sNil))
    (sSeq (sIf (tV (eOp opEq (eVar 3) (eC (.int 1)))) (sRet (eOp opAdd (eBi biStr (aCons (eCall (c 17) (aCons (eVar 0) (aCons (eC (.int 10)) (aNil)))) (aNil))) (eSl (eVar 1) oNo (oSo (eC (.int 11)))))) (sNil))
    (sSeq (sIf (tV (eOp opEq (eVar 3) (eC (.int 2)))) (sRet (eSl (eOp opAdd (eVar 1) (eC (.str "a7k2z9b4c6d8e0f1"))) oNo (oSo (eOp opAdd (eC (.int 13)) (eCall (c 17) (aCons (eVar 0) (aCons (eC (.int 4)) (aNil)))))))) (sNil))
    (sSeq (sIf (tV (eOp opEq (eVar 3) (eC (.int 3)))) (sRet (eOp opAdd (eOp opAdd (eSl (eVar 1) oNo (oSo (eVar 4))) (eVar 5)) (eSl (eVar 1) (oSo (eOp opAdd (eVar 4) (eC (.int 1)))) oNo))) (sNil))
    (sRet (eOp opAdd (eOp opAdd (eSl (eVar 1) oNo (oSo (eVar 4))) (eVar 5)) (eSl (eVar 1) (oSo (eVar 4)) oNo))))))))))
def B21 (c : Nat → Nat → List SV → Sto → Res SV) : Fr → Sto → SRes :=
  -- _law_mode ['_law_pool_here']
   sSeq (sIf (tV (eOp opEq (eCall (c 17) (aCons (eVar 0) (aCons (eC (.int 2)) (aNil)))) (eC (.int 0)))) (sRet (eC (.str "once"))) (sNil))
    (sRet (eTup (aCons (eOp opAdd (eC (.int 1)) (eCall (c 17) (aCons (eVar 0) (aCons (eC (.int 50)) (aNil))))) (aCons (eCall (c 17) (aCons (eVar 0) (aCons (eC (.int 51)) (aNil)))) (aNil)))))
def B22 (c : Nat → Nat → List SV → Sto → Res SV) : Fr → Sto → SRes :=
  -- _law_deep ['_law_pool_here', '_law_names', '_law_depth', '_law_pick', '_law_one', '_law_two']
   sSeq (sSet 3 (eCall (c 17) (aCons (eVar 0) (aCons (eC (.int 7)) (aNil)))))
    (sSeq (sIf (tOrr (tV (eOp opLe (eVar 2) (eC (.int 0)))) (tV (eOp opEq (eVar 3) (eC (.int 0))))) (sRet (eTup (aCons (eC (.str "word")) (aCons (eOpS opIx (eVar 1) (eCall (c 17) (aCons (eVar 0) (aCons (eBi biLen (aCons (eVar 1) (aNil))) (aNil))))) (aNil))))) (sNil))
    (sSeq (sSet 4 (eCall (c 22) (aCons (eVar 0) (aCons (eVar 1) (aCons (eOp opSub (eVar 2) (eC (.int 1))) (aNil))))))
    (sSeq (sSet 5 (eCall (c 22) (aCons (eVar 0) (aCons (eVar 1) (aCons (eOp opSub (eVar 2) (eC (.int 1))) (aNil))))))
    (sSeq (sIf (tV (eOp opLt (eVar 3) (eC (.int 4)))) (sRet (eTup (aCons (eC (.str "menu")) (aCons (eVar 4) (aCons (eVar 5) (aNil)))))) (sNil))
    (sRet (eTup (aCons (eC (.str "trade")) (aCons (eCall (c 21) (aCons (eVar 0) (aNil))) (aCons (eVar 4) (aCons (eVar 5) (aNil)))))))))))
def B23 (c : Nat → Nat → List SV → Sto → Res SV) : Fr → Sto → SRes :=
  -- _law_sentence ['_law_pool_here', '_law_names', '_law_sentence_here', '_law_k', '_law_other', '_law_pick']
   sSeq (sIf (tV (eOp opGt (eCall (c 17) (aCons (eVar 0) (aCons (eC (.int 4)) (aNil)))) (eC (.int 0)))) (sRet (eCall (c 22) (aCons (eVar 0) (aCons (eVar 1) (aCons (eCall (c 17) (aCons (eVar 0) (aCons (eC (.int 5)) (aNil)))) (aNil)))))) (sNil))
    (sSeq (sSet 2 (eTup (aCons (eC (.str "word")) (aCons (eOpS opIx (eVar 1) (eC (.int 0))) (aNil)))))
    (sSeq (sForR (aCons (eOp opAdd (eC (.int 1)) (eCall (c 17) (aCons (eVar 0) (aCons (eC (.int 18)) (aNil))))) (aNil)) (gNm 3) (L23_0 c))
    (sRet (eVar 2))))
def B24 (c : Nat → Nat → List SV → Sto → Res SV) : Fr → Sto → SRes :=
  -- _law_legs ['_law_sentence_here', '_law_found', '_law_left', '_law_row', '_law_one']
   sSeq (sSet 1 (eLstM (aNil)))
    (sSeq (sSet 2 (eLstM (aCons (eTup (aCons (eLst (aNil)) (aCons (eVar 0) (aNil)))) (aNil))))
    (sSeq (sWhile 1000000 (T24_0 c) (L24_0 c))
    (sRet (eVar 1))))
def B25 (c : Nat → Nat → List SV → Sto → Res SV) : Fr → Sto → SRes :=
  -- _law_words ['_law_sentence_here', '_law_found', '_law_left', '_law_one']
   sSeq (sSet 1 (eLstM (aNil)))
    (sSeq (sSet 2 (eLstM (aCons (eVar 0) (aNil))))
    (sSeq (sWhile 1000000 (T25_0 c) (L25_0 c))
    (sRet (eVar 1))))
def B26 (c : Nat → Nat → List SV → Sto → Res SV) : Fr → Sto → SRes :=
  -- _law_tells ['_law_sentence_here', '_law_due', '_law_names', '_law_unlike', '_law_name_here', '_law_told', '_law_listed', '_law_lead', '_law_row', '_law_prices']
   sSeq (sSet 1 (eCall (c 24) (aCons (eVar 0) (aNil))))
    (sSeq (sSet 2 (eCall (c 25) (aCons (eVar 0) (aNil))))
    (sSeq (sSet 3 (eLstM (aNil)))
    (sSeq (sFor (eVar 2) (gNm 4) (L26_1 c))
    (sSeq (sSet 5 (eCallK (c 32) (aCons (eVar 0) (aNil))))
    (sSeq (sSet 6 (eCallK (c 13) (aCons (eVar 0) (aNil))))
    (sSeq (sIf (tOrr (tNo (tV (eCall (c 18) (aCons (eVar 5) (aCons (eVar 1) (aNil)))))) (tOrr (tNo (tV (eCall (c 18) (aCons (eVar 6) (aCons (eVar 3) (aNil)))))) (tNo (tV (eCall (c 18) (aCons (eCall (c 12) (aCons (eVar 0) (aNil))) (aCons (eBi biLen (aCons (eVar 2) (aNil))) (aNil)))))))) (sRet (eC (.bl false))) (sNil))
    (sSeq (sSet 7 (eOpS opIx (eOpS opIx (eVar 5) (eC (.int 0))) (eC (.int 0))))
    (sSeq (sExpr (eMut muAppend (eVar 7) (aCons (eTup (aCons (eC (.str "once")) (aCons (eVar 0) (aNil)))) (aNil))))
    (sSeq (sIf (tNo (tV (eCall (c 18) (aCons (eSlM (eVar 5) (oSo (eC (.int 1))) oNo) (aCons (eSl (eVar 1) (oSo (eC (.int 1))) oNo) (aNil)))))) (sRet (eC (.bl false))) (sNil))
    (sSeq (sForM 1000000 (eVar 5) (gNm 8) (L26_0 c))
    (sSeq (sExpr (eMut muAppend (eVar 5) (aCons (eTup (aCons (eLst (aNil)) (aCons (eC (.str "spoilt")) (aNil)))) (aNil))))
    (sSeq (sExpr (eMut muInsert (eVar 6) (aCons (eC (.int 0)) (aCons (eC (.str "spoilt")) (aNil)))))
    (sSeq (sIf (tOrr (tNo (tV (eCall (c 18) (aCons (eCall (c 14) (aCons (eVar 0) (aNil))) (aCons (eVar 1) (aNil)))))) (tNo (tV (eCall (c 18) (aCons (eCall (c 13) (aCons (eVar 0) (aNil))) (aCons (eVar 3) (aNil))))))) (sRet (eC (.bl false))) (sNil))
    (sRet (eCall (c 18) (aCons (eCall (c 12) (aCons (eVar 0) (aNil))) (aCons (eBi biLen (aCons (eVar 2) (aNil))) (aNil))))))))))))))))))
def B27 (c : Nat → Nat → List SV → Sto → Res SV) : Fr → Sto → SRes :=
  -- _law_through ['_law_sentence_here', '_law_one', '_law_two']
   sSeq (sIf (tV (eOp opEq (eOpS opIx (eVar 0) (eC (.int 0))) (eC (.str "word")))) (sRet (eCall (c 8) (aCons (eOpS opIx (eVar 0) (eC (.int 1))) (aNil)))) (sNil))
    (sSeq (sSet 1 (eCall (c 27) (aCons (eOpS opIx (eVar 0) (eNeg (eC (.int 2)))) (aNil))))
    (sSeq (sSet 2 (eCall (c 27) (aCons (eOpS opIx (eVar 0) (eNeg (eC (.int 1)))) (aNil))))
    (sSeq (sIf (tV (eOp opEq (eOpS opIx (eVar 0) (eC (.int 0))) (eC (.str "menu")))) (sRet (eCall (c 9) (aCons (eVar 1) (aCons (eVar 2) (aNil))))) (sNil))
    (sSeq (sIf (tV (eOp opEq (eOpS opIx (eVar 0) (eC (.int 1))) (eC (.str "once")))) (sRet (eCallD (c 10) [.str "once"] (aCons (eVar 1) (aCons (eVar 2) (aNil))))) (sNil))
    (sRet (eCallN (c 10) 2 1 (aCons (eVar 1) (aCons (eVar 2) (aNil))) (aCons (eOpS opIx (eVar 0) (eC (.int 1))) (aNil))))))))
def B28 (c : Nat → Nat → List SV → Sto → Res SV) : Fr → Sto → SRes :=
  -- _law_name_refused ['_law_name_here', 'e']
   sSeq (sTryAs (okF [(1, true), (4, false)]) 1 (sExpr (eCall (c 8) (aCons (eVar 0) (aNil)))) (H28_0 c))
    (sRet (eC (.bl false)))
def B29 (c : Nat → Nat → List SV → Sto → Res SV) : Fr → Sto → SRes :=
  -- _law_kind_refused ['_law_value', '_law_one', '_law_two', 'e']
   sSeq (sTryAs (okF [(1, false), (4, true)]) 3 (sExpr (eCallN (c 10) 2 1 (aCons (eVar 1) (aCons (eVar 2) (aNil))) (aCons (eVar 0) (aNil)))) (H29_0 c))
    (sRet (eC (.bl false)))
def B30 (c : Nat → Nat → List SV → Sto → Res SV) : Fr → Sto → SRes :=
  -- _law_refused_at_all ['_law_name_here', '_law_one', '_law_two', '_law_count', 'e']
   sSeq (sSet 3 (eC (.int 0)))
    (sSeq (sTryAs (okF [(1, true), (4, true)]) 4 (sExpr (eCall (c 8) (aCons (eVar 0) (aNil)))) (H30_1 c))
    (sSeq (sTryAs (okF [(1, true), (4, true)]) 4 (sExpr (eCallN (c 10) 2 1 (aCons (eVar 1) (aCons (eVar 2) (aNil))) (aCons (eVar 0) (aNil)))) (H30_0 c))
    (sRet (eOp opEq (eVar 3) (eC (.int 2))))))
def B31 (c : Nat → Nat → List SV → Sto → Res SV) : Fr → Sto → SRes :=
  -- law ['_law_script', '_law_pool_here', '_law_names', '_law_k', '_law_one', '_law_two', '_law_mode_here', '_law_sentence_here', '_law_bad', '_law_odd', '_law_value', '_law_long']
   sSeq (sSet 1 (eCallK (c 16) (aCons (eVar 0) (aCons (eC (.int 0)) (aNil)))))
    (sSeq (sSet 2 (eLstM (aNil)))
    (sSeq (sForR (aCons (eOp opAdd (eC (.int 1)) (eCall (c 17) (aCons (eVar 1) (aCons (eC (.int 4)) (aNil))))) (aNil)) (gNm 3) (L31_2 c))
    (sSeq (sSet 4 (eCall (c 23) (aCons (eVar 1) (aCons (eVar 2) (aNil)))))
    (sSeq (sSet 5 (eCall (c 23) (aCons (eVar 1) (aCons (eVar 2) (aNil)))))
    (sSeq (sSet 6 (eCall (c 21) (aCons (eVar 1) (aNil))))
    (sSeq (sFor (eLst (aCons (eVar 4) (aCons (eVar 5) (aCons (eTup (aCons (eC (.str "menu")) (aCons (eVar 4) (aCons (eVar 4) (aNil))))) (aCons (eTup (aCons (eC (.str "trade")) (aCons (eVar 6) (aCons (eVar 4) (aCons (eVar 5) (aNil)))))) (aCons (eVar 4) (aNil))))))) (gNm 7) (L31_1 c))
    (sSeq (sIf (tNo (tV (eCall (c 18) (aCons (eCallN (c 10) 2 1 (aCons (eVar 5) (aCons (eVar 4) (aNil))) (aCons (eC (.str "once")) (aNil))) (aCons (eTup (aCons (eC (.str "trade")) (aCons (eC (.str "once")) (aCons (eVar 5) (aCons (eVar 4) (aNil)))))) (aNil)))))) (sRet (eC (.bl false))) (sNil))
    (sSeq (sSet 8 (eCall (c 20) (aCons (eVar 1) (aCons (eOpS opIx (eVar 2) (eNeg (eC (.int 1)))) (aNil)))))
    (sSeq (sIf (tOrr (tNo (tV (eCall (c 28) (aCons (eVar 8) (aNil))))) (tNo (tV (eCall (c 30) (aCons (eVar 8) (aCons (eVar 4) (aCons (eVar 5) (aNil)))))))) (sRet (eC (.bl false))) (sNil))
    (sSeq (sSet 9 (eLst (aCons (eC .non) (aCons (eC (.int 0)) (aCons (eC (.bl true)) (aCons (eC (.str "")) (aCons (eC (.str "Once")) (aCons (eC (.str "once ")) (aCons (eTup (aNil)) (aCons (eLst (aNil)) (aCons (eTup (aCons (eC (.str "once")) (aNil))) (aCons (eTup (aCons (eC (.int 3)) (aNil))) (aCons (eTup (aCons (eC (.int 3)) (aCons (eC (.int 2)) (aCons (eC (.int 1)) (aNil))))) (aCons (eLst (aCons (eC (.int 3)) (aCons (eC (.int 2)) (aNil)))) (aCons (eTup (aCons (eC (.int 0)) (aCons (eC (.int 2)) (aNil)))) (aCons (eTup (aCons (eNeg (eC (.int 1))) (aCons (eC (.int 2)) (aNil)))) (aCons (eTup (aCons (eC (.int 3)) (aCons (eNeg (eC (.int 1))) (aNil)))) (aNil))))))))))))))))))
    (sSeq (sSet 9 (eOp opAdd (eVar 9) (eLst (aCons (eTup (aCons (eC (.bl true)) (aCons (eC (.int 2)) (aNil)))) (aCons (eTup (aCons (eC (.int 3)) (aCons (eC (.bl false)) (aNil)))) (aCons (eTup (aCons (eC (.str "3")) (aCons (eC (.int 2)) (aNil)))) (aCons (eTup (aCons (eC (.int 3)) (aCons (eC (.str "2")) (aNil)))) (aCons (eTup (aCons (eTup (aCons (eC (.int 3)) (aCons (eC (.int 2)) (aNil)))) (aCons (eC (.int 2)) (aNil)))) (aCons (eTup (aCons (eC .non) (aCons (eC (.int 2)) (aNil)))) (aNil))))))))))
    (sSeq (sFor (eVar 9) (gNm 10) (L31_0 c))
    (sSeq (sSet 11 (eSl (eOp opAdd (eOpS opIx (eVar 2) (eC (.int 0))) (eC (.str "b3c4d5e6f7g8"))) oNo (oSo (eC (.int 12)))))
    (sRet (eAn (eCall (c 18) (aCons (eCall (c 8) (aCons (eVar 11) (aNil))) (aCons (eTup (aCons (eC (.str "word")) (aCons (eVar 11) (aNil)))) (aNil)))) (eCall (c 18) (aCons (eCall (c 8) (aCons (eSl (eVar 11) oNo (oSo (eC (.int 1)))) (aNil))) (aCons (eTup (aCons (eC (.str "word")) (aCons (eSl (eVar 11) oNo (oSo (eC (.int 1)))) (aNil)))) (aNil)))))))))))))))))))
def B32 (c : Nat → Nat → List SV → Sto → Res SV) : Fr → Sto → SRes :=
  -- legs ['sentence', 'price', 'prices', 'name']
   sSeq (sIf (tV (eOp opEq (eOpS opIx (eVar 0) (eC (.int 0))) (eC (.str "word")))) (sRet (eLstM (aCons (eTupM (aCons (eLstM (aNil)) (aCons (eOpS opIx (eVar 0) (eC (.int 1))) (aNil)))) (aNil)))) (sNil))
    (sSeq (sIf (tV (eOp opEq (eOpS opIx (eVar 0) (eC (.int 0))) (eC (.str "menu")))) (sRet (eCatM (eCallK (c 32) (aCons (eOpS opIx (eVar 0) (eC (.int 1))) (aNil))) (eCallK (c 32) (aCons (eOpS opIx (eVar 0) (eC (.int 2))) (aNil))))) (sNil))
    (sSeq (sSet 1 (eTup (aCons (eOpS opIx (eVar 0) (eC (.int 1))) (aCons (eOpS opIx (eVar 0) (eC (.int 2))) (aNil)))))
    (sRet (eLcK [2, 3] (eCall (c 14) (aCons (eOpS opIx (eVar 0) (eC (.int 3))) (aNil))) (gUn 2 [gNm 2, gNm 3]) (tYs) (E32_0 c)))))
def tb : Nat → Nat → Nat → List SV → Sto → Res SV
  | 0, _, _, _, _ => .bad
  | k + 1, 5, b, as, S => runF 1 1 (B5 (tb k)) b as S
  | k + 1, 6, b, as, S => runF 1 1 (B6 (tb k)) b as S
  | k + 1, 7, b, as, S => runF 1 2 (B7 (tb k)) b as S
  | k + 1, 8, b, as, S => runF 1 1 (B8 (tb k)) b as S
  | k + 1, 9, b, as, S => runF 2 2 (B9 (tb k)) b as S
  | k + 1, 10, b, as, S => runF 3 3 (B10 (tb k)) b as S
  | k + 1, 11, b, as, S => runF 1 1 (B11 (tb k)) b as S
  | k + 1, 12, b, as, S => runF 1 3 (B12 (tb k)) b as S
  | k + 1, 13, b, as, S => runF 1 5 (B13 (tb k)) b as S
  | k + 1, 14, b, as, S => runF 1 4 (B14 (tb k)) b as S
  | k + 1, 15, b, as, S => runF 2 2 (B15 (tb k)) b as S
  | k + 1, 16, b, as, S => runF 2 3 (B16 (tb k)) b as S
  | k + 1, 17, b, as, S => runF 2 4 (B17 (tb k)) b as S
  | k + 1, 18, b, as, S => runF 2 3 (B18 (tb k)) b as S
  | k + 1, 19, b, as, S => runF 2 8 (B19 (tb k)) b as S
  | k + 1, 20, b, as, S => runF 2 6 (B20 (tb k)) b as S
  | k + 1, 21, b, as, S => runF 1 1 (B21 (tb k)) b as S
  | k + 1, 22, b, as, S => runF 3 6 (B22 (tb k)) b as S
  | k + 1, 23, b, as, S => runF 2 6 (B23 (tb k)) b as S
  | k + 1, 24, b, as, S => runF 1 5 (B24 (tb k)) b as S
  | k + 1, 25, b, as, S => runF 1 4 (B25 (tb k)) b as S
  | k + 1, 26, b, as, S => runF 1 10 (B26 (tb k)) b as S
  | k + 1, 27, b, as, S => runF 1 3 (B27 (tb k)) b as S
  | k + 1, 28, b, as, S => runF 1 2 (B28 (tb k)) b as S
  | k + 1, 29, b, as, S => runF 3 4 (B29 (tb k)) b as S
  | k + 1, 30, b, as, S => runF 3 5 (B30 (tb k)) b as S
  | k + 1, 31, b, as, S => runF 1 12 (B31 (tb k)) b as S
  | k + 1, 32, b, as, S => runF 1 4 (B32 (tb k)) b as S
  | _ + 1, _, _, _, _ => .bad
theorem t_5 (k b : Nat) (as : List SV) (S : Sto) : tb (k + 1) 5 b as S = runF 1 1 (B5 (tb k)) b as S := rfl
theorem t_6 (k b : Nat) (as : List SV) (S : Sto) : tb (k + 1) 6 b as S = runF 1 1 (B6 (tb k)) b as S := rfl
theorem t_7 (k b : Nat) (as : List SV) (S : Sto) : tb (k + 1) 7 b as S = runF 1 2 (B7 (tb k)) b as S := rfl
theorem t_8 (k b : Nat) (as : List SV) (S : Sto) : tb (k + 1) 8 b as S = runF 1 1 (B8 (tb k)) b as S := rfl
theorem t_9 (k b : Nat) (as : List SV) (S : Sto) : tb (k + 1) 9 b as S = runF 2 2 (B9 (tb k)) b as S := rfl
theorem t_10 (k b : Nat) (as : List SV) (S : Sto) : tb (k + 1) 10 b as S = runF 3 3 (B10 (tb k)) b as S := rfl
theorem t_11 (k b : Nat) (as : List SV) (S : Sto) : tb (k + 1) 11 b as S = runF 1 1 (B11 (tb k)) b as S := rfl
theorem t_12 (k b : Nat) (as : List SV) (S : Sto) : tb (k + 1) 12 b as S = runF 1 3 (B12 (tb k)) b as S := rfl
theorem t_13 (k b : Nat) (as : List SV) (S : Sto) : tb (k + 1) 13 b as S = runF 1 5 (B13 (tb k)) b as S := rfl
theorem t_14 (k b : Nat) (as : List SV) (S : Sto) : tb (k + 1) 14 b as S = runF 1 4 (B14 (tb k)) b as S := rfl
theorem t_15 (k b : Nat) (as : List SV) (S : Sto) : tb (k + 1) 15 b as S = runF 2 2 (B15 (tb k)) b as S := rfl
theorem t_16 (k b : Nat) (as : List SV) (S : Sto) : tb (k + 1) 16 b as S = runF 2 3 (B16 (tb k)) b as S := rfl
theorem t_17 (k b : Nat) (as : List SV) (S : Sto) : tb (k + 1) 17 b as S = runF 2 4 (B17 (tb k)) b as S := rfl
theorem t_18 (k b : Nat) (as : List SV) (S : Sto) : tb (k + 1) 18 b as S = runF 2 3 (B18 (tb k)) b as S := rfl
theorem t_19 (k b : Nat) (as : List SV) (S : Sto) : tb (k + 1) 19 b as S = runF 2 8 (B19 (tb k)) b as S := rfl
theorem t_20 (k b : Nat) (as : List SV) (S : Sto) : tb (k + 1) 20 b as S = runF 2 6 (B20 (tb k)) b as S := rfl
theorem t_21 (k b : Nat) (as : List SV) (S : Sto) : tb (k + 1) 21 b as S = runF 1 1 (B21 (tb k)) b as S := rfl
theorem t_22 (k b : Nat) (as : List SV) (S : Sto) : tb (k + 1) 22 b as S = runF 3 6 (B22 (tb k)) b as S := rfl
theorem t_23 (k b : Nat) (as : List SV) (S : Sto) : tb (k + 1) 23 b as S = runF 2 6 (B23 (tb k)) b as S := rfl
theorem t_24 (k b : Nat) (as : List SV) (S : Sto) : tb (k + 1) 24 b as S = runF 1 5 (B24 (tb k)) b as S := rfl
theorem t_25 (k b : Nat) (as : List SV) (S : Sto) : tb (k + 1) 25 b as S = runF 1 4 (B25 (tb k)) b as S := rfl
theorem t_26 (k b : Nat) (as : List SV) (S : Sto) : tb (k + 1) 26 b as S = runF 1 10 (B26 (tb k)) b as S := rfl
theorem t_27 (k b : Nat) (as : List SV) (S : Sto) : tb (k + 1) 27 b as S = runF 1 3 (B27 (tb k)) b as S := rfl
theorem t_28 (k b : Nat) (as : List SV) (S : Sto) : tb (k + 1) 28 b as S = runF 1 2 (B28 (tb k)) b as S := rfl
theorem t_29 (k b : Nat) (as : List SV) (S : Sto) : tb (k + 1) 29 b as S = runF 3 4 (B29 (tb k)) b as S := rfl
theorem t_30 (k b : Nat) (as : List SV) (S : Sto) : tb (k + 1) 30 b as S = runF 3 5 (B30 (tb k)) b as S := rfl
theorem t_31 (k b : Nat) (as : List SV) (S : Sto) : tb (k + 1) 31 b as S = runF 1 12 (B31 (tb k)) b as S := rfl
theorem t_32 (k b : Nat) (as : List SV) (S : Sto) : tb (k + 1) 32 b as S = runF 1 4 (B32 (tb k)) b as S := rfl
end Lw

set_option Elab.async false
set_option linter.all false
set_option maxRecDepth 100000
namespace Lw
open PySem L2 Ev
/-! ### texts -/
abbrev LET : Str := "abcdefghijklmnopqrstuvwxyz"
abbrev DIG : Str := "0123456789"
def isLet (c : Nat) : Bool := decide (c ∈ LET.cps.toList)
def isDig (c : Nat) : Bool := decide (c ∈ DIG.cps.toList)
def sign (c : Nat) : Bool := isLet c || isDig c
theorem in_let (S : Sto) (c : Nat) : inS S (.d (.str ⟨#[c]⟩)) (.d (.str LET)) = some (isLet c) := by
  show some (!(Builtin.Str.occurrences LET ⟨#[c]⟩ 0 LET.length 1).isEmpty) = _
  rw [PySem.StrLaws.found_one]
  rfl
theorem in_dig (S : Sto) (c : Nat) : inS S (.d (.str ⟨#[c]⟩)) (.d (.str DIG)) = some (isDig c) := by
  show some (!(Builtin.Str.occurrences DIG ⟨#[c]⟩ 0 DIG.length 1).isEmpty) = _
  rw [PySem.StrLaws.found_one]
  rfl
def isName (z : Str) : Bool := decide (1 ≤ z.cps.toList.length) && decide (z.cps.toList.length ≤ 12) && (match z.cps.toList with | c :: _ => isLet c | [] => false) && z.cps.toList.all sign
theorem str_len (z : Str) : z.length = z.cps.toList.length := by
  show z.cps.size = _
  rw [Array.length_toList]
section
variable {k : Nat} {S : Sto}
theorem loop7 {b : Nat} (z : Dv) : ∀ (l : List Nat) (x : Option SV), ∃ r, forL (gNm 1) (L7_0 (tb k)) b (l.map fun c => SV.d (.str ⟨#[c]⟩)) [some (.d z), x] S = r ∧ ((l.all sign = true ∧ ∃ y, r = .nx [some (.d z), y] S) ∨ (l.all sign = false ∧ r = .rt (.d (.bl false)) S)) := by
  intro l
  induction l with
  | nil => intro x; exact ⟨_, rfl, .inl ⟨rfl, x, rfl⟩⟩
  | cons c l ih =>
    intro x
    have e1 := in_let S c
    have e2 := in_dig S c
    rw [List.map_cons, forL_cons]
    simp only [gNm_ap, put_ap, List.set_cons_succ, List.set_cons_zero, kTg_s]
    cases h : sign c with
    | true =>
      have e3 : L7_0 (tb k) ⟨b, [some (.d z), some (.d (.str ⟨#[c]⟩))]⟩ S = .nx [some (.d z), some (.d (.str ⟨#[c]⟩))] S := by
        unfold sign at h
        cases h1 : isLet c
        · rw [h1, Bool.false_or] at h
          simp [L7_0, e1, e2, h1, h]
        · simp [L7_0, e1, h1]
      obtain ⟨r, e4, e5⟩ := ih (some (.d (.str ⟨#[c]⟩)))
      refine ⟨r, by rw [e3, kTu_nx]; exact e4, ?_⟩
      rw [List.all_cons, h, Bool.true_and]
      exact e5
    | false =>
      have e3 : L7_0 (tb k) ⟨b, [some (.d z), some (.d (.str ⟨#[c]⟩))]⟩ S = .rt (.d (.bl false)) S := by
        unfold sign at h
        simp only [Bool.or_eq_false_iff] at h
        simp [L7_0, e1, e2, h.1, h.2]
      refine ⟨_, by rw [e3]; rfl, .inr ⟨by rw [List.all_cons, h]; rfl, rfl⟩⟩
theorem s7 (z : Str) (hz : z.cps.toList.length ≤ 1000) : callF (tb (k + 1) 7) [.d (.str z)] S = .ok (.d (.bl (isName z))) S := by
  rw [callF, t_7]
  have hl : biLen S [.d (.str z)] = some (.int z.cps.toList.length) := by
    have := str_len z
    simp [biLen, itemsOf, dictOf]
    exact ⟨by rw [this]; exact most_pos _ hz, by rw [this, Array.length_toList]⟩
  obtain ⟨r, e1, e2⟩ := loop7 (k := k) (S := S) (b := S.length) (.str z) z.cps.toList none
  have hv : chars z = z.cps.toList.map fun c => SV.d (.str ⟨#[c]⟩) := rfl
  match hc : z.cps.toList with
  | [] =>
    rw [hc] at hl
    simp [runF, B7, isName, hc, hl]
  | c :: l =>
    have ix : opIx S (.d (.str z)) (.d (.int 0)) = some (.d (.str ⟨#[c]⟩)) := by
      have : z.length ≤ most := by rw [str_len]; exact most_pos _ hz
      simp [opIx, itemsOf, dictOf, this, hc]
    have e3 := in_let S c
    rw [hc] at hl e1 e2 hv
    have hp : (1 : Int) ≤ (l.length : Int) + 1 := by omega
    by_cases h12 : (c :: l).length ≤ 12
    · have h13 : (l.length : Int) + 1 ≤ 12 := by rw [List.length_cons] at h12; omega
      have h14 : l.length + 1 ≤ 12 := h12
      cases hL : isLet c
      · simp [runF, B7, isName, hc, hl, ix, e3, hL, hp, h13]
      · obtain ⟨e4, y, e5⟩ | ⟨e4, e5⟩ := e2 <;> rw [e5] at e1 <;> rw [List.map_cons] at e1 hv <;> have e6 := e4 <;> rw [List.all_cons] at e6
        · simp [runF, B7, isName, hc, hl, ix, e3, hL, hv, hp, h13, e1, h14, e6]
        · simp [runF, B7, isName, hc, hl, ix, e3, hL, hv, hp, h13, e1, h14, e6]
    · have h13 : ¬ ((l.length : Int) + 1 ≤ 12) := by rw [List.length_cons] at h12; omega
      have h14 : ¬ (l.length + 1 ≤ 12) := h12
      simp [runF, B7, isName, hc, hl, hp, h13, h14]
end
end Lw

set_option Elab.async false
set_option linter.all false
set_option maxRecDepth 100000
namespace Lw
open PySem L2 Ev
/-! ### sentences -/
abbrev Kd := Option (Nat × Nat)
def Kd.d : Kd → Dv
  | none => .str "once"
  | some (a, b) => .tup [.int (1 + (a : Int)), .int b]
inductive Sn
  | word (z : Str)
  | menu (l r : Sn)
  | trade (k : Kd) (p g : Sn)
def Sn.d : Sn → Dv
  | .word z => .tup [.str "word", .str z]
  | .menu l r => .tup [.str "menu", l.d, r.d]
  | .trade k p g => .tup [.str "trade", k.d, p.d, g.d]
def Sn.size : Sn → Nat
  | .word _ => 1
  | .menu l r => l.size + r.size
  | .trade _ p g => p.size + g.size
def Sn.ht : Sn → Nat
  | .word _ => 1
  | .menu l r => max l.ht r.ht + 1
  | .trade _ p g => max p.ht g.ht + 1
def Sn.words : Sn → List Str
  | .word z => [z]
  | .menu l r => l.words ++ r.words
  | .trade _ p g => p.words ++ g.words
theorem Sn.size_words : ∀ s : Sn, s.words.length = s.size
  | .word _ => rfl
  | .menu l r => by simp [words, size, size_words l, size_words r]
  | .trade _ p g => by simp [words, size, size_words p, size_words g]
section
variable {k : Nat} {S : Sto}
theorem s5 (n : Int) : callF (tb (k + 1) 5) [.d (.int n)] S = .ok (.d (.bl true)) S := by
  rw [callF, t_5]; simp [runF, B5]
theorem s6 (q : Kd) : callF (tb (k + 2) 6) [.d q.d] S = .ok (.d (.bl true)) S := by
  rw [callF, t_6]
  match q with
  | none => simp [runF, B6, Kd.d]
  | some (a, b) =>
    have h1 : (1 : Int) ≤ 1 + (a : Int) := by omega
    have h2 : (0 : Int) ≤ (b : Int) := by omega
    simp [runF, B6, Kd.d, s5, h1, h2]
theorem s6n (z : Str) (hz : z ≠ "once") : callF (tb (k + 1) 6) [.d (.str z)] S = .ok (.d (.bl false)) S := by
  rw [callF, t_6]
  simp [runF, B6, hz]
theorem s8 (z : Str) (hz : z.cps.toList.length ≤ 1000) (h : isName z = true) : callF (tb (k + 2) 8) [.d (.str z)] S = .ok (.d (.tup [.str "word", .str z])) S := by
  rw [callF, t_8]
  simp [runF, B8, s7 z hz, h]
theorem s9 (x y : Dv) : callF (tb (k + 1) 9) [.d x, .d y] S = .ok (.d (.tup [.str "menu", x, y])) S := by
  rw [callF, t_9]
  simp [runF, B9]
theorem s10 (x y : Dv) (q : Kd) : callF (tb (k + 3) 10) [.d x, .d y, .d q.d] S = .ok (.d (.tup [.str "trade", q.d, x, y])) S := by
  rw [callF, t_10]
  simp [runF, B10, s6]
theorem s11w (z : Str) : callF (tb (k + 1) 11) [.d (Sn.word z).d] S = .ok (.d (.lst [])) S := by
  rw [callF, t_11]
  simp [runF, B11, Sn.d]
theorem s11m (l r : Sn) : callF (tb (k + 1) 11) [.d (Sn.menu l r).d] S = .ok (.d (.lst [l.d, r.d])) S := by
  rw [callF, t_11]
  simp [runF, B11, Sn.d]
theorem s11t (q : Kd) (l r : Sn) : callF (tb (k + 1) 11) [.d (Sn.trade q l r).d] S = .ok (.d (.lst [l.d, r.d])) S := by
  rw [callF, t_11]
  simp [runF, B11, Sn.d]
end
theorem s12 : ∀ (s : Sn) {k : Nat} {S : Sto}, s.ht ≤ k → callF (tb (k + 1) 12) [.d s.d] S = .ok (.d (.int s.size)) S
  | .word z, k, S, h => by
    rw [callF, t_12]
    simp [runF, B12, Sn.d, Sn.size]
  | .menu l r, 0, S, h => by simp [Sn.ht] at h
  | .trade q l r, 0, S, h => by simp [Sn.ht] at h
  | .menu l r, k + 1, S, h => by
    have hl : l.ht ≤ k := by simp only [Sn.ht] at h; omega
    have hr : r.ht ≤ k := by simp only [Sn.ht] at h; omega
    rw [callF, t_12]
    have e := s11m (k := k) (S := S) l r
    simp only [Sn.d] at e
    simp [runF, B12, Sn.d, Sn.size, e, s12 l hl, s12 r hr]
  | .trade q l r, k + 1, S, h => by
    have hl : l.ht ≤ k := by simp only [Sn.ht] at h; omega
    have hr : r.ht ≤ k := by simp only [Sn.ht] at h; omega
    rw [callF, t_12]
    have e := s11t (k := k) (S := S) q l r
    simp only [Sn.d] at e
    simp [runF, B12, Sn.d, Sn.size, e, s12 l hl, s12 r hr]
end Lw

set_option Elab.async false
set_option linter.all false
set_option maxRecDepth 100000
namespace Lw
open PySem L2 Ev
/-! ### the names of a sentence -/
def addN (zs : List Str) (z : Str) : List Str := if z ∈ zs then zs else zs ++ [z]
abbrev lN (zs : List Str) : MO := .lst ((zs.map Dv.str).map .d)
theorem addN_len (zs : List Str) (z : Str) : (addN zs z).length ≤ zs.length + 1 := by
  unfold addN; split <;> simp
theorem fold_len : ∀ (ws zs : List Str), (ws.foldl addN zs).length ≤ zs.length + ws.length
  | [], zs => by simp
  | w :: ws, zs => by
    have := fold_len ws (addN zs w)
    have := addN_len zs w
    simp only [List.foldl_cons, List.length_cons]; omega
theorem mem_add {zs : List Str} {z x : Str} : x ∈ addN zs z ↔ x ∈ zs ∨ x = z := by
  unfold addN; split
  · rename_i h; exact ⟨.inl, fun | .inl h => h | .inr e => e ▸ h⟩
  · simp
theorem mem_fold : ∀ {ws zs : List Str} {x : Str}, x ∈ ws.foldl addN zs ↔ x ∈ zs ∨ x ∈ ws
  | [], zs, x => by simp
  | w :: ws, zs, x => by rw [List.foldl_cons, mem_fold, mem_add, List.mem_cons, or_assoc]
theorem fold_add (zs : List Str) (z : Str) : ∀ l : List Str, (addN l z).foldl addN zs = addN (l.foldl addN zs) z := by
  intro l
  by_cases h : z ∈ l
  · rw [show addN l z = l from if_pos h]
    exact (if_pos (mem_fold.2 (.inr h))).symm
  · rw [show addN l z = l ++ [z] from if_neg h, List.foldl_append]; rfl
theorem fold_fold (zs : List Str) : ∀ (ws us : List Str), (ws.foldl addN us).foldl addN zs = ws.foldl addN (us.foldl addN zs)
  | [], us => rfl
  | w :: ws, us => by rw [List.foldl_cons, fold_fold zs ws, fold_add, List.foldl_cons]
def Sn.names (s : Sn) : List Str := s.words.foldl addN []
theorem names_m (l r : Sn) : (Sn.menu l r).names = r.names.foldl addN l.names := by
  rw [Sn.names, Sn.words, List.foldl_append, Sn.names, Sn.names, fold_fold]; rfl
theorem names_t (q : Kd) (l r : Sn) : (Sn.trade q l r).names = r.names.foldl addN l.names := names_m l r
theorem names_len (s : Sn) : s.names.length ≤ s.size := by
  have := fold_len s.words []
  rw [s.size_words] at this
  simpa [Sn.names] using this
theorem inN {S : Sto} {i : Nat} {zs : List Str} (z : Str) (h : S[i]? = some (lN zs)) : inS S (.d (.str z)) (.m i) = some (decide (z ∈ zs)) := by
  have e : zs.map Dv.str = (zs.map (Sum.inr : Str → Key)).map keyD := by rw [List.map_map]; rfl
  unfold lN at h
  rw [e] at h
  have := inS_km (.inr z) h
  rw [show inS S (.d (.str z)) (.m i) = inS S (.d (keyD (.inr z))) (.m i) from rfl, this]
  congr 1
  rw [Bool.eq_iff_iff, hasK_iff]
  simp
theorem top_m (S : Sto) (mo : MO) : (S ++ [mo])[S.length]? = some mo := by simp
theorem add_loop {body : Fr → Sto → SRes} {b i : Nat} {S : Sto} (env : Option SV → Ev.Env) (hput : ∀ x v T, gNm i (.d v) ⟨b, env x⟩ T = some (env (some (.d v))))
    (hb : ∀ zs z, zs.length < 500 → body ⟨b, env (some (.d (.str z)))⟩ (S ++ [lN zs]) = .nx (env (some (.d (.str z)))) (S ++ [lN (addN zs z)])) :
    ∀ (ws zs : List Str) (x : Option SV), zs.length + ws.length ≤ 500 → ∃ y, forL (gNm i) body b ((ws.map Dv.str).map .d) (env x) (S ++ [lN zs]) = .nx (env y) (S ++ [lN (ws.foldl addN zs)])
  | [], zs, x, _ => ⟨x, rfl⟩
  | w :: ws, zs, x, h => by
    rw [List.length_cons] at h
    have h1 := addN_len zs w
    obtain ⟨y, e⟩ := add_loop env hput hb ws (addN zs w) (some (.d (.str w))) (by omega)
    refine ⟨y, ?_⟩
    rw [List.map_cons, List.map_cons, forL_cons, hput, kTg_s, hb zs w (by omega), kTu_nx, e]
    rfl
theorem turn13 {k b : Nat} {S : Sto} (x0 x1 x2 : Option SV) (zs : List Str) (z : Str) (h : zs.length < 500) :
    L13_0 (tb k) ⟨b, [x0, x1, x2, some (.m S.length), some (.d (.str z))]⟩ (S ++ [lN zs]) = .nx [x0, x1, x2, some (.m S.length), some (.d (.str z))] (S ++ [lN (addN zs z)]) := by
  have e1 := inN z (show (S ++ [lN zs])[S.length]? = some (lN zs) from top_m _ _)
  have e2 : muAppend b (S ++ [lN zs]) (.m S.length) [.d (.str z)] = some (.d .non, (S ++ [lN zs]).set S.length (.lst ((zs.map Dv.str).map .d ++ [.d (.str z)]))) :=
    muAppend_m (top_m _ _) rfl (Nat.lt_trans (show _ < 500 by simpa using h) (by decide))
  have e3 : isL (S ++ [lN zs]) (.m S.length) = true := isL_ml (top_m _ _)
  by_cases hz : z ∈ zs
  · simp [L13_0, e1, hz, addN]
  · simp [L13_0, e1, e2, e3, hz, addN]
theorem fin_lN {S : Sto} (zs : List Str) : fin S.length (.ok (.m S.length) (S ++ [lN zs])) = .ok (.d (.lst (zs.map .str))) S := by
  unfold fin
  simp only
  have hf : freeze (S ++ [lN zs]) (.m S.length) = _ := freeze_lst (xs := zs.map Dv.str) (top_m _ _)
  rw [hf]
  simp
theorem r13 : ∀ (s : Sn) {k b : Nat} {S : Sto}, s.ht ≤ k → s.size ≤ 400 → S.length = b → runF 1 5 (B13 (tb k)) b [.d s.d] S = .ok (.m S.length) (S ++ [lN s.names])
  | .word z, k, b, S, h, hs, hb => by
    simp [runF, B13, Sn.d, Sn.names, Sn.words, addN, lN]
  | .menu l r, 0, b, S, h, hs, hb => by simp [Sn.ht] at h
  | .trade q l r, 0, b, S, h, hs, hb => by simp [Sn.ht] at h
  | .menu l r, k + 1, b, S, h, hs, hb => by
    have hl : l.ht ≤ k := by simp only [Sn.ht] at h; omega
    have hr : r.ht ≤ k := by simp only [Sn.ht] at h; omega
    have hs' : l.size + r.size ≤ 400 := hs
    have e := s11m (k := k) (S := S) l r
    have e1 : callK (tb (k + 1) 13) [.d l.d] S = .ok (.m S.length) (S ++ [lN l.names]) := by
      rw [callK, t_13, r13 l hl (by omega) rfl]; rfl
    have e2 : callF (tb (k + 1) 13) [.d r.d] (S ++ [lN l.names]) = .ok (.d (.lst (r.names.map .str))) (S ++ [lN l.names]) := by
      rw [callF, t_13, r13 r hr (by omega) rfl]; exact fin_lN _
    obtain ⟨y, e3⟩ := add_loop (i := 4) (b := b) (body := L13_0 (tb (k + 1))) (S := S) (fun x => [some (.d (Sn.menu l r).d), some (.d l.d), some (.d r.d), some (.m S.length), x]) (fun x v T => rfl) (fun zs z hz => turn13 _ _ _ zs z hz) r.names l.names none (by have := names_len l; have := names_len r; omega)
    rw [names_m]
    simp only [Sn.d] at e e3
    simp only [List.map_map] at e3
    simp [runF, B13, Sn.d, e, e1, e2, e3]
  | .trade q l r, k + 1, b, S, h, hs, hb => by
    have hl : l.ht ≤ k := by simp only [Sn.ht] at h; omega
    have hr : r.ht ≤ k := by simp only [Sn.ht] at h; omega
    have hs' : l.size + r.size ≤ 400 := hs
    have e := s11t (k := k) (S := S) q l r
    have e1 : callK (tb (k + 1) 13) [.d l.d] S = .ok (.m S.length) (S ++ [lN l.names]) := by
      rw [callK, t_13, r13 l hl (by omega) rfl]; rfl
    have e2 : callF (tb (k + 1) 13) [.d r.d] (S ++ [lN l.names]) = .ok (.d (.lst (r.names.map .str))) (S ++ [lN l.names]) := by
      rw [callF, t_13, r13 r hr (by omega) rfl]; exact fin_lN _
    obtain ⟨y, e3⟩ := add_loop (i := 4) (b := b) (body := L13_0 (tb (k + 1))) (S := S) (fun x => [some (.d (Sn.trade q l r).d), some (.d l.d), some (.d r.d), some (.m S.length), x]) (fun x v T => rfl) (fun zs z hz => turn13 _ _ _ zs z hz) r.names l.names none (by have := names_len l; have := names_len r; omega)
    rw [names_t]
    simp only [Sn.d] at e e3
    simp only [List.map_map] at e3
    simp [runF, B13, Sn.d, e, e1, e2, e3]
theorem s13 (s : Sn) {k : Nat} {S : Sto} (h : s.ht ≤ k) (hs : s.size ≤ 400) : callF (tb (k + 1) 13) [.d s.d] S = .ok (.d (.lst (s.names.map .str))) S := by
  rw [callF, t_13, r13 s h hs rfl]; exact fin_lN _
theorem s13K (s : Sn) {k : Nat} {S : Sto} (h : s.ht ≤ k) (hs : s.size ≤ 400) : callK (tb (k + 1) 13) [.d s.d] S = .ok (.m S.length) (S ++ [lN s.names]) := by
  rw [callK, t_13, r13 s h hs rfl]; rfl
end Lw

set_option Elab.async false
set_option linter.all false
set_option maxRecDepth 100000
namespace Lw
open PySem L2 Ev
/-! ### the legs of a sentence -/
abbrev Leg := List Dv × Str
def Leg.d (l : Leg) : Dv := .tup [.lst l.1, .str l.2]
def prD (q : Kd) (p : Sn) : Dv := .tup [q.d, p.d]
def Sn.legs : Sn → List Leg
  | .word z => [([], z)]
  | .menu l r => l.legs ++ r.legs
  | .trade q p g => g.legs.map fun x => (prD q p :: x.1, x.2)
theorem legs_len : ∀ s : Sn, s.legs.length ≤ s.size
  | .word _ => by simp [Sn.legs, Sn.size]
  | .menu l r => by have := legs_len l; have := legs_len r; simp [Sn.legs, Sn.size]; omega
  | .trade q p g => by have := legs_len g; simp [Sn.legs, Sn.size]; omega
theorem legs_pos : ∀ s : Sn, s.legs ≠ []
  | .word _ => by simp [Sn.legs]
  | .menu l r => by simp [Sn.legs, legs_pos l]
  | .trade q p g => by simp [Sn.legs, legs_pos g]
theorem legs_ht : ∀ (s : Sn) (x : Leg), x ∈ s.legs → x.1.length ≤ s.ht
  | .word _, x, h => by simp [Sn.legs] at h; simp [h]
  | .menu l r, x, h => by
    rw [Sn.legs, List.mem_append] at h
    simp only [Sn.ht]
    rcases h with h | h
    · have := legs_ht l x h; omega
    · have := legs_ht r x h; omega
  | .trade q p g, x, h => by
    rw [Sn.legs, List.mem_map] at h
    obtain ⟨y, h1, rfl⟩ := h
    have := legs_ht g y h1
    simp only [Sn.ht, List.length_cons]; omega
theorem s14 : ∀ (s : Sn) {k : Nat} {S : Sto}, s.ht ≤ k → k ≤ 400 → s.size ≤ 400 → callF (tb (k + 1) 14) [.d s.d] S = .ok (.d (.lst (s.legs.map Leg.d))) S
  | .word z, k, S, h, hk, hs => by
    rw [callF, t_14]
    simp [runF, B14, Sn.d, Sn.legs, Leg.d]
  | .menu l r, 0, S, h, hk, hs => by simp [Sn.ht] at h
  | .trade q l r, 0, S, h, hk, hs => by simp [Sn.ht] at h
  | .menu l r, k + 1, S, h, hk, hs => by
    have hl : l.ht ≤ k := by simp only [Sn.ht] at h; omega
    have hr : r.ht ≤ k := by simp only [Sn.ht] at h; omega
    have hs' : l.size + r.size ≤ 400 := hs
    have q1 := legs_len l
    have q2 := legs_len r
    have hm : l.legs.length + r.legs.length ≤ most := Nat.le_trans (m := 400) (by omega) (by decide)
    rw [callF, t_14]
    simp [runF, B14, Sn.d, Sn.legs, s14 l hl (by omega) (by omega), s14 r hr (by omega) (by omega), hm]
  | .trade q l r, k + 1, S, h, hk, hs => by
    have hr : r.ht ≤ k := by simp only [Sn.ht] at h; omega
    have hs' : l.size + r.size ≤ 400 := hs
    have q2 := legs_len r
    have e := lcAll_M (fun x : Leg => SV.d x.d) (vs := [2, 3]) (tg := gUn 2 [gNm 2, gNm 3]) (te := E14_0 (tb (k + 1))) (v := [some (.d (Sn.trade q l r).d), some (.d (prD q l)), none, none]) (S := S) r.legs (fun x => Leg.d (prD q l :: x.1, x.2)) (Nat.le_trans (m := 400) (by omega) (by decide)) fun x hx T => by
      have q3 := legs_ht r x hx
      have hm : x.1.length + 1 ≤ most := Nat.le_trans (m := 402) (by omega) (by decide)
      have hm2 : 1 + x.1.length ≤ most := Nat.le_trans (m := 402) (by omega) (by decide)
      refine ⟨[some (.d (Sn.trade q l r).d), some (.d (prD q l)), some (.d (.lst x.1)), some (.d (.str x.2))], by simp [Leg.d, wipeE], ?_⟩
      simp [E14_0, Leg.d, hm, hm2]
    rw [callF, t_14]
    have e0 := s14 r (S := S) hr (by omega) (by omega)
    simp only [Sn.d, prD] at e
    simp [runF, B14, Sn.d, Sn.legs, e0, prD]
    rw [show List.map (SV.d ∘ Leg.d) r.legs = List.map (fun x => SV.d x.d) r.legs from rfl, e]
    simp [Function.comp_def]
end Lw

set_option Elab.async false
set_option linter.all false
set_option maxRecDepth 100000
namespace Lw
open PySem L2 Ev
/-! ### kept legs -/
structure LRow where
  t : Nat
  p : Nat
  x : Leg
structure RowOk (B i : Nat) (S : Sto) (r : LRow) : Prop where
  tup : S[r.t]? = some (.tup [.m r.p, .d (.str r.x.2)])
  lst : S[r.p]? = some (.lst (r.x.1.map .d))
  bt : B ≤ r.t
  bp : B ≤ r.p
  ne : r.p ≠ i
structure LGr (B : Nat) (S : Sto) (i : Nat) (rs : List LRow) : Prop where
  top : S[i]? = some (.lst (rs.map fun r => .m r.t))
  bi : B ≤ i
  rows : ∀ r ∈ rs, RowOk B i S r
  nd : (rs.map LRow.p).Nodup
def LG (B : Nat) (S : Sto) (i : Nat) (L : List Leg) : Prop := ∃ rs, LGr B S i rs ∧ rs.map LRow.x = L
theorem get_app {S T : Sto} {i : Nat} {x : MO} (h : S[i]? = some x) : (S ++ T)[i]? = some x := by
  rw [List.getElem?_append_left (List.getElem?_eq_some_iff.1 h).1]; exact h
theorem lt_get {S : Sto} {i : Nat} {x : MO} (h : S[i]? = some x) : i < S.length := (List.getElem?_eq_some_iff.1 h).1
theorem RowOk.app {B i j : Nat} {S T : Sto} {r : LRow} (h : RowOk B i S r) (hj : r.p ≠ j) : RowOk B j (S ++ T) r := ⟨get_app h.tup, get_app h.lst, h.bt, h.bp, hj⟩
theorem LGr.cat {B : Nat} {S T : Sto} {i j : Nat} {rs us : List LRow} (h : LGr B S i rs) (g : LGr S.length (S ++ T) j us) (hB : B ≤ S.length) :
    LGr B (S ++ T ++ [.lst ((rs ++ us).map fun r => .m r.t)]) (S ++ T).length (rs ++ us) := by
  refine ⟨top_m _ _, by simp; omega, fun r hr => ?_, ?_⟩
  · rcases List.mem_append.1 hr with hr | hr
    · have q := h.rows r hr
      have := lt_get q.lst
      rw [List.append_assoc]
      exact q.app (by simp; omega)
    · have q := g.rows r hr
      have := lt_get q.lst
      exact ⟨get_app q.tup, get_app q.lst, Nat.le_trans hB q.bt, Nat.le_trans hB q.bp, Nat.ne_of_lt this⟩
  · rw [List.map_append, List.nodup_append]
    refine ⟨h.nd, g.nd, fun a ha b hb e => ?_⟩
    obtain ⟨r, hr, rfl⟩ := List.mem_map.1 ha
    obtain ⟨u, hu, rfl⟩ := List.mem_map.1 hb
    have q1 := lt_get (h.rows r hr).lst
    have q2 := (g.rows u hu).bp
    omega
def triple (pr : Dv) (n : Nat) (x : Leg) : Sto := [.lst [.d pr], .lst ((pr :: x.1).map .d), .tup [.m (n + 1), .d (.str x.2)]]
theorem turn32 {k b : Nat} {x0 : Option SV} (pr : Dv) (x : Leg) (T : Sto) (hx : x.1.length ≤ 400) :
    E32_0 (tb k) ⟨b, [x0, some (.d pr), some (.d (.lst x.1)), some (.d (.str x.2))]⟩ T = .ok (.m (T.length + 2)) (T ++ triple pr T.length x) := by
  have hm : x.1.length + 1 ≤ most := Nat.le_trans (m := 402) (by omega) (by decide)
  have hm2 : 1 + x.1.length ≤ most := Nat.le_trans (m := 402) (by omega) (by decide)
  simp [E32_0, triple, hm, hm2]
def mkRows (pr : Dv) : List Leg → Nat → List LRow
  | [], _ => []
  | x :: l, n => ⟨n + 2, n + 1, (pr :: x.1, x.2)⟩ :: mkRows pr l (n + 3)
def trips (pr : Dv) : List Leg → Nat → Sto
  | [], _ => []
  | x :: l, n => triple pr n x ++ trips pr l (n + 3)
theorem rows_leg (pr : Dv) : ∀ (l : List Leg) (n : Nat), (mkRows pr l n).map LRow.x = l.map fun x => (pr :: x.1, x.2)
  | [], _ => rfl
  | x :: l, n => by rw [mkRows, List.map_cons, rows_leg pr l, List.map_cons]
theorem rows_len (pr : Dv) : ∀ (l : List Leg) (n : Nat), (mkRows pr l n).length = l.length
  | [], _ => rfl
  | x :: l, n => by rw [mkRows, List.length_cons, rows_len pr l, List.length_cons]
theorem rows_ge (pr : Dv) : ∀ (l : List Leg) (n : Nat) (r : LRow), r ∈ mkRows pr l n → n + 1 ≤ r.p ∧ n + 2 ≤ r.t
  | [], _, r, h => by cases h
  | x :: l, n, r, h => by
    rw [mkRows, List.mem_cons] at h
    rcases h with rfl | h
    · exact ⟨Nat.le_refl _, Nat.le_refl _⟩
    · have := rows_ge pr l (n + 3) r h
      omega
theorem rows_nd (pr : Dv) : ∀ (l : List Leg) (n : Nat), ((mkRows pr l n).map LRow.p).Nodup
  | [], _ => by simp [mkRows]
  | x :: l, n => by
    rw [mkRows, List.map_cons, List.nodup_cons]
    refine ⟨fun h => ?_, rows_nd pr l (n + 3)⟩
    obtain ⟨r, h1, h2⟩ := List.mem_map.1 h
    have := (rows_ge pr l (n + 3) r h1).1
    have h3 : r.p = n + 1 := h2
    omega
theorem rows_at (pr : Dv) : ∀ (l : List Leg) (T : Sto) (r : LRow), r ∈ mkRows pr l T.length → (T ++ trips pr l T.length)[r.t]? = some (.tup [.m r.p, .d (.str r.x.2)]) ∧ (T ++ trips pr l T.length)[r.p]? = some (.lst (r.x.1.map .d))
  | [], _, r, h => by cases h
  | x :: l, T, r, h => by
    rw [mkRows, List.mem_cons] at h
    rw [trips, ← List.append_assoc]
    rcases h with rfl | h
    · refine ⟨get_app ?_, get_app ?_⟩
      · rw [List.getElem?_append_right (by simp)]; simp [triple]
      · rw [List.getElem?_append_right (by simp)]; simp [triple]
    · have e : (T ++ triple pr T.length x).length = T.length + 3 := by simp [triple]
      have := rows_at pr l (T ++ triple pr T.length x) r (by rw [e]; exact h)
      rw [e] at this
      exact this
theorem set_mid (S T : Sto) (x y : MO) : (S ++ x :: T).set S.length y = S ++ y :: T := by simp
theorem loop32 {k : Nat} {S : Sto} {x0 : Option SV} (pr : Dv) : ∀ (l : List Leg) (as : List SV) (T : Sto), as.length + l.length ≤ 400 → (∀ x ∈ l, x.1.length ≤ 400) →
    lcL (gUn 2 [gNm 2, gNm 3]) tYs (E32_0 (tb k)) S.length [x0, some (.d pr), none, none] (l.map fun x => SV.d x.d) (S ++ .lst as :: T) = .ok (.m S.length) (S ++ .lst (as ++ (mkRows pr l (S ++ .lst as :: T).length).map fun r => .m r.t) :: (T ++ trips pr l (S ++ .lst as :: T).length))
  | [], as, T, h, hx => by simp [lcL, mkRows, trips]
  | x :: l, as, T, h, hx => by
    rw [List.length_cons] at h
    have hT : (S ++ MO.lst as :: T ++ triple pr (S ++ MO.lst as :: T).length x) = S ++ MO.lst as :: (T ++ triple pr (S ++ MO.lst as :: T).length x) := by simp
    have ih := loop32 (k := k) (S := S) (x0 := x0) pr l (as ++ [.m ((S ++ MO.lst as :: T).length + 2)]) (T ++ triple pr (S ++ MO.lst as :: T).length x) (by simp; omega) (fun y hy => hx y (List.mem_cons_of_mem _ hy))
    have e1 := turn32 (k := k) (b := S.length) (x0 := x0) pr x (S ++ MO.lst as :: T) (hx x (List.mem_cons_self ..))
    have hl : as.length < most := Nat.lt_of_lt_of_le (show as.length < 401 by omega) (by decide)
    have el : (S ++ MO.lst (as ++ [SV.m ((S ++ MO.lst as :: T).length + 2)]) :: (T ++ triple pr (S ++ MO.lst as :: T).length x)).length = (S ++ MO.lst as :: T).length + 3 := by simp [triple]; omega
    rw [el] at ih
    rw [List.map_cons]
    unfold lcL
    have hg : gUn 2 [gNm 2, gNm 3] (SV.d x.d) ⟨S.length, [x0, some (.d pr), none, none]⟩ (S ++ MO.lst as :: T) = some [x0, some (.d pr), some (.d (.lst x.1)), some (.d (.str x.2))] := by simp [Leg.d]
    rw [hg]
    simp only [tYs_ap, noX_ok, Res.bind_ok, if_true, e1, hT]
    have ht : (S ++ MO.lst as :: (T ++ triple pr (S ++ MO.lst as :: T).length x))[S.length]? = some (.lst as) := by simp
    rw [ht]
    simp only [lcPut, hl, if_true, set_mid]
    rw [ih]
    simp [mkRows, trips]
end Lw

set_option Elab.async false
set_option linter.all false
set_option maxRecDepth 100000
namespace Lw
open PySem L2 Ev
theorem trips_ok (S : Sto) (pr : Dv) (l : List Leg) : LGr S.length (S ++ .lst ((mkRows pr l (S.length + 1)).map fun r => .m r.t) :: trips pr l (S.length + 1)) S.length (mkRows pr l (S.length + 1)) := by
  have e : (S ++ [MO.lst ((mkRows pr l (S.length + 1)).map fun r => .m r.t)]).length = S.length + 1 := by simp
  refine ⟨by simp, Nat.le_refl _, fun r hr => ?_, rows_nd pr l _⟩
  have h1 := rows_ge pr l _ r hr
  have h2 := rows_at pr l (S ++ [MO.lst ((mkRows pr l (S.length + 1)).map fun r => .m r.t)]) r (by rw [e]; exact hr)
  rw [e, List.append_assoc, List.singleton_append] at h2
  exact ⟨h2.1, h2.2, by omega, by omega, by omega⟩
theorem r32 : ∀ (s : Sn) {k : Nat} {S : Sto}, s.ht ≤ k → k ≤ 390 → s.size ≤ 390 → ∃ i T rs, runF 1 4 (B32 (tb k)) S.length [.d s.d] S = .ok (.m i) (S ++ T) ∧ LGr S.length (S ++ T) i rs ∧ rs.map LRow.x = s.legs
  | .word z, k, S, h, hk, hs => by
    refine ⟨S.length + 2, [.lst [], .tup [.m S.length, .d (.str z)], .lst [.m (S.length + 1)]], [⟨S.length + 1, S.length, ([], z)⟩], ?_, ⟨?_, ?_, ?_, ?_⟩, rfl⟩
    · simp [runF, B32, Sn.d]
    · simp
    · omega
    · intro r hr
      rw [List.mem_singleton] at hr
      subst hr
      exact ⟨by simp, by simp, by simp, by simp, by simp⟩
    · simp
  | .menu l r, 0, S, h, hk, hs => by simp [Sn.ht] at h
  | .trade q l r, 0, S, h, hk, hs => by simp [Sn.ht] at h
  | .menu l r, k + 1, S, h, hk, hs => by
    have hl : l.ht ≤ k := by simp only [Sn.ht] at h; omega
    have hr : r.ht ≤ k := by simp only [Sn.ht] at h; omega
    have hs' : l.size + r.size ≤ 390 := hs
    obtain ⟨i, T, rs, e1, g1, l1⟩ := r32 l (S := S) hl (by omega) (by omega)
    obtain ⟨j, U, us, e2, g2, l2⟩ := r32 r (S := S ++ T) hr (by omega) (by omega)
    have f1 : callK (tb (k + 1) 32) [.d l.d] S = .ok (.m i) (S ++ T) := by rw [callK, t_32, e1]; rfl
    have f2 : callK (tb (k + 1) 32) [.d r.d] (S ++ T) = .ok (.m j) (S ++ T ++ U) := by rw [callK, t_32, e2]; rfl
    have q1 := legs_len l
    have q2 := legs_len r
    have n1 : rs.length = l.legs.length := by rw [← l1, List.length_map]
    have n2 : us.length = r.legs.length := by rw [← l2, List.length_map]
    have hm : rs.length + us.length ≤ most := Nat.le_trans (m := 400) (by omega) (by decide)
    have t1 := get_app (T := U) g1.top
    have t2 := g2.top
    have g := g1.cat g2 (by simp)
    refine ⟨(S ++ T ++ U).length, T ++ U ++ [.lst ((rs ++ us).map fun r => .m r.t)], rs ++ us, ?_, ?_, ?_⟩
    · rw [List.append_assoc] at f2 t1 t2
      simp [runF, B32, Sn.d, f1, f2, t1, t2, hm]
    · have e : S ++ (T ++ U ++ [MO.lst ((rs ++ us).map fun r => .m r.t)]) = S ++ T ++ U ++ [MO.lst ((rs ++ us).map fun r => .m r.t)] := by rw [List.append_assoc, List.append_assoc, List.append_assoc]
      rw [e]
      exact g
    · rw [List.map_append, l1, l2, Sn.legs]
  | .trade q l r, k + 1, S, h, hk, hs => by
    have hr : r.ht ≤ k := by simp only [Sn.ht] at h; omega
    have hs' : l.size + r.size ≤ 390 := hs
    have q2 := legs_len r
    have e0 := s14 r (S := S) hr (by omega) (by omega)
    have e := loop32 (k := k + 1) (S := S) (x0 := some (.d (Sn.trade q l r).d)) (prD q l) r.legs [] [] (by simp; omega) (fun x hx => by have := legs_ht r x hx; omega)
    have el : (S ++ [MO.lst []]).length = S.length + 1 := by simp
    rw [el, List.nil_append, List.nil_append] at e
    refine ⟨S.length, _, _, ?_, trips_ok S (prD q l) r.legs, rows_leg _ _ _⟩
    simp only [Sn.d, prD] at e
    simp [runF, B32, Sn.d, e0, prD, lcAll, wipeE]
    rw [show List.map (SV.d ∘ Leg.d) r.legs = List.map (fun x => SV.d x.d) r.legs from rfl, e]
    simp
theorem s32 (s : Sn) {k : Nat} {S : Sto} (h : s.ht ≤ k) (hk : k ≤ 390) (hs : s.size ≤ 390) : ∃ i T rs, callK (tb (k + 1) 32) [.d s.d] S = .ok (.m i) (S ++ T) ∧ LGr S.length (S ++ T) i rs ∧ rs.map LRow.x = s.legs := by
  obtain ⟨i, T, rs, e, g, l⟩ := r32 s (S := S) h hk hs
  exact ⟨i, T, rs, by rw [callK, t_32, e]; rfl, g, l⟩
end Lw

set_option Elab.async false
set_option linter.all false
set_option maxRecDepth 100000
namespace Lw
open PySem L2 Ev
/-! ### through the makers -/
theorem name_len {z : Str} (h : isName z = true) : z.cps.toList.length ≤ 1000 := by
  unfold isName at h
  simp only [Bool.and_eq_true, decide_eq_true_eq] at h
  have := h.1.1.2
  omega
theorem s8n (z : Str) {k : Nat} {S : Sto} (h : isName z = true) : callF (tb (k + 2) 8) [.d (.str z)] S = .ok (.d (Sn.word z).d) S := s8 z (name_len h) h
def Sn.ok (s : Sn) : Prop := ∀ z ∈ s.words, isName z = true
theorem ok_m {l r : Sn} (h : (Sn.menu l r).ok) : l.ok ∧ r.ok := ⟨fun z hz => h z (List.mem_append_left _ hz), fun z hz => h z (List.mem_append_right _ hz)⟩
theorem ok_t {q : Kd} {l r : Sn} (h : (Sn.trade q l r).ok) : l.ok ∧ r.ok := ok_m (l := l) (r := r) h
theorem at31 (a b c : SV) : atI [a, b, c] (-1) = some c := rfl
theorem at32 (a b c : SV) : atI [a, b, c] (-2) = some b := rfl
theorem at41 (a b c d : SV) : atI [a, b, c, d] (-1) = some d := rfl
theorem at42 (a b c d : SV) : atI [a, b, c, d] (-2) = some c := rfl
theorem s27 : ∀ (s : Sn) {k : Nat} {S : Sto}, s.ht ≤ k → s.ok → callF (tb (k + 4) 27) [.d s.d] S = .ok (.d s.d) S
  | .word z, k, S, h, ho => by
    have hz : isName z = true := ho z (List.mem_singleton.2 rfl)
    have e := s8n z (k := k + 1) (S := S) hz
    simp only [Sn.d] at e
    rw [callF, t_27]
    simp [runF, B27, Sn.d, e]
  | .menu l r, 0, S, h, ho => by simp [Sn.ht] at h
  | .trade q l r, 0, S, h, ho => by simp [Sn.ht] at h
  | .menu l r, k + 1, S, h, ho => by
    have hl : l.ht ≤ k := by simp only [Sn.ht] at h; omega
    have hr : r.ht ≤ k := by simp only [Sn.ht] at h; omega
    have e1 := s27 l (S := S) hl (ok_m ho).1
    have e2 := s27 r (S := S) hr (ok_m ho).2
    rw [callF, t_27]
    simp [runF, B27, Sn.d, e1, e2, s9, at31, at32]
  | .trade q l r, k + 1, S, h, ho => by
    have hl : l.ht ≤ k := by simp only [Sn.ht] at h; omega
    have hr : r.ht ≤ k := by simp only [Sn.ht] at h; omega
    have e1 := s27 l (S := S) hl (ok_t ho).1
    have e2 := s27 r (S := S) hr (ok_t ho).2
    have e3 := s10 (k := k + 1) (S := S) l.d r.d q
    rw [callF, t_27]
    match q with
    | none =>
      simp only [Kd.d] at e3
      simp [runF, B27, Sn.d, e1, e2, e3, Kd.d, at41, at42]
    | some (a, b) =>
      simp only [Kd.d] at e3
      simp [runF, B27, Sn.d, e1, e2, e3, Kd.d, at41, at42]
end Lw

set_option Elab.async false
set_option linter.all false
set_option maxRecDepth 100000
namespace Lw
open PySem L2 Ev
/-! ### the words by a stack -/
abbrev SD (S : Sto) (f : List Str) (st : List Sn) : Sto := S ++ [lN f, .lst ((st.reverse.map Sn.d).map .d)]
def stW (st : List Sn) : Nat := (st.map fun s => 2 * s.size - 1).foldr (· + ·) 0
theorem whl_no {t : Fr → Sto → Res Bool} {body : Fr → Sto → SRes} {b n : Nat} {v : Ev.Env} {S : Sto} (h : t ⟨b, v⟩ S = .ok false S) : whl t body b (n + 1) v S = .nx v S := by
  unfold whl; rw [h]; rfl
theorem whl_nx {t : Fr → Sto → Res Bool} {body : Fr → Sto → SRes} {b n : Nat} {v v2 : Ev.Env} {S S2 : Sto} (h : t ⟨b, v⟩ S = .ok true S) (h2 : body ⟨b, v⟩ S = .nx v2 S2) : whl t body b (n + 1) v S = whl t body b n v2 S2 := by
  rw [whl, h]
  show (match body ⟨b, v⟩ S with
      | .nx v2 S2 => whl t body b n v2 S2
      | .ct v2 S2 => whl t body b n v2 S2
      | .bk v2 S2 => .nx v2 S2
      | o => o) = _
  rw [h2]
theorem size_pos : ∀ s : Sn, 1 ≤ s.size
  | .word _ => Nat.le_refl _
  | .menu l r => Nat.le_trans (size_pos l) (Nat.le_add_right _ _)
  | .trade _ l r => Nat.le_trans (size_pos l) (Nat.le_add_right _ _)
theorem len_stW : ∀ st : List Sn, st.length ≤ stW st
  | [] => Nat.le_refl _
  | s :: st => by
    have := len_stW st
    have := size_pos s
    unfold stW at *
    simp only [List.map_cons, List.foldr_cons, List.length_cons]
    omega
section
variable {k : Nat} {S : Sto} {b : Nat}
theorem test25 (x0 x3 : Option SV) (f : List Str) (st : List Sn) : T25_0 (tb k) ⟨b, [x0, some (.m S.length), some (.m (S.length + 1)), x3]⟩ (SD S f st) = .ok (!st.isEmpty) (SD S f st) := by
  have e := truS_ml (show (SD S f st)[S.length + 1]? = some (.lst ((st.reverse.map Sn.d).map .d)) by simp [SD])
  simp only [List.isEmpty_map, List.isEmpty_reverse] at e
  simp [T25_0, e]
theorem pop25 (s : Sn) (f : List Str) (st : List Sn) : muPop b (SD S f (s :: st)) (.m (S.length + 1)) [] = some (.d s.d, SD S f st) := by
  have e : (SD S f (s :: st))[S.length + 1]? = some (.lst ((st.reverse.map Sn.d).map .d ++ [.d s.d])) := by simp [SD]
  simp [muPop, e]
theorem push25 (s : Sn) (f : List Str) (st : List Sn) (h : st.length < 400) : muAppend b (SD S f st) (.m (S.length + 1)) [.d s.d] = some (.d .non, SD S f (s :: st)) := by
  have e : (SD S f st)[S.length + 1]? = some (.lst ((st.reverse.map Sn.d).map .d)) := by simp [SD]
  rw [muAppend_m e rfl (Nat.lt_trans (show _ < 400 by simpa using h) (by decide))]
  simp [SD]
theorem add25 (z : Str) (f : List Str) (st : List Sn) (h : f.length < 400) : muAppend b (SD S f st) (.m S.length) [.d (.str z)] = some (.d .non, SD S (f ++ [z]) st) := by
  have e : (SD S f st)[S.length]? = some (lN f) := by simp [SD]
  rw [muAppend_m e rfl (Nat.lt_trans (show _ < 400 by simpa using h) (by decide))]
  simp [SD]
theorem isL25a (f : List Str) (st : List Sn) : isL (SD S f st) (.m S.length) = true := isL_ml (xs := (f.map Dv.str).map .d) (by simp [SD])
theorem isL25b (f : List Str) (st : List Sn) : isL (SD S f st) (.m (S.length + 1)) = true := isL_ml (xs := (st.reverse.map Sn.d).map .d) (by simp [SD])
theorem turn25w (x0 x3 : Option SV) (z : Str) (f : List Str) (st : List Sn) (h : f.length < 400) :
    L25_0 (tb k) ⟨b, [x0, some (.m S.length), some (.m (S.length + 1)), x3]⟩ (SD S f (.word z :: st)) = .nx [x0, some (.m S.length), some (.m (S.length + 1)), some (.d (Sn.word z).d)] (SD S (f ++ [z]) st) := by
  have e1 := pop25 (S := S) (b := b) (.word z) f st
  have e2 := add25 (S := S) (b := b) z f st h
  have e3 := isL25a (S := S) f st
  have e4 := isL25b (S := S) f (.word z :: st)
  generalize SD S f (.word z :: st) = A at *
  generalize SD S f st = B at *
  generalize SD S (f ++ [z]) st = C at *
  simp only [Sn.d] at *
  simp [L25_0, e1, e2, e3, e4]
theorem turn25m (x0 x3 : Option SV)  (l r : Sn) (f : List Str) (st : List Sn) (h : st.length < 390) :
    L25_0 (tb k) ⟨b, [x0, some (.m S.length), some (.m (S.length + 1)), x3]⟩ (SD S f (Sn.menu l r :: st)) = .nx [x0, some (.m S.length), some (.m (S.length + 1)), some (.d (Sn.menu l r).d)] (SD S f (l :: r :: st)) := by
  have e1 := pop25 (S := S) (b := b) (Sn.menu l r) f st
  have e2 := push25 (S := S) (b := b) r f st (by omega)
  have e3 := push25 (S := S) (b := b) l f (r :: st) (by simp; omega)
  have e4 := isL25b (S := S) f (Sn.menu l r :: st)
  have e5 := isL25b (S := S) f st
  have e6 := isL25b (S := S) f (r :: st)
  generalize SD S f (Sn.menu l r :: st) = A at *
  generalize SD S f st = B at *
  generalize SD S f (l :: r :: st) = C at *
  generalize SD S f (r :: st) = D at *
  simp only [Sn.d] at *
  simp [L25_0, e1, e2, e3, e4, e5, e6, at31, at32]
theorem turn25t (x0 x3 : Option SV) (q : Kd) (l r : Sn) (f : List Str) (st : List Sn) (h : st.length < 390) :
    L25_0 (tb k) ⟨b, [x0, some (.m S.length), some (.m (S.length + 1)), x3]⟩ (SD S f (Sn.trade q l r :: st)) = .nx [x0, some (.m S.length), some (.m (S.length + 1)), some (.d (Sn.trade q l r).d)] (SD S f (l :: r :: st)) := by
  have e1 := pop25 (S := S) (b := b) (Sn.trade q l r) f st
  have e2 := push25 (S := S) (b := b) r f st (by omega)
  have e3 := push25 (S := S) (b := b) l f (r :: st) (by simp; omega)
  have e4 := isL25b (S := S) f (Sn.trade q l r :: st)
  have e5 := isL25b (S := S) f st
  have e6 := isL25b (S := S) f (r :: st)
  generalize SD S f (Sn.trade q l r :: st) = A at *
  generalize SD S f st = B at *
  generalize SD S f (l :: r :: st) = C at *
  generalize SD S f (r :: st) = D at *
  simp only [Sn.d] at *
  simp [L25_0, e1, e2, e3, e4, e5, e6, at41, at42]
theorem loop25 (x0 : Option SV) : ∀ (n : Nat) (st : List Sn) (f : List Str) (x3 : Option SV), stW st < n → f.length + stW st ≤ 380 → ∃ y, whl (T25_0 (tb k)) (L25_0 (tb k)) b n [x0, some (.m S.length), some (.m (S.length + 1)), x3] (SD S f st) = .nx [x0, some (.m S.length), some (.m (S.length + 1)), y] (SD S (f ++ st.flatMap Sn.words) [])
  | 0, _, _, _, h, _ => by omega
  | n + 1, [], f, x3, h, _ => ⟨x3, by rw [whl_no (test25 x0 x3 f [])]; simp⟩
  | n + 1, .word z :: st, f, x3, h, g => by
    simp only [stW, List.map_cons, List.foldr_cons, Sn.size] at h g
    obtain ⟨y, e⟩ := loop25 x0 n st (f ++ [z]) (some (.d (Sn.word z).d)) (by unfold stW; omega) (by unfold stW; simp; omega)
    refine ⟨y, ?_⟩
    rw [whl_nx (test25 x0 x3 f _) (turn25w x0 x3 z f st (by omega)), e]
    simp [Sn.words]
  | n + 1, .menu l r :: st, f, x3, h, g => by
    have hl := len_stW st
    have pl := size_pos l
    have pr := size_pos r
    unfold stW at hl
    simp only [stW, List.map_cons, List.foldr_cons, Sn.size] at h g
    obtain ⟨y, e⟩ := loop25 x0 n (l :: r :: st) f (some (.d (Sn.menu l r).d)) (by simp only [stW, List.map_cons, List.foldr_cons]; omega) (by simp only [stW, List.map_cons, List.foldr_cons]; omega)
    refine ⟨y, ?_⟩
    rw [whl_nx (test25 x0 x3 f _) (turn25m x0 x3 l r f st (by omega)), e]
    simp [Sn.words]
  | n + 1, .trade q l r :: st, f, x3, h, g => by
    have hl := len_stW st
    have pl := size_pos l
    have pr := size_pos r
    unfold stW at hl
    simp only [stW, List.map_cons, List.foldr_cons, Sn.size] at h g
    obtain ⟨y, e⟩ := loop25 x0 n (l :: r :: st) f (some (.d (Sn.trade q l r).d)) (by simp only [stW, List.map_cons, List.foldr_cons]; omega) (by simp only [stW, List.map_cons, List.foldr_cons]; omega)
    refine ⟨y, ?_⟩
    rw [whl_nx (test25 x0 x3 f _) (turn25t x0 x3 q l r f st (by omega)), e]
    simp [Sn.words]
end
end Lw

set_option Elab.async false
set_option linter.all false
set_option maxRecDepth 100000
namespace Lw
open PySem L2 Ev
theorem s25 (s : Sn) {k : Nat} {S : Sto} (hs : s.size ≤ 180) : callF (tb (k + 1) 25) [.d s.d] S = .ok (.d (.lst (s.words.map .str))) S := by
  rw [callF, t_25]
  obtain ⟨y, e⟩ := loop25 (k := k) (S := S) (b := S.length) (some (.d s.d)) 1000000 [s] [] none (by simp [stW]; omega) (by simp [stW]; omega)
  show fin S.length (B25 (tb k) ⟨S.length, [some (.d s.d), none, none, none]⟩ S).res = _
  have e0 : B25 (tb k) ⟨S.length, [some (.d s.d), none, none, none]⟩ S = sSeq (sWhile 1000000 (T25_0 (tb k)) (L25_0 (tb k))) (sRet (eVar 1)) ⟨S.length, [some (.d s.d), some (.m S.length), some (.m (S.length + 1)), none]⟩ (SD S [] [s]) := by
    unfold B25
    simp only [sSeq_ap, sSet_ap]
    simp [SD]
    rfl
  have e1 : sWhile 1000000 (T25_0 (tb k)) (L25_0 (tb k)) ⟨S.length, [some (.d s.d), some (.m S.length), some (.m (S.length + 1)), none]⟩ (SD S [] [s]) = whl (T25_0 (tb k)) (L25_0 (tb k)) S.length 1000000 [some (.d s.d), some (.m S.length), some (.m (S.length + 1)), none] (SD S [] [s]) := rfl
  rw [e0, sSeq_ap, e1, e, kSeq_nx, sRet_ap, eVar_ap]
  simp only [List.getElem?_cons_succ, List.getElem?_cons_zero]
  have q4 : (SD S ([] ++ [s].flatMap Sn.words) [])[S.length]? = some (.lst ((s.words.map Dv.str).map .d)) := by simp [SD]
  have hf := freeze_lst q4
  simp only [kRt_ok, SRes.res, fin, hf]
  simp
end Lw

set_option Elab.async false
set_option linter.all false
set_option maxRecDepth 100000
namespace Lw
open PySem L2 Ev
section
variable {k : Nat} {S : Sto}
theorem s8x (z : Str) (hz : z.cps.toList.length ≤ 1000) (h : isName z = false) : callF (tb (k + 2) 8) [.d (.str z)] S = .ex ⟨1, ["name"], [.str z]⟩ S := by
  rw [callF, t_8]
  simp [runF, B8, s7 z hz, h]
theorem s18s (z w : Str) : callF (tb (k + 1) 18) [.d (.str z), .d (.str w)] S = .ok (.d (.bl (decide (z = w)))) S := by
  rw [callF, t_18]
  simp [runF, B18]
  rw [Bool.eq_iff_iff]; simp
theorem s28 (z : Str) (hz : z.cps.toList.length ≤ 1000) (h : isName z = false) : callF (tb (k + 3) 28) [.d (.str z)] S = .ok (.d (.bl true)) S := by
  rw [callF, t_28]
  simp [runF, B28, s8x z hz h, H28_0, s18s]
theorem s6z (z : Str) (hz : z ≠ "once") (x y : Dv) : callF (tb (k + 2) 10) [.d x, .d y, .d (.str z)] S = .ex ⟨4, ["kind"], [.str z]⟩ S := by
  rw [callF, t_10]
  simp [runF, B10, s6n z hz]
theorem s30 (z : Str) (hz : z.cps.toList.length ≤ 1000) (h : isName z = false) (ho : z ≠ "once") (x y : Dv) : callF (tb (k + 3) 30) [.d (.str z), .d x, .d y] S = .ok (.d (.bl true)) S := by
  rw [callF, t_30]
  simp [runF, B30, s8x z hz h, s6z z ho, H30_0, H30_1]
end
end Lw

set_option Elab.async false
set_option linter.all false
set_option maxRecDepth 100000
namespace Lw
open PySem L2 Ev
section
variable {k : Nat} {S : Sto}
theorem s10x (v x y : Dv) (hk : callF (tb (k + 2) 6) [.d v] S = .ok (.d (.bl false)) S) : callF (tb (k + 3) 10) [.d x, .d y, .d v] S = .ex ⟨4, ["kind"], [v]⟩ S := by
  rw [callF, t_10]
  simp [runF, B10, hk]
theorem s29 (v x y : Dv) (hk : callF (tb (k + 2) 6) [.d v] S = .ok (.d (.bl false)) S) (hs : callF (tb (k + 3) 18) [.d v, .d v] S = .ok (.d (.bl true)) S) : callF (tb (k + 4) 29) [.d v, .d x, .d y] S = .ok (.d (.bl true)) S := by
  rw [callF, t_29]
  simp [runF, B29, s10x v x y hk, H29_0, hs]
end
end Lw

set_option Elab.async false
set_option linter.all false
set_option maxRecDepth 100000
namespace Lw
open PySem L2 Ev
/-! ### x is told as the pure y -/
inductive Told (S : Sto) : Nat → SV → Dv → Prop
  | non (n : Nat) : Told S n (.d .non) .non
  | bl (n : Nat) (b : Bool) : Told S n (.d (.bl b)) (.bl b)
  | int (n : Nat) (i : Int) : Told S n (.d (.int i)) (.int i)
  | str (n : Nat) (z : Str) : Told S n (.d (.str z)) (.str z)
  | lst (n : Nat) (x : SV) (as : List SV) (ys : List Dv) : tyS S x = some .lst → itemsOf S x = some as → as.length = ys.length → as.length ≤ 1000 → (∀ (i : Nat) a y, as[i]? = some a → ys[i]? = some y → Told S n a y) → Told S (n + 1) x (.lst ys)
  | tup (n : Nat) (x : SV) (as : List SV) (ys : List Dv) : tyS S x = some .tup → itemsOf S x = some as → as.length = ys.length → as.length ≤ 1000 → (∀ (i : Nat) a y, as[i]? = some a → ys[i]? = some y → Told S n a y) → Told S (n + 1) x (.tup ys)
theorem loop18 {S : Sto} {k b : Nat} {x : SV} {y : Dv} (h : ∀ i : Nat, i < b → True) (as : List SV) (ys : List Dv)
    (hx : ∀ i : Nat, i < ys.length → ∃ a w, opIx S x (.d (.int i)) = some a ∧ opIx S (.d y) (.d (.int i)) = some (.d w) ∧ callF (tb k 18) [a, .d w] S = .ok (.d (.bl true)) S) :
    ∀ (m : Nat) (j : Nat) (z : Option SV), j + m = ys.length → ∃ u, forL (gNm 2) (L18_0 (tb k)) b (rng j m) [some x, some (.d y), z] S = .nx [some x, some (.d y), u] S
  | 0, j, z, _ => ⟨z, rfl⟩
  | m + 1, j, z, hj => by
    obtain ⟨a, w, e1, e2, e3⟩ := hx j (by omega)
    obtain ⟨u, e⟩ := loop18 h as ys hx m (j + 1) (some (.d (.int j))) (by omega)
    refine ⟨u, ?_⟩
    rw [rng_succ, forL_cons]
    simp only [gNm_ap, put_ap, List.set_cons_succ, List.set_cons_zero, kTg_s]
    have e4 : L18_0 (tb k) ⟨b, [some x, some (.d y), some (.d (.int j))]⟩ S = .nx [some x, some (.d y), some (.d (.int j))] S := by simp [L18_0, e1, e2, e3]
    rw [e4, kTu_nx]
    exact e
theorem s18 {S : Sto} : ∀ (n : Nat) {k : Nat} {x : SV} {y : Dv}, Told S n x y → n ≤ k → callF (tb (k + 1) 18) [x, .d y] S = .ok (.d (.bl true)) S := by
  intro n k x y h
  induction h generalizing k with
  | non n => intro _; rw [callF, t_18]; simp [runF, B18]
  | bl n b => intro _; rw [callF, t_18]; simp [runF, B18]
  | int n i => intro _; rw [callF, t_18]; simp [runF, B18]
  | str n z => intro _; rw [callF, t_18]; simp [runF, B18]
  | lst n x as ys h1 h2 h3 h4 h5 ih =>
    intro hk
    obtain ⟨k, rfl⟩ : ∃ j, k = j + 1 := ⟨k - 1, by omega⟩
    have bl : biLen S [x] = some (.int ys.length) := by simp [biLen, h2, h3]
    obtain ⟨u, e⟩ := loop18 (S := S) (k := k + 1) (b := S.length) (x := x) (y := .lst ys) (fun _ _ => trivial) as ys (fun i hi => by
      have q1 : as[i]? = some (as[i]'(by omega)) := List.getElem?_eq_getElem _
      have q2 : ys[i]? = some (ys[i]) := List.getElem?_eq_getElem _
      refine ⟨_, _, ?_, ?_, ih i _ _ q1 q2 (by omega)⟩
      · simp [opIx, h2, atI_n, q1]
      · simp [opIx, itemsOf, atI_n, q2]) ys.length 0 none (by omega)
    rw [callF, t_18]
    have hs : small62 (ys.length : Int) = true := by simp [small62_ap]; omega
    simp [runF, B18, h1, bl, hs, e]
    rw [show rng 0 ys.length = rng ((0 : Nat) : Int) ys.length from rfl, e]
    simp
  | tup n x as ys h1 h2 h3 h4 h5 ih =>
    intro hk
    obtain ⟨k, rfl⟩ : ∃ j, k = j + 1 := ⟨k - 1, by omega⟩
    have bl : biLen S [x] = some (.int ys.length) := by simp [biLen, h2, h3]
    obtain ⟨u, e⟩ := loop18 (S := S) (k := k + 1) (b := S.length) (x := x) (y := .tup ys) (fun _ _ => trivial) as ys (fun i hi => by
      have q1 : as[i]? = some (as[i]'(by omega)) := List.getElem?_eq_getElem _
      have q2 : ys[i]? = some (ys[i]) := List.getElem?_eq_getElem _
      refine ⟨_, _, ?_, ?_, ih i _ _ q1 q2 (by omega)⟩
      · simp [opIx, h2, atI_n, q1]
      · simp [opIx, itemsOf, atI_n, q2]) ys.length 0 none (by omega)
    rw [callF, t_18]
    have hs : small62 (ys.length : Int) = true := by simp [small62_ap]; omega
    simp [runF, B18, h1, bl, hs, e]
    rw [show rng 0 ys.length = rng ((0 : Nat) : Int) ys.length from rfl, e]
    simp
end Lw

set_option Elab.async false
set_option linter.all false
set_option maxRecDepth 100000
namespace Lw
open PySem L2 Ev
/-! ### the legs by a stack -/
abbrev It4 := List Dv × Sn
def It4.d (s : It4) : Dv := .tup [.lst s.1, s.2.d]
abbrev SL (S : Sto) (f : List Leg) (st : List It4) : Sto := S ++ [.lst ((f.map Leg.d).map .d), .lst ((st.reverse.map It4.d).map .d)]
section
variable {k : Nat} {S : Sto} {b : Nat}
theorem test24 (x0 x3 x4 : Option SV) (f : List Leg) (st : List It4) : T24_0 (tb k) ⟨b, [x0, some (.m S.length), some (.m (S.length + 1)), x3, x4]⟩ (SL S f st) = .ok (!st.isEmpty) (SL S f st) := by
  have e := truS_ml (show (SL S f st)[S.length + 1]? = some (.lst ((st.reverse.map It4.d).map .d)) by simp [SL])
  simp only [List.isEmpty_map, List.isEmpty_reverse] at e
  simp [T24_0, e]
theorem pop24 (s : It4) (f : List Leg) (st : List It4) : muPop b (SL S f (s :: st)) (.m (S.length + 1)) [] = some (.d s.d, SL S f st) := by
  have e : (SL S f (s :: st))[S.length + 1]? = some (.lst ((st.reverse.map It4.d).map .d ++ [.d s.d])) := by simp [SL]
  simp [muPop, e]
theorem push24 (s : It4) (f : List Leg) (st : List It4) (h : st.length < 400) : muAppend b (SL S f st) (.m (S.length + 1)) [.d s.d] = some (.d .non, SL S f (s :: st)) := by
  have e : (SL S f st)[S.length + 1]? = some (.lst ((st.reverse.map It4.d).map .d)) := by simp [SL]
  rw [muAppend_m e rfl (Nat.lt_trans (show _ < 400 by simpa using h) (by decide))]
  simp [SL]
theorem add24 (z : Leg) (f : List Leg) (st : List It4) (h : f.length < 400) : muAppend b (SL S f st) (.m S.length) [.d z.d] = some (.d .non, SL S (f ++ [z]) st) := by
  have e : (SL S f st)[S.length]? = some (.lst ((f.map Leg.d).map .d)) := by simp [SL]
  rw [muAppend_m e rfl (Nat.lt_trans (show _ < 400 by simpa using h) (by decide))]
  simp [SL]
theorem isL24a (f : List Leg) (st : List It4) : isL (SL S f st) (.m S.length) = true := isL_ml (xs := (f.map Leg.d).map .d) (by simp [SL])
theorem isL24b (f : List Leg) (st : List It4) : isL (SL S f st) (.m (S.length + 1)) = true := isL_ml (xs := (st.reverse.map It4.d).map .d) (by simp [SL])
end
end Lw

set_option Elab.async false
set_option linter.all false
set_option maxRecDepth 100000
namespace Lw
open PySem L2 Ev
section
variable {k : Nat} {S : Sto} {b : Nat}
theorem turn24w (x0 x3 x4 : Option SV) (ps : List Dv) (z : Str) (f : List Leg) (st : List It4) (h : f.length < 400) :
    ∃ y3 y4, L24_0 (tb k) ⟨b, [x0, some (.m S.length), some (.m (S.length + 1)), x3, x4]⟩ (SL S f ((ps, .word z) :: st)) = .nx [x0, some (.m S.length), some (.m (S.length + 1)), y3, y4] (SL S (f ++ [(ps, z)]) st) := by
  have e1 := pop24 (S := S) (b := b) (ps, .word z) f st
  have e2 := add24 (S := S) (b := b) (ps, z) f st h
  have e3 := isL24a (S := S) f st
  have e4 := isL24b (S := S) f ((ps, .word z) :: st)
  refine ⟨some (.d (It4.d (ps, .word z))), some (.d (Sn.word z).d), ?_⟩
  generalize SL S f ((ps, .word z) :: st) = A at *
  generalize SL S f st = B at *
  generalize SL S (f ++ [(ps, z)]) st = C at *
  simp only [It4.d, Leg.d, Sn.d] at *
  simp [L24_0, e1, e2, e3, e4]
theorem turn24m (x0 x3 x4 : Option SV) (ps : List Dv) (l r : Sn) (f : List Leg) (st : List It4) (h : st.length < 390) (hp : ps.length ≤ most) :
    ∃ y3 y4, L24_0 (tb k) ⟨b, [x0, some (.m S.length), some (.m (S.length + 1)), x3, x4]⟩ (SL S f ((ps, .menu l r) :: st)) = .nx [x0, some (.m S.length), some (.m (S.length + 1)), y3, y4] (SL S f ((ps, l) :: (ps, r) :: st)) := by
  have e1 := pop24 (S := S) (b := b) (ps, .menu l r) f st
  have e2 := push24 (S := S) (b := b) (ps, r) f st (by omega)
  have e3 := push24 (S := S) (b := b) (ps, l) f ((ps, r) :: st) (by simp; omega)
  have e4 := isL24b (S := S) f ((ps, .menu l r) :: st)
  have e5 := isL24b (S := S) f st
  have e6 := isL24b (S := S) f ((ps, r) :: st)
  refine ⟨some (.d (It4.d (ps, .menu l r))), some (.d (Sn.menu l r).d), ?_⟩
  generalize SL S f ((ps, .menu l r) :: st) = A at *
  generalize SL S f st = B at *
  generalize SL S f ((ps, l) :: (ps, r) :: st) = C at *
  generalize SL S f ((ps, r) :: st) = D at *
  simp only [It4.d, Leg.d, Sn.d] at *
  have bl : ∀ T : Sto, biList T [.d (.lst ps)] = some (.lst ps) := fun T => by simp [biList, itemsOf, hp]
  simp [L24_0, e1, e2, e3, e4, e5, e6, bl]
theorem turn24t (x0 x3 x4 : Option SV) (ps : List Dv) (q : Kd) (l r : Sn) (f : List Leg) (st : List It4) (h : st.length < 390) (hp : ps.length + 1 ≤ most) :
    ∃ y3 y4, L24_0 (tb k) ⟨b, [x0, some (.m S.length), some (.m (S.length + 1)), x3, x4]⟩ (SL S f ((ps, .trade q l r) :: st)) = .nx [x0, some (.m S.length), some (.m (S.length + 1)), y3, y4] (SL S f ((ps ++ [prD q l], r) :: st)) := by
  have e1 := pop24 (S := S) (b := b) (ps, .trade q l r) f st
  have e2 := push24 (S := S) (b := b) (ps ++ [prD q l], r) f st (by omega)
  have e4 := isL24b (S := S) f ((ps, .trade q l r) :: st)
  have e5 := isL24b (S := S) f st
  refine ⟨some (.d (It4.d (ps, .trade q l r))), some (.d (Sn.trade q l r).d), ?_⟩
  generalize SL S f ((ps, .trade q l r) :: st) = A at *
  generalize SL S f st = B at *
  generalize SL S f ((ps ++ [prD q l], r) :: st) = C at *
  simp only [It4.d, Leg.d, Sn.d, prD] at *
  simp [L24_0, e1, e2, e4, e5, hp]
end
end Lw

set_option Elab.async false
set_option linter.all false
set_option maxRecDepth 100000
namespace Lw
open PySem L2 Ev
def itL (s : It4) : List Leg := s.2.legs.map fun x => (s.1 ++ x.1, x.2)
def lW (st : List It4) : Nat := stW (st.map (·.2))
section
variable {k : Nat} {S : Sto} {b : Nat}
theorem loop24 (x0 : Option SV) : ∀ (n : Nat) (st : List It4) (f : List Leg) (x3 x4 : Option SV), lW st < n → f.length + lW st ≤ 380 → (∀ s ∈ st, s.1.length + s.2.ht ≤ 400) →
    ∃ y3 y4, whl (T24_0 (tb k)) (L24_0 (tb k)) b n [x0, some (.m S.length), some (.m (S.length + 1)), x3, x4] (SL S f st) = .nx [x0, some (.m S.length), some (.m (S.length + 1)), y3, y4] (SL S (f ++ st.flatMap itL) [])
  | 0, _, _, _, _, h, _, _ => by omega
  | n + 1, [], f, x3, x4, h, _, _ => ⟨x3, x4, by rw [whl_no (test24 x0 x3 x4 f [])]; simp⟩
  | n + 1, (ps, .word z) :: st, f, x3, x4, h, g, hp => by
    simp only [lW, stW, List.map_cons, List.foldr_cons, Sn.size] at h g
    obtain ⟨y3, y4, e1⟩ := turn24w (k := k) (S := S) (b := b) x0 x3 x4 ps z f st (by omega)
    obtain ⟨z3, z4, e⟩ := loop24 x0 n st (f ++ [(ps, z)]) y3 y4 (by unfold lW stW; omega) (by unfold lW stW; simp only [List.length_append, List.length_cons, List.length_nil]; omega) (fun s hs => hp s (List.mem_cons_of_mem _ hs))
    refine ⟨z3, z4, ?_⟩
    rw [whl_nx (test24 x0 x3 x4 f _) e1, e]
    simp [itL, Sn.legs]
  | n + 1, (ps, .menu l r) :: st, f, x3, x4, h, g, hp => by
    have hl := len_stW (st.map (·.2))
    rw [List.length_map] at hl
    have pl := size_pos l
    have pr := size_pos r
    have hq := hp (ps, .menu l r) (List.mem_cons_self ..)
    simp only [Sn.ht] at hq
    unfold stW at hl
    simp only [lW, stW, List.map_cons, List.foldr_cons, Sn.size] at h g
    obtain ⟨y3, y4, e1⟩ := turn24m (k := k) (S := S) (b := b) x0 x3 x4 ps l r f st (by omega) (Nat.le_trans (m := 400) (by omega) (by decide))
    obtain ⟨z3, z4, e⟩ := loop24 x0 n ((ps, l) :: (ps, r) :: st) f y3 y4 (by simp only [lW, stW, List.map_cons, List.foldr_cons]; omega) (by simp only [lW, stW, List.map_cons, List.foldr_cons]; omega) (fun s hs => by
      rcases List.mem_cons.1 hs with rfl | hs
      · simp only; omega
      rcases List.mem_cons.1 hs with rfl | hs
      · simp only; omega
      · exact hp s (List.mem_cons_of_mem _ hs))
    refine ⟨z3, z4, ?_⟩
    rw [whl_nx (test24 x0 x3 x4 f _) e1, e]
    simp [itL, Sn.legs]
  | n + 1, (ps, .trade q l r) :: st, f, x3, x4, h, g, hp => by
    have hl := len_stW (st.map (·.2))
    rw [List.length_map] at hl
    have pl := size_pos l
    have pr := size_pos r
    have hq := hp (ps, .trade q l r) (List.mem_cons_self ..)
    simp only [Sn.ht] at hq
    unfold stW at hl
    simp only [lW, stW, List.map_cons, List.foldr_cons, Sn.size] at h g
    obtain ⟨y3, y4, e1⟩ := turn24t (k := k) (S := S) (b := b) x0 x3 x4 ps q l r f st (by omega) (Nat.le_trans (m := 402) (by omega) (by decide))
    obtain ⟨z3, z4, e⟩ := loop24 x0 n ((ps ++ [prD q l], r) :: st) f y3 y4 (by simp only [lW, stW, List.map_cons, List.foldr_cons]; omega) (by simp only [lW, stW, List.map_cons, List.foldr_cons]; omega) (fun s hs => by
      rcases List.mem_cons.1 hs with rfl | hs
      · simp only [List.length_append, List.length_cons, List.length_nil]; omega
      · exact hp s (List.mem_cons_of_mem _ hs))
    refine ⟨z3, z4, ?_⟩
    rw [whl_nx (test24 x0 x3 x4 f _) e1, e]
    simp [itL, Sn.legs]
end
end Lw

set_option Elab.async false
set_option linter.all false
set_option maxRecDepth 100000
namespace Lw
open PySem L2 Ev
theorem s24 (s : Sn) {k : Nat} {S : Sto} (hs : s.size ≤ 180) (hh : s.ht ≤ 390) : callF (tb (k + 1) 24) [.d s.d] S = .ok (.d (.lst (s.legs.map Leg.d))) S := by
  rw [callF, t_24]
  obtain ⟨y3, y4, e⟩ := loop24 (k := k) (S := S) (b := S.length) (some (.d s.d)) 1000000 [([], s)] [] none none (by simp [lW, stW]; omega) (by simp [lW, stW]; omega) (by simp; omega)
  show fin S.length (B24 (tb k) ⟨S.length, [some (.d s.d), none, none, none, none]⟩ S).res = _
  have e0 : B24 (tb k) ⟨S.length, [some (.d s.d), none, none, none, none]⟩ S = sSeq (sWhile 1000000 (T24_0 (tb k)) (L24_0 (tb k))) (sRet (eVar 1)) ⟨S.length, [some (.d s.d), some (.m S.length), some (.m (S.length + 1)), none, none]⟩ (SL S [] [([], s)]) := by
    unfold B24
    simp only [sSeq_ap, sSet_ap]
    simp [SL, It4.d]
  have e1 : sWhile 1000000 (T24_0 (tb k)) (L24_0 (tb k)) ⟨S.length, [some (.d s.d), some (.m S.length), some (.m (S.length + 1)), none, none]⟩ (SL S [] [([], s)]) = whl (T24_0 (tb k)) (L24_0 (tb k)) S.length 1000000 [some (.d s.d), some (.m S.length), some (.m (S.length + 1)), none, none] (SL S [] [([], s)]) := rfl
  have hf0 : ([] ++ [(([], s) : It4)].flatMap itL) = s.legs := by simp [itL]
  rw [hf0] at e
  rw [e0, sSeq_ap, e1, e, kSeq_nx, sRet_ap, eVar_ap]
  simp only [List.getElem?_cons_succ, List.getElem?_cons_zero]
  have q4 : (SL S s.legs [])[S.length]? = some (.lst ((s.legs.map Leg.d).map .d)) := by simp [SL]
  have hf := freeze_lst q4
  simp only [kRt_ok, SRes.res, fin, hf]
  simp
end Lw

set_option Elab.async false
set_option linter.all false
set_option maxRecDepth 100000
namespace Lw
open PySem L2 Ev
theorem Told.mono {S : Sto} {n : Nat} {x : SV} {y : Dv} (h : Told S n x y) : ∀ {m : Nat}, n ≤ m → Told S m x y := by
  induction h with
  | non n => exact fun _ => .non _
  | bl n b => exact fun _ => .bl _ b
  | int n i => exact fun _ => .int _ i
  | str n z => exact fun _ => .str _ z
  | lst n x as ys h1 h2 h3 h4 h5 ih =>
    intro m hm
    obtain ⟨m, rfl⟩ : ∃ j, m = j + 1 := ⟨m - 1, by omega⟩
    exact .lst m x as ys h1 h2 h3 h4 fun i a y ha hy => ih i a y ha hy (by omega)
  | tup n x as ys h1 h2 h3 h4 h5 ih =>
    intro m hm
    obtain ⟨m, rfl⟩ : ∃ j, m = j + 1 := ⟨m - 1, by omega⟩
    exact .tup m x as ys h1 h2 h3 h4 fun i a y ha hy => ih i a y ha hy (by omega)
theorem told_tup {S : Sto} {n : Nat} {ys : List Dv} (hl : ys.length ≤ 1000) (h : ∀ y ∈ ys, Told S n (.d y) y) : Told S (n + 1) (.d (.tup ys)) (.tup ys) := by
  refine .tup n _ (ys.map .d) ys rfl rfl (by simp) (by simpa using hl) fun i a y ha hy => ?_
  rw [List.getElem?_map, hy] at ha
  cases ha
  exact h y (List.mem_of_getElem? hy)
theorem told_lst {S : Sto} {n : Nat} {ys : List Dv} (hl : ys.length ≤ 1000) (h : ∀ y ∈ ys, Told S n (.d y) y) : Told S (n + 1) (.d (.lst ys)) (.lst ys) := by
  refine .lst n _ (ys.map .d) ys rfl rfl (by simp) (by simpa using hl) fun i a y ha hy => ?_
  rw [List.getElem?_map, hy] at ha
  cases ha
  exact h y (List.mem_of_getElem? hy)
theorem told_kd {S : Sto} (q : Kd) : Told S 1 (.d q.d) q.d := by
  match q with
  | none => exact .str _ _
  | some (a, b) =>
    refine told_tup (by simp) fun y hy => ?_
    simp at hy
    rcases hy with rfl | rfl <;> exact .int _ _
theorem told_sn {S : Sto} : ∀ s : Sn, Told S s.ht (.d s.d) s.d
  | .word z => told_tup (by simp) fun y hy => by
    simp at hy
    rcases hy with rfl | rfl <;> exact .str _ _
  | .menu l r => told_tup (by simp) fun y hy => by
    simp at hy
    rcases hy with rfl | rfl | rfl
    · exact .str _ _
    · exact (told_sn l).mono (Nat.le_max_left _ _)
    · exact (told_sn r).mono (Nat.le_max_right _ _)
  | .trade q l r => told_tup (by simp) fun y hy => by
    have h1 : 1 ≤ l.ht := by cases l <;> simp [Sn.ht]
    simp at hy
    rcases hy with rfl | rfl | rfl | rfl
    · exact .str _ _
    · exact (told_kd q).mono (Nat.le_trans h1 (Nat.le_max_left _ _))
    · exact (told_sn l).mono (Nat.le_max_left _ _)
    · exact (told_sn r).mono (Nat.le_max_right _ _)
theorem told_prices {S : Sto} : ∀ (s : Sn) (x : Leg), x ∈ s.legs → ∀ y ∈ x.1, Told S s.ht (.d y) y
  | .word z, x, hx, y, hy => by
    simp [Sn.legs] at hx
    subst hx
    cases hy
  | .menu l r, x, hx, y, hy => by
    rw [Sn.legs, List.mem_append] at hx
    rcases hx with hx | hx
    · exact (told_prices l x hx y hy).mono (by simp only [Sn.ht]; omega)
    · exact (told_prices r x hx y hy).mono (by simp only [Sn.ht]; omega)
  | .trade q l r, x, hx, y, hy => by
    rw [Sn.legs, List.mem_map] at hx
    obtain ⟨u, hu, rfl⟩ := hx
    rcases List.mem_cons.1 hy with rfl | hy
    · have h1 : 1 ≤ l.ht := by cases l <;> simp [Sn.ht]
      have : Told S (l.ht + 1) (.d (prD q l)) (prD q l) := told_tup (by simp) fun y hy => by
        simp at hy
        rcases hy with rfl | rfl
        · exact (told_kd q).mono h1
        · exact told_sn l
      exact this.mono (by simp only [Sn.ht]; omega)
    · exact (told_prices r u hu y hy).mono (by simp only [Sn.ht]; omega)
/-- a kept row -/
theorem told_row {B i n : Nat} {S : Sto} {r : LRow} (h : RowOk B i S r) (hl : r.x.1.length ≤ 1000) (ht : ∀ y ∈ r.x.1, Told S n (.d y) y) : Told S (n + 2) (.m r.t) r.x.d := by
  refine .tup (n + 1) _ [.m r.p, .d (.str r.x.2)] [.lst r.x.1, .str r.x.2] (by simp [tyS, h.tup]) (by simp [itemsOf, h.tup]) rfl (by simp) fun j a y ha hy => ?_
  match j with
  | 0 =>
    cases ha
    cases hy
    refine .lst n _ (r.x.1.map .d) r.x.1 (by simp [tyS, h.lst]) (by simp [itemsOf, h.lst]) (by simp) (by simpa using hl) fun i a y ha hy => ?_
    rw [List.getElem?_map, hy] at ha
    cases ha
    exact ht y (List.mem_of_getElem? hy)
  | 1 =>
    cases ha
    cases hy
    exact .str _ _
  | j + 2 => cases ha
theorem told_rows {B i j n : Nat} {S : Sto} {rs : List LRow} (hj : S[j]? = some (.lst (rs.map fun r => .m r.t))) (hr : ∀ r ∈ rs, RowOk B i S r) (hm : rs.length ≤ 1000) (hl : ∀ r ∈ rs, r.x.1.length ≤ 1000) (ht : ∀ r ∈ rs, ∀ y ∈ r.x.1, Told S n (.d y) y) : Told S (n + 3) (.m j) (.lst ((rs.map LRow.x).map Leg.d)) := by
  refine .lst (n + 2) _ (rs.map fun r => .m r.t) _ (by simp [tyS, hj]) (by simp [itemsOf, hj]) (by simp) (by simpa using hm) fun i a y ha hy => ?_
  rw [List.getElem?_map] at ha hy
  rw [List.getElem?_map] at hy
  match e : rs[i]? with
  | none => rw [e] at ha; cases ha
  | some r =>
    rw [e] at ha hy
    cases ha
    cases hy
    have hr' := List.mem_of_getElem? e
    exact told_row (hr r hr') (hl r hr') (ht r hr')
/-- two kept lists of texts -/
theorem loop18g {S : Sto} {k b : Nat} {x y : SV} {n : Nat}
    (hx : ∀ i : Nat, i < n → ∃ a w, opIx S x (.d (.int i)) = some a ∧ opIx S y (.d (.int i)) = some w ∧ callF (tb k 18) [a, w] S = .ok (.d (.bl true)) S) :
    ∀ (m : Nat) (j : Nat) (z : Option SV), j + m = n → ∃ u, forL (gNm 2) (L18_0 (tb k)) b (rng j m) [some x, some y, z] S = .nx [some x, some y, u] S
  | 0, j, z, _ => ⟨z, rfl⟩
  | m + 1, j, z, hj => by
    obtain ⟨a, w, e1, e2, e3⟩ := hx j (by omega)
    obtain ⟨u, e⟩ := loop18g hx m (j + 1) (some (.d (.int j))) (by omega)
    refine ⟨u, ?_⟩
    rw [rng_succ, forL_cons]
    simp only [gNm_ap, put_ap, List.set_cons_succ, List.set_cons_zero, kTg_s]
    have e4 : L18_0 (tb k) ⟨b, [some x, some y, some (.d (.int j))]⟩ S = .nx [some x, some y, some (.d (.int j))] S := by simp [L18_0, e1, e2, e3]
    rw [e4, kTu_nx]
    exact e
theorem s18mm {S : Sto} {k i j : Nat} {zs : List Str} (hi : S[i]? = some (lN zs)) (hj : S[j]? = some (lN zs)) (hl : zs.length ≤ 1000) : callF (tb (k + 2) 18) [.m i, .m j] S = .ok (.d (.bl true)) S := by
  unfold lN at hi hj
  have bi : biLen S [.m i] = some (.int zs.length) := by simp [biLen, itemsOf, hi]
  have bj : biLen S [.m j] = some (.int zs.length) := by simp [biLen, itemsOf, hj]
  have ti : tyS S (.m i) = some .lst := by simp [tyS, hi]
  have tj : tyS S (.m j) = some .lst := by simp [tyS, hj]
  obtain ⟨u, e⟩ := loop18g (S := S) (k := k + 1) (b := S.length) (x := .m i) (y := .m j) (n := zs.length) (fun m hm => by
    have q1 : zs[m]? = some zs[m] := List.getElem?_eq_getElem _
    refine ⟨.d (.str zs[m]), .d (.str zs[m]), ?_, ?_, ?_⟩
    · simp [opIx, itemsOf, hi, atI_n, q1]
    · simp [opIx, itemsOf, hj, atI_n, q1]
    · rw [s18s]; simp) zs.length 0 none (by omega)
  rw [callF, t_18]
  have hs : small62 (zs.length : Int) = true := by simp [small62_ap]; omega
  simp [runF, B18, ti, tj, bi, bj, hs]
  rw [show rng 0 zs.length = rng ((0 : Nat) : Int) zs.length from rfl, e]
  simp [SV.isNon]
end Lw

set_option Elab.async false
set_option linter.all false
set_option maxRecDepth 100000
namespace Lw
open PySem L2 Ev
/-! ### the kept legs, spoilt -/
def bump (pr : Dv) (r : LRow) : LRow := ⟨r.t, r.p, (r.x.1 ++ [pr], r.x.2)⟩
def spoil (pr : Dv) (S : Sto) (r : LRow) : Sto := S.set r.p (.lst ((r.x.1 ++ [pr]).map .d))
theorem LGr.bump {B i : Nat} {S : Sto} {A C : List LRow} {r : LRow} (pr : Dv) (h : LGr B S i (A ++ r :: C)) : LGr B (spoil pr S r) i (A ++ bump pr r :: C) := by
  have hr := h.rows r (by simp)
  have hp := lt_get hr.lst
  have nd := h.nd
  have oth : ∀ j, j ≠ r.p → (spoil pr S r)[j]? = S[j]? := fun j hj => List.getElem?_set_ne (fun z => hj z.symm)
  have nt : ∀ u ∈ A ++ r :: C, u.t ≠ r.p := fun u hu e => by
    have q := (h.rows u hu).tup
    rw [e, hr.lst] at q
    cases q
  refine ⟨?_, h.bi, fun u hu => ?_, ?_⟩
  · rw [oth i (fun z => hr.ne z.symm), h.top]
    simp [Lw.bump]
  · have hu' : u = Lw.bump pr r ∨ (u ∈ A ++ r :: C ∧ u.p ≠ r.p) := by
      rw [List.map_append, List.map_cons, List.nodup_append] at nd
      obtain ⟨_, n2, n3⟩ := nd
      rw [List.nodup_cons] at n2
      rcases List.mem_append.1 hu with hu | hu
      · exact .inr ⟨List.mem_append_left _ hu, n3 u.p (List.mem_map_of_mem hu) r.p (by simp)⟩
      · rcases List.mem_cons.1 hu with rfl | hu
        · exact .inl rfl
        · exact .inr ⟨List.mem_append_right _ (List.mem_cons_of_mem _ hu), fun e => n2.1 (e ▸ List.mem_map_of_mem hu)⟩
    rcases hu' with rfl | ⟨hu, hne⟩
    · refine ⟨?_, ?_, hr.bt, hr.bp, hr.ne⟩
      · show (spoil pr S r)[r.t]? = _
        rw [oth _ (nt r (by simp))]; exact hr.tup
      · show (spoil pr S r)[r.p]? = _
        simp [spoil, hp, Lw.bump]
    · have q := h.rows u hu
      exact ⟨by rw [oth _ (nt u hu)]; exact q.tup, by rw [oth _ hne]; exact q.lst, q.bt, q.bp, q.ne⟩
  · rw [List.map_append, List.map_cons] at nd ⊢
    exact nd
theorem turn26 {k b B i : Nat} {S : Sto} {rs : List LRow} {r : LRow} {A C : List LRow} (x : Dv) (v1 v2 v3 v4 v5 v6 v7 v8 v9 : Option SV) (h : LGr B S i (A ++ r :: C)) (hl : r.x.1.length ≤ 900) :
    L26_0 (tb k) ⟨b, [some (.d x), v1, v2, v3, v4, v5, v6, v7, some (.m r.t), v9]⟩ S = .nx [some (.d x), v1, v2, v3, v4, v5, v6, v7, some (.m r.t), some (.m r.p)] (spoil (.tup [.str "once", x]) S r) := by
  have hr := h.rows r (by simp)
  have e1 : opIx S (.m r.t) (.d (.int 0)) = some (.m r.p) := by simp [opIx, itemsOf, hr.tup]
  have e2 : isL S (.m r.p) = true := isL_ml hr.lst
  have e3 : muAppend b S (.m r.p) [.d (.tup [.str "once", x])] = some (.d .non, spoil (.tup [.str "once", x]) S r) := by
    rw [muAppend_m hr.lst rfl (Nat.lt_of_le_of_lt (show _ ≤ 900 by simpa using hl) (by decide))]
    simp [spoil]
  simp [L26_0, e1, e2, e3]
theorem loop26 {k b B i : Nat} (x : Dv) (v1 v2 v3 v4 v5 v6 v7 : Option SV) : ∀ (C A : List LRow) (n : Nat) (S : Sto) (v8 v9 : Option SV), C.length < n → LGr B S i (A ++ C) → (∀ r ∈ C, r.x.1.length ≤ 900) →
    ∃ y8 y9 S', Ev.forM (gNm 8) (L26_0 (tb k)) b i n A.length [some (.d x), v1, v2, v3, v4, v5, v6, v7, v8, v9] S = .nx [some (.d x), v1, v2, v3, v4, v5, v6, v7, y8, y9] S' ∧ S'.length = S.length ∧ S'[i]? = S[i]? ∧ ∀ j, (∀ r ∈ C, r.p ≠ j) → S'[j]? = S[j]?
  | [], A, n, S, v8, v9, hn, h, _ => by
    obtain ⟨n, rfl⟩ : ∃ m, n = m + 1 := ⟨n - 1, by simp at hn; omega⟩
    refine ⟨v8, v9, S, ?_, rfl, rfl, fun _ _ => rfl⟩
    have ht := h.top
    unfold Ev.forM
    rw [ht]
    simp
  | r :: C, A, n, S, v8, v9, hn, h, hl => by
    obtain ⟨n, rfl⟩ : ∃ m, n = m + 1 := ⟨n - 1, by simp at hn; omega⟩
    have ht := h.top
    have hr := h.rows r (by simp)
    have e1 := turn26 (k := k) (b := b) (rs := []) x v1 v2 v3 v4 v5 v6 v7 v8 v9 h (hl r (by simp))
    have h2 := h.bump (.tup [.str "once", x])
    have hA : A ++ bump (.tup [.str "once", x]) r :: C = (A ++ [bump (.tup [.str "once", x]) r]) ++ C := by simp
    rw [hA] at h2
    obtain ⟨y8, y9, S', e2, l2, i2, o2⟩ := loop26 x v1 v2 v3 v4 v5 v6 v7 C _ n _ (some (.m r.t)) (some (.m r.p)) (by simp at hn ⊢; omega) h2 (fun u hu => hl u (List.mem_cons_of_mem _ hu))
    have oth : ∀ j, j ≠ r.p → (spoil (.tup [.str "once", x]) S r)[j]? = S[j]? := fun j hj => List.getElem?_set_ne (fun z => hj z.symm)
    refine ⟨y8, y9, S', ?_, l2.trans (by simp [spoil]), i2.trans (oth i fun z => hr.ne z.symm), fun j hj => ?_⟩
    · have hx : ((A ++ r :: C).map fun r => SV.m r.t)[A.length]? = some (.m r.t) := by simp
      unfold Ev.forM
      rw [ht]
      simp only [hx, gNm_ap, put_ap, List.set_cons_succ, List.set_cons_zero, e1]
      rw [List.length_append, List.length_singleton] at e2
      exact e2
    · rw [o2 j fun u hu => hj u (List.mem_cons_of_mem _ hu)]
      exact oth j fun z => hj r (by simp) z.symm
end Lw

set_option Elab.async false
set_option linter.all false
set_option maxRecDepth 100000
namespace Lw
open PySem L2 Ev
theorem turn26b {k b : Nat} {S : Sto} (x0 x1 x2 x5 x6 x7 x8 x9 : Option SV) (zs : List Str) (z : Str) (h : zs.length < 500) :
    L26_1 (tb k) ⟨b, [x0, x1, x2, some (.m S.length), some (.d (.str z)), x5, x6, x7, x8, x9]⟩ (S ++ [lN zs]) = .nx [x0, x1, x2, some (.m S.length), some (.d (.str z)), x5, x6, x7, x8, x9] (S ++ [lN (addN zs z)]) := by
  have e1 := inN z (show (S ++ [lN zs])[S.length]? = some (lN zs) from top_m _ _)
  have e2 : muAppend b (S ++ [lN zs]) (.m S.length) [.d (.str z)] = some (.d .non, (S ++ [lN zs]).set S.length (.lst ((zs.map Dv.str).map .d ++ [.d (.str z)]))) :=
    muAppend_m (top_m _ _) rfl (Nat.lt_trans (show _ < 500 by simpa using h) (by decide))
  have e3 : isL (S ++ [lN zs]) (.m S.length) = true := isL_ml (top_m _ _)
  by_cases hz : z ∈ zs
  · simp [L26_1, e1, hz, addN]
  · simp [L26_1, e1, e2, e3, hz, addN]
theorem rows_d (s : Sn) {B i : Nat} {S : Sto} {rs : List LRow} (g : LGr B S i rs) (l : rs.map LRow.x = s.legs) (hh : s.ht ≤ 40) :
    (∀ r ∈ rs, r.x.1.length ≤ 900) ∧ ∀ r ∈ rs, ∀ y ∈ r.x.1, Told S s.ht (.d y) y := by
  have hm : ∀ r ∈ rs, r.x ∈ s.legs := fun r hr => l ▸ List.mem_map_of_mem hr
  exact ⟨fun r hr => by have := legs_ht s r.x (hm r hr); omega, fun r hr y hy => told_prices s r.x (hm r hr) y hy⟩
theorem s26 (s : Sn) {k : Nat} {S : Sto} (hh : s.ht ≤ 40) (hs : s.size ≤ 80) (hk : 50 ≤ k) (hk2 : k ≤ 300) : callF (tb (k + 1) 26) [.d s.d] S = .ok (.d (.bl true)) S := by
  obtain ⟨m, rfl⟩ : ∃ m, k = m + 4 := ⟨k - 4, by omega⟩
  have e24 : ∀ S, callF (tb (m + 4) 24) [.d s.d] S = _ := fun S => s24 (k := m + 3) (S := S) s (by omega) (by omega)
  have e25 : ∀ S, callF (tb (m + 4) 25) [.d s.d] S = _ := fun S => s25 (k := m + 3) (S := S) s (by omega)
  have e12 : ∀ S, callF (tb (m + 4) 12) [.d s.d] S = _ := fun S => s12 s (k := m + 3) (S := S) (by omega)
  have e13 : ∀ S, callF (tb (m + 4) 13) [.d s.d] S = _ := fun S => s13 s (k := m + 3) (S := S) (by omega) (by omega)
  have e14 : ∀ S, callF (tb (m + 4) 14) [.d s.d] S = _ := fun S => s14 s (k := m + 3) (S := S) (by omega) (by omega) (by omega)
  have lw := s.size_words
  obtain ⟨y4, e4⟩ := add_loop (i := 4) (b := S.length) (body := L26_1 (tb (m + 4))) (S := S) (fun x => [some (.d s.d), some (.d (.lst (s.legs.map Leg.d))), some (.d (.lst (s.words.map .str))), some (.m S.length), x, none, none, none, none, none]) (fun x v T => rfl) (fun zs z hz => turn26b _ _ _ _ _ _ _ _ zs z hz) s.words [] none (by simp; omega)
  have en : s.words.foldl addN [] = s.names := rfl
  rw [en] at e4
  obtain ⟨S1, hS1⟩ : ∃ X, X = S ++ [lN s.names] := ⟨_, rfl⟩
  rw [← hS1] at e4
  have lS1 : S1.length = S.length + 1 := by rw [hS1]; simp
  obtain ⟨i, T, rs, e5, g5, l5⟩ := s32 s (k := m + 3) (S := S1) (by omega) (by omega) (by omega)
  have e6 : callK (tb (m + 4) 13) [.d s.d] (S1 ++ T) = _ := s13K s (k := m + 3) (S := S1 ++ T) (by omega) (by omega)
  have nl := names_len s
  have ll := legs_len s
  have rl : rs.length = s.legs.length := by rw [← l5, List.length_map]
  -- the store behind the kept answers
  obtain ⟨A, hA⟩ : ∃ A, A = S1 ++ T := ⟨_, rfl⟩
  have lA : S.length + 1 ≤ A.length := by rw [hA]; simp [lS1]
  have A1 : A[S.length]? = some (lN s.names) := by rw [hA, hS1]; exact get_app (top_m _ _)
  have A0 : ∀ j, j < S.length → A[j]? = S[j]? := fun j hj => by rw [hA, hS1, List.append_assoc, List.getElem?_append_left hj]
  rw [← hA] at e5 g5 e6
  rw [lS1] at g5
  obtain ⟨Bs, hB⟩ : ∃ B, B = A ++ [lN s.names] := ⟨_, rfl⟩
  have B1 : Bs[S.length]? = some (lN s.names) := by rw [hB]; exact get_app A1
  have B2 : Bs[A.length]? = some (lN s.names) := by rw [hB]; exact top_m _ _
  have B0 : ∀ j, j < A.length → Bs[j]? = A[j]? := fun j hj => by rw [hB, List.getElem?_append_left hj]
  have lB : Bs.length = A.length + 1 := by rw [hB]; simp
  have gB : LGr (S.length + 1) Bs i rs := by
    refine ⟨?_, g5.bi, fun r hr => ?_, g5.nd⟩
    · rw [hB]; exact get_app g5.top
    · have q := g5.rows r hr
      rw [hB]; exact q.app q.ne
  rw [← hB] at e6
  obtain ⟨r0, rs', hrs⟩ : ∃ r0 rs', rs = r0 :: rs' := by
    cases rs with
    | nil => exact absurd (by rw [← l5]; rfl) (legs_pos s)
    | cons r0 rs' => exact ⟨r0, rs', rfl⟩
  obtain ⟨d1, d2⟩ := rows_d s gB l5 hh
  -- first comparison
  have c1 : callF (tb (m + 4) 18) [.m i, .d (.lst (s.legs.map Leg.d))] Bs = .ok (.d (.bl true)) Bs := by
    have := told_rows gB.top gB.rows (by omega) (fun r hr => by have := d1 r hr; omega) d2
    rw [l5] at this
    exact s18 _ (k := m + 3) this (by omega)
  have c2 : callF (tb (m + 4) 18) [.m A.length, .m S.length] Bs = .ok (.d (.bl true)) Bs := s18mm (k := m + 2) B2 B1 (by omega)
  have c3 : ∀ (X : Sto) (n : Int), callF (tb (m + 4) 18) [.d (.int n), .d (.int n)] X = .ok (.d (.bl true)) X := fun X n => s18 0 (k := m + 3) (.int 0 n) (by omega)
  -- the first price list is spoilt
  subst hrs
  have hr0 := gB.rows r0 (by simp)
  have p1 : opIx Bs (.m i) (.d (.int 0)) = some (.m r0.t) := by simp [opIx, itemsOf, gB.top]
  have p2 : opIx Bs (.m r0.t) (.d (.int 0)) = some (.m r0.p) := by simp [opIx, itemsOf, hr0.tup]
  have p3 : isL Bs (.m r0.p) = true := isL_ml hr0.lst
  obtain ⟨C, hC⟩ : ∃ C, C = spoil (.tup [.str "once", s.d]) Bs r0 := ⟨_, rfl⟩
  have p4 : muAppend S.length Bs (.m r0.p) [.d (.tup [.str "once", s.d])] = some (.d .non, C) := by
    rw [muAppend_m hr0.lst rfl (Nat.lt_of_le_of_lt (show _ ≤ 900 by simpa using d1 r0 (by simp)) (by decide)), hC]
    simp [spoil]
  have gC := LGr.bump (A := []) (.tup [.str "once", s.d]) gB
  rw [← hC] at gC
  simp only [List.nil_append] at gC
  have Co : ∀ j, j ≠ r0.p → C[j]? = Bs[j]? := fun j hj => by rw [hC]; exact List.getElem?_set_ne (fun z => hj z.symm)
  have lC : C.length = Bs.length := by rw [hC]; simp [spoil]
  have r0p := hr0.bp
  -- the rest of the list is as before
  obtain ⟨D, hD⟩ : ∃ D, D = C ++ [.lst (rs'.map fun r => .m r.t)] := ⟨_, rfl⟩
  have sl : lstOf C (.m i) = some ((bump (.tup [.str "once", s.d]) r0 :: rs').map fun r => .m r.t) := by simp [lstOf, gC.top]
  have sl2 : cutG ((bump (.tup [.str "once", s.d]) r0 :: rs').map fun r => SV.m r.t) (some 1) none = rs'.map fun r => .m r.t := by
    simp [cutG, HT.sIx]
    rw [List.take_of_length_le (by simp)]
  have sl3 : cutG (s.legs.map Leg.d) (some 1) none = (rs'.map LRow.x).map Leg.d := by
    rw [← l5]
    simp [cutG, HT.sIx]
    rw [List.take_of_length_le (by simp)]
  have gD : LGr (S.length + 1) D i (bump (.tup [.str "once", s.d]) r0 :: rs') := by
    refine ⟨?_, gC.bi, fun r hr => ?_, gC.nd⟩
    · rw [hD]; exact get_app gC.top
    · have q := gC.rows r hr
      rw [hD]; exact q.app q.ne
  have c4 : callF (tb (m + 4) 18) [.m C.length, .d (.lst ((rs'.map LRow.x).map Leg.d))] D = .ok (.d (.bl true)) D := by
    have ht : D[C.length]? = some (.lst (rs'.map fun r => .m r.t)) := by rw [hD]; exact top_m _ _
    have := told_rows (n := s.ht) ht (fun r hr => gD.rows r (List.mem_cons_of_mem _ hr)) (by simp at rl; omega) (fun r hr => by have := d1 r (List.mem_cons_of_mem _ hr); omega) (fun r hr y hy => told_prices s r.x (by rw [← l5]; exact List.mem_map_of_mem (List.mem_cons_of_mem _ hr)) y hy)
    exact s18 _ (k := m + 3) this (by omega)
  -- all price lists are spoilt
  obtain ⟨y8, y9, E, e8, lE, iE, oE⟩ := loop26 (k := m + 4) (b := S.length) (B := S.length + 1) (i := i) s.d (some (.d (.lst (s.legs.map Leg.d)))) (some (.d (.lst (s.words.map .str)))) (some (.m S.length)) y4 (some (.m i)) (some (.m A.length)) (some (.m r0.p)) (bump (.tup [.str "once", s.d]) r0 :: rs') [] 1000000 D none none (by simp at rl ⊢; omega) gD (fun r hr => by
    rcases List.mem_cons.1 hr with rfl | hr
    · have hx : r0.x ∈ s.legs := by rw [← l5]; exact List.mem_cons_self
      have := legs_ht s r0.x hx
      simp only [bump, List.length_append, List.length_singleton]; omega
    · exact d1 r (List.mem_cons_of_mem _ hr))
  have pne : ∀ r ∈ bump (.tup [.str "once", s.d]) r0 :: rs', S.length + 1 ≤ r.p ∧ r.p < A.length := fun r hr => by
    have q := gC.rows r hr
    refine ⟨q.bp, ?_⟩
    have q2 : ∃ r' ∈ r0 :: rs', r'.p = r.p := by
      rcases List.mem_cons.1 hr with rfl | hr
      · exact ⟨r0, by simp, rfl⟩
      · exact ⟨r, List.mem_cons_of_mem _ hr, rfl⟩
    obtain ⟨r', h1, h2⟩ := q2
    rw [← h2]
    exact lt_get (g5.rows r' h1).lst
  have r0A : r0.p < A.length := (pne (bump (.tup [.str "once", s.d]) r0) (by simp)).2
  have lD : D.length = A.length + 2 := by rw [hD]; simp [lC, lB]
  have iA : i < A.length := lt_get g5.top
  have ib := g5.bi
  have E1 : E[S.length]? = some (lN s.names) := by
    rw [oE _ fun r hr => by have := (pne r hr).1; omega, hD, List.getElem?_append_left (by omega), Co _ (by omega), B1]
  have E2 : E[A.length]? = some (lN s.names) := by
    rw [oE _ fun r hr => by have := (pne r hr).2; omega, hD, List.getElem?_append_left (by omega), Co _ (by omega), B2]
  have E0 : ∀ j, j < S.length → E[j]? = S[j]? := fun j hj => by
    rw [oE _ fun r hr => by have := (pne r hr).1; omega, hD, List.getElem?_append_left (by omega), Co _ (by omega), B0 _ (by omega), A0 j hj]
  have E3 : E[i]? = some (.lst ((bump (.tup [.str "once", s.d]) r0 :: rs').map fun r => .m r.t)) := by rw [iE]; exact gD.top
  -- append and insert
  obtain ⟨G, hG⟩ : ∃ G, G = E.set i (.lst ((bump (.tup [.str "once", s.d]) r0 :: rs').map (fun r => .m r.t) ++ [.d (.tup [.lst [], .str "spoilt"])])) := ⟨_, rfl⟩
  have q1 : isL E (.m i) = true := isL_ml E3
  have q2 : muAppend S.length E (.m i) [.d (.tup [.lst [], .str "spoilt"])] = some (.d .non, G) := by
    rw [muAppend_m E3 rfl (Nat.lt_trans (show _ < 500 by simp at rl ⊢; omega) (by decide)), hG]
  have G1 : G[S.length]? = some (lN s.names) := by rw [hG, List.getElem?_set_ne (by omega)]; exact E1
  have G2 : G[A.length]? = some (lN s.names) := by rw [hG, List.getElem?_set_ne (by omega)]; exact E2
  have q3 : isL G (.m A.length) = true := isL_ml G2
  obtain ⟨J, hJ⟩ : ∃ J, J = G.set A.length (.lst (((s.names.map Dv.str).map SV.d).take (0 : Int).toNat ++ [.d (.str "spoilt")] ++ ((s.names.map Dv.str).map SV.d).drop (0 : Int).toNat)) := ⟨_, rfl⟩
  have q4 : muInsert S.length G (.m A.length) [.d (.int 0), .d (.str "spoilt")] = some (.d .non, J) := by
    rw [muInsert_m G2 (by decide) (by decide) (Nat.lt_trans (show _ < 500 by simp; omega) (by decide)) rfl, hJ]
  have J1 : J[S.length]? = some (lN s.names) := by rw [hJ, List.getElem?_set_ne (by omega)]; exact G1
  have c5 : callF (tb (m + 4) 18) [.d (.lst (s.legs.map Leg.d)), .d (.lst (s.legs.map Leg.d))] J = .ok (.d (.bl true)) J := by
    have : Told J (s.ht + 3) (.d (.lst (s.legs.map Leg.d))) (.lst (s.legs.map Leg.d)) := told_lst (by simp; omega) fun y hy => by
      obtain ⟨x, hx, rfl⟩ := List.mem_map.1 hy
      refine told_tup (by simp) fun z hz => ?_
      simp at hz
      rcases hz with rfl | rfl
      · exact told_lst (by have := legs_ht s x hx; omega) fun w hw => told_prices s x hx w hw
      · exact .str _ _
    exact s18 _ (k := m + 3) this (by omega)
  have c6 : callF (tb (m + 4) 18) [.d (.lst (s.names.map .str)), .m S.length] J = .ok (.d (.bl true)) J := by
    have hj := J1
    unfold lN at hj
    have bi : biLen J [.m S.length] = some (.int s.names.length) := by simp [biLen, itemsOf, hj]
    have tj : tyS J (.m S.length) = some .lst := by simp [tyS, hj]
    obtain ⟨u, e⟩ := loop18g (S := J) (k := m + 3) (b := J.length) (x := .d (.lst (s.names.map .str))) (y := .m S.length) (n := s.names.length) (fun n hn => by
      have q1 : s.names[n]? = some s.names[n] := List.getElem?_eq_getElem _
      refine ⟨.d (.str s.names[n]), .d (.str s.names[n]), ?_, ?_, ?_⟩
      · simp [atI_n, q1]
      · simp [opIx, itemsOf, hj, atI_n, q1]
      · rw [s18s]; simp) s.names.length 0 none (by omega)
    rw [callF, t_18]
    have hs : small62 (s.names.length : Int) = true := by simp [small62_ap]; omega
    simp [runF, B18, tj, bi, hs]
    rw [show rng 0 s.names.length = rng ((0 : Nat) : Int) s.names.length from rfl, e]
    simp [SV.isNon]
  have lJ : J.length = A.length + 2 := by rw [hJ, hG]; simp [lE, lD]
  have J0 : ∀ j, j < S.length → J[j]? = S[j]? := fun j hj => by
    rw [hJ, List.getElem?_set_ne (by omega), hG, List.getElem?_set_ne (by omega), E0 j hj]
  obtain ⟨X1, hX1⟩ : ∃ X, X = (bump (.tup [.str "once", s.d]) r0 :: rs').map fun r => SV.m r.t := ⟨_, rfl⟩
  obtain ⟨X2, hX2⟩ : ∃ X, X = rs'.map fun r => SV.m r.t := ⟨_, rfl⟩
  obtain ⟨X3, hX3⟩ : ∃ X, X = (rs'.map LRow.x).map Leg.d := ⟨_, rfl⟩
  rw [← hX1] at sl sl2
  rw [← hX2] at sl2 hD
  rw [← hX3] at sl3 c4
  rw [callF, t_26]
  show fin S.length (B26 (tb (m + 4)) ⟨S.length, [some (.d s.d), none, none, none, none, none, none, none, none, none]⟩ S).res = _
  unfold B26
  refine seq_fin (by simp [e24]; exact ⟨rfl, rfl⟩) ?_
  refine seq_fin (by simp [e25]; exact ⟨rfl, rfl⟩) ?_
  refine seq_fin (by simp; exact ⟨rfl, rfl⟩) ?_
  refine seq_fin (by
    simp only [lN, List.map_nil, List.map_map] at e4
    simp [e4]; exact ⟨rfl, rfl⟩) ?_
  refine seq_fin (by simp [e5]; exact ⟨rfl, rfl⟩) ?_
  refine seq_fin (by simp [e6]; exact ⟨rfl, rfl⟩) ?_
  refine seq_fin (by simp [c1, c2, c3, e12, lw]; exact ⟨rfl, rfl⟩) ?_
  refine seq_fin (by simp [p1, p2]; exact ⟨rfl, rfl⟩) ?_
  refine seq_fin (by simp [p3, p4]; exact ⟨rfl, rfl⟩) ?_
  refine seq_fin (by
    simp only [sIf_ap, tNo_ap, tV_ap, eCall_ap, aCons_ap, eSlM_ap, eVar_ap, oSo_ap, eC_ap, oNo_ap]
    simp [sl, sl2, ← hD, sl3, c4]; exact ⟨rfl, rfl⟩) ?_
  refine seq_fin (by
    simp only [List.length_nil] at e8
    simp [e8]; exact ⟨rfl, rfl⟩) ?_
  refine seq_fin (by simp [q1, q2]; exact ⟨rfl, rfl⟩) ?_
  refine seq_fin (by simp [q3, q4]; exact ⟨rfl, rfl⟩) ?_
  refine seq_fin (by simp [e14, e13, c5, c6]; exact ⟨rfl, rfl⟩) ?_
  simp [e12, lw, c3]
  exact take_up (by omega) J0
end Lw

set_option Elab.async false
set_option linter.all false
set_option maxRecDepth 100000
namespace Lw
open PySem L2 Ev
/-! ### names as lists of signs -/
def nmL (l : List Nat) : Prop := 1 ≤ l.length ∧ l.length ≤ 12 ∧ (∀ c r, l = c :: r → isLet c = true) ∧ ∀ c ∈ l, sign c = true
theorem let_sign {c : Nat} (h : isLet c = true) : sign c = true := by simp [sign, h]
theorem name_iff (z : Str) : isName z = true ↔ nmL (cp z) := by
  unfold isName nmL
  rw [show z.cps.toList = cp z from rfl]
  generalize cp z = l
  cases l with
  | nil => simp
  | cons c r =>
    simp only [Bool.and_eq_true, decide_eq_true_eq, List.all_eq_true]
    constructor
    · rintro ⟨⟨⟨h1, h2⟩, h3⟩, h4⟩
      exact ⟨h1, h2, fun c' r' e => by cases e; exact h3, h4⟩
    · rintro ⟨h1, h2, h3, h4⟩
      exact ⟨⟨⟨h1, h2⟩, h3 c r rfl⟩, h4⟩
theorem name_T {l : List Nat} (h : nmL l) : isName (T l) = true := (name_iff _).2 h
theorem nm_take {l : List Nat} (h : nmL l) {n : Nat} (hn : 1 ≤ n) : nmL (l.take n) := by
  obtain ⟨h1, h2, h3, h4⟩ := h
  refine ⟨by rw [List.length_take]; omega, by rw [List.length_take]; omega, fun c r e => ?_, fun c hc => h4 c (List.mem_of_mem_take hc)⟩
  cases l with
  | nil => simp at h1
  | cons c' l =>
    obtain ⟨n, rfl⟩ : ∃ m, n = m + 1 := ⟨n - 1, by omega⟩
    rw [List.take_succ_cons] at e
    cases e
    exact h3 _ _ rfl
theorem nm_snoc {l : List Nat} (h : nmL l) (hl : l.length < 12) {c : Nat} (hc : sign c = true) : nmL (l ++ [c]) := by
  obtain ⟨h1, h2, h3, h4⟩ := h
  refine ⟨by simp, by simp; omega, fun c' r e => ?_, fun c' hc' => ?_⟩
  · cases l with
    | nil => simp at h1
    | cons a l => rw [List.cons_append] at e; cases e; exact h3 _ _ rfl
  · rcases List.mem_append.1 hc' with hc' | hc'
    · exact h4 _ hc'
    · rw [List.mem_singleton.1 hc']; exact hc
theorem nm_put {l : List Nat} (h : nmL l) {n : Nat} (hn : n < l.length) {c : Nat} (hc : isLet c = true) : nmL (l.take n ++ [c] ++ l.drop (n + 1)) := by
  obtain ⟨h1, h2, h3, h4⟩ := h
  refine ⟨by simp; omega, by simp; omega, fun c' r e => ?_, fun c' hc' => ?_⟩
  · cases n with
    | zero => simp at e; rw [← e.1]; exact hc
    | succ n =>
      cases l with
      | nil => simp at h1
      | cons a l => simp at e; rw [← e.1]; exact h3 _ _ rfl
  · simp only [List.mem_append, List.mem_singleton] at hc'
    rcases hc' with (hc' | rfl) | hc'
    · exact h4 _ (List.mem_of_mem_take hc')
    · exact let_sign hc
    · exact h4 _ (List.mem_of_mem_drop hc')
theorem nm_one {c : Nat} (hc : isLet c = true) : nmL [c] := ⟨by simp, by simp, fun c' r e => by cases e; exact hc, fun c' h => by rw [List.mem_singleton.1 h]; exact let_sign hc⟩
theorem let_mem {c : Nat} (h : c ∈ (cp LET)) : isLet c = true := decide_eq_true h
theorem dig_mem {c : Nat} (h : c ∈ (cp DIG)) : sign c = true := by
  have h2 : isDig c = true := decide_eq_true h
  rw [sign, h2, Bool.or_true]
abbrev SGN : Str := LET ++ DIG
theorem sgn_mem {c : Nat} (h : c ∈ (cp SGN)) : sign c = true := by
  rw [cps_app] at h
  rcases List.mem_append.1 h with h | h
  · exact let_sign (let_mem h)
  · exact dig_mem h
theorem len_let : (cp LET).length = 26 := by decide +kernel
theorem len_dig : (cp DIG).length = 10 := by decide +kernel
theorem len_sgn : (cp SGN).length = 36 := by rw [cps_app, List.length_append, len_let, len_dig]
theorem sgn_sum (S : Sto) : opAdd S (.d (.str LET)) (.d (.str DIG)) = some (.str SGN) := sum_s S _ _ (by rw [len_let, len_dig]; decide)
section
variable {k : Nat} {S : Sto} {i j : Nat}
theorem nx {p : Po} {m : Int} (hS : S[i]? = some p.l) (h0 : 0 < m) (h1 : m < 1073741824) :
    ∃ (d : Int) (q : Po) (S' : Sto), 0 ≤ d ∧ d < m ∧ S'[i]? = some q.l ∧ Up1 i S S' ∧ callF (tb (k + 1) 17) [.m i, .d (.int m)] S = .ok (.d (.int d)) S' :=
  draw_ok (g := tb (k + 1) 17) (fun b as S => rfl) hS h0 h1
theorem ix_let {x : Int} (h0 : 0 ≤ x) (h1 : x < 26) : ∃ c, isLet c = true ∧ ∀ S, opIx S (.d (.str LET)) (.d (.int x)) = some (.d (.str ⟨#[c]⟩)) := by
  obtain ⟨c, hc, e⟩ := ix_s' (z := LET) (by rw [len_let]; decide) h0 (by rw [len_let]; exact h1)
  exact ⟨c, let_mem hc, e⟩
theorem ix_sgn {x : Int} (h0 : 0 ≤ x) (h1 : x < 36) : ∃ c, sign c = true ∧ ∀ S, opIx S (.d (.str SGN)) (.d (.int x)) = some (.d (.str ⟨#[c]⟩)) := by
  obtain ⟨c, hc, e⟩ := ix_s' (z := SGN) (by rw [len_sgn]; decide) h0 (by rw [len_sgn]; exact h1)
  exact ⟨c, sgn_mem hc, e⟩
theorem loop19 {b : Nat} (x1 x2 x4 x6 : Option SV) : ∀ (n : Nat) (lo : Int) (S : Sto) (p : Po) (l : List Nat) (x7 : Option SV), S[i]? = some p.l → nmL l → l.length + n ≤ 12 →
    ∃ (l' : List Nat) (q : Po) (S' : Sto) (y : Option SV), nmL l' ∧ S'[i]? = some q.l ∧ Up1 i S S' ∧ forL (gNm 7) (L19_0 (tb (k + 1))) b (rng lo n) [some (.m i), x1, x2, some (.d (.str SGN)), x4, some (.d (.str (T l))), x6, x7] S = .nx [some (.m i), x1, x2, some (.d (.str SGN)), x4, some (.d (.str (T l'))), x6, y] S'
  | 0, lo, S, p, l, x7, hS, hn, hl => ⟨l, p, S, x7, hn, hS, .refl _ _, rfl⟩
  | n + 1, lo, S, p, l, x7, hS, hn, hl => by
    obtain ⟨d, q, S1, a1, b1, g1, u1, e1⟩ := nx (k := k) hS (show (0 : Int) < 36 by decide) (by decide)
    obtain ⟨c, hc, e2⟩ := ix_sgn a1 b1
    obtain ⟨l', q', S', y, h1, h2, h3, h4⟩ := loop19 x1 x2 x4 x6 n (lo + 1) S1 q (l ++ [c]) (some (.d (.int lo))) g1 (nm_snoc hn (by omega) hc) (by simp; omega)
    refine ⟨l', q', S', y, h1, h2, u1.trans h3, ?_⟩
    rw [rng_succ, forL_cons]
    simp only [gNm_ap, put_ap, List.set_cons_succ, List.set_cons_zero, kTg_s]
    have e3 := sum_s S1 (T l) ⟨#[c]⟩ (by rw [cp_T]; simp; omega)
    rw [T_one, T_app] at e3
    have e4 : L19_0 (tb (k + 1)) ⟨b, [some (.m i), x1, x2, some (.d (.str SGN)), x4, some (.d (.str (T l))), x6, some (.d (.int lo))]⟩ S = .nx [some (.m i), x1, x2, some (.d (.str SGN)), x4, some (.d (.str (T (l ++ [c])))), x6, some (.d (.int lo))] S1 := by
      rw [T_one] at e2
      simp [-opAdd_ss, L19_0, e1, e2, e3]
    rw [e4, kTu_nx]
    exact h4
theorem ixN_m {ns : List Str} {x : Int} (h : S[j]? = some (lN ns)) (h0 : 0 ≤ x) (h1 : x < ns.length) : ∃ z ∈ ns, opIx S (.m j) (.d (.int x)) = some (.d (.str z)) := by
  obtain ⟨n, rfl⟩ := Int.eq_ofNat_of_zero_le h0
  refine ⟨ns[n]'(by omega), List.getElem_mem _, ?_⟩
  unfold lN at h
  rw [opIx_m h, atI_n]
  simp
theorem s19 {p : Po} {ns : List Str} (hS : S[i]? = some p.l) (hj : S[j]? = some (lN ns)) (hij : i ≠ j) (hn : ∀ z ∈ ns, isName z = true) (hl : ns.length ≤ 10) :
    ∃ (z : Str) (q : Po) (S' : Sto), isName z = true ∧ S'[i]? = some q.l ∧ Up1 i S S' ∧ callF (tb (k + 2) 19) [.m i, .m j] S = .ok (.d (.str z)) S' := by
  obtain ⟨d, q, S1, a1, b1, g1, u1, e1⟩ := nx (k := k) hS (show (0 : Int) < 6 by decide) (by decide)
  have hj1 : S1[j]? = some (lN ns) := by rw [u1.oth j (Ne.symm hij)]; exact hj
  have tr1 : truS S1 (.m j) = some (!ns.isEmpty) := by
    have := truS_ml hj1
    simpa using this
  by_cases c1 : ns ≠ [] ∧ d < 3
  · obtain ⟨c1, c2⟩ := c1
    have lp : 0 < (ns.length : Int) := by cases ns with | nil => exact absurd rfl c1 | cons a l => simp
    obtain ⟨x, q2, S2, a2, b2, g2, u2, e2⟩ := nx (k := k) g1 lp (by omega)
    have hj2 : S2[j]? = some (lN ns) := by rw [u2.oth j (Ne.symm hij)]; exact hj1
    obtain ⟨z, hz, e3⟩ := ixN_m hj2 a2 b2
    have nz := (name_iff z).1 (hn z hz)
    have nl := nz.2.1
    have n1 := nz.1
    have lz : (cp z).length ≤ 1000 := by omega
    have bl := fun S => bl_s S z lz
    have bn : biLen S1 [.m j] = some (.int ns.length) := by
      unfold lN at hj1
      simp [biLen, itemsOf, hj1]
    obtain ⟨a, q3, S3, a3, b3, g3, u3, e4⟩ := nx (k := k) (m := (cp z).length) g2 (by omega) (by omega)
    have u13 := u1.trans (u2.trans u3)
    have s1 := fun S => sl_s S z none (some a) lz
    have s2 := fun S => sl_s S z (some (a + 1)) none lz
    rw [cut_hi z a3] at s1
    rw [cut_lo z (show 0 ≤ a + 1 by omega)] at s2
    by_cases d0 : d = 0
    · obtain ⟨y, q4, S4, a4, b4, g4, u4, e5⟩ := nx (k := k) g3 (show (0 : Int) < 26 by decide) (by decide)
      obtain ⟨c, hc, e6⟩ := ix_let a4 b4
      have t1 : (a + 1).toNat = a.toNat + 1 := by omega
      have e7 := sum_s S4 (T ((cp z).take a.toNat)) ⟨#[c]⟩ (by rw [cp_T]; simp; omega)
      rw [T_one, T_app] at e7
      have e8 := sum_s S4 (T ((cp z).take a.toNat ++ [c])) (T ((cp z).drop (a + 1).toNat)) (by rw [cp_T, cp_T]; simp; omega)
      rw [T_app] at e8
      refine ⟨_, q4, S4, name_T (nm_put nz (n := a.toNat) (by omega) hc), g4, u13.trans u4, ?_⟩
      rw [callF, t_19]
      rw [T_one] at e6
      rw [t1] at e8 s2
      simp [-opAdd_ss, runF, B19, sgn_sum, e1, tr1, c1, c2, bn, e2, e3, bl, e4, d0, s1, s2, e5, e6, e7, e8, take_eq (u13.trans u4).len]
    · by_cases d1 : d = 1 ∧ ((cp z).length : Int) < 12
      · obtain ⟨d1, d2⟩ := d1
        obtain ⟨y, q4, S4, a4, b4, g4, u4, e5⟩ := nx (k := k) g3 (show (0 : Int) < 36 by decide) (by decide)
        obtain ⟨c, hc, e6⟩ := ix_sgn a4 b4
        have e7 := sum_s S4 z ⟨#[c]⟩ (by simp; omega)
        refine ⟨_, q4, S4, (name_iff (z ++ ⟨#[c]⟩)).2 (by rw [cps_app]; exact nm_snoc nz (by omega) hc), g4, u13.trans u4, ?_⟩
        rw [callF, t_19]
        simp [-opAdd_ss, runF, B19, sgn_sum, e1, tr1, c1, c2, bn, e2, e3, bl, e4, d0, d1, d2, s1, s2, e5, e6, e7, take_eq (u13.trans u4).len]
      · have mx : (0 : Int) ≤ if a > 1 then a else 1 := by split <;> omega
        have s3 := fun S => sl_s S z none (some (if a > 1 then a else 1)) lz
        rw [cut_hi z mx] at s3
        refine ⟨_, q3, S3, name_T (nm_take nz (n := (if a > 1 then a else 1).toNat) (by split <;> omega)), g3, u13, ?_⟩
        have e9 : tAn (tV (eOp opEq (eVar 4) (eC (.int 1)))) (tV (eOp opLt (eBi biLen (aCons (eVar 5) (aNil))) (eC (.int 12)))) ⟨S.length, [some (.m i), some (.m j), some (.d (.str LET)), some (.d (.str SGN)), some (.d (.int d)), some (.d (.str z)), some (.d (.int a)), none]⟩ S3 = .ok false S3 := by
          by_cases h1 : d = 1
          · have h2 : ¬ (((cp z).length : Int) < 12) := fun h => d1 ⟨h1, h⟩
            simp [h1, bl, h2]
          · simp [h1]
        rw [callF, t_19]
        have e10 : ∀ s s' : Fr → Sto → SRes, sIf (tAn (tV (eOp opEq (eVar 4) (eC (.int 1)))) (tV (eOp opLt (eBi biLen (aCons (eVar 5) (aNil))) (eC (.int 12))))) s s' ⟨S.length, [some (.m i), some (.m j), some (.d (.str LET)), some (.d (.str SGN)), some (.d (.int d)), some (.d (.str z)), some (.d (.int a)), none]⟩ S3 = s' ⟨S.length, [some (.m i), some (.m j), some (.d (.str LET)), some (.d (.str SGN)), some (.d (.int d)), some (.d (.str z)), some (.d (.int a)), none]⟩ S3 := fun s s' => by rw [sIf_ap, e9]; rfl
        show fin S.length (B19 (tb (k + 1)) ⟨S.length, [some (.m i), some (.m j), none, none, none, none, none, none]⟩ S).res = _
        unfold B19
        refine seq_fin (by simp; exact ⟨rfl, rfl⟩) ?_
        refine seq_fin (by simp [-opAdd_ss, sgn_sum]; exact ⟨rfl, rfl⟩) ?_
        refine seq_fin (by simp [e1]; exact ⟨rfl, rfl⟩) ?_
        refine seq_rt_fin (x := .d (.str (T ((cp z).take (if a > 1 then a else 1).toNat)))) (S2 := S3) ?_ (by simp [take_eq u13.len])
        rw [sIf_ap]
        have e11 : tAn (tTr (eVar 1)) (tV (eOp opLt (eVar 4) (eC (.int 3)))) ⟨S.length, [some (.m i), some (.m j), some (.d (.str LET)), some (.d (.str SGN)), some (.d (.int d)), none, none, none]⟩ S1 = .ok true S1 := by simp [tr1, c1, c2]
        rw [e11, kIf_ok, if_pos rfl]
        refine seq_st (by simp [bn, e2, e3]; exact ⟨rfl, rfl⟩) ?_
        refine seq_st (by simp [bl, e4]; exact ⟨rfl, rfl⟩) ?_
        refine seq_st (by simp [d0]; exact ⟨rfl, rfl⟩) ?_
        refine seq_st (by rw [e10]; exact rfl) ?_
        simp [s3]
  · have e2 : tAn (tTr (eVar 1)) (tV (eOp opLt (eVar 4) (eC (.int 3)))) ⟨S.length, [some (.m i), some (.m j), some (.d (.str LET)), some (.d (.str SGN)), some (.d (.int d)), none, none, none]⟩ S1 = .ok false S1 := by
      by_cases h1 : ns = []
      · simp [tr1, h1]
      · have h2 : ¬ d < 3 := fun h => c1 ⟨h1, h⟩
        simp [tr1, h1]; omega
    obtain ⟨x, q2, S2, a2, b2, g2, u2, e3⟩ := nx (k := k) g1 (show (0 : Int) < 26 by decide) (by decide)
    obtain ⟨c, hc, e4⟩ := ix_let a2 b2
    obtain ⟨y, q3, S3, a3, b3, g3, u3, e5⟩ := nx (k := k) g2 (show (0 : Int) < 6 by decide) (by decide)
    obtain ⟨n, hn11, e6⟩ : ∃ n : Nat, n ≤ 11 ∧ ∀ S, opIx S (.d (.lst [.int 0, .int 0, .int 1, .int 2, .int 5, .int 11])) (.d (.int y)) = some (.d (.int n)) := by
      obtain rfl | rfl | rfl | rfl | rfl | rfl : y = 0 ∨ y = 1 ∨ y = 2 ∨ y = 3 ∨ y = 4 ∨ y = 5 := by omega
      · exact ⟨0, by decide, fun S => rfl⟩
      · exact ⟨0, by decide, fun S => rfl⟩
      · exact ⟨1, by decide, fun S => rfl⟩
      · exact ⟨2, by decide, fun S => rfl⟩
      · exact ⟨5, by decide, fun S => rfl⟩
      · exact ⟨11, by decide, fun S => rfl⟩
    obtain ⟨l', q4, S4, y7, h1, h2, h3, h4⟩ := loop19 (k := k) (b := S.length) (some (.m j)) (some (.d (.str LET))) (some (.d (.int d))) none n 0 S3 q3 [c] none g3 (nm_one hc) (by simp; omega)
    have ul := u1.trans (u2.trans (u3.trans h3))
    refine ⟨T l', q4, S4, name_T h1, h2, ul, ?_⟩
    have sm : small62 (n : Int) = true := by simp [small62_ap]; omega
    rw [callF, t_19]
    show fin S.length (B19 (tb (k + 1)) ⟨S.length, [some (.m i), some (.m j), none, none, none, none, none, none]⟩ S).res = _
    unfold B19
    refine seq_fin (by simp; exact ⟨rfl, rfl⟩) ?_
    refine seq_fin (by simp [-opAdd_ss, sgn_sum]; exact ⟨rfl, rfl⟩) ?_
    refine seq_fin (by simp [e1]; exact ⟨rfl, rfl⟩) ?_
    refine seq_fin (by rw [sIf_ap, e2]; exact rfl) ?_
    refine seq_fin (by simp [e3, e4]; exact ⟨rfl, rfl⟩) ?_
    refine seq_fin (by
      simp [e5, e6, sm]
      exact h4) ?_
    simp [take_eq ul.len]
end
end Lw

set_option Elab.async false
set_option linter.all false
set_option maxRecDepth 100000
namespace Lw
open PySem L2 Ev
section
variable {k : Nat} {S : Sto} {i j : Nat}
theorem s21 {p : Po} (hS : S[i]? = some p.l) : ∃ (m : Kd) (q : Po) (S' : Sto), S'[i]? = some q.l ∧ Up1 i S S' ∧ callF (tb (k + 2) 21) [.m i] S = .ok (.d m.d) S' := by
  obtain ⟨d, q, S1, a1, b1, g1, u1, e1⟩ := nx (k := k) hS (show (0 : Int) < 2 by decide) (by decide)
  by_cases c : d = 0
  · refine ⟨none, q, S1, g1, u1, ?_⟩
    rw [callF, t_21]
    simp [runF, B21, e1, c, Kd.d, take_eq u1.len]
  · obtain ⟨x, q2, S2, a2, b2, g2, u2, e2⟩ := nx (k := k) g1 (show (0 : Int) < 50 by decide) (by decide)
    obtain ⟨y, q3, S3, a3, b3, g3, u3, e3⟩ := nx (k := k) g2 (show (0 : Int) < 51 by decide) (by decide)
    obtain ⟨x, rfl⟩ := Int.eq_ofNat_of_zero_le a2
    obtain ⟨y, rfl⟩ := Int.eq_ofNat_of_zero_le a3
    refine ⟨some (x, y), q3, S3, g3, u1.trans (u2.trans u3), ?_⟩
    rw [callF, t_21]
    simp [runF, B21, e1, e2, e3, c, Kd.d, take_eq (u1.trans (u2.trans u3)).len]
theorem bnN {ns : List Str} (h : S[j]? = some (lN ns)) : biLen S [.m j] = some (.int ns.length) := by
  unfold lN at h
  simp [biLen, itemsOf, h]
theorem ok_mm {l r : Sn} (h1 : l.ok) (h2 : r.ok) : (Sn.menu l r).ok := fun z hz => by
  rcases List.mem_append.1 hz with hz | hz
  · exact h1 z hz
  · exact h2 z hz
theorem ok_tt {q : Kd} {l r : Sn} (h1 : l.ok) (h2 : r.ok) : (Sn.trade q l r).ok := ok_mm (l := l) (r := r) h1 h2
theorem ok_w {z : Str} (h : isName z = true) : (Sn.word z).ok := fun w hw => by rw [List.mem_singleton.1 hw]; exact h
end
theorem s22 {i j : Nat} {ns : List Str} (hij : i ≠ j) (hn : ∀ z ∈ ns, isName z = true) (h0 : ns ≠ []) (hl : ns.length ≤ 10) : ∀ (n : Nat) {k : Nat} {S : Sto} {p : Po}, S[i]? = some p.l → S[j]? = some (lN ns) →
    ∃ (s : Sn) (q : Po) (S' : Sto), s.ok ∧ s.ht ≤ n + 1 ∧ s.size ≤ 2 ^ n ∧ S'[i]? = some q.l ∧ Up1 i S S' ∧ callF (tb (k + n + 3) 22) [.m i, .m j, .d (.int n)] S = .ok (.d s.d) S' := by
  have lp : 0 < (ns.length : Int) := by cases ns with | nil => exact absurd rfl h0 | cons a l => simp
  intro n
  induction n with
  | zero =>
    intro k S p hS hj
    obtain ⟨d, q, S1, a1, b1, g1, u1, e1⟩ := nx (k := k + 1) hS (show (0 : Int) < 7 by decide) (by decide)
    have hj1 : S1[j]? = some (lN ns) := by rw [u1.oth j (Ne.symm hij)]; exact hj
    obtain ⟨x, q2, S2, a2, b2, g2, u2, e2⟩ := nx (k := k + 1) g1 lp (by omega)
    have hj2 : S2[j]? = some (lN ns) := by rw [u2.oth j (Ne.symm hij)]; exact hj1
    obtain ⟨z, hz, e3⟩ := ixN_m hj2 a2 b2
    have bn := bnN hj1
    refine ⟨.word z, q2, S2, ok_w (hn z hz), by simp [Sn.ht], by simp [Sn.size], g2, u1.trans u2, ?_⟩
    rw [callF, t_22]
    simp [runF, B22, e1, bn, e2, e3, Sn.d, take_eq (u1.trans u2).len]
  | succ n ih =>
    intro k S p hS hj
    obtain ⟨d, q, S1, a1, b1, g1, u1, e1⟩ := nx (k := k + n + 2) hS (show (0 : Int) < 7 by decide) (by decide)
    have hj1 : S1[j]? = some (lN ns) := by rw [u1.oth j (Ne.symm hij)]; exact hj
    have np : ¬ ((n : Int) + 1 ≤ 0) := by omega
    have hk : k + (n + 1) + 3 = k + n + 3 + 1 := by omega
    rw [hk]
    by_cases c : d = 0
    · obtain ⟨x, q2, S2, a2, b2, g2, u2, e2⟩ := nx (k := k + n + 2) g1 lp (by omega)
      have hj2 : S2[j]? = some (lN ns) := by rw [u2.oth j (Ne.symm hij)]; exact hj1
      obtain ⟨z, hz, e3⟩ := ixN_m hj2 a2 b2
      have bn := bnN hj1
      refine ⟨.word z, q2, S2, ok_w (hn z hz), by simp [Sn.ht], Nat.one_le_two_pow, g2, u1.trans u2, ?_⟩
      rw [callF, t_22]
      simp [runF, B22, e1, bn, e2, e3, Sn.d, c, np, take_eq (u1.trans u2).len]
    · obtain ⟨s1, q2, S2, o2, h2, z2, g2, u2, e2⟩ := ih (k := k) g1 hj1
      have hj2 : S2[j]? = some (lN ns) := by rw [u2.oth j (Ne.symm hij)]; exact hj1
      obtain ⟨s2, q3, S3, o3, h3, z3, g3, u3, e3⟩ := ih (k := k) g2 hj2
      have hj3 : S3[j]? = some (lN ns) := by rw [u3.oth j (Ne.symm hij)]; exact hj2
      have ul := u1.trans (u2.trans u3)
      have pw : 2 ^ (n + 1) = 2 ^ n + 2 ^ n := by omega
      by_cases c4 : d < 4
      · refine ⟨.menu s1 s2, q3, S3, ok_mm o2 o3, by simp only [Sn.ht]; omega, by simp only [Sn.size]; omega, g3, ul, ?_⟩
        rw [callF, t_22]
        simp [runF, B22, e1, e2, e3, Sn.d, c, c4, np, take_eq ul.len]
      · obtain ⟨m, q4, S4, g4, u4, e4⟩ := s21 (k := k + n + 1) g3
        refine ⟨.trade m s1 s2, q4, S4, ok_tt o2 o3, by simp only [Sn.ht]; omega, by simp only [Sn.size]; omega, g4, ul.trans u4, ?_⟩
        rw [callF, t_22]
        simp [runF, B22, e1, e2, e3, e4, Sn.d, c, c4, np, take_eq (ul.trans u4).len]
section
variable {k : Nat} {i j : Nat}
theorem turn23 {b : Nat} {S : Sto} {p : Po} {ns : List Str} (hij : i ≠ j) (hn : ∀ z ∈ ns, isName z = true) (h0 : ns ≠ []) (hl : ns.length ≤ 10) (hS : S[i]? = some p.l) (hj : S[j]? = some (lN ns)) (s : Sn) (hs : s.ok) (x3 x4 x5 : Option SV) :
    ∃ (s' : Sn) (q : Po) (S' : Sto) (y4 y5 : Option SV), s'.ok ∧ s'.ht ≤ s.ht + 1 ∧ s'.size ≤ s.size + 1 ∧ S'[i]? = some q.l ∧ Up1 i S S' ∧ L23_0 (tb (k + 2)) ⟨b, [some (.m i), some (.m j), some (.d s.d), x3, x4, x5]⟩ S = .nx [some (.m i), some (.m j), some (.d s'.d), x3, y4, y5] S' := by
  have lp : 0 < (ns.length : Int) := by cases ns with | nil => exact absurd rfl h0 | cons a l => simp
  have hp : 1 ≤ s.ht := by cases s <;> simp [Sn.ht]
  obtain ⟨x, q2, S2, a2, b2, g2, u2, e2⟩ := nx (k := k + 1) hS lp (by omega)
  have hj2 : S2[j]? = some (lN ns) := by rw [u2.oth j (Ne.symm hij)]; exact hj
  obtain ⟨z, hz, e3⟩ := ixN_m hj2 a2 b2
  have bn := bnN hj
  have oz := ok_w (hn z hz)
  obtain ⟨d, q3, S3, a3, b3, g3, u3, e4⟩ := nx (k := k + 1) g2 (show (0 : Int) < 4 by decide) (by decide)
  have ul := u2.trans u3
  by_cases d0 : d = 0
  · refine ⟨.menu s (.word z), q3, S3, some (.d (Sn.word z).d), some (.d (.int d)), ok_mm hs oz, by simp only [Sn.ht]; omega, by simp only [Sn.size]; omega, g3, ul, ?_⟩
    simp [L23_0, e2, e3, e4, bn, d0, Sn.d]
  · by_cases d1 : d = 1
    · refine ⟨.menu (.word z) s, q3, S3, some (.d (Sn.word z).d), some (.d (.int d)), ok_mm oz hs, by simp only [Sn.ht]; omega, by simp only [Sn.size]; omega, g3, ul, ?_⟩
      simp [L23_0, e2, e3, e4, bn, d0, d1, Sn.d]
    · obtain ⟨m, q4, S4, g4, u4, e5⟩ := s21 (k := k) g3
      by_cases d2 : d = 2
      · refine ⟨.trade m s (.word z), q4, S4, some (.d (Sn.word z).d), some (.d (.int d)), ok_tt hs oz, by simp only [Sn.ht]; omega, by simp only [Sn.size]; omega, g4, ul.trans u4, ?_⟩
        simp [L23_0, e2, e3, e4, e5, bn, d0, d1, d2, Sn.d]
      · refine ⟨.trade m (.word z) s, q4, S4, some (.d (Sn.word z).d), some (.d (.int d)), ok_tt oz hs, by simp only [Sn.ht]; omega, by simp only [Sn.size]; omega, g4, ul.trans u4, ?_⟩
        simp [L23_0, e2, e3, e4, e5, bn, d0, d1, d2, Sn.d]
theorem loop23 {b : Nat} {ns : List Str} (hij : i ≠ j) (hn : ∀ z ∈ ns, isName z = true) (h0 : ns ≠ []) (hl : ns.length ≤ 10) : ∀ (n : Nat) (lo : Int) (S : Sto) (p : Po) (s : Sn) (x3 x4 x5 : Option SV), S[i]? = some p.l → S[j]? = some (lN ns) → s.ok →
    ∃ (s' : Sn) (q : Po) (S' : Sto) (y3 y4 y5 : Option SV), s'.ok ∧ s'.ht ≤ s.ht + n ∧ s'.size ≤ s.size + n ∧ S'[i]? = some q.l ∧ Up1 i S S' ∧ forL (gNm 3) (L23_0 (tb (k + 2))) b (rng lo n) [some (.m i), some (.m j), some (.d s.d), x3, x4, x5] S = .nx [some (.m i), some (.m j), some (.d s'.d), y3, y4, y5] S'
  | 0, lo, S, p, s, x3, x4, x5, hS, hj, hs => ⟨s, p, S, x3, x4, x5, hs, by omega, by omega, hS, .refl _ _, rfl⟩
  | n + 1, lo, S, p, s, x3, x4, x5, hS, hj, hs => by
    obtain ⟨s1, q1, S1, y4, y5, o1, h1, z1, g1, u1, e1⟩ := turn23 (k := k) (b := b) hij hn h0 hl hS hj s hs (some (.d (.int lo))) x4 x5
    have hj1 : S1[j]? = some (lN ns) := by rw [u1.oth j (Ne.symm hij)]; exact hj
    obtain ⟨s2, q2, S2, z3, z4, z5, o2, h2, z2, g2, u2, e2⟩ := loop23 hij hn h0 hl n (lo + 1) S1 q1 s1 (some (.d (.int lo))) y4 y5 g1 hj1 o1
    refine ⟨s2, q2, S2, z3, z4, z5, o2, by omega, by omega, g2, u1.trans u2, ?_⟩
    rw [rng_succ, forL_cons]
    simp only [gNm_ap, put_ap, List.set_cons_succ, List.set_cons_zero, kTg_s]
    rw [e1, kTu_nx]
    exact e2
theorem s23 {S : Sto} {p : Po} {ns : List Str} (hij : i ≠ j) (hn : ∀ z ∈ ns, isName z = true) (h0 : ns ≠ []) (hl : ns.length ≤ 10) (hS : S[i]? = some p.l) (hj : S[j]? = some (lN ns)) :
    ∃ (s : Sn) (q : Po) (S' : Sto), s.ok ∧ s.ht ≤ 19 ∧ s.size ≤ 19 ∧ S'[i]? = some q.l ∧ Up1 i S S' ∧ callF (tb (k + 9) 23) [.m i, .m j] S = .ok (.d s.d) S' := by
  obtain ⟨d, q, S1, a1, b1, g1, u1, e1⟩ := nx (k := k + 7) hS (show (0 : Int) < 4 by decide) (by decide)
  have hj1 : S1[j]? = some (lN ns) := by rw [u1.oth j (Ne.symm hij)]; exact hj
  by_cases c : 0 < d
  · obtain ⟨x, q2, S2, a2, b2, g2, u2, e2⟩ := nx (k := k + 7) g1 (show (0 : Int) < 5 by decide) (by decide)
    have hj2 : S2[j]? = some (lN ns) := by rw [u2.oth j (Ne.symm hij)]; exact hj1
    obtain ⟨x, rfl⟩ := Int.eq_ofNat_of_zero_le a2
    obtain ⟨m, hm⟩ : ∃ m, k + 8 = m + x + 3 := ⟨k + 5 - x, by omega⟩
    obtain ⟨s, q3, S3, o3, h3, z3, g3, u3, e3⟩ := s22 hij hn h0 hl x (k := m) g2 hj2
    rw [← hm] at e3
    have pw : 2 ^ x ≤ 2 ^ 4 := Nat.pow_le_pow_right (by decide) (by omega)
    refine ⟨s, q3, S3, o3, by omega, by omega, g3, u1.trans (u2.trans u3), ?_⟩
    rw [callF, t_23]
    simp [runF, B23, e1, e2, e3, c, take_eq (u1.trans (u2.trans u3)).len]
  · obtain ⟨z, hz, e3⟩ := ixN_m hj1 (show (0 : Int) ≤ 0 by decide) (by cases ns with | nil => exact absurd rfl h0 | cons a l => simp)
    obtain ⟨x, q2, S2, a2, b2, g2, u2, e2⟩ := nx (k := k + 7) g1 (show (0 : Int) < 18 by decide) (by decide)
    have hj2 : S2[j]? = some (lN ns) := by rw [u2.oth j (Ne.symm hij)]; exact hj1
    obtain ⟨x, rfl⟩ := Int.eq_ofNat_of_zero_le a2
    obtain ⟨s, q3, S3, y3, y4, y5, o3, h3, z3, g3, u3, e4⟩ := loop23 (k := k + 6) (b := S.length) hij hn h0 hl (x + 1) 0 S2 q2 (.word z) none none none g2 hj2 (ok_w (hn z hz))
    simp only [Sn.ht, Sn.size] at h3 z3
    have ul := u1.trans (u2.trans u3)
    refine ⟨s, q3, S3, o3, by omega, by omega, g3, ul, ?_⟩
    rw [callF, t_23]
    show fin S.length (B23 (tb (k + 8)) ⟨S.length, [some (.m i), some (.m j), none, none, none, none]⟩ S).res = _
    unfold B23
    refine seq_fin (by simp [e1, c]; exact ⟨rfl, rfl⟩) ?_
    refine seq_fin (by simp [e3]; exact ⟨rfl, rfl⟩) ?_
    refine seq_fin (by
      have sm : small62 (1 + (x : Int)) = true := by simp [small62_ap]; omega
      have tn : (1 + (x : Int)).toNat = x + 1 := by omega
      simp [e2, sm, tn]
      exact e4) ?_
    simp [take_eq ul.len]
end
end Lw

set_option Elab.async false
set_option linter.all false
set_option maxRecDepth 100000
namespace Lw
open PySem L2 Ev
abbrev MRK : Str := " !\"#$&'()*+,-./:;<=>?@ABCDEFGHIJKLMNOPQRSTUVWXYZ[\\]^_`{|}~"
abbrev TAI : Str := "a7k2z9b4c6d8e0f1"
theorem len_mrk : (cp MRK).length = 58 := by decide +kernel
theorem len_tai : (cp TAI).length = 16 := by decide +kernel
theorem mrk_no : ∀ c ∈ cp MRK, sign c = false := by decide +kernel
theorem once_name : isName "once" = true := by decide +kernel
structure Bad (z : Str) : Prop where
  no : isName z = false
  len : (cp z).length ≤ 100
theorem Bad.ne {z : Str} (h : Bad z) : z ≠ "once" := fun e => by
  have := h.no
  rw [e, once_name] at this
  cases this
theorem no_of {z : Str} (h : ¬ nmL (cp z)) : isName z = false := by
  cases e : isName z with
  | false => rfl
  | true => exact absurd ((name_iff z).1 e) h
theorem no_sign {z : Str} {c : Nat} (h : c ∈ cp z) (hc : sign c = false) : isName z = false := no_of fun n => by
  have := n.2.2.2 c h
  rw [hc] at this
  cases this
theorem dig_text {d : Int} (h0 : 0 ≤ d) (h1 : d < 10) : ∃ c, isLet c = false ∧ ∀ S, biStr S [.d (.int d)] = some (.str (T [c])) := by
  obtain rfl | rfl | rfl | rfl | rfl | rfl | rfl | rfl | rfl | rfl : d = 0 ∨ d = 1 ∨ d = 2 ∨ d = 3 ∨ d = 4 ∨ d = 5 ∨ d = 6 ∨ d = 7 ∨ d = 8 ∨ d = 9 := by omega
  · exact ⟨48, by decide +kernel, fun S => congrArg some (congrArg Dv.str (by decide +kernel))⟩
  · exact ⟨49, by decide +kernel, fun S => congrArg some (congrArg Dv.str (by decide +kernel))⟩
  · exact ⟨50, by decide +kernel, fun S => congrArg some (congrArg Dv.str (by decide +kernel))⟩
  · exact ⟨51, by decide +kernel, fun S => congrArg some (congrArg Dv.str (by decide +kernel))⟩
  · exact ⟨52, by decide +kernel, fun S => congrArg some (congrArg Dv.str (by decide +kernel))⟩
  · exact ⟨53, by decide +kernel, fun S => congrArg some (congrArg Dv.str (by decide +kernel))⟩
  · exact ⟨54, by decide +kernel, fun S => congrArg some (congrArg Dv.str (by decide +kernel))⟩
  · exact ⟨55, by decide +kernel, fun S => congrArg some (congrArg Dv.str (by decide +kernel))⟩
  · exact ⟨56, by decide +kernel, fun S => congrArg some (congrArg Dv.str (by decide +kernel))⟩
  · exact ⟨57, by decide +kernel, fun S => congrArg some (congrArg Dv.str (by decide +kernel))⟩
section
variable {k : Nat} {S : Sto} {i : Nat}
theorem s20 {p : Po} {w : Str} (hS : S[i]? = some p.l) (hw : isName w = true) : ∃ (z : Str) (q : Po) (S' : Sto), Bad z ∧ S'[i]? = some q.l ∧ Up1 i S S' ∧ callF (tb (k + 2) 20) [.m i, .d (.str w)] S = .ok (.d (.str z)) S' := by
  have nz := (name_iff w).1 hw
  have n1 := nz.1
  have n2 := nz.2.1
  have lz : (cp w).length ≤ 1000 := by omega
  have bl := fun S => bl_s S w lz
  have blm := fun S => bl_s S MRK (by rw [len_mrk]; decide)
  rw [len_mrk] at blm
  obtain ⟨d, q1, S1, a1, b1, g1, u1, e1⟩ := nx (k := k) hS (show (0 : Int) < 5 by decide) (by decide)
  obtain ⟨a, q2, S2, a2, b2, g2, u2, e2⟩ := nx (k := k) (m := (cp w).length) g1 (by omega) (by omega)
  obtain ⟨m, q3, S3, a3, b3, g3, u3, e3⟩ := nx (k := k) g2 (show (0 : Int) < 58 by decide) (by decide)
  obtain ⟨c, hc, e4⟩ := ix_s' (z := MRK) (by rw [len_mrk]; decide) a3 (by rw [len_mrk]; exact b3)
  have hc := mrk_no c hc
  rw [T_one] at e4
  have ul := u1.trans (u2.trans u3)
  have lt : (((cp w).take a.toNat)).length ≤ 12 := by rw [List.length_take]; omega
  have h3 := fun S => sum_s S (T ((cp w).take a.toNat)) (T [c]) (by rw [cp_T, cp_T]; simp; omega)
  simp only [T_app] at h3
  have fin3 : ∀ {z : Str} {T' : Sto}, Up1 i S T' → fin S.length (.ok (.d (.str z)) T') = .ok (.d (.str z)) T' := fun u => by simp [take_eq u.len]
  have st : ∀ {z : Str} {q : Po} {T' : Sto} {X : Res SV}, Bad z → T'[i]? = some q.l → Up1 i S T' → X = .ok (.d (.str z)) T' → ∃ (z : Str) (q : Po) (S' : Sto), Bad z ∧ S'[i]? = some q.l ∧ Up1 i S S' ∧ X = .ok (.d (.str z)) S' := fun h1 h2 h3 h4 => ⟨_, _, _, h1, h2, h3, h4⟩
  rw [callF, t_20]
  have start : ∀ {y : Res SV}, fin S.length ((sSeq (sIf (tV (eOp opEq (eVar 3) (eC (.int 0)))) (sRet (eC (.str ""))) (sNil))
    (sSeq (sIf (tV (eOp opEq (eVar 3) (eC (.int 1)))) (sRet (eOp opAdd (eBi biStr (aCons (eCall (tb (k + 1) 17) (aCons (eVar 0) (aCons (eC (.int 10)) (aNil)))) (aNil))) (eSl (eVar 1) oNo (oSo (eC (.int 11)))))) (sNil))
    (sSeq (sIf (tV (eOp opEq (eVar 3) (eC (.int 2)))) (sRet (eSl (eOp opAdd (eVar 1) (eC (.str "a7k2z9b4c6d8e0f1"))) oNo (oSo (eOp opAdd (eC (.int 13)) (eCall (tb (k + 1) 17) (aCons (eVar 0) (aCons (eC (.int 4)) (aNil)))))))) (sNil))
    (sSeq (sIf (tV (eOp opEq (eVar 3) (eC (.int 3)))) (sRet (eOp opAdd (eOp opAdd (eSl (eVar 1) oNo (oSo (eVar 4))) (eVar 5)) (eSl (eVar 1) (oSo (eOp opAdd (eVar 4) (eC (.int 1)))) oNo))) (sNil))
    (sRet (eOp opAdd (eOp opAdd (eSl (eVar 1) oNo (oSo (eVar 4))) (eVar 5)) (eSl (eVar 1) (oSo (eVar 4)) oNo))))))) ⟨S.length, [some (.m i), some (.d (.str w)), some (.d (.str MRK)), some (.d (.int d)), some (.d (.int a)), some (.d (.str (T [c])))]⟩ S3).res = y →
      fin S.length (runF 2 6 (B20 (tb (k + 1))) S.length [.m i, .d (.str w)] S) = y := fun {y} h => by
    show fin S.length (B20 (tb (k + 1)) ⟨S.length, [some (.m i), some (.d (.str w)), none, none, none, none]⟩ S).res = _
    unfold B20
    refine seq_fin (by simp; exact ⟨rfl, rfl⟩) ?_
    refine seq_fin (by simp [e1]; exact ⟨rfl, rfl⟩) ?_
    refine seq_fin (by simp [bl, e2]; exact ⟨rfl, rfl⟩) ?_
    refine seq_fin (by simp [blm, e3, e4]; exact ⟨rfl, rfl⟩) ?_
    exact h
  obtain rfl | rfl | rfl | rfl | rfl : d = 0 ∨ d = 1 ∨ d = 2 ∨ d = 3 ∨ d = 4 := by omega
  · refine st (z := "") ⟨by decide +kernel, by decide +kernel⟩ g3 ul (start ?_)
    simp [take_eq ul.len]
  · obtain ⟨y, q4, S4, a4, b4, g4, u4, e5⟩ := nx (k := k) g3 (show (0 : Int) < 10 by decide) (by decide)
    obtain ⟨c', hc', e6⟩ := dig_text a4 b4
    have s1 := fun S => sl_s S w none (some 11) lz
    rw [cut_hi w (show (0 : Int) ≤ 11 by decide)] at s1
    have s2 := fun S => sum_s S (T [c']) (T ((cp w).take (11 : Int).toNat)) (by rw [cp_T, cp_T]; simp; omega)
    simp only [T_app] at s2
    have ul4 := ul.trans u4
    refine st (z := T ([c'] ++ (cp w).take (11 : Int).toNat)) ⟨no_of fun n => ?_, ?_⟩ g4 ul4 (start ?_)
    · have := n.2.2.1 c' _ rfl
      rw [hc'] at this
      cases this
    · rw [cp_T]; simp; omega
    · simp [-opAdd_ss, e5, e6, s1]
      have s2' := s2 S4
      simp only [List.cons_append, List.nil_append] at s2'
      rw [show (11 : Int).toNat = 11 from rfl] at s2'
      simp [-opAdd_ss, s2', take_eq ul4.len]
  · obtain ⟨y, q4, S4, a4, b4, g4, u4, e5⟩ := nx (k := k) g3 (show (0 : Int) < 4 by decide) (by decide)
    have s1 := fun S => sum_s S w TAI (by rw [len_tai]; omega)
    have hl : (cp (w ++ TAI)).length = (cp w).length + 16 := by rw [cps_app, List.length_append, len_tai]
    have s2 := fun S => sl_s S (w ++ TAI) none (some (13 + y)) (by omega)
    rw [cut_hi _ (show (0 : Int) ≤ 13 + y by omega)] at s2
    have ul4 := ul.trans u4
    refine st (z := T ((cp (w ++ TAI)).take (13 + y).toNat)) ⟨no_of fun n => ?_, ?_⟩ g4 ul4 (start ?_)
    · have := n.2.1
      rw [cp_T, List.length_take] at this
      omega
    · rw [cp_T, List.length_take]; omega
    · simp [-opAdd_ss, e5, s1, s2, take_eq ul4.len]
  · have s1 := fun S => sl_s S w none (some a) lz
    rw [cut_hi w a2] at s1
    have s2 := fun S => sl_s S w (some (a + 1)) none lz
    rw [cut_lo w (show 0 ≤ a + 1 by omega)] at s2
    have s3 := fun S => sum_s S (T ((cp w).take a.toNat ++ [c])) (T ((cp w).drop (a + 1).toNat)) (by rw [cp_T, cp_T]; simp; omega)
    simp only [T_app] at s3
    refine st (z := T ((cp w).take a.toNat ++ [c] ++ (cp w).drop (a + 1).toNat)) ⟨no_sign (c := c) (by simp) hc, ?_⟩ g3 ul (start ?_)
    · rw [cp_T]; simp; omega
    · generalize (a + 1).toNat = a1 at *
      simp [-opAdd_ss, -List.append_assoc, s1, s2, h3, s3, take_eq ul.len]
  · have s1 := fun S => sl_s S w none (some a) lz
    rw [cut_hi w a2] at s1
    have s2 := fun S => sl_s S w (some a) none lz
    rw [cut_lo w a2] at s2
    have s3 := fun S => sum_s S (T ((cp w).take a.toNat ++ [c])) (T ((cp w).drop a.toNat)) (by rw [cp_T, cp_T]; simp; omega)
    simp only [T_app] at s3
    refine st (z := T ((cp w).take a.toNat ++ [c] ++ (cp w).drop a.toNat)) ⟨no_sign (c := c) (by simp) hc, ?_⟩ g3 ul (start ?_)
    · rw [cp_T]; simp; omega
    · simp [-opAdd_ss, -List.append_assoc, s1, s2, h3, s3, take_eq ul.len]
end
end Lw

set_option Elab.async false
set_option linter.all false
set_option maxRecDepth 100000
namespace Lw
open PySem L2 Ev
/-! ### the law's parts -/
theorem pl {k : Nat} {ns : List Int} {S : Sto} : ∃ (p : Po) (S' : Sto), S'[S.length]? = some p.l ∧ S'.length = S.length + 1 ∧ (∀ l, l ≠ S.length → S'[l]? = S[l]?) ∧ callK (tb (k + 2) 16) [.d (.lst (ns.map .int)), .d (.int 0)] S = .ok (.m S.length) S' :=
  pool_ok (k := 0) (g := tb (k + 2) 16) (c := tb (k + 1) 15) (fun b as S => rfl) (fun b as S => rfl)
theorem loop31 {b : Nat} (x0 x4 x5 x6 x7 x8 x9 x10 x11 : Option SV) : ∀ (n : Nat) (lo : Int) (S : Sto) (p : Po) (ns : List Str) (x3 : Option SV), S[0]? = some p.l → S[1]? = some (lN ns) → (∀ z ∈ ns, isName z = true) → ns.length + n ≤ 10 →
    ∃ (ns' : List Str) (q : Po) (S' : Sto) (y : Option SV), S'[0]? = some q.l ∧ S'[1]? = some (lN ns') ∧ (∀ z ∈ ns', isName z = true) ∧ ns'.length = ns.length + n ∧ S'.length = S.length ∧
      forL (gNm 3) (L31_2 (tb 99)) b (rng lo n) [x0, some (.m 0), some (.m 1), x3, x4, x5, x6, x7, x8, x9, x10, x11] S = .nx [x0, some (.m 0), some (.m 1), y, x4, x5, x6, x7, x8, x9, x10, x11] S'
  | 0, lo, S, p, ns, x3, h0, h1, hn, hl => ⟨ns, p, S, x3, h0, h1, hn, rfl, rfl, rfl⟩
  | n + 1, lo, S, p, ns, x3, h0, h1, hn, hl => by
    obtain ⟨z, q, S1, hz, g1, u1, e1⟩ := s19 (k := 97) h0 h1 (by decide) hn (by omega)
    have j1 : S1[1]? = some (lN ns) := by rw [u1.oth 1 (by decide)]; exact h1
    have l1 := lt_get j1
    obtain ⟨S2, hS2⟩ : ∃ X, X = S1.set 1 (lN (ns ++ [z])) := ⟨_, rfl⟩
    have e2 : muAppend b S1 (.m 1) [.d (.str z)] = some (.d .non, S2) := by
      rw [muAppend_m j1 rfl (Nat.lt_trans (show _ < 500 by simp; omega) (by decide)), hS2]
      simp [lN]
    have e3 : isL S1 (.m 1) = true := isL_ml j1
    have e3' : isL S (.m 1) = true := isL_ml h1
    obtain ⟨ns', q', S', y, a1, a2, a3, a4, a5, a6⟩ := loop31 (b := b) x0 x4 x5 x6 x7 x8 x9 x10 x11 n (lo + 1) S2 q (ns ++ [z]) (some (.d (.int lo))) (by rw [hS2, List.getElem?_set_ne (by decide)]; exact g1) (by rw [hS2]; simp [l1]) (fun w hw => by
      rcases List.mem_append.1 hw with hw | hw
      · exact hn w hw
      · rw [List.mem_singleton.1 hw]; exact hz) (by simp; omega)
    refine ⟨ns', q', S', y, a1, a2, a3, by rw [a4]; simp; omega, by rw [a5, hS2]; simp [u1.len], ?_⟩
    rw [rng_succ, forL_cons]
    simp only [gNm_ap, put_ap, List.set_cons_succ, List.set_cons_zero, kTg_s]
    have e4 : L31_2 (tb 99) ⟨b, [x0, some (.m 0), some (.m 1), some (.d (.int lo)), x4, x5, x6, x7, x8, x9, x10, x11]⟩ S = .nx [x0, some (.m 0), some (.m 1), some (.d (.int lo)), x4, x5, x6, x7, x8, x9, x10, x11] S2 := by
      simp [L31_2, e1, e2, e3, e3']
    rw [e4, kTu_nx]
    exact a6
theorem turn31 {b : Nat} {S : Sto} {s : Sn} {x : Dv} (hx : x = s.d) (ho : s.ok) (hh : s.ht ≤ 30) (hs : s.size ≤ 60) (x0 x1 x2 x3 x4 x5 x6 x8 x9 x10 x11 : Option SV) :
    L31_1 (tb 99) ⟨b, [x0, x1, x2, x3, x4, x5, x6, some (.d x), x8, x9, x10, x11]⟩ S = .nx [x0, x1, x2, x3, x4, x5, x6, some (.d x), x8, x9, x10, x11] S := by
  subst hx
  have e1 := s26 (k := 98) (S := S) s (by omega) (by omega) (by decide) (by decide)
  have e2 := s27 s (k := 95) (S := S) (by omega) ho
  have e3 := s18 (S := S) _ (k := 98) (told_sn s) (by omega)
  simp [L31_1, e1, e2, e3]
def ODD : List Dv := [.non, .int 0, .bl true, .str "", .str "Once", .str "once ", .tup [], .lst [], .tup [.str "once"], .tup [.int 3], .tup [.int 3, .int 2, .int 1], .lst [.int 3, .int 2], .tup [.int 0, .int 2], .tup [.int (-1), .int 2], .tup [.int 3, .int (-1)], .tup [.bl true, .int 2], .tup [.int 3, .bl false], .tup [.str "3", .int 2], .tup [.int 3, .str "2"], .tup [.tup [.int 3, .int 2], .int 2], .tup [.non, .int 2]]
theorem odd_no {k : Nat} {S : Sto} : ∀ v ∈ ODD, callF (tb (k + 2) 6) [.d v] S = .ok (.d (.bl false)) S := by
  intro v hv
  simp only [ODD, List.mem_cons, List.mem_nil_iff, or_false] at hv
  have s5b : ∀ b, callF (tb (k + 1) 5) [.d (.bl b)] S = .ok (.d (.bl false)) S := fun b => by rw [callF, t_5]; simp [runF, B5]
  have s5s : ∀ b, callF (tb (k + 1) 5) [.d (.str b)] S = .ok (.d (.bl false)) S := fun b => by rw [callF, t_5]; simp [runF, B5]
  have s5t : ∀ b, callF (tb (k + 1) 5) [.d (.tup b)] S = .ok (.d (.bl false)) S := fun b => by rw [callF, t_5]; simp [runF, B5]
  have s5n : callF (tb (k + 1) 5) [.d .non] S = .ok (.d (.bl false)) S := by rw [callF, t_5]; simp [runF, B5]
  have s5i := fun n => s5 (k := k) (S := S) n
  rcases hv with rfl | rfl | rfl | rfl | rfl | rfl | rfl | rfl | rfl | rfl | rfl | rfl | rfl | rfl | rfl | rfl | rfl | rfl | rfl | rfl | rfl <;>
    (rw [callF, t_6]; simp [runF, B6, s5b, s5s, s5t, s5n, s5i])
theorem odd_told {S : Sto} : ∀ v ∈ ODD, Told S 2 (.d v) v := by
  intro v hv
  simp only [ODD, List.mem_cons, List.mem_nil_iff, or_false] at hv
  have h2 : ∀ ys : List Dv, ys.length ≤ 1000 → (∀ y ∈ ys, Told S 1 (.d y) y) → Told S 2 (.d (.tup ys)) (.tup ys) := fun ys a b => told_tup a b
  rcases hv with rfl | rfl | rfl | rfl | rfl | rfl | rfl | rfl | rfl | rfl | rfl | rfl | rfl | rfl | rfl | rfl | rfl | rfl | rfl | rfl | rfl
  · exact .non _
  · exact .int _ _
  · exact .bl _ _
  · exact .str _ _
  · exact .str _ _
  · exact .str _ _
  · exact told_tup (by simp) (by simp)
  · exact told_lst (by simp) (by simp)
  · exact told_tup (by simp) (by simp; exact .str _ _)
  · exact told_tup (by simp) (by simp; exact .int _ _)
  · exact told_tup (by simp) (by simp; exact ⟨.int _ _, .int _ _, .int _ _⟩)
  · exact told_lst (by simp) (by simp; exact ⟨.int _ _, .int _ _⟩)
  · exact told_tup (by simp) (by simp; exact ⟨.int _ _, .int _ _⟩)
  · exact told_tup (by simp) (by simp; exact ⟨.int _ _, .int _ _⟩)
  · exact told_tup (by simp) (by simp; exact ⟨.int _ _, .int _ _⟩)
  · exact told_tup (by simp) (by simp; exact ⟨.bl _ _, .int _ _⟩)
  · exact told_tup (by simp) (by simp; exact ⟨.int _ _, .bl _ _⟩)
  · exact told_tup (by simp) (by simp; exact ⟨.str _ _, .int _ _⟩)
  · exact told_tup (by simp) (by simp; exact ⟨.int _ _, .str _ _⟩)
  · exact told_tup (by simp) (by simp; exact ⟨told_tup (by simp) (by simp; exact ⟨.int _ _, .int _ _⟩), .int _ _⟩)
  · exact told_tup (by simp) (by simp; exact ⟨.non _, .int _ _⟩)
theorem loop31b {b : Nat} {S : Sto} (a c : Dv) (x0 x1 x2 x3 x6 x7 x8 x9 x11 : Option SV) : ∀ (l : List Dv) (x10 : Option SV), (∀ v ∈ l, v ∈ ODD) →
    ∃ y, forL (gNm 10) (L31_0 (tb 99)) b (l.map .d) [x0, x1, x2, x3, some (.d a), some (.d c), x6, x7, x8, x9, x10, x11] S = .nx [x0, x1, x2, x3, some (.d a), some (.d c), x6, x7, x8, x9, y, x11] S
  | [], x10, _ => ⟨x10, rfl⟩
  | v :: l, x10, h => by
    have hv := h v (List.mem_cons_self ..)
    obtain ⟨y, e⟩ := loop31b (b := b) (S := S) a c x0 x1 x2 x3 x6 x7 x8 x9 x11 l (some (.d v)) (fun w hw => h w (List.mem_cons_of_mem _ hw))
    refine ⟨y, ?_⟩
    rw [List.map_cons, forL_cons]
    simp only [gNm_ap, put_ap, List.set_cons_succ, List.set_cons_zero, kTg_s]
    have e1 := s29 (k := 95) (S := S) v a c (odd_no v hv) (s18 2 (k := 97) (odd_told v hv) (by decide))
    have e2 : L31_0 (tb 99) ⟨b, [x0, x1, x2, x3, some (.d a), some (.d c), x6, x7, x8, x9, some (.d v), x11]⟩ S = .nx [x0, x1, x2, x3, some (.d a), some (.d c), x6, x7, x8, x9, some (.d v), x11] S := by simp [L31_0, e1]
    rw [e2, kTu_nx]
    exact e
theorem last_m {S : Sto} {j : Nat} {ns : List Str} (h : S[j]? = some (lN ns)) (h0 : ns ≠ []) : ∃ z ∈ ns, opIx S (.m j) (.d (.int (-1))) = some (.d (.str z)) := by
  refine ⟨ns.getLast h0, List.getLast_mem h0, ?_⟩
  have hl : 0 < ns.length := by cases ns with | nil => exact absurd rfl h0 | cons a l => simp
  unfold lN at h
  rw [opIx_m h]
  have : atI ((ns.map Dv.str).map SV.d) (-1) = ((ns.map Dv.str).map SV.d)[ns.length - 1]? := by
    unfold atI ixN
    rw [if_neg (by decide), if_pos (by simp; omega)]
    simp only [List.length_map]
    rw [show ((-1 : Int) + (ns.length : Int)).toNat = ns.length - 1 by omega]
    rfl
  rw [this]
  simp [List.getLast_eq_getElem]
end Lw

set_option Elab.async false
set_option linter.all false
set_option maxRecDepth 100000
namespace Lw
open PySem L2 Ev
theorem law_true (ns : List Int) (hns : ns.length ≤ 63) : ∃ S, tb 100 31 0 [.d (.lst (ns.map .int))] [] = .ok (.d (.bl true)) S := by
  obtain ⟨p1, S1, g1, l1, _, e1⟩ := pl (k := 97) (ns := ns) (S := [])
  simp only [List.length_nil, Nat.zero_add] at g1 l1 e1
  obtain ⟨S2, hS2⟩ : ∃ X, X = S1 ++ [lN []] := ⟨_, rfl⟩
  have g2 : S2[0]? = some p1.l := by rw [hS2]; exact get_app g1
  have j2 : S2[1]? = some (lN []) := by rw [hS2, ← l1]; exact top_m _ _
  have l2 : S2.length = 2 := by rw [hS2]; simp [l1]
  obtain ⟨d, p3, S3, a3, b3, g3, u3, e3⟩ := nx (k := 98) g2 (show (0 : Int) < 4 by decide) (by decide)
  have j3 : S3[1]? = some (lN []) := by rw [u3.oth 1 (by decide)]; exact j2
  obtain ⟨d, rfl⟩ := Int.eq_ofNat_of_zero_le a3
  obtain ⟨zs, p4, S4, y3, g4, j4, n4, z4, l4, e4⟩ := loop31 (b := 0) (some (.d (.lst (ns.map .int)))) none none none none none none none none (d + 1) 0 S3 p3 [] none g3 j3 (by simp) (by simp; omega)
  have z0 : zs ≠ [] := fun e => by rw [e] at z4; simp at z4
  have zl : zs.length ≤ 10 := by rw [z4]; simp; omega
  obtain ⟨s, p5, S5, o5, h5, w5, g5, u5, e5⟩ := s23 (k := 90) (i := 0) (j := 1) (by decide) n4 z0 zl g4 j4
  have j5 : S5[1]? = some (lN zs) := by rw [u5.oth 1 (by decide)]; exact j4
  obtain ⟨t, p6, S6, o6, h6, w6, g6, u6, e6⟩ := s23 (k := 90) (i := 0) (j := 1) (by decide) n4 z0 zl g5 j5
  have j6 : S6[1]? = some (lN zs) := by rw [u6.oth 1 (by decide)]; exact j5
  obtain ⟨m, p7, S7, g7, u7, e7⟩ := s21 (k := 97) g6
  have j7 : S7[1]? = some (lN zs) := by rw [u7.oth 1 (by decide)]; exact j6
  have t1 := fun x0 x1 x2 x3 x4 x5 x6 x8 x9 x10 x11 => turn31 (b := 0) (S := S7) (s := s) rfl o5 (by omega) (by omega) x0 x1 x2 x3 x4 x5 x6 x8 x9 x10 x11
  have t2 := fun x0 x1 x2 x3 x4 x5 x6 x8 x9 x10 x11 => turn31 (b := 0) (S := S7) (s := t) rfl o6 (by omega) (by omega) x0 x1 x2 x3 x4 x5 x6 x8 x9 x10 x11
  have t3 := fun x0 x1 x2 x3 x4 x5 x6 x8 x9 x10 x11 => turn31 (b := 0) (S := S7) (s := .menu s s) (x := .tup [.str "menu", s.d, s.d]) rfl (ok_mm o5 o5) (by simp only [Sn.ht]; omega) (by simp only [Sn.size]; omega) x0 x1 x2 x3 x4 x5 x6 x8 x9 x10 x11
  have t4 := fun x0 x1 x2 x3 x4 x5 x6 x8 x9 x10 x11 => turn31 (b := 0) (S := S7) (s := .trade m s t) (x := .tup [.str "trade", m.d, s.d, t.d]) rfl (ok_tt o5 o6) (by simp only [Sn.ht]; omega) (by simp only [Sn.size]; omega) x0 x1 x2 x3 x4 x5 x6 x8 x9 x10 x11
  have e8 := s10 (k := 96) (S := S7) t.d s.d none
  have e9 := s18 (S := S7) _ (k := 98) (told_sn (.trade none t s)) (by simp only [Sn.ht]; omega)
  simp only [Kd.d, Sn.d] at e8 e9
  obtain ⟨zl1, hzl, e10⟩ := last_m j7 z0
  obtain ⟨bad, p8, S8, hb, g8, u8, e11⟩ := s20 (k := 97) g7 (n4 zl1 hzl)
  have j8 : S8[1]? = some (lN zs) := by rw [u8.oth 1 (by decide)]; exact j7
  have e12 := s28 (k := 96) (S := S8) bad (by have := hb.len; exact Nat.le_trans this (by decide)) hb.no
  have e13 := s30 (k := 96) (S := S8) bad (by have := hb.len; exact Nat.le_trans this (by decide)) hb.no hb.ne s.d t.d
  obtain ⟨z1, hz1, e14⟩ := ixN_m (x := 0) j8 (by decide) (by cases zs with | nil => exact absurd rfl z0 | cons a l => simp)
  have nz := (name_iff z1).1 (n4 z1 hz1)
  have n1 := nz.1
  have n2 := nz.2.1
  have lt : (cp ("b3c4d5e6f7g8" : Str)).length = 12 := by decide +kernel
  have e15 := fun S => sum_s S z1 "b3c4d5e6f7g8" (by rw [lt]; omega)
  have lc : (cp (z1 ++ "b3c4d5e6f7g8")).length = (cp z1).length + 12 := by rw [cps_app, List.length_append, lt]
  have e16 := fun S => sl_s S (z1 ++ "b3c4d5e6f7g8") none (some 12) (by omega)
  rw [cut_hi _ (by decide)] at e16
  have tsg : ∀ c ∈ cp ("b3c4d5e6f7g8" : Str), sign c = true := by decide +kernel
  have nmL1 : nmL ((cp (z1 ++ "b3c4d5e6f7g8")).take (12 : Int).toNat) := by
    refine ⟨by rw [List.length_take, lc]; omega, by rw [List.length_take, lc]; omega, fun c r e => ?_, fun c hc => ?_⟩
    · rw [cps_app] at e
      cases hz : cp z1 with
      | nil => rw [hz] at n1; simp at n1
      | cons a l =>
        rw [hz] at e
        have : c = a := by
          have := congrArg List.head? e
          simpa using this.symm
        rw [this]
        exact nz.2.2.1 a l hz
    · rw [cps_app] at hc
      rcases List.mem_append.1 (List.mem_of_mem_take hc) with hc | hc
      · exact nz.2.2.2 c hc
      · exact tsg c hc
  obtain ⟨lg, hlg⟩ : ∃ X, X = T ((cp (z1 ++ "b3c4d5e6f7g8")).take (12 : Int).toNat) := ⟨_, rfl⟩
  have hg1 : isName lg = true := by rw [hlg]; exact name_T nmL1
  have nlg := (name_iff lg).1 hg1
  rw [← hlg] at e16
  have e17 := fun S => sl_s S lg none (some 1) (by have := nlg.2.1; omega)
  rw [cut_hi _ (by decide)] at e17
  obtain ⟨sh, hsh⟩ : ∃ X, X = T ((cp lg).take (1 : Int).toNat) := ⟨_, rfl⟩
  have hg2 : isName sh = true := by rw [hsh]; exact name_T (nm_take nlg (by decide))
  rw [← hsh] at e17
  have e18 := fun S => s8n lg (k := 97) (S := S) hg1
  have e19 := fun S => s8n sh (k := 97) (S := S) hg2
  have e20 := fun S => s18 (S := S) _ (k := 98) (told_sn (.word lg)) (by simp [Sn.ht])
  have e21 := fun S => s18 (S := S) _ (k := 98) (told_sn (.word sh)) (by simp [Sn.ht])
  simp only [Sn.d] at e18 e19 e20 e21
  obtain ⟨y10, e22⟩ := loop31b (b := 0) (S := S8) s.d t.d (some (.d (.lst (ns.map .int)))) (some (.m 0)) (some (.m 1)) y3 (some (.d m.d)) (some (.d s.d)) (some (.d (.str bad))) (some (.d (.lst ODD))) none ODD none (fun v hv => hv)
  refine ⟨S8, ?_⟩
  rw [t_31]
  show (B31 (tb 99) ⟨0, [some (.d (.lst (ns.map .int))), none, none, none, none, none, none, none, none, none, none, none]⟩ []).res = _
  unfold B31
  refine seq_res (by simp [e1]; exact ⟨rfl, rfl⟩) ?_
  refine seq_res (by simp [l1]; exact ⟨rfl, rfl⟩) ?_
  have h2 : S1 ++ [MO.lst []] = S2 := hS2.symm
  rw [h2]
  refine seq_res (by
    have sm : small62 (1 + (d : Int)) = true := by simp [small62_ap]; omega
    have tn : (1 + (d : Int)).toNat = d + 1 := by omega
    simp [e3, sm, tn]
    exact e4) ?_
  refine seq_res (by simp [e5]; exact ⟨rfl, rfl⟩) ?_
  refine seq_res (by simp [e6]; exact ⟨rfl, rfl⟩) ?_
  refine seq_res (by simp [e7]; exact ⟨rfl, rfl⟩) ?_
  refine seq_res (by simp [forL_cons, t1, t2, t3, t4]; exact ⟨rfl, rfl⟩) ?_
  refine seq_res (by simp [e8, e9]; exact ⟨rfl, rfl⟩) ?_
  refine seq_res (by simp [e10, e11]; exact ⟨rfl, rfl⟩) ?_
  refine seq_res (by simp [e12, e13]; exact ⟨rfl, rfl⟩) ?_
  refine seq_res (by simp; exact ⟨rfl, rfl⟩) ?_
  refine seq_res (by simp; exact ⟨rfl, rfl⟩) ?_
  refine seq_res (by
    simp
    exact e22) ?_
  refine seq_res (by simp [-opAdd_ss, e14, e15, e16]; exact ⟨rfl, rfl⟩) ?_
  simp [e17, e18, e19, e20, e21]
end Lw

set_option Elab.async false
set_option linter.all false
set_option maxRecDepth 100000
namespace Lw
open PySem L2 Ev
/-! ### the text by places -/
def top (i : Nat) : Stmt := PySem.Challenge.pw_heldproofs_k02_sentences_and_legs.main.body.getD i (.Pass ⟨0, 0, 0, 0⟩)
theorem nd_0 : (("value" : Str) == ("__debug__" : Str)) = false ∧ (("value" : Str) == ("__classdict__" : Str)) = false := ⟨by decide +kernel, by decide +kernel⟩
theorem nd_1 : (("is_number" : Str) == ("__debug__" : Str)) = false ∧ (("is_number" : Str) == ("__classdict__" : Str)) = false := ⟨by decide +kernel, by decide +kernel⟩
theorem nd_2 : (("char" : Str) == ("__debug__" : Str)) = false ∧ (("char" : Str) == ("__classdict__" : Str)) = false := ⟨by decide +kernel, by decide +kernel⟩
theorem nd_3 : (("DIGITS" : Str) == ("__debug__" : Str)) = false ∧ (("DIGITS" : Str) == ("__classdict__" : Str)) = false := ⟨by decide +kernel, by decide +kernel⟩
theorem nd_4 : (("LETTERS" : Str) == ("__debug__" : Str)) = false ∧ (("LETTERS" : Str) == ("__classdict__" : Str)) = false := ⟨by decide +kernel, by decide +kernel⟩
theorem nd_5 : (("text" : Str) == ("__debug__" : Str)) = false ∧ (("text" : Str) == ("__classdict__" : Str)) = false := ⟨by decide +kernel, by decide +kernel⟩
theorem nd_6 : (("LONGEST_NAME" : Str) == ("__debug__" : Str)) = false ∧ (("LONGEST_NAME" : Str) == ("__classdict__" : Str)) = false := ⟨by decide +kernel, by decide +kernel⟩
theorem nd_7 : (("name" : Str) == ("__debug__" : Str)) = false ∧ (("name" : Str) == ("__classdict__" : Str)) = false := ⟨by decide +kernel, by decide +kernel⟩
theorem nd_8 : (("is_name" : Str) == ("__debug__" : Str)) = false ∧ (("is_name" : Str) == ("__classdict__" : Str)) = false := ⟨by decide +kernel, by decide +kernel⟩
theorem nd_9 : (("BadName" : Str) == ("__debug__" : Str)) = false ∧ (("BadName" : Str) == ("__classdict__" : Str)) = false := ⟨by decide +kernel, by decide +kernel⟩
theorem nd_10 : (("left" : Str) == ("__debug__" : Str)) = false ∧ (("left" : Str) == ("__classdict__" : Str)) = false := ⟨by decide +kernel, by decide +kernel⟩
theorem nd_11 : (("right" : Str) == ("__debug__" : Str)) = false ∧ (("right" : Str) == ("__classdict__" : Str)) = false := ⟨by decide +kernel, by decide +kernel⟩
theorem nd_12 : (("kind" : Str) == ("__debug__" : Str)) = false ∧ (("kind" : Str) == ("__classdict__" : Str)) = false := ⟨by decide +kernel, by decide +kernel⟩
theorem nd_13 : (("price" : Str) == ("__debug__" : Str)) = false ∧ (("price" : Str) == ("__classdict__" : Str)) = false := ⟨by decide +kernel, by decide +kernel⟩
theorem nd_14 : (("goods" : Str) == ("__debug__" : Str)) = false ∧ (("goods" : Str) == ("__classdict__" : Str)) = false := ⟨by decide +kernel, by decide +kernel⟩
theorem nd_15 : (("is_kind" : Str) == ("__debug__" : Str)) = false ∧ (("is_kind" : Str) == ("__classdict__" : Str)) = false := ⟨by decide +kernel, by decide +kernel⟩
theorem nd_16 : (("BadKind" : Str) == ("__debug__" : Str)) = false ∧ (("BadKind" : Str) == ("__classdict__" : Str)) = false := ⟨by decide +kernel, by decide +kernel⟩
theorem nd_17 : (("sentence" : Str) == ("__debug__" : Str)) = false ∧ (("sentence" : Str) == ("__classdict__" : Str)) = false := ⟨by decide +kernel, by decide +kernel⟩
theorem nd_18 : (("size" : Str) == ("__debug__" : Str)) = false ∧ (("size" : Str) == ("__classdict__" : Str)) = false := ⟨by decide +kernel, by decide +kernel⟩
theorem nd_19 : (("sides" : Str) == ("__debug__" : Str)) = false ∧ (("sides" : Str) == ("__classdict__" : Str)) = false := ⟨by decide +kernel, by decide +kernel⟩
theorem nd_20 : (("names" : Str) == ("__debug__" : Str)) = false ∧ (("names" : Str) == ("__classdict__" : Str)) = false := ⟨by decide +kernel, by decide +kernel⟩
theorem nd_21 : (("words_in" : Str) == ("__debug__" : Str)) = false ∧ (("words_in" : Str) == ("__classdict__" : Str)) = false := ⟨by decide +kernel, by decide +kernel⟩
theorem nd_22 : (("legs" : Str) == ("__debug__" : Str)) = false ∧ (("legs" : Str) == ("__classdict__" : Str)) = false := ⟨by decide +kernel, by decide +kernel⟩
theorem nd_23 : (("prices" : Str) == ("__debug__" : Str)) = false ∧ (("prices" : Str) == ("__classdict__" : Str)) = false := ⟨by decide +kernel, by decide +kernel⟩
theorem nd_24 : (("_law_k" : Str) == ("__debug__" : Str)) = false ∧ (("_law_k" : Str) == ("__classdict__" : Str)) = false := ⟨by decide +kernel, by decide +kernel⟩
theorem nd_25 : (("_law_script" : Str) == ("__debug__" : Str)) = false ∧ (("_law_script" : Str) == ("__classdict__" : Str)) = false := ⟨by decide +kernel, by decide +kernel⟩
theorem nd_26 : (("_law_cell_here" : Str) == ("__debug__" : Str)) = false ∧ (("_law_cell_here" : Str) == ("__classdict__" : Str)) = false := ⟨by decide +kernel, by decide +kernel⟩
theorem nd_27 : (("_law_cell" : Str) == ("__debug__" : Str)) = false ∧ (("_law_cell" : Str) == ("__classdict__" : Str)) = false := ⟨by decide +kernel, by decide +kernel⟩
theorem nd_28 : (("_law_mixed" : Str) == ("__debug__" : Str)) = false ∧ (("_law_mixed" : Str) == ("__classdict__" : Str)) = false := ⟨by decide +kernel, by decide +kernel⟩
theorem nd_29 : (("_law_many" : Str) == ("__debug__" : Str)) = false ∧ (("_law_many" : Str) == ("__classdict__" : Str)) = false := ⟨by decide +kernel, by decide +kernel⟩
theorem nd_30 : (("_law_pool_here" : Str) == ("__debug__" : Str)) = false ∧ (("_law_pool_here" : Str) == ("__classdict__" : Str)) = false := ⟨by decide +kernel, by decide +kernel⟩
theorem nd_31 : (("_law_digit" : Str) == ("__debug__" : Str)) = false ∧ (("_law_digit" : Str) == ("__classdict__" : Str)) = false := ⟨by decide +kernel, by decide +kernel⟩
theorem nd_32 : (("_law_told" : Str) == ("__debug__" : Str)) = false ∧ (("_law_told" : Str) == ("__classdict__" : Str)) = false := ⟨by decide +kernel, by decide +kernel⟩
theorem nd_33 : (("_law_due" : Str) == ("__debug__" : Str)) = false ∧ (("_law_due" : Str) == ("__classdict__" : Str)) = false := ⟨by decide +kernel, by decide +kernel⟩
theorem nd_34 : (("_law_same" : Str) == ("__debug__" : Str)) = false ∧ (("_law_same" : Str) == ("__classdict__" : Str)) = false := ⟨by decide +kernel, by decide +kernel⟩
theorem nd_35 : (("_law_name_here" : Str) == ("__debug__" : Str)) = false ∧ (("_law_name_here" : Str) == ("__classdict__" : Str)) = false := ⟨by decide +kernel, by decide +kernel⟩
theorem nd_36 : (("_law_signs" : Str) == ("__debug__" : Str)) = false ∧ (("_law_signs" : Str) == ("__classdict__" : Str)) = false := ⟨by decide +kernel, by decide +kernel⟩
theorem nd_37 : (("_law_next" : Str) == ("__debug__" : Str)) = false ∧ (("_law_next" : Str) == ("__classdict__" : Str)) = false := ⟨by decide +kernel, by decide +kernel⟩
theorem nd_38 : (("_law_letters" : Str) == ("__debug__" : Str)) = false ∧ (("_law_letters" : Str) == ("__classdict__" : Str)) = false := ⟨by decide +kernel, by decide +kernel⟩
theorem nd_39 : (("_law_pick" : Str) == ("__debug__" : Str)) = false ∧ (("_law_pick" : Str) == ("__classdict__" : Str)) = false := ⟨by decide +kernel, by decide +kernel⟩
theorem nd_40 : (("_law_names" : Str) == ("__debug__" : Str)) = false ∧ (("_law_names" : Str) == ("__classdict__" : Str)) = false := ⟨by decide +kernel, by decide +kernel⟩
theorem nd_41 : (("_law_at" : Str) == ("__debug__" : Str)) = false ∧ (("_law_at" : Str) == ("__classdict__" : Str)) = false := ⟨by decide +kernel, by decide +kernel⟩
theorem nd_42 : (("_law_mark" : Str) == ("__debug__" : Str)) = false ∧ (("_law_mark" : Str) == ("__classdict__" : Str)) = false := ⟨by decide +kernel, by decide +kernel⟩
theorem nd_43 : (("_law_marks" : Str) == ("__debug__" : Str)) = false ∧ (("_law_marks" : Str) == ("__classdict__" : Str)) = false := ⟨by decide +kernel, by decide +kernel⟩
theorem nd_44 : (("_law_mode" : Str) == ("__debug__" : Str)) = false ∧ (("_law_mode" : Str) == ("__classdict__" : Str)) = false := ⟨by decide +kernel, by decide +kernel⟩
theorem nd_45 : (("_law_one" : Str) == ("__debug__" : Str)) = false ∧ (("_law_one" : Str) == ("__classdict__" : Str)) = false := ⟨by decide +kernel, by decide +kernel⟩
theorem nd_46 : (("_law_two" : Str) == ("__debug__" : Str)) = false ∧ (("_law_two" : Str) == ("__classdict__" : Str)) = false := ⟨by decide +kernel, by decide +kernel⟩
theorem nd_47 : (("_law_depth" : Str) == ("__debug__" : Str)) = false ∧ (("_law_depth" : Str) == ("__classdict__" : Str)) = false := ⟨by decide +kernel, by decide +kernel⟩
theorem nd_48 : (("_law_deep" : Str) == ("__debug__" : Str)) = false ∧ (("_law_deep" : Str) == ("__classdict__" : Str)) = false := ⟨by decide +kernel, by decide +kernel⟩
theorem nd_49 : (("_law_sentence_here" : Str) == ("__debug__" : Str)) = false ∧ (("_law_sentence_here" : Str) == ("__classdict__" : Str)) = false := ⟨by decide +kernel, by decide +kernel⟩
theorem nd_50 : (("_law_other" : Str) == ("__debug__" : Str)) = false ∧ (("_law_other" : Str) == ("__classdict__" : Str)) = false := ⟨by decide +kernel, by decide +kernel⟩
theorem nd_51 : (("_law_found" : Str) == ("__debug__" : Str)) = false ∧ (("_law_found" : Str) == ("__classdict__" : Str)) = false := ⟨by decide +kernel, by decide +kernel⟩
theorem nd_52 : (("_law_left" : Str) == ("__debug__" : Str)) = false ∧ (("_law_left" : Str) == ("__classdict__" : Str)) = false := ⟨by decide +kernel, by decide +kernel⟩
theorem nd_53 : (("_law_row" : Str) == ("__debug__" : Str)) = false ∧ (("_law_row" : Str) == ("__classdict__" : Str)) = false := ⟨by decide +kernel, by decide +kernel⟩
theorem nd_54 : (("_law_unlike" : Str) == ("__debug__" : Str)) = false ∧ (("_law_unlike" : Str) == ("__classdict__" : Str)) = false := ⟨by decide +kernel, by decide +kernel⟩
theorem nd_55 : (("_law_listed" : Str) == ("__debug__" : Str)) = false ∧ (("_law_listed" : Str) == ("__classdict__" : Str)) = false := ⟨by decide +kernel, by decide +kernel⟩
theorem nd_56 : (("_law_prices" : Str) == ("__debug__" : Str)) = false ∧ (("_law_prices" : Str) == ("__classdict__" : Str)) = false := ⟨by decide +kernel, by decide +kernel⟩
theorem nd_57 : (("_law_lead" : Str) == ("__debug__" : Str)) = false ∧ (("_law_lead" : Str) == ("__classdict__" : Str)) = false := ⟨by decide +kernel, by decide +kernel⟩
theorem nd_58 : (("_law_words" : Str) == ("__debug__" : Str)) = false ∧ (("_law_words" : Str) == ("__classdict__" : Str)) = false := ⟨by decide +kernel, by decide +kernel⟩
theorem nd_59 : (("_law_legs" : Str) == ("__debug__" : Str)) = false ∧ (("_law_legs" : Str) == ("__classdict__" : Str)) = false := ⟨by decide +kernel, by decide +kernel⟩
theorem nd_60 : (("trade" : Str) == ("__debug__" : Str)) = false ∧ (("trade" : Str) == ("__classdict__" : Str)) = false := ⟨by decide +kernel, by decide +kernel⟩
theorem nd_61 : (("menu" : Str) == ("__debug__" : Str)) = false ∧ (("menu" : Str) == ("__classdict__" : Str)) = false := ⟨by decide +kernel, by decide +kernel⟩
theorem nd_62 : (("_law_through" : Str) == ("__debug__" : Str)) = false ∧ (("_law_through" : Str) == ("__classdict__" : Str)) = false := ⟨by decide +kernel, by decide +kernel⟩
theorem nd_63 : (("word" : Str) == ("__debug__" : Str)) = false ∧ (("word" : Str) == ("__classdict__" : Str)) = false := ⟨by decide +kernel, by decide +kernel⟩
theorem nd_64 : (("e" : Str) == ("__debug__" : Str)) = false ∧ (("e" : Str) == ("__classdict__" : Str)) = false := ⟨by decide +kernel, by decide +kernel⟩
theorem nd_65 : (("HeldError" : Str) == ("__debug__" : Str)) = false ∧ (("HeldError" : Str) == ("__classdict__" : Str)) = false := ⟨by decide +kernel, by decide +kernel⟩
theorem nd_66 : (("NotSimple" : Str) == ("__debug__" : Str)) = false ∧ (("NotSimple" : Str) == ("__classdict__" : Str)) = false := ⟨by decide +kernel, by decide +kernel⟩
theorem nd_67 : (("TextError" : Str) == ("__debug__" : Str)) = false ∧ (("TextError" : Str) == ("__classdict__" : Str)) = false := ⟨by decide +kernel, by decide +kernel⟩
theorem nd_68 : (("UnknownName" : Str) == ("__debug__" : Str)) = false ∧ (("UnknownName" : Str) == ("__classdict__" : Str)) = false := ⟨by decide +kernel, by decide +kernel⟩
theorem nd_69 : (("NameTaken" : Str) == ("__debug__" : Str)) = false ∧ (("NameTaken" : Str) == ("__classdict__" : Str)) = false := ⟨by decide +kernel, by decide +kernel⟩
theorem nd_70 : (("_law_value" : Str) == ("__debug__" : Str)) = false ∧ (("_law_value" : Str) == ("__classdict__" : Str)) = false := ⟨by decide +kernel, by decide +kernel⟩
theorem nd_71 : (("_law_count" : Str) == ("__debug__" : Str)) = false ∧ (("_law_count" : Str) == ("__classdict__" : Str)) = false := ⟨by decide +kernel, by decide +kernel⟩
theorem nd_72 : (("_law_long" : Str) == ("__debug__" : Str)) = false ∧ (("_law_long" : Str) == ("__classdict__" : Str)) = false := ⟨by decide +kernel, by decide +kernel⟩
theorem nd_73 : (("_law_kind_refused" : Str) == ("__debug__" : Str)) = false ∧ (("_law_kind_refused" : Str) == ("__classdict__" : Str)) = false := ⟨by decide +kernel, by decide +kernel⟩
theorem nd_74 : (("_law_odd" : Str) == ("__debug__" : Str)) = false ∧ (("_law_odd" : Str) == ("__classdict__" : Str)) = false := ⟨by decide +kernel, by decide +kernel⟩
theorem nd_75 : (("_law_bad" : Str) == ("__debug__" : Str)) = false ∧ (("_law_bad" : Str) == ("__classdict__" : Str)) = false := ⟨by decide +kernel, by decide +kernel⟩
theorem nd_76 : (("_law_refused_at_all" : Str) == ("__debug__" : Str)) = false ∧ (("_law_refused_at_all" : Str) == ("__classdict__" : Str)) = false := ⟨by decide +kernel, by decide +kernel⟩
theorem nd_77 : (("_law_name_refused" : Str) == ("__debug__" : Str)) = false ∧ (("_law_name_refused" : Str) == ("__classdict__" : Str)) = false := ⟨by decide +kernel, by decide +kernel⟩
theorem nd_78 : (("_law_bad_name" : Str) == ("__debug__" : Str)) = false ∧ (("_law_bad_name" : Str) == ("__classdict__" : Str)) = false := ⟨by decide +kernel, by decide +kernel⟩
theorem nd_79 : (("_law_tells" : Str) == ("__debug__" : Str)) = false ∧ (("_law_tells" : Str) == ("__classdict__" : Str)) = false := ⟨by decide +kernel, by decide +kernel⟩
theorem nd_80 : (("_law_mode_here" : Str) == ("__debug__" : Str)) = false ∧ (("_law_mode_here" : Str) == ("__classdict__" : Str)) = false := ⟨by decide +kernel, by decide +kernel⟩
theorem nd_81 : (("_law_sentence" : Str) == ("__debug__" : Str)) = false ∧ (("_law_sentence" : Str) == ("__classdict__" : Str)) = false := ⟨by decide +kernel, by decide +kernel⟩
theorem nd_82 : (("_law_name" : Str) == ("__debug__" : Str)) = false ∧ (("_law_name" : Str) == ("__classdict__" : Str)) = false := ⟨by decide +kernel, by decide +kernel⟩
theorem nd_83 : (("_law_pool" : Str) == ("__debug__" : Str)) = false ∧ (("_law_pool" : Str) == ("__classdict__" : Str)) = false := ⟨by decide +kernel, by decide +kernel⟩
theorem nd_84 : (("self" : Str) == ("__debug__" : Str)) = false ∧ (("self" : Str) == ("__classdict__" : Str)) = false := ⟨by decide +kernel, by decide +kernel⟩
theorem v_5_0 : (defScope (top 9)).names.lookup ("value" : Str) = some .local := by decide +kernel
theorem g_5_isinstance : (defScope (top 9)).names.lookup ("isinstance" : Str) = some .globalImplicit := by decide +kernel
theorem g_5_bool : (defScope (top 9)).names.lookup ("bool" : Str) = some .globalImplicit := by decide +kernel
theorem g_5_int : (defScope (top 9)).names.lookup ("int" : Str) = some .globalImplicit := by decide +kernel
theorem v_6_0 : (defScope (top 10)).names.lookup ("value" : Str) = some .local := by decide +kernel
theorem g_6_is_number : (defScope (top 10)).names.lookup ("is_number" : Str) = some .globalImplicit := by decide +kernel
theorem g_6_len : (defScope (top 10)).names.lookup ("len" : Str) = some .globalImplicit := by decide +kernel
theorem g_6_isinstance : (defScope (top 10)).names.lookup ("isinstance" : Str) = some .globalImplicit := by decide +kernel
theorem g_6_tuple : (defScope (top 10)).names.lookup ("tuple" : Str) = some .globalImplicit := by decide +kernel
theorem g_6_str : (defScope (top 10)).names.lookup ("str" : Str) = some .globalImplicit := by decide +kernel
theorem v_7_1 : (defScope (top 15)).names.lookup ("char" : Str) = some .local := by decide +kernel
theorem g_7_DIGITS : (defScope (top 15)).names.lookup ("DIGITS" : Str) = some .globalImplicit := by decide +kernel
theorem g_7_LETTERS : (defScope (top 15)).names.lookup ("LETTERS" : Str) = some .globalImplicit := by decide +kernel
theorem v_7_0 : (defScope (top 15)).names.lookup ("text" : Str) = some .local := by decide +kernel
theorem g_7_len : (defScope (top 15)).names.lookup ("len" : Str) = some .globalImplicit := by decide +kernel
theorem g_7_LONGEST_NAME : (defScope (top 15)).names.lookup ("LONGEST_NAME" : Str) = some .globalImplicit := by decide +kernel
theorem v_8_0 : (defScope (top 16)).names.lookup ("name" : Str) = some .local := by decide +kernel
theorem g_8_is_name : (defScope (top 16)).names.lookup ("is_name" : Str) = some .globalImplicit := by decide +kernel
theorem g_8_BadName : (defScope (top 16)).names.lookup ("BadName" : Str) = some .globalImplicit := by decide +kernel
theorem v_9_0 : (defScope (top 17)).names.lookup ("left" : Str) = some .local := by decide +kernel
theorem v_9_1 : (defScope (top 17)).names.lookup ("right" : Str) = some .local := by decide +kernel
theorem v_10_2 : (defScope (top 18)).names.lookup ("kind" : Str) = some .local := by decide +kernel
theorem v_10_0 : (defScope (top 18)).names.lookup ("price" : Str) = some .local := by decide +kernel
theorem v_10_1 : (defScope (top 18)).names.lookup ("goods" : Str) = some .local := by decide +kernel
theorem g_10_is_kind : (defScope (top 18)).names.lookup ("is_kind" : Str) = some .globalImplicit := by decide +kernel
theorem g_10_BadKind : (defScope (top 18)).names.lookup ("BadKind" : Str) = some .globalImplicit := by decide +kernel
theorem v_11_0 : (defScope (top 19)).names.lookup ("sentence" : Str) = some .local := by decide +kernel
theorem v_12_1 : (defScope (top 20)).names.lookup ("left" : Str) = some .local := by decide +kernel
theorem g_12_size : (defScope (top 20)).names.lookup ("size" : Str) = some .globalImplicit := by decide +kernel
theorem v_12_2 : (defScope (top 20)).names.lookup ("right" : Str) = some .local := by decide +kernel
theorem v_12_0 : (defScope (top 20)).names.lookup ("sentence" : Str) = some .local := by decide +kernel
theorem g_12_sides : (defScope (top 20)).names.lookup ("sides" : Str) = some .globalImplicit := by decide +kernel
theorem v_13_3 : (defScope (top 21)).names.lookup ("names" : Str) = some .local := by decide +kernel
theorem v_13_4 : (defScope (top 21)).names.lookup ("name" : Str) = some .local := by decide +kernel
theorem v_13_2 : (defScope (top 21)).names.lookup ("right" : Str) = some .local := by decide +kernel
theorem g_13_words_in : (defScope (top 21)).names.lookup ("words_in" : Str) = some .globalImplicit := by decide +kernel
theorem v_13_1 : (defScope (top 21)).names.lookup ("left" : Str) = some .local := by decide +kernel
theorem v_13_0 : (defScope (top 21)).names.lookup ("sentence" : Str) = some .local := by decide +kernel
theorem g_13_sides : (defScope (top 21)).names.lookup ("sides" : Str) = some .globalImplicit := by decide +kernel
theorem v_14_0 : (defScope (top 22)).names.lookup ("sentence" : Str) = some .local := by decide +kernel
theorem g_14_legs : (defScope (top 22)).names.lookup ("legs" : Str) = some .globalImplicit := by decide +kernel
theorem v_14_1 : (defScope (top 22)).names.lookup ("price" : Str) = some .cell := by decide +kernel
theorem v_15_1 : (defScope (top 24)).names.lookup ("_law_k" : Str) = some .local := by decide +kernel
theorem v_15_0 : (defScope (top 24)).names.lookup ("_law_script" : Str) = some .local := by decide +kernel
theorem g_15_len : (defScope (top 24)).names.lookup ("len" : Str) = some .globalImplicit := by decide +kernel
theorem g_15_abs : (defScope (top 24)).names.lookup ("abs" : Str) = some .globalImplicit := by decide +kernel
theorem v_16_2 : (defScope (top 25)).names.lookup ("_law_cell_here" : Str) = some .local := by decide +kernel
theorem g_16_int : (defScope (top 25)).names.lookup ("int" : Str) = some .globalImplicit := by decide +kernel
theorem v_16_0 : (defScope (top 25)).names.lookup ("_law_script" : Str) = some .local := by decide +kernel
theorem v_16_1 : (defScope (top 25)).names.lookup ("_law_k" : Str) = some .local := by decide +kernel
theorem g_16__law_cell : (defScope (top 25)).names.lookup ("_law_cell" : Str) = some .globalImplicit := by decide +kernel
theorem v_17_3 : (defScope (top 26)).names.lookup ("_law_mixed" : Str) = some .local := by decide +kernel
theorem g_17_int : (defScope (top 26)).names.lookup ("int" : Str) = some .globalImplicit := by decide +kernel
theorem v_17_1 : (defScope (top 26)).names.lookup ("_law_many" : Str) = some .local := by decide +kernel
theorem v_17_0 : (defScope (top 26)).names.lookup ("_law_pool_here" : Str) = some .local := by decide +kernel
theorem v_17_2 : (defScope (top 26)).names.lookup ("_law_digit" : Str) = some .local := by decide +kernel
theorem v_18_2 : (defScope (top 27)).names.lookup ("_law_k" : Str) = some .local := by decide +kernel
theorem v_18_0 : (defScope (top 27)).names.lookup ("_law_told" : Str) = some .local := by decide +kernel
theorem v_18_1 : (defScope (top 27)).names.lookup ("_law_due" : Str) = some .local := by decide +kernel
theorem g_18__law_same : (defScope (top 27)).names.lookup ("_law_same" : Str) = some .globalImplicit := by decide +kernel
theorem g_18_len : (defScope (top 27)).names.lookup ("len" : Str) = some .globalImplicit := by decide +kernel
theorem g_18_range : (defScope (top 27)).names.lookup ("range" : Str) = some .globalImplicit := by decide +kernel
theorem g_18_isinstance : (defScope (top 27)).names.lookup ("isinstance" : Str) = some .globalImplicit := by decide +kernel
theorem g_18_tuple : (defScope (top 27)).names.lookup ("tuple" : Str) = some .globalImplicit := by decide +kernel
theorem g_18_list : (defScope (top 27)).names.lookup ("list" : Str) = some .globalImplicit := by decide +kernel
theorem g_18_str : (defScope (top 27)).names.lookup ("str" : Str) = some .globalImplicit := by decide +kernel
theorem g_18_int : (defScope (top 27)).names.lookup ("int" : Str) = some .globalImplicit := by decide +kernel
theorem g_18_bool : (defScope (top 27)).names.lookup ("bool" : Str) = some .globalImplicit := by decide +kernel
theorem v_19_5 : (defScope (top 28)).names.lookup ("_law_name_here" : Str) = some .local := by decide +kernel
theorem v_19_7 : (defScope (top 28)).names.lookup ("_law_k" : Str) = some .local := by decide +kernel
theorem v_19_3 : (defScope (top 28)).names.lookup ("_law_signs" : Str) = some .local := by decide +kernel
theorem v_19_0 : (defScope (top 28)).names.lookup ("_law_pool_here" : Str) = some .local := by decide +kernel
theorem g_19__law_next : (defScope (top 28)).names.lookup ("_law_next" : Str) = some .globalImplicit := by decide +kernel
theorem g_19_range : (defScope (top 28)).names.lookup ("range" : Str) = some .globalImplicit := by decide +kernel
theorem v_19_2 : (defScope (top 28)).names.lookup ("_law_letters" : Str) = some .local := by decide +kernel
theorem v_19_4 : (defScope (top 28)).names.lookup ("_law_pick" : Str) = some .local := by decide +kernel
theorem v_19_1 : (defScope (top 28)).names.lookup ("_law_names" : Str) = some .local := by decide +kernel
theorem v_19_6 : (defScope (top 28)).names.lookup ("_law_at" : Str) = some .local := by decide +kernel
theorem g_19_max : (defScope (top 28)).names.lookup ("max" : Str) = some .globalImplicit := by decide +kernel
theorem g_19_len : (defScope (top 28)).names.lookup ("len" : Str) = some .globalImplicit := by decide +kernel
theorem v_20_1 : (defScope (top 29)).names.lookup ("_law_name_here" : Str) = some .local := by decide +kernel
theorem v_20_4 : (defScope (top 29)).names.lookup ("_law_at" : Str) = some .local := by decide +kernel
theorem v_20_5 : (defScope (top 29)).names.lookup ("_law_mark" : Str) = some .local := by decide +kernel
theorem v_20_3 : (defScope (top 29)).names.lookup ("_law_pick" : Str) = some .local := by decide +kernel
theorem v_20_0 : (defScope (top 29)).names.lookup ("_law_pool_here" : Str) = some .local := by decide +kernel
theorem g_20__law_next : (defScope (top 29)).names.lookup ("_law_next" : Str) = some .globalImplicit := by decide +kernel
theorem g_20_str : (defScope (top 29)).names.lookup ("str" : Str) = some .globalImplicit := by decide +kernel
theorem v_20_2 : (defScope (top 29)).names.lookup ("_law_marks" : Str) = some .local := by decide +kernel
theorem g_20_len : (defScope (top 29)).names.lookup ("len" : Str) = some .globalImplicit := by decide +kernel
theorem v_21_0 : (defScope (top 30)).names.lookup ("_law_pool_here" : Str) = some .local := by decide +kernel
theorem g_21__law_next : (defScope (top 30)).names.lookup ("_law_next" : Str) = some .globalImplicit := by decide +kernel
theorem v_22_0 : (defScope (top 31)).names.lookup ("_law_pool_here" : Str) = some .local := by decide +kernel
theorem g_22__law_mode : (defScope (top 31)).names.lookup ("_law_mode" : Str) = some .globalImplicit := by decide +kernel
theorem v_22_4 : (defScope (top 31)).names.lookup ("_law_one" : Str) = some .local := by decide +kernel
theorem v_22_5 : (defScope (top 31)).names.lookup ("_law_two" : Str) = some .local := by decide +kernel
theorem v_22_3 : (defScope (top 31)).names.lookup ("_law_pick" : Str) = some .local := by decide +kernel
theorem v_22_1 : (defScope (top 31)).names.lookup ("_law_names" : Str) = some .local := by decide +kernel
theorem v_22_2 : (defScope (top 31)).names.lookup ("_law_depth" : Str) = some .local := by decide +kernel
theorem g_22__law_deep : (defScope (top 31)).names.lookup ("_law_deep" : Str) = some .globalImplicit := by decide +kernel
theorem g_22_len : (defScope (top 31)).names.lookup ("len" : Str) = some .globalImplicit := by decide +kernel
theorem g_22__law_next : (defScope (top 31)).names.lookup ("_law_next" : Str) = some .globalImplicit := by decide +kernel
theorem v_23_2 : (defScope (top 32)).names.lookup ("_law_sentence_here" : Str) = some .local := by decide +kernel
theorem v_23_3 : (defScope (top 32)).names.lookup ("_law_k" : Str) = some .local := by decide +kernel
theorem v_23_5 : (defScope (top 32)).names.lookup ("_law_pick" : Str) = some .local := by decide +kernel
theorem v_23_4 : (defScope (top 32)).names.lookup ("_law_other" : Str) = some .local := by decide +kernel
theorem v_23_0 : (defScope (top 32)).names.lookup ("_law_pool_here" : Str) = some .local := by decide +kernel
theorem g_23__law_mode : (defScope (top 32)).names.lookup ("_law_mode" : Str) = some .globalImplicit := by decide +kernel
theorem g_23__law_next : (defScope (top 32)).names.lookup ("_law_next" : Str) = some .globalImplicit := by decide +kernel
theorem v_23_1 : (defScope (top 32)).names.lookup ("_law_names" : Str) = some .local := by decide +kernel
theorem g_23_len : (defScope (top 32)).names.lookup ("len" : Str) = some .globalImplicit := by decide +kernel
theorem g_23_range : (defScope (top 32)).names.lookup ("range" : Str) = some .globalImplicit := by decide +kernel
theorem g_23__law_deep : (defScope (top 32)).names.lookup ("_law_deep" : Str) = some .globalImplicit := by decide +kernel
theorem v_24_1 : (defScope (top 33)).names.lookup ("_law_found" : Str) = some .local := by decide +kernel
theorem v_24_2 : (defScope (top 33)).names.lookup ("_law_left" : Str) = some .local := by decide +kernel
theorem v_24_4 : (defScope (top 33)).names.lookup ("_law_one" : Str) = some .local := by decide +kernel
theorem v_24_3 : (defScope (top 33)).names.lookup ("_law_row" : Str) = some .local := by decide +kernel
theorem g_24_list : (defScope (top 33)).names.lookup ("list" : Str) = some .globalImplicit := by decide +kernel
theorem v_24_0 : (defScope (top 33)).names.lookup ("_law_sentence_here" : Str) = some .local := by decide +kernel
theorem v_25_1 : (defScope (top 34)).names.lookup ("_law_found" : Str) = some .local := by decide +kernel
theorem v_25_2 : (defScope (top 34)).names.lookup ("_law_left" : Str) = some .local := by decide +kernel
theorem v_25_3 : (defScope (top 34)).names.lookup ("_law_one" : Str) = some .local := by decide +kernel
theorem v_25_0 : (defScope (top 34)).names.lookup ("_law_sentence_here" : Str) = some .local := by decide +kernel
theorem v_26_0 : (defScope (top 35)).names.lookup ("_law_sentence_here" : Str) = some .local := by decide +kernel
theorem g_26_size : (defScope (top 35)).names.lookup ("size" : Str) = some .globalImplicit := by decide +kernel
theorem v_26_2 : (defScope (top 35)).names.lookup ("_law_names" : Str) = some .local := by decide +kernel
theorem g_26_len : (defScope (top 35)).names.lookup ("len" : Str) = some .globalImplicit := by decide +kernel
theorem g_26__law_same : (defScope (top 35)).names.lookup ("_law_same" : Str) = some .globalImplicit := by decide +kernel
theorem g_26_words_in : (defScope (top 35)).names.lookup ("words_in" : Str) = some .globalImplicit := by decide +kernel
theorem v_26_3 : (defScope (top 35)).names.lookup ("_law_unlike" : Str) = some .local := by decide +kernel
theorem g_26_legs : (defScope (top 35)).names.lookup ("legs" : Str) = some .globalImplicit := by decide +kernel
theorem v_26_1 : (defScope (top 35)).names.lookup ("_law_due" : Str) = some .local := by decide +kernel
theorem v_26_6 : (defScope (top 35)).names.lookup ("_law_listed" : Str) = some .local := by decide +kernel
theorem v_26_5 : (defScope (top 35)).names.lookup ("_law_told" : Str) = some .local := by decide +kernel
theorem v_26_8 : (defScope (top 35)).names.lookup ("_law_row" : Str) = some .local := by decide +kernel
theorem v_26_9 : (defScope (top 35)).names.lookup ("_law_prices" : Str) = some .local := by decide +kernel
theorem v_26_7 : (defScope (top 35)).names.lookup ("_law_lead" : Str) = some .local := by decide +kernel
theorem v_26_4 : (defScope (top 35)).names.lookup ("_law_name_here" : Str) = some .local := by decide +kernel
theorem g_26__law_words : (defScope (top 35)).names.lookup ("_law_words" : Str) = some .globalImplicit := by decide +kernel
theorem g_26__law_legs : (defScope (top 35)).names.lookup ("_law_legs" : Str) = some .globalImplicit := by decide +kernel
theorem v_27_1 : (defScope (top 36)).names.lookup ("_law_one" : Str) = some .local := by decide +kernel
theorem v_27_2 : (defScope (top 36)).names.lookup ("_law_two" : Str) = some .local := by decide +kernel
theorem v_27_0 : (defScope (top 36)).names.lookup ("_law_sentence_here" : Str) = some .local := by decide +kernel
theorem g_27_trade : (defScope (top 36)).names.lookup ("trade" : Str) = some .globalImplicit := by decide +kernel
theorem g_27_menu : (defScope (top 36)).names.lookup ("menu" : Str) = some .globalImplicit := by decide +kernel
theorem g_27__law_through : (defScope (top 36)).names.lookup ("_law_through" : Str) = some .globalImplicit := by decide +kernel
theorem g_27_word : (defScope (top 36)).names.lookup ("word" : Str) = some .globalImplicit := by decide +kernel
theorem v_28_0 : (defScope (top 37)).names.lookup ("_law_name_here" : Str) = some .local := by decide +kernel
theorem g_28_word : (defScope (top 37)).names.lookup ("word" : Str) = some .globalImplicit := by decide +kernel
theorem v_28_1 : (defScope (top 37)).names.lookup ("e" : Str) = some .local := by decide +kernel
theorem g_28__law_same : (defScope (top 37)).names.lookup ("_law_same" : Str) = some .globalImplicit := by decide +kernel
theorem g_28_isinstance : (defScope (top 37)).names.lookup ("isinstance" : Str) = some .globalImplicit := by decide +kernel
theorem g_28_ValueError : (defScope (top 37)).names.lookup ("ValueError" : Str) = some .globalImplicit := by decide +kernel
theorem g_28_HeldError : (defScope (top 37)).names.lookup ("HeldError" : Str) = some .globalImplicit := by decide +kernel
theorem g_28_NotSimple : (defScope (top 37)).names.lookup ("NotSimple" : Str) = some .globalImplicit := by decide +kernel
theorem g_28_TextError : (defScope (top 37)).names.lookup ("TextError" : Str) = some .globalImplicit := by decide +kernel
theorem g_28_UnknownName : (defScope (top 37)).names.lookup ("UnknownName" : Str) = some .globalImplicit := by decide +kernel
theorem g_28_NameTaken : (defScope (top 37)).names.lookup ("NameTaken" : Str) = some .globalImplicit := by decide +kernel
theorem g_28_BadKind : (defScope (top 37)).names.lookup ("BadKind" : Str) = some .globalImplicit := by decide +kernel
theorem g_28_BadName : (defScope (top 37)).names.lookup ("BadName" : Str) = some .globalImplicit := by decide +kernel
theorem v_29_1 : (defScope (top 38)).names.lookup ("_law_one" : Str) = some .local := by decide +kernel
theorem v_29_2 : (defScope (top 38)).names.lookup ("_law_two" : Str) = some .local := by decide +kernel
theorem v_29_0 : (defScope (top 38)).names.lookup ("_law_value" : Str) = some .local := by decide +kernel
theorem g_29_trade : (defScope (top 38)).names.lookup ("trade" : Str) = some .globalImplicit := by decide +kernel
theorem v_29_3 : (defScope (top 38)).names.lookup ("e" : Str) = some .local := by decide +kernel
theorem g_29__law_same : (defScope (top 38)).names.lookup ("_law_same" : Str) = some .globalImplicit := by decide +kernel
theorem g_29_isinstance : (defScope (top 38)).names.lookup ("isinstance" : Str) = some .globalImplicit := by decide +kernel
theorem g_29_ValueError : (defScope (top 38)).names.lookup ("ValueError" : Str) = some .globalImplicit := by decide +kernel
theorem g_29_HeldError : (defScope (top 38)).names.lookup ("HeldError" : Str) = some .globalImplicit := by decide +kernel
theorem g_29_NotSimple : (defScope (top 38)).names.lookup ("NotSimple" : Str) = some .globalImplicit := by decide +kernel
theorem g_29_TextError : (defScope (top 38)).names.lookup ("TextError" : Str) = some .globalImplicit := by decide +kernel
theorem g_29_UnknownName : (defScope (top 38)).names.lookup ("UnknownName" : Str) = some .globalImplicit := by decide +kernel
theorem g_29_NameTaken : (defScope (top 38)).names.lookup ("NameTaken" : Str) = some .globalImplicit := by decide +kernel
theorem g_29_BadName : (defScope (top 38)).names.lookup ("BadName" : Str) = some .globalImplicit := by decide +kernel
theorem g_29_BadKind : (defScope (top 38)).names.lookup ("BadKind" : Str) = some .globalImplicit := by decide +kernel
theorem v_30_3 : (defScope (top 39)).names.lookup ("_law_count" : Str) = some .local := by decide +kernel
theorem v_30_1 : (defScope (top 39)).names.lookup ("_law_one" : Str) = some .local := by decide +kernel
theorem v_30_2 : (defScope (top 39)).names.lookup ("_law_two" : Str) = some .local := by decide +kernel
theorem v_30_0 : (defScope (top 39)).names.lookup ("_law_name_here" : Str) = some .local := by decide +kernel
theorem g_30_trade : (defScope (top 39)).names.lookup ("trade" : Str) = some .globalImplicit := by decide +kernel
theorem v_30_4 : (defScope (top 39)).names.lookup ("e" : Str) = some .local := by decide +kernel
theorem g_30_isinstance : (defScope (top 39)).names.lookup ("isinstance" : Str) = some .globalImplicit := by decide +kernel
theorem g_30_BadKind : (defScope (top 39)).names.lookup ("BadKind" : Str) = some .globalImplicit := by decide +kernel
theorem g_30_int : (defScope (top 39)).names.lookup ("int" : Str) = some .globalImplicit := by decide +kernel
theorem g_30_HeldError : (defScope (top 39)).names.lookup ("HeldError" : Str) = some .globalImplicit := by decide +kernel
theorem g_30_word : (defScope (top 39)).names.lookup ("word" : Str) = some .globalImplicit := by decide +kernel
theorem g_30_BadName : (defScope (top 39)).names.lookup ("BadName" : Str) = some .globalImplicit := by decide +kernel
theorem v_31_11 : (defScope (top 40)).names.lookup ("_law_long" : Str) = some .local := by decide +kernel
theorem g_31_word : (defScope (top 40)).names.lookup ("word" : Str) = some .globalImplicit := by decide +kernel
theorem g_31__law_same : (defScope (top 40)).names.lookup ("_law_same" : Str) = some .globalImplicit := by decide +kernel
theorem v_31_2 : (defScope (top 40)).names.lookup ("_law_names" : Str) = some .local := by decide +kernel
theorem v_31_10 : (defScope (top 40)).names.lookup ("_law_value" : Str) = some .local := by decide +kernel
theorem v_31_4 : (defScope (top 40)).names.lookup ("_law_one" : Str) = some .local := by decide +kernel
theorem v_31_5 : (defScope (top 40)).names.lookup ("_law_two" : Str) = some .local := by decide +kernel
theorem g_31__law_kind_refused : (defScope (top 40)).names.lookup ("_law_kind_refused" : Str) = some .globalImplicit := by decide +kernel
theorem v_31_9 : (defScope (top 40)).names.lookup ("_law_odd" : Str) = some .local := by decide +kernel
theorem v_31_8 : (defScope (top 40)).names.lookup ("_law_bad" : Str) = some .local := by decide +kernel
theorem g_31__law_refused_at_all : (defScope (top 40)).names.lookup ("_law_refused_at_all" : Str) = some .globalImplicit := by decide +kernel
theorem g_31__law_name_refused : (defScope (top 40)).names.lookup ("_law_name_refused" : Str) = some .globalImplicit := by decide +kernel
theorem v_31_1 : (defScope (top 40)).names.lookup ("_law_pool_here" : Str) = some .local := by decide +kernel
theorem g_31__law_bad_name : (defScope (top 40)).names.lookup ("_law_bad_name" : Str) = some .globalImplicit := by decide +kernel
theorem g_31_trade : (defScope (top 40)).names.lookup ("trade" : Str) = some .globalImplicit := by decide +kernel
theorem v_31_7 : (defScope (top 40)).names.lookup ("_law_sentence_here" : Str) = some .local := by decide +kernel
theorem g_31__law_through : (defScope (top 40)).names.lookup ("_law_through" : Str) = some .globalImplicit := by decide +kernel
theorem g_31__law_tells : (defScope (top 40)).names.lookup ("_law_tells" : Str) = some .globalImplicit := by decide +kernel
theorem v_31_6 : (defScope (top 40)).names.lookup ("_law_mode_here" : Str) = some .local := by decide +kernel
theorem g_31__law_mode : (defScope (top 40)).names.lookup ("_law_mode" : Str) = some .globalImplicit := by decide +kernel
theorem g_31__law_sentence : (defScope (top 40)).names.lookup ("_law_sentence" : Str) = some .globalImplicit := by decide +kernel
theorem v_31_3 : (defScope (top 40)).names.lookup ("_law_k" : Str) = some .local := by decide +kernel
theorem g_31__law_name : (defScope (top 40)).names.lookup ("_law_name" : Str) = some .globalImplicit := by decide +kernel
theorem g_31__law_next : (defScope (top 40)).names.lookup ("_law_next" : Str) = some .globalImplicit := by decide +kernel
theorem g_31_range : (defScope (top 40)).names.lookup ("range" : Str) = some .globalImplicit := by decide +kernel
theorem v_31_0 : (defScope (top 40)).names.lookup ("_law_script" : Str) = some .local := by decide +kernel
theorem g_31__law_pool : (defScope (top 40)).names.lookup ("_law_pool" : Str) = some .globalImplicit := by decide +kernel
theorem v_32_0 : (defScope (top 22)).names.lookup ("sentence" : Str) = some .local := by decide +kernel
theorem g_32_legs : (defScope (top 22)).names.lookup ("legs" : Str) = some .globalImplicit := by decide +kernel
theorem v_32_1 : (defScope (top 22)).names.lookup ("price" : Str) = some .cell := by decide +kernel
theorem v_0_0 : (defScope (inClass (top 2) 0)).names.lookup ("self" : Str) = some .local := by decide +kernel
theorem v_0_1 : (defScope (inClass (top 2) 0)).names.lookup ("name" : Str) = some .local := by decide +kernel
theorem g_0_HeldError : (defScope (inClass (top 2) 0)).names.lookup ("HeldError" : Str) = some .globalImplicit := by decide +kernel
theorem v_3_0 : (defScope (inClass (top 5) 0)).names.lookup ("self" : Str) = some .local := by decide +kernel
theorem v_3_1 : (defScope (inClass (top 5) 0)).names.lookup ("kind" : Str) = some .local := by decide +kernel
theorem g_3_HeldError : (defScope (inClass (top 5) 0)).names.lookup ("HeldError" : Str) = some .globalImplicit := by decide +kernel
theorem sc_0 : FnScope ["self", "name"] ["self", "name"] (defScope (inClass (top 2) 0)) := ⟨rfl, rfl, rfl, by decide +kernel, rfl, by decide +kernel, by decide +kernel⟩
theorem sc_1 : FnScope ["self", "name"] ["self", "name"] (defScope (inClass (top 3) 0)) := ⟨rfl, rfl, rfl, by decide +kernel, rfl, by decide +kernel, by decide +kernel⟩
theorem sc_2 : FnScope ["self", "name"] ["self", "name"] (defScope (inClass (top 4) 0)) := ⟨rfl, rfl, rfl, by decide +kernel, rfl, by decide +kernel, by decide +kernel⟩
theorem sc_3 : FnScope ["self", "kind"] ["self", "kind"] (defScope (inClass (top 5) 0)) := ⟨rfl, rfl, rfl, by decide +kernel, rfl, by decide +kernel, by decide +kernel⟩
theorem sc_4 : FnScope ["self", "index"] ["self", "index"] (defScope (inClass (top 6) 0)) := ⟨rfl, rfl, rfl, by decide +kernel, rfl, by decide +kernel, by decide +kernel⟩
theorem sc_5 : FnScope ["value"] ["value"] (defScope (top 9)) := ⟨rfl, rfl, rfl, by decide +kernel, rfl, by decide +kernel, by decide +kernel⟩
theorem sc_6 : FnScope ["value"] ["value"] (defScope (top 10)) := ⟨rfl, rfl, rfl, by decide +kernel, rfl, by decide +kernel, by decide +kernel⟩
theorem sc_7 : FnScope ["text", "char"] ["text"] (defScope (top 15)) := ⟨rfl, rfl, rfl, by decide +kernel, rfl, by decide +kernel, by decide +kernel⟩
theorem sc_8 : FnScope ["name"] ["name"] (defScope (top 16)) := ⟨rfl, rfl, rfl, by decide +kernel, rfl, by decide +kernel, by decide +kernel⟩
theorem sc_9 : FnScope ["left", "right"] ["left", "right"] (defScope (top 17)) := ⟨rfl, rfl, rfl, by decide +kernel, rfl, by decide +kernel, by decide +kernel⟩
theorem sc_10 : FnScope ["price", "goods", "kind"] ["price", "goods", "kind"] (defScope (top 18)) := ⟨rfl, rfl, rfl, by decide +kernel, rfl, by decide +kernel, by decide +kernel⟩
theorem sc_11 : FnScope ["sentence"] ["sentence"] (defScope (top 19)) := ⟨rfl, rfl, rfl, by decide +kernel, rfl, by decide +kernel, by decide +kernel⟩
theorem sc_12 : FnScope ["sentence", "left", "right"] ["sentence"] (defScope (top 20)) := ⟨rfl, rfl, rfl, by decide +kernel, rfl, by decide +kernel, by decide +kernel⟩
theorem sc_13 : FnScope ["sentence", "left", "right", "names", "name"] ["sentence"] (defScope (top 21)) := ⟨rfl, rfl, rfl, by decide +kernel, rfl, by decide +kernel, by decide +kernel⟩
theorem sc_14 : FnScope ["sentence", "price", "prices", "name"] ["sentence"] (defScope (top 22)) := ⟨rfl, rfl, rfl, by decide +kernel, rfl, by decide +kernel, by decide +kernel⟩
theorem sc_15 : FnScope ["_law_script", "_law_k"] ["_law_script", "_law_k"] (defScope (top 24)) := ⟨rfl, rfl, rfl, by decide +kernel, rfl, by decide +kernel, by decide +kernel⟩
theorem sc_16 : FnScope ["_law_script", "_law_k", "_law_cell_here"] ["_law_script", "_law_k"] (defScope (top 25)) := ⟨rfl, rfl, rfl, by decide +kernel, rfl, by decide +kernel, by decide +kernel⟩
theorem sc_17 : FnScope ["_law_pool_here", "_law_many", "_law_digit", "_law_mixed"] ["_law_pool_here", "_law_many"] (defScope (top 26)) := ⟨rfl, rfl, rfl, by decide +kernel, rfl, by decide +kernel, by decide +kernel⟩
theorem sc_18 : FnScope ["_law_told", "_law_due", "_law_k"] ["_law_told", "_law_due"] (defScope (top 27)) := ⟨rfl, rfl, rfl, by decide +kernel, rfl, by decide +kernel, by decide +kernel⟩
theorem sc_19 : FnScope ["_law_pool_here", "_law_names", "_law_letters", "_law_signs", "_law_pick", "_law_name_here", "_law_at", "_law_k"] ["_law_pool_here", "_law_names"] (defScope (top 28)) := ⟨rfl, rfl, rfl, by decide +kernel, rfl, by decide +kernel, by decide +kernel⟩
theorem sc_20 : FnScope ["_law_pool_here", "_law_name_here", "_law_marks", "_law_pick", "_law_at", "_law_mark"] ["_law_pool_here", "_law_name_here"] (defScope (top 29)) := ⟨rfl, rfl, rfl, by decide +kernel, rfl, by decide +kernel, by decide +kernel⟩
theorem sc_21 : FnScope ["_law_pool_here"] ["_law_pool_here"] (defScope (top 30)) := ⟨rfl, rfl, rfl, by decide +kernel, rfl, by decide +kernel, by decide +kernel⟩
theorem sc_22 : FnScope ["_law_pool_here", "_law_names", "_law_depth", "_law_pick", "_law_one", "_law_two"] ["_law_pool_here", "_law_names", "_law_depth"] (defScope (top 31)) := ⟨rfl, rfl, rfl, by decide +kernel, rfl, by decide +kernel, by decide +kernel⟩
theorem sc_23 : FnScope ["_law_pool_here", "_law_names", "_law_sentence_here", "_law_k", "_law_other", "_law_pick"] ["_law_pool_here", "_law_names"] (defScope (top 32)) := ⟨rfl, rfl, rfl, by decide +kernel, rfl, by decide +kernel, by decide +kernel⟩
theorem sc_24 : FnScope ["_law_sentence_here", "_law_found", "_law_left", "_law_row", "_law_one"] ["_law_sentence_here"] (defScope (top 33)) := ⟨rfl, rfl, rfl, by decide +kernel, rfl, by decide +kernel, by decide +kernel⟩
theorem sc_25 : FnScope ["_law_sentence_here", "_law_found", "_law_left", "_law_one"] ["_law_sentence_here"] (defScope (top 34)) := ⟨rfl, rfl, rfl, by decide +kernel, rfl, by decide +kernel, by decide +kernel⟩
theorem sc_26 : FnScope ["_law_sentence_here", "_law_due", "_law_names", "_law_unlike", "_law_name_here", "_law_told", "_law_listed", "_law_lead", "_law_row", "_law_prices"] ["_law_sentence_here"] (defScope (top 35)) := ⟨rfl, rfl, rfl, by decide +kernel, rfl, by decide +kernel, by decide +kernel⟩
theorem sc_27 : FnScope ["_law_sentence_here", "_law_one", "_law_two"] ["_law_sentence_here"] (defScope (top 36)) := ⟨rfl, rfl, rfl, by decide +kernel, rfl, by decide +kernel, by decide +kernel⟩
theorem sc_28 : FnScope ["_law_name_here", "e"] ["_law_name_here"] (defScope (top 37)) := ⟨rfl, rfl, rfl, by decide +kernel, rfl, by decide +kernel, by decide +kernel⟩
theorem sc_29 : FnScope ["_law_value", "_law_one", "_law_two", "e"] ["_law_value", "_law_one", "_law_two"] (defScope (top 38)) := ⟨rfl, rfl, rfl, by decide +kernel, rfl, by decide +kernel, by decide +kernel⟩
theorem sc_30 : FnScope ["_law_name_here", "_law_one", "_law_two", "_law_count", "e"] ["_law_name_here", "_law_one", "_law_two"] (defScope (top 39)) := ⟨rfl, rfl, rfl, by decide +kernel, rfl, by decide +kernel, by decide +kernel⟩
theorem sc_31 : FnScope ["_law_script", "_law_pool_here", "_law_names", "_law_k", "_law_one", "_law_two", "_law_mode_here", "_law_sentence_here", "_law_bad", "_law_odd", "_law_value", "_law_long"] ["_law_script"] (defScope (top 40)) := ⟨rfl, rfl, rfl, by decide +kernel, rfl, by decide +kernel, by decide +kernel⟩
theorem sc_32 : FnScope ["sentence", "price", "prices", "name"] ["sentence"] (defScope (top 22)) := ⟨rfl, rfl, rfl, by decide +kernel, rfl, by decide +kernel, by decide +kernel⟩
def ps : Nat → List Str
  | 0 => ["self", "name"]
  | 1 => ["self", "name"]
  | 2 => ["self", "name"]
  | 3 => ["self", "kind"]
  | 4 => ["self", "index"]
  | 5 => ["value"]
  | 6 => ["value"]
  | 7 => ["text"]
  | 8 => ["name"]
  | 9 => ["left", "right"]
  | 10 => ["price", "goods", "kind"]
  | 11 => ["sentence"]
  | 12 => ["sentence"]
  | 13 => ["sentence"]
  | 14 => ["sentence"]
  | 15 => ["_law_script", "_law_k"]
  | 16 => ["_law_script", "_law_k"]
  | 17 => ["_law_pool_here", "_law_many"]
  | 18 => ["_law_told", "_law_due"]
  | 19 => ["_law_pool_here", "_law_names"]
  | 20 => ["_law_pool_here", "_law_name_here"]
  | 21 => ["_law_pool_here"]
  | 22 => ["_law_pool_here", "_law_names", "_law_depth"]
  | 23 => ["_law_pool_here", "_law_names"]
  | 24 => ["_law_sentence_here"]
  | 25 => ["_law_sentence_here"]
  | 26 => ["_law_sentence_here"]
  | 27 => ["_law_sentence_here"]
  | 28 => ["_law_name_here"]
  | 29 => ["_law_value", "_law_one", "_law_two"]
  | 30 => ["_law_name_here", "_law_one", "_law_two"]
  | 31 => ["_law_script"]
  | 32 => ["sentence"]
  | _ => []
structure Txt (w : World) (K : PySem.W.Frag) (mg : Str → Option Value) (cl : Nat → Addr) (fa : Nat → Addr) (fd : Nat → FuncData) : Prop where
  F0 : Fun K "__init__" "BadName.__init__" (inClass (top 2) 0) (fa 0) (fd 0)
  b0 : Binds K (fd 0) ["self", "name"] []
  F1 : Fun K "__init__" "NameTaken.__init__" (inClass (top 3) 0) (fa 1) (fd 1)
  b1 : Binds K (fd 1) ["self", "name"] []
  F2 : Fun K "__init__" "UnknownName.__init__" (inClass (top 4) 0) (fa 2) (fd 2)
  b2 : Binds K (fd 2) ["self", "name"] []
  F3 : Fun K "__init__" "BadKind.__init__" (inClass (top 5) 0) (fa 3) (fd 3)
  b3 : Binds K (fd 3) ["self", "kind"] []
  F4 : Fun K "__init__" "TextError.__init__" (inClass (top 6) 0) (fa 4) (fd 4)
  b4 : Binds K (fd 4) ["self", "index"] []
  F5 : Fun K "is_number" "is_number" (top 9) (fa 5) (fd 5)
  b5 : Binds K (fd 5) ["value"] []
  g5 : mg "is_number" = some (.ref (fa 5))
  F6 : Fun K "is_kind" "is_kind" (top 10) (fa 6) (fd 6)
  b6 : Binds K (fd 6) ["value"] []
  g6 : mg "is_kind" = some (.ref (fa 6))
  F7 : Fun K "is_name" "is_name" (top 15) (fa 7) (fd 7)
  b7 : Binds K (fd 7) ["text"] []
  g7 : mg "is_name" = some (.ref (fa 7))
  F8 : Fun K "word" "word" (top 16) (fa 8) (fd 8)
  b8 : Binds K (fd 8) ["name"] []
  g8 : mg "word" = some (.ref (fa 8))
  F9 : Fun K "menu" "menu" (top 17) (fa 9) (fd 9)
  b9 : Binds K (fd 9) ["left", "right"] []
  g9 : mg "menu" = some (.ref (fa 9))
  F10 : FunW K "trade" "trade" (top 18) [("kind", .str "once")] (fa 10) (fd 10)
  kw10 : KwA K (fd 10) ["price", "goods", "kind"] 2 ["kind"]
  bd10_1 : BindD K (fd 10) ["price", "goods", "kind"] [.str "once"]
  g10 : mg "trade" = some (.ref (fa 10))
  F11 : Fun K "sides" "sides" (top 19) (fa 11) (fd 11)
  b11 : Binds K (fd 11) ["sentence"] []
  g11 : mg "sides" = some (.ref (fa 11))
  F12 : Fun K "size" "size" (top 20) (fa 12) (fd 12)
  b12 : Binds K (fd 12) ["sentence"] []
  g12 : mg "size" = some (.ref (fa 12))
  F13 : Fun K "words_in" "words_in" (top 21) (fa 13) (fd 13)
  b13 : Binds K (fd 13) ["sentence"] []
  g13 : mg "words_in" = some (.ref (fa 13))
  F14 : Fun K "legs" "legs" (top 22) (fa 14) (fd 14)
  b14 : Binds K (fd 14) ["sentence"] []
  g14 : mg "legs" = some (.ref (fa 14))
  F15 : Fun K "_law_cell" "_law_cell" (top 24) (fa 15) (fd 15)
  b15 : Binds K (fd 15) ["_law_script", "_law_k"] []
  g15 : mg "_law_cell" = some (.ref (fa 15))
  F16 : Fun K "_law_pool" "_law_pool" (top 25) (fa 16) (fd 16)
  b16 : Binds K (fd 16) ["_law_script", "_law_k"] []
  g16 : mg "_law_pool" = some (.ref (fa 16))
  F17 : Fun K "_law_next" "_law_next" (top 26) (fa 17) (fd 17)
  b17 : Binds K (fd 17) ["_law_pool_here", "_law_many"] []
  g17 : mg "_law_next" = some (.ref (fa 17))
  F18 : Fun K "_law_same" "_law_same" (top 27) (fa 18) (fd 18)
  b18 : Binds K (fd 18) ["_law_told", "_law_due"] []
  g18 : mg "_law_same" = some (.ref (fa 18))
  F19 : Fun K "_law_name" "_law_name" (top 28) (fa 19) (fd 19)
  b19 : Binds K (fd 19) ["_law_pool_here", "_law_names"] []
  g19 : mg "_law_name" = some (.ref (fa 19))
  F20 : Fun K "_law_bad_name" "_law_bad_name" (top 29) (fa 20) (fd 20)
  b20 : Binds K (fd 20) ["_law_pool_here", "_law_name_here"] []
  g20 : mg "_law_bad_name" = some (.ref (fa 20))
  F21 : Fun K "_law_mode" "_law_mode" (top 30) (fa 21) (fd 21)
  b21 : Binds K (fd 21) ["_law_pool_here"] []
  g21 : mg "_law_mode" = some (.ref (fa 21))
  F22 : Fun K "_law_deep" "_law_deep" (top 31) (fa 22) (fd 22)
  b22 : Binds K (fd 22) ["_law_pool_here", "_law_names", "_law_depth"] []
  g22 : mg "_law_deep" = some (.ref (fa 22))
  F23 : Fun K "_law_sentence" "_law_sentence" (top 32) (fa 23) (fd 23)
  b23 : Binds K (fd 23) ["_law_pool_here", "_law_names"] []
  g23 : mg "_law_sentence" = some (.ref (fa 23))
  F24 : Fun K "_law_legs" "_law_legs" (top 33) (fa 24) (fd 24)
  b24 : Binds K (fd 24) ["_law_sentence_here"] []
  g24 : mg "_law_legs" = some (.ref (fa 24))
  F25 : Fun K "_law_words" "_law_words" (top 34) (fa 25) (fd 25)
  b25 : Binds K (fd 25) ["_law_sentence_here"] []
  g25 : mg "_law_words" = some (.ref (fa 25))
  F26 : Fun K "_law_tells" "_law_tells" (top 35) (fa 26) (fd 26)
  b26 : Binds K (fd 26) ["_law_sentence_here"] []
  g26 : mg "_law_tells" = some (.ref (fa 26))
  F27 : Fun K "_law_through" "_law_through" (top 36) (fa 27) (fd 27)
  b27 : Binds K (fd 27) ["_law_sentence_here"] []
  g27 : mg "_law_through" = some (.ref (fa 27))
  F28 : Fun K "_law_name_refused" "_law_name_refused" (top 37) (fa 28) (fd 28)
  b28 : Binds K (fd 28) ["_law_name_here"] []
  g28 : mg "_law_name_refused" = some (.ref (fa 28))
  F29 : Fun K "_law_kind_refused" "_law_kind_refused" (top 38) (fa 29) (fd 29)
  b29 : Binds K (fd 29) ["_law_value", "_law_one", "_law_two"] []
  g29 : mg "_law_kind_refused" = some (.ref (fa 29))
  F30 : Fun K "_law_refused_at_all" "_law_refused_at_all" (top 39) (fa 30) (fd 30)
  b30 : Binds K (fd 30) ["_law_name_here", "_law_one", "_law_two"] []
  g30 : mg "_law_refused_at_all" = some (.ref (fa 30))
  F31 : Fun K "law" "law" (top 40) (fa 31) (fd 31)
  b31 : Binds K (fd 31) ["_law_script"] []
  g31 : mg "law" = some (.ref (fa 31))
  F32 : Fun K "legs" "legs" (top 22) (fa 32) (fd 32)
  b32 : Binds K (fd 32) ["sentence"] []
  g32 : mg "legs" = some (.ref (fa 32))
  gC0 : mg "HeldError" = some (.ref (cl 0))
  gC1 : mg "BadName" = some (.ref (cl 1))
  gC2 : mg "NameTaken" = some (.ref (cl 2))
  gC3 : mg "UnknownName" = some (.ref (cl 3))
  gC4 : mg "BadKind" = some (.ref (cl 4))
  gC5 : mg "TextError" = some (.ref (cl 5))
  gC6 : mg "NotSimple" = some (.ref (cl 6))
  bC : BaseC K (cl 0)
  x1 : OexC K (cl 1)
  xi1 : PySem.W.findIn K (.ref (cl 1)) "__init__" = some (some (.ref (fa 0)))
  xt1 : PySem.W.typeIn K (.ref (fa 0)) = some (.type "function")
  xn1_name : PySem.W.findIn K (.ref (cl 1)) "name" = some none
  x4 : OexC K (cl 4)
  xi4 : PySem.W.findIn K (.ref (cl 4)) "__init__" = some (some (.ref (fa 3)))
  xt4 : PySem.W.typeIn K (.ref (fa 3)) = some (.type "function")
  xn4_kind : PySem.W.findIn K (.ref (cl 4)) "kind" = some none
  errs : ∀ c, c ∈ ([1, 4] : List Nat) → ErrC K (cl c)
  exm_BadName : ∀ q : Nat × Bool, q ∈ [(1, true), (4, false)] → PySem.W.exmOne K (.ref (cl q.1)) (.ref (cl 1)) = some q.2
  exm_BadKind : ∀ q : Nat × Bool, q ∈ [(1, false), (4, true)] → PySem.W.exmOne K (.ref (cl q.1)) (.ref (cl 4)) = some q.2
  exm_HeldError : ∀ q : Nat × Bool, q ∈ [(1, true), (4, true)] → PySem.W.exmOne K (.ref (cl q.1)) (.ref (cl 0)) = some q.2
  kit_ValueError : ∀ q : Nat × Bool, q ∈ [(1, true), (4, true)] → PySem.W.kitOne K (.ref (cl q.1)) (.type "ValueError") = some q.2
  kit_HeldError : ∀ q : Nat × Bool, q ∈ [(1, true), (4, true)] → PySem.W.kitOne K (.ref (cl q.1)) (.ref (cl 0)) = some q.2
  kit_BadKind_NameTaken_UnknownName_TextError_NotSimple : ∀ q : Nat × Bool, q ∈ [(1, false), (4, true)] → PySem.W.kitAny K (.ref (cl q.1)) [.ref (cl 4), .ref (cl 2), .ref (cl 3), .ref (cl 5), .ref (cl 6)] = some q.2
  kit_BadName_NameTaken_UnknownName_TextError_NotSimple : ∀ q : Nat × Bool, q ∈ [(1, true), (4, false)] → PySem.W.kitAny K (.ref (cl q.1)) [.ref (cl 1), .ref (cl 2), .ref (cl 3), .ref (cl 5), .ref (cl 6)] = some q.2
  kit_BadKind : ∀ q : Nat × Bool, q ∈ [(1, false), (4, true)] → PySem.W.kitOne K (.ref (cl q.1)) (.ref (cl 4)) = some q.2
  kit_BadName : ∀ q : Nat × Bool, q ∈ [(1, true), (4, false)] → PySem.W.kitOne K (.ref (cl q.1)) (.ref (cl 1)) = some q.2
  xf_name : ∀ c, c ∈ ([1] : List Nat) → ErrC K (cl c) ∧ PySem.W.findIn K (.ref (cl c)) "name" = some none
  xf_kind : ∀ c, c ∈ ([4] : List Nat) → ErrC K (cl c) ∧ PySem.W.findIn K (.ref (cl c)) "kind" = some none
  gc_DIGITS : GCon mg "DIGITS" (.str "0123456789")
  gc_LETTERS : GCon mg "LETTERS" (.str "abcdefghijklmnopqrstuvwxyz")
  gc_LONGEST_NAME : GCon mg "LONGEST_NAME" (.int 12)
  z_ValueError : mg "ValueError" = none
  z_abs : mg "abs" = none
  z_bool : mg "bool" = none
  z_int : mg "int" = none
  z_isinstance : mg "isinstance" = none
  z_len : mg "len" = none
  z_list : mg "list" = none
  z_max : mg "max" = none
  z_range : mg "range" = none
  z_str : mg "str" = none
  z_tuple : mg "tuple" = none
section
variable {P : Program} {w : World} {K : PySem.W.Frag} {mg : Str → Option Value} {base : Heap} {cl : Nat → Addr} {fa : Nat → Addr} {fd : Nat → FuncData}
abbrev IHt (P : Program) (w : World) (K : PySem.W.Frag) (mg : Str → Option Value) (base : Heap) (cl fa : Nat → Addr) (fd : Nat → FuncData) (k : Nat) : Prop := ∀ i, FnOk P w K mg base (L2N.CX P w) (2 * k + 2) (fa i) (fd i) (ps i) (SpR K cl (tb k i))
theorem okI_0 {k : Nat} (T : Txt w K mg cl fa fd) : FnOk P w K mg base (L2N.CX P w) (k + 1) (fa 0) (fd 0) ["self", "name"] (SpI (cl 1) ["name"]) :=
  ini_ok T.F0 sc_0 T.x1 ["name"] "not a name" rfl (by decide) (by decide) (fun z hz => by
    simp only [List.mem_cons, List.not_mem_nil, or_false] at hz
    rcases hz with rfl
    · exact T.xn1_name) fun cdv A outer s H E hr =>
    pss_cons (ps_expr (pe_baseInit T.bC g_0_HeldError T.gC0 (pa_cons (pe_var (i := 0) rfl (.inl v_0_0) nd_84.1 nd_84.2) (pa_cons pe_str pa_nil)) nd_65.1)) (pss_cons (ps_ost (pe_var (i := 0) rfl (.inl v_0_0) nd_84.1 nd_84.2) (pe_var (i := 1) rfl (.inl v_0_1) nd_7.1 nd_7.2)) (pss_nil))
theorem okI_3 {k : Nat} (T : Txt w K mg cl fa fd) : FnOk P w K mg base (L2N.CX P w) (k + 1) (fa 3) (fd 3) ["self", "kind"] (SpI (cl 4) ["kind"]) :=
  ini_ok T.F3 sc_3 T.x4 ["kind"] "not a kind that fits" rfl (by decide) (by decide) (fun z hz => by
    simp only [List.mem_cons, List.not_mem_nil, or_false] at hz
    rcases hz with rfl
    · exact T.xn4_kind) fun cdv A outer s H E hr =>
    pss_cons (ps_expr (pe_baseInit T.bC g_3_HeldError T.gC0 (pa_cons (pe_var (i := 0) rfl (.inl v_3_0) nd_84.1 nd_84.2) (pa_cons pe_str pa_nil)) nd_65.1)) (pss_cons (ps_ost (pe_var (i := 0) rfl (.inl v_3_0) nd_84.1 nd_84.2) (pe_var (i := 1) rfl (.inl v_3_1) nd_12.1 nd_12.2)) (pss_nil))
structure HotT (P : Program) (w : World) (K : PySem.W.Frag) (mg : Str → Option Value) (base : Heap) (cl fa : Nat → Addr) (fd : Nat → FuncData) (k : Nat) : Prop where
  h : True
  h18 : L2H.FnH P w K mg base (L2N.CX P w) (2 * k + 2) (fa 18) (fd 18) ["_law_told", "_law_due"] (SpR K cl (tb k 18))
theorem okH_18 {k : Nat} (T : Txt w K mg cl fa fd) (HI : HotT P w K mg base cl fa fd k) : L2H.FnH P w K mg base (L2N.CX P w) (2 * k + 3 + 1) (fa 18) (fd 18) ["_law_told", "_law_due"] (SpR K cl (runF 2 3 (B18 (tb k)))) :=
  fn_okH T.F18 sc_18 rfl rfl fun cdv A outer s H E q xo =>
    sv_cons (sv_if (tv_cmp ov_is (ev_var 1 rfl (.inl v_18_1) nd_33.1 nd_33.2) (ev_non)) (sv_one (sv_ret (ev_cmp ov_is (ev_var 0 rfl (.inl v_18_0) nd_32.1 nd_32.2) (ev_non)))) (sv_nil))
    (sv_cons (sv_if (tv_val (ev_isi (noOwn fun _ => rfl) g_18_isinstance T.z_isinstance (ev_var 1 rfl (.inl v_18_1) nd_33.1 nd_33.2) g_18_bool T.z_bool (by decide +kernel) an_bool)) (sv_one (sv_ret (ev_and (ev_isi (noOwn fun _ => rfl) g_18_isinstance T.z_isinstance (ev_var 0 rfl (.inl v_18_0) nd_32.1 nd_32.2) g_18_bool T.z_bool (by decide +kernel) an_bool) (ev_one (ev_cmp (ov_eq xo.hu) (ev_var 0 rfl (.inl v_18_0) nd_32.1 nd_32.2) (ev_var 1 rfl (.inl v_18_1) nd_33.1 nd_33.2)))))) (sv_nil))
    (sv_cons (sv_if (tv_val (ev_isi (noOwn fun _ => rfl) g_18_isinstance T.z_isinstance (ev_var 1 rfl (.inl v_18_1) nd_33.1 nd_33.2) g_18_int T.z_int (by decide +kernel) an_int)) (sv_one (sv_ret (ev_and (ev_isi (noOwn fun _ => rfl) g_18_isinstance T.z_isinstance (ev_var 0 rfl (.inl v_18_0) nd_32.1 nd_32.2) g_18_int T.z_int (by decide +kernel) an_int) (ev_and (ev_not (ev_isi (noOwn fun _ => rfl) g_18_isinstance T.z_isinstance (ev_var 0 rfl (.inl v_18_0) nd_32.1 nd_32.2) g_18_bool T.z_bool (by decide +kernel) an_bool)) (ev_one (ev_cmp (ov_eq xo.hu) (ev_var 0 rfl (.inl v_18_0) nd_32.1 nd_32.2) (ev_var 1 rfl (.inl v_18_1) nd_33.1 nd_33.2))))))) (sv_nil))
    (sv_cons (sv_if (tv_val (ev_isi (noOwn fun _ => rfl) g_18_isinstance T.z_isinstance (ev_var 1 rfl (.inl v_18_1) nd_33.1 nd_33.2) g_18_str T.z_str (by decide +kernel) an_str)) (sv_one (sv_ret (ev_and (ev_isi (noOwn fun _ => rfl) g_18_isinstance T.z_isinstance (ev_var 0 rfl (.inl v_18_0) nd_32.1 nd_32.2) g_18_str T.z_str (by decide +kernel) an_str) (ev_one (ev_cmp (ov_eq xo.hu) (ev_var 0 rfl (.inl v_18_0) nd_32.1 nd_32.2) (ev_var 1 rfl (.inl v_18_1) nd_33.1 nd_33.2)))))) (sv_nil))
    (sv_cons (sv_if (tv_pw (tv_and (tv_val (ev_isi (noOwn fun _ => rfl) g_18_isinstance T.z_isinstance (ev_var 1 rfl (.inl v_18_1) nd_33.1 nd_33.2) g_18_list T.z_list (by decide +kernel) an_lst)) (tv_and1 (tv_not (tv_val (ev_isi (noOwn fun _ => rfl) g_18_isinstance T.z_isinstance (ev_var 0 rfl (.inl v_18_0) nd_32.1 nd_32.2) g_18_list T.z_list (by decide +kernel) an_lst)))))) (sv_one (sv_ret (ev_bl))) (sv_nil))
    (sv_cons (sv_if (tv_pw (tv_and (tv_val (ev_isi (noOwn fun _ => rfl) g_18_isinstance T.z_isinstance (ev_var 1 rfl (.inl v_18_1) nd_33.1 nd_33.2) g_18_tuple T.z_tuple (by decide +kernel) an_tup)) (tv_and1 (tv_not (tv_val (ev_isi (noOwn fun _ => rfl) g_18_isinstance T.z_isinstance (ev_var 0 rfl (.inl v_18_0) nd_32.1 nd_32.2) g_18_tuple T.z_tuple (by decide +kernel) an_tup)))))) (sv_one (sv_ret (ev_bl))) (sv_nil))
    (sv_cons (sv_if (tv_cmp (ov_ne xo.hu) (ev_bi ov_len g_18_len T.z_len (by decide +kernel) (av_cons (ev_var 0 rfl (.inl v_18_0) nd_32.1 nd_32.2) (av_nil))) (ev_bi ov_len g_18_len T.z_len (by decide +kernel) (av_cons (ev_var 1 rfl (.inl v_18_1) nd_33.1 nd_33.2) (av_nil)))) (sv_one (sv_ret (ev_bl))) (sv_nil))
    (sv_cons (sv_forR1H xo.hp xo.hot g_18_range T.z_range (av_cons (ev_bi ov_len g_18_len T.z_len (by decide +kernel) (av_cons (ev_var 1 rfl (.inl v_18_1) nd_33.1 nd_33.2) (av_nil))) (av_nil)) (gv_name 2 sc_18.nd rfl (.inl v_18_2) (hf := .inr v_18_2)) (sv_one (sv_if (tv_not (tv_val (ev_callH HI.h18 (xo.hr.mono (Nat.le_succ _)) xo.hot xo.tk g_18__law_same T.g18 T.F18.kp T.b18 (av_cons (ev_ix xo.hu1 (ev_var 0 rfl (.inl v_18_0) nd_32.1 nd_32.2) (ev_var 2 rfl (.inl v_18_2) nd_24.1 nd_24.2)) (av_cons (ev_ix xo.hu1 (ev_var 1 rfl (.inl v_18_1) nd_33.1 nd_33.2) (ev_var 2 rfl (.inl v_18_2) nd_24.1 nd_24.2)) (av_nil))) nd_34.1))) (sv_one (sv_ret (ev_bl))) (sv_nil))))
    (sv_one (sv_ret (ev_bl))))))))))
theorem all_hot (T : Txt w K mg cl fa fd) : ∀ k, HotT P w K mg base cl fa fd k
  | 0 => ⟨trivial, fn_badH fun _ _ _ => rfl⟩
  | k + 1 => ⟨trivial, okH_18 T (all_hot T k)⟩
theorem ok_5 {k : Nat} (T : Txt w K mg cl fa fd) (IH : IHt P w K mg base cl fa fd k) : FnOk P w K mg base (L2N.CX P w) (2 * k + 3 + 1) (fa 5) (fd 5) ["value"] (SpR K cl (runF 1 1 (B5 (tb k)))) :=
  fn_ok T.F5 sc_5 rfl rfl fun cdv A outer s H E xo =>
    sv_one (sv_ret (ev_and (ev_isi (noOwn fun _ => rfl) g_5_isinstance T.z_isinstance (ev_var 0 rfl (.inl v_5_0) nd_0.1 nd_0.2) g_5_int T.z_int (by decide +kernel) an_int) (ev_one (ev_not (ev_isi (noOwn fun _ => rfl) g_5_isinstance T.z_isinstance (ev_var 0 rfl (.inl v_5_0) nd_0.1 nd_0.2) g_5_bool T.z_bool (by decide +kernel) an_bool)))))
theorem ok_6 {k : Nat} (T : Txt w K mg cl fa fd) (IH : IHt P w K mg base cl fa fd k) : FnOk P w K mg base (L2N.CX P w) (2 * k + 3 + 1) (fa 6) (fd 6) ["value"] (SpR K cl (runF 1 1 (B6 (tb k)))) :=
  fn_ok T.F6 sc_6 rfl rfl fun cdv A outer s H E xo =>
    sv_cons (sv_if (tv_val (ev_isi (noOwn fun _ => rfl) g_6_isinstance T.z_isinstance (ev_var 0 rfl (.inl v_6_0) nd_0.1 nd_0.2) g_6_str T.z_str (by decide +kernel) an_str)) (sv_one (sv_ret (ev_cmp (ov_eq xo.hu) (ev_var 0 rfl (.inl v_6_0) nd_0.1 nd_0.2) (ev_str)))) (sv_nil))
    (sv_cons (sv_if (tv_pw (tv_or (tv_not (tv_val (ev_isi (noOwn fun _ => rfl) g_6_isinstance T.z_isinstance (ev_var 0 rfl (.inl v_6_0) nd_0.1 nd_0.2) g_6_tuple T.z_tuple (by decide +kernel) an_tup))) (tv_or1 (tv_cmp (ov_ne xo.hu) (ev_bi ov_len g_6_len T.z_len (by decide +kernel) (av_cons (ev_var 0 rfl (.inl v_6_0) nd_0.1 nd_0.2) (av_nil))) (ev_int))))) (sv_one (sv_ret (ev_bl))) (sv_nil))
    (sv_cons (sv_if (tv_pw (tv_or (tv_not (tv_val (ev_call (IH 5) (xo.hr.mono (Nat.le_succ _)) xo.tk g_6_is_number T.g5 T.F5.kp T.b5 (av_cons (ev_ix xo.hu1 (ev_var 0 rfl (.inl v_6_0) nd_0.1 nd_0.2) (ev_int)) (av_nil)) nd_1.1))) (tv_or1 (tv_not (tv_val (ev_call (IH 5) (xo.hr.mono (Nat.le_succ _)) xo.tk g_6_is_number T.g5 T.F5.kp T.b5 (av_cons (ev_ix xo.hu1 (ev_var 0 rfl (.inl v_6_0) nd_0.1 nd_0.2) (ev_int)) (av_nil)) nd_1.1)))))) (sv_one (sv_ret (ev_bl))) (sv_nil))
    (sv_one (sv_ret (ev_and (ev_cmp ov_ge (ev_ix xo.hu1 (ev_var 0 rfl (.inl v_6_0) nd_0.1 nd_0.2) (ev_int)) (ev_int)) (ev_one (ev_cmp ov_ge (ev_ix xo.hu1 (ev_var 0 rfl (.inl v_6_0) nd_0.1 nd_0.2) (ev_int)) (ev_int))))))))
theorem ok_7 {k : Nat} (T : Txt w K mg cl fa fd) (IH : IHt P w K mg base cl fa fd k) : FnOk P w K mg base (L2N.CX P w) (2 * k + 3 + 1) (fa 7) (fd 7) ["text"] (SpR K cl (runF 1 2 (B7 (tb k)))) :=
  fn_ok T.F7 sc_7 rfl rfl fun cdv A outer s H E xo =>
    sv_cons (sv_if (tv_pw (tv_or (tv_not (tv_chain ov_le ov_le (ev_int) (ev_bi ov_len g_7_len T.z_len (by decide +kernel) (av_cons (ev_var 0 rfl (.inl v_7_0) nd_5.1 nd_5.2) (av_nil))) (ev_gc g_7_LONGEST_NAME T.gc_LONGEST_NAME (by decide +kernel) nd_6.1))) (tv_or1 (tv_cmp (ov_notIn xo.hu) (ev_ix xo.hu1 (ev_var 0 rfl (.inl v_7_0) nd_5.1 nd_5.2) (ev_int)) (ev_gc g_7_LETTERS T.gc_LETTERS (by decide +kernel) nd_4.1))))) (sv_one (sv_ret (ev_bl))) (sv_nil))
    (sv_cons (sv_forT xo.hp xo.calm (ev_var 0 rfl (.inl v_7_0) nd_5.1 nd_5.2) (gv_name 1 sc_7.nd rfl (.inl v_7_1) (hf := .inr v_7_1)) (sv_one (sv_if (tv_pw (tv_and (tv_cmp (ov_notIn xo.hu) (ev_var 1 rfl (.inl v_7_1) nd_2.1 nd_2.2) (ev_gc g_7_LETTERS T.gc_LETTERS (by decide +kernel) nd_4.1)) (tv_and1 (tv_cmp (ov_notIn xo.hu) (ev_var 1 rfl (.inl v_7_1) nd_2.1 nd_2.2) (ev_gc g_7_DIGITS T.gc_DIGITS (by decide +kernel) nd_3.1))))) (sv_one (sv_ret (ev_bl))) (sv_nil))))
    (sv_one (sv_ret (ev_bl))))
theorem ok_8 {k : Nat} (T : Txt w K mg cl fa fd) (IH : IHt P w K mg base cl fa fd k) : FnOk P w K mg base (L2N.CX P w) (2 * k + 3 + 1) (fa 8) (fd 8) ["name"] (SpR K cl (runF 1 1 (B8 (tb k)))) :=
  fn_ok T.F8 sc_8 rfl rfl fun cdv A outer s H E xo =>
    sv_cons (sv_if (tv_not (tv_val (ev_call (IH 7) (xo.hr.mono (Nat.le_succ _)) xo.tk g_8_is_name T.g7 T.F7.kp T.b7 (av_cons (ev_var 0 rfl (.inl v_8_0) nd_7.1 nd_7.2) (av_nil)) nd_8.1))) (sv_one (sv_raise xo.calm xo.tk T.x1 T.xi1 T.xt1 (okI_0 T (k := 0)) (xo.hr.mono (by omega)) T.b0 g_8_BadName T.gC1 (av_cons (ev_var 0 rfl (.inl v_8_0) nd_7.1 nd_7.2) (av_nil)) (hdb := nd_9.1))) (sv_nil))
    (sv_one (sv_ret (ev_tup (av_cons (ev_str) (av_cons (ev_var 0 rfl (.inl v_8_0) nd_7.1 nd_7.2) (av_nil))))))
theorem ok_9 {k : Nat} (T : Txt w K mg cl fa fd) (IH : IHt P w K mg base cl fa fd k) : FnOk P w K mg base (L2N.CX P w) (2 * k + 3 + 1) (fa 9) (fd 9) ["left", "right"] (SpR K cl (runF 2 2 (B9 (tb k)))) :=
  fn_ok T.F9 sc_9 rfl rfl fun cdv A outer s H E xo =>
    sv_one (sv_ret (ev_tup (av_cons (ev_str) (av_cons (ev_var 0 rfl (.inl v_9_0) nd_10.1 nd_10.2) (av_cons (ev_var 1 rfl (.inl v_9_1) nd_11.1 nd_11.2) (av_nil))))))
theorem ok_10 {k : Nat} (T : Txt w K mg cl fa fd) (IH : IHt P w K mg base cl fa fd k) : FnOk P w K mg base (L2N.CX P w) (2 * k + 3 + 1) (fa 10) (fd 10) ["price", "goods", "kind"] (SpR K cl (runF 3 3 (B10 (tb k)))) :=
  fn_okE T.F10 sc_10 rfl rfl fun cdv A outer s H E xo =>
    sv_cons (sv_if (tv_not (tv_val (ev_call (IH 6) (xo.hr.mono (Nat.le_succ _)) xo.tk g_10_is_kind T.g6 T.F6.kp T.b6 (av_cons (ev_var 2 rfl (.inl v_10_2) nd_12.1 nd_12.2) (av_nil)) nd_15.1))) (sv_one (sv_raise xo.calm xo.tk T.x4 T.xi4 T.xt4 (okI_3 T (k := 0)) (xo.hr.mono (by omega)) T.b3 g_10_BadKind T.gC4 (av_cons (ev_var 2 rfl (.inl v_10_2) nd_12.1 nd_12.2) (av_nil)) (hdb := nd_16.1))) (sv_nil))
    (sv_one (sv_ret (ev_tup (av_cons (ev_str) (av_cons (ev_var 2 rfl (.inl v_10_2) nd_12.1 nd_12.2) (av_cons (ev_var 0 rfl (.inl v_10_0) nd_13.1 nd_13.2) (av_cons (ev_var 1 rfl (.inl v_10_1) nd_14.1 nd_14.2) (av_nil))))))))
theorem ok_11 {k : Nat} (T : Txt w K mg cl fa fd) (IH : IHt P w K mg base cl fa fd k) : FnOk P w K mg base (L2N.CX P w) (2 * k + 3 + 1) (fa 11) (fd 11) ["sentence"] (SpR K cl (runF 1 1 (B11 (tb k)))) :=
  fn_ok T.F11 sc_11 rfl rfl fun cdv A outer s H E xo =>
    sv_cons (sv_if (tv_cmp (ov_eq xo.hu) (ev_ix xo.hu1 (ev_var 0 rfl (.inl v_11_0) nd_17.1 nd_17.2) (ev_int)) (ev_str)) (sv_one (sv_ret (ev_lst (av_nil)))) (sv_nil))
    (sv_cons (sv_if (tv_cmp (ov_eq xo.hu) (ev_ix xo.hu1 (ev_var 0 rfl (.inl v_11_0) nd_17.1 nd_17.2) (ev_int)) (ev_str)) (sv_one (sv_ret (ev_lst (av_cons (ev_ix xo.hu1 (ev_var 0 rfl (.inl v_11_0) nd_17.1 nd_17.2) (ev_int)) (av_cons (ev_ix xo.hu1 (ev_var 0 rfl (.inl v_11_0) nd_17.1 nd_17.2) (ev_int)) (av_nil)))))) (sv_nil))
    (sv_one (sv_ret (ev_lst (av_cons (ev_ix xo.hu1 (ev_var 0 rfl (.inl v_11_0) nd_17.1 nd_17.2) (ev_int)) (av_cons (ev_ix xo.hu1 (ev_var 0 rfl (.inl v_11_0) nd_17.1 nd_17.2) (ev_int)) (av_nil)))))))
theorem ok_12 {k : Nat} (T : Txt w K mg cl fa fd) (IH : IHt P w K mg base cl fa fd k) : FnOk P w K mg base (L2N.CX P w) (2 * k + 3 + 1) (fa 12) (fd 12) ["sentence"] (SpR K cl (runF 1 3 (B12 (tb k)))) :=
  fn_ok T.F12 sc_12 rfl rfl fun cdv A outer s H E xo =>
    sv_cons (sv_if (tv_cmp (ov_eq xo.hu) (ev_ix xo.hu1 (ev_var 0 rfl (.inl v_12_0) nd_17.1 nd_17.2) (ev_int)) (ev_str)) (sv_one (sv_ret (ev_int))) (sv_nil))
    (sv_cons (sv_asg (ev_call (IH 11) (xo.hr.mono (Nat.le_succ _)) xo.tk g_12_sides T.g11 T.F11.kp T.b11 (av_cons (ev_var 0 rfl (.inl v_12_0) nd_17.1 nd_17.2) (av_nil)) nd_19.1) (gv_unl xo.calm (gvs_cons (gv_name 1 sc_12.nd rfl (.inl v_12_1) (hf := .inr v_12_1)) (gvs_cons (gv_name 2 sc_12.nd rfl (.inl v_12_2) (hf := .inr v_12_2)) (gvs_nil)))))
    (sv_one (sv_ret (ev_bin ov_add (ev_call (IH 12) (xo.hr.mono (Nat.le_succ _)) xo.tk g_12_size T.g12 T.F12.kp T.b12 (av_cons (ev_var 1 rfl (.inl v_12_1) nd_10.1 nd_10.2) (av_nil)) nd_18.1) (ev_call (IH 12) (xo.hr.mono (Nat.le_succ _)) xo.tk g_12_size T.g12 T.F12.kp T.b12 (av_cons (ev_var 2 rfl (.inl v_12_2) nd_11.1 nd_11.2) (av_nil)) nd_18.1)))))
theorem ok_13 {k : Nat} (T : Txt w K mg cl fa fd) (IH : IHt P w K mg base cl fa fd k) : FnOk P w K mg base (L2N.CX P w) (2 * k + 3 + 1) (fa 13) (fd 13) ["sentence"] (SpR K cl (runF 1 5 (B13 (tb k)))) :=
  fn_ok T.F13 sc_13 rfl rfl fun cdv A outer s H E xo =>
    sv_cons (sv_if (tv_cmp (ov_eq xo.hu) (ev_ix xo.hu1 (ev_var 0 rfl (.inl v_13_0) nd_17.1 nd_17.2) (ev_int)) (ev_str)) (sv_one (sv_ret (ev_lstM (av_cons (ev_ix xo.hu1 (ev_var 0 rfl (.inl v_13_0) nd_17.1 nd_17.2) (ev_int)) (av_nil))))) (sv_nil))
    (sv_cons (sv_asg (ev_call (IH 11) (xo.hr.mono (Nat.le_succ _)) xo.tk g_13_sides T.g11 T.F11.kp T.b11 (av_cons (ev_var 0 rfl (.inl v_13_0) nd_17.1 nd_17.2) (av_nil)) nd_19.1) (gv_unl xo.calm (gvs_cons (gv_name 1 sc_13.nd rfl (.inl v_13_1) (hf := .inr v_13_1)) (gvs_cons (gv_name 2 sc_13.nd rfl (.inl v_13_2) (hf := .inr v_13_2)) (gvs_nil)))))
    (sv_cons (sv_set 3 (ev_callK (IH 13) (xo.hr.mono (Nat.le_succ _)) xo.tk g_13_words_in T.g13 T.F13.kp T.b13 (av_cons (ev_var 1 rfl (.inl v_13_1) nd_10.1 nd_10.2) (av_nil)) nd_21.1) sc_13.nd rfl (.inl v_13_3) (hf := .inr v_13_3))
    (sv_cons (sv_for xo.hp xo.calm (ev_call (IH 13) (xo.hr.mono (Nat.le_succ _)) xo.tk g_13_words_in T.g13 T.F13.kp T.b13 (av_cons (ev_var 2 rfl (.inl v_13_2) nd_11.1 nd_11.2) (av_nil)) nd_21.1) (gv_name 4 sc_13.nd rfl (.inl v_13_4) (hf := .inr v_13_4)) (sv_one (sv_if (tv_cmp (ov_notIn xo.hu) (ev_var 4 rfl (.inl v_13_4) nd_7.1 nd_7.2) (ev_var 3 rfl (.inl v_13_3) nd_20.1 nd_20.2)) (sv_one (sv_expr (ev_mut PySem.F.slot_list_append PySem.F.type_list_append ov_append (ev_var 3 rfl (.inl v_13_3) nd_20.1 nd_20.2) (av_cons (ev_var 4 rfl (.inl v_13_4) nd_7.1 nd_7.2) (av_nil))))) (sv_nil))))
    (sv_one (sv_ret (ev_var 3 rfl (.inl v_13_3) nd_20.1 nd_20.2))))))
theorem ok_14 {k : Nat} (T : Txt w K mg cl fa fd) (IH : IHt P w K mg base cl fa fd k) : FnOk P w K mg base (L2N.CX P w) (2 * k + 3 + 1) (fa 14) (fd 14) ["sentence"] (SpR K cl (runF 1 4 (B14 (tb k)))) :=
  fn_ok T.F14 sc_14 rfl rfl fun cdv A outer s H E xo =>
    sv_cons (sv_if (tv_cmp (ov_eq xo.hu) (ev_ix xo.hu1 (ev_var 0 rfl (.inl v_14_0) nd_17.1 nd_17.2) (ev_int)) (ev_str)) (sv_one (sv_ret (ev_lst (av_cons (ev_tup (av_cons (ev_lst (av_nil)) (av_cons (ev_ix xo.hu1 (ev_var 0 rfl (.inl v_14_0) nd_17.1 nd_17.2) (ev_int)) (av_nil)))) (av_nil))))) (sv_nil))
    (sv_cons (sv_if (tv_cmp (ov_eq xo.hu) (ev_ix xo.hu1 (ev_var 0 rfl (.inl v_14_0) nd_17.1 nd_17.2) (ev_int)) (ev_str)) (sv_one (sv_ret (ev_bin ov_add (ev_call (IH 14) (xo.hr.mono (Nat.le_succ _)) xo.tk g_14_legs T.g14 T.F14.kp T.b14 (av_cons (ev_ix xo.hu1 (ev_var 0 rfl (.inl v_14_0) nd_17.1 nd_17.2) (ev_int)) (av_nil)) nd_22.1) (ev_call (IH 14) (xo.hr.mono (Nat.le_succ _)) xo.tk g_14_legs T.g14 T.F14.kp T.b14 (av_cons (ev_ix xo.hu1 (ev_var 0 rfl (.inl v_14_0) nd_17.1 nd_17.2) (ev_int)) (av_nil)) nd_22.1)))) (sv_nil))
    (sv_cons (sv_set 1 (ev_tup (av_cons (ev_ix xo.hu1 (ev_var 0 rfl (.inl v_14_0) nd_17.1 nd_17.2) (ev_int)) (av_cons (ev_ix xo.hu1 (ev_var 0 rfl (.inl v_14_0) nd_17.1 nd_17.2) (ev_int)) (av_nil)))) sc_14.nd rfl (.inr v_14_1) (hf := .inl rfl))
    (sv_one (sv_ret (ev_lc fi_fin xo.calm sc_14.nd (blkOk_by (N := ["sentence", "price", "prices", "name"]) (sc := defScope (top 22)) (own := [("prices", 2), ("name", 3)]) (by decide +kernel)) rfl (ev_call (IH 14) (xo.hr.mono (Nat.le_succ _)) xo.tk g_14_legs T.g14 T.F14.kp T.b14 (av_cons (ev_ix xo.hu1 (ev_var 0 rfl (.inl v_14_0) nd_17.1 nd_17.2) (ev_int)) (av_nil)) nd_22.1) (fun _ _ _ _ _ => gw_tup xo.calm (gws_cons (gw_name 2 sc_14.nd rfl (blk_loc (by decide +kernel))) (gws_cons (gw_name 3 sc_14.nd rfl (blk_loc (by decide +kernel))) (gws_nil)))) (fun _ _ _ _ _ => ptv_nil) (fun _ _ _ _ _ => ev_tup (av_cons (ev_bin ov_add (ev_lst (av_cons (ev_var 1 rfl (blk_vis (by decide +kernel)) nd_13.1 nd_13.2) (av_nil))) (ev_var 2 rfl (.inl (blk_loc (by decide +kernel))) nd_23.1 nd_23.2)) (av_cons (ev_var 3 rfl (.inl (blk_loc (by decide +kernel))) nd_7.1 nd_7.2) (av_nil)))))))))
theorem ok_15 {k : Nat} (T : Txt w K mg cl fa fd) (IH : IHt P w K mg base cl fa fd k) : FnOk P w K mg base (L2N.CX P w) (2 * k + 3 + 1) (fa 15) (fd 15) ["_law_script", "_law_k"] (SpR K cl (runF 2 2 (B15 (tb k)))) :=
  fn_ok T.F15 sc_15 rfl rfl fun cdv A outer s H E xo =>
    sv_cons (sv_if (tv_cmp ov_lt (ev_var 1 rfl (.inl v_15_1) nd_24.1 nd_24.2) (ev_bi ov_len g_15_len T.z_len (by decide +kernel) (av_cons (ev_var 0 rfl (.inl v_15_0) nd_25.1 nd_25.2) (av_nil)))) (sv_one (sv_ret (ev_bi ov_abs g_15_abs T.z_abs (by decide +kernel) (av_cons (ev_ix xo.hu1 (ev_var 0 rfl (.inl v_15_0) nd_25.1 nd_25.2) (ev_var 1 rfl (.inl v_15_1) nd_24.1 nd_24.2)) (av_nil))))) (sv_nil))
    (sv_one (sv_ret (ev_int)))
theorem ok_16 {k : Nat} (T : Txt w K mg cl fa fd) (IH : IHt P w K mg base cl fa fd k) : FnOk P w K mg base (L2N.CX P w) (2 * k + 3 + 1) (fa 16) (fd 16) ["_law_script", "_law_k"] (SpR K cl (runF 2 3 (B16 (tb k)))) :=
  fn_ok T.F16 sc_16 rfl rfl fun cdv A outer s H E xo =>
    sv_cons (sv_set 2 (ev_call (IH 15) (xo.hr.mono (Nat.le_succ _)) xo.tk g_16__law_cell T.g15 T.F15.kp T.b15 (av_cons (ev_var 0 rfl (.inl v_16_0) nd_25.1 nd_25.2) (av_cons (ev_var 1 rfl (.inl v_16_1) nd_24.1 nd_24.2) (av_nil))) nd_27.1) sc_16.nd rfl (.inl v_16_2) (hf := .inr v_16_2))
    (sv_cons (sv_if (tv_cmp ov_ge (ev_var 2 rfl (.inl v_16_2) nd_26.1 nd_26.2) (ev_bin ov_pow (ev_int) (ev_int))) (sv_one (sv_ret (ev_lstM (av_cons (ev_var 2 rfl (.inl v_16_2) nd_26.1 nd_26.2) (av_cons (ev_int) (av_cons (ev_bin ov_mod (ev_ty ov_intc g_16_int T.z_int (by decide +kernel) (av_cons (ev_var 2 rfl (.inl v_16_2) nd_26.1 nd_26.2) (av_nil))) (ev_int)) (av_nil))))))) (sv_nil))
    (sv_one (sv_ret (ev_lstM (av_cons (ev_int) (av_cons (ev_int) (av_cons (ev_var 2 rfl (.inl v_16_2) nd_26.1 nd_26.2) (av_nil))))))))
theorem ok_17 {k : Nat} (T : Txt w K mg cl fa fd) (IH : IHt P w K mg base cl fa fd k) : FnOk P w K mg base (L2N.CX P w) (2 * k + 3 + 1) (fa 17) (fd 17) ["_law_pool_here", "_law_many"] (SpR K cl (runF 2 4 (B17 (tb k)))) :=
  fn_ok T.F17 sc_17 rfl rfl fun cdv A outer s H E xo =>
    sv_cons (sv_if (tv_cmp ov_gt (ev_ix xo.hu1 (ev_var 0 rfl (.inl v_17_0) nd_30.1 nd_30.2) (ev_int)) (ev_int)) (sv_cons (sv_set 2 (ev_bin ov_mod (ev_ty ov_intc g_17_int T.z_int (by decide +kernel) (av_cons (ev_ix xo.hu1 (ev_var 0 rfl (.inl v_17_0) nd_30.1 nd_30.2) (ev_int)) (av_nil))) (ev_var 1 rfl (.inl v_17_1) nd_29.1 nd_29.2)) sc_17.nd rfl (.inl v_17_2) (hf := .inr v_17_2))
    (sv_cons (sv_sub xo.hu1 (ev_var 0 rfl (.inl v_17_0) nd_30.1 nd_30.2) (ev_int) (ev_bin ov_div (ev_ix xo.hu1 (ev_var 0 rfl (.inl v_17_0) nd_30.1 nd_30.2) (ev_int)) (ev_var 1 rfl (.inl v_17_1) nd_29.1 nd_29.2)))
    (sv_one (sv_ret (ev_var 2 rfl (.inl v_17_2) nd_31.1 nd_31.2))))) (sv_nil))
    (sv_cons (sv_sub xo.hu1 (ev_var 0 rfl (.inl v_17_0) nd_30.1 nd_30.2) (ev_int) (ev_bin ov_add (ev_ix xo.hu1 (ev_var 0 rfl (.inl v_17_0) nd_30.1 nd_30.2) (ev_int)) (ev_int)))
    (sv_cons (sv_set 3 (ev_bin ov_mod (ev_ty ov_intc g_17_int T.z_int (by decide +kernel) (av_cons (ev_bin ov_add (ev_bin ov_add (ev_ix xo.hu1 (ev_var 0 rfl (.inl v_17_0) nd_30.1 nd_30.2) (ev_int)) (ev_bin ov_mul (ev_int) (ev_ix xo.hu1 (ev_var 0 rfl (.inl v_17_0) nd_30.1 nd_30.2) (ev_int)))) (ev_int)) (av_nil))) (ev_int)) sc_17.nd rfl (.inl v_17_3) (hf := .inr v_17_3))
    (sv_cons (sv_set 3 (ev_bin ov_mod (ev_ty ov_intc g_17_int T.z_int (by decide +kernel) (av_cons (ev_bin ov_mul (ev_var 3 rfl (.inl v_17_3) nd_28.1 nd_28.2) (ev_bin ov_add (ev_var 3 rfl (.inl v_17_3) nd_28.1 nd_28.2) (ev_int))) (av_nil))) (ev_int)) sc_17.nd rfl (.inl v_17_3) (hf := .inr v_17_3))
    (sv_cons (sv_set 3 (ev_bin ov_mod (ev_ty ov_intc g_17_int T.z_int (by decide +kernel) (av_cons (ev_bin ov_add (ev_bin ov_mul (ev_var 3 rfl (.inl v_17_3) nd_28.1 nd_28.2) (ev_bin ov_add (ev_var 3 rfl (.inl v_17_3) nd_28.1 nd_28.2) (ev_int))) (ev_bin ov_mul (ev_int) (ev_ix xo.hu1 (ev_var 0 rfl (.inl v_17_0) nd_30.1 nd_30.2) (ev_int)))) (av_nil))) (ev_int)) sc_17.nd rfl (.inl v_17_3) (hf := .inr v_17_3))
    (sv_one (sv_ret (ev_bin ov_mod (ev_ty ov_intc g_17_int T.z_int (by decide +kernel) (av_cons (ev_bin ov_div (ev_var 3 rfl (.inl v_17_3) nd_28.1 nd_28.2) (ev_int)) (av_nil))) (ev_var 1 rfl (.inl v_17_1) nd_29.1 nd_29.2))))))))
theorem ok_18 {k : Nat} (T : Txt w K mg cl fa fd) (IH : IHt P w K mg base cl fa fd k) : FnOk P w K mg base (L2N.CX P w) (2 * k + 3 + 1) (fa 18) (fd 18) ["_law_told", "_law_due"] (SpR K cl (runF 2 3 (B18 (tb k)))) :=
  fn_ok T.F18 sc_18 rfl rfl fun cdv A outer s H E xo =>
    sv_cons (sv_if (tv_cmp ov_is (ev_var 1 rfl (.inl v_18_1) nd_33.1 nd_33.2) (ev_non)) (sv_one (sv_ret (ev_cmp ov_is (ev_var 0 rfl (.inl v_18_0) nd_32.1 nd_32.2) (ev_non)))) (sv_nil))
    (sv_cons (sv_if (tv_val (ev_isi (noOwn fun _ => rfl) g_18_isinstance T.z_isinstance (ev_var 1 rfl (.inl v_18_1) nd_33.1 nd_33.2) g_18_bool T.z_bool (by decide +kernel) an_bool)) (sv_one (sv_ret (ev_and (ev_isi (noOwn fun _ => rfl) g_18_isinstance T.z_isinstance (ev_var 0 rfl (.inl v_18_0) nd_32.1 nd_32.2) g_18_bool T.z_bool (by decide +kernel) an_bool) (ev_one (ev_cmp (ov_eq xo.hu) (ev_var 0 rfl (.inl v_18_0) nd_32.1 nd_32.2) (ev_var 1 rfl (.inl v_18_1) nd_33.1 nd_33.2)))))) (sv_nil))
    (sv_cons (sv_if (tv_val (ev_isi (noOwn fun _ => rfl) g_18_isinstance T.z_isinstance (ev_var 1 rfl (.inl v_18_1) nd_33.1 nd_33.2) g_18_int T.z_int (by decide +kernel) an_int)) (sv_one (sv_ret (ev_and (ev_isi (noOwn fun _ => rfl) g_18_isinstance T.z_isinstance (ev_var 0 rfl (.inl v_18_0) nd_32.1 nd_32.2) g_18_int T.z_int (by decide +kernel) an_int) (ev_and (ev_not (ev_isi (noOwn fun _ => rfl) g_18_isinstance T.z_isinstance (ev_var 0 rfl (.inl v_18_0) nd_32.1 nd_32.2) g_18_bool T.z_bool (by decide +kernel) an_bool)) (ev_one (ev_cmp (ov_eq xo.hu) (ev_var 0 rfl (.inl v_18_0) nd_32.1 nd_32.2) (ev_var 1 rfl (.inl v_18_1) nd_33.1 nd_33.2))))))) (sv_nil))
    (sv_cons (sv_if (tv_val (ev_isi (noOwn fun _ => rfl) g_18_isinstance T.z_isinstance (ev_var 1 rfl (.inl v_18_1) nd_33.1 nd_33.2) g_18_str T.z_str (by decide +kernel) an_str)) (sv_one (sv_ret (ev_and (ev_isi (noOwn fun _ => rfl) g_18_isinstance T.z_isinstance (ev_var 0 rfl (.inl v_18_0) nd_32.1 nd_32.2) g_18_str T.z_str (by decide +kernel) an_str) (ev_one (ev_cmp (ov_eq xo.hu) (ev_var 0 rfl (.inl v_18_0) nd_32.1 nd_32.2) (ev_var 1 rfl (.inl v_18_1) nd_33.1 nd_33.2)))))) (sv_nil))
    (sv_cons (sv_if (tv_pw (tv_and (tv_val (ev_isi (noOwn fun _ => rfl) g_18_isinstance T.z_isinstance (ev_var 1 rfl (.inl v_18_1) nd_33.1 nd_33.2) g_18_list T.z_list (by decide +kernel) an_lst)) (tv_and1 (tv_not (tv_val (ev_isi (noOwn fun _ => rfl) g_18_isinstance T.z_isinstance (ev_var 0 rfl (.inl v_18_0) nd_32.1 nd_32.2) g_18_list T.z_list (by decide +kernel) an_lst)))))) (sv_one (sv_ret (ev_bl))) (sv_nil))
    (sv_cons (sv_if (tv_pw (tv_and (tv_val (ev_isi (noOwn fun _ => rfl) g_18_isinstance T.z_isinstance (ev_var 1 rfl (.inl v_18_1) nd_33.1 nd_33.2) g_18_tuple T.z_tuple (by decide +kernel) an_tup)) (tv_and1 (tv_not (tv_val (ev_isi (noOwn fun _ => rfl) g_18_isinstance T.z_isinstance (ev_var 0 rfl (.inl v_18_0) nd_32.1 nd_32.2) g_18_tuple T.z_tuple (by decide +kernel) an_tup)))))) (sv_one (sv_ret (ev_bl))) (sv_nil))
    (sv_cons (sv_if (tv_cmp (ov_ne xo.hu) (ev_bi ov_len g_18_len T.z_len (by decide +kernel) (av_cons (ev_var 0 rfl (.inl v_18_0) nd_32.1 nd_32.2) (av_nil))) (ev_bi ov_len g_18_len T.z_len (by decide +kernel) (av_cons (ev_var 1 rfl (.inl v_18_1) nd_33.1 nd_33.2) (av_nil)))) (sv_one (sv_ret (ev_bl))) (sv_nil))
    (sv_cons (sv_forR1 xo.hp xo.calm g_18_range T.z_range (av_cons (ev_bi ov_len g_18_len T.z_len (by decide +kernel) (av_cons (ev_var 1 rfl (.inl v_18_1) nd_33.1 nd_33.2) (av_nil))) (av_nil)) (gv_name 2 sc_18.nd rfl (.inl v_18_2) (hf := .inr v_18_2)) (sv_one (sv_if (tv_not (tv_val (ev_call (IH 18) (xo.hr.mono (Nat.le_succ _)) xo.tk g_18__law_same T.g18 T.F18.kp T.b18 (av_cons (ev_ix xo.hu1 (ev_var 0 rfl (.inl v_18_0) nd_32.1 nd_32.2) (ev_var 2 rfl (.inl v_18_2) nd_24.1 nd_24.2)) (av_cons (ev_ix xo.hu1 (ev_var 1 rfl (.inl v_18_1) nd_33.1 nd_33.2) (ev_var 2 rfl (.inl v_18_2) nd_24.1 nd_24.2)) (av_nil))) nd_34.1))) (sv_one (sv_ret (ev_bl))) (sv_nil))))
    (sv_one (sv_ret (ev_bl))))))))))
theorem ok_19 {k : Nat} (T : Txt w K mg cl fa fd) (IH : IHt P w K mg base cl fa fd k) : FnOk P w K mg base (L2N.CX P w) (2 * k + 3 + 1) (fa 19) (fd 19) ["_law_pool_here", "_law_names"] (SpR K cl (runF 2 8 (B19 (tb k)))) :=
  fn_ok T.F19 sc_19 rfl rfl fun cdv A outer s H E xo =>
    sv_cons (sv_set 2 (ev_str) sc_19.nd rfl (.inl v_19_2) (hf := .inr v_19_2))
    (sv_cons (sv_set 3 (ev_bin ov_add (ev_var 2 rfl (.inl v_19_2) nd_38.1 nd_38.2) (ev_str)) sc_19.nd rfl (.inl v_19_3) (hf := .inr v_19_3))
    (sv_cons (sv_set 4 (ev_call (IH 17) (xo.hr.mono (Nat.le_succ _)) xo.tk g_19__law_next T.g17 T.F17.kp T.b17 (av_cons (ev_var 0 rfl (.inl v_19_0) nd_30.1 nd_30.2) (av_cons (ev_int) (av_nil))) nd_37.1) sc_19.nd rfl (.inl v_19_4) (hf := .inr v_19_4))
    (sv_cons (sv_if (tv_pw (tv_and (tv_truth (ev_var 1 rfl (.inl v_19_1) nd_40.1 nd_40.2)) (tv_and1 (tv_cmp ov_lt (ev_var 4 rfl (.inl v_19_4) nd_39.1 nd_39.2) (ev_int))))) (sv_cons (sv_set 5 (ev_ix xo.hu1 (ev_var 1 rfl (.inl v_19_1) nd_40.1 nd_40.2) (ev_call (IH 17) (xo.hr.mono (Nat.le_succ _)) xo.tk g_19__law_next T.g17 T.F17.kp T.b17 (av_cons (ev_var 0 rfl (.inl v_19_0) nd_30.1 nd_30.2) (av_cons (ev_bi ov_len g_19_len T.z_len (by decide +kernel) (av_cons (ev_var 1 rfl (.inl v_19_1) nd_40.1 nd_40.2) (av_nil))) (av_nil))) nd_37.1)) sc_19.nd rfl (.inl v_19_5) (hf := .inr v_19_5))
    (sv_cons (sv_set 6 (ev_call (IH 17) (xo.hr.mono (Nat.le_succ _)) xo.tk g_19__law_next T.g17 T.F17.kp T.b17 (av_cons (ev_var 0 rfl (.inl v_19_0) nd_30.1 nd_30.2) (av_cons (ev_bi ov_len g_19_len T.z_len (by decide +kernel) (av_cons (ev_var 5 rfl (.inl v_19_5) nd_35.1 nd_35.2) (av_nil))) (av_nil))) nd_37.1) sc_19.nd rfl (.inl v_19_6) (hf := .inr v_19_6))
    (sv_cons (sv_if (tv_cmp (ov_eq xo.hu) (ev_var 4 rfl (.inl v_19_4) nd_39.1 nd_39.2) (ev_int)) (sv_one (sv_ret (ev_bin ov_add (ev_bin ov_add (ev_sl xo.calm (ev_var 5 rfl (.inl v_19_5) nd_35.1 nd_35.2) ov_no (ov_so (ev_var 6 rfl (.inl v_19_6) nd_41.1 nd_41.2))) (ev_ix xo.hu1 (ev_var 2 rfl (.inl v_19_2) nd_38.1 nd_38.2) (ev_call (IH 17) (xo.hr.mono (Nat.le_succ _)) xo.tk g_19__law_next T.g17 T.F17.kp T.b17 (av_cons (ev_var 0 rfl (.inl v_19_0) nd_30.1 nd_30.2) (av_cons (ev_int) (av_nil))) nd_37.1))) (ev_sl xo.calm (ev_var 5 rfl (.inl v_19_5) nd_35.1 nd_35.2) (ov_so (ev_bin ov_add (ev_var 6 rfl (.inl v_19_6) nd_41.1 nd_41.2) (ev_int))) ov_no)))) (sv_nil))
    (sv_cons (sv_if (tv_pw (tv_and (tv_cmp (ov_eq xo.hu) (ev_var 4 rfl (.inl v_19_4) nd_39.1 nd_39.2) (ev_int)) (tv_and1 (tv_cmp ov_lt (ev_bi ov_len g_19_len T.z_len (by decide +kernel) (av_cons (ev_var 5 rfl (.inl v_19_5) nd_35.1 nd_35.2) (av_nil))) (ev_int))))) (sv_one (sv_ret (ev_bin ov_add (ev_var 5 rfl (.inl v_19_5) nd_35.1 nd_35.2) (ev_ix xo.hu1 (ev_var 3 rfl (.inl v_19_3) nd_36.1 nd_36.2) (ev_call (IH 17) (xo.hr.mono (Nat.le_succ _)) xo.tk g_19__law_next T.g17 T.F17.kp T.b17 (av_cons (ev_var 0 rfl (.inl v_19_0) nd_30.1 nd_30.2) (av_cons (ev_int) (av_nil))) nd_37.1))))) (sv_nil))
    (sv_one (sv_ret (ev_sl xo.calm (ev_var 5 rfl (.inl v_19_5) nd_35.1 nd_35.2) ov_no (ov_so (ev_bi (ov_max xo.calm) g_19_max T.z_max (by decide +kernel) (av_cons (ev_int) (av_cons (ev_var 6 rfl (.inl v_19_6) nd_41.1 nd_41.2) (av_nil)))))))))))) (sv_nil))
    (sv_cons (sv_set 5 (ev_ix xo.hu1 (ev_var 2 rfl (.inl v_19_2) nd_38.1 nd_38.2) (ev_call (IH 17) (xo.hr.mono (Nat.le_succ _)) xo.tk g_19__law_next T.g17 T.F17.kp T.b17 (av_cons (ev_var 0 rfl (.inl v_19_0) nd_30.1 nd_30.2) (av_cons (ev_int) (av_nil))) nd_37.1)) sc_19.nd rfl (.inl v_19_5) (hf := .inr v_19_5))
    (sv_cons (sv_forR1 xo.hp xo.calm g_19_range T.z_range (av_cons (ev_ix xo.hu1 (ev_lst (av_cons (ev_int) (av_cons (ev_int) (av_cons (ev_int) (av_cons (ev_int) (av_cons (ev_int) (av_cons (ev_int) (av_nil)))))))) (ev_call (IH 17) (xo.hr.mono (Nat.le_succ _)) xo.tk g_19__law_next T.g17 T.F17.kp T.b17 (av_cons (ev_var 0 rfl (.inl v_19_0) nd_30.1 nd_30.2) (av_cons (ev_int) (av_nil))) nd_37.1)) (av_nil)) (gv_name 7 sc_19.nd rfl (.inl v_19_7) (hf := .inr v_19_7)) (sv_one (sv_set 5 (ev_bin ov_add (ev_var 5 rfl (.inl v_19_5) nd_35.1 nd_35.2) (ev_ix xo.hu1 (ev_var 3 rfl (.inl v_19_3) nd_36.1 nd_36.2) (ev_call (IH 17) (xo.hr.mono (Nat.le_succ _)) xo.tk g_19__law_next T.g17 T.F17.kp T.b17 (av_cons (ev_var 0 rfl (.inl v_19_0) nd_30.1 nd_30.2) (av_cons (ev_int) (av_nil))) nd_37.1))) sc_19.nd rfl (.inl v_19_5) (hf := .inr v_19_5))))
    (sv_one (sv_ret (ev_var 5 rfl (.inl v_19_5) nd_35.1 nd_35.2))))))))
theorem ok_20 {k : Nat} (T : Txt w K mg cl fa fd) (IH : IHt P w K mg base cl fa fd k) : FnOk P w K mg base (L2N.CX P w) (2 * k + 3 + 1) (fa 20) (fd 20) ["_law_pool_here", "_law_name_here"] (SpR K cl (runF 2 6 (B20 (tb k)))) :=
  fn_ok T.F20 sc_20 rfl rfl fun cdv A outer s H E xo =>
    sv_cons (sv_set 2 (ev_str) sc_20.nd rfl (.inl v_20_2) (hf := .inr v_20_2))
    (sv_cons (sv_set 3 (ev_call (IH 17) (xo.hr.mono (Nat.le_succ _)) xo.tk g_20__law_next T.g17 T.F17.kp T.b17 (av_cons (ev_var 0 rfl (.inl v_20_0) nd_30.1 nd_30.2) (av_cons (ev_int) (av_nil))) nd_37.1) sc_20.nd rfl (.inl v_20_3) (hf := .inr v_20_3))
    (sv_cons (sv_set 4 (ev_call (IH 17) (xo.hr.mono (Nat.le_succ _)) xo.tk g_20__law_next T.g17 T.F17.kp T.b17 (av_cons (ev_var 0 rfl (.inl v_20_0) nd_30.1 nd_30.2) (av_cons (ev_bi ov_len g_20_len T.z_len (by decide +kernel) (av_cons (ev_var 1 rfl (.inl v_20_1) nd_35.1 nd_35.2) (av_nil))) (av_nil))) nd_37.1) sc_20.nd rfl (.inl v_20_4) (hf := .inr v_20_4))
    (sv_cons (sv_set 5 (ev_ix xo.hu1 (ev_var 2 rfl (.inl v_20_2) nd_43.1 nd_43.2) (ev_call (IH 17) (xo.hr.mono (Nat.le_succ _)) xo.tk g_20__law_next T.g17 T.F17.kp T.b17 (av_cons (ev_var 0 rfl (.inl v_20_0) nd_30.1 nd_30.2) (av_cons (ev_bi ov_len g_20_len T.z_len (by decide +kernel) (av_cons (ev_var 2 rfl (.inl v_20_2) nd_43.1 nd_43.2) (av_nil))) (av_nil))) nd_37.1)) sc_20.nd rfl (.inl v_20_5) (hf := .inr v_20_5))
    (sv_cons (sv_if (tv_cmp (ov_eq xo.hu) (ev_var 3 rfl (.inl v_20_3) nd_39.1 nd_39.2) (ev_int)) (sv_one (sv_ret (ev_str))) (sv_nil))
    (sv_cons (sv_if (tv_cmp (ov_eq xo.hu) (ev_var 3 rfl (.inl v_20_3) nd_39.1 nd_39.2) (ev_int)) (sv_one (sv_ret (ev_bin ov_add (ev_ty ov_str g_20_str T.z_str (by decide +kernel) (av_cons (ev_call (IH 17) (xo.hr.mono (Nat.le_succ _)) xo.tk g_20__law_next T.g17 T.F17.kp T.b17 (av_cons (ev_var 0 rfl (.inl v_20_0) nd_30.1 nd_30.2) (av_cons (ev_int) (av_nil))) nd_37.1) (av_nil))) (ev_sl xo.calm (ev_var 1 rfl (.inl v_20_1) nd_35.1 nd_35.2) ov_no (ov_so (ev_int)))))) (sv_nil))
    (sv_cons (sv_if (tv_cmp (ov_eq xo.hu) (ev_var 3 rfl (.inl v_20_3) nd_39.1 nd_39.2) (ev_int)) (sv_one (sv_ret (ev_sl xo.calm (ev_bin ov_add (ev_var 1 rfl (.inl v_20_1) nd_35.1 nd_35.2) (ev_str)) ov_no (ov_so (ev_bin ov_add (ev_int) (ev_call (IH 17) (xo.hr.mono (Nat.le_succ _)) xo.tk g_20__law_next T.g17 T.F17.kp T.b17 (av_cons (ev_var 0 rfl (.inl v_20_0) nd_30.1 nd_30.2) (av_cons (ev_int) (av_nil))) nd_37.1)))))) (sv_nil))
    (sv_cons (sv_if (tv_cmp (ov_eq xo.hu) (ev_var 3 rfl (.inl v_20_3) nd_39.1 nd_39.2) (ev_int)) (sv_one (sv_ret (ev_bin ov_add (ev_bin ov_add (ev_sl xo.calm (ev_var 1 rfl (.inl v_20_1) nd_35.1 nd_35.2) ov_no (ov_so (ev_var 4 rfl (.inl v_20_4) nd_41.1 nd_41.2))) (ev_var 5 rfl (.inl v_20_5) nd_42.1 nd_42.2)) (ev_sl xo.calm (ev_var 1 rfl (.inl v_20_1) nd_35.1 nd_35.2) (ov_so (ev_bin ov_add (ev_var 4 rfl (.inl v_20_4) nd_41.1 nd_41.2) (ev_int))) ov_no)))) (sv_nil))
    (sv_one (sv_ret (ev_bin ov_add (ev_bin ov_add (ev_sl xo.calm (ev_var 1 rfl (.inl v_20_1) nd_35.1 nd_35.2) ov_no (ov_so (ev_var 4 rfl (.inl v_20_4) nd_41.1 nd_41.2))) (ev_var 5 rfl (.inl v_20_5) nd_42.1 nd_42.2)) (ev_sl xo.calm (ev_var 1 rfl (.inl v_20_1) nd_35.1 nd_35.2) (ov_so (ev_var 4 rfl (.inl v_20_4) nd_41.1 nd_41.2)) ov_no)))))))))))
theorem ok_21 {k : Nat} (T : Txt w K mg cl fa fd) (IH : IHt P w K mg base cl fa fd k) : FnOk P w K mg base (L2N.CX P w) (2 * k + 3 + 1) (fa 21) (fd 21) ["_law_pool_here"] (SpR K cl (runF 1 1 (B21 (tb k)))) :=
  fn_ok T.F21 sc_21 rfl rfl fun cdv A outer s H E xo =>
    sv_cons (sv_if (tv_cmp (ov_eq xo.hu) (ev_call (IH 17) (xo.hr.mono (Nat.le_succ _)) xo.tk g_21__law_next T.g17 T.F17.kp T.b17 (av_cons (ev_var 0 rfl (.inl v_21_0) nd_30.1 nd_30.2) (av_cons (ev_int) (av_nil))) nd_37.1) (ev_int)) (sv_one (sv_ret (ev_str))) (sv_nil))
    (sv_one (sv_ret (ev_tup (av_cons (ev_bin ov_add (ev_int) (ev_call (IH 17) (xo.hr.mono (Nat.le_succ _)) xo.tk g_21__law_next T.g17 T.F17.kp T.b17 (av_cons (ev_var 0 rfl (.inl v_21_0) nd_30.1 nd_30.2) (av_cons (ev_int) (av_nil))) nd_37.1)) (av_cons (ev_call (IH 17) (xo.hr.mono (Nat.le_succ _)) xo.tk g_21__law_next T.g17 T.F17.kp T.b17 (av_cons (ev_var 0 rfl (.inl v_21_0) nd_30.1 nd_30.2) (av_cons (ev_int) (av_nil))) nd_37.1) (av_nil))))))
theorem ok_22 {k : Nat} (T : Txt w K mg cl fa fd) (IH : IHt P w K mg base cl fa fd k) : FnOk P w K mg base (L2N.CX P w) (2 * k + 3 + 1) (fa 22) (fd 22) ["_law_pool_here", "_law_names", "_law_depth"] (SpR K cl (runF 3 6 (B22 (tb k)))) :=
  fn_ok T.F22 sc_22 rfl rfl fun cdv A outer s H E xo =>
    sv_cons (sv_set 3 (ev_call (IH 17) (xo.hr.mono (Nat.le_succ _)) xo.tk g_22__law_next T.g17 T.F17.kp T.b17 (av_cons (ev_var 0 rfl (.inl v_22_0) nd_30.1 nd_30.2) (av_cons (ev_int) (av_nil))) nd_37.1) sc_22.nd rfl (.inl v_22_3) (hf := .inr v_22_3))
    (sv_cons (sv_if (tv_pw (tv_or (tv_cmp ov_le (ev_var 2 rfl (.inl v_22_2) nd_47.1 nd_47.2) (ev_int)) (tv_or1 (tv_cmp (ov_eq xo.hu) (ev_var 3 rfl (.inl v_22_3) nd_39.1 nd_39.2) (ev_int))))) (sv_one (sv_ret (ev_tup (av_cons (ev_str) (av_cons (ev_ix xo.hu1 (ev_var 1 rfl (.inl v_22_1) nd_40.1 nd_40.2) (ev_call (IH 17) (xo.hr.mono (Nat.le_succ _)) xo.tk g_22__law_next T.g17 T.F17.kp T.b17 (av_cons (ev_var 0 rfl (.inl v_22_0) nd_30.1 nd_30.2) (av_cons (ev_bi ov_len g_22_len T.z_len (by decide +kernel) (av_cons (ev_var 1 rfl (.inl v_22_1) nd_40.1 nd_40.2) (av_nil))) (av_nil))) nd_37.1)) (av_nil)))))) (sv_nil))
    (sv_cons (sv_set 4 (ev_call (IH 22) (xo.hr.mono (Nat.le_succ _)) xo.tk g_22__law_deep T.g22 T.F22.kp T.b22 (av_cons (ev_var 0 rfl (.inl v_22_0) nd_30.1 nd_30.2) (av_cons (ev_var 1 rfl (.inl v_22_1) nd_40.1 nd_40.2) (av_cons (ev_bin ov_sub (ev_var 2 rfl (.inl v_22_2) nd_47.1 nd_47.2) (ev_int)) (av_nil)))) nd_48.1) sc_22.nd rfl (.inl v_22_4) (hf := .inr v_22_4))
    (sv_cons (sv_set 5 (ev_call (IH 22) (xo.hr.mono (Nat.le_succ _)) xo.tk g_22__law_deep T.g22 T.F22.kp T.b22 (av_cons (ev_var 0 rfl (.inl v_22_0) nd_30.1 nd_30.2) (av_cons (ev_var 1 rfl (.inl v_22_1) nd_40.1 nd_40.2) (av_cons (ev_bin ov_sub (ev_var 2 rfl (.inl v_22_2) nd_47.1 nd_47.2) (ev_int)) (av_nil)))) nd_48.1) sc_22.nd rfl (.inl v_22_5) (hf := .inr v_22_5))
    (sv_cons (sv_if (tv_cmp ov_lt (ev_var 3 rfl (.inl v_22_3) nd_39.1 nd_39.2) (ev_int)) (sv_one (sv_ret (ev_tup (av_cons (ev_str) (av_cons (ev_var 4 rfl (.inl v_22_4) nd_45.1 nd_45.2) (av_cons (ev_var 5 rfl (.inl v_22_5) nd_46.1 nd_46.2) (av_nil))))))) (sv_nil))
    (sv_one (sv_ret (ev_tup (av_cons (ev_str) (av_cons (ev_call (IH 21) (xo.hr.mono (Nat.le_succ _)) xo.tk g_22__law_mode T.g21 T.F21.kp T.b21 (av_cons (ev_var 0 rfl (.inl v_22_0) nd_30.1 nd_30.2) (av_nil)) nd_44.1) (av_cons (ev_var 4 rfl (.inl v_22_4) nd_45.1 nd_45.2) (av_cons (ev_var 5 rfl (.inl v_22_5) nd_46.1 nd_46.2) (av_nil))))))))))))
theorem ok_23 {k : Nat} (T : Txt w K mg cl fa fd) (IH : IHt P w K mg base cl fa fd k) : FnOk P w K mg base (L2N.CX P w) (2 * k + 3 + 1) (fa 23) (fd 23) ["_law_pool_here", "_law_names"] (SpR K cl (runF 2 6 (B23 (tb k)))) :=
  fn_ok T.F23 sc_23 rfl rfl fun cdv A outer s H E xo =>
    sv_cons (sv_if (tv_cmp ov_gt (ev_call (IH 17) (xo.hr.mono (Nat.le_succ _)) xo.tk g_23__law_next T.g17 T.F17.kp T.b17 (av_cons (ev_var 0 rfl (.inl v_23_0) nd_30.1 nd_30.2) (av_cons (ev_int) (av_nil))) nd_37.1) (ev_int)) (sv_one (sv_ret (ev_call (IH 22) (xo.hr.mono (Nat.le_succ _)) xo.tk g_23__law_deep T.g22 T.F22.kp T.b22 (av_cons (ev_var 0 rfl (.inl v_23_0) nd_30.1 nd_30.2) (av_cons (ev_var 1 rfl (.inl v_23_1) nd_40.1 nd_40.2) (av_cons (ev_call (IH 17) (xo.hr.mono (Nat.le_succ _)) xo.tk g_23__law_next T.g17 T.F17.kp T.b17 (av_cons (ev_var 0 rfl (.inl v_23_0) nd_30.1 nd_30.2) (av_cons (ev_int) (av_nil))) nd_37.1) (av_nil)))) nd_48.1))) (sv_nil))
    (sv_cons (sv_set 2 (ev_tup (av_cons (ev_str) (av_cons (ev_ix xo.hu1 (ev_var 1 rfl (.inl v_23_1) nd_40.1 nd_40.2) (ev_int)) (av_nil)))) sc_23.nd rfl (.inl v_23_2) (hf := .inr v_23_2))
    (sv_cons (sv_forR1 xo.hp xo.calm g_23_range T.z_range (av_cons (ev_bin ov_add (ev_int) (ev_call (IH 17) (xo.hr.mono (Nat.le_succ _)) xo.tk g_23__law_next T.g17 T.F17.kp T.b17 (av_cons (ev_var 0 rfl (.inl v_23_0) nd_30.1 nd_30.2) (av_cons (ev_int) (av_nil))) nd_37.1)) (av_nil)) (gv_name 3 sc_23.nd rfl (.inl v_23_3) (hf := .inr v_23_3)) (sv_cons (sv_set 4 (ev_tup (av_cons (ev_str) (av_cons (ev_ix xo.hu1 (ev_var 1 rfl (.inl v_23_1) nd_40.1 nd_40.2) (ev_call (IH 17) (xo.hr.mono (Nat.le_succ _)) xo.tk g_23__law_next T.g17 T.F17.kp T.b17 (av_cons (ev_var 0 rfl (.inl v_23_0) nd_30.1 nd_30.2) (av_cons (ev_bi ov_len g_23_len T.z_len (by decide +kernel) (av_cons (ev_var 1 rfl (.inl v_23_1) nd_40.1 nd_40.2) (av_nil))) (av_nil))) nd_37.1)) (av_nil)))) sc_23.nd rfl (.inl v_23_4) (hf := .inr v_23_4))
    (sv_cons (sv_set 5 (ev_call (IH 17) (xo.hr.mono (Nat.le_succ _)) xo.tk g_23__law_next T.g17 T.F17.kp T.b17 (av_cons (ev_var 0 rfl (.inl v_23_0) nd_30.1 nd_30.2) (av_cons (ev_int) (av_nil))) nd_37.1) sc_23.nd rfl (.inl v_23_5) (hf := .inr v_23_5))
    (sv_one (sv_if (tv_cmp (ov_eq xo.hu) (ev_var 5 rfl (.inl v_23_5) nd_39.1 nd_39.2) (ev_int)) (sv_one (sv_set 2 (ev_tup (av_cons (ev_str) (av_cons (ev_var 2 rfl (.inl v_23_2) nd_49.1 nd_49.2) (av_cons (ev_var 4 rfl (.inl v_23_4) nd_50.1 nd_50.2) (av_nil))))) sc_23.nd rfl (.inl v_23_2) (hf := .inr v_23_2))) (sv_one (sv_if (tv_cmp (ov_eq xo.hu) (ev_var 5 rfl (.inl v_23_5) nd_39.1 nd_39.2) (ev_int)) (sv_one (sv_set 2 (ev_tup (av_cons (ev_str) (av_cons (ev_var 4 rfl (.inl v_23_4) nd_50.1 nd_50.2) (av_cons (ev_var 2 rfl (.inl v_23_2) nd_49.1 nd_49.2) (av_nil))))) sc_23.nd rfl (.inl v_23_2) (hf := .inr v_23_2))) (sv_one (sv_if (tv_cmp (ov_eq xo.hu) (ev_var 5 rfl (.inl v_23_5) nd_39.1 nd_39.2) (ev_int)) (sv_one (sv_set 2 (ev_tup (av_cons (ev_str) (av_cons (ev_call (IH 21) (xo.hr.mono (Nat.le_succ _)) xo.tk g_23__law_mode T.g21 T.F21.kp T.b21 (av_cons (ev_var 0 rfl (.inl v_23_0) nd_30.1 nd_30.2) (av_nil)) nd_44.1) (av_cons (ev_var 2 rfl (.inl v_23_2) nd_49.1 nd_49.2) (av_cons (ev_var 4 rfl (.inl v_23_4) nd_50.1 nd_50.2) (av_nil)))))) sc_23.nd rfl (.inl v_23_2) (hf := .inr v_23_2))) (sv_one (sv_set 2 (ev_tup (av_cons (ev_str) (av_cons (ev_call (IH 21) (xo.hr.mono (Nat.le_succ _)) xo.tk g_23__law_mode T.g21 T.F21.kp T.b21 (av_cons (ev_var 0 rfl (.inl v_23_0) nd_30.1 nd_30.2) (av_nil)) nd_44.1) (av_cons (ev_var 4 rfl (.inl v_23_4) nd_50.1 nd_50.2) (av_cons (ev_var 2 rfl (.inl v_23_2) nd_49.1 nd_49.2) (av_nil)))))) sc_23.nd rfl (.inl v_23_2) (hf := .inr v_23_2))))))))))))
    (sv_one (sv_ret (ev_var 2 rfl (.inl v_23_2) nd_49.1 nd_49.2)))))
theorem ok_24 {k : Nat} (T : Txt w K mg cl fa fd) (IH : IHt P w K mg base cl fa fd k) : FnOk P w K mg base (L2N.CX P w) (2 * k + 3 + 1) (fa 24) (fd 24) ["_law_sentence_here"] (SpR K cl (runF 1 5 (B24 (tb k)))) :=
  fn_ok T.F24 sc_24 rfl rfl fun cdv A outer s H E xo =>
    sv_cons (sv_set 1 (ev_lstM (av_nil)) sc_24.nd rfl (.inl v_24_1) (hf := .inr v_24_1))
    (sv_cons (sv_set 2 (ev_lstM (av_cons (ev_tup (av_cons (ev_lst (av_nil)) (av_cons (ev_var 0 rfl (.inl v_24_0) nd_49.1 nd_49.2) (av_nil)))) (av_nil))) sc_24.nd rfl (.inl v_24_2) (hf := .inr v_24_2))
    (sv_cons (sv_while 1000000 xo.hp (tv_truth (ev_var 2 rfl (.inl v_24_2) nd_52.1 nd_52.2)) (sv_cons (sv_set 3 (ev_mut0 PySem.F.slot_list_pop PySem.F.type_list_pop ov_pop (ev_var 2 rfl (.inl v_24_2) nd_52.1 nd_52.2)) sc_24.nd rfl (.inl v_24_3) (hf := .inr v_24_3))
    (sv_cons (sv_set 4 (ev_ix xo.hu1 (ev_var 3 rfl (.inl v_24_3) nd_53.1 nd_53.2) (ev_int)) sc_24.nd rfl (.inl v_24_4) (hf := .inr v_24_4))
    (sv_one (sv_if (tv_cmp (ov_eq xo.hu) (ev_ix xo.hu1 (ev_var 4 rfl (.inl v_24_4) nd_45.1 nd_45.2) (ev_int)) (ev_str)) (sv_one (sv_expr (ev_mut PySem.F.slot_list_append PySem.F.type_list_append ov_append (ev_var 1 rfl (.inl v_24_1) nd_51.1 nd_51.2) (av_cons (ev_tup (av_cons (ev_ix xo.hu1 (ev_var 3 rfl (.inl v_24_3) nd_53.1 nd_53.2) (ev_int)) (av_cons (ev_ix xo.hu1 (ev_var 4 rfl (.inl v_24_4) nd_45.1 nd_45.2) (ev_int)) (av_nil)))) (av_nil))))) (sv_one (sv_if (tv_cmp (ov_eq xo.hu) (ev_ix xo.hu1 (ev_var 4 rfl (.inl v_24_4) nd_45.1 nd_45.2) (ev_int)) (ev_str)) (sv_cons (sv_expr (ev_mut PySem.F.slot_list_append PySem.F.type_list_append ov_append (ev_var 2 rfl (.inl v_24_2) nd_52.1 nd_52.2) (av_cons (ev_tup (av_cons (ev_ty ov_list g_24_list T.z_list (by decide +kernel) (av_cons (ev_ix xo.hu1 (ev_var 3 rfl (.inl v_24_3) nd_53.1 nd_53.2) (ev_int)) (av_nil))) (av_cons (ev_ix xo.hu1 (ev_var 4 rfl (.inl v_24_4) nd_45.1 nd_45.2) (ev_int)) (av_nil)))) (av_nil))))
    (sv_one (sv_expr (ev_mut PySem.F.slot_list_append PySem.F.type_list_append ov_append (ev_var 2 rfl (.inl v_24_2) nd_52.1 nd_52.2) (av_cons (ev_tup (av_cons (ev_ty ov_list g_24_list T.z_list (by decide +kernel) (av_cons (ev_ix xo.hu1 (ev_var 3 rfl (.inl v_24_3) nd_53.1 nd_53.2) (ev_int)) (av_nil))) (av_cons (ev_ix xo.hu1 (ev_var 4 rfl (.inl v_24_4) nd_45.1 nd_45.2) (ev_int)) (av_nil)))) (av_nil)))))) (sv_one (sv_expr (ev_mut PySem.F.slot_list_append PySem.F.type_list_append ov_append (ev_var 2 rfl (.inl v_24_2) nd_52.1 nd_52.2) (av_cons (ev_tup (av_cons (ev_bin ov_add (ev_ix xo.hu1 (ev_var 3 rfl (.inl v_24_3) nd_53.1 nd_53.2) (ev_int)) (ev_lst (av_cons (ev_tup (av_cons (ev_ix xo.hu1 (ev_var 4 rfl (.inl v_24_4) nd_45.1 nd_45.2) (ev_int)) (av_cons (ev_ix xo.hu1 (ev_var 4 rfl (.inl v_24_4) nd_45.1 nd_45.2) (ev_int)) (av_nil)))) (av_nil)))) (av_cons (ev_ix xo.hu1 (ev_var 4 rfl (.inl v_24_4) nd_45.1 nd_45.2) (ev_int)) (av_nil)))) (av_nil))))))))))))
    (sv_one (sv_ret (ev_var 1 rfl (.inl v_24_1) nd_51.1 nd_51.2)))))
theorem ok_25 {k : Nat} (T : Txt w K mg cl fa fd) (IH : IHt P w K mg base cl fa fd k) : FnOk P w K mg base (L2N.CX P w) (2 * k + 3 + 1) (fa 25) (fd 25) ["_law_sentence_here"] (SpR K cl (runF 1 4 (B25 (tb k)))) :=
  fn_ok T.F25 sc_25 rfl rfl fun cdv A outer s H E xo =>
    sv_cons (sv_set 1 (ev_lstM (av_nil)) sc_25.nd rfl (.inl v_25_1) (hf := .inr v_25_1))
    (sv_cons (sv_set 2 (ev_lstM (av_cons (ev_var 0 rfl (.inl v_25_0) nd_49.1 nd_49.2) (av_nil))) sc_25.nd rfl (.inl v_25_2) (hf := .inr v_25_2))
    (sv_cons (sv_while 1000000 xo.hp (tv_truth (ev_var 2 rfl (.inl v_25_2) nd_52.1 nd_52.2)) (sv_cons (sv_set 3 (ev_mut0 PySem.F.slot_list_pop PySem.F.type_list_pop ov_pop (ev_var 2 rfl (.inl v_25_2) nd_52.1 nd_52.2)) sc_25.nd rfl (.inl v_25_3) (hf := .inr v_25_3))
    (sv_one (sv_if (tv_cmp (ov_eq xo.hu) (ev_ix xo.hu1 (ev_var 3 rfl (.inl v_25_3) nd_45.1 nd_45.2) (ev_int)) (ev_str)) (sv_one (sv_expr (ev_mut PySem.F.slot_list_append PySem.F.type_list_append ov_append (ev_var 1 rfl (.inl v_25_1) nd_51.1 nd_51.2) (av_cons (ev_ix xo.hu1 (ev_var 3 rfl (.inl v_25_3) nd_45.1 nd_45.2) (ev_int)) (av_nil))))) (sv_cons (sv_expr (ev_mut PySem.F.slot_list_append PySem.F.type_list_append ov_append (ev_var 2 rfl (.inl v_25_2) nd_52.1 nd_52.2) (av_cons (ev_ix xo.hu1 (ev_var 3 rfl (.inl v_25_3) nd_45.1 nd_45.2) (ev_neg (ev_int))) (av_nil))))
    (sv_one (sv_expr (ev_mut PySem.F.slot_list_append PySem.F.type_list_append ov_append (ev_var 2 rfl (.inl v_25_2) nd_52.1 nd_52.2) (av_cons (ev_ix xo.hu1 (ev_var 3 rfl (.inl v_25_3) nd_45.1 nd_45.2) (ev_neg (ev_int))) (av_nil))))))))))
    (sv_one (sv_ret (ev_var 1 rfl (.inl v_25_1) nd_51.1 nd_51.2)))))
theorem ok_26 {k : Nat} (T : Txt w K mg cl fa fd) (IH : IHt P w K mg base cl fa fd k) : FnOk P w K mg base (L2N.CX P w) (2 * k + 3 + 1) (fa 26) (fd 26) ["_law_sentence_here"] (SpR K cl (runF 1 10 (B26 (tb k)))) :=
  fn_ok T.F26 sc_26 rfl rfl fun cdv A outer s H E xo =>
    sv_cons (sv_set 1 (ev_call (IH 24) (xo.hr.mono (Nat.le_succ _)) xo.tk g_26__law_legs T.g24 T.F24.kp T.b24 (av_cons (ev_var 0 rfl (.inl v_26_0) nd_49.1 nd_49.2) (av_nil)) nd_59.1) sc_26.nd rfl (.inl v_26_1) (hf := .inr v_26_1))
    (sv_cons (sv_set 2 (ev_call (IH 25) (xo.hr.mono (Nat.le_succ _)) xo.tk g_26__law_words T.g25 T.F25.kp T.b25 (av_cons (ev_var 0 rfl (.inl v_26_0) nd_49.1 nd_49.2) (av_nil)) nd_58.1) sc_26.nd rfl (.inl v_26_2) (hf := .inr v_26_2))
    (sv_cons (sv_set 3 (ev_lstM (av_nil)) sc_26.nd rfl (.inl v_26_3) (hf := .inr v_26_3))
    (sv_cons (sv_for xo.hp xo.calm (ev_var 2 rfl (.inl v_26_2) nd_40.1 nd_40.2) (gv_name 4 sc_26.nd rfl (.inl v_26_4) (hf := .inr v_26_4)) (sv_one (sv_if (tv_cmp (ov_notIn xo.hu) (ev_var 4 rfl (.inl v_26_4) nd_35.1 nd_35.2) (ev_var 3 rfl (.inl v_26_3) nd_54.1 nd_54.2)) (sv_one (sv_expr (ev_mut PySem.F.slot_list_append PySem.F.type_list_append ov_append (ev_var 3 rfl (.inl v_26_3) nd_54.1 nd_54.2) (av_cons (ev_var 4 rfl (.inl v_26_4) nd_35.1 nd_35.2) (av_nil))))) (sv_nil))))
    (sv_cons (sv_set 5 (ev_callK (IH 32) (xo.hr.mono (Nat.le_succ _)) xo.tk g_26_legs T.g32 T.F32.kp T.b32 (av_cons (ev_var 0 rfl (.inl v_26_0) nd_49.1 nd_49.2) (av_nil)) nd_22.1) sc_26.nd rfl (.inl v_26_5) (hf := .inr v_26_5))
    (sv_cons (sv_set 6 (ev_callK (IH 13) (xo.hr.mono (Nat.le_succ _)) xo.tk g_26_words_in T.g13 T.F13.kp T.b13 (av_cons (ev_var 0 rfl (.inl v_26_0) nd_49.1 nd_49.2) (av_nil)) nd_21.1) sc_26.nd rfl (.inl v_26_6) (hf := .inr v_26_6))
    (sv_cons (sv_if (tv_pw (tv_or (tv_not (tv_val (ev_call (IH 18) (xo.hr.mono (Nat.le_succ _)) xo.tk g_26__law_same T.g18 T.F18.kp T.b18 (av_cons (ev_var 5 rfl (.inl v_26_5) nd_32.1 nd_32.2) (av_cons (ev_var 1 rfl (.inl v_26_1) nd_33.1 nd_33.2) (av_nil))) nd_34.1))) (tv_or (tv_not (tv_val (ev_call (IH 18) (xo.hr.mono (Nat.le_succ _)) xo.tk g_26__law_same T.g18 T.F18.kp T.b18 (av_cons (ev_var 6 rfl (.inl v_26_6) nd_55.1 nd_55.2) (av_cons (ev_var 3 rfl (.inl v_26_3) nd_54.1 nd_54.2) (av_nil))) nd_34.1))) (tv_or1 (tv_not (tv_val (ev_call (IH 18) (xo.hr.mono (Nat.le_succ _)) xo.tk g_26__law_same T.g18 T.F18.kp T.b18 (av_cons (ev_call (IH 12) (xo.hr.mono (Nat.le_succ _)) xo.tk g_26_size T.g12 T.F12.kp T.b12 (av_cons (ev_var 0 rfl (.inl v_26_0) nd_49.1 nd_49.2) (av_nil)) nd_18.1) (av_cons (ev_bi ov_len g_26_len T.z_len (by decide +kernel) (av_cons (ev_var 2 rfl (.inl v_26_2) nd_40.1 nd_40.2) (av_nil))) (av_nil))) nd_34.1))))))) (sv_one (sv_ret (ev_bl))) (sv_nil))
    (sv_cons (sv_set 7 (ev_ix xo.hu1 (ev_ix xo.hu1 (ev_var 5 rfl (.inl v_26_5) nd_32.1 nd_32.2) (ev_int)) (ev_int)) sc_26.nd rfl (.inl v_26_7) (hf := .inr v_26_7))
    (sv_cons (sv_expr (ev_mut PySem.F.slot_list_append PySem.F.type_list_append ov_append (ev_var 7 rfl (.inl v_26_7) nd_57.1 nd_57.2) (av_cons (ev_tup (av_cons (ev_str) (av_cons (ev_var 0 rfl (.inl v_26_0) nd_49.1 nd_49.2) (av_nil)))) (av_nil))))
    (sv_cons (sv_if (tv_not (tv_val (ev_call (IH 18) (xo.hr.mono (Nat.le_succ _)) xo.tk g_26__law_same T.g18 T.F18.kp T.b18 (av_cons (ev_slM (ev_var 5 rfl (.inl v_26_5) nd_32.1 nd_32.2) (ov_so (ev_int)) ov_no) (av_cons (ev_sl xo.calm (ev_var 1 rfl (.inl v_26_1) nd_33.1 nd_33.2) (ov_so (ev_int)) ov_no) (av_nil))) nd_34.1))) (sv_one (sv_ret (ev_bl))) (sv_nil))
    (sv_cons (sv_forM 1000000 xo.hp xo.calm (ev_var 5 rfl (.inl v_26_5) nd_32.1 nd_32.2) (gv_name 8 sc_26.nd rfl (.inl v_26_8) (hf := .inr v_26_8)) (sv_cons (sv_set 9 (ev_ix xo.hu1 (ev_var 8 rfl (.inl v_26_8) nd_53.1 nd_53.2) (ev_int)) sc_26.nd rfl (.inl v_26_9) (hf := .inr v_26_9))
    (sv_one (sv_expr (ev_mut PySem.F.slot_list_append PySem.F.type_list_append ov_append (ev_var 9 rfl (.inl v_26_9) nd_56.1 nd_56.2) (av_cons (ev_tup (av_cons (ev_str) (av_cons (ev_var 0 rfl (.inl v_26_0) nd_49.1 nd_49.2) (av_nil)))) (av_nil)))))))
    (sv_cons (sv_expr (ev_mut PySem.F.slot_list_append PySem.F.type_list_append ov_append (ev_var 5 rfl (.inl v_26_5) nd_32.1 nd_32.2) (av_cons (ev_tup (av_cons (ev_lst (av_nil)) (av_cons (ev_str) (av_nil)))) (av_nil))))
    (sv_cons (sv_expr (ev_mut PySem.F.slot_list_insert PySem.F.type_list_insert ov_insert (ev_var 6 rfl (.inl v_26_6) nd_55.1 nd_55.2) (av_cons (ev_int) (av_cons (ev_str) (av_nil)))))
    (sv_cons (sv_if (tv_pw (tv_or (tv_not (tv_val (ev_call (IH 18) (xo.hr.mono (Nat.le_succ _)) xo.tk g_26__law_same T.g18 T.F18.kp T.b18 (av_cons (ev_call (IH 14) (xo.hr.mono (Nat.le_succ _)) xo.tk g_26_legs T.g14 T.F14.kp T.b14 (av_cons (ev_var 0 rfl (.inl v_26_0) nd_49.1 nd_49.2) (av_nil)) nd_22.1) (av_cons (ev_var 1 rfl (.inl v_26_1) nd_33.1 nd_33.2) (av_nil))) nd_34.1))) (tv_or1 (tv_not (tv_val (ev_call (IH 18) (xo.hr.mono (Nat.le_succ _)) xo.tk g_26__law_same T.g18 T.F18.kp T.b18 (av_cons (ev_call (IH 13) (xo.hr.mono (Nat.le_succ _)) xo.tk g_26_words_in T.g13 T.F13.kp T.b13 (av_cons (ev_var 0 rfl (.inl v_26_0) nd_49.1 nd_49.2) (av_nil)) nd_21.1) (av_cons (ev_var 3 rfl (.inl v_26_3) nd_54.1 nd_54.2) (av_nil))) nd_34.1)))))) (sv_one (sv_ret (ev_bl))) (sv_nil))
    (sv_one (sv_ret (ev_call (IH 18) (xo.hr.mono (Nat.le_succ _)) xo.tk g_26__law_same T.g18 T.F18.kp T.b18 (av_cons (ev_call (IH 12) (xo.hr.mono (Nat.le_succ _)) xo.tk g_26_size T.g12 T.F12.kp T.b12 (av_cons (ev_var 0 rfl (.inl v_26_0) nd_49.1 nd_49.2) (av_nil)) nd_18.1) (av_cons (ev_bi ov_len g_26_len T.z_len (by decide +kernel) (av_cons (ev_var 2 rfl (.inl v_26_2) nd_40.1 nd_40.2) (av_nil))) (av_nil))) nd_34.1))))))))))))))))
theorem ok_27 {k : Nat} (T : Txt w K mg cl fa fd) (IH : IHt P w K mg base cl fa fd k) : FnOk P w K mg base (L2N.CX P w) (2 * k + 3 + 1) (fa 27) (fd 27) ["_law_sentence_here"] (SpR K cl (runF 1 3 (B27 (tb k)))) :=
  fn_ok T.F27 sc_27 rfl rfl fun cdv A outer s H E xo =>
    sv_cons (sv_if (tv_cmp (ov_eq xo.hu) (ev_ix xo.hu1 (ev_var 0 rfl (.inl v_27_0) nd_49.1 nd_49.2) (ev_int)) (ev_str)) (sv_one (sv_ret (ev_call (IH 8) (xo.hr.mono (Nat.le_succ _)) xo.tk g_27_word T.g8 T.F8.kp T.b8 (av_cons (ev_ix xo.hu1 (ev_var 0 rfl (.inl v_27_0) nd_49.1 nd_49.2) (ev_int)) (av_nil)) nd_63.1))) (sv_nil))
    (sv_cons (sv_set 1 (ev_call (IH 27) (xo.hr.mono (Nat.le_succ _)) xo.tk g_27__law_through T.g27 T.F27.kp T.b27 (av_cons (ev_ix xo.hu1 (ev_var 0 rfl (.inl v_27_0) nd_49.1 nd_49.2) (ev_neg (ev_int))) (av_nil)) nd_62.1) sc_27.nd rfl (.inl v_27_1) (hf := .inr v_27_1))
    (sv_cons (sv_set 2 (ev_call (IH 27) (xo.hr.mono (Nat.le_succ _)) xo.tk g_27__law_through T.g27 T.F27.kp T.b27 (av_cons (ev_ix xo.hu1 (ev_var 0 rfl (.inl v_27_0) nd_49.1 nd_49.2) (ev_neg (ev_int))) (av_nil)) nd_62.1) sc_27.nd rfl (.inl v_27_2) (hf := .inr v_27_2))
    (sv_cons (sv_if (tv_cmp (ov_eq xo.hu) (ev_ix xo.hu1 (ev_var 0 rfl (.inl v_27_0) nd_49.1 nd_49.2) (ev_int)) (ev_str)) (sv_one (sv_ret (ev_call (IH 9) (xo.hr.mono (Nat.le_succ _)) xo.tk g_27_menu T.g9 T.F9.kp T.b9 (av_cons (ev_var 1 rfl (.inl v_27_1) nd_45.1 nd_45.2) (av_cons (ev_var 2 rfl (.inl v_27_2) nd_46.1 nd_46.2) (av_nil))) nd_61.1))) (sv_nil))
    (sv_cons (sv_if (tv_cmp (ov_eq xo.hu) (ev_ix xo.hu1 (ev_var 0 rfl (.inl v_27_0) nd_49.1 nd_49.2) (ev_int)) (ev_str)) (sv_one (sv_ret (ev_callD (IH 10) (xo.hr.mono (Nat.le_succ _)) xo.tk g_27_trade T.g10 T.F10.kp T.bd10_1 (by decide +kernel) (av_cons (ev_var 1 rfl (.inl v_27_1) nd_45.1 nd_45.2) (av_cons (ev_var 2 rfl (.inl v_27_2) nd_46.1 nd_46.2) (av_nil))) nd_60.1))) (sv_nil))
    (sv_one (sv_ret (ev_callN (IH 10) (xo.hr.mono (Nat.le_succ _)) xo.tk g_27_trade T.g10 T.F10.kp T.kw10 (av_cons (ev_var 1 rfl (.inl v_27_1) nd_45.1 nd_45.2) (av_cons (ev_var 2 rfl (.inl v_27_2) nd_46.1 nd_46.2) (av_nil))) (kv_cons (ev_ix xo.hu1 (ev_var 0 rfl (.inl v_27_0) nd_49.1 nd_49.2) (ev_int)) (kv_nil)) nd_60.1)))))))
theorem ok_28 {k : Nat} (T : Txt w K mg cl fa fd) (IH : IHt P w K mg base cl fa fd k) (HI : HotT P w K mg base cl fa fd k) : FnOk P w K mg base (L2N.CX P w) (2 * k + 3 + 1) (fa 28) (fd 28) ["_law_name_here"] (SpR K cl (runF 1 2 (B28 (tb k)))) :=
  fn_ok T.F28 sc_28 rfl rfl fun cdv A outer s H E xo =>
    sv_cons (sv_tryAs 1 rfl rfl sc_28.nd rfl v_28_1 ⟨g_28_BadName, nd_9.1, .inl T.gC1⟩ xo.tk (okF_all T.exm_BadName) (fun W pn xe tk pa => have xo := XOk.tr xo tk pa; sv_one (sv_expr (ev_call (IH 8) (xo.hr.mono (Nat.le_succ _)) xo.tk g_28_word T.g8 T.F8.kp T.b8 (av_cons (ev_var 0 rfl (.inl v_28_0) nd_35.1 nd_35.2) (av_nil)) nd_63.1))) (fun ex a oe cls dd pn hz hf => have xo := XOk.suite (a := a) (pn := pn) xo hz hf; sv_cons (sv_if (tv_val (ev_xis (okF_dom T.errs) (okF_all T.kit_BadKind_NameTaken_UnknownName_TextError_NotSimple) hz.zc hf rfl (.inl v_28_1) g_28_isinstance T.z_isinstance (cs := [.ref (cl 4), .ref (cl 2), .ref (cl 3), .ref (cl 5), .ref (cl 6)]) (pa_cons (pe_glob (v := .ref (cl 4)) g_28_BadKind T.gC4 rfl nd_16.1) (pa_cons (pe_glob (v := .ref (cl 2)) g_28_NameTaken T.gC2 rfl nd_69.1) (pa_cons (pe_glob (v := .ref (cl 3)) g_28_UnknownName T.gC3 rfl nd_68.1) (pa_cons (pe_glob (v := .ref (cl 5)) g_28_TextError T.gC5 rfl nd_67.1) (pa_cons (pe_glob (v := .ref (cl 6)) g_28_NotSimple T.gC6 rfl nd_66.1) (pa_nil)))))) (.cons (.own _) (.cons (.own _) (.cons (.own _) (.cons (.own _) (.cons (.own _) (.nil)))))) (by simp) nd_64.1 nd_64.2)) (sv_one (sv_ret (ev_bl))) (sv_nil))
    (sv_one (sv_ret (ev_and (ev_xi (okF_dom T.errs) (okF_all T.kit_HeldError) hz.zc hf rfl (.inl v_28_1) g_28_isinstance T.z_isinstance (pe_glob (v := .ref (cl 0)) g_28_HeldError T.gC0 rfl nd_65.1) (.own _) nd_64.1 nd_64.2) (ev_and (ev_xi (okF_dom T.errs) (okF_all T.kit_ValueError) hz.zc hf rfl (.inl v_28_1) g_28_isinstance T.z_isinstance (pe_bltn (v := .ty "ValueError") g_28_ValueError T.z_ValueError (by decide +kernel) rfl (by decide +kernel) (by decide +kernel)) (.ty _) nd_64.1 nd_64.2) (ev_one (ev_callH HI.h18 (xo.hr.mono (Nat.le_succ _)) xo.hot xo.tk g_28__law_same T.g18 T.F18.kp T.b18 (av_cons (ev_xf T.xf_name hz.zc hf rfl (.inl v_28_1) nd_64.1 nd_64.2) (av_cons (ev_var 0 rfl (.inl v_28_0) nd_35.1 nd_35.2) (av_nil))) nd_34.1))))))))
    (sv_one (sv_ret (ev_bl)))
theorem ok_29 {k : Nat} (T : Txt w K mg cl fa fd) (IH : IHt P w K mg base cl fa fd k) (HI : HotT P w K mg base cl fa fd k) : FnOk P w K mg base (L2N.CX P w) (2 * k + 3 + 1) (fa 29) (fd 29) ["_law_value", "_law_one", "_law_two"] (SpR K cl (runF 3 4 (B29 (tb k)))) :=
  fn_ok T.F29 sc_29 rfl rfl fun cdv A outer s H E xo =>
    sv_cons (sv_tryAs 3 rfl rfl sc_29.nd rfl v_29_3 ⟨g_29_BadKind, nd_16.1, .inl T.gC4⟩ xo.tk (okF_all T.exm_BadKind) (fun W pn xe tk pa => have xo := XOk.tr xo tk pa; sv_one (sv_expr (ev_callN (IH 10) (xo.hr.mono (Nat.le_succ _)) xo.tk g_29_trade T.g10 T.F10.kp T.kw10 (av_cons (ev_var 1 rfl (.inl v_29_1) nd_45.1 nd_45.2) (av_cons (ev_var 2 rfl (.inl v_29_2) nd_46.1 nd_46.2) (av_nil))) (kv_cons (ev_var 0 rfl (.inl v_29_0) nd_70.1 nd_70.2) (kv_nil)) nd_60.1))) (fun ex a oe cls dd pn hz hf => have xo := XOk.suite (a := a) (pn := pn) xo hz hf; sv_cons (sv_if (tv_val (ev_xis (okF_dom T.errs) (okF_all T.kit_BadName_NameTaken_UnknownName_TextError_NotSimple) hz.zc hf rfl (.inl v_29_3) g_29_isinstance T.z_isinstance (cs := [.ref (cl 1), .ref (cl 2), .ref (cl 3), .ref (cl 5), .ref (cl 6)]) (pa_cons (pe_glob (v := .ref (cl 1)) g_29_BadName T.gC1 rfl nd_9.1) (pa_cons (pe_glob (v := .ref (cl 2)) g_29_NameTaken T.gC2 rfl nd_69.1) (pa_cons (pe_glob (v := .ref (cl 3)) g_29_UnknownName T.gC3 rfl nd_68.1) (pa_cons (pe_glob (v := .ref (cl 5)) g_29_TextError T.gC5 rfl nd_67.1) (pa_cons (pe_glob (v := .ref (cl 6)) g_29_NotSimple T.gC6 rfl nd_66.1) (pa_nil)))))) (.cons (.own _) (.cons (.own _) (.cons (.own _) (.cons (.own _) (.cons (.own _) (.nil)))))) (by simp) nd_64.1 nd_64.2)) (sv_one (sv_ret (ev_bl))) (sv_nil))
    (sv_one (sv_ret (ev_and (ev_xi (okF_dom T.errs) (okF_all T.kit_HeldError) hz.zc hf rfl (.inl v_29_3) g_29_isinstance T.z_isinstance (pe_glob (v := .ref (cl 0)) g_29_HeldError T.gC0 rfl nd_65.1) (.own _) nd_64.1 nd_64.2) (ev_and (ev_xi (okF_dom T.errs) (okF_all T.kit_ValueError) hz.zc hf rfl (.inl v_29_3) g_29_isinstance T.z_isinstance (pe_bltn (v := .ty "ValueError") g_29_ValueError T.z_ValueError (by decide +kernel) rfl (by decide +kernel) (by decide +kernel)) (.ty _) nd_64.1 nd_64.2) (ev_one (ev_callH HI.h18 (xo.hr.mono (Nat.le_succ _)) xo.hot xo.tk g_29__law_same T.g18 T.F18.kp T.b18 (av_cons (ev_xf T.xf_kind hz.zc hf rfl (.inl v_29_3) nd_64.1 nd_64.2) (av_cons (ev_var 0 rfl (.inl v_29_0) nd_70.1 nd_70.2) (av_nil))) nd_34.1))))))))
    (sv_one (sv_ret (ev_bl)))
theorem ok_30 {k : Nat} (T : Txt w K mg cl fa fd) (IH : IHt P w K mg base cl fa fd k) (HI : HotT P w K mg base cl fa fd k) : FnOk P w K mg base (L2N.CX P w) (2 * k + 3 + 1) (fa 30) (fd 30) ["_law_name_here", "_law_one", "_law_two"] (SpR K cl (runF 3 5 (B30 (tb k)))) :=
  fn_ok T.F30 sc_30 rfl rfl fun cdv A outer s H E xo =>
    sv_cons (sv_set 3 (ev_int) sc_30.nd rfl (.inl v_30_3) (hf := .inr v_30_3))
    (sv_cons (sv_tryAs 4 rfl rfl sc_30.nd rfl v_30_4 ⟨g_30_HeldError, nd_65.1, .inl T.gC0⟩ xo.tk (okF_all T.exm_HeldError) (fun W pn xe tk pa => have xo := XOk.tr xo tk pa; sv_one (sv_expr (ev_call (IH 8) (xo.hr.mono (Nat.le_succ _)) xo.tk g_30_word T.g8 T.F8.kp T.b8 (av_cons (ev_var 0 rfl (.inl v_30_0) nd_35.1 nd_35.2) (av_nil)) nd_63.1))) (fun ex a oe cls dd pn hz hf => have xo := XOk.suite (a := a) (pn := pn) xo hz hf; sv_one (sv_set 3 (ev_bin ov_add (ev_var 3 rfl (.inl v_30_3) nd_71.1 nd_71.2) (ev_ty ov_intc g_30_int T.z_int (by decide +kernel) (av_cons (ev_xi (okF_dom T.errs) (okF_all T.kit_BadName) hz.zc hf rfl (.inl v_30_4) g_30_isinstance T.z_isinstance (pe_glob (v := .ref (cl 1)) g_30_BadName T.gC1 rfl nd_9.1) (.own _) nd_64.1 nd_64.2) (av_nil)))) sc_30.nd rfl (.inl v_30_3) (hf := .inr v_30_3))))
    (sv_cons (sv_tryAs 4 rfl rfl sc_30.nd rfl v_30_4 ⟨g_30_HeldError, nd_65.1, .inl T.gC0⟩ xo.tk (okF_all T.exm_HeldError) (fun W pn xe tk pa => have xo := XOk.tr xo tk pa; sv_one (sv_expr (ev_callN (IH 10) (xo.hr.mono (Nat.le_succ _)) xo.tk g_30_trade T.g10 T.F10.kp T.kw10 (av_cons (ev_var 1 rfl (.inl v_30_1) nd_45.1 nd_45.2) (av_cons (ev_var 2 rfl (.inl v_30_2) nd_46.1 nd_46.2) (av_nil))) (kv_cons (ev_var 0 rfl (.inl v_30_0) nd_35.1 nd_35.2) (kv_nil)) nd_60.1))) (fun ex a oe cls dd pn hz hf => have xo := XOk.suite (a := a) (pn := pn) xo hz hf; sv_one (sv_set 3 (ev_bin ov_add (ev_var 3 rfl (.inl v_30_3) nd_71.1 nd_71.2) (ev_ty ov_intc g_30_int T.z_int (by decide +kernel) (av_cons (ev_xi (okF_dom T.errs) (okF_all T.kit_BadKind) hz.zc hf rfl (.inl v_30_4) g_30_isinstance T.z_isinstance (pe_glob (v := .ref (cl 4)) g_30_BadKind T.gC4 rfl nd_16.1) (.own _) nd_64.1 nd_64.2) (av_nil)))) sc_30.nd rfl (.inl v_30_3) (hf := .inr v_30_3))))
    (sv_one (sv_ret (ev_cmp (ov_eq xo.hu) (ev_var 3 rfl (.inl v_30_3) nd_71.1 nd_71.2) (ev_int))))))
theorem ok_31 {k : Nat} (T : Txt w K mg cl fa fd) (IH : IHt P w K mg base cl fa fd k) : FnOk P w K mg base (L2N.CX P w) (2 * k + 3 + 1) (fa 31) (fd 31) ["_law_script"] (SpR K cl (runF 1 12 (B31 (tb k)))) :=
  fn_ok T.F31 sc_31 rfl rfl fun cdv A outer s H E xo =>
    sv_cons (sv_set 1 (ev_callK (IH 16) (xo.hr.mono (Nat.le_succ _)) xo.tk g_31__law_pool T.g16 T.F16.kp T.b16 (av_cons (ev_var 0 rfl (.inl v_31_0) nd_25.1 nd_25.2) (av_cons (ev_int) (av_nil))) nd_83.1) sc_31.nd rfl (.inl v_31_1) (hf := .inr v_31_1))
    (sv_cons (sv_set 2 (ev_lstM (av_nil)) sc_31.nd rfl (.inl v_31_2) (hf := .inr v_31_2))
    (sv_cons (sv_forR1 xo.hp xo.calm g_31_range T.z_range (av_cons (ev_bin ov_add (ev_int) (ev_call (IH 17) (xo.hr.mono (Nat.le_succ _)) xo.tk g_31__law_next T.g17 T.F17.kp T.b17 (av_cons (ev_var 1 rfl (.inl v_31_1) nd_30.1 nd_30.2) (av_cons (ev_int) (av_nil))) nd_37.1)) (av_nil)) (gv_name 3 sc_31.nd rfl (.inl v_31_3) (hf := .inr v_31_3)) (sv_one (sv_expr (ev_mut PySem.F.slot_list_append PySem.F.type_list_append ov_append (ev_var 2 rfl (.inl v_31_2) nd_40.1 nd_40.2) (av_cons (ev_call (IH 19) (xo.hr.mono (Nat.le_succ _)) xo.tk g_31__law_name T.g19 T.F19.kp T.b19 (av_cons (ev_var 1 rfl (.inl v_31_1) nd_30.1 nd_30.2) (av_cons (ev_var 2 rfl (.inl v_31_2) nd_40.1 nd_40.2) (av_nil))) nd_82.1) (av_nil))))))
    (sv_cons (sv_set 4 (ev_call (IH 23) (xo.hr.mono (Nat.le_succ _)) xo.tk g_31__law_sentence T.g23 T.F23.kp T.b23 (av_cons (ev_var 1 rfl (.inl v_31_1) nd_30.1 nd_30.2) (av_cons (ev_var 2 rfl (.inl v_31_2) nd_40.1 nd_40.2) (av_nil))) nd_81.1) sc_31.nd rfl (.inl v_31_4) (hf := .inr v_31_4))
    (sv_cons (sv_set 5 (ev_call (IH 23) (xo.hr.mono (Nat.le_succ _)) xo.tk g_31__law_sentence T.g23 T.F23.kp T.b23 (av_cons (ev_var 1 rfl (.inl v_31_1) nd_30.1 nd_30.2) (av_cons (ev_var 2 rfl (.inl v_31_2) nd_40.1 nd_40.2) (av_nil))) nd_81.1) sc_31.nd rfl (.inl v_31_5) (hf := .inr v_31_5))
    (sv_cons (sv_set 6 (ev_call (IH 21) (xo.hr.mono (Nat.le_succ _)) xo.tk g_31__law_mode T.g21 T.F21.kp T.b21 (av_cons (ev_var 1 rfl (.inl v_31_1) nd_30.1 nd_30.2) (av_nil)) nd_44.1) sc_31.nd rfl (.inl v_31_6) (hf := .inr v_31_6))
    (sv_cons (sv_for xo.hp xo.calm (ev_lst (av_cons (ev_var 4 rfl (.inl v_31_4) nd_45.1 nd_45.2) (av_cons (ev_var 5 rfl (.inl v_31_5) nd_46.1 nd_46.2) (av_cons (ev_tup (av_cons (ev_str) (av_cons (ev_var 4 rfl (.inl v_31_4) nd_45.1 nd_45.2) (av_cons (ev_var 4 rfl (.inl v_31_4) nd_45.1 nd_45.2) (av_nil))))) (av_cons (ev_tup (av_cons (ev_str) (av_cons (ev_var 6 rfl (.inl v_31_6) nd_80.1 nd_80.2) (av_cons (ev_var 4 rfl (.inl v_31_4) nd_45.1 nd_45.2) (av_cons (ev_var 5 rfl (.inl v_31_5) nd_46.1 nd_46.2) (av_nil)))))) (av_cons (ev_var 4 rfl (.inl v_31_4) nd_45.1 nd_45.2) (av_nil))))))) (gv_name 7 sc_31.nd rfl (.inl v_31_7) (hf := .inr v_31_7)) (sv_one (sv_if (tv_pw (tv_or (tv_not (tv_val (ev_call (IH 26) (xo.hr.mono (Nat.le_succ _)) xo.tk g_31__law_tells T.g26 T.F26.kp T.b26 (av_cons (ev_var 7 rfl (.inl v_31_7) nd_49.1 nd_49.2) (av_nil)) nd_79.1))) (tv_or1 (tv_not (tv_val (ev_call (IH 18) (xo.hr.mono (Nat.le_succ _)) xo.tk g_31__law_same T.g18 T.F18.kp T.b18 (av_cons (ev_call (IH 27) (xo.hr.mono (Nat.le_succ _)) xo.tk g_31__law_through T.g27 T.F27.kp T.b27 (av_cons (ev_var 7 rfl (.inl v_31_7) nd_49.1 nd_49.2) (av_nil)) nd_62.1) (av_cons (ev_var 7 rfl (.inl v_31_7) nd_49.1 nd_49.2) (av_nil))) nd_34.1)))))) (sv_one (sv_ret (ev_bl))) (sv_nil))))
    (sv_cons (sv_if (tv_not (tv_val (ev_call (IH 18) (xo.hr.mono (Nat.le_succ _)) xo.tk g_31__law_same T.g18 T.F18.kp T.b18 (av_cons (ev_callN (IH 10) (xo.hr.mono (Nat.le_succ _)) xo.tk g_31_trade T.g10 T.F10.kp T.kw10 (av_cons (ev_var 5 rfl (.inl v_31_5) nd_46.1 nd_46.2) (av_cons (ev_var 4 rfl (.inl v_31_4) nd_45.1 nd_45.2) (av_nil))) (kv_cons (ev_str) (kv_nil)) nd_60.1) (av_cons (ev_tup (av_cons (ev_str) (av_cons (ev_str) (av_cons (ev_var 5 rfl (.inl v_31_5) nd_46.1 nd_46.2) (av_cons (ev_var 4 rfl (.inl v_31_4) nd_45.1 nd_45.2) (av_nil)))))) (av_nil))) nd_34.1))) (sv_one (sv_ret (ev_bl))) (sv_nil))
    (sv_cons (sv_set 8 (ev_call (IH 20) (xo.hr.mono (Nat.le_succ _)) xo.tk g_31__law_bad_name T.g20 T.F20.kp T.b20 (av_cons (ev_var 1 rfl (.inl v_31_1) nd_30.1 nd_30.2) (av_cons (ev_ix xo.hu1 (ev_var 2 rfl (.inl v_31_2) nd_40.1 nd_40.2) (ev_neg (ev_int))) (av_nil))) nd_78.1) sc_31.nd rfl (.inl v_31_8) (hf := .inr v_31_8))
    (sv_cons (sv_if (tv_pw (tv_or (tv_not (tv_val (ev_call (IH 28) (xo.hr.mono (Nat.le_succ _)) xo.tk g_31__law_name_refused T.g28 T.F28.kp T.b28 (av_cons (ev_var 8 rfl (.inl v_31_8) nd_75.1 nd_75.2) (av_nil)) nd_77.1))) (tv_or1 (tv_not (tv_val (ev_call (IH 30) (xo.hr.mono (Nat.le_succ _)) xo.tk g_31__law_refused_at_all T.g30 T.F30.kp T.b30 (av_cons (ev_var 8 rfl (.inl v_31_8) nd_75.1 nd_75.2) (av_cons (ev_var 4 rfl (.inl v_31_4) nd_45.1 nd_45.2) (av_cons (ev_var 5 rfl (.inl v_31_5) nd_46.1 nd_46.2) (av_nil)))) nd_76.1)))))) (sv_one (sv_ret (ev_bl))) (sv_nil))
    (sv_cons (sv_set 9 (ev_lst (av_cons (ev_non) (av_cons (ev_int) (av_cons (ev_bl) (av_cons (ev_str) (av_cons (ev_str) (av_cons (ev_str) (av_cons (ev_tup (av_nil)) (av_cons (ev_lst (av_nil)) (av_cons (ev_tup (av_cons (ev_str) (av_nil))) (av_cons (ev_tup (av_cons (ev_int) (av_nil))) (av_cons (ev_tup (av_cons (ev_int) (av_cons (ev_int) (av_cons (ev_int) (av_nil))))) (av_cons (ev_lst (av_cons (ev_int) (av_cons (ev_int) (av_nil)))) (av_cons (ev_tup (av_cons (ev_int) (av_cons (ev_int) (av_nil)))) (av_cons (ev_tup (av_cons (ev_neg (ev_int)) (av_cons (ev_int) (av_nil)))) (av_cons (ev_tup (av_cons (ev_int) (av_cons (ev_neg (ev_int)) (av_nil)))) (av_nil))))))))))))))))) sc_31.nd rfl (.inl v_31_9) (hf := .inr v_31_9))
    (sv_cons (sv_set 9 (ev_bin ov_add (ev_var 9 rfl (.inl v_31_9) nd_74.1 nd_74.2) (ev_lst (av_cons (ev_tup (av_cons (ev_bl) (av_cons (ev_int) (av_nil)))) (av_cons (ev_tup (av_cons (ev_int) (av_cons (ev_bl) (av_nil)))) (av_cons (ev_tup (av_cons (ev_str) (av_cons (ev_int) (av_nil)))) (av_cons (ev_tup (av_cons (ev_int) (av_cons (ev_str) (av_nil)))) (av_cons (ev_tup (av_cons (ev_tup (av_cons (ev_int) (av_cons (ev_int) (av_nil)))) (av_cons (ev_int) (av_nil)))) (av_cons (ev_tup (av_cons (ev_non) (av_cons (ev_int) (av_nil)))) (av_nil))))))))) sc_31.nd rfl (.inl v_31_9) (hf := .inr v_31_9))
    (sv_cons (sv_for xo.hp xo.calm (ev_var 9 rfl (.inl v_31_9) nd_74.1 nd_74.2) (gv_name 10 sc_31.nd rfl (.inl v_31_10) (hf := .inr v_31_10)) (sv_one (sv_if (tv_not (tv_val (ev_call (IH 29) (xo.hr.mono (Nat.le_succ _)) xo.tk g_31__law_kind_refused T.g29 T.F29.kp T.b29 (av_cons (ev_var 10 rfl (.inl v_31_10) nd_70.1 nd_70.2) (av_cons (ev_var 4 rfl (.inl v_31_4) nd_45.1 nd_45.2) (av_cons (ev_var 5 rfl (.inl v_31_5) nd_46.1 nd_46.2) (av_nil)))) nd_73.1))) (sv_one (sv_ret (ev_bl))) (sv_nil))))
    (sv_cons (sv_set 11 (ev_sl xo.calm (ev_bin ov_add (ev_ix xo.hu1 (ev_var 2 rfl (.inl v_31_2) nd_40.1 nd_40.2) (ev_int)) (ev_str)) ov_no (ov_so (ev_int))) sc_31.nd rfl (.inl v_31_11) (hf := .inr v_31_11))
    (sv_one (sv_ret (ev_and (ev_call (IH 18) (xo.hr.mono (Nat.le_succ _)) xo.tk g_31__law_same T.g18 T.F18.kp T.b18 (av_cons (ev_call (IH 8) (xo.hr.mono (Nat.le_succ _)) xo.tk g_31_word T.g8 T.F8.kp T.b8 (av_cons (ev_var 11 rfl (.inl v_31_11) nd_72.1 nd_72.2) (av_nil)) nd_63.1) (av_cons (ev_tup (av_cons (ev_str) (av_cons (ev_var 11 rfl (.inl v_31_11) nd_72.1 nd_72.2) (av_nil)))) (av_nil))) nd_34.1) (ev_one (ev_call (IH 18) (xo.hr.mono (Nat.le_succ _)) xo.tk g_31__law_same T.g18 T.F18.kp T.b18 (av_cons (ev_call (IH 8) (xo.hr.mono (Nat.le_succ _)) xo.tk g_31_word T.g8 T.F8.kp T.b8 (av_cons (ev_sl xo.calm (ev_var 11 rfl (.inl v_31_11) nd_72.1 nd_72.2) ov_no (ov_so (ev_int))) (av_nil)) nd_63.1) (av_cons (ev_tup (av_cons (ev_str) (av_cons (ev_sl xo.calm (ev_var 11 rfl (.inl v_31_11) nd_72.1 nd_72.2) ov_no (ov_so (ev_int))) (av_nil)))) (av_nil))) nd_34.1))))))))))))))))))
theorem ok_32 {k : Nat} (T : Txt w K mg cl fa fd) (IH : IHt P w K mg base cl fa fd k) : FnOk P w K mg base (L2N.CX P w) (2 * k + 3 + 1) (fa 32) (fd 32) ["sentence"] (SpR K cl (runF 1 4 (B32 (tb k)))) :=
  fn_ok T.F32 sc_32 rfl rfl fun cdv A outer s H E xo =>
    sv_cons (sv_if (tv_cmp (ov_eq xo.hu) (ev_ix xo.hu1 (ev_var 0 rfl (.inl v_32_0) nd_17.1 nd_17.2) (ev_int)) (ev_str)) (sv_one (sv_ret (ev_lstM (av_cons (ev_tupM (av_cons (ev_lstM (av_nil)) (av_cons (ev_ix xo.hu1 (ev_var 0 rfl (.inl v_32_0) nd_17.1 nd_17.2) (ev_int)) (av_nil)))) (av_nil))))) (sv_nil))
    (sv_cons (sv_if (tv_cmp (ov_eq xo.hu) (ev_ix xo.hu1 (ev_var 0 rfl (.inl v_32_0) nd_17.1 nd_17.2) (ev_int)) (ev_str)) (sv_one (sv_ret (ev_catM (ev_callK (IH 32) (xo.hr.mono (Nat.le_succ _)) xo.tk g_32_legs T.g32 T.F32.kp T.b32 (av_cons (ev_ix xo.hu1 (ev_var 0 rfl (.inl v_32_0) nd_17.1 nd_17.2) (ev_int)) (av_nil)) nd_22.1) (ev_callK (IH 32) (xo.hr.mono (Nat.le_succ _)) xo.tk g_32_legs T.g32 T.F32.kp T.b32 (av_cons (ev_ix xo.hu1 (ev_var 0 rfl (.inl v_32_0) nd_17.1 nd_17.2) (ev_int)) (av_nil)) nd_22.1)))) (sv_nil))
    (sv_cons (sv_set 1 (ev_tup (av_cons (ev_ix xo.hu1 (ev_var 0 rfl (.inl v_32_0) nd_17.1 nd_17.2) (ev_int)) (av_cons (ev_ix xo.hu1 (ev_var 0 rfl (.inl v_32_0) nd_17.1 nd_17.2) (ev_int)) (av_nil)))) sc_32.nd rfl (.inr v_32_1) (hf := .inl rfl))
    (sv_one (sv_ret (ev_lc fi_finK xo.calm sc_32.nd (blkOk_by (N := ["sentence", "price", "prices", "name"]) (sc := defScope (top 22)) (own := [("prices", 2), ("name", 3)]) (by decide +kernel)) rfl (ev_call (IH 14) (xo.hr.mono (Nat.le_succ _)) xo.tk g_32_legs T.g14 T.F14.kp T.b14 (av_cons (ev_ix xo.hu1 (ev_var 0 rfl (.inl v_32_0) nd_17.1 nd_17.2) (ev_int)) (av_nil)) nd_22.1) (fun _ _ _ _ _ => gw_tup xo.calm (gws_cons (gw_name 2 sc_32.nd rfl (blk_loc (by decide +kernel))) (gws_cons (gw_name 3 sc_32.nd rfl (blk_loc (by decide +kernel))) (gws_nil)))) (fun _ _ _ _ _ => ptv_nil) (fun _ _ _ _ _ => ev_tupM (av_cons (ev_catM (ev_lstM (av_cons (ev_var 1 rfl (blk_vis (by decide +kernel)) nd_13.1 nd_13.2) (av_nil))) (ev_var 2 rfl (.inl (blk_loc (by decide +kernel))) nd_23.1 nd_23.2)) (av_cons (ev_var 3 rfl (.inl (blk_loc (by decide +kernel))) nd_7.1 nd_7.2) (av_nil)))))))))
theorem all_ok (T : Txt w K mg cl fa fd) : ∀ k, IHt P w K mg base cl fa fd k
  | 0, i => fn_bad fun _ _ _ => rfl
  | k + 1, 0 => fn_bad fun _ _ _ => rfl
  | k + 1, 1 => fn_bad fun _ _ _ => rfl
  | k + 1, 2 => fn_bad fun _ _ _ => rfl
  | k + 1, 3 => fn_bad fun _ _ _ => rfl
  | k + 1, 4 => fn_bad fun _ _ _ => rfl
  | k + 1, 5 => ok_5 T (all_ok T k)
  | k + 1, 6 => ok_6 T (all_ok T k)
  | k + 1, 7 => ok_7 T (all_ok T k)
  | k + 1, 8 => ok_8 T (all_ok T k)
  | k + 1, 9 => ok_9 T (all_ok T k)
  | k + 1, 10 => ok_10 T (all_ok T k)
  | k + 1, 11 => ok_11 T (all_ok T k)
  | k + 1, 12 => ok_12 T (all_ok T k)
  | k + 1, 13 => ok_13 T (all_ok T k)
  | k + 1, 14 => ok_14 T (all_ok T k)
  | k + 1, 15 => ok_15 T (all_ok T k)
  | k + 1, 16 => ok_16 T (all_ok T k)
  | k + 1, 17 => ok_17 T (all_ok T k)
  | k + 1, 18 => ok_18 T (all_ok T k)
  | k + 1, 19 => ok_19 T (all_ok T k)
  | k + 1, 20 => ok_20 T (all_ok T k)
  | k + 1, 21 => ok_21 T (all_ok T k)
  | k + 1, 22 => ok_22 T (all_ok T k)
  | k + 1, 23 => ok_23 T (all_ok T k)
  | k + 1, 24 => ok_24 T (all_ok T k)
  | k + 1, 25 => ok_25 T (all_ok T k)
  | k + 1, 26 => ok_26 T (all_ok T k)
  | k + 1, 27 => ok_27 T (all_ok T k)
  | k + 1, 28 => ok_28 T (all_ok T k) (all_hot T k)
  | k + 1, 29 => ok_29 T (all_ok T k) (all_hot T k)
  | k + 1, 30 => ok_30 T (all_ok T k) (all_hot T k)
  | k + 1, 31 => ok_31 T (all_ok T k)
  | k + 1, 32 => ok_32 T (all_ok T k)
  | k + 1, i + 33 => fn_bad fun _ _ _ => rfl
end
/-! ### the end -/
set_option maxHeartbeats 0 in
theorem all_mk (hlaw : ∀ ns : List Int, ns.length ≤ 63 → ∃ S, tb 100 31 0 [.d (.lst (ns.map .int))] [] = .ok (.d (.bl true)) S) {l : PySem.W.OpenLaw} {w : World} {K : PySem.W.Frag} {h : Heap} {mg : Str → Option Value} {fa C0 C1 C2 C3 C4 C5 C6 f0 f1 f2 f3 f4 f5 f6 f7 f8 f9 f10 f11 f12 f13 f14 f15 f16 f17 f18 f19 f20 f21 f22 f23 f24 f25 f26 f27 f28 f29 f30 f31 kD10 : Addr} (X : K.In h) (G : h.Ns mainGlobals mg) (hfa : mg "law" = some (.ref fa))
    {od0 od1 od2 od3 od4 od5 od6 od7 od8 od9 od10 od11 od12 od13 od14 od15 od16 od17 od18 od19 od20 od21 od22 od23 od24 od25 od26 od27 od28 od29 od30 od31 an0 an1 an2 an3 an4 an5 an6 an7 an8 an9 an10 an11 an12 an13 an14 an15 an16 an17 an18 an19 an20 an21 an22 an23 an24 an25 an26 an27 an28 an29 an30 an31 : Option Addr} {sl0 sl1 sl2 sl3 sl4 sl5 sl6 sl7 sl8 sl9 sl10 sl11 sl12 sl13 sl14 sl15 sl16 sl17 sl18 sl19 sl20 sl21 sl22 sl23 sl24 sl25 sl26 sl27 sl28 sl29 sl30 sl31 : Array (Option Value)} {oc0 oc1 oc2 oc3 oc4 oc5 oc6 oc7 oc8 oc9 oc10 oc11 oc12 oc13 oc14 oc15 oc16 oc17 oc18 oc19 oc20 oc21 oc22 oc23 oc24 oc25 oc26 oc27 oc28 oc29 oc30 oc31 kV0 kV1 kV2 kV3 kV4 kV5 kV6 kV7 kV8 kV9 kV11 kV12 kV13 kV14 kV15 kV16 kV17 kV18 kV19 kV20 kV21 kV22 kV23 kV24 kV25 kV26 kV27 kV28 kV29 kV30 kV31 dc0 dc1 dc2 dc3 dc4 dc5 dc6 dc7 dc8 dc9 dc10 dc11 dc12 dc13 dc14 dc15 dc16 dc17 dc18 dc19 dc20 dc21 dc22 dc23 dc24 dc25 dc26 dc27 dc28 dc29 dc30 dc31 pm0 pm1 pm2 pm3 pm4 pm5 pm6 pm7 pm8 pm9 pm10 pm11 pm12 pm13 pm14 pm15 pm16 pm17 pm18 pm19 pm20 pm21 pm22 pm23 pm24 pm25 pm26 pm27 pm28 pm29 pm30 pm31 cd0 cd1 cd2 cd3 cd4 cd5 cd6 cd7 cd8 cd9 cd10 cd11 cd12 cd13 cd14 cd15 cd16 cd17 cd18 cd19 cd20 cd21 cd22 cd23 cd24 cd25 cd26 cd27 cd28 cd29 cd30 cd31 ct0 ct1 ct2 ct3 ct4 ct5 ct6 ct7 ct8 ct9 ct10 ct11 ct12 ct13 ct14 ct15 ct16 ct17 ct18 ct19 ct20 ct21 ct22 ct23 ct24 ct25 ct26 ct27 ct28 ct29 ct30 ct31 : Value}
    {kU10_kind gU_DIGITS gU_LETTERS gU_LONGEST_NAME : Value}
    {xnm1 xqn1 : Str} {xN1 : Addr} {xbs1 xbm1 : List Value} {xsn1 : List Str} {xsub1 : List Value} {xab1 : Bool} {xcol1 : Option Bool} {xdd1 : Option Addr} {xk0_1 xk1_1 xk2_1 xk3_1 xk5_1 : Option Value}
    {xnm4 xqn4 : Str} {xN4 : Addr} {xbs4 xbm4 : List Value} {xsn4 : List Str} {xsub4 : List Value} {xab4 : Bool} {xcol4 : Option Bool} {xdd4 : Option Addr} {xk0_4 xk1_4 xk2_4 xk3_4 xk5_4 : Option Value}
    (aC0 : PySem.W.nsIn K mainGlobals "HeldError" = some (some (.ref C0)))
    (aC1 : PySem.W.nsIn K mainGlobals "BadName" = some (some (.ref C1)))
    (aC2 : PySem.W.nsIn K mainGlobals "NameTaken" = some (some (.ref C2)))
    (aC3 : PySem.W.nsIn K mainGlobals "UnknownName" = some (some (.ref C3)))
    (aC4 : PySem.W.nsIn K mainGlobals "BadKind" = some (some (.ref C4)))
    (aC5 : PySem.W.nsIn K mainGlobals "TextError" = some (some (.ref C5)))
    (aC6 : PySem.W.nsIn K mainGlobals "NotSimple" = some (some (.ref C6)))
    (a0 : PySem.W.findIn K (.ref C1) "__init__" = some (some (.ref f0)))
    (i0 : PySem.W.isFn K (.ref f0) = true)
    (l0 : K.lookup f0 = some ⟨oc0, od0, .func (PySem.W.fnOf "__init__" "BadName.__init__" (defArgs (inClass (top 2) 0)) (defBody (inClass (top 2) 0)) (defScope (inClass (top 2) 0)) .none kV0 dc0 pm0 an0 cd0 ct0), sl0⟩)
    (c0 : PySem.W.codeIn K cd0 "BadName.__init__" = true)
    (k0 : PySem.W.keepIn K (.ref f0) = true)
    (a1 : PySem.W.findIn K (.ref C2) "__init__" = some (some (.ref f1)))
    (i1 : PySem.W.isFn K (.ref f1) = true)
    (l1 : K.lookup f1 = some ⟨oc1, od1, .func (PySem.W.fnOf "__init__" "NameTaken.__init__" (defArgs (inClass (top 3) 0)) (defBody (inClass (top 3) 0)) (defScope (inClass (top 3) 0)) .none kV1 dc1 pm1 an1 cd1 ct1), sl1⟩)
    (c1 : PySem.W.codeIn K cd1 "NameTaken.__init__" = true)
    (k1 : PySem.W.keepIn K (.ref f1) = true)
    (a2 : PySem.W.findIn K (.ref C3) "__init__" = some (some (.ref f2)))
    (i2 : PySem.W.isFn K (.ref f2) = true)
    (l2 : K.lookup f2 = some ⟨oc2, od2, .func (PySem.W.fnOf "__init__" "UnknownName.__init__" (defArgs (inClass (top 4) 0)) (defBody (inClass (top 4) 0)) (defScope (inClass (top 4) 0)) .none kV2 dc2 pm2 an2 cd2 ct2), sl2⟩)
    (c2 : PySem.W.codeIn K cd2 "UnknownName.__init__" = true)
    (k2 : PySem.W.keepIn K (.ref f2) = true)
    (a3 : PySem.W.findIn K (.ref C4) "__init__" = some (some (.ref f3)))
    (i3 : PySem.W.isFn K (.ref f3) = true)
    (l3 : K.lookup f3 = some ⟨oc3, od3, .func (PySem.W.fnOf "__init__" "BadKind.__init__" (defArgs (inClass (top 5) 0)) (defBody (inClass (top 5) 0)) (defScope (inClass (top 5) 0)) .none kV3 dc3 pm3 an3 cd3 ct3), sl3⟩)
    (c3 : PySem.W.codeIn K cd3 "BadKind.__init__" = true)
    (k3 : PySem.W.keepIn K (.ref f3) = true)
    (a4 : PySem.W.findIn K (.ref C5) "__init__" = some (some (.ref f4)))
    (i4 : PySem.W.isFn K (.ref f4) = true)
    (l4 : K.lookup f4 = some ⟨oc4, od4, .func (PySem.W.fnOf "__init__" "TextError.__init__" (defArgs (inClass (top 6) 0)) (defBody (inClass (top 6) 0)) (defScope (inClass (top 6) 0)) .none kV4 dc4 pm4 an4 cd4 ct4), sl4⟩)
    (c4 : PySem.W.codeIn K cd4 "TextError.__init__" = true)
    (k4 : PySem.W.keepIn K (.ref f4) = true)
    (a5 : PySem.W.nsIn K mainGlobals "is_number" = some (some (.ref f5)))
    (l5 : K.lookup f5 = some ⟨oc5, od5, .func (PySem.W.fnOf "is_number" "is_number" (defArgs (top 9)) (defBody (top 9)) (defScope (top 9)) .none kV5 dc5 pm5 an5 cd5 ct5), sl5⟩)
    (c5 : PySem.W.codeIn K cd5 "is_number" = true)
    (k5 : PySem.W.keepIn K (.ref f5) = true)
    (a6 : PySem.W.nsIn K mainGlobals "is_kind" = some (some (.ref f6)))
    (l6 : K.lookup f6 = some ⟨oc6, od6, .func (PySem.W.fnOf "is_kind" "is_kind" (defArgs (top 10)) (defBody (top 10)) (defScope (top 10)) .none kV6 dc6 pm6 an6 cd6 ct6), sl6⟩)
    (c6 : PySem.W.codeIn K cd6 "is_kind" = true)
    (k6 : PySem.W.keepIn K (.ref f6) = true)
    (a7 : PySem.W.nsIn K mainGlobals "is_name" = some (some (.ref f7)))
    (l7 : K.lookup f7 = some ⟨oc7, od7, .func (PySem.W.fnOf "is_name" "is_name" (defArgs (top 15)) (defBody (top 15)) (defScope (top 15)) .none kV7 dc7 pm7 an7 cd7 ct7), sl7⟩)
    (c7 : PySem.W.codeIn K cd7 "is_name" = true)
    (k7 : PySem.W.keepIn K (.ref f7) = true)
    (a8 : PySem.W.nsIn K mainGlobals "word" = some (some (.ref f8)))
    (l8 : K.lookup f8 = some ⟨oc8, od8, .func (PySem.W.fnOf "word" "word" (defArgs (top 16)) (defBody (top 16)) (defScope (top 16)) .none kV8 dc8 pm8 an8 cd8 ct8), sl8⟩)
    (c8 : PySem.W.codeIn K cd8 "word" = true)
    (k8 : PySem.W.keepIn K (.ref f8) = true)
    (a9 : PySem.W.nsIn K mainGlobals "menu" = some (some (.ref f9)))
    (l9 : K.lookup f9 = some ⟨oc9, od9, .func (PySem.W.fnOf "menu" "menu" (defArgs (top 17)) (defBody (top 17)) (defScope (top 17)) .none kV9 dc9 pm9 an9 cd9 ct9), sl9⟩)
    (c9 : PySem.W.codeIn K cd9 "menu" = true)
    (k9 : PySem.W.keepIn K (.ref f9) = true)
    (a10 : PySem.W.nsIn K mainGlobals "trade" = some (some (.ref f10)))
    (l10 : K.lookup f10 = some ⟨oc10, od10, .func (PySem.W.fnOf "trade" "trade" (defArgs (top 18)) (defBody (top 18)) (defScope (top 18)) .none (.ref kD10) dc10 pm10 an10 cd10 ct10), sl10⟩)
    (kl10_kind : PySem.W.nsIn K kD10 "kind" = some (some kU10_kind))
    (rl10_kind : He.relB (cstV (.str "once")) kU10_kind = true)
    (c10 : PySem.W.codeIn K cd10 "trade" = true)
    (k10 : PySem.W.keepIn K (.ref f10) = true)
    (a11 : PySem.W.nsIn K mainGlobals "sides" = some (some (.ref f11)))
    (l11 : K.lookup f11 = some ⟨oc11, od11, .func (PySem.W.fnOf "sides" "sides" (defArgs (top 19)) (defBody (top 19)) (defScope (top 19)) .none kV11 dc11 pm11 an11 cd11 ct11), sl11⟩)
    (c11 : PySem.W.codeIn K cd11 "sides" = true)
    (k11 : PySem.W.keepIn K (.ref f11) = true)
    (a12 : PySem.W.nsIn K mainGlobals "size" = some (some (.ref f12)))
    (l12 : K.lookup f12 = some ⟨oc12, od12, .func (PySem.W.fnOf "size" "size" (defArgs (top 20)) (defBody (top 20)) (defScope (top 20)) .none kV12 dc12 pm12 an12 cd12 ct12), sl12⟩)
    (c12 : PySem.W.codeIn K cd12 "size" = true)
    (k12 : PySem.W.keepIn K (.ref f12) = true)
    (a13 : PySem.W.nsIn K mainGlobals "words_in" = some (some (.ref f13)))
    (l13 : K.lookup f13 = some ⟨oc13, od13, .func (PySem.W.fnOf "words_in" "words_in" (defArgs (top 21)) (defBody (top 21)) (defScope (top 21)) .none kV13 dc13 pm13 an13 cd13 ct13), sl13⟩)
    (c13 : PySem.W.codeIn K cd13 "words_in" = true)
    (k13 : PySem.W.keepIn K (.ref f13) = true)
    (a14 : PySem.W.nsIn K mainGlobals "legs" = some (some (.ref f14)))
    (l14 : K.lookup f14 = some ⟨oc14, od14, .func (PySem.W.fnOf "legs" "legs" (defArgs (top 22)) (defBody (top 22)) (defScope (top 22)) .none kV14 dc14 pm14 an14 cd14 ct14), sl14⟩)
    (c14 : PySem.W.codeIn K cd14 "legs" = true)
    (k14 : PySem.W.keepIn K (.ref f14) = true)
    (a15 : PySem.W.nsIn K mainGlobals "_law_cell" = some (some (.ref f15)))
    (l15 : K.lookup f15 = some ⟨oc15, od15, .func (PySem.W.fnOf "_law_cell" "_law_cell" (defArgs (top 24)) (defBody (top 24)) (defScope (top 24)) .none kV15 dc15 pm15 an15 cd15 ct15), sl15⟩)
    (c15 : PySem.W.codeIn K cd15 "_law_cell" = true)
    (k15 : PySem.W.keepIn K (.ref f15) = true)
    (a16 : PySem.W.nsIn K mainGlobals "_law_pool" = some (some (.ref f16)))
    (l16 : K.lookup f16 = some ⟨oc16, od16, .func (PySem.W.fnOf "_law_pool" "_law_pool" (defArgs (top 25)) (defBody (top 25)) (defScope (top 25)) .none kV16 dc16 pm16 an16 cd16 ct16), sl16⟩)
    (c16 : PySem.W.codeIn K cd16 "_law_pool" = true)
    (k16 : PySem.W.keepIn K (.ref f16) = true)
    (a17 : PySem.W.nsIn K mainGlobals "_law_next" = some (some (.ref f17)))
    (l17 : K.lookup f17 = some ⟨oc17, od17, .func (PySem.W.fnOf "_law_next" "_law_next" (defArgs (top 26)) (defBody (top 26)) (defScope (top 26)) .none kV17 dc17 pm17 an17 cd17 ct17), sl17⟩)
    (c17 : PySem.W.codeIn K cd17 "_law_next" = true)
    (k17 : PySem.W.keepIn K (.ref f17) = true)
    (a18 : PySem.W.nsIn K mainGlobals "_law_same" = some (some (.ref f18)))
    (l18 : K.lookup f18 = some ⟨oc18, od18, .func (PySem.W.fnOf "_law_same" "_law_same" (defArgs (top 27)) (defBody (top 27)) (defScope (top 27)) .none kV18 dc18 pm18 an18 cd18 ct18), sl18⟩)
    (c18 : PySem.W.codeIn K cd18 "_law_same" = true)
    (k18 : PySem.W.keepIn K (.ref f18) = true)
    (a19 : PySem.W.nsIn K mainGlobals "_law_name" = some (some (.ref f19)))
    (l19 : K.lookup f19 = some ⟨oc19, od19, .func (PySem.W.fnOf "_law_name" "_law_name" (defArgs (top 28)) (defBody (top 28)) (defScope (top 28)) .none kV19 dc19 pm19 an19 cd19 ct19), sl19⟩)
    (c19 : PySem.W.codeIn K cd19 "_law_name" = true)
    (k19 : PySem.W.keepIn K (.ref f19) = true)
    (a20 : PySem.W.nsIn K mainGlobals "_law_bad_name" = some (some (.ref f20)))
    (l20 : K.lookup f20 = some ⟨oc20, od20, .func (PySem.W.fnOf "_law_bad_name" "_law_bad_name" (defArgs (top 29)) (defBody (top 29)) (defScope (top 29)) .none kV20 dc20 pm20 an20 cd20 ct20), sl20⟩)
    (c20 : PySem.W.codeIn K cd20 "_law_bad_name" = true)
    (k20 : PySem.W.keepIn K (.ref f20) = true)
    (a21 : PySem.W.nsIn K mainGlobals "_law_mode" = some (some (.ref f21)))
    (l21 : K.lookup f21 = some ⟨oc21, od21, .func (PySem.W.fnOf "_law_mode" "_law_mode" (defArgs (top 30)) (defBody (top 30)) (defScope (top 30)) .none kV21 dc21 pm21 an21 cd21 ct21), sl21⟩)
    (c21 : PySem.W.codeIn K cd21 "_law_mode" = true)
    (k21 : PySem.W.keepIn K (.ref f21) = true)
    (a22 : PySem.W.nsIn K mainGlobals "_law_deep" = some (some (.ref f22)))
    (l22 : K.lookup f22 = some ⟨oc22, od22, .func (PySem.W.fnOf "_law_deep" "_law_deep" (defArgs (top 31)) (defBody (top 31)) (defScope (top 31)) .none kV22 dc22 pm22 an22 cd22 ct22), sl22⟩)
    (c22 : PySem.W.codeIn K cd22 "_law_deep" = true)
    (k22 : PySem.W.keepIn K (.ref f22) = true)
    (a23 : PySem.W.nsIn K mainGlobals "_law_sentence" = some (some (.ref f23)))
    (l23 : K.lookup f23 = some ⟨oc23, od23, .func (PySem.W.fnOf "_law_sentence" "_law_sentence" (defArgs (top 32)) (defBody (top 32)) (defScope (top 32)) .none kV23 dc23 pm23 an23 cd23 ct23), sl23⟩)
    (c23 : PySem.W.codeIn K cd23 "_law_sentence" = true)
    (k23 : PySem.W.keepIn K (.ref f23) = true)
    (a24 : PySem.W.nsIn K mainGlobals "_law_legs" = some (some (.ref f24)))
    (l24 : K.lookup f24 = some ⟨oc24, od24, .func (PySem.W.fnOf "_law_legs" "_law_legs" (defArgs (top 33)) (defBody (top 33)) (defScope (top 33)) .none kV24 dc24 pm24 an24 cd24 ct24), sl24⟩)
    (c24 : PySem.W.codeIn K cd24 "_law_legs" = true)
    (k24 : PySem.W.keepIn K (.ref f24) = true)
    (a25 : PySem.W.nsIn K mainGlobals "_law_words" = some (some (.ref f25)))
    (l25 : K.lookup f25 = some ⟨oc25, od25, .func (PySem.W.fnOf "_law_words" "_law_words" (defArgs (top 34)) (defBody (top 34)) (defScope (top 34)) .none kV25 dc25 pm25 an25 cd25 ct25), sl25⟩)
    (c25 : PySem.W.codeIn K cd25 "_law_words" = true)
    (k25 : PySem.W.keepIn K (.ref f25) = true)
    (a26 : PySem.W.nsIn K mainGlobals "_law_tells" = some (some (.ref f26)))
    (l26 : K.lookup f26 = some ⟨oc26, od26, .func (PySem.W.fnOf "_law_tells" "_law_tells" (defArgs (top 35)) (defBody (top 35)) (defScope (top 35)) .none kV26 dc26 pm26 an26 cd26 ct26), sl26⟩)
    (c26 : PySem.W.codeIn K cd26 "_law_tells" = true)
    (k26 : PySem.W.keepIn K (.ref f26) = true)
    (a27 : PySem.W.nsIn K mainGlobals "_law_through" = some (some (.ref f27)))
    (l27 : K.lookup f27 = some ⟨oc27, od27, .func (PySem.W.fnOf "_law_through" "_law_through" (defArgs (top 36)) (defBody (top 36)) (defScope (top 36)) .none kV27 dc27 pm27 an27 cd27 ct27), sl27⟩)
    (c27 : PySem.W.codeIn K cd27 "_law_through" = true)
    (k27 : PySem.W.keepIn K (.ref f27) = true)
    (a28 : PySem.W.nsIn K mainGlobals "_law_name_refused" = some (some (.ref f28)))
    (l28 : K.lookup f28 = some ⟨oc28, od28, .func (PySem.W.fnOf "_law_name_refused" "_law_name_refused" (defArgs (top 37)) (defBody (top 37)) (defScope (top 37)) .none kV28 dc28 pm28 an28 cd28 ct28), sl28⟩)
    (c28 : PySem.W.codeIn K cd28 "_law_name_refused" = true)
    (k28 : PySem.W.keepIn K (.ref f28) = true)
    (a29 : PySem.W.nsIn K mainGlobals "_law_kind_refused" = some (some (.ref f29)))
    (l29 : K.lookup f29 = some ⟨oc29, od29, .func (PySem.W.fnOf "_law_kind_refused" "_law_kind_refused" (defArgs (top 38)) (defBody (top 38)) (defScope (top 38)) .none kV29 dc29 pm29 an29 cd29 ct29), sl29⟩)
    (c29 : PySem.W.codeIn K cd29 "_law_kind_refused" = true)
    (k29 : PySem.W.keepIn K (.ref f29) = true)
    (a30 : PySem.W.nsIn K mainGlobals "_law_refused_at_all" = some (some (.ref f30)))
    (l30 : K.lookup f30 = some ⟨oc30, od30, .func (PySem.W.fnOf "_law_refused_at_all" "_law_refused_at_all" (defArgs (top 39)) (defBody (top 39)) (defScope (top 39)) .none kV30 dc30 pm30 an30 cd30 ct30), sl30⟩)
    (c30 : PySem.W.codeIn K cd30 "_law_refused_at_all" = true)
    (k30 : PySem.W.keepIn K (.ref f30) = true)
    (a31 : PySem.W.nsIn K mainGlobals "law" = some (some (.ref f31)))
    (l31 : K.lookup f31 = some ⟨oc31, od31, .func (PySem.W.fnOf "law" "law" (defArgs (top 40)) (defBody (top 40)) (defScope (top 40)) .none kV31 dc31 pm31 an31 cd31 ct31), sl31⟩)
    (c31 : PySem.W.codeIn K cd31 "law" = true)
    (k31 : PySem.W.keepIn K (.ref f31) = true)
    (lx1 : K.lookup C1 = some (excClassObj xnm1 xqn1 C1 xN1 xbs1 xbm1 true xsn1 xsub1 xab1 xcol1 xdd1 xk0_1 xk1_1 xk2_1 xk3_1 xk5_1 "ValueError.__new__"))
    (rv1 : PySem.HandSPX.refsVE xbm1 = true)
    (sa1 : PySem.W.findIn K (.ref C1) "__setattr__" = some (some (.builtin "object.__setattr__")))
    (xb1 : PySem.W.subIn K (.ref C1) (.type "BaseException") = some true)
    (xty1 : PySem.W.typeIn K (.ref C1) = some (.type "type"))
    (kc1 : PySem.W.keepIn K (.ref C1) = true)
    (xcl1 : PySem.W.isClsIn K C1 = true)
    (xga1 : PySem.W.findIn K (.ref C1) "__getattribute__" = some (some (.builtin "BaseException.__getattribute__")))
    (xgg1 : PySem.W.findIn K (.ref C1) "__getattr__" = some none)
    (xhd1 : PySem.W.hasDictIn K C1 = true)
    (xha1 : PySem.W.findIn K (.ref C1) "__class__" = some (some (.builtin "object.__class__")))
    (xhn1 : PySem.W.specialIn K (.builtin "object.__class__") "__get__" = some (some (.builtin "getset_descriptor.__get__")))
    (xht1 : PySem.W.takesIn K (.builtin "object.__class__") = some true)
    (xhm1 : PySem.W.mroIn K C1 (.type "object") = some true)
    (xn1_name : PySem.W.findIn K (.ref C1) "name" = some none)
    (lx4 : K.lookup C4 = some (excClassObj xnm4 xqn4 C4 xN4 xbs4 xbm4 true xsn4 xsub4 xab4 xcol4 xdd4 xk0_4 xk1_4 xk2_4 xk3_4 xk5_4 "ValueError.__new__"))
    (rv4 : PySem.HandSPX.refsVE xbm4 = true)
    (sa4 : PySem.W.findIn K (.ref C4) "__setattr__" = some (some (.builtin "object.__setattr__")))
    (xb4 : PySem.W.subIn K (.ref C4) (.type "BaseException") = some true)
    (xty4 : PySem.W.typeIn K (.ref C4) = some (.type "type"))
    (kc4 : PySem.W.keepIn K (.ref C4) = true)
    (xcl4 : PySem.W.isClsIn K C4 = true)
    (xga4 : PySem.W.findIn K (.ref C4) "__getattribute__" = some (some (.builtin "BaseException.__getattribute__")))
    (xgg4 : PySem.W.findIn K (.ref C4) "__getattr__" = some none)
    (xhd4 : PySem.W.hasDictIn K C4 = true)
    (xha4 : PySem.W.findIn K (.ref C4) "__class__" = some (some (.builtin "object.__class__")))
    (xhn4 : PySem.W.specialIn K (.builtin "object.__class__") "__get__" = some (some (.builtin "getset_descriptor.__get__")))
    (xht4 : PySem.W.takesIn K (.builtin "object.__class__") = some true)
    (xhm4 : PySem.W.mroIn K C4 (.type "object") = some true)
    (xn4_kind : PySem.W.findIn K (.ref C4) "kind" = some none)
    (bsp : PySem.W.specialIn K (.ref C0) "__getattribute__" = some (some (.builtin "type.__getattribute__")))
    (brd : PySem.W.readsIn K C0 (.type "type") = true)
    (bin : PySem.W.findCls K (.ref C0) (.type "type") "__init__" = some (.val (.builtin "ValueError.__init__")))
    (exb_BadName : PySem.W.subIn K (.ref C1) (.type "BaseException") = some true)
    (exd_BadName : PySem.W.hasDictIn K C1 = true)
    (ext_BadName : PySem.W.typeIn K (.ref C1) = some (.type "type"))
    (sub_BadName_1 : PySem.W.subIn K (.ref C1) (.ref C1) = some true)
    (sub_BadName_4 : PySem.W.subIn K (.ref C4) (.ref C1) = some false)
    (exb_BadKind : PySem.W.subIn K (.ref C4) (.type "BaseException") = some true)
    (exd_BadKind : PySem.W.hasDictIn K C4 = true)
    (ext_BadKind : PySem.W.typeIn K (.ref C4) = some (.type "type"))
    (sub_BadKind_1 : PySem.W.subIn K (.ref C1) (.ref C4) = some false)
    (sub_BadKind_4 : PySem.W.subIn K (.ref C4) (.ref C4) = some true)
    (exb_HeldError : PySem.W.subIn K (.ref C0) (.type "BaseException") = some true)
    (exd_HeldError : PySem.W.hasDictIn K C0 = true)
    (ext_HeldError : PySem.W.typeIn K (.ref C0) = some (.type "type"))
    (sub_HeldError_1 : PySem.W.subIn K (.ref C1) (.ref C0) = some true)
    (sub_HeldError_4 : PySem.W.subIn K (.ref C4) (.ref C0) = some true)
    (sub_ValueError_1 : PySem.W.subIn K (.ref C1) (.type "ValueError") = some true)
    (sub_ValueError_4 : PySem.W.subIn K (.ref C4) (.type "ValueError") = some true)
    (eci_HeldError : PySem.W.isClsIn K C0 = true)
    (esf_1 : PySem.W.subIn K (.ref C1) (.ref C1) = some true)
    (esf_4 : PySem.W.subIn K (.ref C4) (.ref C4) = some true)
    (eci_BadKind : PySem.W.isClsIn K C4 = true)
    (eci_NameTaken : PySem.W.isClsIn K C2 = true)
    (ext_NameTaken : PySem.W.typeIn K (.ref C2) = some (.type "type"))
    (sub_NameTaken_1 : PySem.W.subIn K (.ref C1) (.ref C2) = some false)
    (eci_UnknownName : PySem.W.isClsIn K C3 = true)
    (ext_UnknownName : PySem.W.typeIn K (.ref C3) = some (.type "type"))
    (sub_UnknownName_1 : PySem.W.subIn K (.ref C1) (.ref C3) = some false)
    (eci_TextError : PySem.W.isClsIn K C5 = true)
    (ext_TextError : PySem.W.typeIn K (.ref C5) = some (.type "type"))
    (sub_TextError_1 : PySem.W.subIn K (.ref C1) (.ref C5) = some false)
    (eci_NotSimple : PySem.W.isClsIn K C6 = true)
    (ext_NotSimple : PySem.W.typeIn K (.ref C6) = some (.type "type"))
    (sub_NotSimple_1 : PySem.W.subIn K (.ref C1) (.ref C6) = some false)
    (eci_BadName : PySem.W.isClsIn K C1 = true)
    (sub_NameTaken_4 : PySem.W.subIn K (.ref C4) (.ref C2) = some false)
    (sub_UnknownName_4 : PySem.W.subIn K (.ref C4) (.ref C3) = some false)
    (sub_TextError_4 : PySem.W.subIn K (.ref C4) (.ref C5) = some false)
    (sub_NotSimple_4 : PySem.W.subIn K (.ref C4) (.ref C6) = some false)
    (cgv_DIGITS : PySem.W.nsIn K mainGlobals "DIGITS" = some (some gU_DIGITS))
    (rl_DIGITS : He.relB (cstV (.str "0123456789")) gU_DIGITS = true)
    (cgv_LETTERS : PySem.W.nsIn K mainGlobals "LETTERS" = some (some gU_LETTERS))
    (rl_LETTERS : He.relB (cstV (.str "abcdefghijklmnopqrstuvwxyz")) gU_LETTERS = true)
    (cgv_LONGEST_NAME : PySem.W.nsIn K mainGlobals "LONGEST_NAME" = some (some gU_LONGEST_NAME))
    (rl_LONGEST_NAME : He.relB (cstV (.int 12)) gU_LONGEST_NAME = true)
    (z_ValueError : PySem.W.nsIn K mainGlobals "ValueError" = some none)
    (z_abs : PySem.W.nsIn K mainGlobals "abs" = some none)
    (z_bool : PySem.W.nsIn K mainGlobals "bool" = some none)
    (z_int : PySem.W.nsIn K mainGlobals "int" = some none)
    (z_isinstance : PySem.W.nsIn K mainGlobals "isinstance" = some none)
    (z_len : PySem.W.nsIn K mainGlobals "len" = some none)
    (z_list : PySem.W.nsIn K mainGlobals "list" = some none)
    (z_max : PySem.W.nsIn K mainGlobals "max" = some none)
    (z_range : PySem.W.nsIn K mainGlobals "range" = some none)
    (z_str : PySem.W.nsIn K mainGlobals "str" = some none)
    (z_tuple : PySem.W.nsIn K mainGlobals "tuple" = some none)
    : ∃ fd : FuncData, (∀ (s : Shared) (v : Value), BindsTo s fd ⟨[v], []⟩ [("_law_script", v)]) ∧ ∀ base : Heap, K.In base → base.Ns mainGlobals mg → FnOk l.prog w K mg base (L2N.CX l.prog w) 202 fa fd ["_law_script"] (spL K) := by
  have e : f31 = fa := by
    have z := (PySem.W.mg_of X G a31).symm.trans hfa
    injection z with z
    injection z
  subst e
  let cl : Nat → Addr := fun i => [C0, C1, C2, C3, C4, C5, C6].getD i 0
  let fas : Nat → Addr := fun i => [f0, f1, f2, f3, f4, f5, f6, f7, f8, f9, f10, f11, f12, f13, f14, f15, f16, f17, f18, f19, f20, f21, f22, f23, f24, f25, f26, f27, f28, f29, f30, f31, f14].getD i 0
  let fds : Nat → FuncData := fun i => [PySem.W.fnOf "__init__" "BadName.__init__" (defArgs (inClass (top 2) 0)) (defBody (inClass (top 2) 0)) (defScope (inClass (top 2) 0)) .none kV0 dc0 pm0 an0 cd0 ct0, PySem.W.fnOf "__init__" "NameTaken.__init__" (defArgs (inClass (top 3) 0)) (defBody (inClass (top 3) 0)) (defScope (inClass (top 3) 0)) .none kV1 dc1 pm1 an1 cd1 ct1, PySem.W.fnOf "__init__" "UnknownName.__init__" (defArgs (inClass (top 4) 0)) (defBody (inClass (top 4) 0)) (defScope (inClass (top 4) 0)) .none kV2 dc2 pm2 an2 cd2 ct2, PySem.W.fnOf "__init__" "BadKind.__init__" (defArgs (inClass (top 5) 0)) (defBody (inClass (top 5) 0)) (defScope (inClass (top 5) 0)) .none kV3 dc3 pm3 an3 cd3 ct3, PySem.W.fnOf "__init__" "TextError.__init__" (defArgs (inClass (top 6) 0)) (defBody (inClass (top 6) 0)) (defScope (inClass (top 6) 0)) .none kV4 dc4 pm4 an4 cd4 ct4, PySem.W.fnOf "is_number" "is_number" (defArgs (top 9)) (defBody (top 9)) (defScope (top 9)) .none kV5 dc5 pm5 an5 cd5 ct5, PySem.W.fnOf "is_kind" "is_kind" (defArgs (top 10)) (defBody (top 10)) (defScope (top 10)) .none kV6 dc6 pm6 an6 cd6 ct6, PySem.W.fnOf "is_name" "is_name" (defArgs (top 15)) (defBody (top 15)) (defScope (top 15)) .none kV7 dc7 pm7 an7 cd7 ct7, PySem.W.fnOf "word" "word" (defArgs (top 16)) (defBody (top 16)) (defScope (top 16)) .none kV8 dc8 pm8 an8 cd8 ct8, PySem.W.fnOf "menu" "menu" (defArgs (top 17)) (defBody (top 17)) (defScope (top 17)) .none kV9 dc9 pm9 an9 cd9 ct9, PySem.W.fnOf "trade" "trade" (defArgs (top 18)) (defBody (top 18)) (defScope (top 18)) .none (.ref kD10) dc10 pm10 an10 cd10 ct10, PySem.W.fnOf "sides" "sides" (defArgs (top 19)) (defBody (top 19)) (defScope (top 19)) .none kV11 dc11 pm11 an11 cd11 ct11, PySem.W.fnOf "size" "size" (defArgs (top 20)) (defBody (top 20)) (defScope (top 20)) .none kV12 dc12 pm12 an12 cd12 ct12, PySem.W.fnOf "words_in" "words_in" (defArgs (top 21)) (defBody (top 21)) (defScope (top 21)) .none kV13 dc13 pm13 an13 cd13 ct13, PySem.W.fnOf "legs" "legs" (defArgs (top 22)) (defBody (top 22)) (defScope (top 22)) .none kV14 dc14 pm14 an14 cd14 ct14, PySem.W.fnOf "_law_cell" "_law_cell" (defArgs (top 24)) (defBody (top 24)) (defScope (top 24)) .none kV15 dc15 pm15 an15 cd15 ct15, PySem.W.fnOf "_law_pool" "_law_pool" (defArgs (top 25)) (defBody (top 25)) (defScope (top 25)) .none kV16 dc16 pm16 an16 cd16 ct16, PySem.W.fnOf "_law_next" "_law_next" (defArgs (top 26)) (defBody (top 26)) (defScope (top 26)) .none kV17 dc17 pm17 an17 cd17 ct17, PySem.W.fnOf "_law_same" "_law_same" (defArgs (top 27)) (defBody (top 27)) (defScope (top 27)) .none kV18 dc18 pm18 an18 cd18 ct18, PySem.W.fnOf "_law_name" "_law_name" (defArgs (top 28)) (defBody (top 28)) (defScope (top 28)) .none kV19 dc19 pm19 an19 cd19 ct19, PySem.W.fnOf "_law_bad_name" "_law_bad_name" (defArgs (top 29)) (defBody (top 29)) (defScope (top 29)) .none kV20 dc20 pm20 an20 cd20 ct20, PySem.W.fnOf "_law_mode" "_law_mode" (defArgs (top 30)) (defBody (top 30)) (defScope (top 30)) .none kV21 dc21 pm21 an21 cd21 ct21, PySem.W.fnOf "_law_deep" "_law_deep" (defArgs (top 31)) (defBody (top 31)) (defScope (top 31)) .none kV22 dc22 pm22 an22 cd22 ct22, PySem.W.fnOf "_law_sentence" "_law_sentence" (defArgs (top 32)) (defBody (top 32)) (defScope (top 32)) .none kV23 dc23 pm23 an23 cd23 ct23, PySem.W.fnOf "_law_legs" "_law_legs" (defArgs (top 33)) (defBody (top 33)) (defScope (top 33)) .none kV24 dc24 pm24 an24 cd24 ct24, PySem.W.fnOf "_law_words" "_law_words" (defArgs (top 34)) (defBody (top 34)) (defScope (top 34)) .none kV25 dc25 pm25 an25 cd25 ct25, PySem.W.fnOf "_law_tells" "_law_tells" (defArgs (top 35)) (defBody (top 35)) (defScope (top 35)) .none kV26 dc26 pm26 an26 cd26 ct26, PySem.W.fnOf "_law_through" "_law_through" (defArgs (top 36)) (defBody (top 36)) (defScope (top 36)) .none kV27 dc27 pm27 an27 cd27 ct27, PySem.W.fnOf "_law_name_refused" "_law_name_refused" (defArgs (top 37)) (defBody (top 37)) (defScope (top 37)) .none kV28 dc28 pm28 an28 cd28 ct28, PySem.W.fnOf "_law_kind_refused" "_law_kind_refused" (defArgs (top 38)) (defBody (top 38)) (defScope (top 38)) .none kV29 dc29 pm29 an29 cd29 ct29, PySem.W.fnOf "_law_refused_at_all" "_law_refused_at_all" (defArgs (top 39)) (defBody (top 39)) (defScope (top 39)) .none kV30 dc30 pm30 an30 cd30 ct30, PySem.W.fnOf "law" "law" (defArgs (top 40)) (defBody (top 40)) (defScope (top 40)) .none kV31 dc31 pm31 an31 cd31 ct31, PySem.W.fnOf "legs" "legs" (defArgs (top 22)) (defBody (top 22)) (defScope (top 22)) .none kV14 dc14 pm14 an14 cd14 ct14].getD i (PySem.W.fnOf "__init__" "BadName.__init__" (defArgs (inClass (top 2) 0)) (defBody (inClass (top 2) 0)) (defScope (inClass (top 2) 0)) .none kV0 dc0 pm0 an0 cd0 ct0)
  have T : Txt w K mg cl fas fds := {
    F0 := fun_mk (st := (inClass (top 2) 0)) l0 c0 k0
    b0 := (fun_mk (st := (inClass (top 2) 0)) l0 c0 k0).binds (ps := ["self", "name"]) fun _ _ _ _ _ _ us hl => match us, hl with | [_, _], _ => rfl
    F1 := fun_mk (st := (inClass (top 3) 0)) l1 c1 k1
    b1 := (fun_mk (st := (inClass (top 3) 0)) l1 c1 k1).binds (ps := ["self", "name"]) fun _ _ _ _ _ _ us hl => match us, hl with | [_, _], _ => rfl
    F2 := fun_mk (st := (inClass (top 4) 0)) l2 c2 k2
    b2 := (fun_mk (st := (inClass (top 4) 0)) l2 c2 k2).binds (ps := ["self", "name"]) fun _ _ _ _ _ _ us hl => match us, hl with | [_, _], _ => rfl
    F3 := fun_mk (st := (inClass (top 5) 0)) l3 c3 k3
    b3 := (fun_mk (st := (inClass (top 5) 0)) l3 c3 k3).binds (ps := ["self", "kind"]) fun _ _ _ _ _ _ us hl => match us, hl with | [_, _], _ => rfl
    F4 := fun_mk (st := (inClass (top 6) 0)) l4 c4 k4
    b4 := (fun_mk (st := (inClass (top 6) 0)) l4 c4 k4).binds (ps := ["self", "index"]) fun _ _ _ _ _ _ us hl => match us, hl with | [_, _], _ => rfl
    F5 := fun_mk (st := (top 9)) l5 c5 k5
    b5 := (fun_mk (st := (top 9)) l5 c5 k5).binds (ps := ["value"]) fun _ _ _ _ _ _ us hl => match us, hl with | [_], _ => rfl
    g5 := PySem.W.mg_of X G a5
    F6 := fun_mk (st := (top 10)) l6 c6 k6
    b6 := (fun_mk (st := (top 10)) l6 c6 k6).binds (ps := ["value"]) fun _ _ _ _ _ _ us hl => match us, hl with | [_], _ => rfl
    g6 := PySem.W.mg_of X G a6
    F7 := fun_mk (st := (top 15)) l7 c7 k7
    b7 := (fun_mk (st := (top 15)) l7 c7 k7).binds (ps := ["text"]) fun _ _ _ _ _ _ us hl => match us, hl with | [_], _ => rfl
    g7 := PySem.W.mg_of X G a7
    F8 := fun_mk (st := (top 16)) l8 c8 k8
    b8 := (fun_mk (st := (top 16)) l8 c8 k8).binds (ps := ["name"]) fun _ _ _ _ _ _ us hl => match us, hl with | [_], _ => rfl
    g8 := PySem.W.mg_of X G a8
    F9 := fun_mk (st := (top 17)) l9 c9 k9
    b9 := (fun_mk (st := (top 17)) l9 c9 k9).binds (ps := ["left", "right"]) fun _ _ _ _ _ _ us hl => match us, hl with | [_, _], _ => rfl
    g9 := PySem.W.mg_of X G a9
    F10 := funW_mk (st := (top 18)) (ks := [("kind", .str "once")]) l10 c10 k10 (fun q hq => by
      simp only [List.mem_cons, List.not_mem_nil, or_false] at hq
      rcases hq with rfl
      · exact ⟨_, kl10_kind, rl10_kind⟩)
    kw10 := bindWA (ps := ["price", "goods", "kind"]) (show FunW K "trade" "trade" (top 18) [("kind", .str "once")] f10 _ from funW_mk (st := (top 18)) (ks := [("kind", .str "once")]) l10 c10 k10 (fun q hq => by
      simp only [List.mem_cons, List.not_mem_nil, or_false] at hq
      rcases hq with rfl
      · exact ⟨_, kl10_kind, rl10_kind⟩)) 2 (by simp) ["kind"] fun _ _ _ _ _ _ us ws h1 h2 => match us, ws, h1, h2 with | [_, _], [_], _, _ => rfl
    bd10_1 := bindW (ps := ["price", "goods", "kind"]) (show FunW K "trade" "trade" (top 18) [("kind", .str "once")] f10 _ from funW_mk (st := (top 18)) (ks := [("kind", .str "once")]) l10 c10 k10 (fun q hq => by
      simp only [List.mem_cons, List.not_mem_nil, or_false] at hq
      rcases hq with rfl
      · exact ⟨_, kl10_kind, rl10_kind⟩)) 2 (by simp) (by rfl) fun _ _ _ _ _ _ us vs h1 h2 => match us, vs, h1, h2 with | [_, _], [_], _, _ => ⟨_, _, _, _, _, _, rfl, rfl, rfl⟩
    g10 := PySem.W.mg_of X G a10
    F11 := fun_mk (st := (top 19)) l11 c11 k11
    b11 := (fun_mk (st := (top 19)) l11 c11 k11).binds (ps := ["sentence"]) fun _ _ _ _ _ _ us hl => match us, hl with | [_], _ => rfl
    g11 := PySem.W.mg_of X G a11
    F12 := fun_mk (st := (top 20)) l12 c12 k12
    b12 := (fun_mk (st := (top 20)) l12 c12 k12).binds (ps := ["sentence"]) fun _ _ _ _ _ _ us hl => match us, hl with | [_], _ => rfl
    g12 := PySem.W.mg_of X G a12
    F13 := fun_mk (st := (top 21)) l13 c13 k13
    b13 := (fun_mk (st := (top 21)) l13 c13 k13).binds (ps := ["sentence"]) fun _ _ _ _ _ _ us hl => match us, hl with | [_], _ => rfl
    g13 := PySem.W.mg_of X G a13
    F14 := fun_mk (st := (top 22)) l14 c14 k14
    b14 := (fun_mk (st := (top 22)) l14 c14 k14).binds (ps := ["sentence"]) fun _ _ _ _ _ _ us hl => match us, hl with | [_], _ => rfl
    g14 := PySem.W.mg_of X G a14
    F15 := fun_mk (st := (top 24)) l15 c15 k15
    b15 := (fun_mk (st := (top 24)) l15 c15 k15).binds (ps := ["_law_script", "_law_k"]) fun _ _ _ _ _ _ us hl => match us, hl with | [_, _], _ => rfl
    g15 := PySem.W.mg_of X G a15
    F16 := fun_mk (st := (top 25)) l16 c16 k16
    b16 := (fun_mk (st := (top 25)) l16 c16 k16).binds (ps := ["_law_script", "_law_k"]) fun _ _ _ _ _ _ us hl => match us, hl with | [_, _], _ => rfl
    g16 := PySem.W.mg_of X G a16
    F17 := fun_mk (st := (top 26)) l17 c17 k17
    b17 := (fun_mk (st := (top 26)) l17 c17 k17).binds (ps := ["_law_pool_here", "_law_many"]) fun _ _ _ _ _ _ us hl => match us, hl with | [_, _], _ => rfl
    g17 := PySem.W.mg_of X G a17
    F18 := fun_mk (st := (top 27)) l18 c18 k18
    b18 := (fun_mk (st := (top 27)) l18 c18 k18).binds (ps := ["_law_told", "_law_due"]) fun _ _ _ _ _ _ us hl => match us, hl with | [_, _], _ => rfl
    g18 := PySem.W.mg_of X G a18
    F19 := fun_mk (st := (top 28)) l19 c19 k19
    b19 := (fun_mk (st := (top 28)) l19 c19 k19).binds (ps := ["_law_pool_here", "_law_names"]) fun _ _ _ _ _ _ us hl => match us, hl with | [_, _], _ => rfl
    g19 := PySem.W.mg_of X G a19
    F20 := fun_mk (st := (top 29)) l20 c20 k20
    b20 := (fun_mk (st := (top 29)) l20 c20 k20).binds (ps := ["_law_pool_here", "_law_name_here"]) fun _ _ _ _ _ _ us hl => match us, hl with | [_, _], _ => rfl
    g20 := PySem.W.mg_of X G a20
    F21 := fun_mk (st := (top 30)) l21 c21 k21
    b21 := (fun_mk (st := (top 30)) l21 c21 k21).binds (ps := ["_law_pool_here"]) fun _ _ _ _ _ _ us hl => match us, hl with | [_], _ => rfl
    g21 := PySem.W.mg_of X G a21
    F22 := fun_mk (st := (top 31)) l22 c22 k22
    b22 := (fun_mk (st := (top 31)) l22 c22 k22).binds (ps := ["_law_pool_here", "_law_names", "_law_depth"]) fun _ _ _ _ _ _ us hl => match us, hl with | [_, _, _], _ => rfl
    g22 := PySem.W.mg_of X G a22
    F23 := fun_mk (st := (top 32)) l23 c23 k23
    b23 := (fun_mk (st := (top 32)) l23 c23 k23).binds (ps := ["_law_pool_here", "_law_names"]) fun _ _ _ _ _ _ us hl => match us, hl with | [_, _], _ => rfl
    g23 := PySem.W.mg_of X G a23
    F24 := fun_mk (st := (top 33)) l24 c24 k24
    b24 := (fun_mk (st := (top 33)) l24 c24 k24).binds (ps := ["_law_sentence_here"]) fun _ _ _ _ _ _ us hl => match us, hl with | [_], _ => rfl
    g24 := PySem.W.mg_of X G a24
    F25 := fun_mk (st := (top 34)) l25 c25 k25
    b25 := (fun_mk (st := (top 34)) l25 c25 k25).binds (ps := ["_law_sentence_here"]) fun _ _ _ _ _ _ us hl => match us, hl with | [_], _ => rfl
    g25 := PySem.W.mg_of X G a25
    F26 := fun_mk (st := (top 35)) l26 c26 k26
    b26 := (fun_mk (st := (top 35)) l26 c26 k26).binds (ps := ["_law_sentence_here"]) fun _ _ _ _ _ _ us hl => match us, hl with | [_], _ => rfl
    g26 := PySem.W.mg_of X G a26
    F27 := fun_mk (st := (top 36)) l27 c27 k27
    b27 := (fun_mk (st := (top 36)) l27 c27 k27).binds (ps := ["_law_sentence_here"]) fun _ _ _ _ _ _ us hl => match us, hl with | [_], _ => rfl
    g27 := PySem.W.mg_of X G a27
    F28 := fun_mk (st := (top 37)) l28 c28 k28
    b28 := (fun_mk (st := (top 37)) l28 c28 k28).binds (ps := ["_law_name_here"]) fun _ _ _ _ _ _ us hl => match us, hl with | [_], _ => rfl
    g28 := PySem.W.mg_of X G a28
    F29 := fun_mk (st := (top 38)) l29 c29 k29
    b29 := (fun_mk (st := (top 38)) l29 c29 k29).binds (ps := ["_law_value", "_law_one", "_law_two"]) fun _ _ _ _ _ _ us hl => match us, hl with | [_, _, _], _ => rfl
    g29 := PySem.W.mg_of X G a29
    F30 := fun_mk (st := (top 39)) l30 c30 k30
    b30 := (fun_mk (st := (top 39)) l30 c30 k30).binds (ps := ["_law_name_here", "_law_one", "_law_two"]) fun _ _ _ _ _ _ us hl => match us, hl with | [_, _, _], _ => rfl
    g30 := PySem.W.mg_of X G a30
    F31 := fun_mk (st := (top 40)) l31 c31 k31
    b31 := (fun_mk (st := (top 40)) l31 c31 k31).binds (ps := ["_law_script"]) fun _ _ _ _ _ _ us hl => match us, hl with | [_], _ => rfl
    g31 := PySem.W.mg_of X G a31
    F32 := fun_mk (st := (top 22)) l14 c14 k14
    b32 := (fun_mk (st := (top 22)) l14 c14 k14).binds (ps := ["sentence"]) fun _ _ _ _ _ _ us hl => match us, hl with | [_], _ => rfl
    g32 := PySem.W.mg_of X G a14
    gC0 := PySem.W.mg_of X G aC0
    gC1 := PySem.W.mg_of X G aC1
    gC2 := PySem.W.mg_of X G aC2
    gC3 := PySem.W.mg_of X G aC3
    gC4 := PySem.W.mg_of X G aC4
    gC5 := PySem.W.mg_of X G aC5
    gC6 := PySem.W.mg_of X G aC6
    bC := ⟨bsp, brd, bin⟩
    x1 := ⟨⟨_, _, _, _, _, _, _, _, _, _, _, _, _, _, _, lx1, rv1⟩, sa1, xb1, xty1, kc1⟩
    xi1 := a0
    xt1 := beq_iff_eq.mp i0
    xn1_name := xn1_name
    x4 := ⟨⟨_, _, _, _, _, _, _, _, _, _, _, _, _, _, _, lx4, rv4⟩, sa4, xb4, xty4, kc4⟩
    xi4 := a3
    xt4 := beq_iff_eq.mp i3
    xn4_kind := xn4_kind
    errs := (fun q hq => by
      simp only [List.mem_cons, List.not_mem_nil, or_false] at hq
      rcases hq with rfl | rfl
      · exact ⟨xcl1, xga1, xgg1, xb1, xhd1, xha1, xhn1, xht1, xhm1⟩
      · exact ⟨xcl4, xga4, xgg4, xb4, xhd4, xha4, xhn4, xht4, xhm4⟩)
    exm_BadName := (fun q hq => by
      simp only [List.mem_cons, List.not_mem_nil, or_false] at hq
      rcases hq with rfl | rfl
      · exact PySem.W.exm_ref exb_BadName exd_BadName ext_BadName sub_BadName_1
      · exact PySem.W.exm_ref exb_BadName exd_BadName ext_BadName sub_BadName_4)
    exm_BadKind := (fun q hq => by
      simp only [List.mem_cons, List.not_mem_nil, or_false] at hq
      rcases hq with rfl | rfl
      · exact PySem.W.exm_ref exb_BadKind exd_BadKind ext_BadKind sub_BadKind_1
      · exact PySem.W.exm_ref exb_BadKind exd_BadKind ext_BadKind sub_BadKind_4)
    exm_HeldError := (fun q hq => by
      simp only [List.mem_cons, List.not_mem_nil, or_false] at hq
      rcases hq with rfl | rfl
      · exact PySem.W.exm_ref exb_HeldError exd_HeldError ext_HeldError sub_HeldError_1
      · exact PySem.W.exm_ref exb_HeldError exd_HeldError ext_HeldError sub_HeldError_4)
    kit_ValueError := (fun q hq => by
      simp only [List.mem_cons, List.not_mem_nil, or_false] at hq
      rcases hq with rfl | rfl
      · exact (kit_errT (by decide +kernel) sub_ValueError_1)
      · exact (kit_errT (by decide +kernel) sub_ValueError_4))
    kit_HeldError := (fun q hq => by
      simp only [List.mem_cons, List.not_mem_nil, or_false] at hq
      rcases hq with rfl | rfl
      · exact (kit_err eci_HeldError ext_HeldError esf_1 sub_HeldError_1)
      · exact (kit_err eci_HeldError ext_HeldError esf_4 sub_HeldError_4))
    kit_BadKind_NameTaken_UnknownName_TextError_NotSimple := (fun q hq => by
      simp only [List.mem_cons, List.not_mem_nil, or_false] at hq
      rcases hq with rfl | rfl
      · exact kit_f (kit_err eci_BadKind ext_BadKind esf_1 sub_BadKind_1) (kit_f (kit_err eci_NameTaken ext_NameTaken esf_1 sub_NameTaken_1) (kit_f (kit_err eci_UnknownName ext_UnknownName esf_1 sub_UnknownName_1) (kit_f (kit_err eci_TextError ext_TextError esf_1 sub_TextError_1) (kit_f (kit_err eci_NotSimple ext_NotSimple esf_1 sub_NotSimple_1) (kit_nil)))))
      · exact kit_t (kit_err eci_BadKind ext_BadKind esf_4 sub_BadKind_4))
    kit_BadName_NameTaken_UnknownName_TextError_NotSimple := (fun q hq => by
      simp only [List.mem_cons, List.not_mem_nil, or_false] at hq
      rcases hq with rfl | rfl
      · exact kit_t (kit_err eci_BadName ext_BadName esf_1 sub_BadName_1)
      · exact kit_f (kit_err eci_BadName ext_BadName esf_4 sub_BadName_4) (kit_f (kit_err eci_NameTaken ext_NameTaken esf_4 sub_NameTaken_4) (kit_f (kit_err eci_UnknownName ext_UnknownName esf_4 sub_UnknownName_4) (kit_f (kit_err eci_TextError ext_TextError esf_4 sub_TextError_4) (kit_f (kit_err eci_NotSimple ext_NotSimple esf_4 sub_NotSimple_4) (kit_nil))))))
    kit_BadKind := (fun q hq => by
      simp only [List.mem_cons, List.not_mem_nil, or_false] at hq
      rcases hq with rfl | rfl
      · exact (kit_err eci_BadKind ext_BadKind esf_1 sub_BadKind_1)
      · exact (kit_err eci_BadKind ext_BadKind esf_4 sub_BadKind_4))
    kit_BadName := (fun q hq => by
      simp only [List.mem_cons, List.not_mem_nil, or_false] at hq
      rcases hq with rfl | rfl
      · exact (kit_err eci_BadName ext_BadName esf_1 sub_BadName_1)
      · exact (kit_err eci_BadName ext_BadName esf_4 sub_BadName_4))
    xf_name := (fun q hq => by
      simp only [List.mem_cons, List.not_mem_nil, or_false] at hq
      rcases hq with rfl
      · exact ⟨⟨xcl1, xga1, xgg1, xb1, xhd1, xha1, xhn1, xht1, xhm1⟩, xn1_name⟩)
    xf_kind := (fun q hq => by
      simp only [List.mem_cons, List.not_mem_nil, or_false] at hq
      rcases hq with rfl
      · exact ⟨⟨xcl4, xga4, xgg4, xb4, xhd4, xha4, xhn4, xht4, xhm4⟩, xn4_kind⟩)
    gc_DIGITS := ⟨_, PySem.W.mg_of X G cgv_DIGITS, He.relB_ok rl_DIGITS⟩
    gc_LETTERS := ⟨_, PySem.W.mg_of X G cgv_LETTERS, He.relB_ok rl_LETTERS⟩
    gc_LONGEST_NAME := ⟨_, PySem.W.mg_of X G cgv_LONGEST_NAME, He.relB_ok rl_LONGEST_NAME⟩
    z_ValueError := PySem.W.mg_none_of X G z_ValueError
    z_abs := PySem.W.mg_none_of X G z_abs
    z_bool := PySem.W.mg_none_of X G z_bool
    z_int := PySem.W.mg_none_of X G z_int
    z_isinstance := PySem.W.mg_none_of X G z_isinstance
    z_len := PySem.W.mg_none_of X G z_len
    z_list := PySem.W.mg_none_of X G z_list
    z_max := PySem.W.mg_none_of X G z_max
    z_range := PySem.W.mg_none_of X G z_range
    z_str := PySem.W.mg_none_of X G z_str
    z_tuple := PySem.W.mg_none_of X G z_tuple
  }
  exact ⟨PySem.W.fnOf "law" "law" (defArgs (top 40)) (defBody (top 40)) (defScope (top 40)) .none kV31 dc31 pm31 an31 cd31 ct31, fun s v => .of_eq rfl, fun base _ _ => FnOk.imp (all_ok T 100 31) (spL_imp hlaw)⟩
end Lw

open PySem PySem.W PyProof.Rows in
set_option maxRecDepth 100000 in
set_option maxHeartbeats 0 in
theorem PySem.Challenge.cw_heldproofs_k02_sentences_and_legs_holds : PySem.Challenge.rw_heldproofs_k02_sentences_and_legs.Holds := by
  w_on; o_law; k_head; (case hw => w_witness2)
  k_fill
  refine Ev.walk_law (l := PySem.Challenge.rw_heldproofs_k02_sentences_and_legs) (x := "_law_script") (k := 202) rfl rfl ⟨rfl, by decide, by decide⟩ (fun w h Y => PySem.W.kIn_of Y) ?F
  case F =>
    intro w mg fa h KX G hmg
    refine' Lw.all_mk Lw.law_true KX G hmg ?aC0 ?aC1 ?aC2 ?aC3 ?aC4 ?aC5 ?aC6 ?a0 ?i0 ?l0 ?c0 ?k0 ?a1 ?i1 ?l1 ?c1 ?k1 ?a2 ?i2 ?l2 ?c2 ?k2 ?a3 ?i3 ?l3 ?c3 ?k3 ?a4 ?i4 ?l4 ?c4 ?k4 ?a5 ?l5 ?c5 ?k5 ?a6 ?l6 ?c6 ?k6 ?a7 ?l7 ?c7 ?k7 ?a8 ?l8 ?c8 ?k8 ?a9 ?l9 ?c9 ?k9 ?a10 ?l10 ?kl10_kind ?rl10_kind ?c10 ?k10 ?a11 ?l11 ?c11 ?k11 ?a12 ?l12 ?c12 ?k12 ?a13 ?l13 ?c13 ?k13 ?a14 ?l14 ?c14 ?k14 ?a15 ?l15 ?c15 ?k15 ?a16 ?l16 ?c16 ?k16 ?a17 ?l17 ?c17 ?k17 ?a18 ?l18 ?c18 ?k18 ?a19 ?l19 ?c19 ?k19 ?a20 ?l20 ?c20 ?k20 ?a21 ?l21 ?c21 ?k21 ?a22 ?l22 ?c22 ?k22 ?a23 ?l23 ?c23 ?k23 ?a24 ?l24 ?c24 ?k24 ?a25 ?l25 ?c25 ?k25 ?a26 ?l26 ?c26 ?k26 ?a27 ?l27 ?c27 ?k27 ?a28 ?l28 ?c28 ?k28 ?a29 ?l29 ?c29 ?k29 ?a30 ?l30 ?c30 ?k30 ?a31 ?l31 ?c31 ?k31 ?lx1 ?rv1 ?sa1 ?xb1 ?xty1 ?kc1 ?xcl1 ?xga1 ?xgg1 ?xhd1 ?xha1 ?xhn1 ?xht1 ?xhm1 ?xn1_name ?lx4 ?rv4 ?sa4 ?xb4 ?xty4 ?kc4 ?xcl4 ?xga4 ?xgg4 ?xhd4 ?xha4 ?xhn4 ?xht4 ?xhm4 ?xn4_kind ?bsp ?brd ?bin ?exb_BadName ?exd_BadName ?ext_BadName ?sub_BadName_1 ?sub_BadName_4 ?exb_BadKind ?exd_BadKind ?ext_BadKind ?sub_BadKind_1 ?sub_BadKind_4 ?exb_HeldError ?exd_HeldError ?ext_HeldError ?sub_HeldError_1 ?sub_HeldError_4 ?sub_ValueError_1 ?sub_ValueError_4 ?eci_HeldError ?esf_1 ?esf_4 ?eci_BadKind ?eci_NameTaken ?ext_NameTaken ?sub_NameTaken_1 ?eci_UnknownName ?ext_UnknownName ?sub_UnknownName_1 ?eci_TextError ?ext_TextError ?sub_TextError_1 ?eci_NotSimple ?ext_NotSimple ?sub_NotSimple_1 ?eci_BadName ?sub_NameTaken_4 ?sub_UnknownName_4 ?sub_TextError_4 ?sub_NotSimple_4 ?cgv_DIGITS ?rl_DIGITS ?cgv_LETTERS ?rl_LETTERS ?cgv_LONGEST_NAME ?rl_LONGEST_NAME ?z_ValueError ?z_abs ?z_bool ?z_int ?z_isinstance ?z_len ?z_list ?z_max ?z_range ?z_str ?z_tuple
    (case aC0 => k_is)
    (case aC1 => k_is)
    (case aC2 => k_is)
    (case aC3 => k_is)
    (case aC4 => k_is)
    (case aC5 => k_is)
    (case aC6 => k_is)
    (case a0 => k_is)
    (case i0 => k_is)
    (case l0 => k_is)
    (case c0 => k_is)
    (case k0 => k_is)
    (case a1 => k_is)
    (case i1 => k_is)
    (case l1 => k_is)
    (case c1 => k_is)
    (case k1 => k_is)
    (case a2 => k_is)
    (case i2 => k_is)
    (case l2 => k_is)
    (case c2 => k_is)
    (case k2 => k_is)
    (case a3 => k_is)
    (case i3 => k_is)
    (case l3 => k_is)
    (case c3 => k_is)
    (case k3 => k_is)
    (case a4 => k_is)
    (case i4 => k_is)
    (case l4 => k_is)
    (case c4 => k_is)
    (case k4 => k_is)
    (case a5 => k_is)
    (case l5 => k_is)
    (case c5 => k_is)
    (case k5 => k_is)
    (case a6 => k_is)
    (case l6 => k_is)
    (case c6 => k_is)
    (case k6 => k_is)
    (case a7 => k_is)
    (case l7 => k_is)
    (case c7 => k_is)
    (case k7 => k_is)
    (case a8 => k_is)
    (case l8 => k_is)
    (case c8 => k_is)
    (case k8 => k_is)
    (case a9 => k_is)
    (case l9 => k_is)
    (case c9 => k_is)
    (case k9 => k_is)
    (case a10 => k_is)
    (case l10 => k_is)
    (case kl10_kind => k_is)
    (case rl10_kind => first | rfl | decide +kernel)
    (case c10 => k_is)
    (case k10 => k_is)
    (case a11 => k_is)
    (case l11 => k_is)
    (case c11 => k_is)
    (case k11 => k_is)
    (case a12 => k_is)
    (case l12 => k_is)
    (case c12 => k_is)
    (case k12 => k_is)
    (case a13 => k_is)
    (case l13 => k_is)
    (case c13 => k_is)
    (case k13 => k_is)
    (case a14 => k_is)
    (case l14 => k_is)
    (case c14 => k_is)
    (case k14 => k_is)
    (case a15 => k_is)
    (case l15 => k_is)
    (case c15 => k_is)
    (case k15 => k_is)
    (case a16 => k_is)
    (case l16 => k_is)
    (case c16 => k_is)
    (case k16 => k_is)
    (case a17 => k_is)
    (case l17 => k_is)
    (case c17 => k_is)
    (case k17 => k_is)
    (case a18 => k_is)
    (case l18 => k_is)
    (case c18 => k_is)
    (case k18 => k_is)
    (case a19 => k_is)
    (case l19 => k_is)
    (case c19 => k_is)
    (case k19 => k_is)
    (case a20 => k_is)
    (case l20 => k_is)
    (case c20 => k_is)
    (case k20 => k_is)
    (case a21 => k_is)
    (case l21 => k_is)
    (case c21 => k_is)
    (case k21 => k_is)
    (case a22 => k_is)
    (case l22 => k_is)
    (case c22 => k_is)
    (case k22 => k_is)
    (case a23 => k_is)
    (case l23 => k_is)
    (case c23 => k_is)
    (case k23 => k_is)
    (case a24 => k_is)
    (case l24 => k_is)
    (case c24 => k_is)
    (case k24 => k_is)
    (case a25 => k_is)
    (case l25 => k_is)
    (case c25 => k_is)
    (case k25 => k_is)
    (case a26 => k_is)
    (case l26 => k_is)
    (case c26 => k_is)
    (case k26 => k_is)
    (case a27 => k_is)
    (case l27 => k_is)
    (case c27 => k_is)
    (case k27 => k_is)
    (case a28 => k_is)
    (case l28 => k_is)
    (case c28 => k_is)
    (case k28 => k_is)
    (case a29 => k_is)
    (case l29 => k_is)
    (case c29 => k_is)
    (case k29 => k_is)
    (case a30 => k_is)
    (case l30 => k_is)
    (case c30 => k_is)
    (case k30 => k_is)
    (case a31 => k_is)
    (case l31 => k_is)
    (case c31 => k_is)
    (case k31 => k_is)
    (case lx1 => k_is)
    (case rv1 => first | rfl | decide +kernel)
    (case sa1 => k_is)
    (case xb1 => k_is)
    (case xty1 => k_is)
    (case kc1 => k_is)
    (case xcl1 => k_is)
    (case xga1 => k_is)
    (case xgg1 => k_is)
    (case xhd1 => k_is)
    (case xha1 => k_is)
    (case xhn1 => k_is)
    (case xht1 => k_is)
    (case xhm1 => k_is)
    (case xn1_name => k_is)
    (case lx4 => k_is)
    (case rv4 => first | rfl | decide +kernel)
    (case sa4 => k_is)
    (case xb4 => k_is)
    (case xty4 => k_is)
    (case kc4 => k_is)
    (case xcl4 => k_is)
    (case xga4 => k_is)
    (case xgg4 => k_is)
    (case xhd4 => k_is)
    (case xha4 => k_is)
    (case xhn4 => k_is)
    (case xht4 => k_is)
    (case xhm4 => k_is)
    (case xn4_kind => k_is)
    (case bsp => k_is)
    (case brd => k_is)
    (case bin => k_is)
    (case exb_BadName => k_is)
    (case exd_BadName => k_is)
    (case ext_BadName => k_is)
    (case sub_BadName_1 => k_is)
    (case sub_BadName_4 => k_is)
    (case exb_BadKind => k_is)
    (case exd_BadKind => k_is)
    (case ext_BadKind => k_is)
    (case sub_BadKind_1 => k_is)
    (case sub_BadKind_4 => k_is)
    (case exb_HeldError => k_is)
    (case exd_HeldError => k_is)
    (case ext_HeldError => k_is)
    (case sub_HeldError_1 => k_is)
    (case sub_HeldError_4 => k_is)
    (case sub_ValueError_1 => k_is)
    (case sub_ValueError_4 => k_is)
    (case eci_HeldError => k_is)
    (case esf_1 => k_is)
    (case esf_4 => k_is)
    (case eci_BadKind => k_is)
    (case eci_NameTaken => k_is)
    (case ext_NameTaken => k_is)
    (case sub_NameTaken_1 => k_is)
    (case eci_UnknownName => k_is)
    (case ext_UnknownName => k_is)
    (case sub_UnknownName_1 => k_is)
    (case eci_TextError => k_is)
    (case ext_TextError => k_is)
    (case sub_TextError_1 => k_is)
    (case eci_NotSimple => k_is)
    (case ext_NotSimple => k_is)
    (case sub_NotSimple_1 => k_is)
    (case eci_BadName => k_is)
    (case sub_NameTaken_4 => k_is)
    (case sub_UnknownName_4 => k_is)
    (case sub_TextError_4 => k_is)
    (case sub_NotSimple_4 => k_is)
    (case cgv_DIGITS => k_is)
    (case rl_DIGITS => first | rfl | decide +kernel)
    (case cgv_LETTERS => k_is)
    (case rl_LETTERS => first | rfl | decide +kernel)
    (case cgv_LONGEST_NAME => k_is)
    (case rl_LONGEST_NAME => first | rfl | decide +kernel)
    (case z_ValueError => k_is)
    (case z_abs => k_is)
    (case z_bool => k_is)
    (case z_int => k_is)
    (case z_isinstance => k_is)
    (case z_len => k_is)
    (case z_list => k_is)
    (case z_max => k_is)
    (case z_range => k_is)
    (case z_str => k_is)
    (case z_tuple => k_is)
