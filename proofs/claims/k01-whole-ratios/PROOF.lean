import PyProof.Rows.All
import Wide.All
import OpenK.AllK
import Wide.FinOn
import HandS.ForMost
import HandS.WordsExc
import HandS.CallSlots
import HandS.Wide
import HandS.IsInst
import HandS.Style
import HandS.Flow
import PySem.Challenge.RW_curtainsteps_k01_whole_ratios
set_option Elab.async false
set_option maxRecDepth 100000
set_option linter.all false
set_option maxHeartbeats 4000000
/-! DL: pure values and a store over the hand layer. A piece of program text is given a plain Lean function (its denotation); one lemma a construct. -/
namespace DL
open PySem PySem.Spec L2
open PyProof.Rows hiding St
set_option autoImplicit true
abbrev Frag := PySem.W.Frag

/-- a value as plain data; ptr n: the n-th cell of the store -/
inductive D where
  | non | bl (b : Bool) | int (i : Int) | str (x : Str) | raw (v : V)
  | tup (ds : List D) | lst (ds : List D) | fls (ds : List D) | dic (ks : List Key) (ds : List D)
  | ptr (n : Nat)
/-- what stands in a cell -/
inductive MO where
  | lst (ds : List D) | dic (ks : List Key) (ds : List D)
abbrev Sto := List MO
abbrev En := List (Option D)
/-- an exception: the class's name, its fields -/
structure XV where
  c : Str
  fs : List (Str × D)
structure Cg where
  K : Frag
  mg : Str → Option Value
/-- a point of the run: the cells' addresses, what is seen of the heap, the heap -/
structure Pt where
  rho : List Addr
  V : Hp
  H : Hp
  sub : ∀ b o, V b = some o → H b = some o

/-- what may be read at a and is never written: u -/
def Fix (p : Pt) (a : Addr) (u : HO) : Prop := Rd p.V a u ∧ a ∉ p.rho
def STup (K : Frag) (p : Pt) (a : Addr) (xs : List V) : Prop :=
  Fix p a (.tup xs) ∨
    ∃ (o : Obj) (its : Array Value) (n : Nat), K.lookup a = some o ∧ o.cls = .type "tuple" ∧ o.data = .seq its n ∧ its.size ≤ sizeLine ∧ Vals xs its.toList
def SLst (K : Frag) (p : Pt) (a : Addr) (xs : List V) : Prop :=
  Fix p a (.lst xs) ∨
    ∃ (o : Obj) (its : Array Value) (n : Nat), K.lookup a = some o ∧ o.cls = .type "list" ∧ o.dict = none ∧ o.data = .seq its n ∧ its.size ≤ sizeLine ∧ Vals xs its.toList
theorem Pt.rd {p : Pt} {a u} (h : Rd p.V a u) : Rd p.H a u := by
  rcases h with h | ⟨o, h⟩
  · exact .inl (p.sub _ _ h)
  · exact .inr ⟨o, p.sub _ _ h⟩
theorem STup.sq {K p a xs} (h : STup K p a xs) : SqT K p.H a xs := by
  rcases h with h | h
  · exact .inl (Pt.rd h.1)
  · exact .inr h
theorem SLst.sq {K p a xs} (h : SLst K p a xs) : SqL K p.H a xs := by
  rcases h with h | h
  · exact .inl (Pt.rd h.1)
  · exact .inr h

mutual
inductive Rep (K : Frag) (p : Pt) : D → V → Prop
  | non : Rep K p .non .non
  | bl (b : Bool) : Rep K p (.bl b) (.bl b)
  | int (i : Int) : Rep K p (.int i) (.int i)
  | str (x : Str) : Rep K p (.str x) (.str x)
  | raw (v : V) : Rep K p (.raw v) v
  | tup {a : Addr} {ds : List D} {vs : List V} : STup K p a vs → Reps K p ds vs → Rep K p (.tup ds) (.ref a)
  | lst {a : Addr} {ds : List D} {vs : List V} : p.V a = some (.lst vs) → a ∉ p.rho → Reps K p ds vs → Rep K p (.lst ds) (.ref a)
  | fls {a : Addr} {ds : List D} {vs : List V} : SLst K p a vs → Reps K p ds vs → Rep K p (.fls ds) (.ref a)
  | dic {a : Addr} {ks : List Key} {ds : List D} {vs : List V} : p.V a = some (.dK (ks.zip vs)) → a ∉ p.rho → ks.length = ds.length → Reps K p ds vs → Rep K p (.dic ks ds) (.ref a)
  | ptr {n : Nat} {a : Addr} : p.rho[n]? = some a → Rep K p (.ptr n) (.ref a)
inductive Reps (K : Frag) (p : Pt) : List D → List V → Prop
  | nil : Reps K p [] []
  | cons {d : D} {v : V} {ds : List D} {vs : List V} : Rep K p d v → Reps K p ds vs → Reps K p (d :: ds) (v :: vs)
end

/-- the run has gone on from p to q: all that was seen, but the cells, is kept; what was not seen is kept; what is new is new -/
structure Ext (p q : Pt) : Prop where
  pre : ∃ t, q.rho = p.rho ++ t
  keep : ∀ b o, p.V b = some o → b ∉ p.rho → q.V b = some o
  new : ∀ b, b ∈ q.rho → b ∉ p.rho → p.H b = none
  vis : ∀ b o, q.V b = some o → p.V b = none → p.H b = none
  hid : ∀ b o, p.H b = some o → p.V b = none → q.H b = some o
theorem Ext.refl {p} : Ext p p := ⟨⟨[], by simp⟩, fun _ _ h _ => h, fun _ h n => absurd h n, fun b o h n => by { rw [h] at n; cases n }, fun _ _ h _ => h⟩
theorem Ext.nn {p q a o} (e : Ext p q) (h : p.V a = some o) (n : a ∉ p.rho) : a ∉ q.rho := fun z => by
  have := p.sub _ _ h
  rw [e.new a z n] at this; cases this
theorem Ext.trans {p q r} (a : Ext p q) (b : Ext q r) : Ext p r := by
  have back : ∀ c, q.H c = none → p.V c = none → p.H c = none := fun c h n => by
    cases z : p.H c with
    | none => rfl
    | some o => rw [a.hid c o z n] at h; cases h
  refine ⟨?_, fun c o h n => b.keep c o (a.keep c o h n) (a.nn h n), fun c h n => ?_, fun c o h n => ?_, fun c o h n => ?_⟩
  · obtain ⟨t, e1⟩ := a.pre
    obtain ⟨u, e2⟩ := b.pre
    exact ⟨t ++ u, by rw [e2, e1, List.append_assoc]⟩
  · by_cases z : c ∈ q.rho
    · exact a.new c z n
    · have hq := b.new c h z
      cases y : p.V c with
      | none => exact back c hq y
      | some o =>
        have := q.sub _ _ (a.keep c o y n)
        rw [hq] at this; cases this
  · cases y : q.V c with
    | some u => exact a.vis c u y n
    | none => exact back c (b.vis c o h y) n
  · refine b.hid c o (a.hid c o h n) ?_
    cases y : q.V c with
    | none => rfl
    | some u => rw [a.vis c u y n] at h; cases h
/-- all that is seen and is no cell of p is so at q -/
structure Mo (p q : Pt) : Prop where
  pre : ∃ t, q.rho = p.rho ++ t
  keep : ∀ b o, p.V b = some o → b ∉ p.rho → q.V b = some o
  nn : ∀ b o, p.V b = some o → b ∉ p.rho → b ∉ q.rho
theorem Ext.mo {p q} (e : Ext p q) : Mo p q := ⟨e.pre, e.keep, fun _ _ h n => e.nn h n⟩
theorem Fix.mo {p q a u} (e : Mo p q) (h : Fix p a u) : Fix q a u := by
  obtain ⟨r, n⟩ := h
  rcases r with r | ⟨o, r⟩
  · exact ⟨.inl (e.keep a _ r n), e.nn _ _ r n⟩
  · exact ⟨.inr ⟨o, e.keep a _ r n⟩, e.nn _ _ r n⟩
theorem STup.mo {K p q a xs} (e : Mo p q) (h : STup K p a xs) : STup K q a xs := by
  rcases h with h | h
  · exact .inl (h.mo e)
  · exact .inr h
theorem SLst.mo {K p q a xs} (e : Mo p q) (h : SLst K p a xs) : SLst K q a xs := by
  rcases h with h | h
  · exact .inl (h.mo e)
  · exact .inr h
theorem STup.mono {K p q a xs} (e : Ext p q) (h : STup K p a xs) : STup K q a xs := h.mo e.mo
theorem SLst.mono {K p q a xs} (e : Ext p q) (h : SLst K p a xs) : SLst K q a xs := h.mo e.mo
mutual
theorem Rep.mo {K p q} (e : Mo p q) : ∀ {d v}, Rep K p d v → Rep K q d v
  | _, _, .non => .non
  | _, _, .bl b => .bl b
  | _, _, .int i => .int i
  | _, _, .str x => .str x
  | _, _, .raw v => .raw v
  | _, _, .tup s r => .tup (s.mo e) (Reps.mo e r)
  | _, _, .lst s n r => .lst (e.keep _ _ s n) (e.nn _ _ s n) (Reps.mo e r)
  | _, _, .fls s r => .fls (s.mo e) (Reps.mo e r)
  | _, _, .dic s n l r => .dic (e.keep _ _ s n) (e.nn _ _ s n) l (Reps.mo e r)
  | _, _, .ptr h => .ptr (by
      obtain ⟨t, e⟩ := e.pre
      rw [e, List.getElem?_append_left (List.getElem?_eq_some_iff.mp h).1]; exact h)
theorem Reps.mo {K p q} (e : Mo p q) : ∀ {ds vs}, Reps K p ds vs → Reps K q ds vs
  | _, _, .nil => .nil
  | _, _, .cons a b => .cons (Rep.mo e a) (Reps.mo e b)
end
theorem Rep.mono {K p q} (e : Ext p q) {d v} (h : Rep K p d v) : Rep K q d v := h.mo e.mo
theorem Reps.mono {K p q} (e : Ext p q) {d v} (h : Reps K p d v) : Reps K q d v := h.mo e.mo
theorem Reps.length {K p} : ∀ {ds vs}, Reps K p ds vs → ds.length = vs.length
  | _, _, .nil => rfl
  | _, _, .cons _ b => by simp [Reps.length b]
theorem Reps.get {K p} : ∀ {ds : List D} {vs : List V} {i : Nat} {d : D}, Reps K p ds vs → ds[i]? = some d → ∃ v, vs[i]? = some v ∧ Rep K p d v
  | _, _, _, _, .nil, h => by simp at h
  | _, _, 0, _, .cons a b, h => by simp at h; subst h; exact ⟨_, rfl, a⟩
  | _, _, i + 1, _, .cons a b, h => by simpa using Reps.get (i := i) b (by simpa using h)
theorem Reps.get' {K p} : ∀ {ds : List D} {vs : List V} {i : Nat} {v : V}, Reps K p ds vs → vs[i]? = some v → ∃ d, ds[i]? = some d ∧ Rep K p d v
  | _, _, _, _, .nil, h => by simp at h
  | _, _, 0, _, .cons a b, h => by simp at h; subst h; exact ⟨_, rfl, a⟩
  | _, _, i + 1, _, .cons a b, h => by simpa using Reps.get' (i := i) b (by simpa using h)
theorem Reps.append {K p} : ∀ {ds es : List D} {vs ws : List V}, Reps K p ds vs → Reps K p es ws → Reps K p (ds ++ es) (vs ++ ws)
  | _, _, _, _, .nil, h => h
  | _, _, _, _, .cons a b, h => .cons a (Reps.append b h)
theorem Reps.take {K p} : ∀ {ds : List D} {vs : List V} (n : Nat), Reps K p ds vs → Reps K p (ds.take n) (vs.take n)
  | _, _, 0, _ => .nil
  | _, _, _ + 1, .nil => .nil
  | _, _, n + 1, .cons a b => .cons a (Reps.take n b)
theorem Reps.drop {K p} : ∀ {ds : List D} {vs : List V} (n : Nat), Reps K p ds vs → Reps K p (ds.drop n) (vs.drop n)
  | _, _, 0, h => h
  | _, _, _ + 1, .nil => .nil
  | _, _, n + 1, .cons _ b => Reps.drop n b
theorem Reps.set {K p d v} (r : Rep K p d v) : ∀ {ds : List D} {vs : List V} (n : Nat), Reps K p ds vs → Reps K p (ds.set n d) (vs.set n v)
  | _, _, _, .nil => .nil
  | _, _, 0, .cons _ b => .cons r b
  | _, _, n + 1, .cons a b => .cons a (Reps.set r n b)
theorem Reps.reverse {K p} {ds : List D} {vs : List V} (h : Reps K p ds vs) : Reps K p ds.reverse vs.reverse := by
  induction ds generalizing vs with
  | nil => cases h; exact .nil
  | cons d ds ih =>
    cases h with
    | cons a b =>
      simp only [List.reverse_cons]
      exact (ih b).append (.cons a .nil)

/-- a cell -/
def RepM (K : Frag) (p : Pt) (a : Addr) : MO → Prop
  | .lst ds => ∃ vs, p.V a = some (.lst vs) ∧ Reps K p ds vs
  | .dic ks ds => ∃ vs, p.V a = some (.dK (ks.zip vs)) ∧ ks.length = ds.length ∧ Reps K p ds vs
structure RepS (K : Frag) (p : Pt) (st : Sto) : Prop where
  len : st.length = p.rho.length
  nd : p.rho.Nodup
  at_ : ∀ (n : Nat) (m : MO) (a : Addr), st[n]? = some m → p.rho[n]? = some a → RepM K p a m
theorem RepS.has {K p st} (h : RepS K p st) {b : Addr} (hb : b ∈ p.rho) : (∃ xs, p.V b = some (.lst xs)) ∨ ∃ kvs, p.V b = some (.dK kvs) := by
  obtain ⟨n, hn⟩ := List.mem_iff_getElem?.mp hb
  have hl : n < st.length := by rw [h.len]; exact (List.getElem?_eq_some_iff.mp hn).1
  have q := h.at_ n st[n] b (List.getElem?_eq_getElem hl) hn
  cases e : st[n] with
  | lst ds => rw [e] at q; obtain ⟨vs, h1, _⟩ := q; exact .inl ⟨_, h1⟩
  | dic ks ds => rw [e] at q; obtain ⟨vs, h1, _⟩ := q; exact .inr ⟨_, h1⟩
theorem RepS.ne {K p st} (h : RepS K p st) {b : Addr} (hb : p.V b = none) : b ∉ p.rho := fun z => by
  rcases h.has z with ⟨xs, q⟩ | ⟨kvs, q⟩ <;> rw [hb] at q <;> cases q
theorem Pt.free {p : Pt} {b : Addr} (h : p.H b = none) : p.V b = none := by
  cases q : p.V b with
  | none => rfl
  | some o => rw [p.sub _ _ q] at h; cases h
theorem RepS.nh {K p st} (h : RepS K p st) {b : Addr} (hb : p.H b = none) : b ∉ p.rho := h.ne (Pt.free hb)
/-- the slots -/
structure RepE (K : Frag) (p : Pt) (env : En) (σ : St) : Prop where
  len : env.length = σ.length
  at_ : ∀ (i : Nat) (d : D), env[i]? = some (some d) → ∃ v, σ[i]? = some (some v) ∧ Rep K p d v
theorem RepE.mono {K p q env σ} (e : Ext p q) (h : RepE K p env σ) : RepE K q env σ :=
  ⟨h.len, fun i d q => let ⟨v, a, b⟩ := h.at_ i d q; ⟨v, a, b.mono e⟩⟩
theorem RepE.set {K p env σ d v} (h : RepE K p env σ) (i : Nat) (r : Rep K p d v) : RepE K p (env.set i (some d)) (σ.set i (some v)) := by
  refine ⟨by simpa using h.len, fun j x q => ?_⟩
  by_cases hj : i = j
  · subst hj
    by_cases hl : i < env.length
    · rw [List.getElem?_set_self hl] at q
      cases q
      exact ⟨v, by rw [List.getElem?_set_self (by rw [← h.len]; exact hl)], r⟩
    · rw [List.getElem?_eq_none (by simpa using hl)] at q; cases q
  · rw [List.getElem?_set_ne hj] at q
    rw [List.getElem?_set_ne hj]
    exact h.at_ j x q

/-- an exception -/
def RepX (G : Cg) (p : Pt) (x : XV) (cls : Value) (dd : Option Addr) : Prop :=
  (G.mg x.c = some cls ∨ (G.mg x.c = none ∧ bootBuiltins x.c = some cls)) ∧
  ((x.fs = [] ∧ dd = none) ∨ ∃ d vs, dd = some d ∧ d ∉ p.rho ∧ p.V d = some (.xd ((x.fs.map (·.1)).zip vs)) ∧ Reps G.K p (x.fs.map (·.2)) vs)

inductive Out (α : Type) where
  | ok (a : α) (st : Sto) | exc (x : XV) (st : Sto) | bad
def Out.bind {α β : Type} (o : Out α) (k : α → Sto → Out β) : Out β := match o with
  | .ok a st => k a st
  | .exc x st => .exc x st
  | .bad => .bad
@[simp] theorem Out.bind_ok {α β : Type} {a : α} {st : Sto} {k : α → Sto → Out β} : (Out.ok a st).bind k = k a st := rfl
@[simp] theorem Out.bind_bad {α β : Type} {k : α → Sto → Out β} : (Out.bad : Out α).bind k = .bad := rfl
@[simp] theorem Out.bind_exc {α β : Type} {x : XV} {st : Sto} {k : α → Sto → Out β} : (Out.exc x st : Out α).bind k = .exc x st := rfl

/-- what is wanted behind an outcome -/
def Aft {α β : Type} (R : Pt → α → β → Prop) (G : Cg) (p : Pt) (o : Out α) (Q : β → Hp → Prop) (E : XK) : Prop := match o with
  | .ok a st => ∀ q b, Ext p q → R q a b → RepS G.K q st → Q b q.H
  | .exc x st => ∀ q cls dd, Ext p q → RepX G q x cls dd → RepS G.K q st → E cls dd q.H
  | .bad => False
section
variable {α β γ δ : Type} {R : Pt → α → β → Prop} {R' : Pt → γ → δ → Prop} {G : Cg} {p q : Pt} {o : Out α} {Q Q' : β → Hp → Prop} {E E' : XK}
theorem Aft.mono (h : Aft R G p o Q E) (hq : ∀ b H', Q b H' → Q' b H') : Aft R G p o Q' E := by
  cases o with
  | ok a st => exact fun q b e r s => hq _ _ (h q b e r s)
  | exc x st => exact h
  | bad => exact h
theorem Aft.monoE (h : Aft R G p o Q E) (hq : ∀ c d H', E c d H' → E' c d H') : Aft R G p o Q E' := by
  cases o with
  | ok a st => exact h
  | exc x st => exact fun q c d e r s => hq _ _ _ (h q c d e r s)
  | bad => exact h
theorem Aft.ext (e : Ext p q) (h : Aft R G p o Q E) : Aft R G q o Q E := by
  cases o with
  | ok a st => exact fun q b e' r s => h q b (e.trans e') r s
  | exc x st => exact fun q c d e' r s => h q c d (e.trans e') r s
  | bad => exact h
/-- the first part runs, then the rest -/
theorem Aft.bind {k : α → Sto → Out γ} {Q : δ → Hp → Prop} (h : Aft R' G p (o.bind k) Q E) :
    Aft R G p o (fun b H' => ∃ q a st', q.H = H' ∧ Ext p q ∧ R q a b ∧ RepS G.K q st' ∧ Aft R' G q (k a st') Q E) E := by
  cases o with
  | ok a st => exact fun q b e r s => ⟨q, a, st, rfl, e, r, s, h.ext e⟩
  | exc x st => exact h
  | bad => exact h
theorem Aft.now {a : α} {b : β} {st : Sto} (h : Aft R G p (.ok a st) Q E) (r : R p a b) (s : RepS G.K p st) : Q b p.H := h p b .refl r s
end

/-! ### expressions -/
abbrev Den := En → Sto → Out D
abbrev Cx.g (X : Cx) : Cg := ⟨X.K, X.mg⟩
abbrev wAt (W : WX) (σ : St) : XK := fun c d H => W c d σ H
def tD (G : Cg) (W : WX) (φ : Den) : TE := fun σ H Q => ∃ p env st, p.H = H ∧ RepE G.K p env σ ∧ RepS G.K p st ∧ Aft (Rep G.K) G p (φ env st) Q (wAt W σ)
def PEv (X : Cx) (W : WX) (e : Expr) (φ : Den) : Prop := PE X e (tD (Cx.g X) W φ)
section
variable {G : Cg} {W : WX} {φ : Den} {σ : St} {H : Hp} {p : Pt} {env : En} {st : Sto}
theorem tD.mono {Q Q' : VK} (h : tD G W φ σ H Q) (hq : ∀ v H', Q v H' → Q' v H') : tD G W φ σ H Q' :=
  let ⟨p, env, st, z, a, b, c⟩ := h
  ⟨p, env, st, z, a, b, c.mono hq⟩
theorem tD.run {γ δ : Type} {R' : Pt → γ → δ → Prop} {k : D → Sto → Out γ} {Q : δ → Hp → Prop} (hE : RepE G.K p env σ) (hS : RepS G.K p st) (h : Aft R' G p ((φ env st).bind k) Q (wAt W σ)) :
    tD G W φ σ p.H (fun v H1 => ∃ q d st1, q.H = H1 ∧ Ext p q ∧ Rep G.K q d v ∧ RepS G.K q st1 ∧ Aft R' G q (k d st1) Q (wAt W σ)) :=
  ⟨p, env, st, rfl, hE, hS, Aft.bind h⟩
end
theorem pev_of {X : Cx} {W : WX} {e : Expr} {t : TE} {φ : Den} (h : PE X e t) (i : ∀ σ Q p env st, RepE X.K p env σ → RepS X.K p st → Aft (Rep X.K) (Cx.g X) p (φ env st) Q (wAt W σ) → t σ p.H Q) : PEv X W e φ :=
  ⟨fun pins s σ H Q I ⟨p, env, st, z, hE, hS, q⟩ => h.run pins s σ H Q I (z ▸ i σ Q p env st hE hS q)⟩

/-- argument lists -/
def evL : List Den → En → Sto → Out (List D)
  | [], _, st => .ok [] st
  | φ :: r, env, st => (φ env st).bind fun d st => (evL r env st).bind fun ds st => .ok (d :: ds) st
def tL (G : Cg) (W : WX) (φs : List Den) : TA := fun σ H Q => ∃ p env st, p.H = H ∧ RepE G.K p env σ ∧ RepS G.K p st ∧ Aft (Reps G.K) G p (evL φs env st) Q (wAt W σ)
def PAv (X : Cx) (W : WX) (es : List Expr) (φs : List Den) : Prop := PA X es (tL (Cx.g X) W φs)
section
variable {G : Cg} {W : WX} {φs : List Den} {σ : St} {H : Hp} {p : Pt} {env : En} {st : Sto}
theorem tL.mono {Q Q' : List V → Hp → Prop} (h : tL G W φs σ H Q) (hq : ∀ v H', Q v H' → Q' v H') : tL G W φs σ H Q' :=
  let ⟨p, env, st, z, a, b, c⟩ := h
  ⟨p, env, st, z, a, b, c.mono hq⟩
theorem tL.run {γ δ : Type} {R' : Pt → γ → δ → Prop} {k : List D → Sto → Out γ} {Q : δ → Hp → Prop} (hE : RepE G.K p env σ) (hS : RepS G.K p st) (h : Aft R' G p ((evL φs env st).bind k) Q (wAt W σ)) :
    tL G W φs σ p.H (fun v H1 => ∃ q d st1, q.H = H1 ∧ Ext p q ∧ Reps G.K q d v ∧ RepS G.K q st1 ∧ Aft R' G q (k d st1) Q (wAt W σ)) :=
  ⟨p, env, st, rfl, hE, hS, Aft.bind h⟩
end
theorem pav_nil {X : Cx} {W : WX} : PAv X W [] [] :=
  ⟨fun pos pins s σ H Q I ⟨p, env, st, z, hE, hS, h⟩ => (pa_nil (X := X)).run pos pins s σ H Q I (z ▸ h.now .nil hS)⟩
theorem pav_cons {X : Cx} {W : WX} {e : Expr} {es : List Expr} {φ : Den} {φs : List Den} (ha : PEv X W e φ) (hr : PAv X W es φs) (hs : starEach (e :: es) X.env = (false, eval e X.env) :: starEach es X.env := by rfl) : PAv X W (e :: es) (φ :: φs) :=
  ⟨fun pos pins s σ H Q I ⟨p, env, st, z, hE, hS, h⟩ => (pa_cons (X := X) ha hr hs).run pos pins s σ H Q I (by
    subst z
    refine (tD.run hE hS h).mono fun v H1 ⟨p1, d, st1, z1, e1, r1, s1, h1⟩ => ?_
    subst z1
    refine (tL.run (hE.mono e1) s1 h1).mono fun vs H2 ⟨p2, ds, st2, z2, e2, r2, s2, h2⟩ => ?_
    subst z2
    exact h2.now (.cons (r1.mono e2) r2) s2)⟩
end DL

/-! DL: rules for expressions, tests, statements, loops, calls. -/
namespace DL
open PySem PySem.Spec L2
open PyProof.Rows hiding St
set_option autoImplicit true

/-- where one stands: what every rule may use -/
structure Ok (X : Cx) (W : WX) (k : Nat) : Prop where
  calm : X.calm = true
  nd : X.N.Nodup
  room : Room k X.A
  tk : Takes X W
  po : PassesOwn (model X.prog X.w) X.A X.env X.xe
abbrev wNo : WX := fun _ _ _ _ => False
theorem Ok.blk {X : Cx} {W : WX} {k : Nat} (o : Ok X W k) (s : Shared) (H : Hp) (scope : Scope) (cenv : PySem.Env) (fp : List Addr) : Ok (X.blk s H scope cenv fp) wNo k :=
  ⟨o.calm, o.nd, o.room, takes0, PassesOwn.never⟩

/-! ### names, constants -/
def dVar (i : Nat) : Den := fun env st => match env[i]? with
  | some (some d) => .ok d st
  | _ => .bad
def dC (d : D) : Den := fun _ st => .ok d st
section
variable {X : Cx} {W : WX} {k : Nat} {pos : Pos}
theorem pev_var (i : Nat) {x : Str} (hN : X.N[i]? = some x := by rfl) (hv : Vis X.env.scope x := by first | exact Or.inl rfl | exact Or.inr (Or.inl rfl) | exact Or.inr (Or.inr rfl)) (hd : (x == ("__debug__" : Str)) = false := by decide)
    (hcd : (x == ("__classdict__" : Str)) = false := by decide) : PEv X W (.Name x pos) (dVar i) := by
  refine pev_of (pe_var hN hv hd hcd) fun σ Q p env st hE hS h => ?_
  unfold dVar at h
  split at h
  · rename_i d e
    obtain ⟨v, e1, r⟩ := hE.at_ i d e
    exact ⟨v, e1, h.now r hS⟩
  · exact h.elim
theorem pev_c {e : Expr} {v : V} {d : D} (h : PE X e (tC v)) (r : ∀ p, Rep X.K p d v) : PEv X W e (dC d) :=
  pev_of h fun σ Q p env st hE hS q => q.now (r p) hS
theorem pev_int {i j} : PEv X W (.Constant (.int i) j pos) (dC (.int i)) := pev_c pe_int fun _ => .int i
theorem pev_bl {b j} : PEv X W (.Constant (.bool b) j pos) (dC (.bl b)) := pev_c pe_bl fun _ => .bl b
theorem pev_non {j} : PEv X W (.Constant .none j pos) (dC .non) := pev_c pe_non fun _ => .non
theorem pev_str {x j} : PEv X W (.Constant (.str x) j pos) (dC (.str x)) := pev_c pe_str fun _ => .str x
/-- a constant of the module -/
structure GCon (G : Cg) (x : Str) (d : D) : Prop where
  ex : ∃ u v, G.mg x = some u ∧ RelV v u ∧ ∀ p, Rep G.K p d v
theorem pev_glob {x : Str} {d : D} (h : GCon (Cx.g X) x d) (hg : Gl X x := by rfl) (hd : (x == ("__debug__" : Str)) = false := by decide) : PEv X W (.Name x pos) (dC d) := by
  obtain ⟨u, v, e, r, rr⟩ := h.ex
  exact pev_c (pe_glob hg e r hd) rr

/-! ### operators of two values, of one -/
def dOp2 (f : D → D → Sto → Out D) (a b : Den) : Den := fun env st => (a env st).bind fun x st => (b env st).bind fun y st => f x y st
def dOp1 (f : D → Sto → Out D) (a : Den) : Den := fun env st => (a env st).bind f
/-- f tells what r wants -/
def Op2 (G : Cg) (f : D → D → Sto → Out D) (r : R2) : Prop := ∀ p st x y v u Q E, Rep G.K p x v → Rep G.K p y u → RepS G.K p st → Aft (Rep G.K) G p (f x y st) Q E → r v u p.H Q
def Op1 (G : Cg) (f : D → Sto → Out D) (r : V → Hp → VK → Prop) : Prop := ∀ p st x v Q E, Rep G.K p x v → RepS G.K p st → Aft (Rep G.K) G p (f x st) Q E → r v p.H Q
theorem tOp_of {r : R2} {f : D → D → Sto → Out D} {φa φb : Den} (hf : Op2 (Cx.g X) f r) (σ : St) (Q : VK) (p : Pt) (env : En) (st : Sto) (hE : RepE X.K p env σ) (hS : RepS X.K p st) (h : Aft (Rep X.K) (Cx.g X) p (dOp2 f φa φb env st) Q (wAt W σ)) : tOp r (tD (Cx.g X) W φa) (tD (Cx.g X) W φb) σ p.H Q := by
  refine (tD.run hE hS h).mono fun x H1 ⟨p1, d, st1, z1, e1, r1, s1, h1⟩ => ?_
  subst z1
  refine (tD.run (hE.mono e1) s1 h1).mono fun y H2 ⟨p2, d2, st2, z2, e2, r2, s2, h2⟩ => ?_
  subst z2
  exact hf _ _ _ _ _ _ _ _ (r1.mono e2) r2 s2 h2
theorem tUn_of {r : V → Hp → VK → Prop} {f : D → Sto → Out D} {φa : Den} (hf : Op1 (Cx.g X) f r) (σ : St) (Q : VK) (p : Pt) (env : En) (st : Sto) (hE : RepE X.K p env σ) (hS : RepS X.K p st) (h : Aft (Rep X.K) (Cx.g X) p (dOp1 f φa env st) Q (wAt W σ)) : tUn r (tD (Cx.g X) W φa) σ p.H Q := by
  refine (tD.run hE hS h).mono fun x H1 ⟨p1, d, st1, z1, e1, r1, s1, h1⟩ => ?_
  subst z1
  exact hf _ _ _ _ _ _ r1 s1 h1
theorem pev_bin {op : Operator} {r : R2} {f : D → D → Sto → Out D} {a b : Expr} {φa φb : Den} (ho : OpR X (binaryOp op) r) (hf : Op2 (Cx.g X) f r) (ha : PEv X W a φa) (hb : PEv X W b φb) : PEv X W (.BinOp a op b pos) (dOp2 f φa φb) :=
  pev_of (pe_op ho ha hb) (tOp_of hf)
theorem pev_cmp {op : CmpOp} {r : R2} {f : D → D → Sto → Out D} {a b : Expr} {φa φb : Den} (ho : OpR X (compareOp op) r) (hf : Op2 (Cx.g X) f r) (ha : PEv X W a φa) (hb : PEv X W b φb) (hm : behindInMarks op b = false) : PEv X W (.Compare a [op] [b] pos) (dOp2 f φa φb) :=
  pev_of (pe_cmpR ho ha hb hm) (tOp_of hf)
theorem pev_un {op : UnaryOp} {r : V → Hp → VK → Prop} {f : D → Sto → Out D} {a : Expr} {φa : Den} (ho : UnR X (unaryOp op) r) (hf : Op1 (Cx.g X) f r) (ha : PEv X W a φa) : PEv X W (.UnaryOp op a pos) (dOp1 f φa) :=
  pev_of (pe_un ho ha) (tUn_of hf)
theorem pev_ix {r : R2} {f : D → D → Sto → Out D} {a b : Expr} {φa φb : Den} (ho : IxR X r) (hf : Op2 (Cx.g X) f r) (ha : PEv X W a φa) (hb : PEv X W b φb) (hs : PlainIx b) : PEv X W (.Subscript a b pos) (dOp2 f φa φb) :=
  pev_of (pe_ix ho ha hb hs) (tOp_of hf)

/-! ### built-in functions -/
def dCall (F : List D → Sto → Out D) (φs : List Den) : Den := fun env st => (evL φs env st).bind F
def CallOp (G : Cg) (F : List D → Sto → Out D) (r : List V → Hp → VK → Prop) : Prop := ∀ p st xs vs Q E, Reps G.K p xs vs → RepS G.K p st → Aft (Rep G.K) G p (F xs st) Q E → r vs p.H Q
theorem tCB_of {r : List V → Hp → VK → Prop} {F : List D → Sto → Out D} {φs : List Den} (hf : CallOp (Cx.g X) F r) (σ : St) (Q : VK) (p : Pt) (env : En) (st : Sto) (hE : RepE X.K p env σ) (hS : RepS X.K p st) (h : Aft (Rep X.K) (Cx.g X) p (dCall F φs env st) Q (wAt W σ)) : tCB r (tL (Cx.g X) W φs) σ p.H Q := by
  refine (tL.run hE hS h).mono fun vs H1 ⟨p1, ds, st1, z1, e1, r1, s1, h1⟩ => ?_
  subst z1
  exact hf _ _ _ _ _ _ r1 s1 h1
theorem pev_callB {x : Str} {p : Pos} {id : String} {r : List V → Hp → VK → Prop} {F : List D → Sto → Out D} {e : Expr} {es : List Expr} {φs : List Den} (hc : CallR X (.builtin id) r) (hf : CallOp (Cx.g X) F r) (hm : X.mg x = none) (hv : bootBuiltins x = some (.builtin id)) (ha : PAv X W (e :: es) φs)
    (hg : Gl X x := by rfl) (hn : x ≠ "__name__" := by decide) (hdb : (x == ("__debug__" : Str)) = false := by decide)
    (he : starEach (e :: es) X.env = (false, eval e X.env) :: starEach es X.env := by rfl) (hpl : (backTo pos (starEach es X.env)).any (·.1) = false := by rfl) : PEv X W (.Call (.Name x p) (e :: es) [] pos) (dCall F φs) :=
  pev_of (pe_callB hc hg hm hv ha hn hdb he hpl) (tCB_of hf)
theorem pev_callTy {x : Str} {p : Pos} {T : String} {r : List V → Hp → VK → Prop} {F : List D → Sto → Out D} {e : Expr} {es : List Expr} {φs : List Den} (hc : CallR X (.type T) r) (hf : CallOp (Cx.g X) F r) (hm : X.mg x = none) (hv : bootBuiltins x = some (.type T)) (ha : PAv X W (e :: es) φs)
    (hg : Gl X x := by rfl) (hn : x ≠ "__name__" := by decide) (hdb : (x == ("__debug__" : Str)) = false := by decide)
    (he : starEach (e :: es) X.env = (false, eval e X.env) :: starEach es X.env := by rfl) (hpl : (backTo pos (starEach es X.env)).any (·.1) = false := by rfl) : PEv X W (.Call (.Name x p) (e :: es) [] pos) (dCall F φs) :=
  pev_of (pe_callTy hc hg hm hv ha hn hdb he hpl) (tCB_of hf)

/-! ### calls of defs -/
def spF (G : Cg) (n : Nat) (F : List D → Sto → Out D) : Sp := fun vs H Q E => ∃ p args st, p.H = H ∧ args.length = n ∧ Reps G.K p args vs ∧ RepS G.K p st ∧ Aft (Rep G.K) G p (F args st) Q E
/-- the def x of the module tells F -/
structure Fn (P : Program) (w : World) (G : Cg) (base : Heap) (x : Str) (k n : Nat) (F : List D → Sto → Out D) : Prop where
  ex : ∃ f fd ps, FnOk P w G.K G.mg base (L2.CX P w) k f fd ps (spF G n F) ∧ G.mg x = some (.ref f) ∧ PySem.W.keepIn G.K (.ref f) = true ∧ Binds G.K fd ps []
def dCallF (n : Nat) (F : List D → Sto → Out D) (φs : List Den) : Den := fun env st => (evL φs env st).bind fun ds st => if ds.length = n then F ds st else .bad
theorem pev_call {k' n : Nat} {x : Str} {p : Pos} {F : List D → Sto → Out D} {e : Expr} {es : List Expr} {φs : List Den} (o : Ok X W k) (h : Fn X.prog X.w (Cx.g X) X.base x k' n F) (hk : k' ≤ k) (ha : PAv X W (e :: es) φs)
    (hg : Gl X x := by rfl) (hdb : (x == ("__debug__" : Str)) = false := by decide) (he : starEach (e :: es) X.env = (false, eval e X.env) :: starEach es X.env := by rfl) (hpl : (backTo pos (starEach es X.env)).any (·.1) = false := by rfl) :
    PEv X W (.Call (.Name x p) (e :: es) [] pos) (dCallF n F φs) := by
  obtain ⟨f, fd, ps, F1, hm, hkp, hb⟩ := h.ex
  refine pev_of (pe_callS F1 (o.room.mono hk) hg hm hkp hb (fun σ => passAt o.tk σ) ha hdb he hpl) fun σ Q p env st hE hS h => ?_
  refine (tL.run hE hS h).mono fun vs H1 ⟨p1, ds, st1, z1, e1, r1, s1, h1⟩ => ?_
  by_cases hl : ds.length = n
  · rw [if_pos hl] at h1
    exact ⟨p1, ds, st1, z1, hl, r1, s1, h1⟩
  · rw [if_neg hl] at h1
    exact h1.elim
/-- f() -/
theorem pev_call0 {k' : Nat} {x : Str} {p : Pos} {F : List D → Sto → Out D} (o : Ok X W k) (h : Fn X.prog X.w (Cx.g X) X.base x k' 0 F) (hk : k' ≤ k)
    (hg : Gl X x := by rfl) (hdb : (x == ("__debug__" : Str)) = false := by decide) : PEv X W (.Call (.Name x p) [] [] pos) (dCallF 0 F []) := by
  obtain ⟨f, fd, ps, F1, hm, hkp, hb⟩ := h.ex
  refine ⟨fun pins s σ H Q I q => ?_⟩
  obtain ⟨p, env, st, z, hE, hS, h⟩ := q
  have h : Aft (Rep X.K) (Cx.g X) p (F [] st) Q (wAt W σ) := h
  refine wpAny_Call_Name_kw (ld_glob I hg hm ?_ hdb)
  exact PySem.W.callWith_K0 I.kIn hkp (run_fnS (us := []) F1 (o.room.mono hk) hb (fun p q r s t u => passAt o.tk σ p q r s t u) I .nil ⟨p, [], st, z, rfl, .nil, hS, h⟩)

/-! ### displays -/
def oTup : List D → Sto → Out D := fun ds st => if ds.length ≤ sizeLine then .ok (.tup ds) st else .bad
def oLst : List D → Sto → Out D := fun ds st => if ds.length ≤ sizeLine then .ok (.lst ds) st else .bad
/-- a list that will be written -/
def oLstP : List D → Sto → Out D := fun ds st => if ds.length ≤ sizeLine then .ok (.ptr st.length) (st ++ [.lst ds]) else .bad
/-- something new is laid that is no cell -/
theorem sub_upd {V H : Hp} {a : Addr} {o : HO} (h : ∀ b o, V b = some o → H b = some o) : ∀ b u, upd V a o b = some u → upd H a o b = some u := fun b u q => by
  by_cases z : b = a
  · subst z; rw [upd_same] at q ⊢; exact q
  · rw [upd_ne z] at q ⊢; exact h b u q
def Pt.laid (p : Pt) (a : Addr) (o : HO) : Pt := ⟨p.rho, upd p.V a o, upd p.H a o, sub_upd p.sub⟩
def Pt.cell (p : Pt) (a : Addr) (o : HO) : Pt := ⟨p.rho ++ [a], upd p.V a o, upd p.H a o, sub_upd p.sub⟩
theorem Ext.laid {p : Pt} {a o} (hn : p.H a = none) : Ext p (p.laid a o) :=
  ⟨⟨[], by simp [Pt.laid]⟩, fun b u h _ => by show upd _ _ _ _ = _; rw [upd_ne (ne_of_none h (Pt.free hn))]; exact h, fun b h n => absurd h n,
   fun b u h n => by
    by_cases z : b = a
    · rw [z]; exact hn
    · rw [show (p.laid a o).V b = p.V b from upd_ne z, n] at h; exact (nomatch h),
   fun b u h n => by show upd _ _ _ _ = _; rw [upd_ne (ne_of_none h hn)]; exact h⟩
theorem RepM.ext {K p q a m} (e : Ext p q) (hs : q.V a = p.V a) (h : RepM K p a m) : RepM K q a m := by
  cases m with
  | lst ds => obtain ⟨vs, h1, h2⟩ := h; exact ⟨vs, hs.trans h1, h2.mono e⟩
  | dic ks ds => obtain ⟨vs, h1, h0, h2⟩ := h; exact ⟨vs, hs.trans h1, h0, h2.mono e⟩
theorem RepS.laid {K} {p : Pt} {st a o} (hS : RepS K p st) (hn : p.H a = none) : RepS K (p.laid a o) st :=
  ⟨hS.len, hS.nd, fun n m b h1 h2 => (hS.at_ n m b h1 h2).ext (Ext.laid hn) (upd_ne fun z => hS.nh hn (z ▸ List.mem_of_getElem? h2))⟩
/-- a new cell -/
theorem Ext.cell {p : Pt} {a o} (hn : p.H a = none) : Ext p (p.cell a o) :=
  ⟨⟨[a], rfl⟩, fun b u h _ => by show upd _ _ _ _ = _; rw [upd_ne (ne_of_none h (Pt.free hn))]; exact h, fun b h n => by
    rcases List.mem_append.mp h with z | z
    · exact absurd z n
    · simp at z; subst z; exact hn,
   fun b u h n => by
    by_cases z : b = a
    · rw [z]; exact hn
    · rw [show (p.cell a o).V b = p.V b from upd_ne z, n] at h; exact (nomatch h),
   fun b u h n => by show upd _ _ _ _ = _; rw [upd_ne (ne_of_none h hn)]; exact h⟩
theorem RepS.cell {K} {p : Pt} {st a o m} (hS : RepS K p st) (hn : p.H a = none) (hm : RepM K (p.cell a o) a m) : RepS K (p.cell a o) (st ++ [m]) := by
  refine ⟨by simp [Pt.cell, hS.len], ?_, fun n m' b h1 h2 => ?_⟩
  · show (p.rho ++ [a]).Nodup
    rw [List.nodup_append]
    exact ⟨hS.nd, by simp, fun x hx y hy => by simp at hy; subst hy; intro z; subst z; exact hS.nh hn hx⟩
  · have h2 : (p.rho ++ [a])[n]? = some b := h2
    by_cases hl : n < p.rho.length
    · rw [List.getElem?_append_left (by rw [hS.len]; exact hl)] at h1
      rw [List.getElem?_append_left hl] at h2
      exact (hS.at_ n m' b h1 h2).ext (Ext.cell hn) (upd_ne fun z => hS.nh hn (z ▸ List.mem_of_getElem? h2))
    · have e : n = p.rho.length := by
        have := (List.getElem?_eq_some_iff.mp h2).1
        simp at this; omega
      subst e
      rw [show p.rho.length = st.length from hS.len.symm] at h1
      simp at h1
      simp at h2
      subst h1; subst h2
      exact hm
theorem pev_tup {es : List Expr} {φs : List Den} {x1} (h : PAv X W es φs) : PEv X W (.Tuple es x1 pos) (dCall oTup φs) :=
  pev_of (pe_tup h) fun σ Q p env st hE hS h => by
    refine (tL.run hE hS h).mono fun vs H1 ⟨p1, ds, st1, z1, e1, r1, s1, h1⟩ => ?_
    subst z1
    unfold oTup at h1
    split at h1
    · rename_i hl
      refine ⟨by rw [← r1.length]; exact hl, fun a hp => ?_⟩
      exact h1 (p1.laid a _) _ (Ext.laid hp) (.tup (.inl ⟨.inl upd_same, s1.nh hp⟩) (r1.mono (Ext.laid hp))) (s1.laid hp)
    · exact h1.elim
theorem pev_lst {es : List Expr} {φs : List Den} (h : PAv X W es φs) : PEv X W (.List es pos) (dCall oLst φs) :=
  pev_of (pe_lst h) fun σ Q p env st hE hS h => by
    refine (tL.run hE hS h).mono fun vs H1 ⟨p1, ds, st1, z1, e1, r1, s1, h1⟩ => ?_
    subst z1
    unfold oLst at h1
    split at h1
    · rename_i hl
      refine ⟨by rw [← r1.length]; exact hl, fun a hp => ?_⟩
      exact h1 (p1.laid a _) _ (Ext.laid hp) (.lst upd_same (s1.nh hp) (r1.mono (Ext.laid hp))) (s1.laid hp)
    · exact h1.elim
theorem pev_lstP {es : List Expr} {φs : List Den} (h : PAv X W es φs) : PEv X W (.List es pos) (dCall oLstP φs) :=
  pev_of (pe_lst h) fun σ Q p env st hE hS h => by
    refine (tL.run hE hS h).mono fun vs H1 ⟨p1, ds, st1, z1, e1, r1, s1, h1⟩ => ?_
    subst z1
    unfold oLstP at h1
    split at h1
    · rename_i hl
      refine ⟨by rw [← r1.length]; exact hl, fun a hp => ?_⟩
      refine h1 (p1.cell a _) _ (Ext.cell hp) (.ptr ?_) (s1.cell hp ⟨vs, upd_same, r1.mono (Ext.cell hp)⟩)
      show (p1.rho ++ [a])[st1.length]? = some a
      rw [s1.len]; simp
    · exact h1.elim
end
end DL

namespace DL
open PySem PySem.Spec L2
open PyProof.Rows hiding St
set_option autoImplicit true
/-! ### tests -/
abbrev DenT := En → Sto → Out Bool
abbrev Req : Pt → Bool → Bool → Prop := fun _ a b => a = b
def tT (G : Cg) (W : WX) (φ : DenT) : TT := fun σ H Q => ∃ p env st, p.H = H ∧ RepE G.K p env σ ∧ RepS G.K p st ∧ Aft Req G p (φ env st) Q (wAt W σ)
def PTv (X : Cx) (W : WX) (e : Expr) (φ : DenT) : Prop := PT X e (tT (Cx.g X) W φ)
def PWv (X : Cx) (W : WX) (e : Expr) (φ : DenT) : Prop := PW X e (tT (Cx.g X) W φ)
section
variable {G : Cg} {W : WX} {φ : DenT} {σ : St} {H : Hp} {p : Pt} {env : En} {st : Sto}
theorem tT.mono {Q Q' : Bool → Hp → Prop} (h : tT G W φ σ H Q) (hq : ∀ v H', Q v H' → Q' v H') : tT G W φ σ H Q' :=
  let ⟨p, env, st, z, a, b, c⟩ := h
  ⟨p, env, st, z, a, b, c.mono hq⟩
theorem tT.run {γ δ : Type} {R' : Pt → γ → δ → Prop} {k : Bool → Sto → Out γ} {Q : δ → Hp → Prop} (hE : RepE G.K p env σ) (hS : RepS G.K p st) (h : Aft R' G p ((φ env st).bind k) Q (wAt W σ)) :
    tT G W φ σ p.H (fun b H1 => ∃ q st1, q.H = H1 ∧ Ext p q ∧ RepS G.K q st1 ∧ Aft R' G q (k b st1) Q (wAt W σ)) :=
  ⟨p, env, st, rfl, hE, hS, (Aft.bind (R := Req) h).mono fun b H1 ⟨q, a, st1, z, e, r, s, h⟩ => ⟨q, st1, z, e, s, r ▸ h⟩⟩
end
theorem ptv_of {X : Cx} {W : WX} {e : Expr} {t : TT} {φ : DenT} (h : PT X e t) (i : ∀ σ Q p env st, RepE X.K p env σ → RepS X.K p st → Aft Req (Cx.g X) p (φ env st) Q (wAt W σ) → t σ p.H Q) : PTv X W e φ :=
  ⟨fun pins s σ H Q I ⟨p, env, st, z, hE, hS, q⟩ => h.run pins s σ H Q I (z ▸ i σ Q p env st hE hS q)⟩
theorem pwv_of {X : Cx} {W : WX} {e : Expr} {t : TT} {φ : DenT} (h : PW X e t) (i : ∀ σ Q p env st, RepE X.K p env σ → RepS X.K p st → Aft Req (Cx.g X) p (φ env st) Q (wAt W σ) → t σ p.H Q) : PWv X W e φ :=
  ⟨fun wh pins s σ H Q I ⟨p, env, st, z, hE, hS, q⟩ => h.run wh pins s σ H Q I (z ▸ i σ Q p env st hE hS q)⟩
theorem PWv.pt {X : Cx} {W : WX} {e : Expr} {φ : DenT} (h : PWv X W e φ) : PTv X W e φ := PW.pt h
/-- the items of a list value -/
def view : D → Sto → Option (List D)
  | .lst ds, _ => some ds
  | .fls ds, _ => some ds
  | .ptr n, st => match st[n]? with
    | some (.lst ds) => some ds
    | _ => none
  | _, _ => none
theorem view_rep {G : Cg} {p : Pt} {st : Sto} {d : D} {v : V} {ds : List D} (h : view d st = some ds) (r : Rep G.K p d v) (s : RepS G.K p st) : ∃ a vs, v = .ref a ∧ SqL G.K p.H a vs ∧ Reps G.K p ds vs := by
  cases r <;> simp only [view] at h <;> try (cases h; done)
  · cases h
    rename_i e n q
    exact ⟨_, _, rfl, SqL.of (p.sub _ _ e), q⟩
  · cases h
    rename_i e q
    exact ⟨_, _, rfl, e.sq, q⟩
  · rename_i n a hn
    split at h
    · cases h
      rename_i es e
      obtain ⟨vs, h1, h2⟩ := s.at_ n _ a e hn
      exact ⟨a, vs, rfl, SqL.of (p.sub _ _ h1), h2⟩
    · cases h
def tru : D → Sto → Out Bool := fun d st => match d with
  | .non => .ok false st
  | .bl b => .ok b st
  | .int i => .ok (i != 0) st
  | .str y => if y.length ≤ sizeLine then .ok ((y.length : Int) != 0) st else .bad
  | .tup ds => .ok (!ds.isEmpty) st
  | .dic ks _ => .ok (!ks.isEmpty) st
  | .lst ds => .ok (!ds.isEmpty) st
  | .fls ds => .ok (!ds.isEmpty) st
  | .ptr n => match st[n]? with
    | some (.lst ds) => .ok (!ds.isEmpty) st
    | some (.dic ks _) => .ok (!ks.isEmpty) st
    | _ => .bad
  | .raw _ => .bad
def dTru (φ : Den) : DenT := fun env st => (φ env st).bind tru
def dTst (φ : Den) : DenT := fun env st => (φ env st).bind fun d st => match d with
  | .bl b => .ok b st
  | _ => .bad
theorem isEmpty_len {α β : Type} {xs : List α} {ys : List β} (h : xs.length = ys.length) : xs.isEmpty = ys.isEmpty := by
  cases xs <;> cases ys <;> simp at h <;> rfl
theorem zip_empty {α β γ : Type} {ks : List α} {vs : List β} {ds : List γ} (h : ks.length = ds.length) (h2 : ds.length = vs.length) : (ks.zip vs).isEmpty = ks.isEmpty :=
  isEmpty_len (by rw [List.length_zip]; omega)
theorem tru_rep {G : Cg} {p : Pt} {st : Sto} {d : D} {v : V} {Q : Bool → Hp → Prop} {E : XK} (r : Rep G.K p d v) (s : RepS G.K p st) (h : Aft Req G p (tru d st) Q E) : ∃ k, TruV G.K v p.H k ∧ Q k p.H := by
  cases r with
  | non => exact ⟨false, rfl, h.now rfl s⟩
  | bl b => exact ⟨b, rfl, h.now rfl s⟩
  | int i => exact ⟨_, rfl, h.now rfl s⟩
  | str x =>
    unfold tru at h
    dsimp only at h
    split at h
    · rename_i hl
      exact ⟨_, ⟨hl, rfl⟩, h.now rfl s⟩
    · exact h.elim
  | raw v => exact h.elim
  | tup e q => exact ⟨_, .inr (.inl ⟨_, e.sq, rfl⟩), h.now (show (!List.isEmpty _) = _ by rw [isEmpty_len q.length]) s⟩
  | lst e n q => exact ⟨_, .inl ⟨_, SqL.of (p.sub _ _ e), rfl⟩, h.now (show (!List.isEmpty _) = _ by rw [isEmpty_len q.length]) s⟩
  | fls e q => exact ⟨_, .inl ⟨_, e.sq, rfl⟩, h.now (show (!List.isEmpty _) = _ by rw [isEmpty_len q.length]) s⟩
  | dic e n l q => exact ⟨_, .inr (.inr ⟨_, p.sub _ _ e, rfl⟩), h.now (show (!List.isEmpty _) = _ by rw [zip_empty l q.length]) s⟩
  | @ptr n a hn =>
    unfold tru at h
    dsimp only at h
    split at h
    · rename_i ds e
      obtain ⟨vs, h1, h2⟩ := s.at_ n _ a e hn
      exact ⟨_, .inl ⟨_, SqL.of (p.sub _ _ h1), rfl⟩, h.now (show (!List.isEmpty _) = _ by rw [isEmpty_len h2.length]) s⟩
    · rename_i ks ds e
      obtain ⟨vs, h1, h0, h2⟩ := s.at_ n _ a e hn
      exact ⟨_, .inr (.inr ⟨_, p.sub _ _ h1, rfl⟩), h.now (show (!List.isEmpty _) = _ by rw [zip_empty h0 h2.length]) s⟩
    · exact h.elim
section
variable {X : Cx} {W : WX} {k : Nat} {pos : Pos} {a b e : Expr} {φ φa φb : Den} {ψ ψa ψb : DenT}
theorem ptv_tru (ha : PEv X W a φ) (he : ∀ whole, isTrue a X.env whole = (do let v ← whole; standAt a.pos; holding [v] (truthy v)) := by intro _; rfl) : PTv X W a (dTru φ) := by
  refine ⟨fun pins s σ H Q I h => ?_⟩
  obtain ⟨p, env, st, z, hE, hS, h⟩ := h
  subst z
  refine isTrue_plain (thn (ha.run pins s σ p.H _ I (tD.run hE hS h)) fun v s1 ⟨x, H1, I1, r1, q1⟩ => ?_) (he _)
  obtain ⟨p1, d, st1, z1, e1, r2, s2, h2⟩ := q1
  subst z1
  obtain ⟨k, hk⟩ := tru_rep r2 s2 h2
  exact tru_ok pins s1 σ _ x v _ I1 r1 ⟨k, hk⟩
theorem tTest_of {t : TE} (σ : St) (Q : Bool → Hp → Prop) (p : Pt) (env : En) (st : Sto) (hE : RepE X.K p env σ) (hS : RepS X.K p st) (ht : ∀ Q', Aft (Rep X.K) (Cx.g X) p (φ env st) Q' (wAt W σ) → t σ p.H Q') (h : Aft Req (Cx.g X) p (dTst φ env st) Q (wAt W σ)) : tTest t σ p.H Q := by
  refine ht _ ((Aft.bind (R := Rep X.K) h).mono fun x H1 ⟨p1, d, st1, z1, e1, r1, s1, h1⟩ => ?_)
  subst z1
  cases r1 <;> first | exact h1.elim | skip
  exact ⟨_, rfl, h1.now rfl s1⟩
theorem ptv_cmp {op : CmpOp} {r : R2} {f : D → D → Sto → Out D} (ho : OpR X (compareOp op) r) (hf : Op2 (Cx.g X) f r) (ha : PEv X W a φa) (hb : PEv X W b φb) (hm : behindInMarks op b = false) : PTv X W (.Compare a [op] [b] pos) (dTst (dOp2 f φa φb)) :=
  ptv_of (pt_cmpR ho ha hb hm) fun σ Q p env st hE hS h => tTest_of σ Q p env st hE hS (fun Q' q => tOp_of hf σ Q' p env st hE hS q) h
def dNotT (ψ : DenT) : DenT := fun env st => (ψ env st).bind fun b st => .ok (!b) st
def dAndT (ψa ψb : DenT) : DenT := fun env st => (ψa env st).bind fun b st => if b = true then ψb env st else .ok false st
def dOrT (ψa ψb : DenT) : DenT := fun env st => (ψa env st).bind fun b st => if b = true then .ok true st else ψb env st
theorem ptv_not (ha : PTv X W a ψ) : PTv X W (.UnaryOp .Not a pos) (dNotT ψ) :=
  ptv_of (pt_not ha) fun σ Q p env st hE hS h => (tT.run hE hS h).mono fun b H1 ⟨p1, st1, z1, e1, s1, h1⟩ => z1 ▸ h1.now rfl s1
theorem pwv_and1 (ha : PTv X W a ψ) : PWv X W (.BoolOp .And [a] pos) ψ := pw_and1 ha
theorem pwv_or1 (ha : PTv X W a ψ) : PWv X W (.BoolOp .Or [a] pos) ψ := pw_or1 ha
theorem pwv_and {rest : List Expr} (ha : PTv X W a ψa) (hb : PWv X W (.BoolOp .And (b :: rest) pos) ψb) : PWv X W (.BoolOp .And (a :: b :: rest) pos) (dAndT ψa ψb) :=
  pwv_of (pw_and ha hb) fun σ Q p env st hE hS h => (tT.run hE hS h).mono fun b H1 ⟨p1, st1, z1, e1, s1, h1⟩ => by
    subst z1
    cases b with
    | true => exact ⟨p1, env, st1, rfl, hE.mono e1, s1, h1⟩
    | false => exact h1.now rfl s1
theorem pwv_or {rest : List Expr} (ha : PTv X W a ψa) (hb : PWv X W (.BoolOp .Or (b :: rest) pos) ψb) : PWv X W (.BoolOp .Or (a :: b :: rest) pos) (dOrT ψa ψb) :=
  pwv_of (pw_or ha hb) fun σ Q p env st hE hS h => (tT.run hE hS h).mono fun b H1 ⟨p1, st1, z1, e1, s1, h1⟩ => by
    subst z1
    cases b with
    | false => exact ⟨p1, env, st1, rfl, hE.mono e1, s1, h1⟩
    | true => exact h1.now rfl s1
/-! .. as values (bools) -/
def dAndV (φa φb : Den) : Den := fun env st => (φa env st).bind fun d st => match d with
  | .bl true => φb env st
  | .bl false => .ok (.bl false) st
  | _ => .bad
def dOrV (φa φb : Den) : Den := fun env st => (φa env st).bind fun d st => match d with
  | .bl true => .ok (.bl true) st
  | .bl false => φb env st
  | _ => .bad
def dNotV (φ : Den) : Den := fun env st => (φ env st).bind fun d st => match d with
  | .bl b => .ok (.bl (!b)) st
  | _ => .bad
theorem pev_one {op} (h : PEv X W a φ) : PEv X W (.BoolOp op [a] pos) φ := pe_one h
theorem pev_and {rest : List Expr} (ha : PEv X W a φa) (hb : PEv X W (.BoolOp .And (b :: rest) pos) φb) : PEv X W (.BoolOp .And (a :: b :: rest) pos) (dAndV φa φb) :=
  pev_of (pe_and ha hb) fun σ Q p env st hE hS h => (tD.run hE hS h).mono fun x H1 ⟨p1, d, st1, z1, e1, r1, s1, h1⟩ => by
    subst z1
    cases d <;> first | exact h1.elim | skip
    rename_i c
    cases r1
    refine ⟨c, rfl, ?_⟩
    cases c with
    | true => exact ⟨p1, env, st1, rfl, hE.mono e1, s1, h1⟩
    | false => exact h1.now (.bl false) s1
theorem pev_or {rest : List Expr} (ha : PEv X W a φa) (hb : PEv X W (.BoolOp .Or (b :: rest) pos) φb) : PEv X W (.BoolOp .Or (a :: b :: rest) pos) (dOrV φa φb) :=
  pev_of (pe_or ha hb) fun σ Q p env st hE hS h => (tD.run hE hS h).mono fun x H1 ⟨p1, d, st1, z1, e1, r1, s1, h1⟩ => by
    subst z1
    cases d <;> first | exact h1.elim | skip
    rename_i c
    cases r1
    refine ⟨c, rfl, ?_⟩
    cases c with
    | false => exact ⟨p1, env, st1, rfl, hE.mono e1, s1, h1⟩
    | true => exact h1.now (.bl true) s1
theorem pev_not (ha : PEv X W a φ) : PEv X W (.UnaryOp .Not a pos) (dNotV φ) :=
  pev_of (pe_not ha) fun σ Q p env st hE hS h => (tD.run hE hS h).mono fun x H1 ⟨p1, d, st1, z1, e1, r1, s1, h1⟩ => by
    subst z1
    cases r1 <;> first | exact h1.elim | skip
    exact ⟨_, rfl, h1.now (.bl _) s1⟩
def dIf (ψ : DenT) (φa φb : Den) : Den := fun env st => (ψ env st).bind fun b st => if b = true then φa env st else φb env st
theorem pev_if {c : Expr} (hc : PTv X W c ψ) (ha : PEv X W a φa) (hb : PEv X W b φb) : PEv X W (.IfExp c a b pos) (dIf ψ φa φb) :=
  pev_of (pe_ifExp hc ha hb) fun σ Q p env st hE hS h => (tT.run hE hS h).mono fun b H1 ⟨p1, st1, z1, e1, s1, h1⟩ => by
    subst z1
    cases b with
    | true => exact ⟨p1, env, st1, rfl, hE.mono e1, s1, h1⟩
    | false => exact ⟨p1, env, st1, rfl, hE.mono e1, s1, h1⟩
end
end DL

/-! DL: statements, loops, comprehensions, defs. -/
namespace DL
open PySem PySem.Spec L2
open PyProof.Rows hiding St
set_option autoImplicit true

inductive Fl where
  | nx (e : En) | rt (d : D) | bk (e : En) | ct (e : En) | ex (x : XV) (e : En)
inductive FlV where
  | nx (σ : St) | rt (v : V) | bk (σ : St) | ct (σ : St) | ex (c : Value) (d : Option Addr) (σ : St)
inductive RepF (G : Cg) (p : Pt) : Fl → FlV → Prop
  | nx {e : En} {σ : St} : RepE G.K p e σ → RepF G p (.nx e) (.nx σ)
  | rt {d : D} {v : V} : Rep G.K p d v → RepF G p (.rt d) (.rt v)
  | bk {e : En} {σ : St} : RepE G.K p e σ → RepF G p (.bk e) (.bk σ)
  | ct {e : En} {σ : St} : RepE G.K p e σ → RepF G p (.ct e) (.ct σ)
  | ex {x : XV} {e : En} {σ : St} {c : Value} {d : Option Addr} : RepX G p x c d → RepE G.K p e σ → RepF G p (.ex x e) (.ex c d σ)
def EndQ (W : WX) (Z : Ends) : FlV → Hp → Prop
  | .nx σ, H => Z.nx σ H
  | .rt v, H => Z.rt v H
  | .bk σ, H => Z.bk σ H
  | .ct σ, H => Z.ct σ H
  | .ex c d σ, H => W c d σ H
abbrev SOut := Option (Fl × Sto)
abbrev DenS := En → Sto → SOut
def AftS (G : Cg) (W : WX) (p : Pt) (o : SOut) (Z : Ends) : Prop := match o with
  | some (f, st) => ∀ q fv, Ext p q → RepF G q f fv → RepS G.K q st → EndQ W Z fv q.H
  | none => False
def sD (G : Cg) (W : WX) (φ : DenS) : TS := fun Z σ H => ∃ p env st, p.H = H ∧ RepE G.K p env σ ∧ RepS G.K p st ∧ AftS G W p (φ env st) Z
def PSv (X : Cx) (W : WX) (s : Stmt) (φ : DenS) : Prop := PS X s (sD (Cx.g X) W φ)
def PBv (X : Cx) (W : WX) (s : List Stmt) (φ : DenS) : Prop := PSs X s (sD (Cx.g X) W φ)
section
variable {G : Cg} {W : WX} {p q : Pt} {o : SOut} {Z : Ends}
theorem AftS.ext (e : Ext p q) (h : AftS G W p o Z) : AftS G W q o Z := by
  cases o with
  | none => exact h
  | some x => exact fun r fv e2 rr s => h r fv (e.trans e2) rr s
theorem AftS.now {f : Fl} {fv : FlV} {st : Sto} (h : AftS G W p (some (f, st)) Z) (r : RepF G p f fv) (s : RepS G.K p st) : EndQ W Z fv p.H := h p fv .refl r s
end
/-- an expression's outcome goes on -/
def Out.to {α : Type} (o : Out α) (env : En) (k : α → Sto → SOut) : SOut := match o with
  | .ok a st => k a st
  | .exc x st => some (.ex x env, st)
  | .bad => none
section
variable {G : Cg} {W : WX} {σ : St} {p : Pt} {env : En} {st : Sto} {Z : Ends}
theorem Aft.to {α β : Type} {R : Pt → α → β → Prop} {o : Out α} {k : α → Sto → SOut} (hE : RepE G.K p env σ) (h : AftS G W p (o.to env k) Z) :
    Aft R G p o (fun b H' => ∃ q a st', q.H = H' ∧ Ext p q ∧ R q a b ∧ RepS G.K q st' ∧ AftS G W q (k a st') Z) (wAt W σ) := by
  cases o with
  | ok a st => exact fun q b e r s => ⟨q, a, st, rfl, e, r, s, h.ext e⟩
  | exc x st => exact fun q c d e r s => h q (.ex c d σ) e (.ex r (hE.mono e)) s
  | bad => exact h
theorem tD.to {φ : Den} {k : D → Sto → SOut} (hE : RepE G.K p env σ) (hS : RepS G.K p st) (h : AftS G W p ((φ env st).to env k) Z) :
    tD G W φ σ p.H (fun v H1 => ∃ q d st1, q.H = H1 ∧ Ext p q ∧ Rep G.K q d v ∧ RepS G.K q st1 ∧ AftS G W q (k d st1) Z) :=
  ⟨p, env, st, rfl, hE, hS, Aft.to hE h⟩
theorem tL.to {φs : List Den} {k : List D → Sto → SOut} (hE : RepE G.K p env σ) (hS : RepS G.K p st) (h : AftS G W p ((evL φs env st).to env k) Z) :
    tL G W φs σ p.H (fun v H1 => ∃ q d st1, q.H = H1 ∧ Ext p q ∧ Reps G.K q d v ∧ RepS G.K q st1 ∧ AftS G W q (k d st1) Z) :=
  ⟨p, env, st, rfl, hE, hS, Aft.to hE h⟩
theorem tT.to {φ : DenT} {k : Bool → Sto → SOut} (hE : RepE G.K p env σ) (hS : RepS G.K p st) (h : AftS G W p ((φ env st).to env k) Z) :
    tT G W φ σ p.H (fun b H1 => ∃ q st1, q.H = H1 ∧ Ext p q ∧ RepS G.K q st1 ∧ AftS G W q (k b st1) Z) :=
  ⟨p, env, st, rfl, hE, hS, (Aft.to (R := Req) hE h).mono fun b H1 ⟨q, a, st1, z, e, r, s, h⟩ => ⟨q, st1, z, e, s, r ▸ h⟩⟩
end
section
variable {X : Cx} {W : WX} {k : Nat} {pos : Pos} {e : Expr} {φ : Den} {ψ : DenT} {s : Stmt} {ss : List Stmt} {θ θ1 θ2 : DenS}
theorem psv_of {t : TS} (h : PS X s t) (i : ∀ Z σ p env st, RepE X.K p env σ → RepS X.K p st → AftS (Cx.g X) W p (θ env st) Z → t Z σ p.H) : PSv X W s θ := ⟨fun pins s σ H Z I ⟨p, env, st, z, hE, hS, q⟩ => h.run pins s σ H Z I (z ▸ i Z σ p env st hE hS q)⟩
theorem pbv_of {t : TS} (h : PSs X ss t) (i : ∀ Z σ p env st, RepE X.K p env σ → RepS X.K p st → AftS (Cx.g X) W p (θ env st) Z → t Z σ p.H) : PBv X W ss θ := ⟨fun pins s σ H Z I ⟨p, env, st, z, hE, hS, q⟩ => h.run pins s σ H Z I (z ▸ i Z σ p env st hE hS q)⟩
def sNil : DenS := fun env st => some (.nx env, st)
def sSeq (θ1 θ2 : DenS) : DenS := fun env st => match θ1 env st with
  | some (.nx env', st') => θ2 env' st'
  | o => o
theorem pbv_nil : PBv X W [] sNil := pbv_of pss_nil fun Z σ p env st hE hS h => h.now (.nx hE) hS
theorem sSeq_aft {G : Cg} {p : Pt} {Z : Ends} {env : En} {st : Sto} (h : AftS G W p (sSeq θ1 θ2 env st) Z) : AftS G W p (θ1 env st) { Z with nx := sD G W θ2 Z } := by
  unfold sSeq at h
  cases q : θ1 env st with
  | none => rw [q] at h; exact h
  | some x =>
    obtain ⟨f, st'⟩ := x
    rw [q] at h
    cases f with
    | nx env' =>
      intro q' fv e r s
      cases r with
      | nx r => exact ⟨q', env', st', rfl, r, s, h.ext e⟩
    | rt d =>
      intro q' fv e r s
      have := h q' fv e r s
      cases r; exact this
    | bk d =>
      intro q' fv e r s
      have := h q' fv e r s
      cases r; exact this
    | ct d =>
      intro q' fv e r s
      have := h q' fv e r s
      cases r; exact this
    | ex x d =>
      intro q' fv e r s
      have := h q' fv e r s
      cases r; exact this
theorem pbv_cons (h1 : PSv X W s θ1) (h2 : PBv X W ss θ2) : PBv X W (s :: ss) (sSeq θ1 θ2) :=
  pbv_of (pss_cons h1 h2) fun Z σ p env st hE hS h => ⟨p, env, st, rfl, hE, hS, sSeq_aft h⟩
theorem pbv_one (h1 : PSv X W s θ1) : PBv X W [s] θ1 := pss_one h1
theorem psv_pass : PSv X W (.Pass pos) sNil := psv_of ps_pass fun Z σ p env st hE hS h => h.now (.nx hE) hS
def sBrk : DenS := fun env st => some (.bk env, st)
def sCnt : DenS := fun env st => some (.ct env, st)
theorem psv_break : PSv X W (.Break pos) sBrk := psv_of ps_break fun Z σ p env st hE hS h => h.now (.bk hE) hS
theorem psv_continue : PSv X W (.Continue pos) sCnt := psv_of ps_continue fun Z σ p env st hE hS h => h.now (.ct hE) hS
/-- what is never come to -/
def sNo : DenS := fun _ _ => none
theorem psv_never : PSv X W s sNo := psv_of ps_never fun Z σ p env st hE hS h => h
theorem pbv_never : PBv X W ss sNo := pbv_of pss_never fun Z σ p env st hE hS h => h
def sExpr (φ : Den) : DenS := fun env st => (φ env st).to env fun _ st => some (.nx env, st)
theorem psv_expr (he : PEv X W e φ) (hs : swapsWith e none pos.line X.env = pure false := by rfl) : PSv X W (.Expr e pos) (sExpr φ) :=
  psv_of (ps_expr he hs) fun Z σ p env st hE hS h => (tD.to hE hS h).mono fun v H1 ⟨p1, d, st1, z1, e1, r1, s1, h1⟩ => z1 ▸ h1.now (.nx (hE.mono e1)) s1
theorem psv_doc {x j pos'} : PSv X W (.Expr (.Constant (.str x) j pos) pos') sNil := psv_of ps_doc fun Z σ p env st hE hS h => h.now (.nx hE) hS
def sRet (φ : Den) : DenS := fun env st => (φ env st).to env fun d st => some (.rt d, st)
theorem psv_ret (he : PEv X W e φ) : PSv X W (.Return (some e) pos) (sRet φ) :=
  psv_of (ps_ret he) fun Z σ p env st hE hS h => (tD.to hE hS h).mono fun v H1 ⟨p1, d, st1, z1, e1, r1, s1, h1⟩ => z1 ▸ h1.now (.rt r1) s1
def sRetN : DenS := fun _ st => some (.rt .non, st)
theorem psv_retN : PSv X W (.Return none pos) sRetN := psv_of ps_retN fun Z σ p env st hE hS h => h.now (.rt .non) hS
def sIf (ψ : DenT) (θ1 θ2 : DenS) : DenS := fun env st => (ψ env st).to env fun b st => if b = true then θ1 env st else θ2 env st
theorem psv_if {c : Expr} {a b : List Stmt} (hc : PTv X W c ψ) (ha : PBv X W a θ1) (hb : PBv X W b θ2) : PSv X W (.If c a b pos) (sIf ψ θ1 θ2) :=
  psv_of (ps_if hc ha hb) fun Z σ p env st hE hS h => (tT.to hE hS h).mono fun b H1 ⟨p1, st1, z1, e1, s1, h1⟩ => by
    subst z1
    cases b with
    | true => exact ⟨p1, env, st1, rfl, hE.mono e1, s1, h1⟩
    | false => exact ⟨p1, env, st1, rfl, hE.mono e1, s1, h1⟩
def sSet (i : Nat) (φ : Den) : DenS := fun env st => (φ env st).to env fun d st => some (.nx (env.set i (some d)), st)
theorem psv_set (o : Ok X W k) (i : Nat) {x : Str} {pos' : Pos} (he : PEv X W e φ) (hi : X.N[i]? = some x := by rfl) (hx : Loc X.env.scope x := by first | exact .inl rfl | exact .inr rfl) (hs : swapsWith e (some (.Name x pos')) pos.line X.env = pure false := by rfl)
    (hf : X.fn x = true ∨ X.env.scope.names.lookup x = some .local := by first | exact .inl rfl | exact .inr rfl | assumption) : PSv X W (.Assign [.Name x pos'] e pos) (sSet i φ) :=
  psv_of (ps_set o.nd hi hx he hs hf) fun Z σ p env st hE hS h => (tD.to hE hS h).mono fun v H1 ⟨p1, d, st1, z1, e1, r1, s1, h1⟩ => z1 ▸ h1.now (.nx ((hE.mono e1).set i r1)) s1
/-- a, b = x, y -/
def sPar (i j : Nat) (φs : List Den) : DenS := fun env st => (evL φs env st).to env fun ds st => match ds with
  | [a, b] => some (.nx ((env.set i (some a)).set j (some b)), st)
  | _ => none
theorem psv_par (o : Ok X W k) (i j : Nat) {x y : Str} {a b : Expr} {φs : List Den} {px py pt : Pos} {kt k2 pt2} (ha : PAv X W [a, b] φs) (hi : X.N[i]? = some x := by rfl) (hj : X.N[j]? = some y := by rfl) (hij : i ≠ j := by decide)
    (hx : X.env.scope.names.lookup x = some .local := by rfl) (hy : X.env.scope.names.lookup y = some .local := by rfl)
    (hw : swappedStores [.Tuple [.Name x px, .Name y py] kt pt] (.Tuple [a, b] k2 pt2) X.env = pure (some [x, y]) := by rfl)
    (hs : swapsWithSole [.Tuple [.Name x px, .Name y py] kt pt] (.Tuple [a, b] k2 pt2) pos.line X.env = pure false := by rfl) :
    PSv X W (.Assign [.Tuple [.Name x px, .Name y py] kt pt] (.Tuple [a, b] k2 pt2) pos) (sPar i j φs) :=
  psv_of (ps_par o.calm o.nd hi hj hij hx hy ha hw hs) fun Z σ p env st hE hS h => (tL.to hE hS h).mono fun vs H1 ⟨p1, ds, st1, z1, e1, r1, s1, h1⟩ => by
    subst z1
    match ds, h1 with
    | [a, b], h1 =>
      cases r1 with
      | cons ra rr =>
        cases rr with
        | cons rb rn =>
          cases rn
          exact ⟨_, _, rfl, h1.now (.nx (((hE.mono e1).set i ra).set j rb)) s1⟩
    | [], h1 => exact h1.elim
    | [_], h1 => exact h1.elim
    | _ :: _ :: _ :: _, h1 => exact h1.elim
/-! ### while -/
def wLoop (c : DenT) (b : DenS) : Nat → En → Sto → SOut
  | 0, _, _ => none
  | n + 1, env, st => (c env st).to env fun t st1 => if t = true then (match b env st1 with
    | some (.nx e, s) => wLoop c b n e s
    | some (.ct e, s) => wLoop c b n e s
    | some (.bk e, s) => some (.nx e, s)
    | o => o) else some (.nx env, st1)
def sWhile (fuel : En → Sto → Nat) (c : DenT) (b : DenS) : DenS := fun env st => wLoop c b (fuel env st) env st
/-- what a loop's body is to reach -/
theorem body_aft {G : Cg} {p : Pt} {Z : Ends} {o : SOut} {nxt : En → Sto → SOut} {N : St → Hp → Prop}
    (h : AftS G W p (match o with
      | some (.nx e, s) => nxt e s
      | some (.ct e, s) => nxt e s
      | some (.bk e, s) => some (.nx e, s)
      | o => o) Z) (hN : ∀ q e s σ', RepE G.K q e σ' → RepS G.K q s → Ext p q → AftS G W q (nxt e s) Z → N σ' q.H) :
    AftS G W p o { Z with nx := N, ct := N, bk := Z.nx } := by
  cases o with
  | none => exact h
  | some x =>
    obtain ⟨f, s⟩ := x
    cases f with
    | nx e => intro q fv ex r rs; cases r with | nx r => exact hN q e s _ r rs ex (h.ext ex)
    | ct e => intro q fv ex r rs; cases r with | ct r => exact hN q e s _ r rs ex (h.ext ex)
    | bk e => intro q fv ex r rs; cases r with | bk r => exact h q _ ex (.nx r) rs
    | rt d => intro q fv ex r rs; cases r with | rt r => exact h q _ ex (.rt r) rs
    | ex x e => intro q fv ex r rs; cases r with | ex r r2 => exact h q _ ex (.ex r r2) rs
theorem psv_while (o : Ok X W k) (fuel : En → Sto → Nat) {c : Expr} {body : List Stmt} (hc : PTv X W c ψ) (hb : PBv X W body θ) : PSv X W (.While c body [] pos) (sWhile fuel ψ θ) :=
  psv_of (ps_while o.po hc hb) fun Z σ p env st hE hS h => by
    refine ⟨fun m σ H => ∃ p env st, p.H = H ∧ RepE X.K p env σ ∧ RepS X.K p st ∧ AftS (Cx.g X) W p (wLoop ψ θ m env st) Z, ⟨_, p, env, st, rfl, hE, hS, h⟩, fun m σ H hw => ?_⟩
    obtain ⟨p, env, st, z, hE, hS, h⟩ := hw
    subst z
    cases m with
    | zero => exact h.elim
    | succ n =>
      refine (tT.to hE hS h).mono fun b H1 ⟨p1, st1, z1, e1, s1, h1⟩ => ?_
      subst z1
      cases b with
      | true =>
        refine ⟨fun σ' H' => ∃ p env st, p.H = H' ∧ RepE X.K p env σ' ∧ RepS X.K p st ∧ AftS (Cx.g X) W p (wLoop ψ θ n env st) Z, fun σ' H' q => ⟨n, Nat.lt_succ_self n, q⟩, ?_⟩
        exact ⟨p1, env, st1, rfl, hE.mono e1, s1, body_aft h1 fun q e s σ' re rs _ ha => ⟨q, e, s, rfl, re, rs, ha⟩⟩
      | false => exact h1.now (.nx (hE.mono e1)) s1
/-! ### targets -/
inductive Pat where
  | nm (i : Nat) | tp (ps : List Pat)
mutual
def Pat.set : Pat → D → En → Option En
  | .nm i, d, env => some (env.set i (some d))
  | .tp ps, d, env => match d with
    | .tup ds => Pat.sets ps ds env
    | _ => none
def Pat.sets : List Pat → List D → En → Option En
  | [], [], env => some env
  | p :: ps, d :: ds, env => (Pat.set p d env).bind fun env => Pat.sets ps ds env
  | _, _, _ => none
end
mutual
def Pat.ix : Pat → List Nat
  | .nm i => [i]
  | .tp ps => Pat.ixs ps
def Pat.ixs : List Pat → List Nat
  | [] => []
  | p :: ps => Pat.ix p ++ Pat.ixs ps
end
/-- behind a target's store: the slots at is alone have changed -/
def OnlyAt (is : List Nat) (σ σ' : St) : Prop := σ'.length = σ.length ∧ ∀ j : Nat, j ∉ is → σ'[j]? = σ[j]?
theorem OnlyAt.trans {a b : List Nat} {σ σ1 σ2 : St} (h : OnlyAt a σ σ1) (h' : OnlyAt b σ1 σ2) : OnlyAt (a ++ b) σ σ2 :=
  ⟨h'.1.trans h.1, fun j n => (h'.2 j fun z => n (List.mem_append_right _ z)).trans (h.2 j fun z => n (List.mem_append_left _ z))⟩
def gD (G : Cg) (t : Pat) : TG := fun v σ H Q => ∃ p d env env', p.H = H ∧ Rep G.K p d v ∧ RepE G.K p env σ ∧ t.set d env = some env' ∧ ∀ σ', RepE G.K p env' σ' → OnlyAt t.ix σ σ' → Q σ' H
def gDs (G : Cg) (ps : List Pat) : TGs := fun vs σ H Q => ∃ p ds env env', p.H = H ∧ Reps G.K p ds vs ∧ RepE G.K p env σ ∧ Pat.sets ps ds env = some env' ∧ ∀ σ', RepE G.K p env' σ' → OnlyAt (Pat.ixs ps) σ σ' → Q σ' H
def PGv (X : Cx) (tg : Expr) (p : Pat) : Prop := PG X tg (gD (Cx.g X) p)
def PGsv (X : Cx) (tg : List Expr) (p : List Pat) : Prop := PGs X tg (gDs (Cx.g X) p)
theorem pgv_name (hN : X.N.Nodup) (i : Nat) {x : Str} (hi : X.N[i]? = some x := by rfl) (hx : Loc X.env.scope x := by first | exact .inl rfl | exact .inr rfl) (hf : X.fn x = true ∨ X.env.scope.names.lookup x = some .local := by first | exact .inl rfl | exact .inr rfl | assumption) : PGv X (.Name x pos) (.nm i) :=
  ⟨fun pins s σ H v u Q I r h => (pg_name hN hi hx hf).run pins s σ H v u Q I r (by
    obtain ⟨p, d, env, env', z, rd, hE, hp, h⟩ := h
    rw [Pat.set] at hp
    cases hp
    exact h _ (hE.set i rd) ⟨by simp, fun j n => List.getElem?_set_ne (by simp [Pat.ix] at n; omega)⟩)⟩
theorem pgsv_nil : PGsv X [] [] :=
  ⟨fun pins s σ H v u Q I r h => (pgs_nil (X := X)).run pins s σ H v u Q I r (by
    obtain ⟨p, ds, env, env', z, rd, hE, hp, h⟩ := h
    cases ds with
    | nil =>
      rw [Pat.sets] at hp
      cases hp
      cases rd
      exact ⟨rfl, h _ hE ⟨rfl, fun _ _ => rfl⟩⟩
    | cons => simp [Pat.sets] at hp)⟩
theorem pgsv_cons {es : List Expr} {t : Pat} {ps : List Pat} (h1 : PGv X e t) (h2 : PGsv X es ps) (hs : (assignEach (e :: es) X.env).map (·.2) = assign e X.env :: (assignEach es X.env).map (·.2) := by rfl) : PGsv X (e :: es) (t :: ps) :=
  ⟨fun pins s σ H v u Q I r h => (pgs_cons (X := X) h1 h2 hs).run pins s σ H v u Q I r (by
    obtain ⟨p, ds, env, env', z, rd, hE, hp, h⟩ := h
    cases ds with
    | nil => simp [Pat.sets] at hp
    | cons d ds =>
      rw [Pat.sets] at hp
      cases rd with
      | cons r1 r2 =>
        cases q : t.set d env with
        | none => rw [q] at hp; cases hp
        | some env1 =>
          rw [q] at hp
          exact ⟨_, _, rfl, p, d, env, env1, z, r1, hE, q, fun σ1 hE1 o1 => ⟨p, ds, env1, env', z, r2, hE1, hp, fun σ2 hE2 o2 => h σ2 hE2 (by rw [Pat.ixs]; exact o1.trans o2)⟩⟩)⟩
theorem Pat.sets_len : ∀ {ps : List Pat} {ds : List D} {env env' : En}, Pat.sets ps ds env = some env' → ds.length = ps.length
  | [], [], _, _, _ => rfl
  | [], _ :: _, _, _, h => by simp [Pat.sets] at h
  | _ :: _, [], _, _, h => by simp [Pat.sets] at h
  | p :: ps, d :: ds, env, env', h => by
    rw [Pat.sets] at h
    cases q : p.set d env with
    | none => rw [q] at h; cases h
    | some e => rw [q] at h; simp [Pat.sets_len (ps := ps) (ds := ds) h]
theorem pgv_tup (hc : X.calm = true) {es : List Expr} {kk : Nat} {ps : List Pat} (h : PGsv X es ps) (hn : (assignEach es X.env).length = ps.length := by rfl) (hst : (assignEach es X.env).findIdx? (·.1) = none := by rfl) : PGv X (.Tuple es kk pos) (.tp ps) :=
  ⟨fun pins s σ H v u Q I r h' => (pg_tup (X := X) hc h hn hst).run pins s σ H v u Q I r (by
    obtain ⟨p, d, env, env', z, rd, hE, hp, h⟩ := h'
    subst z
    cases d <;> simp only [Pat.set, reduceCtorEq] at hp
    rename_i ds
    cases rd with
    | tup e1 e2 => exact ⟨_, _, rfl, e1.sq, by rw [← e2.length]; exact Pat.sets_len hp, p, ds, env, env', rfl, e2, hE, hp, fun σ' a b => h σ' a (by rw [Pat.ix]; exact b)⟩)⟩
/-! ### what is walked -/
/-- J walks the items ds: while the heap goes on -/
def Walks (G : Cg) (J : It) (p : Pt) (ds : List D) : Prop := ∀ (i : Nat) q, Ext p q →
  (∀ d, ds[i]? = some d → J.go i q.H ∧ ∀ x H'', J.yld i q.H x H'' → ∃ r, r.H = H'' ∧ Ext q r ∧ Rep G.K r d x ∧ ∀ st, RepS G.K q st → RepS G.K r st) ∧ (ds.length ≤ i → J.stop i q.H)
theorem Walks.ext {G : Cg} {J : It} {p q : Pt} {ds : List D} (e : Ext p q) (h : Walks G J p ds) : Walks G J q ds := fun i r e2 => h i r (e.trans e2)
abbrev DenI := En → Sto → Out (List D)
def iD (G : Cg) (W : WX) (φ : DenI) : TI := fun σ H R => ∃ p env st, p.H = H ∧ RepE G.K p env σ ∧ RepS G.K p st ∧ Aft (fun q ds J => Walks G J q ds) G p (φ env st) R (wAt W σ)
def PIv (X : Cx) (W : WX) (tg iter : Expr) (φ : DenI) : Prop := PI X tg iter (iD (Cx.g X) W φ)
theorem piv_of {tg iter : Expr} {t : TI} {φ : DenI} (h : PI X tg iter t) (i : ∀ σ R p env st, RepE X.K p env σ → RepS X.K p st → Aft (fun q ds J => Walks (Cx.g X) J q ds) (Cx.g X) p (φ env st) R (wAt W σ) → t σ p.H R) : PIv X W tg iter φ :=
  ⟨fun pins s σ H R I ⟨p, env, st, z, hE, hS, q⟩ => h.run pins s σ H R I (z ▸ i σ R p env st hE hS q)⟩
/-- the items of a tuple; of a list that is no cell -/
def dItT (φ : Den) : DenI := fun env st => (φ env st).bind fun d st => match d with
  | .tup ds => .ok ds st
  | _ => .bad
def dItL (φ : Den) : DenI := fun env st => (φ env st).bind fun d st => match d with
  | .lst ds => .ok ds st
  | .fls ds => .ok ds st
  | _ => .bad
theorem walks_tup {G : Cg} {p : Pt} {a : Addr} {ds : List D} {vs : List V} (e : STup G.K p a vs) (r : Reps G.K p ds vs) : Walks G (Itt G.K a) p ds := fun i q ex => by
  refine ⟨fun d hd => ?_, fun hl => ⟨vs, (e.mono ex).sq, by rw [← r.length]; exact hl⟩⟩
  obtain ⟨v, hv, rv⟩ := (r.mono ex).get hd
  refine ⟨⟨vs, v, (e.mono ex).sq, hv⟩, fun x H'' y => ?_⟩
  obtain ⟨rfl, y⟩ := y
  have e2 := y vs (e.mono ex).sq
  rw [hv] at e2
  cases e2
  exact ⟨q, rfl, .refl, rv, fun _ s => s⟩
theorem walks_lst {G : Cg} {p : Pt} {a : Addr} {ds : List D} {vs : List V} (e : ∀ q, Ext p q → SqL G.K q.H a vs) (r : Reps G.K p ds vs) : Walks G (Itl G.K a) p ds := fun i q ex => by
  have es := e q ex
  refine ⟨fun d hd => ?_, fun hl => ⟨vs, es, by rw [← r.length]; exact hl⟩⟩
  obtain ⟨v, hv, rv⟩ := (r.mono ex).get hd
  refine ⟨⟨vs, v, es, hv⟩, fun x H'' y => ?_⟩
  obtain ⟨rfl, y⟩ := y
  have e2 := y vs es
  rw [hv] at e2
  cases e2
  exact ⟨q, rfl, .refl, rv, fun _ s => s⟩
theorem piv_tup {tg : Expr} (h : PEv X W e φ) : PIv X W tg e (dItT φ) :=
  piv_of (pi_tup h) fun σ R p env st hE hS h => (tD.run hE hS h).mono fun x H1 ⟨p1, d, st1, z1, e1, r1, s1, h1⟩ => by
    subst z1
    cases r1 with
    | tup e2 r2 => exact ⟨_, rfl, ⟨_, e2.sq⟩, h1.now (walks_tup e2 r2) s1⟩
    | _ => exact h1.elim
theorem piv_lst {tg : Expr} (h : PEv X W e φ) : PIv X W tg e (dItL φ) :=
  piv_of (pi_list h) fun σ R p env st hE hS h => (tD.run hE hS h).mono fun x H1 ⟨p1, d, st1, z1, e1, r1, s1, h1⟩ => by
    subst z1
    cases r1 with
    | lst e2 n2 r2 => exact ⟨_, rfl, ⟨_, SqL.of (p1.sub _ _ e2)⟩, h1.now (walks_lst (fun q ex => SqL.of (q.sub _ _ (ex.keep _ _ e2 n2))) r2) s1⟩
    | fls e2 r2 => exact ⟨_, rfl, ⟨_, e2.sq⟩, h1.now (walks_lst (fun q ex => (e2.mono ex).sq) r2) s1⟩
    | _ => exact h1.elim
/-- range(n), range(a, b) -/
def rngL (a : Int) (n : Nat) : List D := (List.range n).map fun (i : Nat) => D.int (a + (i : Int))
theorem walks_rng {G : Cg} {p : Pt} {a : Int} {n : Nat} : Walks G (Itr a n) p (rngL a n) := fun i q ex => by
  refine ⟨fun d hd => ?_, fun hl => show n ≤ i by simpa [rngL] using hl⟩
  unfold rngL at hd
  rw [List.getElem?_map] at hd
  by_cases hl : i < n
  · rw [List.getElem?_range hl] at hd
    cases hd
    refine ⟨hl, fun x H'' y => ?_⟩
    obtain ⟨rfl, rfl⟩ := y
    exact ⟨q, rfl, .refl, .int _, fun _ s => s⟩
  · rw [List.getElem?_eq_none (by simpa using hl)] at hd; cases hd
def dRng1 : List D → Sto → Out (List D)
  | [.int j], st => if -(2 ^ 62) ≤ j ∧ j < 2 ^ 62 then .ok (rngL 0 j.toNat) st else .bad
  | _, _ => .bad
def dRng2 : List D → Sto → Out (List D)
  | [.int i, .int j], st => if -(2 ^ 62) ≤ i ∧ i < 2 ^ 62 ∧ -(2 ^ 62) ≤ j ∧ j < 2 ^ 62 then .ok (rngL i (j - i).toNat) st else .bad
  | _, _ => .bad
def dItR1 (φs : List Den) : DenI := fun env st => (evL φs env st).bind dRng1
def dItR2 (φs : List Den) : DenI := fun env st => (evL φs env st).bind dRng2
theorem piv_rng1 {tg a : Expr} {p : Pos} {φs : List Den} (hm : X.mg "range" = none) (ha : PAv X W [a] φs) (hg : Gl X "range" := by rfl) (hs : starEach [a] X.env = [(false, eval a X.env)] := by rfl) : PIv X W tg (.Call (.Name "range" p) [a] [] pos) (dItR1 φs) :=
  piv_of (pi_range1 hg hm ha hs) fun σ R p env st hE hS h => (tL.run hE hS h).mono fun vs H1 ⟨p1, ds, st1, z1, e1, r1, s1, h1⟩ => by
    subst z1
    unfold dRng1 at h1
    split at h1
    · rename_i j
      cases r1 with
      | cons ra rr =>
        cases ra; cases rr
        split at h1
        · rename_i hb
          exact ⟨j, rfl, hb.1, hb.2, h1.now walks_rng s1⟩
        · exact h1.elim
    · exact h1.elim
theorem piv_rng2 {tg a b : Expr} {p : Pos} {φs : List Den} (hm : X.mg "range" = none) (ha : PAv X W [a, b] φs) (hg : Gl X "range" := by rfl) (hs : starEach [a, b] X.env = [(false, eval a X.env), (false, eval b X.env)] := by rfl) (hs2 : starEach [b] X.env = [(false, eval b X.env)] := by rfl) : PIv X W tg (.Call (.Name "range" p) [a, b] [] pos) (dItR2 φs) :=
  piv_of (pi_range2 hg hm ha hs hs2) fun σ R p env st hE hS h => (tL.run hE hS h).mono fun vs H1 ⟨p1, ds, st1, z1, e1, r1, s1, h1⟩ => by
    subst z1
    unfold dRng2 at h1
    split at h1
    · rename_i i j
      cases r1 with
      | cons ra rr =>
        cases ra
        cases rr with
        | cons rb rr =>
          cases rb; cases rr
          split at h1
          · rename_i hb
            exact ⟨i, j, rfl, hb, h1.now walks_rng s1⟩
          · exact h1.elim
    · exact h1.elim
/-! ### for -/
def fLoop (t : Pat) (b : DenS) : List D → En → Sto → SOut
  | [], env, st => some (.nx env, st)
  | d :: r, env, st => match t.set d env with
    | none => none
    | some env1 => match b env1 st with
      | some (.nx e, s) => fLoop t b r e s
      | some (.ct e, s) => fLoop t b r e s
      | some (.bk e, s) => some (.nx e, s)
      | o => o
def sFor (ι : DenI) (t : Pat) (b : DenS) : DenS := fun env st => (ι env st).to env fun ds st => fLoop t b ds env st
theorem psv_for (o : Ok X W k) {tg iter : Expr} {body : List Stmt} {ι : DenI} {t : Pat} (hi : PIv X W tg iter ι) (hg : PGv X tg t) (hb : PBv X W body θ) (hs : ∀ x, foldedSetIterable iter X.env x = pure x := by intro _; rfl) :
    PSv X W (.For tg iter body [] pos) (sFor ι t θ) :=
  psv_of (ps_for o.po o.calm hi hg hb hs) fun Z σ p env st hE hS h => by
    refine ⟨p, env, st, rfl, hE, hS, (Aft.to (σ := σ) hE h).mono fun J H1 ⟨p1, ds, st1, z1, e1, w1, s1, h1⟩ => ?_⟩
    subst z1
    refine ⟨fun i m σ H => ∃ p env st, m = ds.length - i ∧ p.H = H ∧ RepE X.K p env σ ∧ RepS X.K p st ∧ Walks (Cx.g X) J p ds ∧ AftS (Cx.g X) W p (fLoop t θ (ds.drop i) env st) Z,
      ⟨_, p1, env, st1, rfl, rfl, hE.mono e1, s1, w1, h1⟩, fun i m σ H hw => ?_⟩
    obtain ⟨p, env, st, em, z, hE, hS, hW, h⟩ := hw
    subst z
    obtain ⟨hgo, hstop⟩ := hW i p .refl
    by_cases hl : i < ds.length
    · obtain ⟨go, yld⟩ := hgo ds[i] (List.getElem?_eq_getElem hl)
      refine .inr ⟨go, fun σ' H' => ∃ p env st, p.H = H' ∧ RepE X.K p env σ' ∧ RepS X.K p st ∧ Walks (Cx.g X) J p ds ∧ AftS (Cx.g X) W p (fLoop t θ (ds.drop (i + 1)) env st) Z, fun σ' H' q => ?_, fun x H' y => ?_⟩
      · obtain ⟨p', env', st', z, a, b, c, d⟩ := q
        exact ⟨ds.length - (i + 1), by omega, p', env', st', rfl, z, a, b, c, d⟩
      · obtain ⟨r, z, ex, rx, sx⟩ := yld x H' y
        subst z
        rw [List.drop_eq_getElem_cons hl, fLoop] at h
        have h := h.ext ex
        cases q : t.set ds[i] env with
        | none => rw [q] at h; exact h.elim
        | some env1 =>
          rw [q] at h
          refine ⟨r, ds[i], env, env1, rfl, rx, hE.mono ex, q, fun σ2 hE2 _ => ?_⟩
          exact ⟨r, env1, st, rfl, hE2, sx st hS, body_aft h fun q' e s σ' re rs e' ha => ⟨q', e, s, rfl, re, rs, hW.ext (ex.trans e'), ha⟩⟩
    · refine .inl ⟨hstop (by omega), ?_⟩
      rw [List.drop_eq_nil_of_le (by omega)] at h
      exact h.now (.nx hE) hS
/-! ### [elt for target in iter if test] -/
def wipeE (env : En) : List Nat → En
  | [] => env
  | v :: vs => (wipeE env vs).set v none
theorem RepE.none {K p env σ} (h : RepE K p env σ) (i : Nat) : RepE K p (env.set i none) (σ.set i none) := by
  refine ⟨by simpa using h.len, fun j x q => ?_⟩
  by_cases hj : i = j
  · subst hj
    by_cases hl : i < env.length
    · rw [List.getElem?_set_self hl] at q; cases q
    · rw [List.getElem?_eq_none (by simpa using hl)] at q; cases q
  · rw [List.getElem?_set_ne hj] at q
    rw [List.getElem?_set_ne hj]
    exact h.at_ j x q
theorem RepE.wipe {K p env σ} (h : RepE K p env σ) : ∀ vs, RepE K p (wipeE env vs) (L2.wipe σ vs)
  | [] => h
  | v :: vs => (RepE.wipe h vs).none v
def lcGo (t : Pat) (ψ : DenT) (φ : Den) (env : En) : List D → Sto → List D → Out (List D)
  | [], st, acc => .ok acc st
  | d :: r, st, acc => match t.set d env with
    | none => .bad
    | some env1 => match ψ env1 st with
      | .ok true st1 => (match φ env1 st1 with
        | .ok y st2 => if acc.length < sizeLine then lcGo t ψ φ env r st2 (acc ++ [y]) else .bad
        | _ => .bad)
      | .ok false st1 => lcGo t ψ φ env r st1 acc
      | _ => .bad
/-- the new list is no cell | is one -/
def dLc (ι : DenI) (t : Pat) (ψ : DenT) (φ : Den) (vs : List Nat) : Den := fun env st => (ι env st).bind fun ds st => (lcGo t ψ φ (wipeE env vs) ds st []).bind fun acc st => .ok (.lst acc) st
def dLcP (ι : DenI) (t : Pat) (ψ : DenT) (φ : Den) (vs : List Nat) : Den := fun env st => (ι env st).bind fun ds st => (lcGo t ψ φ (wipeE env vs) ds st []).bind fun acc st => .ok (.ptr st.length) (st ++ [.lst acc])
def dYes : DenT := fun _ st => .ok true st
def PTsv (X : Cx) (W : WX) (ifs : List Expr) (φ : DenT) : Prop := PTs X ifs (tT (Cx.g X) W φ)
theorem ptsv_nil : PTsv X W [] dYes := ⟨fun pins s σ H Q I ⟨p, env, st, z, hE, hS, h⟩ => (pts_nil (X := X)).run pins s σ H Q I (z ▸ h.now rfl hS)⟩
theorem ptsv_one {c : Expr} (h : PTv X W c ψ) : PTsv X W [c] ψ := pts_one h
theorem wipe_only {vs is : List Nat} {σ σ' : St} (h : OnlyAt is (L2.wipe σ vs) σ') (hs : ∀ i ∈ is, i ∈ vs) : L2.wipe σ' vs = L2.wipe σ vs := by
  have idem : ∀ (ws : List Nat) (τ τ' : St), τ.length = τ'.length → (∀ j : Nat, j ∉ ws → τ[j]? = τ'[j]?) → L2.wipe τ ws = L2.wipe τ' ws := by
    intro ws
    induction ws with
    | nil => intro τ τ' _ h; exact List.ext_getElem? fun j => h j (by simp)
    | cons w ws ih =>
      intro τ τ' hl h
      unfold L2.wipe
      apply List.ext_getElem?
      intro j
      by_cases hj : w = j
      · subst hj
        by_cases hw : w < τ.length
        · rw [List.getElem?_set_self (by rw [wipe_length]; exact hw), List.getElem?_set_self (by rw [wipe_length, ← hl]; exact hw)]
        · rw [List.getElem?_eq_none (by rw [List.length_set, wipe_length]; omega), List.getElem?_eq_none (by rw [List.length_set, wipe_length]; omega)]
      · rw [List.getElem?_set_ne hj, List.getElem?_set_ne hj]
        by_cases hm : j ∈ ws
        · have nn : ∀ (υ : St), j < υ.length → (L2.wipe υ ws)[j]? = some Option.none := by
            intro υ hυ
            cases q : (L2.wipe υ ws)[j]? with
            | none => rw [List.getElem?_eq_none_iff, wipe_length] at q; omega
            | some y =>
              cases y with
              | none => rfl
              | some y => exact absurd hm (wipe_some q).2
          by_cases hjl : j < τ.length
          · rw [nn τ hjl, nn τ' (by omega)]
          · rw [List.getElem?_eq_none (by rw [wipe_length]; omega), List.getElem?_eq_none (by rw [wipe_length]; omega)]
        · rw [wipe_out hm, wipe_out hm]
          exact h j (by simp [hm]; omega)
  have w2 : L2.wipe (L2.wipe σ vs) vs = L2.wipe σ vs := idem vs _ _ (wipe_length _ _) fun j hj => wipe_out hj
  rw [← w2]
  exact idem vs _ _ h.1 fun j hj => h.2 j fun z => hj (hs j z)
/-- the accumulator, which is not seen, is written -/
def Pt.over (p : Pt) (a : Addr) (o : HO) (n : p.V a = none) : Pt := ⟨p.rho, p.V, upd p.H a o, fun b u h => by rw [upd_ne (ne_of_none h n)]; exact p.sub b u h⟩
theorem Ext.over {p q : Pt} {a o n} (e : Ext p q) (h : p.H a = none) : Ext p (q.over a o n) :=
  ⟨e.pre, e.keep, e.new, e.vis, fun b u hb hn => by show upd _ _ _ _ = _; rw [upd_ne (ne_of_none hb h)]; exact e.hid b u hb hn⟩
theorem Mo.over {p : Pt} {a o n} : Mo p (p.over a o n) := ⟨⟨[], by simp [Pt.over]⟩, fun _ _ h _ => h, fun _ _ _ n => n⟩
theorem RepM.mo {K p q a m} (e : Mo p q) (hs : q.V a = p.V a) (h : RepM K p a m) : RepM K q a m := by
  cases m with
  | lst ds => obtain ⟨vs, h1, h2⟩ := h; exact ⟨vs, hs.trans h1, h2.mo e⟩
  | dic ks ds => obtain ⟨vs, h1, h0, h2⟩ := h; exact ⟨vs, hs.trans h1, h0, h2.mo e⟩
theorem RepS.over {K} {p : Pt} {a o n st} (h : RepS K p st) : RepS K (p.over a o n) st := ⟨h.len, h.nd, fun i m b h1 h2 => (h.at_ i m b h1 h2).mo Mo.over rfl⟩
/-- what was not seen is seen from now on -/
def Pt.see (p : Pt) (a : Addr) (o : HO) (h : p.H a = some o) : Pt := ⟨p.rho, upd p.V a o, p.H, fun b u q => by
  by_cases z : b = a
  · subst z; rw [upd_same] at q; cases q; exact h
  · rw [upd_ne z] at q; exact p.sub b u q⟩
def Pt.seeC (p : Pt) (a : Addr) (o : HO) (h : p.H a = some o) : Pt := ⟨p.rho ++ [a], upd p.V a o, p.H, (p.see a o h).sub⟩
theorem Mo.see {p : Pt} {a o h} (n : p.V a = none) : Mo p (p.see a o h) := ⟨⟨[], by simp [Pt.see]⟩, fun b u q _ => by show upd _ _ _ _ = _; rw [upd_ne (ne_of_none q n)]; exact q, fun _ _ _ n => n⟩
theorem Mo.seeC {p : Pt} {a o h} (n : p.V a = none) : Mo p (p.seeC a o h) := ⟨⟨[a], rfl⟩, fun b u q _ => by show upd _ _ _ _ = _; rw [upd_ne (ne_of_none q n)]; exact q, fun b u q nb z => by
  rcases List.mem_append.mp z with z | z
  · exact nb z
  · simp at z; subst z; rw [n] at q; cases q⟩
theorem Ext.see {p q : Pt} {a o h} (e : Ext p q) (n : q.V a = none) (hp : p.H a = none) : Ext p (q.see a o h) :=
  ⟨e.pre, fun b u hb nb => (Mo.see n).keep b u (e.keep b u hb nb) (e.nn hb nb), e.new, fun b u hb nb => by
    by_cases z : b = a
    · rw [z]; exact hp
    · rw [show (q.see a o h).V b = q.V b from upd_ne z] at hb
      exact e.vis b u hb nb, e.hid⟩
theorem Ext.seeC {p q : Pt} {a o h} (e : Ext p q) (n : q.V a = none) (hp : p.H a = none) : Ext p (q.seeC a o h) := by
  refine ⟨?_, fun b u hb nb => (Mo.see (h := h) n).keep b u (e.keep b u hb nb) (e.nn hb nb), fun b hb nb => ?_, (Ext.see (h := h) e n hp).vis, e.hid⟩
  · obtain ⟨t, z⟩ := e.pre
    exact ⟨t ++ [a], by show q.rho ++ [a] = _; rw [z, List.append_assoc]⟩
  · rcases List.mem_append.mp hb with z | z
    · exact e.new b z nb
    · simp at z; subst z; exact hp
theorem RepS.see {K} {p : Pt} {a o h st} (s : RepS K p st) (n : p.V a = none) : RepS K (p.see a o h) st :=
  ⟨s.len, s.nd, fun i m b h1 h2 => (s.at_ i m b h1 h2).mo (Mo.see n) (upd_ne fun z => s.ne n (z ▸ List.mem_of_getElem? h2))⟩
theorem RepS.seeC {K} {p : Pt} {a o h st m} (s : RepS K p st) (n : p.V a = none) (hm : RepM K (p.seeC a o h) a m) : RepS K (p.seeC a o h) (st ++ [m]) := by
  refine ⟨by simp [Pt.seeC, s.len], ?_, fun i m' b h1 h2 => ?_⟩
  · show (p.rho ++ [a]).Nodup
    rw [List.nodup_append]
    exact ⟨s.nd, by simp, fun x hx y hy => by simp at hy; subst hy; intro z; subst z; exact s.ne n hx⟩
  · have h2 : (p.rho ++ [a])[i]? = some b := h2
    by_cases hl : i < p.rho.length
    · rw [List.getElem?_append_left (by rw [s.len]; exact hl)] at h1
      rw [List.getElem?_append_left hl] at h2
      exact (s.at_ i m' b h1 h2).mo (Mo.seeC n) (upd_ne fun z => s.ne n (z ▸ List.mem_of_getElem? h2))
    · have e : i = p.rho.length := by
        have := (List.getElem?_eq_some_iff.mp h2).1
        simp at this; omega
      subst e
      rw [show p.rho.length = st.length from s.len.symm] at h1
      simp at h1
      simp at h2
      subst h1; subst h2
      exact hm
theorem Ext.unseen {p q : Pt} {a o} (e : Ext p q) (n : p.V a = none) (h : p.H a = some o) : q.V a = none ∧ q.H a = some o := by
  refine ⟨?_, e.hid a o h n⟩
  cases z : q.V a with
  | none => rfl
  | some u => rw [e.vis a u z n] at h; cases h
/-- what a comprehension asks, from what its denotation says -/
theorem tLc_of {ι : DenI} {t : Pat} {vs : List Nat} {σ : St} {p : Pt} {env : En} {st : Sto} {Q : VK} {fin : List D → Sto → Out D} (hp : ∀ i ∈ t.ix, i ∈ vs)
    (hE : RepE X.K p env σ) (hS : RepS X.K p st) (h : Aft (Rep X.K) (Cx.g X) p ((ι env st).bind fun ds st => (lcGo t ψ φ (wipeE env vs) ds st []).bind fin) Q (wAt W σ))
    (hfin : ∀ acc st p q a vs, Ext p q → p.H a = none → q.V a = none → q.H a = some (.lst vs) → Reps X.K q acc vs → RepS X.K q st → Aft (Rep X.K) (Cx.g X) p (fin acc st) Q (wAt W σ) → Q (.ref a) q.H) :
    tLc (iD (Cx.g X) W ι) (gD (Cx.g X) t) (tT (Cx.g X) wNo ψ) (tD (Cx.g X) wNo φ) vs σ p.H Q := by
  refine ⟨p, env, st, rfl, hE, hS, (Aft.bind h).mono fun J H1 ⟨p1, ds, st1, z1, e1, w1, s1, h1⟩ => ?_⟩
  subst z1
  have hE1 := hE.mono e1
  intro A hA
  have fA := Pt.free hA
  refine ⟨fun i m H => ∃ q st acc avs, m = ds.length - i ∧ q.H = H ∧ Ext p1 q ∧ q.V A = none ∧ H A = some (.lst avs) ∧ RepS X.K q st ∧ Reps X.K q acc avs ∧
      Aft (Rep X.K) (Cx.g X) p1 ((lcGo t ψ φ (wipeE env vs) (ds.drop i) st acc).bind fin) Q (wAt W σ),
    ⟨_, p1.over A (.lst []) fA, st1, [], [], rfl, rfl, Ext.refl.over hA, fA, upd_same, s1.over, .nil, h1⟩, fun i m H hw => ?_⟩
  obtain ⟨q, st, acc, avs, em, z, eq, nA, hAl, hS, rA, h⟩ := hw
  subst z
  obtain ⟨hgo, hstop⟩ := w1 i q eq
  by_cases hl : i < ds.length
  · obtain ⟨go, yld⟩ := hgo ds[i] (List.getElem?_eq_getElem hl)
    refine .inr ⟨go, fun H' => ∃ q st acc avs, q.H = H' ∧ Ext p1 q ∧ q.V A = none ∧ H' A = some (.lst avs) ∧ RepS X.K q st ∧ Reps X.K q acc avs ∧
      Aft (Rep X.K) (Cx.g X) p1 ((lcGo t ψ φ (wipeE env vs) (ds.drop (i + 1)) st acc).bind fin) Q (wAt W σ), fun H' hq => ?_, fun x H' y => ?_⟩
    · obtain ⟨q', st', acc', avs', a, b, c, d, e, f, g⟩ := hq
      exact ⟨ds.length - (i + 1), by omega, q', st', acc', avs', rfl, a, b, c, d, e, f, g⟩
    · obtain ⟨r, z, ex, rx, sx⟩ := yld x H' y
      subst z
      rw [List.drop_eq_getElem_cons hl, lcGo] at h
      have e1r := eq.trans ex
      cases q0 : t.set ds[i] (wipeE env vs) with
      | none => rw [q0] at h; exact h.elim
      | some env1 =>
        rw [q0] at h
        dsimp only at h
        refine ⟨r, ds[i], wipeE env vs, env1, rfl, rx, (hE1.mono e1r).wipe vs, q0, fun σ2 hE2 o2 => ⟨wipe_only o2 hp, r, env1, st, rfl, hE2, sx st hS, ?_⟩⟩
        cases q1 : ψ env1 st with
        | exc x st => rw [q1] at h; exact h.elim
        | bad => rw [q1] at h; exact h.elim
        | ok b st2 =>
          rw [q1] at h
          intro r2 b2 e2 hb s2
          cases hb
          have e12 := e1r.trans e2
          obtain ⟨nA2, hA2⟩ := (ex.trans e2).unseen nA hAl
          cases b with
          | false => exact ⟨r2, st2, acc, avs, rfl, e12, nA2, hA2, s2, rA.mono (ex.trans e2), h⟩
          | true =>
            show tD _ _ _ _ _ _
            refine ⟨r2, env1, st2, rfl, hE2.mono e2, s2, ?_⟩
            dsimp only at h
            cases q2 : φ env1 st2 with
            | exc x st => rw [q2] at h; exact h.elim
            | bad => rw [q2] at h; exact h.elim
            | ok yd st3 =>
              rw [q2] at h
              dsimp only at h
              intro r3 v e3 rv s3
              obtain ⟨nA3, hA3⟩ := e3.unseen nA2 hA2
              by_cases hz : acc.length < sizeLine
              · rw [if_pos hz] at h
                refine ⟨avs, hA3, by rw [← rA.length]; exact hz, r3.over A (.lst (avs ++ [v])) nA3, st3, acc ++ [yd], avs ++ [v], rfl, (e12.trans e3).over hA, nA3, upd_same, s3.over, ?_, h⟩
                exact ((rA.mono ((ex.trans e2).trans e3)).append (.cons rv .nil)).mo Mo.over
              · rw [if_neg hz] at h
                exact h.elim
  · refine .inl ⟨hstop (by omega), ?_⟩
    rw [List.drop_eq_nil_of_le (by omega), lcGo] at h
    exact hfin acc st p1 q A avs eq hA nA hAl rA hS h
theorem pev_lc (o : Ok X W k) {elt tg iter : Expr} {ifs : List Expr} {scope : Scope} (own : List (Str × Nat)) {ι : DenI} {t : Pat} (hi : PIv X W tg iter ι) (ok : BlkOk X.N X.env.scope scope own)
    (hg : ∀ (s : Shared) (H : Hp) (C : Addr) (cl : List (Str × Addr)) (fp : List Addr), PGv (X.blk s H scope (compEnvC scope cl C X.env) fp) tg t)
    (ht : ∀ (s : Shared) (H : Hp) (C : Addr) (cl : List (Str × Addr)) (fp : List Addr), Ok (X.blk s H scope (compEnvC scope cl C X.env) fp) wNo k → PTsv (X.blk s H scope (compEnvC scope cl C X.env) fp) wNo ifs ψ)
    (he : ∀ (s : Shared) (H : Hp) (C : Addr) (cl : List (Str × Addr)) (fp : List Addr), Ok (X.blk s H scope (compEnvC scope cl C X.env) fp) wNo k → PEv (X.blk s H scope (compEnvC scope cl C X.env) fp) wNo elt φ)
    (hp : ∀ i ∈ t.ix, i ∈ own.map (·.2) := by decide) (hs : ∀ x, foldedSetIterable iter X.env x = pure x := by intro _; rfl) :
    PEv X W (.ListComp elt [⟨tg, iter, ifs, 0⟩] scope pos) (dLc ι t ψ φ (own.map (·.2))) :=
  pev_of (pe_lc (g := gD (Cx.g X) t) (tt := tT (Cx.g X) wNo ψ) (te := tD (Cx.g X) wNo φ) o.calm o.nd hi ok hg (fun s H C cl fp => ht s H C cl fp (o.blk ..)) (fun s H C cl fp => he s H C cl fp (o.blk ..)) hs) fun σ Q p env st hE hS h =>
    tLc_of hp hE hS h fun acc st p q a vs e ha na hq r s h => h (q.see a _ hq) _ (e.see na ha) (.lst upd_same (s.ne na) (r.mo (Mo.see na))) (s.see na)
theorem pev_lcP (o : Ok X W k) {elt tg iter : Expr} {ifs : List Expr} {scope : Scope} (own : List (Str × Nat)) {ι : DenI} {t : Pat} (hi : PIv X W tg iter ι) (ok : BlkOk X.N X.env.scope scope own)
    (hg : ∀ (s : Shared) (H : Hp) (C : Addr) (cl : List (Str × Addr)) (fp : List Addr), PGv (X.blk s H scope (compEnvC scope cl C X.env) fp) tg t)
    (ht : ∀ (s : Shared) (H : Hp) (C : Addr) (cl : List (Str × Addr)) (fp : List Addr), Ok (X.blk s H scope (compEnvC scope cl C X.env) fp) wNo k → PTsv (X.blk s H scope (compEnvC scope cl C X.env) fp) wNo ifs ψ)
    (he : ∀ (s : Shared) (H : Hp) (C : Addr) (cl : List (Str × Addr)) (fp : List Addr), Ok (X.blk s H scope (compEnvC scope cl C X.env) fp) wNo k → PEv (X.blk s H scope (compEnvC scope cl C X.env) fp) wNo elt φ)
    (hp : ∀ i ∈ t.ix, i ∈ own.map (·.2) := by decide) (hs : ∀ x, foldedSetIterable iter X.env x = pure x := by intro _; rfl) :
    PEv X W (.ListComp elt [⟨tg, iter, ifs, 0⟩] scope pos) (dLcP ι t ψ φ (own.map (·.2))) :=
  pev_of (pe_lc (g := gD (Cx.g X) t) (tt := tT (Cx.g X) wNo ψ) (te := tD (Cx.g X) wNo φ) o.calm o.nd hi ok hg (fun s H C cl fp => ht s H C cl fp (o.blk ..)) (fun s H C cl fp => he s H C cl fp (o.blk ..)) hs) fun σ Q p env st hE hS h =>
    tLc_of hp hE hS h fun acc st p q a vs e ha na hq r s h => h (q.seeC a _ hq) _ (e.seeC na ha) (.ptr (by show (q.rho ++ [a])[st.length]? = some a; rw [s.len]; simp)) (s.seeC na ⟨vs, upd_same, r.mo (Mo.seeC na)⟩)
/-- name = [..] on one line, the name a local -/
theorem psv_setLc (o : Ok X W k) (i : Nat) {y : Str} {py spos : Pos} {elt tg iter : Expr} {ifs : List Expr} {scope : Scope} (own : List (Str × Nat)) {ι : DenI} {t : Pat} (hi : PIv X W tg iter ι) (ok : BlkOk X.N X.env.scope scope own)
    (hg : ∀ (s : Shared) (H : Hp) (C : Addr) (cl : List (Str × Addr)) (fp : List Addr), PGv (X.blk s H scope (compEnvC scope cl C X.env) fp) tg t)
    (ht : ∀ (s : Shared) (H : Hp) (C : Addr) (cl : List (Str × Addr)) (fp : List Addr), Ok (X.blk s H scope (compEnvC scope cl C X.env) fp) wNo k → PTsv (X.blk s H scope (compEnvC scope cl C X.env) fp) wNo ifs ψ)
    (he : ∀ (s : Shared) (H : Hp) (C : Addr) (cl : List (Str × Addr)) (fp : List Addr), Ok (X.blk s H scope (compEnvC scope cl C X.env) fp) wNo k → PEv (X.blk s H scope (compEnvC scope cl C X.env) fp) wNo elt φ)
    (hy : X.N[i]? = some y := by rfl) (hyl : X.env.scope.names.lookup y = some .local := by rfl)
    (hsw : swapsWith (.ListComp elt [⟨tg, iter, ifs, 0⟩] scope pos) (some (.Name y py)) spos.line X.env = pure true := by exact sw_true rfl rfl rfl (by decide +kernel))
    (hp : ∀ i ∈ t.ix, i ∈ own.map (·.2) := by decide) (hs : ∀ x, foldedSetIterable iter X.env x = pure x := by intro _; rfl) :
    PSv X W (.Assign [.Name y py] (.ListComp elt [⟨tg, iter, ifs, 0⟩] scope pos) spos) (sSet i (dLc ι t ψ φ (own.map (·.2)))) :=
  psv_of (ps_setLc (g := gD (Cx.g X) t) (tt := tT (Cx.g X) wNo ψ) (te := tD (Cx.g X) wNo φ) o.calm o.nd hy hyl hsw hi ok hg (fun s H C cl fp => ht s H C cl fp (o.blk ..)) (fun s H C cl fp => he s H C cl fp (o.blk ..)) hs) fun Z σ p env st hE hS h => by
    refine tLc_of (W := W) (fin := fun acc st => .ok (.lst acc) st) hp hE hS (Q := fun x H1 => gName i x σ H1 Z.nx) ?_ fun acc st p q a vs e ha na hq r s h => h (q.see a _ hq) _ (e.see na ha) (.lst upd_same (s.ne na) (r.mo (Mo.see na))) (s.see na)
    exact (Aft.to (R := Rep X.K) (σ := σ) hE h).mono fun v H1 ⟨q, d, st1, z, e, r, s, h⟩ => z ▸ h.now (.nx ((hE.mono e).set i r)) s
end

/-! ### defs -/
def dFn (m : Nat) (θ : DenS) : List D → Sto → Out D := fun args st => match θ (args.map some ++ List.replicate (m - args.length) none) st with
  | some (.rt d, st') => .ok d st'
  | some (.nx _, st') => .ok .non st'
  | some (.ex x _, st') => .exc x st'
  | _ => .bad
theorem repE_start {K : Frag} {p : Pt} {N : List Str} : ∀ {args : List D} {vs : List V}, Reps K p args vs → RepE K p (args.map some ++ List.replicate (N.length - args.length) none) (L2.start N vs) := by
  intro args vs r
  unfold L2.start
  have hl := r.length
  refine ⟨by simp; omega, fun i d h => ?_⟩
  by_cases hi : i < args.length
  · rw [List.getElem?_append_left (by simpa using hi), List.getElem?_map] at h
    rw [List.getElem?_append_left (by simp; omega), List.getElem?_map]
    cases q : args[i]? with
    | none => rw [q] at h; cases h
    | some d' =>
      rw [q] at h
      cases h
      obtain ⟨v, hv, rv⟩ := r.get q
      exact ⟨v, by rw [hv]; rfl, rv⟩
  · rw [List.getElem?_append_right (by simpa using hi), List.getElem?_replicate] at h
    split at h <;> cases h
theorem fn_den {P : Program} {w : World} {K : Frag} {mg : Str → Option Value} {base : Heap} {x qual : Str} {st : Stmt} {f : Addr} {fd : FuncData} {N ps : List Str} {k : Nat} {θ : DenS} (F : Fun K x qual st f fd) (S : FnScope N ps (defScope st))
    (hb : ∀ (X : Cx) (W : WX), Ok X W k → (∃ cdv A outer s H E, X = cxOf (L2.CX P w) P w K mg base N qual (defScope st) f cdv A outer s H E) → PBv X W (defBody st) θ) :
    FnOk P w K mg base (L2.CX P w) (k + 1) f fd ps (spF ⟨K, mg⟩ ps.length (dFn N.length θ)) := by
  refine F.okX S (fun vs H Q E ⟨p, args, st, z, hl, r, _⟩ => by rw [← r.length]; exact hl) fun cdv A outer s H vs Q E hr ⟨p, args, st, z, hl, r, hS, h⟩ => ?_
  subst z
  refine ⟨_, hb _ (fun c d σ H => E c d H) ⟨rfl, S.nd, hr, takes_of rfl rfl rfl rfl, passes_of rfl⟩ ⟨cdv, A, outer, s, p.H, E, rfl⟩, p, _, st, rfl, repE_start r, hS, ?_⟩
  unfold dFn at h
  show AftS _ _ p (θ (args.map some ++ List.replicate (N.length - args.length) none) st) _
  cases q : θ (args.map some ++ List.replicate (N.length - args.length) none) st with
  | none => rw [q] at h; exact h
  | some o =>
    obtain ⟨fl, st'⟩ := o
    rw [q] at h
    intro q' fv e rf rs
    cases rf with
    | nx rf => exact h q' .non e .non rs
    | rt rf => exact h q' _ e rf rs
    | bk rf => exact h.elim
    | ct rf => exact h.elim
    | ex rx rf => exact h q' _ _ e rx rs
end DL

/-! DL: operators, built-ins, dicts. -/
namespace DL
open PySem PySem.Spec L2
open PyProof.Rows hiding St
set_option autoImplicit true

/-! ### keys and dicts as plain data -/
def dKey : D → Option Key
  | .int i => some (.inl i)
  | .str x => some (.inr x)
  | _ => none
def kD : Key → D
  | .inl i => .int i
  | .inr x => .str x
theorem dKey_rep {K p d v k} (h : dKey d = some k) (r : Rep K p d v) : v = kV k := by
  cases r <;> simp only [dKey] at h <;> cases h <;> rfl
def valD {κ : Type} [DecidableEq κ] : List κ → List D → κ → Option D
  | k' :: ks, d :: ds, k => if k' = k then some d else valD ks ds k
  | _, _, _ => none
theorem valD_rep {κ : Type} [DecidableEq κ] {K p} {k : κ} : ∀ {ks : List κ} {ds : List D} {vs : List V}, ks.length = ds.length → Reps K p ds vs →
    (∀ d, valD ks ds k = some d → ∃ v, valV (ks.zip vs) k = some v ∧ Rep K p d v) ∧ (valD ks ds k = none → valV (ks.zip vs) k = none)
  | [], [], _, _, .nil => ⟨fun d h => by simp [valD] at h, fun _ => rfl⟩
  | [], _ :: _, _, h, _ => by simp at h
  | _ :: _, [], _, h, _ => by simp at h
  | k' :: ks, d :: ds, _, h, .cons r rr => by
    have ih := valD_rep (k := k) (ks := ks) (by simpa using h) rr
    by_cases e : k' = k
    · subst e
      refine ⟨fun d' h' => ?_, fun h' => ?_⟩
      · rw [valD, if_pos rfl] at h'
        cases h'
        exact ⟨_, by rw [List.zip_cons_cons, valV_pos rfl], r⟩
      · rw [valD, if_pos rfl] at h'; cases h'
    · rw [valD, if_neg e, List.zip_cons_cons, valV_neg (by exact e)]
      exact ih
def putKs {κ : Type} [DecidableEq κ] (ks : List κ) (k : κ) : List κ := if k ∈ ks then ks else ks ++ [k]
def putDs {κ : Type} [DecidableEq κ] : List κ → List D → κ → D → List D
  | k' :: ks, d' :: ds, k, d => if k' = k then d :: putDs' ks ds k d else d' :: putDs ks ds k d
  | _, _, _, d => [d]
where putDs' : List κ → List D → κ → D → List D
  | k' :: ks, d' :: ds, k, d => (if k' = k then d else d') :: putDs' ks ds k d
  | _, _, _, _ => []
theorem putDs'_rep {κ : Type} [DecidableEq κ] {K p d v} {k : κ} (r : Rep K p d v) : ∀ {ks : List κ} {ds : List D} {vs : List V}, ks.length = ds.length → Reps K p ds vs →
    ∃ ws, Reps K p (putDs.putDs' ks ds k d) ws ∧ (ks.zip vs).map (fun kv => if kv.1 = k then (kv.1, v) else kv) = ks.zip ws ∧ ks.length = (putDs.putDs' ks ds k d).length
  | [], [], _, _, .nil => ⟨[], .nil, rfl, rfl⟩
  | [], _ :: _, _, h, _ => by simp at h
  | _ :: _, [], _, h, _ => by simp at h
  | k' :: ks, d' :: ds, _, h, .cons (v := v') r1 rr => by
    obtain ⟨ws, h1, h2, h3⟩ := putDs'_rep r (ks := ks) (by simpa using h) rr
    by_cases e : k' = k
    · refine ⟨v :: ws, ?_, ?_, ?_⟩
      · rw [putDs.putDs', if_pos e]; exact .cons r h1
      · simp [e, h2]
      · rw [putDs.putDs', if_pos e]; simp [h3]
    · refine ⟨v' :: ws, ?_, ?_, ?_⟩
      · rw [putDs.putDs', if_neg e]; exact .cons r1 h1
      · simp [e, h2]
      · rw [putDs.putDs', if_neg e]; simp [h3]
theorem zip_any {κ : Type} [DecidableEq κ] {k : κ} : ∀ {ks : List κ} {vs : List V}, ks.length = vs.length → ((ks.zip vs).any fun kv => decide (kv.1 = k)) = decide (k ∈ ks)
  | [], _, _ => rfl
  | _ :: _, [], h => by simp at h
  | k' :: ks, v :: vs, h => by
    rw [List.zip_cons_cons, List.any_cons, zip_any (ks := ks) (by simpa using h)]
    by_cases e : k' = k
    · subst e; simp
    · simp [e, Ne.symm e]
theorem putDs_rep {κ : Type} [DecidableEq κ] {K p d v} {k : κ} (r : Rep K p d v) : ∀ {ks : List κ} {ds : List D} {vs : List V}, ks.length = ds.length → Reps K p ds vs →
    ∃ ws, Reps K p (putDs ks ds k d) ws ∧ putK (ks.zip vs) k v = (putKs ks k).zip ws ∧ (putKs ks k).length = (putDs ks ds k d).length
  | [], [], _, _, .nil => ⟨[v], by simp only [putDs]; exact .cons r .nil, by simp [putK, putKs], by simp [putKs, putDs]⟩
  | [], _ :: _, _, h, _ => by simp at h
  | _ :: _, [], _, h, _ => by simp at h
  | k' :: ks, d' :: ds, _, h, .cons (v := v') (vs := vs) r1 rr => by
    have hl : ks.length = ds.length := by simpa using h
    have hv : ks.length = vs.length := hl.trans rr.length
    by_cases e : k' = k
    · subst e
      obtain ⟨ws, h1, h2, h3⟩ := putDs'_rep r (k := k') hl rr
      refine ⟨v :: ws, ?_, ?_, ?_⟩
      · rw [putDs, if_pos rfl]; exact .cons r h1
      · unfold putK
        rw [zip_any (by simp [hv])]
        simp [putKs, h2]
      · rw [putDs, if_pos rfl]; simp [putKs, h3]
    · obtain ⟨ws, h1, h2, h3⟩ := putDs_rep r (k := k) hl rr
      refine ⟨v' :: ws, ?_, ?_, ?_⟩
      · rw [putDs, if_neg e]; exact .cons r1 h1
      · unfold putK at h2 ⊢
        rw [zip_any hv] at h2
        rw [zip_any (by simp [hv])]
        unfold putKs at h2 ⊢
        by_cases m : k ∈ ks
        · have m' : k ∈ k' :: ks := List.mem_cons_of_mem _ m
          simp only [m, m', decide_true, if_true] at h2 ⊢
          rw [List.zip_cons_cons, List.map_cons, h2]
          simp [e]
        · have m' : ¬ k ∈ k' :: ks := by simp [m, Ne.symm e]
          simp only [m, m', decide_false, Bool.false_eq_true, if_false] at h2 ⊢
          rw [List.zip_cons_cons, List.cons_append, h2]
          simp
      · rw [putDs, if_neg e]
        unfold putKs at h3 ⊢
        by_cases m : k ∈ ks
        · simp [m] at h3 ⊢; exact h3
        · simp [m, Ne.symm e] at h3 ⊢; exact h3

/-! ### a cell is written -/
def Pt.wr (p : Pt) (a : Addr) (o : HO) (h : ∃ u, p.V a = some u) : Pt := ⟨p.rho, upd p.V a o, upd p.H a o, sub_upd p.sub⟩
theorem Ext.wr {p : Pt} {a o h} (hm : a ∈ p.rho) : Ext p (p.wr a o h) :=
  ⟨⟨[], by simp [Pt.wr]⟩, fun b u hb nb => by show upd _ _ _ _ = _; rw [upd_ne (show b ≠ a from fun z => nb (by rw [z]; exact hm))]; exact hb, fun b hb nb => absurd hb nb,
   fun b u hb nb => by
    by_cases z : b = a
    · obtain ⟨w, hw⟩ := h; rw [z, hw] at nb; exact (nomatch nb)
    · rw [show (p.wr a o h).V b = p.V b from upd_ne z, nb] at hb; exact (nomatch hb),
   fun b u hb nb => by
    have z : b ≠ a := fun z => by obtain ⟨w, hw⟩ := h; rw [z, hw] at nb; exact (nomatch nb)
    show upd _ _ _ _ = _; rw [upd_ne z]; exact hb⟩
theorem RepS.wr {K} {p : Pt} {st n a o h m} (s : RepS K p st) (hn : p.rho[n]? = some a) (hm : RepM K (p.wr a o h) a m) : RepS K (p.wr a o h) (st.set n m) := by
  have ha : a ∈ p.rho := List.mem_of_getElem? hn
  refine ⟨by simpa [Pt.wr] using s.len, s.nd, fun i m' b h1 h2 => ?_⟩
  have h2 : p.rho[i]? = some b := h2
  by_cases e : n = i
  · subst e
    rw [hn] at h2; cases h2
    rw [List.getElem?_set_self (by rw [s.len]; exact (List.getElem?_eq_some_iff.mp hn).1)] at h1
    cases h1
    exact hm
  · rw [List.getElem?_set_ne e] at h1
    have nb : b ≠ a := fun z => by
      subst z
      obtain ⟨hi, ei⟩ := List.getElem?_eq_some_iff.mp h2
      obtain ⟨hj, ej⟩ := List.getElem?_eq_some_iff.mp hn
      exact e ((List.getElem_inj s.nd).mp (ej.trans ei.symm))
    exact (s.at_ i m' b h1 h2).ext (Ext.wr ha) (upd_ne nb)

/-! ### operators -/
section
variable {X : Cx} {W : WX} {k : Nat} {pos : Pos} {a b e : Expr} {φ φa φb : Den}
def oAdd : D → D → Sto → Out D
  | .int i, .int j, st => .ok (.int (i + j)) st
  | .str x, .str y, st => if x.length + y.length ≤ sizeLine then .ok (.str (x ++ y)) st else .bad
  | .tup xs, .tup ys, st => if xs.isEmpty = false ∧ xs.length + ys.length ≤ sizeLine then .ok (.tup (xs ++ ys)) st else .bad
  | a, b, st => match vieS a st, vieS b st with
    | some xs, some ys => if xs.length + ys.length ≤ sizeLine then .ok (.lst (xs ++ ys)) st else .bad
    | _, _ => .bad
where vieS : D → Sto → Option (List D)
  | .lst ds, _ => some ds
  | .ptr n, st => match st[n]? with
    | some (.lst ds) => some ds
    | _ => none
  | _, _ => none
theorem vieS_rep {G : Cg} {p : Pt} {st : Sto} {d : D} {v : V} {ds : List D} (h : oAdd.vieS d st = some ds) (r : Rep G.K p d v) (s : RepS G.K p st) : ∃ a vs, v = .ref a ∧ p.H a = some (.lst vs) ∧ Reps G.K p ds vs := by
  cases r <;> simp only [oAdd.vieS] at h <;> try (cases h; done)
  · cases h
    rename_i e n q
    exact ⟨_, _, rfl, p.sub _ _ e, q⟩
  · rename_i n a hn
    split at h
    · cases h
      rename_i es e
      obtain ⟨vs, h1, h2⟩ := s.at_ n _ a e hn
      exact ⟨a, vs, rfl, p.sub _ _ h1, h2⟩
    · cases h
abbrev rAddAll (K : Frag) : R2 := fun x y H Q => (rI0 fun i j => .int (i + j)) x y H Q ∨ ((∃ i j, x = .str i ∧ y = .str j ∧ i.length + j.length ≤ sizeLine ∧ Q (.str (i ++ j)) H) ∨ (rCatT K x y H Q ∨ rCat x y H Q))
theorem op_addAll : OpR X (binaryOp .Add) (rAddAll X.K) := op_add.or (op_add_str.or (op_catT.or op_cat))
theorem d_add {G : Cg} : Op2 G oAdd (rAddAll G.K) := by
  intro p st x y v u Q E rx ry s h
  have cat : ∀ xs ys, oAdd.vieS x st = some xs → oAdd.vieS y st = some ys → Aft (Rep G.K) G p (if xs.length + ys.length ≤ sizeLine then .ok (.lst (xs ++ ys)) st else .bad) Q E → rCat v u p.H Q := by
    intro xs ys hx hy h
    obtain ⟨a, vs, rfl, ha, ra⟩ := vieS_rep hx rx s
    obtain ⟨b, us, rfl, hb, rb⟩ := vieS_rep hy ry s
    split at h
    · rename_i hl
      refine ⟨a, b, vs, us, rfl, rfl, ha, hb, by rw [← ra.length, ← rb.length]; exact hl, fun c hc => ?_⟩
      exact h (p.laid c _) _ (Ext.laid hc) (.lst upd_same (s.nh hc) ((ra.append rb).mono (Ext.laid hc))) (s.laid hc)
    · exact h.elim
  unfold oAdd at h
  split at h
  · cases rx; cases ry
    exact .inl ⟨_, _, rfl, rfl, h.now (.int _) s⟩
  · cases rx; cases ry
    split at h
    · rename_i hl
      exact .inr (.inl ⟨_, _, rfl, rfl, hl, h.now (.str _) s⟩)
    · exact h.elim
  · cases rx with
    | tup e1 r1 =>
      cases ry with
      | tup e2 r2 =>
        split at h
        · rename_i hl
          refine .inr (.inr (.inl ⟨_, _, _, _, rfl, rfl, e1.sq, e2.sq, ?_, by rw [← r1.length, ← r2.length]; exact hl.2, fun z => ?_, fun _ c hc => ?_⟩))
          · have := isEmpty_len r1.length
            intro z; subst z; rw [hl.1] at this; cases this
          · subst z
            cases r2
            exact h.now (.tup e1 (by simpa using r1)) s
          · exact h (p.laid c _) _ (Ext.laid hc) (.tup (.inl ⟨.inl upd_same, s.nh hc⟩) ((r1.append r2).mono (Ext.laid hc))) (s.laid hc)
        · exact h.elim
  · split at h
    · rename_i xs ys e1 e2
      exact .inr (.inr (.inr (cat xs ys e1 e2 h)))
    · exact h.elim
theorem pev_add (ha : PEv X W a φa) (hb : PEv X W b φb) : PEv X W (.BinOp a .Add b pos) (dOp2 oAdd φa φb) := pev_bin op_addAll d_add ha hb
def oSub : D → D → Sto → Out D
  | .int i, .int j, st => .ok (.int (i - j)) st
  | _, _, _ => .bad
def oMod : D → D → Sto → Out D
  | .int i, .int j, st => if 0 < j then .ok (.int (i % j)) st else .bad
  | _, _, _ => .bad
def oFdiv : D → D → Sto → Out D
  | .int i, .int j, st => if 0 < j ∧ j.natAbs.log2 < 9000 then .ok (.int (i / j)) st else .bad
  | _, _, _ => .bad
def oPow : D → D → Sto → Out D
  | .int i, .int j, st => if 0 ≤ j ∧ j ≤ 1000000 ∧ i.natAbs < 2 ^ 64 then .ok (.int (i ^ j.toNat)) st else .bad
  | _, _, _ => .bad
def oMul : D → D → Sto → Out D
  | .int i, .int j, st => if i.natAbs.log2 + j.natAbs.log2 < 1000000 then .ok (.int (i * j)) st else .bad
  | a, .int n, st => match oAdd.vieS a st with
    | some ds => if -(2 ^ 63) ≤ n ∧ n < 2 ^ 63 ∧ ds.length * n.toNat ≤ sizeLine then .ok (.lst (List.replicate n.toNat ds).flatten) st else .bad
    | none => .bad
  | _, _, _ => .bad
theorem d_int2 {G : Cg} {C : Int → Int → Prop} [∀ i j, Decidable (C i j)] {g : Int → Int → Int} {f : D → D → Sto → Out D} (hf : ∀ x y st, f x y st = .bad ∨ ∃ i j, x = .int i ∧ y = .int j ∧ C i j ∧ f x y st = .ok (.int (g i j)) st) : Op2 G f (rI C fun i j => .int (g i j)) := by
  intro p st x y v u Q E rx ry s h
  rcases hf x y st with e | ⟨i, j, rfl, rfl, c, e⟩
  · rw [e] at h; exact h.elim
  · rw [e] at h
    cases rx; cases ry
    exact ⟨i, j, rfl, rfl, c, h.now (.int _) s⟩
theorem d_sub {G : Cg} : Op2 G oSub (rI0 fun i j => .int (i - j)) := by
  intro p st x y v u Q E rx ry s h
  unfold oSub at h
  split at h
  · cases rx; cases ry
    exact ⟨_, _, rfl, rfl, h.now (.int _) s⟩
  · exact h.elim
theorem pev_sub (ha : PEv X W a φa) (hb : PEv X W b φb) : PEv X W (.BinOp a .Sub b pos) (dOp2 oSub φa φb) := pev_bin op_sub d_sub ha hb
theorem d_mod {G : Cg} : Op2 G oMod (rI (fun _ j => 0 < j) fun i j => .int (i % j)) := d_int2 fun x y st => by
  unfold oMod
  split
  · split
    · exact .inr ⟨_, _, rfl, rfl, by assumption, rfl⟩
    · exact .inl rfl
  · exact .inl rfl
theorem pev_mod (ha : PEv X W a φa) (hb : PEv X W b φb) : PEv X W (.BinOp a .Mod b pos) (dOp2 oMod φa φb) := pev_bin op_mod d_mod ha hb
instance : ∀ i j, Decidable (CDivW i j) := fun i j => inferInstanceAs (Decidable (_ ∧ _))
instance : ∀ i j, Decidable (CPow i j) := fun i j => inferInstanceAs (Decidable (_ ∧ _))
instance : ∀ i j, Decidable (CMulW i j) := fun i j => inferInstanceAs (Decidable (_ < _))
theorem d_fdiv {G : Cg} : Op2 G oFdiv (rI CDivW fun i j => .int (i / j)) := d_int2 fun x y st => by
  unfold oFdiv
  split
  · split
    · exact .inr ⟨_, _, rfl, rfl, by assumption, rfl⟩
    · exact .inl rfl
  · exact .inl rfl
theorem pev_fdiv (ha : PEv X W a φa) (hb : PEv X W b φb) : PEv X W (.BinOp a .FloorDiv b pos) (dOp2 oFdiv φa φb) := pev_bin op_fdivW d_fdiv ha hb
theorem d_pow {G : Cg} : Op2 G oPow (rI CPow fun i j => .int (i ^ j.toNat)) := d_int2 fun x y st => by
  unfold oPow
  split
  · split
    · exact .inr ⟨_, _, rfl, rfl, by assumption, rfl⟩
    · exact .inl rfl
  · exact .inl rfl
theorem pev_pow (ha : PEv X W a φa) (hb : PEv X W b φb) : PEv X W (.BinOp a .Pow b pos) (dOp2 oPow φa φb) := pev_bin op_pow d_pow ha hb
abbrev rMulAll : R2 := fun x y H Q => (rI CMulW fun i j => .int (i * j)) x y H Q ∨ rRep x y H Q
theorem op_mulAll : OpR X (binaryOp .Mult) rMulAll := op_mulW.or op_rep
theorem Reps.rep {K p} {ds : List D} {vs : List V} (h : Reps K p ds vs) : ∀ n : Nat, Reps K p (List.replicate n ds).flatten (List.replicate n vs).flatten
  | 0 => .nil
  | n + 1 => by simp only [List.replicate_succ, List.flatten_cons]; exact h.append (Reps.rep h n)
theorem d_mul {G : Cg} : Op2 G oMul rMulAll := by
  intro p st x y v u Q E rx ry s h
  unfold oMul at h
  split at h
  · cases rx; cases ry
    split at h
    · rename_i c
      exact .inl ⟨_, _, rfl, rfl, c, h.now (.int _) s⟩
    · exact h.elim
  · cases ry
    split at h
    · rename_i ds e
      split at h
      · rename_i hl
        obtain ⟨a, vs, rfl, ha, ra⟩ := vieS_rep e rx s
        refine .inr ⟨a, _, vs, rfl, rfl, ha, hl.1, hl.2.1, by rw [← ra.length]; exact hl.2.2, fun c hc => ?_⟩
        exact h (p.laid c _) _ (Ext.laid hc) (.lst upd_same (s.nh hc) ((ra.rep _).mono (Ext.laid hc))) (s.laid hc)
      · exact h.elim
    · exact h.elim
  · exact h.elim
theorem pev_mul (ha : PEv X W a φa) (hb : PEv X W b φb) : PEv X W (.BinOp a .Mult b pos) (dOp2 oMul φa φb) := pev_bin op_mulAll d_mul ha hb
def oNeg : D → Sto → Out D
  | .int i, st => .ok (.int (-i)) st
  | _, _ => .bad
theorem pev_neg (ha : PEv X W a φ) : PEv X W (.UnaryOp .USub a pos) (dOp1 oNeg φ) := pev_un un_neg (fun p st x v Q E rx s h => by
  unfold oNeg at h
  split at h
  · cases rx; exact ⟨_, rfl, h.now (.int _) s⟩
  · exact h.elim) ha
end
end DL

/-! DL: comparisons, items, dicts, built-ins. -/
namespace DL
open PySem PySem.Spec L2
open PyProof.Rows hiding St
set_option autoImplicit true

/-! ### data as the model's own -/
mutual
def toPy : D → Option PyData
  | .non => some .none
  | .bl b => some (.bool b)
  | .int i => some (.int i)
  | .str x => some (.str x)
  | .tup ds => (toPys ds).map .tuple
  | .lst ds => (toPys ds).map .list
  | .fls ds => (toPys ds).map .list
  | _ => none
def toPys : List D → Option (List PyData)
  | [] => some []
  | d :: ds => match toPy d, toPys ds with
    | some y, some ys => some (y :: ys)
    | _, _ => none
end
mutual
theorem toPy_dp {K : Frag} {p : Pt} : ∀ {d : D} {v : V} {y : PyData}, toPy d = some y → Rep K p d v → Dp K p.H v y
  | .non, _, y, h, r => by simp only [toPy] at h; cases h; cases r; exact .non
  | .bl b, _, y, h, r => by simp only [toPy] at h; cases h; cases r; exact .bl b
  | .int i, _, y, h, r => by simp only [toPy] at h; cases h; cases r; exact .int i
  | .str x, _, y, h, r => by simp only [toPy] at h; cases h; cases r; exact .str x
  | .raw _, _, y, h, r => by simp [toPy] at h
  | .tup ds, _, y, h, r => by
    simp only [toPy] at h
    cases q : toPys ds with
    | none => rw [q] at h; cases h
    | some ys =>
      rw [q] at h; cases h
      cases r with
      | tup s r => exact .tup s.sq (toPys_dp q r)
  | .lst ds, _, y, h, r => by
    simp only [toPy] at h
    cases q : toPys ds with
    | none => rw [q] at h; cases h
    | some ys =>
      rw [q] at h; cases h
      cases r with
      | lst s n r => exact .lst (SqL.of (p.sub _ _ s)) (toPys_dp q r)
  | .fls ds, _, y, h, r => by
    simp only [toPy] at h
    cases q : toPys ds with
    | none => rw [q] at h; cases h
    | some ys =>
      rw [q] at h; cases h
      cases r with
      | fls s r => exact .lst s.sq (toPys_dp q r)
  | .dic _ _, _, y, h, r => by simp [toPy] at h
  | .ptr _, _, y, h, r => by simp [toPy] at h
theorem toPys_dp {K : Frag} {p : Pt} : ∀ {ds : List D} {vs : List V} {ys : List PyData}, toPys ds = some ys → Reps K p ds vs → DpAll K p.H vs ys
  | [], _, ys, h, r => by simp only [toPys] at h; cases h; cases r; exact .nil
  | d :: ds, _, ys, h, r => by
    simp only [toPys] at h
    split at h
    · rename_i y' ys' q1 q2
      cases h
      cases r with
      | cons r rr => exact .cons (toPy_dp q1 r) (toPys_dp q2 rr)
    · cases h
end
/-- a cell's list as a value -/
def deref : D → Sto → D
  | .ptr n, st => match st[n]? with
    | some (.lst ds) => .lst ds
    | _ => .ptr n
  | d, _ => d
theorem deref_dp {G : Cg} {p : Pt} {st : Sto} {d : D} {v : V} {y : PyData} (h : toPy (deref d st) = some y) (r : Rep G.K p d v) (s : RepS G.K p st) : Dp G.K p.H v y := by
  cases d with
  | ptr n =>
    cases r with
    | @ptr _ a hn =>
      simp only [deref] at h
      split at h
      · rename_i ds e
        obtain ⟨vs, h1, h2⟩ := s.at_ _ _ a e hn
        simp only [toPy] at h
        cases q : toPys ds with
        | none => rw [q] at h; cases h
        | some ys => rw [q] at h; cases h; exact .lst (SqL.of (p.sub _ _ h1)) (toPys_dp q h2)
      · simp [toPy] at h
  | _ => exact toPy_dp h r
def oEq : D → D → Sto → Out D := fun x y st => match toPy (deref x st), toPy (deref y st) with
  | some a, some b => if SeqAt.shaped a = true ∧ SeqAt.shaped b = true then .ok (.bl (PyData.eqv a b)) st else .bad
  | _, _ => .bad
def oNe : D → D → Sto → Out D := fun x y st => match toPy (deref x st), toPy (deref y st) with
  | some a, some b => if SeqAt.shaped a = true ∧ SeqAt.shaped b = true then .ok (.bl (!PyData.eqv a b)) st else .bad
  | _, _ => .bad
theorem d_eq {G : Cg} : Op2 G oEq (rEqD G.K) := by
  intro p st x y v u Q E rx ry s h
  unfold oEq at h
  split at h
  · rename_i a b e1 e2
    split at h
    · rename_i hs
      exact ⟨a, b, deref_dp e1 rx s, deref_dp e2 ry s, hs.1, hs.2, h.now (.bl _) s⟩
    · exact h.elim
  · exact h.elim
theorem d_ne {G : Cg} : Op2 G oNe (rNeD G.K) := by
  intro p st x y v u Q E rx ry s h
  unfold oNe at h
  split at h
  · rename_i a b e1 e2
    split at h
    · rename_i hs
      exact ⟨a, b, deref_dp e1 rx s, deref_dp e2 ry s, hs.1, hs.2, h.now (.bl _) s⟩
    · exact h.elim
  · exact h.elim
/-- ints in a row -/
def toInts : List D → Option (List Int)
  | [] => some []
  | .int i :: r => (toInts r).map (i :: ·)
  | _ => none
theorem toInts_rep {K p} : ∀ {ds : List D} {vs : List V} {ns : List Int}, toInts ds = some ns → Reps K p ds vs → vs = ns.map V.int
  | [], _, ns, h, .nil => by simp only [toInts] at h; cases h; rfl
  | .int i :: ds, _, ns, h, .cons r rr => by
    simp only [toInts] at h
    cases q : toInts ds with
    | none => rw [q] at h; cases h
    | some ms => rw [q] at h; cases h; cases r; rw [toInts_rep q rr]; rfl
  | .non :: _, _, _, h, _ => by simp [toInts] at h
  | .bl _ :: _, _, _, h, _ => by simp [toInts] at h
  | .str _ :: _, _, _, h, _ => by simp [toInts] at h
  | .raw _ :: _, _, _, h, _ => by simp [toInts] at h
  | .tup _ :: _, _, _, h, _ => by simp [toInts] at h
  | .lst _ :: _, _, _, h, _ => by simp [toInts] at h
  | .fls _ :: _, _, _, h, _ => by simp [toInts] at h
  | .dic _ _ :: _, _, _, h, _ => by simp [toInts] at h
  | .ptr _ :: _, _, _, h, _ => by simp [toInts] at h
def oLt : D → D → Sto → Out D
  | .int i, .int j, st => .ok (.bl (decide (i < j))) st
  | .tup xs, .tup ys, st => match toInts xs, toInts ys with
    | some ns, some ms => .ok (.bl (HT.lexLt ns ms)) st
    | _, _ => .bad
  | .str x, .str y, st => .ok (.bl (decide (x.cps.toList < y.cps.toList))) st
  | _, _, _ => .bad
abbrev rLtAll (K : Frag) : R2 := fun x y H Q => (rI0 fun i j => .bl (decide (i < j))) x y H Q ∨ (rLtT K x y H Q ∨ (∃ i j, x = .str i ∧ y = .str j ∧ Q (.bl (decide (i.cps.toList < j.cps.toList))) H))
theorem op_ltAll (hu : X.A.units < cLine) : OpR X (compareOp .Lt) (rLtAll X.K) := op_lt.or ((op_ltT hu).or op_lt_str)
theorem d_lt {G : Cg} : Op2 G oLt (rLtAll G.K) := by
  intro p st x y v u Q E rx ry s h
  unfold oLt at h
  split at h
  · cases rx; cases ry
    exact .inl ⟨_, _, rfl, rfl, h.now (.bl _) s⟩
  · cases rx with
    | tup e1 r1 =>
      cases ry with
      | tup e2 r2 =>
        split at h
        · rename_i ns ms q1 q2
          have z1 := toInts_rep q1 r1
          have z2 := toInts_rep q2 r2
          subst z1; subst z2
          exact .inr (.inl ⟨_, _, ns, ms, rfl, rfl, e1.sq, e2.sq, h.now (.bl _) s⟩)
        · exact h.elim
  · cases rx; cases ry
    exact .inr (.inr ⟨_, _, rfl, rfl, h.now (.bl _) s⟩)
  · exact h.elim
def oCmp (f : Int → Int → Bool) : D → D → Sto → Out D
  | .int i, .int j, st => .ok (.bl (f i j)) st
  | _, _, _ => .bad
theorem d_cmp {G : Cg} {f : Int → Int → Bool} : Op2 G (oCmp f) (rI0 fun i j => .bl (f i j)) := by
  intro p st x y v u Q E rx ry s h
  unfold oCmp at h
  split at h
  · cases rx; cases ry
    exact ⟨_, _, rfl, rfl, h.now (.bl _) s⟩
  · exact h.elim
abbrev oLe := oCmp fun i j => decide (i ≤ j)
abbrev oGt := oCmp fun i j => decide (j < i)
abbrev oGe := oCmp fun i j => decide (j ≤ i)
/-- is, is not: of None, of bools -/
def isNon : D → Bool
  | .non => true
  | _ => false
def oIs : D → D → Sto → Out D
  | .bl a, .bl b, st => .ok (.bl (decide (a = b))) st
  | .raw _, _, _ => .bad
  | d, .non, st => .ok (.bl (isNon d)) st
  | _, _, _ => .bad
def oIsNot : D → D → Sto → Out D
  | .bl a, .bl b, st => .ok (.bl (!decide (a = b))) st
  | .raw _, _, _ => .bad
  | d, .non, st => .ok (.bl (!isNon d)) st
  | _, _, _ => .bad
theorem isNon_rep {K p d v} (r : Rep K p d v) (hr : ∀ u, d ≠ .raw u) : decide (v = .non) = isNon d := by
  cases r <;> first | rfl | exact absurd rfl (hr _)
abbrev rIsAll : R2 := fun x y H Q => rIsB x y H Q ∨ (y = .non ∧ Q (.bl (decide (x = .non))) H)
abbrev rIsNotAll : R2 := fun x y H Q => rNotB x y H Q ∨ (y = .non ∧ Q (.bl (!decide (x = .non))) H)
theorem op_isAll : OpR X (compareOp .Is) rIsAll := op_isBl.or op_isN
theorem op_isNotAll : OpR X (compareOp .IsNot) rIsNotAll := op_notBl.or op_notN
theorem d_is {G : Cg} : Op2 G oIs rIsAll := by
  intro p st x y v u Q E rx ry s h
  unfold oIs at h
  split at h
  · cases rx; cases ry
    exact .inl ⟨_, _, rfl, rfl, h.now (.bl _) s⟩
  · exact h.elim
  · rename_i hr
    cases ry
    refine .inr ⟨rfl, ?_⟩
    rw [isNon_rep rx (fun u z => hr u z)]
    exact h.now (.bl _) s
  · exact h.elim
theorem d_isNot {G : Cg} : Op2 G oIsNot rIsNotAll := by
  intro p st x y v u Q E rx ry s h
  unfold oIsNot at h
  split at h
  · cases rx; cases ry
    exact .inl ⟨_, _, rfl, rfl, h.now (.bl _) s⟩
  · exact h.elim
  · rename_i hr
    cases ry
    refine .inr ⟨rfl, ?_⟩
    rw [isNon_rep rx (fun u z => hr u z)]
    exact h.now (.bl _) s
  · exact h.elim
section
variable {X : Cx} {W : WX} {k : Nat} {pos : Pos} {a b c e : Expr} {φ φa φb φc : Den}
theorem Ok.u64 (o : Ok X W k) : X.A.units + 64 < cLine := o.room.units
theorem Ok.u1 (o : Ok X W k) : X.A.units + 1 < cLine := by have := o.u64; omega
theorem Ok.u0 (o : Ok X W k) : X.A.units < cLine := by have := o.u64; omega
theorem pev_eq (o : Ok X W k) (ha : PEv X W a φa) (hb : PEv X W b φb) : PEv X W (.Compare a [.Eq] [b] pos) (dOp2 oEq φa φb) := pev_cmp (op_eqD o.u64) d_eq ha hb (nomark _)
theorem pev_ne (o : Ok X W k) (ha : PEv X W a φa) (hb : PEv X W b φb) : PEv X W (.Compare a [.NotEq] [b] pos) (dOp2 oNe φa φb) := pev_cmp (op_neD o.u64) d_ne ha hb (nomark _)
theorem pev_lt (o : Ok X W k) (ha : PEv X W a φa) (hb : PEv X W b φb) : PEv X W (.Compare a [.Lt] [b] pos) (dOp2 oLt φa φb) := pev_cmp (op_ltAll o.u0) d_lt ha hb (nomark _)
theorem pev_le (ha : PEv X W a φa) (hb : PEv X W b φb) : PEv X W (.Compare a [.LtE] [b] pos) (dOp2 oLe φa φb) := pev_cmp op_le d_cmp ha hb (nomark _)
theorem pev_gt (ha : PEv X W a φa) (hb : PEv X W b φb) : PEv X W (.Compare a [.Gt] [b] pos) (dOp2 oGt φa φb) := pev_cmp op_gt d_cmp ha hb (nomark _)
theorem pev_ge (ha : PEv X W a φa) (hb : PEv X W b φb) : PEv X W (.Compare a [.GtE] [b] pos) (dOp2 oGe φa φb) := pev_cmp op_ge d_cmp ha hb (nomark _)
theorem pev_is (ha : PEv X W a φa) (hb : PEv X W b φb) : PEv X W (.Compare a [.Is] [b] pos) (dOp2 oIs φa φb) := pev_cmp op_isAll d_is ha hb (nomark _)
theorem pev_isnot (ha : PEv X W a φa) (hb : PEv X W b φb) : PEv X W (.Compare a [.IsNot] [b] pos) (dOp2 oIsNot φa φb) := pev_cmp op_isNotAll d_isNot ha hb (nomark _)
theorem ptv_eq (o : Ok X W k) (ha : PEv X W a φa) (hb : PEv X W b φb) : PTv X W (.Compare a [.Eq] [b] pos) (dTst (dOp2 oEq φa φb)) := ptv_cmp (op_eqD o.u64) d_eq ha hb (nomark _)
theorem ptv_ne (o : Ok X W k) (ha : PEv X W a φa) (hb : PEv X W b φb) : PTv X W (.Compare a [.NotEq] [b] pos) (dTst (dOp2 oNe φa φb)) := ptv_cmp (op_neD o.u64) d_ne ha hb (nomark _)
theorem ptv_lt (o : Ok X W k) (ha : PEv X W a φa) (hb : PEv X W b φb) : PTv X W (.Compare a [.Lt] [b] pos) (dTst (dOp2 oLt φa φb)) := ptv_cmp (op_ltAll o.u0) d_lt ha hb (nomark _)
theorem ptv_le (ha : PEv X W a φa) (hb : PEv X W b φb) : PTv X W (.Compare a [.LtE] [b] pos) (dTst (dOp2 oLe φa φb)) := ptv_cmp op_le d_cmp ha hb (nomark _)
theorem ptv_gt (ha : PEv X W a φa) (hb : PEv X W b φb) : PTv X W (.Compare a [.Gt] [b] pos) (dTst (dOp2 oGt φa φb)) := ptv_cmp op_gt d_cmp ha hb (nomark _)
theorem ptv_ge (ha : PEv X W a φa) (hb : PEv X W b φb) : PTv X W (.Compare a [.GtE] [b] pos) (dTst (dOp2 oGe φa φb)) := ptv_cmp op_ge d_cmp ha hb (nomark _)
theorem ptv_is (ha : PEv X W a φa) (hb : PEv X W b φb) : PTv X W (.Compare a [.Is] [b] pos) (dTst (dOp2 oIs φa φb)) := ptv_cmp op_isAll d_is ha hb (nomark _)
theorem ptv_isnot (ha : PEv X W a φa) (hb : PEv X W b φb) : PTv X W (.Compare a [.IsNot] [b] pos) (dTst (dOp2 oIsNot φa φb)) := ptv_cmp op_isNotAll d_isNot ha hb (nomark _)
/-- a op b op' c -/
def dChain (f g : D → D → Sto → Out D) (φa φb φc : Den) : Den := fun env st => (φa env st).bind fun x st => (φb env st).bind fun y st => (f x y st).bind fun z st => match z with
  | .bl true => (φc env st).bind fun w st => g y w st
  | .bl false => .ok (.bl false) st
  | _ => .bad
theorem tChain_of {r r' : R2} {f g : D → D → Sto → Out D} (hf : Op2 (Cx.g X) f r) (hg : Op2 (Cx.g X) g r') (σ : St) (Q : VK) (p : Pt) (env : En) (st : Sto) (hE : RepE X.K p env σ) (hS : RepS X.K p st) (h : Aft (Rep X.K) (Cx.g X) p (dChain f g φa φb φc env st) Q (wAt W σ)) :
    tChain r r' (tD (Cx.g X) W φa) (tD (Cx.g X) W φb) (tD (Cx.g X) W φc) σ p.H Q := by
  refine (tD.run hE hS h).mono fun x H1 ⟨p1, d, st1, z1, e1, r1, s1, h1⟩ => ?_
  subst z1
  refine (tD.run (hE.mono e1) s1 h1).mono fun y H2 ⟨p2, d2, st2, z2, e2, r2, s2, h2⟩ => ?_
  subst z2
  refine hf _ _ _ _ _ _ _ _ (r1.mono e2) r2 s2 ((Aft.bind (R := Rep X.K) h2).mono fun z H3 ⟨p3, d3, st3, z3, e3, r3, s3, h3⟩ => ?_)
  subst z3
  cases d3 <;> first | exact h3.elim | skip
  rename_i t
  cases r3
  refine ⟨t, rfl, ?_⟩
  cases t with
  | false => exact h3.now (.bl false) s3
  | true =>
    refine (tD.run (((hE.mono e1).mono e2).mono e3) s3 h3).mono fun w H4 ⟨p4, d4, st4, z4, e4, r4, s4, h4⟩ => ?_
    subst z4
    exact hg _ _ _ _ _ _ _ _ ((r2.mono e3).mono e4) r4 s4 h4
theorem pev_chain {op op' : CmpOp} {r r' : R2} {f g : D → D → Sto → Out D} (ho : OpR X (compareOp op) r) (hf : Op2 (Cx.g X) f r) (ho' : OpR X (compareOp op') r') (hg : Op2 (Cx.g X) g r') (ha : PEv X W a φa) (hb : PEv X W b φb) (hc : PEv X W c φc)
    (hm : lastMarks [op, op'] [b, c] = false := by with_unfolding_all rfl) : PEv X W (.Compare a [op, op'] [b, c] pos) (dChain f g φa φb φc) :=
  pev_of (pe_chain ho ho' ha hb hc hm) (tChain_of hf hg)
theorem ptv_chain {op op' : CmpOp} {r r' : R2} {f g : D → D → Sto → Out D} (ho : OpR X (compareOp op) r) (hf : Op2 (Cx.g X) f r) (ho' : OpR X (compareOp op') r') (hg : Op2 (Cx.g X) g r') (ha : PEv X W a φa) (hb : PEv X W b φb) (hc : PEv X W c φc)
    (hm : lastMarks [op, op'] [b, c] = false := by with_unfolding_all rfl) : PTv X W (.Compare a [op, op'] [b, c] pos) (dTst (dChain f g φa φb φc)) :=
  ptv_of (pt_chain ho ho' ha hb hc hm) fun σ Q p env st hE hS h => tTest_of σ Q p env st hE hS (fun Q' q => tChain_of hf hg σ Q' p env st hE hS q) h

/-! ### items -/
def oIx : D → D → Sto → Out D
  | .tup ds, .int i, st => match atI ds i with
    | some d => .ok d st
    | none => .bad
  | .lst ds, .int i, st => match atI ds i with
    | some d => .ok d st
    | none => .bad
  | .fls ds, .int i, st => match atI ds i with
    | some d => .ok d st
    | none => .bad
  | .dic ks ds, y, st => match dKey y with
    | some k => (match valD ks ds k with
      | some d => .ok d st
      | none => .bad)
    | none => .bad
  | .ptr n, y, st => match st[n]? with
    | some (.lst ds) => (match y with
      | .int i => (match atI ds i with
        | some d => .ok d st
        | none => .bad)
      | _ => .bad)
    | some (.dic ks ds) => (match dKey y with
      | some k => (match valD ks ds k with
        | some d => .ok d st
        | none => .bad)
      | none => .bad)
    | none => .bad
  | .str z, .int i, st => if z.length ≤ sizeLine then (match atI z.cps.toList i with
    | some c => .ok (.str ⟨#[c]⟩) st
    | none => .bad) else .bad
  | _, _, _ => .bad
abbrev rIxD : R2 := fun x y H Q => ∃ a v, x = .ref a ∧ DGet H a y (some v) ∧ Q v H
theorem ix_dict (hu : X.A.units + 1 < cLine) : IxR X rIxD := by
  intro value slice pins s σ H x y v u Q I rx ry h hs
  obtain ⟨a, z, rfl, g, q⟩ := h
  cases rx
  have hT := dict_typeIs I g
  unfold subscriptTail
  refine wpAny_bind ?_
  rw [getitemInPython_of_ne hT.not_modules]
  refine wpAny_bind (wpAny_specialOf hT PySem.F.slot_dict_getitem.lookup ?_)
  have fin : wpAny (model X.prog X.w) X.A (subscripted slice false (.ref a) u) (fun r s₃ => wpAny (model X.prog X.w) X.A (letTemporaryGo value (.ref a) r >>= fun _ => pure r) (EP X pins σ Q) X.xe s₃) X.xe s := by
    rw [hs]
    exact wpAny_operating (d_getItem hu I g ry fun w' s3 I3 rw' => wpAny_bind (wpAny_letTemporaryGo (wpAny_pure ⟨z, H, I3, rw', q⟩)))
  first
    | exact wpAny_pure (wpAny_bind fin)
    | exact wpAny_bind (wpAny_pure (wpAny_bind fin))
    | exact wpAny_bind fin
abbrev rIxAll (K : Frag) : R2 := fun x y H Q => rIx K x y H Q ∨ rIxD x y H Q
theorem ix_all (hu : X.A.units + 1 < cLine) : IxR X (rIxAll X.K) := ix_seq.or (ix_dict hu)
theorem atI_rep {K p} {ds : List D} {vs : List V} {i : Int} {d : D} (h : atI ds i = some d) (r : Reps K p ds vs) : ∃ v, atI vs i = some v ∧ Rep K p d v := by
  unfold atI at h ⊢
  rw [← r.length]
  cases q : ixN ds.length i with
  | none => rw [q] at h; cases h
  | some j => rw [q] at h; exact r.get h
theorem d_ix {G : Cg} : Op2 G oIx (rIxAll G.K) := by
  intro p st x y v u Q E rx ry s h
  unfold oIx at h
  split at h
  · split at h
    · rename_i ha
      cases ry
      cases rx with
      | tup e1 r1 =>
        obtain ⟨w, hw, rw'⟩ := atI_rep ha r1
        exact .inl (.inr (.inl ⟨_, _, _, w, rfl, rfl, e1.sq, hw, h.now rw' s⟩))
    · exact h.elim
  · split at h
    · rename_i ha
      cases ry
      cases rx with
      | lst e1 n1 r1 =>
        obtain ⟨w, hw, rw'⟩ := atI_rep ha r1
        exact .inl (.inl ⟨_, _, _, w, rfl, rfl, SqL.of (p.sub _ _ e1), hw, h.now rw' s⟩)
    · exact h.elim
  · split at h
    · rename_i ha
      cases ry
      cases rx with
      | fls e1 r1 =>
        obtain ⟨w, hw, rw'⟩ := atI_rep ha r1
        exact .inl (.inl ⟨_, _, _, w, rfl, rfl, e1.sq, hw, h.now rw' s⟩)
    · exact h.elim
  · split at h
    · rename_i k hk
      split at h
      · rename_i d hd
        cases rx with
        | dic e1 n1 l1 r1 =>
          obtain ⟨w, hw, rw'⟩ := (valD_rep l1 r1).1 d hd
          have hy := dKey_rep hk ry
          subst hy
          refine .inr ⟨_, w, rfl, ?_, h.now rw' s⟩
          rw [← hw]
          exact DGet.k (p.sub _ _ e1)
      · exact h.elim
    · exact h.elim
  · cases rx with
    | @ptr _ a hn =>
      split at h
      · rename_i ds e
        obtain ⟨vs, h1, h2⟩ := s.at_ _ _ a e hn
        split at h
        · split at h
          · rename_i ha
            cases ry
            obtain ⟨w, hw, rw'⟩ := atI_rep ha h2
            exact .inl (.inl ⟨_, _, _, w, rfl, rfl, SqL.of (p.sub _ _ h1), hw, h.now rw' s⟩)
          · exact h.elim
        · exact h.elim
      · rename_i ks ds e
        obtain ⟨vs, h1, h0, h2⟩ := s.at_ _ _ a e hn
        split at h
        · rename_i k hk
          split at h
          · rename_i d hd
            obtain ⟨w, hw, rw'⟩ := (valD_rep h0 h2).1 d hd
            have hy := dKey_rep hk ry
            subst hy
            refine .inr ⟨_, w, rfl, ?_, h.now rw' s⟩
            rw [← hw]
            exact DGet.k (p.sub _ _ h1)
          · exact h.elim
        · exact h.elim
      · exact h.elim
  · split at h
    · rename_i hl
      split at h
      · rename_i ha
        cases rx; cases ry
        exact .inl (.inr (.inr ⟨_, _, _, rfl, rfl, hl, ha, h.now (.str _) s⟩))
      · exact h.elim
    · exact h.elim
  · exact h.elim
theorem pev_sub_ (o : Ok X W k) (ha : PEv X W a φa) (hb : PEv X W b φb) (hs : PlainIx b := by intro _ _; rfl) : PEv X W (.Subscript a b pos) (dOp2 oIx φa φb) := pev_ix (ix_all o.u1) d_ix ha hb hs

/-! ### stores -/
def oSet : D → D → D → Sto → Option Sto
  | .ptr n, y, d, st => match st[n]? with
    | some (.lst ds) => (match y with
      | .int i => (ixN ds.length i).map fun j => st.set n (.lst (ds.set j d))
      | _ => none)
    | some (.dic ks ds) => (match dKey y with
      | some k => if ks.length < sizeLine then some (st.set n (.dic (putKs ks k) (putDs ks ds k d))) else none
      | none => none)
    | none => none
  | _, _, _, _ => none
abbrev rSetAll : V → V → V → Hp → (Hp → Prop) → Prop := fun o i v H Q => rSetL o i v H Q ∨ ∃ a H', o = .ref a ∧ DPut H a i v H' ∧ Q H'
theorem set_all (hu : X.A.units + 1 < cLine) : PSet X rSetAll := by
  intro pins s σ H o i v ov iv u Q I ro ri rv h
  rcases h with h | ⟨a, H', rfl, g, q⟩
  · exact set_list pins s σ H o i v ov iv u Q I ro ri rv h
  · cases ro
    exact d_setItem hu I g ri rv fun s' I' => ⟨H', I', q⟩
def sStore (φo φi φv : Den) : DenS := fun env st => (φv env st).to env fun d st => (φo env st).to env fun o st => (φi env st).to env fun i st => (oSet o i d st).map fun st => (.nx env, st)
theorem zip_len {α β γ : Type} {ks : List α} {vs : List β} {ds : List γ} (h : ks.length = ds.length) (h2 : ds.length = vs.length) : (ks.zip vs).length = ks.length := by rw [List.length_zip]; omega
theorem psv_store (o : Ok X W k) {ob ix value : Expr} {φo φi φv : Den} {pos' : Pos} (ho : PEv X W ob φo) (hi : PEv X W ix φi) (hv : PEv X W value φv) (hs : swapsWithSole [.Subscript ob ix pos'] value pos.line X.env = pure false := by rfl) (hw : swappedStores [.Subscript ob ix pos'] value X.env = pure none := by rfl)
    (h1 : (assignEach [.Subscript ob ix pos'] X.env).map (·.2) = [assign (.Subscript ob ix pos') X.env] := by rfl)
    (ha : ∀ v, assign (.Subscript ob ix pos') X.env v = (do
      let ov ← holding [v] (eval ob X.env)
      let iv ← holding [v, ov] (eval ix X.env)
      standAt pos'
      holding [v, ov, iv] (setItem ov iv v)
      release [v, ov, iv] []) := by intro _; rfl) : PSv X W (.Assign [.Subscript ob ix pos'] value pos) (sStore φo φi φv) :=
  psv_of (ps_asg hv (pg_sub ho hi (set_all o.u1) ha) hs hw h1) fun Z σ p env st hE hS h => by
    refine (tD.to hE hS h).mono fun v H1 ⟨p1, d, st1, z1, e1, r1, s1, h1⟩ => ?_
    subst z1
    refine (tD.to (hE.mono e1) s1 h1).mono fun x H2 ⟨p2, d2, st2, z2, e2, r2, s2, h2⟩ => ?_
    subst z2
    refine (tD.to ((hE.mono e1).mono e2) s2 h2).mono fun y H3 ⟨p3, d3, st3, z3, e3, r3, s3, h3⟩ => ?_
    subst z3
    have rd := (r1.mono e2).mono e3
    have ro := r2.mono e3
    have hE3 := ((hE.mono e1).mono e2).mono e3
    cases q : oSet d2 d3 d st3 with
    | none => rw [q] at h3; exact h3.elim
    | some st4 =>
      rw [q] at h3
      have h3 : AftS (Cx.g X) W p3 (some (.nx env, st4)) Z := h3
      unfold oSet at q
      split at q
      · cases ro with
        | @ptr n a hn =>
          have ha : a ∈ p3.rho := List.mem_of_getElem? hn
          split at q
          · rename_i ds e
            obtain ⟨vs, g1, g2⟩ := s3.at_ _ _ a e hn
            split at q
            · rename_i i
              cases r3
              cases qi : ixN ds.length i with
              | none => rw [qi] at q; cases q
              | some j =>
                rw [qi] at q
                cases q
                refine .inl ⟨a, vs, i, j, rfl, rfl, p3.sub _ _ g1, by rw [← g2.length]; exact qi, ?_⟩
                have ew : Ext p3 (p3.wr a (.lst (vs.set j v)) ⟨_, g1⟩) := Ext.wr ha
                exact h3 _ (.nx σ) ew (.nx (hE3.mono ew)) (s3.wr hn ⟨_, upd_same, (g2.set rd j).mono ew⟩)
            · cases q
          · rename_i ks ds e
            obtain ⟨vs, g1, g0, g2⟩ := s3.at_ _ _ a e hn
            split at q
            · rename_i kk hk
              split at q
              · rename_i hl
                cases q
                have hy := dKey_rep hk r3
                subst hy
                obtain ⟨ws, w1, w2, w3⟩ := putDs_rep (k := kk) rd g0 g2
                refine .inr ⟨a, _, rfl, DPut.k (p3.sub _ _ g1) (by rw [zip_len g0 g2.length]; exact hl), ?_⟩
                have ew : Ext p3 (p3.wr a (.dK (putK (ks.zip vs) kk v)) ⟨_, g1⟩) := Ext.wr ha
                exact h3 _ (.nx σ) ew (.nx (hE3.mono ew)) (s3.wr hn ⟨ws, by rw [← w2]; exact upd_same, w3, w1.mono ew⟩)
              · cases q
            · cases q
          · cases q
      · cases q
end
end DL

/-! DL: built-in functions, dict displays, isinstance. -/
namespace DL
open PySem PySem.Spec L2
open PyProof.Rows hiding St
set_option autoImplicit true
section
variable {X : Cx} {W : WX} {k : Nat} {pos : Pos} {a b c e : Expr} {es : List Expr} {φ φa φb φc : Den} {φs : List Den} {p0 : Pos}
def bAbs : List D → Sto → Out D
  | [.int i], st => .ok (.int (if i < 0 then -i else i)) st
  | _, _ => .bad
theorem reps1 {K p d vs} (r : Reps K p [d] vs) : ∃ v, vs = [v] ∧ Rep K p d v := by
  cases r with
  | cons r rr => cases rr; exact ⟨_, rfl, r⟩
theorem reps2 {K p d d' vs} (r : Reps K p [d, d'] vs) : ∃ v v', vs = [v, v'] ∧ Rep K p d v ∧ Rep K p d' v' := by
  cases r with
  | cons r rr => obtain ⟨v', rfl, r'⟩ := reps1 rr; exact ⟨_, _, rfl, r, r'⟩
theorem pev_abs (hm : X.mg "abs" = none) (ha : PAv X W (e :: es) φs) (hg : Gl X "abs" := by rfl)
    (he : starEach (e :: es) X.env = (false, eval e X.env) :: starEach es X.env := by rfl) (hpl : (backTo pos (starEach es X.env)).any (·.1) = false := by rfl) : PEv X W (.Call (.Name "abs" p0) (e :: es) [] pos) (dCall bAbs φs) :=
  pev_callB call_abs (fun p st xs vs Q E r s h => by
    unfold bAbs at h
    split at h
    · obtain ⟨v, rfl, r'⟩ := reps1 r
      cases r'
      exact ⟨_, rfl, h.now (.int _) s⟩
    · exact h.elim) hm boot_abs ha hg (by decide) (by decide) he hpl
def bInt : List D → Sto → Out D
  | [.int i], st => .ok (.int i) st
  | [.bl b], st => .ok (.int (if b then 1 else 0)) st
  | _, _ => .bad
theorem pev_intc (hm : X.mg "int" = none) (ha : PAv X W (e :: es) φs) (hg : Gl X "int" := by rfl)
    (he : starEach (e :: es) X.env = (false, eval e X.env) :: starEach es X.env := by rfl) (hpl : (backTo pos (starEach es X.env)).any (·.1) = false := by rfl) : PEv X W (.Call (.Name "int" p0) (e :: es) [] pos) (dCall bInt φs) :=
  pev_callTy call_int1 (fun p st xs vs Q E r s h => by
    unfold bInt at h
    split at h
    · obtain ⟨v, rfl, r'⟩ := reps1 r
      cases r'
      exact .inl ⟨_, rfl, h.now (.int _) s⟩
    · obtain ⟨v, rfl, r'⟩ := reps1 r
      cases r'
      exact .inr ⟨_, rfl, h.now (.int _) s⟩
    · exact h.elim) hm PyProof.Rows.boot_int ha hg (by decide) (by decide) he hpl
def lenD : D → Sto → Option Nat
  | .str y, _ => if y.length ≤ sizeLine then some y.length else none
  | .tup ds, _ => some ds.length
  | .dic ks _, _ => some ks.length
  | .lst ds, _ => some ds.length
  | .fls ds, _ => some ds.length
  | .ptr n, st => match st[n]? with
    | some (.lst ds) => some ds.length
    | some (.dic ks _) => some ks.length
    | _ => none
  | _, _ => none
def bLen : List D → Sto → Out D
  | [d], st => match lenD d st with
    | some n => .ok (.int n) st
    | none => .bad
  | _, _ => .bad
theorem call_lenAll : CallR X (.builtin "len") (fun xs H Q => (∃ x n, xs = [x] ∧ LenV X.K x H n ∧ Q (.int n) H) ∨ (∃ a kvs, xs = [.ref a] ∧ H a = some (.dK kvs) ∧ Q (.int kvs.length) H)) := call_len.or (by
  intro pins s σ H xs us Q I r h
  obtain ⟨a, kvs, rfl, e, q⟩ := h
  obtain ⟨u, rfl, ru⟩ := Vals.one r
  cases ru
  exact d_len I (.inl e) fun t s' I' => ⟨.int _, H, I', ⟨_, rfl⟩, q⟩)
theorem pev_len (hm : X.mg "len" = none) (ha : PAv X W (e :: es) φs) (hg : Gl X "len" := by rfl)
    (he : starEach (e :: es) X.env = (false, eval e X.env) :: starEach es X.env := by rfl) (hpl : (backTo pos (starEach es X.env)).any (·.1) = false := by rfl) : PEv X W (.Call (.Name "len" p0) (e :: es) [] pos) (dCall bLen φs) :=
  pev_callB call_lenAll (fun p st xs vs Q E r s h => by
    unfold bLen at h
    split at h
    · obtain ⟨v, rfl, r'⟩ := reps1 r
      split at h
      · rename_i n hn
        cases r' with
        | str x =>
          simp only [lenD] at hn
          split at hn
          · cases hn; exact .inl ⟨_, _, rfl, ⟨by assumption, rfl⟩, h.now (.int _) s⟩
          · cases hn
        | tup e r2 => simp only [lenD] at hn; cases hn; exact .inl ⟨_, _, rfl, .inr ⟨_, e.sq, r2.length⟩, h.now (.int _) s⟩
        | lst e n r2 => simp only [lenD] at hn; cases hn; exact .inl ⟨_, _, rfl, .inl ⟨_, SqL.of (p.sub _ _ e), r2.length⟩, h.now (.int _) s⟩
        | fls e r2 => simp only [lenD] at hn; cases hn; exact .inl ⟨_, _, rfl, .inl ⟨_, e.sq, r2.length⟩, h.now (.int _) s⟩
        | dic e n l r2 => simp only [lenD] at hn; cases hn; exact .inr ⟨_, _, rfl, p.sub _ _ e, h.now (by rw [zip_len l r2.length]; exact .int _) s⟩
        | @ptr _ a hq =>
          simp only [lenD] at hn
          split at hn
          · rename_i ds q
            cases hn
            obtain ⟨vs, h1, h2⟩ := s.at_ _ _ a q hq
            exact .inl ⟨_, _, rfl, .inl ⟨_, SqL.of (p.sub _ _ h1), h2.length⟩, h.now (.int _) s⟩
          · rename_i ks ds q
            cases hn
            obtain ⟨vs, h1, h0, h2⟩ := s.at_ _ _ a q hq
            exact .inr ⟨_, _, rfl, p.sub _ _ h1, h.now (by rw [zip_len h0 h2.length]; exact .int _) s⟩
          · cases hn
        | _ => simp [lenD] at hn
      · exact h.elim
    · exact h.elim) hm PySem.boot_len ha hg (by decide) (by decide) he hpl
/-- all, any of a list of bools -/
def toBls : List D → Option (List Bool)
  | [] => some []
  | .bl b :: r => (toBls r).map (b :: ·)
  | _ => none
theorem toBls_rep {K : Frag} {p : Pt} : ∀ {ds : List D} {vs : List V} {ns : List Bool}, toBls ds = some ns → Reps K p ds vs → vs = ns.map V.bl
  | [], _, ns, h, r => by simp only [toBls] at h; cases h; cases r; rfl
  | d :: ds, _, ns, h, r => by
    cases d <;> simp only [toBls, reduceCtorEq] at h
    rename_i b
    cases q : toBls ds with
    | none => rw [q] at h; cases h
    | some ms =>
      rw [q] at h; cases h
      cases r with
      | cons r rr => cases r; rw [toBls_rep q rr]; rfl
def bAll : List D → Sto → Out D
  | [d], st => match (view d st).bind toBls with
    | some bs => .ok (.bl (bs.all id)) st
    | none => .bad
  | _, _ => .bad
def bAny : List D → Sto → Out D
  | [d], st => match (view d st).bind toBls with
    | some bs => .ok (.bl (bs.any id)) st
    | none => .bad
  | _, _ => .bad
theorem pev_all (o : Ok X W k) (hm : X.mg "all" = none) (ha : PAv X W (e :: es) φs) (hg : Gl X "all" := by rfl)
    (he : starEach (e :: es) X.env = (false, eval e X.env) :: starEach es X.env := by rfl) (hpl : (backTo pos (starEach es X.env)).any (·.1) = false := by rfl) : PEv X W (.Call (.Name "all" p0) (e :: es) [] pos) (dCall bAll φs) :=
  pev_callB (cr_all o.calm) (fun p st xs vs Q E r s h => by
    unfold bAll at h
    split at h
    · obtain ⟨v, rfl, r'⟩ := reps1 r
      split at h
      · rename_i bs hb
        obtain ⟨ds, q1, q2⟩ := Option.bind_eq_some_iff.mp hb
        obtain ⟨a, ws, rfl, g1, g2⟩ := view_rep q1 r' s
        have z := toBls_rep q2 g2
        subst z
        exact ⟨a, bs, rfl, g1, h.now (.bl _) s⟩
      · exact h.elim
    · exact h.elim) hm PyProof.Rows.boot_all ha hg (by decide) (by decide) he hpl
theorem pev_any (o : Ok X W k) (hm : X.mg "any" = none) (ha : PAv X W (e :: es) φs) (hg : Gl X "any" := by rfl)
    (he : starEach (e :: es) X.env = (false, eval e X.env) :: starEach es X.env := by rfl) (hpl : (backTo pos (starEach es X.env)).any (·.1) = false := by rfl) : PEv X W (.Call (.Name "any" p0) (e :: es) [] pos) (dCall bAny φs) :=
  pev_callB (cr_any o.calm) (fun p st xs vs Q E r s h => by
    unfold bAny at h
    split at h
    · obtain ⟨v, rfl, r'⟩ := reps1 r
      split at h
      · rename_i bs hb
        obtain ⟨ds, q1, q2⟩ := Option.bind_eq_some_iff.mp hb
        obtain ⟨a, ws, rfl, g1, g2⟩ := view_rep q1 r' s
        have z := toBls_rep q2 g2
        subst z
        exact ⟨a, bs, rfl, g1, h.now (.bl _) s⟩
      · exact h.elim
    · exact h.elim) hm PyProof.Rows.boot_any ha hg (by decide) (by decide) he hpl
/-- list(x) of a list or a tuple: the new one is no cell | is one; tuple(x) -/
def seqD : D → Sto → Option (List D)
  | .tup ds, _ => some ds
  | d, st => view d st
theorem seqD_rep {G : Cg} {p : Pt} {st : Sto} {d : D} {v : V} {ds : List D} (h : seqD d st = some ds) (r : Rep G.K p d v) (s : RepS G.K p st) : ∃ a vs, v = .ref a ∧ (SqL G.K p.H a vs ∨ SqT G.K p.H a vs) ∧ Reps G.K p ds vs := by
  cases d with
  | tup es =>
    simp only [seqD] at h
    cases h
    cases r with
    | tup e r => exact ⟨_, _, rfl, .inr e.sq, r⟩
  | _ =>
    simp only [seqD] at h
    obtain ⟨a, vs, rfl, g1, g2⟩ := view_rep h r s
    exact ⟨a, vs, rfl, .inl g1, g2⟩
def bList : List D → Sto → Out D
  | [d], st => match seqD d st with
    | some ds => .ok (.lst ds) st
    | none => .bad
  | _, _ => .bad
def bListP : List D → Sto → Out D
  | [d], st => match seqD d st with
    | some ds => .ok (.ptr st.length) (st ++ [.lst ds])
    | none => .bad
  | _, _ => .bad
theorem pev_list (hm : X.mg "list" = none) (ha : PAv X W (e :: es) φs) (hg : Gl X "list" := by rfl)
    (he : starEach (e :: es) X.env = (false, eval e X.env) :: starEach es X.env := by rfl) (hpl : (backTo pos (starEach es X.env)).any (·.1) = false := by rfl) : PEv X W (.Call (.Name "list" p0) (e :: es) [] pos) (dCall bList φs) :=
  pev_callTy call_list_of (fun p st xs vs Q E r s h => by
    unfold bList at h
    split at h
    · obtain ⟨v, rfl, r'⟩ := reps1 r
      split at h
      · rename_i ds hd
        obtain ⟨a, ws, rfl, g1, g2⟩ := seqD_rep hd r' s
        exact ⟨a, ws, rfl, g1, fun l hl => h (p.laid l _) _ (Ext.laid hl) (.lst upd_same (s.nh hl) (g2.mono (Ext.laid hl))) (s.laid hl)⟩
      · exact h.elim
    · exact h.elim) hm PyProof.Rows.boot_list ha hg (by decide) (by decide) he hpl
theorem pev_listP (hm : X.mg "list" = none) (ha : PAv X W (e :: es) φs) (hg : Gl X "list" := by rfl)
    (he : starEach (e :: es) X.env = (false, eval e X.env) :: starEach es X.env := by rfl) (hpl : (backTo pos (starEach es X.env)).any (·.1) = false := by rfl) : PEv X W (.Call (.Name "list" p0) (e :: es) [] pos) (dCall bListP φs) :=
  pev_callTy call_list_of (fun p st xs vs Q E r s h => by
    unfold bListP at h
    split at h
    · obtain ⟨v, rfl, r'⟩ := reps1 r
      split at h
      · rename_i ds hd
        obtain ⟨a, ws, rfl, g1, g2⟩ := seqD_rep hd r' s
        exact ⟨a, ws, rfl, g1, fun l hl => h (p.cell l _) _ (Ext.cell hl) (.ptr (by show (p.rho ++ [l])[st.length]? = some l; rw [s.len]; simp)) (s.cell hl ⟨ws, upd_same, g2.mono (Ext.cell hl)⟩)⟩
      · exact h.elim
    · exact h.elim) hm PyProof.Rows.boot_list ha hg (by decide) (by decide) he hpl
def bTuple : List D → Sto → Out D
  | [.tup ds], st => .ok (.tup ds) st
  | [d], st => match view d st with
    | some ds => .ok (.tup ds) st
    | none => .bad
  | _, _ => .bad
theorem pev_tuple (hm : X.mg "tuple" = none) (ha : PAv X W (e :: es) φs) (hg : Gl X "tuple" := by rfl)
    (he : starEach (e :: es) X.env = (false, eval e X.env) :: starEach es X.env := by rfl) (hpl : (backTo pos (starEach es X.env)).any (·.1) = false := by rfl) : PEv X W (.Call (.Name "tuple" p0) (e :: es) [] pos) (dCall bTuple φs) :=
  pev_callTy call_tuple_of (fun p st xs vs Q E r s h => by
    unfold bTuple at h
    split at h
    · obtain ⟨v, rfl, r'⟩ := reps1 r
      cases r' with
      | tup e r2 => exact ⟨_, _, rfl, .inr ⟨e.sq, h.now (.tup e r2) s⟩⟩
    · obtain ⟨v, rfl, r'⟩ := reps1 r
      split at h
      · rename_i ds hd
        obtain ⟨a, ws, rfl, g1, g2⟩ := view_rep hd r' s
        exact ⟨a, ws, rfl, .inl ⟨g1, fun l hl => h (p.laid l _) _ (Ext.laid hl) (.tup (.inl ⟨.inl upd_same, s.nh hl⟩) (g2.mono (Ext.laid hl))) (s.laid hl)⟩⟩
      · exact h.elim
    · exact h.elim) hm PyProof.Rows.boot_tuple ha hg (by decide) (by decide) he hpl

/-! ### isinstance with a built-in type -/
inductive Ty where
  | int | bool | tuple | list | dict | str | none
  deriving DecidableEq
def Ty.nm : Ty → String
  | .int => "int" | .bool => "bool" | .tuple => "tuple" | .list => "list" | .dict => "dict" | .str => "str" | .none => "NoneType"
def tyD : D → Sto → Option Ty
  | .non, _ => some .none
  | .bl _, _ => some .bool
  | .int _, _ => some .int
  | .str _, _ => some .str
  | .tup _, _ => some .tuple
  | .lst _, _ => some .list
  | .fls _, _ => some .list
  | .dic _ _, _ => some .dict
  | .ptr n, st => match st[n]? with
    | some (.lst _) => some .list
    | some (.dic _ _) => some .dict
    | _ => Option.none
  | .raw _, _ => Option.none
def isi : Ty → Ty → Bool
  | .bool, .int => true
  | a, b => decide (a = b)
theorem isi_kit (a b : Ty) : kitB a.nm b.nm = some (isi a b) := by
  cases a <;> cases b <;> decide +kernel
theorem tyD_rep {G : Cg} {p : Pt} {st : Sto} {d : D} {v : V} {t : Ty} (h : tyD d st = some t) (r : Rep G.K p d v) (s : RepS G.K p st) : TyX G.K p.H v (.type t.nm) := by
  have seqT : ∀ {a vs}, STup G.K p a vs → TyX G.K p.H (.ref a) (.type "tuple") := by
    intro a vs e
    rcases e with ⟨e | ⟨o, e⟩, _⟩ | ⟨o, its, n, e, c, _⟩
    · exact .base (.tup (p.sub _ _ e))
    · exact .fTuple (p.sub _ _ e)
    · exact .kTuple e c
  have seqL : ∀ {a vs}, SLst G.K p a vs → TyX G.K p.H (.ref a) (.type "list") := by
    intro a vs e
    rcases e with ⟨e | ⟨o, e⟩, _⟩ | ⟨o, its, n, e, c, _⟩
    · exact .base (.lst (p.sub _ _ e))
    · exact .base (.frz (p.sub _ _ e))
    · exact .kList e c
  cases r with
  | non => simp only [tyD] at h; cases h; exact .base .non
  | bl b => simp only [tyD] at h; cases h; exact .base (.bl b)
  | int i => simp only [tyD] at h; cases h; exact .base (.int i)
  | str x => simp only [tyD] at h; cases h; exact .base (.str x)
  | raw v => simp [tyD] at h
  | tup e r => simp only [tyD] at h; cases h; exact seqT e
  | lst e n r => simp only [tyD] at h; cases h; exact .base (.lst (p.sub _ _ e))
  | fls e r => simp only [tyD] at h; cases h; exact seqL e
  | dic e n l r => simp only [tyD] at h; cases h; exact .base (.dK (p.sub _ _ e))
  | @ptr _ a hn =>
    simp only [tyD] at h
    split at h
    · rename_i ds q
      cases h
      obtain ⟨vs, h1, h2⟩ := s.at_ _ _ a q hn
      exact .base (.lst (p.sub _ _ h1))
    · rename_i ks ds q
      cases h
      obtain ⟨vs, h1, h0, h2⟩ := s.at_ _ _ a q hn
      exact .base (.dK (p.sub _ _ h1))
    · cases h
def oIsi (t : Ty) : D → Sto → Out D := fun d st => match tyD d st with
  | some u => .ok (.bl (isi u t)) st
  | Option.none => .bad
theorem pev_isi (t : Ty) {x : Str} {p1 p2 : Pos} (hm : X.mg "isinstance" = none) (hm2 : X.mg x = none) (hb : bootBuiltins x = some (.type t.nm)) (ha : PEv X W e φ) (hg : Gl X "isinstance" := by rfl) (hg2 : Gl X x := by rfl)
    (hn : x ≠ "__name__" := by decide) (hd : (x == ("__debug__" : Str)) = false := by decide)
    (he : starEach [e, .Name x p1] X.env = (false, eval e X.env) :: starEach [.Name x p1] X.env := by rfl) (he2 : starEach [.Name x p1] X.env = (false, eval (.Name x p1) X.env) :: starEach [] X.env := by rfl) (hpl : (backTo pos (starEach [.Name x p1] X.env)).any (·.1) = false := by rfl) :
    PEv X W (.Call (.Name "isinstance" p2) [e, .Name x p1] [] pos) (dOp1 (oIsi t) φ) :=
  pev_of (pe_callB call_isi hg hm PyProof.Rows.boot_isinstance (pa_cons ha (pa_cons (pe_bltn (v := .ty t.nm) hg2 hm2 hb rfl hn hd) pa_nil he2) he) (by decide) (by decide) he hpl) fun σ Q p env st hE hS h => by
    refine (tD.run hE hS h).mono fun v H1 ⟨p1, d, st1, z1, e1, r1, s1, h1⟩ => ?_
    subst z1
    unfold oIsi at h1
    split at h1
    · rename_i u hu
      exact ⟨v, _, _, _, _, rfl, .ty _, tyD_rep hu r1 s1, kit_ty (isi_kit u t), h1.now (.bl _) s1⟩
    · exact h1.elim

/-! ### {k: v, ..} -/
def evP : List (Den × Den) → En → Sto → Out (List (D × D))
  | [], _, st => .ok [] st
  | (φk, φv) :: r, env, st => (φk env st).bind fun x st => (φv env st).bind fun y st => (evP r env st).bind fun ps st => .ok ((x, y) :: ps) st
def RepPs (K : Frag) (p : Pt) : List (D × D) → List (V × V) → Prop := Paired fun x y => Rep K p x.1 y.1 ∧ Rep K p x.2 y.2
theorem RepPs.mono {K p q} (e : Ext p q) : ∀ {xs ys}, RepPs K p xs ys → RepPs K q xs ys
  | _, _, .nil => .nil
  | _, _, .cons a b => .cons ⟨a.1.mono e, a.2.mono e⟩ (RepPs.mono e b)
theorem tPairs_of {σ : St} : ∀ (φs : List (Den × Den)) {p : Pt} {env : En} {st : Sto} {Q : List (V × V) → Hp → Prop}, RepE X.K p env σ → RepS X.K p st → Aft (RepPs X.K) (Cx.g X) p (evP φs env st) Q (wAt W σ) →
    tPairs (φs.map fun x => (tD (Cx.g X) W x.1, tD (Cx.g X) W x.2)) σ p.H Q
  | [], p, env, st, Q, hE, hS, h => h.now .nil hS
  | (φk, φv) :: r, p, env, st, Q, hE, hS, h => by
    refine (tD.run hE hS h).mono fun x H1 ⟨p1, d, st1, z1, e1, r1, s1, h1⟩ => ?_
    subst z1
    refine (tD.run (hE.mono e1) s1 h1).mono fun y H2 ⟨p2, d2, st2, z2, e2, r2, s2, h2⟩ => ?_
    subst z2
    refine tPairs_of r ((hE.mono e1).mono e2) s2 ((Aft.bind (R := RepPs X.K) h2).mono fun ps H3 ⟨p3, d3, st3, z3, e3, r3, s3, h3⟩ => ?_)
    subst z3
    exact h3.now (.cons ⟨(r1.mono e2).mono e3, r2.mono e3⟩ r3) s3
def mkDic : List (D × D) → List Key → List D → Option (List Key × List D)
  | [], ks, ds => some (ks, ds)
  | (x, y) :: r, ks, ds => match dKey x with
    | some k => mkDic r (putKs ks k) (putDs ks ds k y)
    | none => none
theorem mkDic_rep {K p} : ∀ {xs : List (D × D)} {ys : List (V × V)} {ks ks' : List Key} {ds ds' : List D} {vs : List V}, mkDic xs ks ds = some (ks', ds') → RepPs K p xs ys → ks.length = ds.length → Reps K p ds vs →
    ∃ kvs ws, ys = kvs.map (fun kv => (kV kv.1, kv.2)) ∧ kvs.length = xs.length ∧ mergeK (ks.zip vs) kvs = ks'.zip ws ∧ ks'.length = ds'.length ∧ Reps K p ds' ws
  | [], _, ks, ks', ds, ds', vs, h, .nil, hl, r => by simp only [mkDic] at h; cases h; exact ⟨[], vs, rfl, rfl, rfl, hl, r⟩
  | (x, y) :: xs, _, ks, ks', ds, ds', vs, h, .cons (l₂ := ys) (b := b) rr rs, hl, r => by
    simp only [mkDic] at h
    split at h
    · rename_i k hk
      obtain ⟨ws, w1, w2, w3⟩ := putDs_rep (k := k) rr.2 hl r
      obtain ⟨kvs, us, g1, g2, g3, g4, g5⟩ := mkDic_rep h rs w3 w1
      have hb := dKey_rep hk rr.1
      refine ⟨(k, b.2) :: kvs, us, ?_, by simp [g2], ?_, g4, g5⟩
      · rw [List.map_cons, ← g1, ← hb]
      · show mergeK (putK (ks.zip vs) k b.2) kvs = _
        rw [w2]; exact g3
    · cases h
/-- the new dict is a cell -/
def dDicP (φs : List (Den × Den)) : Den := fun env st => (evP φs env st).bind fun ps st => if ps.length ≤ 15 then (match mkDic ps [] [] with
  | some (ks, ds) => .ok (.ptr st.length) (st ++ [.dic ks ds])
  | none => .bad) else .bad
def dDic (φs : List (Den × Den)) : Den := fun env st => (evP φs env st).bind fun ps st => if ps.length ≤ 15 then (match mkDic ps [] [] with
  | some (ks, ds) => .ok (.dic ks ds) st
  | none => .bad) else .bad
def PPv (X : Cx) (W : WX) (pos : Pos) (keys : List (Option Expr)) (values : List Expr) (φs : List (Den × Den)) : Prop := PPs X pos keys values (φs.map fun x => (tD (Cx.g X) W x.1, tD (Cx.g X) W x.2))
theorem ppv_nil : PPv X W pos [] [] [] := pps_nil
theorem ppv_cons {k v : Expr} {ks : List (Option Expr)} {vs : List Expr} {φk φv : Den} {φs : List (Den × Den)} (hk : PEv X W k φk) (hv : PEv X W v φv) (hr : PPv X W pos ks vs φs) : PPv X W pos (some k :: ks) (v :: vs) ((φk, φv) :: φs) := pps_cons hk hv hr
theorem disp_of {σ : St} {p : Pt} {env : En} {st : Sto} {Q : VK} {φs : List (Den × Den)} {fin : List Key → List D → Sto → Out D} (hE : RepE X.K p env σ) (hS : RepS X.K p st)
    (h : Aft (Rep X.K) (Cx.g X) p ((evP φs env st).bind fun ps st => if ps.length ≤ 15 then (match mkDic ps [] [] with
      | some (ks, ds) => fin ks ds st
      | none => .bad) else .bad) Q (wAt W σ))
    (hfin : ∀ ks ds st p q a vs, Ext p q → p.H a = none → q.V a = none → q.H a = some (.dK (ks.zip vs)) → ks.length = ds.length → Reps X.K q ds vs → RepS X.K q st → Aft (Rep X.K) (Cx.g X) p (fin ks ds st) Q (wAt W σ) → Q (.ref a) q.H) :
    tDisp (φs.map fun x => (tD (Cx.g X) W x.1, tD (Cx.g X) W x.2)) σ p.H Q := by
  intro A hA
  have fA := Pt.free hA
  have e0 : Ext p (p.over A (.dK []) fA) := Ext.refl.over hA
  refine tPairs_of φs (p := p.over A (.dK []) fA) (hE.mono e0) hS.over ?_
  cases he : evP φs env st with
  | bad => rw [he] at h; exact h.elim
  | exc x st' =>
    rw [he] at h
    exact fun q cls dd e1 rx s1 => h q cls dd (e0.trans e1) rx s1
  | ok xs st1 =>
    rw [he] at h
    have h : Aft (Rep X.K) (Cx.g X) p (if xs.length ≤ 15 then (match mkDic xs [] [] with
      | some (ks, ds) => fin ks ds st1
      | none => .bad) else .bad) Q (wAt W σ) := h
    intro q ps e1 r1 s1
    obtain ⟨nA, hA1⟩ := e1.unseen (a := A) (o := .dK []) fA upd_same
    split at h
    · rename_i hl
      split at h
      · rename_i ks ds hm
        obtain ⟨kvs, ws, g1, g2, g3, g4, g5⟩ := mkDic_rep hm r1 rfl .nil
        refine ⟨hA1, kvs, g1, by rw [g2]; exact hl, ?_⟩
        have g3 : mergeK [] kvs = ks.zip ws := g3
        rw [g3]
        have e2 : Ext p (q.over A (.dK (ks.zip ws)) nA) := (e0.trans e1).over hA
        exact hfin ks ds st1 p (q.over A (.dK (ks.zip ws)) nA) A ws e2 hA nA upd_same g4 (g5.mo Mo.over) s1.over h
      · exact h.elim
    · exact h.elim
theorem pev_dicP {keys : List (Option Expr)} {values : List Expr} {φs : List (Den × Den)} (h : PPv X W pos keys values φs) (hall : keys.all (·.isSome) = true := by rfl) (hl : keys.length = values.length := by rfl) (h0 : keys ≠ [] := by exact List.cons_ne_nil _ _) (h15 : keys.length ≤ 15 := by decide) :
    PEv X W (.Dict keys values pos) (dDicP φs) :=
  pev_of (pe_disp h hall hl h0 h15) fun σ Q p env st hE hS h =>
    disp_of (fin := fun ks ds st => .ok (.ptr (List.length st)) (st ++ [MO.dic ks ds])) hE hS h fun ks ds st p q a vs e ha na hq hl r s h =>
      h (q.seeC a _ hq) _ (e.seeC na ha) (.ptr (by show (q.rho ++ [a])[st.length]? = some a; rw [s.len]; simp)) (s.seeC na ⟨vs, upd_same, hl, r.mo (Mo.seeC na)⟩)
theorem pev_dic {keys : List (Option Expr)} {values : List Expr} {φs : List (Den × Den)} (h : PPv X W pos keys values φs) (hall : keys.all (·.isSome) = true := by rfl) (hl : keys.length = values.length := by rfl) (h0 : keys ≠ [] := by exact List.cons_ne_nil _ _) (h15 : keys.length ≤ 15 := by decide) :
    PEv X W (.Dict keys values pos) (dDic φs) :=
  pev_of (pe_disp h hall hl h0 h15) fun σ Q p env st hE hS h =>
    disp_of (fin := fun ks ds st => .ok (.dic ks ds) st) hE hS h fun ks ds st p q a vs e ha na hq hl r s h =>
      h (q.see a _ hq) _ (e.see na ha) (.dic upd_same (s.ne na) hl (r.mo (Mo.see na))) (s.see na)
end
end DL

/-! DL: what a def tells in other words; cells that are dropped; the defs of the top; the end of a law. -/
namespace DL
open PySem PySem.Spec L2
open PyProof.Rows hiding St
set_option autoImplicit true

/-- F tells less than R, or the same -/
def Ref (R F : List D → Sto → Out D) : Prop := ∀ args st, F args st = .bad ∨ R args st = F args st
theorem Fn.imp {P w G base x k n R F} (h : Fn P w G base x k n R) (i : ∀ vs H Q E, spF G n F vs H Q E → spF G n R vs H Q E) : Fn P w G base x k n F := by
  obtain ⟨f, fd, ps, F1, a, b, c⟩ := h.ex
  exact ⟨f, fd, ps, F1.imp i, a, b, c⟩
theorem Fn.ref {P w G base x k n R F} (h : Fn P w G base x k n R) (r : Ref R F) : Fn P w G base x k n F :=
  h.imp fun vs H Q E ⟨p, args, st, z, hl, ra, rs, h⟩ => ⟨p, args, st, z, hl, ra, rs, by
    rcases r args st with e | e
    · rw [e] at h; exact h.elim
    · rw [e]; exact h⟩
theorem Fn.mono {P w G base x j k n F} (h : Fn P w G base x j n F) (hk : j ≤ k) : Fn P w G base x k n F := by
  obtain ⟨f, fd, ps, F1, a, b, c⟩ := h.ex
  exact ⟨f, fd, ps, F1.mono hk, a, b, c⟩

/-! ### cells that are dropped -/
mutual
def cl (n : Nat) : D → Bool
  | .tup ds => cls n ds
  | .lst ds => cls n ds
  | .fls ds => cls n ds
  | .dic _ ds => cls n ds
  | .ptr i => decide (i < n)
  | _ => true
def cls (n : Nat) : List D → Bool
  | [] => true
  | d :: ds => cl n d && cls n ds
end
def clm (n : Nat) : MO → Bool
  | .lst ds => cls n ds
  | .dic _ ds => cls n ds
mutual
theorem cl_of {K : Frag} {p : Pt} : ∀ {d : D} {v : V}, Rep K p d v → cl p.rho.length d = true
  | .non, _, _ => rfl
  | .bl _, _, _ => rfl
  | .int _, _, _ => rfl
  | .str _, _, _ => rfl
  | .raw _, _, _ => rfl
  | .tup ds, _, r => by rw [cl]; cases r with | tup _ r => exact cls_of r
  | .lst ds, _, r => by rw [cl]; cases r with | lst _ _ r => exact cls_of r
  | .fls ds, _, r => by rw [cl]; cases r with | fls _ r => exact cls_of r
  | .dic _ ds, _, r => by rw [cl]; cases r with | dic _ _ _ r => exact cls_of r
  | .ptr i, _, r => by rw [cl]; cases r with | ptr h => exact decide_eq_true (List.getElem?_eq_some_iff.mp h).1
theorem cls_of {K : Frag} {p : Pt} : ∀ {ds : List D} {vs : List V}, Reps K p ds vs → cls p.rho.length ds = true
  | [], _, _ => rfl
  | d :: ds, _, r => by
    rw [cls]
    cases r with
    | cons a b => rw [cl_of a, cls_of b]; rfl
end
/-- the cells behind the first ones are forgotten -/
def Pt.cut (q : Pt) (rho : List Addr) : Pt := ⟨rho, q.V, q.H, q.sub⟩
mutual
theorem Rep.cut {K : Frag} {q : Pt} {r t : List Addr} (e : q.rho = r ++ t) : ∀ {d : D} {v : V}, cl r.length d = true → Rep K q d v → Rep K (q.cut r) d v
  | .non, _, _, h => by cases h; exact .non
  | .bl _, _, _, h => by cases h; exact .bl _
  | .int _, _, _, h => by cases h; exact .int _
  | .str _, _, _, h => by cases h; exact .str _
  | .raw _, _, _, h => by cases h; exact .raw _
  | .tup ds, _, c, h => by
    rw [cl] at c
    cases h with
    | tup s h =>
      refine .tup ?_ (Reps.cut e c h)
      rcases s with ⟨s, n⟩ | s
      · exact .inl ⟨s, fun z => n (by rw [e]; exact List.mem_append_left _ z)⟩
      · exact .inr s
  | .lst ds, _, c, h => by
    rw [cl] at c
    cases h with
    | lst s n h => exact .lst s (fun z => n (by rw [e]; exact List.mem_append_left _ z)) (Reps.cut e c h)
  | .fls ds, _, c, h => by
    rw [cl] at c
    cases h with
    | fls s h =>
      refine .fls ?_ (Reps.cut e c h)
      rcases s with ⟨s, n⟩ | s
      · exact .inl ⟨s, fun z => n (by rw [e]; exact List.mem_append_left _ z)⟩
      · exact .inr s
  | .dic _ ds, _, c, h => by
    rw [cl] at c
    cases h with
    | dic s n l h => exact .dic s (fun z => n (by rw [e]; exact List.mem_append_left _ z)) l (Reps.cut e c h)
  | .ptr i, _, c, h => by
    rw [cl] at c
    cases h with
    | ptr h =>
      refine .ptr ?_
      rw [e, List.getElem?_append_left (of_decide_eq_true c)] at h
      exact h
theorem Reps.cut {K : Frag} {q : Pt} {r t : List Addr} (e : q.rho = r ++ t) : ∀ {ds : List D} {vs : List V}, cls r.length ds = true → Reps K q ds vs → Reps K (q.cut r) ds vs
  | [], _, _, h => by cases h; exact .nil
  | d :: ds, _, c, h => by
    rw [cls, Bool.and_eq_true] at c
    cases h with
    | cons a b => exact .cons (Rep.cut e c.1 a) (Reps.cut e c.2 b)
end
/-- what is handed back, without the new cells g: n cells stay -/
inductive Frz (n : Nat) (g : Sto) : D → D → Prop
  | self {d : D} (c : cl n d = true) : Frz n g d d
  | lst {j : Nat} {ds : List D} (h : g[j]? = some (.lst ds)) (c : cls n ds = true) : Frz n g (.ptr (n + j)) (.lst ds)
  | dic {j : Nat} {ks : List Key} {ds : List D} (h : g[j]? = some (.dic ks ds)) (c : cls n ds = true) : Frz n g (.ptr (n + j)) (.dic ks ds)
def RefP (R F : List D → Sto → Out D) : Prop := ∀ args st, F args st = .bad ∨ R args st = F args st ∨
  ∃ d d' st' g, R args st = .ok d (st' ++ g) ∧ F args st = .ok d' st' ∧ st'.length = st.length ∧ (st' = st ∨ st'.all (clm st.length) = true) ∧ Frz st.length g d d'
theorem Fn.refP {P w G base x k n R F} (h : Fn P w G base x k n R) (r : RefP R F) : Fn P w G base x k n F :=
  h.imp fun vs H Q E ⟨p, args, st, z, hl, ra, rs, h⟩ => ⟨p, args, st, z, hl, ra, rs, by
    rcases r args st with e | e | ⟨d, d', st', g, e1, e2, hlen, hcl, fz⟩
    · rw [e] at h; exact h.elim
    · rw [e]; exact h
    · rw [e2] at h
      rw [e1]
      intro q b ex rq sq
      obtain ⟨t, ht⟩ := ex.pre
      have hn : st.length = p.rho.length := rs.len
      have ex0 : Ext p (q.cut p.rho) := ⟨⟨[], by simp [Pt.cut]⟩, ex.keep, fun b hb nb => absurd hb nb, ex.vis, ex.hid⟩
      have mcl : ∀ (i : Nat) (m : MO), st'[i]? = some m → clm p.rho.length m = true := by
        intro i m hm
        rcases hcl with e | e
        · subst e
          have hi : i < p.rho.length := by rw [← hn]; exact (List.getElem?_eq_some_iff.mp hm).1
          have := rs.at_ i m _ hm (List.getElem?_eq_getElem hi)
          cases m with
          | lst ds => obtain ⟨vs, _, r⟩ := this; exact cls_of r
          | dic ks ds => obtain ⟨vs, _, _, r⟩ := this; exact cls_of r
        · rw [← hn]
          exact List.all_eq_true.mp e m (List.mem_of_getElem? hm)
      have sq0 : RepS G.K (q.cut p.rho) st' := by
        refine ⟨by rw [hlen]; exact hn, rs.nd, fun i m a h1 h2 => ?_⟩
        have h2 : p.rho[i]? = some a := h2
        have hi := (List.getElem?_eq_some_iff.mp h2).1
        have hi' := (List.getElem?_eq_some_iff.mp h1).1
        have hm := sq.at_ i m a (by rw [List.getElem?_append_left hi']; exact h1) (by rw [ht, List.getElem?_append_left hi]; exact h2)
        have c := mcl i m h1
        cases m with
        | lst ds => obtain ⟨vs, g1, g2⟩ := hm; exact ⟨vs, g1, Reps.cut ht c g2⟩
        | dic ks ds => obtain ⟨vs, g1, g0, g2⟩ := hm; exact ⟨vs, g1, g0, Reps.cut ht c g2⟩
      have cell : ∀ {j a m}, q.rho[st.length + j]? = some a → g[j]? = some m → RepM G.K q a m ∧ a ∉ p.rho := by
        intro j a m ha hm
        refine ⟨sq.at_ (st.length + j) m a (by rw [List.getElem?_append_right (by omega), hlen, Nat.add_sub_cancel_left]; exact hm) ha, fun z => ?_⟩
        obtain ⟨i, hi⟩ := List.mem_iff_getElem?.mp z
        have h3 : q.rho[i]? = some a := by rw [ht, List.getElem?_append_left (List.getElem?_eq_some_iff.mp hi).1]; exact hi
        obtain ⟨a1, b1⟩ := List.getElem?_eq_some_iff.mp h3
        obtain ⟨a2, b2⟩ := List.getElem?_eq_some_iff.mp ha
        have := (List.getElem_inj sq.nd).mp (b1.trans b2.symm)
        have := (List.getElem?_eq_some_iff.mp hi).1
        omega
      refine h (q.cut p.rho) b ex0 ?_ sq0
      cases fz with
      | self c => rw [hn] at c; exact Rep.cut ht c rq
      | lst hg c =>
        rw [hn] at c
        cases rq with
        | ptr ha =>
          obtain ⟨⟨vs, g1, g2⟩, na⟩ := cell ha hg
          exact .lst g1 na (Reps.cut ht c g2)
      | dic hg c =>
        rw [hn] at c
        cases rq with
        | ptr ha =>
          obtain ⟨⟨vs, g1, g0, g2⟩, na⟩ := cell ha hg
          exact .dic g1 na g0 (Reps.cut ht c g2)⟩

/-! ### the defs of the top -/
structure DefIn (G : Cg) (x : Str) (st : Stmt) (ps : List Str) : Prop where
  ex : ∃ f fd, Fun G.K x x st f fd ∧ G.mg x = some (.ref f) ∧ ∀ us : List Value, us.length = ps.length → bindArgs fd ⟨us, []⟩ = pure (ps.zip us)
theorem def_mk {K : Frag} {h : Heap} {mg : Str → Option Value} {x : Str} {st : Stmt} {ps : List Str} {f : Addr} {oc : Value} {od an : Option Addr} {osl : Array (Option Value)} {kV doc pm cdv ct : Value} (X : K.In h) (G : h.Ns mainGlobals mg)
    (hb : ∀ (kV doc pm : Value) (an : Option Addr) (cdv ct : Value) (us : List Value), us.length = ps.length → bindArgs (PySem.W.fnOf x x (defArgs st) (defBody st) (defScope st) .none kV doc pm an cdv ct) ⟨us, []⟩ = pure (ps.zip us))
    (a : PySem.W.nsIn K mainGlobals x = some (some (.ref f))) (l : K.lookup f = some ⟨oc, od, .func (PySem.W.fnOf x x (defArgs st) (defBody st) (defScope st) .none kV doc pm an cdv ct), osl⟩) (c : PySem.W.codeIn K cdv x = true) (k : PySem.W.keepIn K (.ref f) = true) :
    DefIn ⟨K, mg⟩ x st ps := ⟨f, _, fun_mk l c k, PySem.W.mg_of X G a, hb kV doc pm an cdv ct⟩
theorem fn_raw {P : Program} {w : World} {G : Cg} {base : Heap} {x : Str} {st : Stmt} {ps N : List Str} {k : Nat} {θ : DenS} (Df : DefIn G x st ps) (S : FnScope N ps (defScope st))
    (hb : ∀ (X : Cx) (W : WX), Ok X W k → (∃ f cdv A outer s H E, X = cxOf (L2.CX P w) P w G.K G.mg base N x (defScope st) f cdv A outer s H E) → PBv X W (defBody st) θ) : Fn P w G base x (k + 1) ps.length (dFn N.length θ) := by
  obtain ⟨f, fd, F, hm, hbd⟩ := Df.ex
  exact ⟨f, fd, ps, fn_den F S fun X W o ⟨cdv, A, outer, s, H, E, e⟩ => hb X W o ⟨f, cdv, A, outer, s, H, E, e⟩, hm, F.kp, Binds.all hbd⟩
/-- a tuple of the module -/
theorem gcon_tup {K : Frag} {h : Heap} {mg : Str → Option Value} {x : Str} {a : Addr} {o : Obj} {its : Array Value} {n : Nat} {ds : List D} {vs : List V} (X : K.In h) (G : h.Ns mainGlobals mg) (e : PySem.W.nsIn K mainGlobals x = some (some (.ref a)))
    (l : K.lookup a = some o) (c : o.cls = .type "tuple") (d : o.data = .seq its n) (z : its.size ≤ sizeLine) (r : Vals vs its.toList) (q : ∀ p, Reps K p ds vs) : GCon ⟨K, mg⟩ x (.tup ds) :=
  ⟨.ref a, .ref a, PySem.W.mg_of X G e, rfl, fun p => .tup (.inr ⟨o, its, n, l, c, d, z, r⟩) (q p)⟩

/-! ### the end -/
def spLaw (K : Frag) : Sp := fun vs H Q _ => ∃ (a : Addr) (ns : List Int), vs = [.ref a] ∧ ns.length ≤ 63 ∧ Only H ∧ SqL K H a (ns.map V.int) ∧ ∀ H', Q (.bl true) H'
theorem reps_ints {K : Frag} {p : Pt} : ∀ ns : List Int, Reps K p (ns.map D.int) (ns.map V.int)
  | [] => .nil
  | n :: ns => .cons (.int n) (reps_ints ns)
theorem law_of {P : Program} {w : World} {G : Cg} {base : Heap} {f : Addr} {fd : FuncData} {k : Nat} {x : Str} {F : List D → Sto → Out D} (h : FnOk P w G.K G.mg base (L2.CX P w) k f fd [x] (spF G 1 F))
    (ht : ∀ ns : List Int, ns.length ≤ 63 → ∃ st, F [.fls (ns.map D.int)] [] = .ok (.bl true) st) : FnOk P w G.K G.mg base (L2.CX P w) k f fd [x] (spLaw G.K) :=
  h.imp fun vs H Q E ⟨a, ns, e, hl, hO, hS, hq⟩ => by
    subst e
    obtain ⟨st, e⟩ := ht ns hl
    refine ⟨⟨[], H, H, fun _ _ h => h⟩, [.fls (ns.map D.int)], [], rfl, rfl, .cons (.fls ?_ (reps_ints ns)) .nil, ⟨rfl, List.nodup_nil, fun n m a h _ => by simp at h⟩, ?_⟩
    · rcases hS with h | h
      · exact .inl ⟨h, by simp⟩
      · exact .inr h
    · rw [e]
      intro q b _ r _
      cases r
      exact hq _
theorem CX_false {P : Program} {w : World} (H : Hp) (s : Shared) (e : Value) (s' : Shared) (h : L2.CX P w [] H s (fun _ _ _ => False) e s') : False := by
  obtain ⟨_, _, _, _, _, _, _, _, _, _, _, _, z⟩ := h
  exact z
end DL

/-! DL: evaluation of denotations; fractions. -/
namespace DL
open PySem PySem.Spec L2
open PyProof.Rows hiding St
set_option autoImplicit true
/-- a loop's fuel by an int in a slot -/
def fuI (i : Nat) : En → Sto → Nat := fun env _ => match env[i]? with
  | some (some (.int j)) => j.natAbs + 2
  | _ => 0
/-! ### what simp unfolds -/
theorem shaped_int (i : Int) : SeqAt.shaped (.int i) = true := rfl
theorem shaped_bool (i : Bool) : SeqAt.shaped (.bool i) = true := rfl
theorem shaped_none : SeqAt.shaped .none = true := rfl
theorem oEq_int (i j : Int) (st : Sto) : oEq (.int i) (.int j) st = .ok (.bl (i == j)) st := rfl
theorem oNe_int (i j : Int) (st : Sto) : oNe (.int i) (.int j) st = .ok (.bl (!(i == j))) st := rfl
theorem oEq_bl (i j : Bool) (st : Sto) : oEq (.bl i) (.bl j) st = .ok (.bl (i == j)) st := rfl
theorem oNe_bl (i j : Bool) (st : Sto) : oNe (.bl i) (.bl j) st = .ok (.bl (!(i == j))) st := rfl
@[simp] theorem Out.to_ok {α : Type} {a : α} {st : Sto} {env : En} {k : α → Sto → SOut} : (Out.ok a st).to env k = k a st := rfl
@[simp] theorem Out.to_bad {α : Type} {env : En} {k : α → Sto → SOut} : (Out.bad : Out α).to env k = none := rfl
/-! ### sizes -/
def Sm (n : Nat) (i : Int) : Prop := i.natAbs < 2 ^ n
instance (n : Nat) (i : Int) : Decidable (Sm n i) := inferInstanceAs (Decidable (_ < _))
theorem Sm.mono {n m i} (h : Sm n i) (hm : n ≤ m) : Sm m i := Nat.lt_of_lt_of_le h (Nat.pow_le_pow_right (by decide) hm)
theorem Sm.mul {n m i j} (h : Sm n i) (h' : Sm m j) : Sm (n + m) (i * j) := by
  unfold Sm at *
  rw [Int.natAbs_mul, Nat.pow_add]
  exact Nat.mul_lt_mul'' h h'
theorem Sm.add {n i j} (h : Sm n i) (h' : Sm n j) : Sm (n + 1) (i + j) := by
  unfold Sm at *
  rw [Nat.pow_succ]
  have := Int.natAbs_add_le i j
  omega
theorem Sm.sub {n i j} (h : Sm n i) (h' : Sm n j) : Sm (n + 1) (i - j) := by
  unfold Sm at *
  rw [Nat.pow_succ]
  have := Int.natAbs_sub_le i j
  omega
theorem Sm.log {n i} (h : Sm n i) : i.natAbs.log2 ≤ n := by
  unfold Sm at h
  by_cases z : i.natAbs = 0
  · rw [z]; simp
  · exact Nat.le_of_lt ((Nat.log2_lt z).mpr h)
theorem Sm.log' {n i} (h : Sm n i) (h0 : 0 < n) : i.natAbs.log2 < n := by
  unfold Sm at h
  by_cases z : i.natAbs = 0
  · rw [z]; simpa using h0
  · exact (Nat.log2_lt z).mpr h
theorem oMul_sm {n m : Nat} {i j : Int} {st : Sto} (h : Sm n i) (h' : Sm m j) (hs : n + m < 1000000 := by decide) : oMul (.int i) (.int j) st = .ok (.int (i * j)) st := by
  simp only [oMul]
  rw [if_pos]
  have := h.log
  have := h'.log
  omega
theorem oFdiv_sm {n : Nat} {i j : Int} {st : Sto} (h0 : 0 < j) (h : Sm n j) (hs : n < 9000 := by decide) : oFdiv (.int i) (.int j) st = .ok (.int (i / j)) st := by
  simp only [oFdiv]
  rw [if_pos]
  have := h.log
  exact ⟨h0, by omega⟩
theorem oMod_pos {i j : Int} {st : Sto} (h : 0 < j) : oMod (.int i) (.int j) st = .ok (.int (i % j)) st := by
  simp only [oMod]
  rw [if_pos h]
/-! ### fractions -/
def fr (q : Rat) : D := .tup [.int q.num, .int q.den]
theorem fr_inj {q r : Rat} : fr q = fr r ↔ q = r := by
  constructor
  · intro h
    simp only [fr, D.tup.injEq, List.cons.injEq, D.int.injEq, and_true] at h
    exact Rat.ext h.1 (by omega)
  · rintro rfl; rfl
theorem oEq_fr (q r : Rat) (st : Sto) : oEq (fr q) (fr r) st = .ok (.bl (decide (q = r))) st := by
  have : oEq (fr q) (fr r) st = .ok (.bl ((q.num == r.num) && (((q.den : Int) == (r.den : Int)) && true))) st := rfl
  rw [this]
  congr 2
  by_cases h : q = r
  · subst h; simp
  · have : ¬ (q.num = r.num ∧ q.den = r.den) := fun z => h (Rat.ext z.1 z.2)
    simp [h]
    intro z; exact fun y => this ⟨z, by omega⟩
theorem oNe_fr (q r : Rat) (st : Sto) : oNe (fr q) (fr r) st = .ok (.bl (!decide (q = r))) st := by
  have : oNe (fr q) (fr r) st = .ok (.bl (!((q.num == r.num) && (((q.den : Int) == (r.den : Int)) && true)))) st := rfl
  have h2 : oEq (fr q) (fr r) st = .ok (.bl ((q.num == r.num) && (((q.den : Int) == (r.den : Int)) && true))) st := rfl
  rw [oEq_fr] at h2
  rw [this]
  simp only [Out.ok.injEq, D.bl.injEq, and_true] at h2
  rw [← h2]
/-- the fraction of two ints, in the program's words -/
theorem fr_divInt (t b : Int) (h : 0 < b) : fr (Rat.divInt t b) = .tup [.int (t / (Int.gcd t b : Int)), .int (b / (Int.gcd t b : Int))] := by
  unfold fr
  rw [Rat.num_divInt, Rat.den_divInt, if_neg (by omega), Int.sign_eq_one_of_pos h, Int.one_mul, Int.gcd_comm b t]
  have : ((b.natAbs / Int.gcd t b : Nat) : Int) = b / (Int.gcd t b : Int) := by
    rw [Int.natCast_ediv, Int.natAbs_of_nonneg (by omega)]
  rw [this]
def SmQ (n : Nat) (q : Rat) : Prop := Sm n q.num ∧ Sm n (q.den : Int)
theorem SmQ.mono {n m q} (h : SmQ n q) (hm : n ≤ m) : SmQ m q := ⟨h.1.mono hm, h.2.mono hm⟩
theorem SmQ.divInt {n t b} (h : Sm n t) (h' : Sm n b) (hb : b ≠ 0) : SmQ n (Rat.divInt t b) := by
  unfold SmQ Sm at *
  rw [Rat.num_divInt, Rat.den_divInt, if_neg hb]
  constructor
  · have : (b.sign * t / (b.gcd t : Int)).natAbs ≤ t.natAbs := by
      rw [Int.natAbs_ediv_of_dvd (Int.dvd_mul_of_dvd_right (Int.gcd_dvd_right ..)), Int.natAbs_mul, Int.natAbs_sign_of_ne_zero hb, Nat.one_mul]
      exact Nat.div_le_self ..
    omega
  · have : b.natAbs / b.gcd t ≤ b.natAbs := Nat.div_le_self ..
    simp only [Int.natAbs_natCast]
    omega
theorem oTup2 (a b : D) (st : Sto) : oTup [a, b] st = .ok (.tup [a, b]) st := rfl
theorem gcd_pos' {t b : Int} (h : 0 < b) : (0 : Int) < (Int.gcd t b : Int) := by
  have := Int.gcd_pos_of_ne_zero_right t (show b ≠ 0 by omega)
  omega
theorem gcd_sm {n : Nat} {t b : Int} (h : 0 < b) (hs : Sm n b) : Sm n (Int.gcd t b : Int) := by
  have h1 : Int.gcd t b ≤ b.natAbs := Nat.le_of_dvd (by omega) (Int.gcd_dvd_natAbs_right ..)
  unfold Sm at *
  simp only [Int.natAbs_natCast]
  omega
theorem ix0 (x : D) (xs : List D) (st : Sto) : oIx (.tup (x :: xs)) (.int 0) st = .ok x st := by
  have : atI (x :: xs) 0 = some x := atI_nat (j := 0) rfl
  simp only [oIx, this]
theorem ix1 (x y : D) (xs : List D) (st : Sto) : oIx (.tup (x :: y :: xs)) (.int 1) st = .ok y st := by
  have : atI (x :: y :: xs) 1 = some y := atI_nat (j := 1) rfl
  simp only [oIx, this]
theorem den_ne (q : Rat) : (q.den : Int) ≠ 0 := by have := q.den_nz; omega
theorem den_pos (q : Rat) : (0 : Int) < (q.den : Int) := by have := q.den_nz; omega
theorem divInt_add (q r : Rat) : Rat.divInt (q.num * r.den + r.num * q.den) (q.den * r.den) = q + r := by
  rw [← Rat.divInt_add_divInt _ _ (den_ne q) (den_ne r), Rat.num_divInt_den, Rat.num_divInt_den]
theorem divInt_sub (q r : Rat) : Rat.divInt (q.num * r.den - r.num * q.den) (q.den * r.den) = q - r := by
  rw [← Rat.divInt_sub_divInt _ _ (den_ne q) (den_ne r), Rat.num_divInt_den, Rat.num_divInt_den]
theorem divInt_mul (q r : Rat) : Rat.divInt (q.num * r.num) (q.den * r.den) = q * r := by
  rw [← Rat.divInt_mul_divInt, Rat.num_divInt_den, Rat.num_divInt_den]
theorem divInt_div (q r : Rat) : Rat.divInt (q.num * r.den) (q.den * r.num) = q / r := by
  rw [← Rat.divInt_mul_divInt, Rat.num_divInt_den, Rat.div_def, Rat.inv_def]
theorem ne_mul {a b : Int} (h : a ≠ 0) (h' : b ≠ 0) : a * b ≠ 0 := Int.mul_ne_zero h h'
theorem len2 (a b : D) (st : Sto) : bLen [.tup [a, b]] st = .ok (.int 2) st := rfl
/-! ### sizes of sums and products -/
theorem SmQ.add {n m : Nat} {q r : Rat} (hq : SmQ n q) (hr : SmQ m r) : SmQ (n + m + 1) (q + r) := by
  rw [← divInt_add]
  refine SmQ.divInt ?_ ((hq.2.mul hr.2).mono (by omega)) (ne_mul (den_ne q) (den_ne r))
  exact (hq.1.mul hr.2).add ((hr.1.mul hq.2).mono (by omega))
theorem SmQ.sub {n m : Nat} {q r : Rat} (hq : SmQ n q) (hr : SmQ m r) : SmQ (n + m + 1) (q - r) := by
  rw [← divInt_sub]
  refine SmQ.divInt ?_ ((hq.2.mul hr.2).mono (by omega)) (ne_mul (den_ne q) (den_ne r))
  exact (hq.1.mul hr.2).sub ((hr.1.mul hq.2).mono (by omega))
theorem SmQ.mul {n m : Nat} {q r : Rat} (hq : SmQ n q) (hr : SmQ m r) : SmQ (n + m) (q * r) := by
  rw [← divInt_mul]
  exact SmQ.divInt (hq.1.mul hr.1) (hq.2.mul hr.2) (ne_mul (den_ne q) (den_ne r))
theorem SmQ.div {n m : Nat} {q r : Rat} (hq : SmQ n q) (hr : SmQ m r) (h0 : r ≠ 0) : SmQ (n + m) (q / r) := by
  rw [← divInt_div]
  exact SmQ.divInt (hq.1.mul hr.2) (hq.2.mul hr.1) (ne_mul (den_ne q) fun z => h0 (Rat.num_eq_zero.mp z))
theorem ix0_fr (q : Rat) (st : Sto) : oIx (fr q) (.int 0) st = .ok (.int q.num) st := ix0 _ _ _
theorem ix1_fr (q : Rat) (st : Sto) : oIx (fr q) (.int 1) st = .ok (.int q.den) st := ix1 _ _ _ _
theorem oTup01 (st : Sto) : oTup [.int 0, .int 1] st = .ok (fr 0) st := rfl
theorem smq0 : SmQ 1 0 := ⟨by show (0 : Nat) < 2 ^ 1; decide, by show (1 : Nat) < 2 ^ 1; decide⟩
/-! ### the draws of a law -/
def kks : List Key := [.inr "cells", .inr "lefts", .inr "at", .inr "room"]
def stt (cells lefts : List Int) (a : Int) : Sto := [.lst (lefts.map .int), .dic kks [.lst (cells.map .int), .ptr 0, .int a, .int 0]]
theorem v_cells (a b c d : D) : valD kks [a, b, c, d] (.inr "cells") = some a := rfl
theorem v_lefts (a b c d : D) : valD kks [a, b, c, d] (.inr "lefts") = some b := rfl
theorem v_at (a b c d : D) : valD kks [a, b, c, d] (.inr "at") = some c := rfl
theorem p_at (a b c d e : D) : putDs kks [a, b, c, d] (.inr "at") e = [a, b, e, d] := rfl
theorem k_at : putKs kks (.inr "at") = kks := rfl
theorem x_cells (cs ls : List Int) (a : Int) (r : Sto) : oIx (.ptr 1) (.str "cells") (stt cs ls a ++ r) = .ok (.lst (cs.map .int)) (stt cs ls a ++ r) := rfl
theorem x_lefts (cs ls : List Int) (a : Int) (r : Sto) : oIx (.ptr 1) (.str "lefts") (stt cs ls a ++ r) = .ok (.ptr 0) (stt cs ls a ++ r) := rfl
theorem x_at (cs ls : List Int) (a : Int) (r : Sto) : oIx (.ptr 1) (.str "at") (stt cs ls a ++ r) = .ok (.int a) (stt cs ls a ++ r) := rfl
theorem s_at (cs ls : List Int) (a b : Int) (r : Sto) : oSet (.ptr 1) (.str "at") (.int b) (stt cs ls a ++ r) = some (stt cs ls b ++ r) := rfl
theorem atI_map (ls : List Int) (i : Nat) (h : i < ls.length) : atI (ls.map D.int) (i : Int) = some (.int ls[i]) := atI_nat (by simp [h])
theorem ixN_nat (n i : Nat) (h : i < n) : ixN n (i : Int) = some i := by unfold ixN; simp; omega
theorem x_left (cs ls : List Int) (a : Int) (r : Sto) (i : Nat) (h : i < ls.length) : oIx (.ptr 0) (.int i) (stt cs ls a ++ r) = .ok (.int ls[i]) (stt cs ls a ++ r) := by
  have : oIx (.ptr 0) (.int i) (stt cs ls a ++ r) = (match atI (ls.map D.int) (i : Int) with
        | some d => .ok d (stt cs ls a ++ r)
        | none => .bad) := rfl
  rw [this, atI_map ls i h]
theorem x_cell (cs : List Int) (st : Sto) (i : Nat) (h : i < cs.length) : oIx (.lst (cs.map .int)) (.int i) st = .ok (.int cs[i]) st := by
  simp only [oIx, atI_map cs i h]
theorem s_left (cs ls : List Int) (a b : Int) (r : Sto) (i : Nat) (h : i < ls.length) : oSet (.ptr 0) (.int i) (.int b) (stt cs ls a ++ r) = some (stt cs (ls.set i b) a ++ r) := by
  have : oSet (.ptr 0) (.int i) (.int b) (stt cs ls a ++ r) = (ixN (ls.map D.int).length (i : Int)).map fun j => (stt cs ls a ++ r).set 0 (.lst ((ls.map D.int).set j (.int b))) := rfl
  rw [this, ixN_nat _ i (by simpa using h)]
  simp [stt, List.map_set]
theorem b_len (cs : List Int) (st : Sto) : bLen [.lst (cs.map .int)] st = .ok (.int cs.length) st := by simp [bLen, lenD]
def mixI (c k : Int) : Int := (c % 2147483647 * (48271 + 2 * k * k) + 69621 * k + 11) % 2147483647 * 69621 % 2147483629
theorem Sm.mod {n : Nat} (i : Int) {j : Int} (h : 0 < j) (hs : Sm n j) : Sm n (i % j) := by
  have h1 := Int.emod_nonneg i (show j ≠ 0 by omega)
  have h2 := Int.emod_lt_of_pos i h
  unfold Sm at *
  omega
theorem mixI_sm (c k : Int) : Sm 31 (mixI c k) := Sm.mod _ (by decide) (by decide)
def Dr (cs : List Int) (a : Nat) (st r : Sto) : Prop := cs ≠ [] ∧ ∃ ls, ls.length = cs.length ∧ st = stt cs ls a ++ r
theorem toPys_ints : ∀ ns : List Int, toPys (ns.map D.int) = some (ns.map PyData.int)
  | [] => rfl
  | n :: ns => by simp only [List.map_cons, toPys, toPy, toPys_ints ns]
theorem can_ints : ∀ ns : List Int, PyData.canLayAll0 (ns.map PyData.int) = true
  | [] => rfl
  | n :: ns => by rw [List.map_cons, PyData.canLayAll0, can_ints ns]; rfl
theorem depth_ints : ∀ ns : List Int, PyData.depthAll (ns.map PyData.int) = 0
  | [] => rfl
  | n :: ns => by rw [List.map_cons, PyData.depthAll, depth_ints ns]; rfl
theorem oNe_nil (ns : List Int) (st : Sto) : oNe (.fls (ns.map .int)) (.lst []) st = .ok (.bl (!ns.isEmpty)) st := by
  have h1 : toPy (deref (.fls (ns.map D.int)) st) = some (.list (ns.map PyData.int)) := by simp only [deref, toPy, toPys_ints, Option.map_some]
  have h2 : toPy (deref (.lst []) st) = some (.list []) := rfl
  have h3 : SeqAt.shaped (.list (ns.map PyData.int)) = true := by
    unfold SeqAt.shaped
    rw [PyData.canLay0, can_ints, PyData.depth, depth_ints]; rfl
  have h4 : SeqAt.shaped (.list []) = true := rfl
  unfold oNe
  rw [h1, h2]
  simp only [h3, h4, and_self, if_true]
  cases ns <;> rfl
end DL

namespace K01
open PySem PySem.Spec L2 DL
open PyProof.Rows hiding St

def topS (i : Nat) : Stmt := PySem.Challenge.pw_curtainsteps_k01_whole_ratios.main.body.getD i (.Pass ⟨0, 0, 0, 0⟩)
def c_NOUGHT : D := .tup [.int 0, .int 1]
abbrev s__law_begin : Stmt := topS 24
abbrev n__law_begin : List Str := ["script", "cells", "cell"]
abbrev s__law_ratio : Stmt := topS 26
abbrev n__law_ratio : List Str := ["top", "bottom", "one", "other"]
abbrev s__law_mixed : Stmt := topS 23
abbrev n__law_mixed : List Str := ["cell", "k"]
abbrev s__law_draw : Stmt := topS 25
abbrev n__law_draw : List Str := ["state", "many", "at", "place", "left", "number"]
abbrev s__law_drawn : Stmt := topS 33
abbrev n__law_drawn : List Str := ["state"]
abbrev s_common : Stmt := topS 7
abbrev n_common : List Str := ["one", "other"]
abbrev s_is_integer : Stmt := topS 6
abbrev n_is_integer : List Str := ["thing"]
abbrev s_is_fraction : Stmt := topS 9
abbrev n_is_fraction : List Str := ["thing", "one"]
abbrev s_need_fraction : Stmt := topS 15
abbrev n_need_fraction : List Str := ["thing"]
abbrev s_made : Stmt := topS 8
abbrev n_made : List Str := ["top", "bottom", "divisor"]
abbrev s_add : Stmt := topS 10
abbrev n_add : List Str := ["one", "other"]
abbrev s_plus : Stmt := topS 17
abbrev n_plus : List Str := ["one", "other"]
abbrev s__law_plus : Stmt := topS 27
abbrev n__law_plus : List Str := ["one", "other"]
abbrev s_sub : Stmt := topS 11
abbrev n_sub : List Str := ["one", "other"]
abbrev s_less : Stmt := topS 18
abbrev n_less : List Str := ["one", "other"]
abbrev s__law_less : Stmt := topS 28
abbrev n__law_less : List Str := ["one", "other"]
abbrev s_mul : Stmt := topS 12
abbrev n_mul : List Str := ["one", "other"]
abbrev s_times : Stmt := topS 19
abbrev n_times : List Str := ["one", "other"]
abbrev s__law_times : Stmt := topS 29
abbrev n__law_times : List Str := ["one", "other"]
abbrev s_is_under : Stmt := topS 14
abbrev n_is_under : List Str := ["one", "other"]
abbrev s_is_less : Stmt := topS 21
abbrev n_is_less : List Str := ["one", "other"]
abbrev s__law_under : Stmt := topS 31
abbrev n__law_under : List Str := ["one", "other"]
abbrev s_div : Stmt := topS 13
abbrev n_div : List Str := ["one", "other"]
abbrev s_over : Stmt := topS 20
abbrev n_over : List Str := ["one", "other"]
abbrev s__law_pair_right : Stmt := topS 34
abbrev n__law_pair_right : List Str := ["one", "other", "due"]
abbrev s_ratio : Stmt := topS 16
abbrev n_ratio : List Str := ["top", "bottom"]
abbrev s_law : Stmt := topS 35
abbrev n_law : List Str := ["script", "state", "turn", "one", "other", "top", "bottom"]
/-- what the top has left -/
structure Top (G : Cg) : Prop where
  d__law_begin : DefIn G "_law_begin" s__law_begin ["script"]
  d__law_ratio : DefIn G "_law_ratio" s__law_ratio ["top", "bottom"]
  d__law_mixed : DefIn G "_law_mixed" s__law_mixed ["cell", "k"]
  d__law_draw : DefIn G "_law_draw" s__law_draw ["state", "many"]
  d__law_drawn : DefIn G "_law_drawn" s__law_drawn ["state"]
  d_common : DefIn G "common" s_common ["one", "other"]
  d_is_integer : DefIn G "is_integer" s_is_integer ["thing"]
  d_is_fraction : DefIn G "is_fraction" s_is_fraction ["thing"]
  d_need_fraction : DefIn G "need_fraction" s_need_fraction ["thing"]
  d_made : DefIn G "made" s_made ["top", "bottom"]
  d_add : DefIn G "add" s_add ["one", "other"]
  d_plus : DefIn G "plus" s_plus ["one", "other"]
  d__law_plus : DefIn G "_law_plus" s__law_plus ["one", "other"]
  d_sub : DefIn G "sub" s_sub ["one", "other"]
  d_less : DefIn G "less" s_less ["one", "other"]
  d__law_less : DefIn G "_law_less" s__law_less ["one", "other"]
  d_mul : DefIn G "mul" s_mul ["one", "other"]
  d_times : DefIn G "times" s_times ["one", "other"]
  d__law_times : DefIn G "_law_times" s__law_times ["one", "other"]
  d_is_under : DefIn G "is_under" s_is_under ["one", "other"]
  d_is_less : DefIn G "is_less" s_is_less ["one", "other"]
  d__law_under : DefIn G "_law_under" s__law_under ["one", "other"]
  d_div : DefIn G "div" s_div ["one", "other"]
  d_over : DefIn G "over" s_over ["one", "other"]
  d__law_pair_right : DefIn G "_law_pair_right" s__law_pair_right ["one", "other"]
  d_ratio : DefIn G "ratio" s_ratio ["top", "bottom"]
  d_law : DefIn G "law" s_law ["script"]
  z_abs : G.mg "abs" = none
  z_all : G.mg "all" = none
  z_bool : G.mg "bool" = none
  z_int : G.mg "int" = none
  z_isinstance : G.mg "isinstance" = none
  z_len : G.mg "len" = none
  z_list : G.mg "list" = none
  z_range : G.mg "range" = none
  z_tuple : G.mg "tuple" = none
  c_NOUGHT : GCon G "NOUGHT" c_NOUGHT
/-! _law_begin -/
theorem sc__law_begin : FnScope n__law_begin ["script"] (defScope s__law_begin) := ⟨rfl, rfl, rfl, by decide +kernel, rfl, by decide +kernel, by decide +kernel⟩
def E__law_begin_0 : Den := dIf (dTst (dOp2 oGe (dVar 2) (dOp2 oPow (dC (.int 10)) (dC (.int 18))))) (dVar 2) (dC (.int 0))
def T__law_begin : DenS := sSeq (sSet 1 (dIf (dTst (dOp2 oNe (dVar 0) (dCall oLst []))) (dCall bList [dVar 0]) (dCall oLst [dC (.int 0)]))) (sRet (dDicP [(dC (.str "cells"), dVar 1), (dC (.str "lefts"), dLcP (dItL (dVar 1)) (.nm 2) (dYes) (E__law_begin_0) [2]), (dC (.str "at"), dC (.int 0)), (dC (.str "room"), dC (.int 0))]))
def R__law_begin : List D → Sto → Out D := dFn 3 T__law_begin
theorem b__law_begin {P : Program} {w : World} {G : Cg} {base : Heap} (T : Top G) : ∀ (X : Cx) (W : WX), Ok X W 0 → (∃ f cdv A outer s H E, X = cxOf (L2.CX P w) P w G.K G.mg base n__law_begin "_law_begin" (defScope s__law_begin) f cdv A outer s H E) → PBv X W (defBody s__law_begin) T__law_begin := by
  rintro X W o ⟨f, cdv, A, outer, s, H, E, rfl⟩
  exact pbv_cons (psv_set o 1 (pev_if (ptv_ne o (pev_var 0) (pev_lst (pav_nil))) (pev_list T.z_list (pav_cons (pev_var 0) (pav_nil))) (pev_lst (pav_cons (pev_int) (pav_nil))))) (pbv_one (psv_ret (pev_dicP (ppv_cons (pev_str) (pev_var 1) (ppv_cons (pev_str) (pev_lcP o [("cell", 2)] (piv_lst (pev_var 1)) (blkOk_by (N := n__law_begin) (sc := defScope s__law_begin) (by decide +kernel)) (fun s H C cl fp => pgv_name sc__law_begin.nd 2) (fun s H C cl fp o => ptsv_nil) (fun s H C cl fp o => pev_if (ptv_ge (pev_var 2) (pev_pow (pev_int) (pev_int))) (pev_var 2) (pev_int))) (ppv_cons (pev_str) (pev_int) (ppv_cons (pev_str) (pev_int) (ppv_nil))))))))
theorem raw__law_begin {P : Program} {w : World} {G : Cg} {base : Heap} (T : Top G) : Fn P w G base "_law_begin" 1 1 R__law_begin := fn_raw (N := n__law_begin) T.d__law_begin sc__law_begin (b__law_begin T)

abbrev F__law_begin := R__law_begin
theorem fn__law_begin {P : Program} {w : World} {G : Cg} {base : Heap} (T : Top G) : Fn P w G base "_law_begin" 1 1 F__law_begin := raw__law_begin T

theorem lefts_go (st : Sto) (env : En) (he : env.length = 3) : ∀ (ds : List Int) (acc : List D), acc.length + ds.length < 1000 → ∃ ls : List Int, ls.length = ds.length ∧ lcGo (.nm 2) dYes E__law_begin_0 env (ds.map .int) st acc = .ok (acc ++ ls.map .int) st
  | [], acc, _ => ⟨[], rfl, by simp [lcGo]⟩
  | d :: ds, acc, h => by
    obtain ⟨e0, e1, e2, rfl⟩ : ∃ a b c, env = [a, b, c] := by
      match env, he with
      | [a, b, c], _ => exact ⟨a, b, c, rfl⟩
    have p18 : ∀ st, oPow (.int 10) (.int 18) st = .ok (.int (10 ^ 18)) st := fun _ => rfl
    have hz : acc.length < sizeLine := by rw [sizeLine_eq]; simp at h; omega
    simp at h
    by_cases hd : (10 : Int) ^ 18 ≤ d
    · obtain ⟨ls, h1, h2⟩ := lefts_go st [e0, e1, e2] he ds (acc ++ [.int d]) (by simp; omega)
      refine ⟨d :: ls, by simp [h1], ?_⟩
      have hx : E__law_begin_0 [e0, e1, some (.int d)] st = .ok (.int d) st := by simp only [E__law_begin_0, dFn, sSeq, sSet, sPar, sRet, sRetN, sIf, sNil, sExpr, evL, dCall, dCallF, dVar, dC, dOp1, dOp2, dTst, dTru, tru, dNotT, dAndT, dOrT, dAndV, dOrV, dNotV, dIf, List.map_cons, List.map_nil, List.length_cons, List.length_nil, Nat.sub_self, Nat.reduceAdd, Nat.reduceSub, List.replicate_zero, List.reduceReplicate, List.append_nil, List.cons_append, List.nil_append, List.getElem?_cons_succ, List.getElem?_cons_zero, Out.bind_ok, Out.to_ok, List.set_cons_zero, List.set_cons_succ, if_true, if_false, Bool.not_false, Bool.not_true, Bool.false_eq_true, Bool.true_eq_false, reduceIte, if_pos, p18, oCmp, hd, decide_true]
      simp only [List.map_cons, lcGo, Pat.set, dYes, List.set_cons_succ, List.set_cons_zero, hx, hz, if_true, h2]
      simp
    · obtain ⟨ls, h1, h2⟩ := lefts_go st [e0, e1, e2] he ds (acc ++ [.int 0]) (by simp; omega)
      refine ⟨0 :: ls, by simp [h1], ?_⟩
      have hx : E__law_begin_0 [e0, e1, some (.int d)] st = .ok (.int 0) st := by simp only [E__law_begin_0, dFn, sSeq, sSet, sPar, sRet, sRetN, sIf, sNil, sExpr, evL, dCall, dCallF, dVar, dC, dOp1, dOp2, dTst, dTru, tru, dNotT, dAndT, dOrT, dAndV, dOrV, dNotV, dIf, List.map_cons, List.map_nil, List.length_cons, List.length_nil, Nat.sub_self, Nat.reduceAdd, Nat.reduceSub, List.replicate_zero, List.reduceReplicate, List.append_nil, List.cons_append, List.nil_append, List.getElem?_cons_succ, List.getElem?_cons_zero, Out.bind_ok, Out.to_ok, List.set_cons_zero, List.set_cons_succ, if_true, if_false, Bool.not_false, Bool.not_true, Bool.false_eq_true, Bool.true_eq_false, reduceIte, if_pos, p18, oCmp, hd, decide_false]
      simp only [List.map_cons, lcGo, Pat.set, dYes, List.set_cons_succ, List.set_cons_zero, hx, hz, if_true, h2]
      simp
theorem ev_law_begin (ns : List Int) (hl : ns.length ≤ 63) : ∃ cs st, Dr cs 0 st [] ∧ F__law_begin [.fls (ns.map .int)] [] = .ok (.ptr 1) st := by
  by_cases hn : ns = []
  · subst hn
    exact ⟨[0], _, ⟨by simp, [0], rfl, rfl⟩, rfl⟩
  · obtain ⟨ls, h1, h2⟩ := lefts_go [] [some (.fls (ns.map .int)), some (.lst (ns.map .int)), none] rfl ns [] (by simp; omega)
    refine ⟨ns, stt ns ls 0 ++ [], ⟨hn, ls, h1, rfl⟩, ?_⟩
    have hw : wipeE [some (D.fls (ns.map .int)), some (.lst (ns.map .int)), none] [2] = [some (.fls (ns.map .int)), some (.lst (ns.map .int)), none] := rfl
    have hlst : ∀ st, bList [.fls (ns.map .int)] st = .ok (.lst (ns.map .int)) st := fun _ => rfl
    have hnil : ∀ st, oLst [] st = .ok (.lst []) st := fun _ => rfl
    have hmk : ∀ a b c d, mkDic [(.str "cells", a), (.str "lefts", b), (.str "at", c), (.str "room", d)] [] [] = some (kks, [a, b, c, d]) := fun _ _ _ _ => rfl
    have hemp : ns.isEmpty = false := by simpa using hn
    have h15 : (4 : Nat) ≤ 15 := by decide
    simp only [R__law_begin, T__law_begin, dFn, sSeq, sSet, sPar, sRet, sRetN, sIf, sNil, sExpr, evL, dCall, dCallF, dVar, dC, dOp1, dOp2, dTst, dTru, tru, dNotT, dAndT, dOrT, dAndV, dOrV, dNotV, dIf, List.map_cons, List.map_nil, List.length_cons, List.length_nil, Nat.sub_self, Nat.reduceAdd, Nat.reduceSub, List.replicate_zero, List.reduceReplicate, List.append_nil, List.cons_append, List.nil_append, List.getElem?_cons_succ, List.getElem?_cons_zero, Out.bind_ok, Out.to_ok, List.set_cons_zero, List.set_cons_succ, if_true, if_false, Bool.not_false, Bool.not_true, Bool.false_eq_true, Bool.true_eq_false, reduceIte, if_pos, hnil, oNe_nil, hemp, hlst, dDicP, evP, dLcP, dItL, hw, h2, hmk, h15]
    rfl

/-! _law_ratio -/
theorem sc__law_ratio : FnScope n__law_ratio ["top", "bottom"] (defScope s__law_ratio) := ⟨rfl, rfl, rfl, by decide +kernel, rfl, by decide +kernel, by decide +kernel⟩
def C__law_ratio_0 : DenT := dTst (dOp2 oNe (dVar 3) (dC (.int 0)))
def B__law_ratio_0 : DenS := sPar 2 3 [dVar 3, dOp2 oMod (dCall bInt [dVar 2]) (dVar 3)]
def T__law_ratio : DenS := sSeq (sPar 2 3 [dCall bAbs [dVar 0], dVar 1]) (sSeq (sWhile (fuI 3) (C__law_ratio_0) (B__law_ratio_0)) (sRet (dCall oTup [dOp2 oFdiv (dVar 0) (dVar 2), dOp2 oFdiv (dVar 1) (dVar 2)])))
def R__law_ratio : List D → Sto → Out D := dFn 4 T__law_ratio
theorem b__law_ratio {P : Program} {w : World} {G : Cg} {base : Heap} (T : Top G) : ∀ (X : Cx) (W : WX), Ok X W 0 → (∃ f cdv A outer s H E, X = cxOf (L2.CX P w) P w G.K G.mg base n__law_ratio "_law_ratio" (defScope s__law_ratio) f cdv A outer s H E) → PBv X W (defBody s__law_ratio) T__law_ratio := by
  rintro X W o ⟨f, cdv, A, outer, s, H, E, rfl⟩
  exact pbv_cons (psv_par o 2 3 (pav_cons (pev_abs T.z_abs (pav_cons (pev_var 0) (pav_nil))) (pav_cons (pev_var 1) (pav_nil)))) (pbv_cons (psv_while o (fuI 3) (ptv_ne o (pev_var 3) (pev_int)) (pbv_one (psv_par o 2 3 (pav_cons (pev_var 3) (pav_cons (pev_mod (pev_intc T.z_int (pav_cons (pev_var 2) (pav_nil))) (pev_var 3)) (pav_nil)))))) (pbv_one (psv_ret (pev_tup (pav_cons (pev_fdiv (pev_var 0) (pev_var 2)) (pav_cons (pev_fdiv (pev_var 1) (pev_var 2)) (pav_nil)))))))
theorem raw__law_ratio {P : Program} {w : World} {G : Cg} {base : Heap} (T : Top G) : Fn P w G base "_law_ratio" 1 2 R__law_ratio := fn_raw (N := n__law_ratio) T.d__law_ratio sc__law_ratio (b__law_ratio T)

abbrev F__law_ratio := R__law_ratio
theorem fn__law_ratio {P : Program} {w : World} {G : Cg} {base : Heap} (T : Top G) : Fn P w G base "_law_ratio" 1 2 F__law_ratio := raw__law_ratio T

theorem law_ratio_loop (st : Sto) (u v : Option D) : ∀ (n x y : Nat), y < n → wLoop C__law_ratio_0 B__law_ratio_0 n [u, v, some (.int x), some (.int y)] st = some (.nx [u, v, some (.int (Nat.gcd x y)), some (.int 0)], st)
  | 0, x, y, h => by omega
  | n + 1, x, y, h => by
    rw [wLoop]
    cases y with
    | zero => simp [C__law_ratio_0, dTst, dOp2, dVar, dC, oNe_int]
    | succ y =>
      have e : ((x : Int) % ((y + 1 : Nat) : Int)) = ((x % (y + 1) : Nat) : Int) := by omega
      have hp : (0 : Int) < ((y + 1 : Nat) : Int) := by omega
      have hn : (((y + 1 : Nat) : Int) == 0) = false := by simp; omega
      have hc : C__law_ratio_0 [u, v, some (.int x), some (.int ((y + 1 : Nat) : Int))] st = .ok true st := by simp only [C__law_ratio_0, dFn, sSeq, sSet, sPar, sRet, sRetN, sIf, sNil, sExpr, evL, dCall, dCallF, dVar, dC, dOp1, dOp2, dTst, dTru, tru, dNotT, dAndT, dOrT, dAndV, dOrV, dNotV, dIf, List.map_cons, List.map_nil, List.length_cons, List.length_nil, Nat.sub_self, Nat.reduceAdd, Nat.reduceSub, List.replicate_zero, List.reduceReplicate, List.append_nil, List.cons_append, List.nil_append, List.getElem?_cons_succ, List.getElem?_cons_zero, Out.bind_ok, Out.to_ok, List.set_cons_zero, List.set_cons_succ, if_true, if_false, Bool.not_false, Bool.not_true, Bool.false_eq_true, Bool.true_eq_false, reduceIte, if_pos, oNe_int, hn]
      have hb : B__law_ratio_0 [u, v, some (.int x), some (.int ((y + 1 : Nat) : Int))] st = some (.nx [u, v, some (.int ((y + 1 : Nat) : Int)), some (.int ((x % (y + 1) : Nat) : Int))], st) := by simp only [B__law_ratio_0, dFn, sSeq, sSet, sPar, sRet, sRetN, sIf, sNil, sExpr, evL, dCall, dCallF, dVar, dC, dOp1, dOp2, dTst, dTru, tru, dNotT, dAndT, dOrT, dAndV, dOrV, dNotV, dIf, List.map_cons, List.map_nil, List.length_cons, List.length_nil, Nat.sub_self, Nat.reduceAdd, Nat.reduceSub, List.replicate_zero, List.reduceReplicate, List.append_nil, List.cons_append, List.nil_append, List.getElem?_cons_succ, List.getElem?_cons_zero, Out.bind_ok, Out.to_ok, List.set_cons_zero, List.set_cons_succ, if_true, if_false, Bool.not_false, Bool.not_true, Bool.false_eq_true, Bool.true_eq_false, reduceIte, if_pos, bInt, oMod_pos hp, e]
      simp only [hc, Out.to_ok, if_true, hb]
      have := Nat.mod_lt x (Nat.succ_pos y)
      rw [law_ratio_loop st u v n (y + 1) (x % (y + 1)) (Nat.lt_of_lt_of_le this (by omega))]
      rw [Nat.gcd_comm x, Nat.gcd_rec (y + 1) x, Nat.gcd_comm]
theorem ev_law_ratio {n : Nat} (t b : Int) (st : Sto) (h : 0 < b) (hs : Sm n b) (hn : n < 9000 := by decide) : F__law_ratio [.int t, .int b] st = .ok (fr (Rat.divInt t b)) st := by
  have ha : (if t < 0 then -t else t) = ((t.natAbs : Nat) : Int) := by split <;> omega
  obtain ⟨m, rfl⟩ : ∃ m : Nat, b = m := ⟨b.toNat, by omega⟩
  simp only [R__law_ratio, T__law_ratio, dFn, sSeq, sSet, sPar, sRet, sRetN, sIf, sNil, sExpr, evL, dCall, dCallF, dVar, dC, dOp1, dOp2, dTst, dTru, tru, dNotT, dAndT, dOrT, dAndV, dOrV, dNotV, dIf, List.map_cons, List.map_nil, List.length_cons, List.length_nil, Nat.sub_self, Nat.reduceAdd, Nat.reduceSub, List.replicate_zero, List.reduceReplicate, List.append_nil, List.cons_append, List.nil_append, List.getElem?_cons_succ, List.getElem?_cons_zero, Out.bind_ok, Out.to_ok, List.set_cons_zero, List.set_cons_succ, if_true, if_false, Bool.not_false, Bool.not_true, Bool.false_eq_true, Bool.true_eq_false, reduceIte, if_pos, bAbs, ha, sWhile, fuI]
  rw [law_ratio_loop st _ _ _ _ _ (by simp)]
  have e : (Nat.gcd t.natAbs m : Int) = (Int.gcd t m : Int) := rfl
  simp only [dFn, sSeq, sSet, sPar, sRet, sRetN, sIf, sNil, sExpr, evL, dCall, dCallF, dVar, dC, dOp1, dOp2, dTst, dTru, tru, dNotT, dAndT, dOrT, dAndV, dOrV, dNotV, dIf, List.map_cons, List.map_nil, List.length_cons, List.length_nil, Nat.sub_self, Nat.reduceAdd, Nat.reduceSub, List.replicate_zero, List.reduceReplicate, List.append_nil, List.cons_append, List.nil_append, List.getElem?_cons_succ, List.getElem?_cons_zero, Out.bind_ok, Out.to_ok, List.set_cons_zero, List.set_cons_succ, if_true, if_false, Bool.not_false, Bool.not_true, Bool.false_eq_true, Bool.true_eq_false, reduceIte, if_pos, e, oFdiv_sm (gcd_pos' h) (gcd_sm (t := t) h hs) hn, oTup2]
  rw [fr_divInt t m h]

/-! _law_mixed -/
theorem sc__law_mixed : FnScope n__law_mixed ["cell", "k"] (defScope s__law_mixed) := ⟨rfl, rfl, rfl, by decide +kernel, rfl, by decide +kernel, by decide +kernel⟩
def T__law_mixed : DenS := sSeq (sSet 0 (dOp2 oMod (dCall bInt [dVar 0]) (dC (.int 2147483647)))) (sRet (dOp2 oMod (dOp2 oMul (dOp2 oMod (dOp2 oAdd (dOp2 oAdd (dOp2 oMul (dVar 0) (dOp2 oAdd (dC (.int 48271)) (dOp2 oMul (dOp2 oMul (dC (.int 2)) (dVar 1)) (dVar 1)))) (dOp2 oMul (dC (.int 69621)) (dVar 1))) (dC (.int 11))) (dC (.int 2147483647))) (dC (.int 69621))) (dC (.int 2147483629))))
def R__law_mixed : List D → Sto → Out D := dFn 2 T__law_mixed
theorem b__law_mixed {P : Program} {w : World} {G : Cg} {base : Heap} (T : Top G) : ∀ (X : Cx) (W : WX), Ok X W 0 → (∃ f cdv A outer s H E, X = cxOf (L2.CX P w) P w G.K G.mg base n__law_mixed "_law_mixed" (defScope s__law_mixed) f cdv A outer s H E) → PBv X W (defBody s__law_mixed) T__law_mixed := by
  rintro X W o ⟨f, cdv, A, outer, s, H, E, rfl⟩
  exact pbv_cons (psv_set o 0 (pev_mod (pev_intc T.z_int (pav_cons (pev_var 0) (pav_nil))) (pev_int))) (pbv_one (psv_ret (pev_mod (pev_mul (pev_mod (pev_add (pev_add (pev_mul (pev_var 0) (pev_add (pev_int) (pev_mul (pev_mul (pev_int) (pev_var 1)) (pev_var 1)))) (pev_mul (pev_int) (pev_var 1))) (pev_int)) (pev_int)) (pev_int)) (pev_int))))
theorem raw__law_mixed {P : Program} {w : World} {G : Cg} {base : Heap} (T : Top G) : Fn P w G base "_law_mixed" 1 2 R__law_mixed := fn_raw (N := n__law_mixed) T.d__law_mixed sc__law_mixed (b__law_mixed T)

abbrev F__law_mixed := R__law_mixed
theorem fn__law_mixed {P : Program} {w : World} {G : Cg} {base : Heap} (T : Top G) : Fn P w G base "_law_mixed" 1 2 F__law_mixed := raw__law_mixed T

theorem ev_law_mixed (c k : Int) (st : Sto) (hk : Sm 64 k) : F__law_mixed [.int c, .int k] st = .ok (.int (mixI c k)) st := by
  have h1 : Sm 31 (c % 2147483647) := Sm.mod c (by decide) (by decide)
  have h2 : Sm 66 (2 * k) := (show Sm 2 2 by decide).mul hk
  have h3 : Sm 130 (2 * k * k) := h2.mul hk
  have h4 : Sm 131 (48271 + 2 * k * k) := ((show Sm 17 48271 by decide).mono (by decide)).add h3
  have h5 : Sm 31 ((c % 2147483647 * (48271 + 2 * k * k) + 69621 * k + 11) % 2147483647) := Sm.mod _ (by decide) (by decide)
  simp only [R__law_mixed, T__law_mixed, dFn, sSeq, sSet, sPar, sRet, sRetN, sIf, sNil, sExpr, evL, dCall, dCallF, dVar, dC, dOp1, dOp2, dTst, dTru, tru, dNotT, dAndT, dOrT, dAndV, dOrV, dNotV, dIf, List.map_cons, List.map_nil, List.length_cons, List.length_nil, Nat.sub_self, Nat.reduceAdd, Nat.reduceSub, List.replicate_zero, List.reduceReplicate, List.append_nil, List.cons_append, List.nil_append, List.getElem?_cons_succ, List.getElem?_cons_zero, Out.bind_ok, Out.to_ok, List.set_cons_zero, List.set_cons_succ, if_true, if_false, Bool.not_false, Bool.not_true, Bool.false_eq_true, Bool.true_eq_false, reduceIte, if_pos, bInt, oMod_pos (show (0 : Int) < 2147483647 by decide), oMod_pos (show (0 : Int) < 2147483629 by decide), oMul_sm (show Sm 2 2 by decide) hk, oMul_sm h2 hk, oAdd, oMul_sm h1 h4, oMul_sm (show Sm 17 69621 by decide) hk, oMul_sm h5 (show Sm 17 69621 by decide)]
  rfl

/-! _law_draw -/
theorem sc__law_draw : FnScope n__law_draw ["state", "many"] (defScope s__law_draw) := ⟨rfl, rfl, rfl, by decide +kernel, rfl, by decide +kernel, by decide +kernel⟩
def T__law_draw : DenS := sSeq (sSet 2 (dOp2 oIx (dVar 0) (dC (.str "at")))) (sSeq (sStore (dVar 0) (dC (.str "at")) (dOp2 oAdd (dVar 2) (dC (.int 1)))) (sSeq (sSet 3 (dOp2 oMod (dCall bInt [dVar 2]) (dCall bLen [dOp2 oIx (dVar 0) (dC (.str "cells"))]))) (sSeq (sSet 4 (dOp2 oIx (dOp2 oIx (dVar 0) (dC (.str "lefts"))) (dVar 3))) (sSeq (sIf (dTst (dOp2 oGt (dVar 4) (dC (.int 0)))) (sSeq (sStore (dOp2 oIx (dVar 0) (dC (.str "lefts"))) (dVar 3) (dOp2 oFdiv (dVar 4) (dVar 1))) (sRet (dOp2 oMod (dCall bInt [dVar 4]) (dVar 1)))) (sNil)) (sSeq (sSet 5 (dCallF 2 F__law_mixed [dCallF 2 F__law_mixed [dOp2 oIx (dOp2 oIx (dVar 0) (dC (.str "cells"))) (dVar 3), dVar 2], dOp2 oAdd (dC (.int 40)) (dVar 2)])) (sRet (dOp2 oMod (dOp2 oFdiv (dCall bInt [dOp2 oAdd (dOp2 oMul (dVar 5) (dC (.int 2147483647))) (dCallF 2 F__law_mixed [dVar 5, dOp2 oAdd (dC (.int 7)) (dVar 2)])]) (dC (.int 64))) (dVar 1))))))))
def R__law_draw : List D → Sto → Out D := dFn 6 T__law_draw
theorem b__law_draw {P : Program} {w : World} {G : Cg} {base : Heap} (T : Top G) : ∀ (X : Cx) (W : WX), Ok X W 1 → (∃ f cdv A outer s H E, X = cxOf (L2.CX P w) P w G.K G.mg base n__law_draw "_law_draw" (defScope s__law_draw) f cdv A outer s H E) → PBv X W (defBody s__law_draw) T__law_draw := by
  rintro X W o ⟨f, cdv, A, outer, s, H, E, rfl⟩
  exact pbv_cons (psv_set o 2 (pev_sub_ o (pev_var 0) (pev_str))) (pbv_cons (psv_store o (pev_var 0) (pev_str) (pev_add (pev_var 2) (pev_int))) (pbv_cons (psv_set o 3 (pev_mod (pev_intc T.z_int (pav_cons (pev_var 2) (pav_nil))) (pev_len T.z_len (pav_cons (pev_sub_ o (pev_var 0) (pev_str)) (pav_nil))))) (pbv_cons (psv_set o 4 (pev_sub_ o (pev_sub_ o (pev_var 0) (pev_str)) (pev_var 3))) (pbv_cons (psv_if (ptv_gt (pev_var 4) (pev_int)) (pbv_cons (psv_store o (pev_sub_ o (pev_var 0) (pev_str)) (pev_var 3) (pev_fdiv (pev_var 4) (pev_var 1))) (pbv_one (psv_ret (pev_mod (pev_intc T.z_int (pav_cons (pev_var 4) (pav_nil))) (pev_var 1))))) (pbv_nil)) (pbv_cons (psv_set o 5 (pev_call o (fn__law_mixed T) (by decide) (pav_cons (pev_call o (fn__law_mixed T) (by decide) (pav_cons (pev_sub_ o (pev_sub_ o (pev_var 0) (pev_str)) (pev_var 3)) (pav_cons (pev_var 2) (pav_nil)))) (pav_cons (pev_add (pev_int) (pev_var 2)) (pav_nil))))) (pbv_one (psv_ret (pev_mod (pev_fdiv (pev_intc T.z_int (pav_cons (pev_add (pev_mul (pev_var 5) (pev_int)) (pev_call o (fn__law_mixed T) (by decide) (pav_cons (pev_var 5) (pav_cons (pev_add (pev_int) (pev_var 2)) (pav_nil))))) (pav_nil))) (pev_int)) (pev_var 1)))))))))
theorem raw__law_draw {P : Program} {w : World} {G : Cg} {base : Heap} (T : Top G) : Fn P w G base "_law_draw" 2 2 R__law_draw := fn_raw (N := n__law_draw) T.d__law_draw sc__law_draw (b__law_draw T)

abbrev F__law_draw := R__law_draw
theorem fn__law_draw {P : Program} {w : World} {G : Cg} {base : Heap} (T : Top G) : Fn P w G base "_law_draw" 2 2 F__law_draw := raw__law_draw T

theorem ev_law_draw {cs ls : List Int} {a : Nat} {m : Int} {r : Sto} (h0 : cs ≠ []) (hl : ls.length = cs.length) (ha : Sm 60 a) (hm : 0 < m) (hs : Sm 100 m) :
    ∃ (x : Int) (ls' : List Int), 0 ≤ x ∧ x < m ∧ ls'.length = cs.length ∧ F__law_draw [.ptr 1, .int m] (stt cs ls a ++ r) = .ok (.int x) (stt cs ls' ((a + 1 : Nat) : Int) ++ r) := by
  have hc : 0 < cs.length := List.length_pos_iff.mpr h0
  have hc' : (0 : Int) < (cs.length : Int) := by omega
  have hi : a % cs.length < cs.length := Nat.mod_lt _ hc
  have hi' : a % cs.length < ls.length := by omega
  have e1 : (a : Int) % (cs.length : Int) = ((a % cs.length : Nat) : Int) := by omega
  have e2 : (a : Int) + 1 = ((a + 1 : Nat) : Int) := by omega
  by_cases hp : 0 < ls[a % cs.length]
  · refine ⟨ls[a % cs.length] % m, ls.set (a % cs.length) (ls[a % cs.length] / m), Int.emod_nonneg _ (by omega), Int.emod_lt_of_pos _ hm, by simpa using hl, ?_⟩
    simp only [R__law_draw, T__law_draw, dFn, sSeq, sSet, sPar, sRet, sRetN, sIf, sNil, sExpr, evL, dCall, dCallF, dVar, dC, dOp1, dOp2, dTst, dTru, tru, dNotT, dAndT, dOrT, dAndV, dOrV, dNotV, dIf, List.map_cons, List.map_nil, List.length_cons, List.length_nil, Nat.sub_self, Nat.reduceAdd, Nat.reduceSub, List.replicate_zero, List.reduceReplicate, List.append_nil, List.cons_append, List.nil_append, List.getElem?_cons_succ, List.getElem?_cons_zero, Out.bind_ok, Out.to_ok, List.set_cons_zero, List.set_cons_succ, if_true, if_false, Bool.not_false, Bool.not_true, Bool.false_eq_true, Bool.true_eq_false, reduceIte, if_pos, sStore, x_at, oAdd, s_at, Option.map_some, bInt, x_cells, b_len, oMod_pos hc', e1, e2, x_lefts, x_left _ _ _ _ _ hi', oCmp, hp, decide_true, oFdiv_sm hm hs, s_left _ _ _ _ _ _ hi', oMod_pos hm]
  · have k1 : Sm 64 (a : Int) := ha.mono (by decide)
    have k2 : Sm 64 (40 + (a : Int)) := (((show Sm 60 40 by decide)).add ha).mono (by decide)
    have k3 : Sm 64 (7 + (a : Int)) := (((show Sm 60 7 by decide)).add ha).mono (by decide)
    refine ⟨(mixI (mixI cs[a % cs.length] a) (40 + a) * 2147483647 + mixI (mixI (mixI cs[a % cs.length] a) (40 + a)) (7 + a)) / 64 % m, ls, Int.emod_nonneg _ (by omega), Int.emod_lt_of_pos _ hm, hl, ?_⟩
    simp only [R__law_draw, T__law_draw, dFn, sSeq, sSet, sPar, sRet, sRetN, sIf, sNil, sExpr, evL, dCall, dCallF, dVar, dC, dOp1, dOp2, dTst, dTru, tru, dNotT, dAndT, dOrT, dAndV, dOrV, dNotV, dIf, List.map_cons, List.map_nil, List.length_cons, List.length_nil, Nat.sub_self, Nat.reduceAdd, Nat.reduceSub, List.replicate_zero, List.reduceReplicate, List.append_nil, List.cons_append, List.nil_append, List.getElem?_cons_succ, List.getElem?_cons_zero, Out.bind_ok, Out.to_ok, List.set_cons_zero, List.set_cons_succ, if_true, if_false, Bool.not_false, Bool.not_true, Bool.false_eq_true, Bool.true_eq_false, reduceIte, if_pos, sStore, x_at, oAdd, s_at, Option.map_some, bInt, x_cells, b_len, oMod_pos hc', e1, e2, x_lefts, x_left _ _ _ _ _ hi', oCmp, hp, decide_false, x_cell _ _ _ hi, ev_law_mixed _ _ _ k1, ev_law_mixed _ _ _ k2, ev_law_mixed _ _ _ k3, oMul_sm (mixI_sm _ _) (show Sm 31 2147483647 by decide), oFdiv_sm (show (0 : Int) < 64 by decide) (show Sm 7 64 by decide), oMod_pos hm]
theorem drw {cs : List Int} {a : Nat} {st r : Sto} (d : Dr cs a st r) (m : Int) (hm : 0 < m := by decide) (hs : Sm 100 m := by decide) (ha : a < 2 ^ 60 := by omega) :
    ∃ (x : Int) (st' : Sto), 0 ≤ x ∧ x < m ∧ Dr cs (a + 1) st' r ∧ F__law_draw [.ptr 1, .int m] st = .ok (.int x) st' := by
  obtain ⟨h0, ls, hl, rfl⟩ := d
  obtain ⟨x, ls', h1, h2, h3, h4⟩ := ev_law_draw (r := r) h0 hl (show Sm 60 a by unfold Sm; simpa using ha) hm hs
  exact ⟨x, _, h1, h2, ⟨h0, ls', h3, rfl⟩, h4⟩

/-! _law_drawn -/
theorem sc__law_drawn : FnScope n__law_drawn ["state"] (defScope s__law_drawn) := ⟨rfl, rfl, rfl, by decide +kernel, rfl, by decide +kernel, by decide +kernel⟩
def T__law_drawn : DenS := sSeq (sIf (dTst (dOp2 oGt (dCallF 2 F__law_draw [dVar 0, dC (.int 3)]) (dC (.int 0)))) (sRet (dCallF 2 F__law_ratio [dOp2 oSub (dCallF 2 F__law_draw [dVar 0, dC (.int 25)]) (dC (.int 12)), dOp2 oAdd (dC (.int 1)) (dCallF 2 F__law_draw [dVar 0, dC (.int 12)])])) (sNil)) (sRet (dCallF 2 F__law_ratio [dOp2 oSub (dCallF 2 F__law_draw [dVar 0, dOp2 oPow (dC (.int 10)) (dC (.int 20))]) (dOp2 oPow (dC (.int 10)) (dC (.int 19))), dOp2 oAdd (dC (.int 1)) (dCallF 2 F__law_draw [dVar 0, dOp2 oPow (dC (.int 10)) (dC (.int 20))])]))
def R__law_drawn : List D → Sto → Out D := dFn 1 T__law_drawn
theorem b__law_drawn {P : Program} {w : World} {G : Cg} {base : Heap} (T : Top G) : ∀ (X : Cx) (W : WX), Ok X W 2 → (∃ f cdv A outer s H E, X = cxOf (L2.CX P w) P w G.K G.mg base n__law_drawn "_law_drawn" (defScope s__law_drawn) f cdv A outer s H E) → PBv X W (defBody s__law_drawn) T__law_drawn := by
  rintro X W o ⟨f, cdv, A, outer, s, H, E, rfl⟩
  exact pbv_cons (psv_if (ptv_gt (pev_call o (fn__law_draw T) (by decide) (pav_cons (pev_var 0) (pav_cons (pev_int) (pav_nil)))) (pev_int)) (pbv_one (psv_ret (pev_call o (fn__law_ratio T) (by decide) (pav_cons (pev_sub (pev_call o (fn__law_draw T) (by decide) (pav_cons (pev_var 0) (pav_cons (pev_int) (pav_nil)))) (pev_int)) (pav_cons (pev_add (pev_int) (pev_call o (fn__law_draw T) (by decide) (pav_cons (pev_var 0) (pav_cons (pev_int) (pav_nil))))) (pav_nil)))))) (pbv_nil)) (pbv_one (psv_ret (pev_call o (fn__law_ratio T) (by decide) (pav_cons (pev_sub (pev_call o (fn__law_draw T) (by decide) (pav_cons (pev_var 0) (pav_cons (pev_pow (pev_int) (pev_int)) (pav_nil)))) (pev_pow (pev_int) (pev_int))) (pav_cons (pev_add (pev_int) (pev_call o (fn__law_draw T) (by decide) (pav_cons (pev_var 0) (pav_cons (pev_pow (pev_int) (pev_int)) (pav_nil))))) (pav_nil))))))
theorem raw__law_drawn {P : Program} {w : World} {G : Cg} {base : Heap} (T : Top G) : Fn P w G base "_law_drawn" 3 1 R__law_drawn := fn_raw (N := n__law_drawn) T.d__law_drawn sc__law_drawn (b__law_drawn T)

abbrev F__law_drawn := R__law_drawn
theorem fn__law_drawn {P : Program} {w : World} {G : Cg} {base : Heap} (T : Top G) : Fn P w G base "_law_drawn" 3 1 F__law_drawn := raw__law_drawn T

theorem ev_law_drawn {cs : List Int} {a : Nat} {st r : Sto} (d : Dr cs a st r) (ha : a < 2 ^ 50) : ∃ (q : Rat) (st' : Sto) (a' : Nat), SmQ 70 q ∧ a' ≤ a + 3 ∧ Dr cs a' st' r ∧ F__law_drawn [.ptr 1] st = .ok (fr q) st' := by
  obtain ⟨x, st1, x0, x1, d1, e1⟩ := drw d 3
  by_cases hx : 0 < x
  · obtain ⟨y, st2, y0, y1, d2, e2⟩ := drw d1 25
    obtain ⟨z, st3, z0, z1, d3, e3⟩ := drw d2 12
    have hb : 0 < 1 + z := by omega
    have s1 : Sm 70 (1 + z) := by unfold Sm; omega
    have s2 : Sm 70 (y - 12) := by unfold Sm; omega
    refine ⟨Rat.divInt (y - 12) (1 + z), st3, a + 3, SmQ.divInt s2 s1 (by omega), by omega, d3, ?_⟩
    simp only [R__law_drawn, T__law_drawn, dFn, sSeq, sSet, sPar, sRet, sRetN, sIf, sNil, sExpr, evL, dCall, dCallF, dVar, dC, dOp1, dOp2, dTst, dTru, tru, dNotT, dAndT, dOrT, dAndV, dOrV, dNotV, dIf, List.map_cons, List.map_nil, List.length_cons, List.length_nil, Nat.sub_self, Nat.reduceAdd, Nat.reduceSub, List.replicate_zero, List.reduceReplicate, List.append_nil, List.cons_append, List.nil_append, List.getElem?_cons_succ, List.getElem?_cons_zero, Out.bind_ok, Out.to_ok, List.set_cons_zero, List.set_cons_succ, if_true, if_false, Bool.not_false, Bool.not_true, Bool.false_eq_true, Bool.true_eq_false, reduceIte, if_pos, e1, oCmp, hx, decide_true, e2, oSub, e3, oAdd, ev_law_ratio _ _ _ hb s1]
  · obtain ⟨y, st2, y0, y1, d2, e2⟩ := drw d1 (10 ^ 20)
    obtain ⟨z, st3, z0, z1, d3, e3⟩ := drw d2 (10 ^ 20)
    have hb : 0 < 1 + z := by omega
    have s1 : Sm 70 (1 + z) := by unfold Sm; omega
    have s2 : Sm 70 (y - 10 ^ 19) := by unfold Sm; omega
    refine ⟨Rat.divInt (y - 10 ^ 19) (1 + z), st3, a + 3, SmQ.divInt s2 s1 (by omega), by omega, d3, ?_⟩
    have p20 : oPow (.int 10) (.int 20) st1 = .ok (.int (10 ^ 20)) st1 := rfl
    have p20' : oPow (.int 10) (.int 20) st2 = .ok (.int (10 ^ 20)) st2 := rfl
    have p19 : oPow (.int 10) (.int 19) st2 = .ok (.int (10 ^ 19)) st2 := rfl
    simp only [R__law_drawn, T__law_drawn, dFn, sSeq, sSet, sPar, sRet, sRetN, sIf, sNil, sExpr, evL, dCall, dCallF, dVar, dC, dOp1, dOp2, dTst, dTru, tru, dNotT, dAndT, dOrT, dAndV, dOrV, dNotV, dIf, List.map_cons, List.map_nil, List.length_cons, List.length_nil, Nat.sub_self, Nat.reduceAdd, Nat.reduceSub, List.replicate_zero, List.reduceReplicate, List.append_nil, List.cons_append, List.nil_append, List.getElem?_cons_succ, List.getElem?_cons_zero, Out.bind_ok, Out.to_ok, List.set_cons_zero, List.set_cons_succ, if_true, if_false, Bool.not_false, Bool.not_true, Bool.false_eq_true, Bool.true_eq_false, reduceIte, if_pos, e1, oCmp, hx, decide_false, p20, e2, p19, oSub, p20', e3, oAdd, ev_law_ratio _ _ _ hb s1]

/-! common -/
theorem sc_common : FnScope n_common ["one", "other"] (defScope s_common) := ⟨rfl, rfl, rfl, by decide +kernel, rfl, by decide +kernel, by decide +kernel⟩
def C_common_0 : DenT := dTst (dOp2 oNe (dVar 1) (dC (.int 0)))
def B_common_0 : DenS := sPar 0 1 [dVar 1, dOp2 oMod (dVar 0) (dCall bInt [dVar 1])]
def T_common : DenS := sSeq (sPar 0 1 [dCall bAbs [dVar 0], dCall bAbs [dVar 1]]) (sSeq (sWhile (fuI 1) (C_common_0) (B_common_0)) (sRet (dVar 0)))
def R_common : List D → Sto → Out D := dFn 2 T_common
theorem b_common {P : Program} {w : World} {G : Cg} {base : Heap} (T : Top G) : ∀ (X : Cx) (W : WX), Ok X W 0 → (∃ f cdv A outer s H E, X = cxOf (L2.CX P w) P w G.K G.mg base n_common "common" (defScope s_common) f cdv A outer s H E) → PBv X W (defBody s_common) T_common := by
  rintro X W o ⟨f, cdv, A, outer, s, H, E, rfl⟩
  exact pbv_cons (psv_par o 0 1 (pav_cons (pev_abs T.z_abs (pav_cons (pev_var 0) (pav_nil))) (pav_cons (pev_abs T.z_abs (pav_cons (pev_var 1) (pav_nil))) (pav_nil)))) (pbv_cons (psv_while o (fuI 1) (ptv_ne o (pev_var 1) (pev_int)) (pbv_one (psv_par o 0 1 (pav_cons (pev_var 1) (pav_cons (pev_mod (pev_var 0) (pev_intc T.z_int (pav_cons (pev_var 1) (pav_nil)))) (pav_nil)))))) (pbv_one (psv_ret (pev_var 0))))
theorem raw_common {P : Program} {w : World} {G : Cg} {base : Heap} (T : Top G) : Fn P w G base "common" 1 2 R_common := fn_raw (N := n_common) T.d_common sc_common (b_common T)

abbrev F_common := R_common
theorem fn_common {P : Program} {w : World} {G : Cg} {base : Heap} (T : Top G) : Fn P w G base "common" 1 2 F_common := raw_common T

theorem common_loop (st : Sto) : ∀ (n x y : Nat), y < n → wLoop C_common_0 B_common_0 n [some (.int x), some (.int y)] st = some (.nx [some (.int (Nat.gcd x y)), some (.int 0)], st)
  | 0, x, y, h => by omega
  | n + 1, x, y, h => by
    rw [wLoop]
    cases y with
    | zero => simp [C_common_0, dTst, dOp2, dVar, dC, oNe_int]
    | succ y =>
      have e : ((x : Int) % ((y + 1 : Nat) : Int)) = ((x % (y + 1) : Nat) : Int) := by omega
      have hp : (0 : Int) < ((y + 1 : Nat) : Int) := by omega
      have hn : (((y + 1 : Nat) : Int) == 0) = false := by simp; omega
      have hc : C_common_0 [some (.int x), some (.int ((y + 1 : Nat) : Int))] st = .ok true st := by simp only [C_common_0, dFn, sSeq, sSet, sPar, sRet, sRetN, sIf, sNil, sExpr, evL, dCall, dCallF, dVar, dC, dOp1, dOp2, dTst, dTru, tru, dNotT, dAndT, dOrT, dAndV, dOrV, dNotV, dIf, List.map_cons, List.map_nil, List.length_cons, List.length_nil, Nat.sub_self, Nat.reduceAdd, Nat.reduceSub, List.replicate_zero, List.reduceReplicate, List.append_nil, List.cons_append, List.nil_append, List.getElem?_cons_succ, List.getElem?_cons_zero, Out.bind_ok, Out.to_ok, List.set_cons_zero, List.set_cons_succ, if_true, if_false, Bool.not_false, Bool.not_true, Bool.false_eq_true, Bool.true_eq_false, reduceIte, if_pos, oNe_int, hn]
      have hb : B_common_0 [some (.int x), some (.int ((y + 1 : Nat) : Int))] st = some (.nx [some (.int ((y + 1 : Nat) : Int)), some (.int ((x % (y + 1) : Nat) : Int))], st) := by simp only [B_common_0, dFn, sSeq, sSet, sPar, sRet, sRetN, sIf, sNil, sExpr, evL, dCall, dCallF, dVar, dC, dOp1, dOp2, dTst, dTru, tru, dNotT, dAndT, dOrT, dAndV, dOrV, dNotV, dIf, List.map_cons, List.map_nil, List.length_cons, List.length_nil, Nat.sub_self, Nat.reduceAdd, Nat.reduceSub, List.replicate_zero, List.reduceReplicate, List.append_nil, List.cons_append, List.nil_append, List.getElem?_cons_succ, List.getElem?_cons_zero, Out.bind_ok, Out.to_ok, List.set_cons_zero, List.set_cons_succ, if_true, if_false, Bool.not_false, Bool.not_true, Bool.false_eq_true, Bool.true_eq_false, reduceIte, if_pos, bInt, oMod_pos hp, e]
      simp only [hc, Out.to_ok, if_true, hb]
      have := Nat.mod_lt x (Nat.succ_pos y)
      rw [common_loop st n (y + 1) (x % (y + 1)) (Nat.lt_of_lt_of_le this (by omega))]
      rw [Nat.gcd_comm x, Nat.gcd_rec (y + 1) x, Nat.gcd_comm]
theorem ev_common (a b : Int) (st : Sto) : F_common [.int a, .int b] st = .ok (.int (Int.gcd a b)) st := by
  have ha : (if a < 0 then -a else a) = ((a.natAbs : Nat) : Int) := by split <;> omega
  have hb : (if b < 0 then -b else b) = ((b.natAbs : Nat) : Int) := by split <;> omega
  simp only [R_common, T_common, dFn, sSeq, sSet, sPar, sRet, sRetN, sIf, sNil, sExpr, evL, dCall, dCallF, dVar, dC, dOp1, dOp2, dTst, dTru, tru, dNotT, dAndT, dOrT, dAndV, dOrV, dNotV, dIf, List.map_cons, List.map_nil, List.length_cons, List.length_nil, Nat.sub_self, Nat.reduceAdd, Nat.reduceSub, List.replicate_zero, List.reduceReplicate, List.append_nil, List.cons_append, List.nil_append, List.getElem?_cons_succ, List.getElem?_cons_zero, Out.bind_ok, Out.to_ok, List.set_cons_zero, List.set_cons_succ, if_true, if_false, Bool.not_false, Bool.not_true, Bool.false_eq_true, Bool.true_eq_false, reduceIte, if_pos, bAbs, ha, hb, sWhile, fuI]
  rw [common_loop st _ _ _ (by simp)]
  rfl

/-! is_integer -/
theorem sc_is_integer : FnScope n_is_integer ["thing"] (defScope s_is_integer) := ⟨rfl, rfl, rfl, by decide +kernel, rfl, by decide +kernel, by decide +kernel⟩
def T_is_integer : DenS := sRet (dAndV (dOp1 (oIsi .int) (dVar 0)) (dNotV (dOp1 (oIsi .bool) (dVar 0))))
def R_is_integer : List D → Sto → Out D := dFn 1 T_is_integer
theorem b_is_integer {P : Program} {w : World} {G : Cg} {base : Heap} (T : Top G) : ∀ (X : Cx) (W : WX), Ok X W 0 → (∃ f cdv A outer s H E, X = cxOf (L2.CX P w) P w G.K G.mg base n_is_integer "is_integer" (defScope s_is_integer) f cdv A outer s H E) → PBv X W (defBody s_is_integer) T_is_integer := by
  rintro X W o ⟨f, cdv, A, outer, s, H, E, rfl⟩
  exact pbv_one (psv_ret (pev_and (pev_isi .int T.z_isinstance T.z_int PyProof.Rows.boot_int (pev_var 0)) (pev_one (pev_not (pev_isi .bool T.z_isinstance T.z_bool PyProof.Rows.boot_bool (pev_var 0))))))
theorem raw_is_integer {P : Program} {w : World} {G : Cg} {base : Heap} (T : Top G) : Fn P w G base "is_integer" 1 1 R_is_integer := fn_raw (N := n_is_integer) T.d_is_integer sc_is_integer (b_is_integer T)

abbrev F_is_integer := R_is_integer
theorem fn_is_integer {P : Program} {w : World} {G : Cg} {base : Heap} (T : Top G) : Fn P w G base "is_integer" 1 1 F_is_integer := raw_is_integer T

theorem ev_is_integer_int (i : Int) (st : Sto) : F_is_integer [.int i] st = .ok (.bl true) st := rfl

/-! is_fraction -/
theorem sc_is_fraction : FnScope n_is_fraction ["thing"] (defScope s_is_fraction) := ⟨rfl, rfl, rfl, by decide +kernel, rfl, by decide +kernel, by decide +kernel⟩
def E_is_fraction_0 : Den := dCallF 1 F_is_integer [dVar 1]
def T_is_fraction : DenS := sSeq (sIf (dOrT (dNotT (dTru (dOp1 (oIsi .tuple) (dVar 0)))) (dOrT (dTst (dOp2 oNe (dCall bLen [dVar 0]) (dC (.int 2)))) (dNotT (dTru (dCall bAll [dLc (dItT (dVar 0)) (.nm 1) (dYes) (E_is_fraction_0) [1]]))))) (sRet (dC (.bl false))) (sNil)) (sRet (dAndV (dOp2 oGe (dOp2 oIx (dVar 0) (dC (.int 1))) (dC (.int 1))) (dOp2 oEq (dCallF 2 F_common [dOp2 oIx (dVar 0) (dC (.int 0)), dOp2 oIx (dVar 0) (dC (.int 1))]) (dC (.int 1)))))
def R_is_fraction : List D → Sto → Out D := dFn 2 T_is_fraction
theorem b_is_fraction {P : Program} {w : World} {G : Cg} {base : Heap} (T : Top G) : ∀ (X : Cx) (W : WX), Ok X W 1 → (∃ f cdv A outer s H E, X = cxOf (L2.CX P w) P w G.K G.mg base n_is_fraction "is_fraction" (defScope s_is_fraction) f cdv A outer s H E) → PBv X W (defBody s_is_fraction) T_is_fraction := by
  rintro X W o ⟨f, cdv, A, outer, s, H, E, rfl⟩
  exact pbv_cons (psv_if ((pwv_or (ptv_not (ptv_tru (pev_isi .tuple T.z_isinstance T.z_tuple PyProof.Rows.boot_tuple (pev_var 0)))) (pwv_or (ptv_ne o (pev_len T.z_len (pav_cons (pev_var 0) (pav_nil))) (pev_int)) (pwv_or1 (ptv_not (ptv_tru (pev_all o T.z_all (pav_cons (pev_lc o [("one", 1)] (piv_tup (pev_var 0)) (blkOk_by (N := n_is_fraction) (sc := defScope s_is_fraction) (by decide +kernel)) (fun s H C cl fp => pgv_name sc_is_fraction.nd 1) (fun s H C cl fp o => ptsv_nil) (fun s H C cl fp o => pev_call o (fn_is_integer T) (by decide) (pav_cons (pev_var 1) (pav_nil)))) (pav_nil)))))))).pt) (pbv_one (psv_ret (pev_bl))) (pbv_nil)) (pbv_one (psv_ret (pev_and (pev_ge (pev_sub_ o (pev_var 0) (pev_int)) (pev_int)) (pev_one (pev_eq o (pev_call o (fn_common T) (by decide) (pav_cons (pev_sub_ o (pev_var 0) (pev_int)) (pav_cons (pev_sub_ o (pev_var 0) (pev_int)) (pav_nil)))) (pev_int))))))
theorem raw_is_fraction {P : Program} {w : World} {G : Cg} {base : Heap} (T : Top G) : Fn P w G base "is_fraction" 2 1 R_is_fraction := fn_raw (N := n_is_fraction) T.d_is_fraction sc_is_fraction (b_is_fraction T)

abbrev F_is_fraction := R_is_fraction
theorem fn_is_fraction {P : Program} {w : World} {G : Cg} {base : Heap} (T : Top G) : Fn P w G base "is_fraction" 2 1 F_is_fraction := raw_is_fraction T

theorem ev_is_fraction {q : Rat} {st : Sto} : F_is_fraction [fr q] st = .ok (.bl true) st := by
  have hd : decide ((1 : Int) ≤ (q.den : Int)) = true := by have := den_pos q; simp; omega
  have hg : ((Int.gcd q.num q.den : Int) == 1) = true := by
    have := q.reduced
    simp only [Int.gcd, Int.natAbs_natCast]
    simp [Nat.Coprime] at this
    simp [this]
  have hc : lcGo (.nm 1) dYes E_is_fraction_0 (wipeE [some (fr q), none] [1]) [.int q.num, .int q.den] st [] = .ok [.bl true, .bl true] st := rfl
  have hb : bAll [.lst [.bl true, .bl true]] st = .ok (.bl true) st := rfl
  simp only [fr] at hc
  simp only [R_is_fraction, T_is_fraction, dFn, sSeq, sSet, sPar, sRet, sRetN, sIf, sNil, sExpr, evL, dCall, dCallF, dVar, dC, dOp1, dOp2, dTst, dTru, tru, dNotT, dAndT, dOrT, dAndV, dOrV, dNotV, dIf, List.map_cons, List.map_nil, List.length_cons, List.length_nil, Nat.sub_self, Nat.reduceAdd, Nat.reduceSub, List.replicate_zero, List.reduceReplicate, List.append_nil, List.cons_append, List.nil_append, List.getElem?_cons_succ, List.getElem?_cons_zero, Out.bind_ok, Out.to_ok, List.set_cons_zero, List.set_cons_succ, if_true, if_false, Bool.not_false, Bool.not_true, Bool.false_eq_true, Bool.true_eq_false, reduceIte, if_pos, fr, oIsi, tyD, isi, decide_true, len2, oNe_int, dLc, dItT, beq_self_eq_true, hc, hb, ix0, ix1, oCmp, hd, ev_common, oEq_int, hg]

/-! need_fraction -/
theorem sc_need_fraction : FnScope n_need_fraction ["thing"] (defScope s_need_fraction) := ⟨rfl, rfl, rfl, by decide +kernel, rfl, by decide +kernel, by decide +kernel⟩
def T_need_fraction : DenS := sSeq (sIf (dNotT (dTru (dCallF 1 F_is_fraction [dVar 0]))) (sNo) (sNil)) (sRet (dVar 0))
def R_need_fraction : List D → Sto → Out D := dFn 1 T_need_fraction
theorem b_need_fraction {P : Program} {w : World} {G : Cg} {base : Heap} (T : Top G) : ∀ (X : Cx) (W : WX), Ok X W 2 → (∃ f cdv A outer s H E, X = cxOf (L2.CX P w) P w G.K G.mg base n_need_fraction "need_fraction" (defScope s_need_fraction) f cdv A outer s H E) → PBv X W (defBody s_need_fraction) T_need_fraction := by
  rintro X W o ⟨f, cdv, A, outer, s, H, E, rfl⟩
  exact pbv_cons (psv_if (ptv_not (ptv_tru (pev_call o (fn_is_fraction T) (by decide) (pav_cons (pev_var 0) (pav_nil))))) (pbv_one (psv_never)) (pbv_nil)) (pbv_one (psv_ret (pev_var 0)))
theorem raw_need_fraction {P : Program} {w : World} {G : Cg} {base : Heap} (T : Top G) : Fn P w G base "need_fraction" 3 1 R_need_fraction := fn_raw (N := n_need_fraction) T.d_need_fraction sc_need_fraction (b_need_fraction T)

abbrev F_need_fraction := R_need_fraction
theorem fn_need_fraction {P : Program} {w : World} {G : Cg} {base : Heap} (T : Top G) : Fn P w G base "need_fraction" 3 1 F_need_fraction := raw_need_fraction T

theorem ev_need_fraction {q : Rat} {st : Sto} : F_need_fraction [fr q] st = .ok (fr q) st := by
  simp only [R_need_fraction, T_need_fraction, dFn, sSeq, sSet, sPar, sRet, sRetN, sIf, sNil, sExpr, evL, dCall, dCallF, dVar, dC, dOp1, dOp2, dTst, dTru, tru, dNotT, dAndT, dOrT, dAndV, dOrV, dNotV, dIf, List.map_cons, List.map_nil, List.length_cons, List.length_nil, Nat.sub_self, Nat.reduceAdd, Nat.reduceSub, List.replicate_zero, List.reduceReplicate, List.append_nil, List.cons_append, List.nil_append, List.getElem?_cons_succ, List.getElem?_cons_zero, Out.bind_ok, Out.to_ok, List.set_cons_zero, List.set_cons_succ, if_true, if_false, Bool.not_false, Bool.not_true, Bool.false_eq_true, Bool.true_eq_false, reduceIte, if_pos, ev_is_fraction]

/-! made -/
theorem sc_made : FnScope n_made ["top", "bottom"] (defScope s_made) := ⟨rfl, rfl, rfl, by decide +kernel, rfl, by decide +kernel, by decide +kernel⟩
def T_made : DenS := sSeq (sIf (dTst (dOp2 oLt (dVar 1) (dC (.int 0)))) (sPar 0 1 [dOp2 oSub (dC (.int 0)) (dVar 0), dOp2 oSub (dC (.int 0)) (dVar 1)]) (sNil)) (sSeq (sSet 2 (dCallF 2 F_common [dVar 0, dVar 1])) (sRet (dCall oTup [dOp2 oFdiv (dVar 0) (dVar 2), dOp2 oFdiv (dVar 1) (dVar 2)])))
def R_made : List D → Sto → Out D := dFn 3 T_made
theorem b_made {P : Program} {w : World} {G : Cg} {base : Heap} (T : Top G) : ∀ (X : Cx) (W : WX), Ok X W 1 → (∃ f cdv A outer s H E, X = cxOf (L2.CX P w) P w G.K G.mg base n_made "made" (defScope s_made) f cdv A outer s H E) → PBv X W (defBody s_made) T_made := by
  rintro X W o ⟨f, cdv, A, outer, s, H, E, rfl⟩
  exact pbv_cons (psv_if (ptv_lt o (pev_var 1) (pev_int)) (pbv_one (psv_par o 0 1 (pav_cons (pev_sub (pev_int) (pev_var 0)) (pav_cons (pev_sub (pev_int) (pev_var 1)) (pav_nil))))) (pbv_nil)) (pbv_cons (psv_set o 2 (pev_call o (fn_common T) (by decide) (pav_cons (pev_var 0) (pav_cons (pev_var 1) (pav_nil))))) (pbv_one (psv_ret (pev_tup (pav_cons (pev_fdiv (pev_var 0) (pev_var 2)) (pav_cons (pev_fdiv (pev_var 1) (pev_var 2)) (pav_nil)))))))
theorem raw_made {P : Program} {w : World} {G : Cg} {base : Heap} (T : Top G) : Fn P w G base "made" 2 2 R_made := fn_raw (N := n_made) T.d_made sc_made (b_made T)

abbrev F_made := R_made
theorem fn_made {P : Program} {w : World} {G : Cg} {base : Heap} (T : Top G) : Fn P w G base "made" 2 2 F_made := raw_made T

theorem ev_made {n : Nat} (t b : Int) (st : Sto) (h : b ≠ 0) (hs : Sm n b) (hn : n < 9000 := by decide) : F_made [.int t, .int b] st = .ok (fr (Rat.divInt t b)) st := by
  by_cases hb : b < 0
  · have h2 : 0 < 0 - b := by omega
    have hs2 : Sm n (0 - b) := by unfold Sm at *; omega
    simp only [R_made, T_made, dFn, sSeq, sSet, sPar, sRet, sRetN, sIf, sNil, sExpr, evL, dCall, dCallF, dVar, dC, dOp1, dOp2, dTst, dTru, tru, dNotT, dAndT, dOrT, dAndV, dOrV, dNotV, dIf, List.map_cons, List.map_nil, List.length_cons, List.length_nil, Nat.sub_self, Nat.reduceAdd, Nat.reduceSub, List.replicate_zero, List.reduceReplicate, List.append_nil, List.cons_append, List.nil_append, List.getElem?_cons_succ, List.getElem?_cons_zero, Out.bind_ok, Out.to_ok, List.set_cons_zero, List.set_cons_succ, if_true, if_false, Bool.not_false, Bool.not_true, Bool.false_eq_true, Bool.true_eq_false, reduceIte, if_pos, oLt, hb, decide_true, oSub, ev_common, oFdiv_sm (gcd_pos' h2) (gcd_sm (t := 0 - t) h2 hs2) hn, oTup2]
    rw [← fr_divInt (0 - t) (0 - b) h2]
    have : Rat.divInt (0 - t) (0 - b) = Rat.divInt t b := by rw [Int.zero_sub, Int.zero_sub]; exact Rat.neg_divInt_neg t b
    rw [this]
  · have h2 : 0 < b := by omega
    simp only [R_made, T_made, dFn, sSeq, sSet, sPar, sRet, sRetN, sIf, sNil, sExpr, evL, dCall, dCallF, dVar, dC, dOp1, dOp2, dTst, dTru, tru, dNotT, dAndT, dOrT, dAndV, dOrV, dNotV, dIf, List.map_cons, List.map_nil, List.length_cons, List.length_nil, Nat.sub_self, Nat.reduceAdd, Nat.reduceSub, List.replicate_zero, List.reduceReplicate, List.append_nil, List.cons_append, List.nil_append, List.getElem?_cons_succ, List.getElem?_cons_zero, Out.bind_ok, Out.to_ok, List.set_cons_zero, List.set_cons_succ, if_true, if_false, Bool.not_false, Bool.not_true, Bool.false_eq_true, Bool.true_eq_false, reduceIte, if_pos, oLt, hb, decide_false, ev_common, oFdiv_sm (gcd_pos' h2) (gcd_sm (t := t) h2 hs) hn, oTup2]
    rw [← fr_divInt t b h2]

/-! add -/
theorem sc_add : FnScope n_add ["one", "other"] (defScope s_add) := ⟨rfl, rfl, rfl, by decide +kernel, rfl, by decide +kernel, by decide +kernel⟩
def T_add : DenS := sRet (dCallF 2 F_made [dOp2 oAdd (dOp2 oMul (dOp2 oIx (dVar 0) (dC (.int 0))) (dOp2 oIx (dVar 1) (dC (.int 1)))) (dOp2 oMul (dOp2 oIx (dVar 1) (dC (.int 0))) (dOp2 oIx (dVar 0) (dC (.int 1)))), dOp2 oMul (dOp2 oIx (dVar 0) (dC (.int 1))) (dOp2 oIx (dVar 1) (dC (.int 1)))])
def R_add : List D → Sto → Out D := dFn 2 T_add
theorem b_add {P : Program} {w : World} {G : Cg} {base : Heap} (T : Top G) : ∀ (X : Cx) (W : WX), Ok X W 2 → (∃ f cdv A outer s H E, X = cxOf (L2.CX P w) P w G.K G.mg base n_add "add" (defScope s_add) f cdv A outer s H E) → PBv X W (defBody s_add) T_add := by
  rintro X W o ⟨f, cdv, A, outer, s, H, E, rfl⟩
  exact pbv_one (psv_ret (pev_call o (fn_made T) (by decide) (pav_cons (pev_add (pev_mul (pev_sub_ o (pev_var 0) (pev_int)) (pev_sub_ o (pev_var 1) (pev_int))) (pev_mul (pev_sub_ o (pev_var 1) (pev_int)) (pev_sub_ o (pev_var 0) (pev_int)))) (pav_cons (pev_mul (pev_sub_ o (pev_var 0) (pev_int)) (pev_sub_ o (pev_var 1) (pev_int))) (pav_nil)))))
theorem raw_add {P : Program} {w : World} {G : Cg} {base : Heap} (T : Top G) : Fn P w G base "add" 3 2 R_add := fn_raw (N := n_add) T.d_add sc_add (b_add T)

abbrev F_add := R_add
theorem fn_add {P : Program} {w : World} {G : Cg} {base : Heap} (T : Top G) : Fn P w G base "add" 3 2 F_add := raw_add T

theorem ev_add {n m : Nat} {q r : Rat} {st : Sto} (hq : SmQ n q) (hr : SmQ m r) (h : n + m < 9000 := by decide) : F_add [fr q, fr r] st = .ok (fr (q + r)) st := by
  have hs := hq.2.mul hr.2
  simp only [R_add, T_add, dFn, sSeq, sSet, sPar, sRet, sRetN, sIf, sNil, sExpr, evL, dCall, dCallF, dVar, dC, dOp1, dOp2, dTst, dTru, tru, dNotT, dAndT, dOrT, dAndV, dOrV, dNotV, dIf, List.map_cons, List.map_nil, List.length_cons, List.length_nil, Nat.sub_self, Nat.reduceAdd, Nat.reduceSub, List.replicate_zero, List.reduceReplicate, List.append_nil, List.cons_append, List.nil_append, List.getElem?_cons_succ, List.getElem?_cons_zero, Out.bind_ok, Out.to_ok, List.set_cons_zero, List.set_cons_succ, if_true, if_false, Bool.not_false, Bool.not_true, Bool.false_eq_true, Bool.true_eq_false, reduceIte, if_pos, fr, ix0, ix1, oMul_sm hq.1 hr.2 (by omega), oMul_sm hr.1 hq.2 (by omega), oMul_sm hq.2 hr.2 (by omega), oAdd, ev_made _ _ _ (ne_mul (den_ne q) (den_ne r)) hs h, divInt_add]

/-! plus -/
theorem sc_plus : FnScope n_plus ["one", "other"] (defScope s_plus) := ⟨rfl, rfl, rfl, by decide +kernel, rfl, by decide +kernel, by decide +kernel⟩
def T_plus : DenS := sRet (dCallF 2 F_add [dCallF 1 F_need_fraction [dVar 0], dCallF 1 F_need_fraction [dVar 1]])
def R_plus : List D → Sto → Out D := dFn 2 T_plus
theorem b_plus {P : Program} {w : World} {G : Cg} {base : Heap} (T : Top G) : ∀ (X : Cx) (W : WX), Ok X W 3 → (∃ f cdv A outer s H E, X = cxOf (L2.CX P w) P w G.K G.mg base n_plus "plus" (defScope s_plus) f cdv A outer s H E) → PBv X W (defBody s_plus) T_plus := by
  rintro X W o ⟨f, cdv, A, outer, s, H, E, rfl⟩
  exact pbv_one (psv_ret (pev_call o (fn_add T) (by decide) (pav_cons (pev_call o (fn_need_fraction T) (by decide) (pav_cons (pev_var 0) (pav_nil))) (pav_cons (pev_call o (fn_need_fraction T) (by decide) (pav_cons (pev_var 1) (pav_nil))) (pav_nil)))))
theorem raw_plus {P : Program} {w : World} {G : Cg} {base : Heap} (T : Top G) : Fn P w G base "plus" 4 2 R_plus := fn_raw (N := n_plus) T.d_plus sc_plus (b_plus T)

abbrev F_plus := R_plus
theorem fn_plus {P : Program} {w : World} {G : Cg} {base : Heap} (T : Top G) : Fn P w G base "plus" 4 2 F_plus := raw_plus T

theorem ev_plus {n m : Nat} {q r : Rat} {st : Sto} (hq : SmQ n q) (hr : SmQ m r) (h : n + m < 9000 := by decide) : F_plus [fr q, fr r] st = .ok (fr (q + r)) st := by
  simp only [R_plus, T_plus, dFn, sSeq, sSet, sPar, sRet, sRetN, sIf, sNil, sExpr, evL, dCall, dCallF, dVar, dC, dOp1, dOp2, dTst, dTru, tru, dNotT, dAndT, dOrT, dAndV, dOrV, dNotV, dIf, List.map_cons, List.map_nil, List.length_cons, List.length_nil, Nat.sub_self, Nat.reduceAdd, Nat.reduceSub, List.replicate_zero, List.reduceReplicate, List.append_nil, List.cons_append, List.nil_append, List.getElem?_cons_succ, List.getElem?_cons_zero, Out.bind_ok, Out.to_ok, List.set_cons_zero, List.set_cons_succ, if_true, if_false, Bool.not_false, Bool.not_true, Bool.false_eq_true, Bool.true_eq_false, reduceIte, if_pos, ev_need_fraction, ev_add hq hr h]

/-! _law_plus -/
theorem sc__law_plus : FnScope n__law_plus ["one", "other"] (defScope s__law_plus) := ⟨rfl, rfl, rfl, by decide +kernel, rfl, by decide +kernel, by decide +kernel⟩
def T__law_plus : DenS := sRet (dCallF 2 F__law_ratio [dOp2 oAdd (dOp2 oMul (dOp2 oIx (dVar 0) (dC (.int 0))) (dOp2 oIx (dVar 1) (dC (.int 1)))) (dOp2 oMul (dOp2 oIx (dVar 1) (dC (.int 0))) (dOp2 oIx (dVar 0) (dC (.int 1)))), dOp2 oMul (dOp2 oIx (dVar 0) (dC (.int 1))) (dOp2 oIx (dVar 1) (dC (.int 1)))])
def R__law_plus : List D → Sto → Out D := dFn 2 T__law_plus
theorem b__law_plus {P : Program} {w : World} {G : Cg} {base : Heap} (T : Top G) : ∀ (X : Cx) (W : WX), Ok X W 1 → (∃ f cdv A outer s H E, X = cxOf (L2.CX P w) P w G.K G.mg base n__law_plus "_law_plus" (defScope s__law_plus) f cdv A outer s H E) → PBv X W (defBody s__law_plus) T__law_plus := by
  rintro X W o ⟨f, cdv, A, outer, s, H, E, rfl⟩
  exact pbv_one (psv_ret (pev_call o (fn__law_ratio T) (by decide) (pav_cons (pev_add (pev_mul (pev_sub_ o (pev_var 0) (pev_int)) (pev_sub_ o (pev_var 1) (pev_int))) (pev_mul (pev_sub_ o (pev_var 1) (pev_int)) (pev_sub_ o (pev_var 0) (pev_int)))) (pav_cons (pev_mul (pev_sub_ o (pev_var 0) (pev_int)) (pev_sub_ o (pev_var 1) (pev_int))) (pav_nil)))))
theorem raw__law_plus {P : Program} {w : World} {G : Cg} {base : Heap} (T : Top G) : Fn P w G base "_law_plus" 2 2 R__law_plus := fn_raw (N := n__law_plus) T.d__law_plus sc__law_plus (b__law_plus T)

abbrev F__law_plus := R__law_plus
theorem fn__law_plus {P : Program} {w : World} {G : Cg} {base : Heap} (T : Top G) : Fn P w G base "_law_plus" 2 2 F__law_plus := raw__law_plus T

theorem ev_law_plus {n m : Nat} {q r : Rat} {st : Sto} (hq : SmQ n q) (hr : SmQ m r) (h : n + m < 9000 := by decide) : F__law_plus [fr q, fr r] st = .ok (fr (q + r)) st := by
  have hs := hq.2.mul hr.2
  simp only [R__law_plus, T__law_plus, dFn, sSeq, sSet, sPar, sRet, sRetN, sIf, sNil, sExpr, evL, dCall, dCallF, dVar, dC, dOp1, dOp2, dTst, dTru, tru, dNotT, dAndT, dOrT, dAndV, dOrV, dNotV, dIf, List.map_cons, List.map_nil, List.length_cons, List.length_nil, Nat.sub_self, Nat.reduceAdd, Nat.reduceSub, List.replicate_zero, List.reduceReplicate, List.append_nil, List.cons_append, List.nil_append, List.getElem?_cons_succ, List.getElem?_cons_zero, Out.bind_ok, Out.to_ok, List.set_cons_zero, List.set_cons_succ, if_true, if_false, Bool.not_false, Bool.not_true, Bool.false_eq_true, Bool.true_eq_false, reduceIte, if_pos, fr, ix0, ix1, oMul_sm hq.1 hr.2 (by omega), oMul_sm hr.1 hq.2 (by omega), oMul_sm hq.2 hr.2 (by omega), oAdd, ev_law_ratio _ _ _ (Int.mul_pos (den_pos q) (den_pos r)) hs h, divInt_add]

/-! sub -/
theorem sc_sub : FnScope n_sub ["one", "other"] (defScope s_sub) := ⟨rfl, rfl, rfl, by decide +kernel, rfl, by decide +kernel, by decide +kernel⟩
def T_sub : DenS := sRet (dCallF 2 F_made [dOp2 oSub (dOp2 oMul (dOp2 oIx (dVar 0) (dC (.int 0))) (dOp2 oIx (dVar 1) (dC (.int 1)))) (dOp2 oMul (dOp2 oIx (dVar 1) (dC (.int 0))) (dOp2 oIx (dVar 0) (dC (.int 1)))), dOp2 oMul (dOp2 oIx (dVar 0) (dC (.int 1))) (dOp2 oIx (dVar 1) (dC (.int 1)))])
def R_sub : List D → Sto → Out D := dFn 2 T_sub
theorem b_sub {P : Program} {w : World} {G : Cg} {base : Heap} (T : Top G) : ∀ (X : Cx) (W : WX), Ok X W 2 → (∃ f cdv A outer s H E, X = cxOf (L2.CX P w) P w G.K G.mg base n_sub "sub" (defScope s_sub) f cdv A outer s H E) → PBv X W (defBody s_sub) T_sub := by
  rintro X W o ⟨f, cdv, A, outer, s, H, E, rfl⟩
  exact pbv_one (psv_ret (pev_call o (fn_made T) (by decide) (pav_cons (pev_sub (pev_mul (pev_sub_ o (pev_var 0) (pev_int)) (pev_sub_ o (pev_var 1) (pev_int))) (pev_mul (pev_sub_ o (pev_var 1) (pev_int)) (pev_sub_ o (pev_var 0) (pev_int)))) (pav_cons (pev_mul (pev_sub_ o (pev_var 0) (pev_int)) (pev_sub_ o (pev_var 1) (pev_int))) (pav_nil)))))
theorem raw_sub {P : Program} {w : World} {G : Cg} {base : Heap} (T : Top G) : Fn P w G base "sub" 3 2 R_sub := fn_raw (N := n_sub) T.d_sub sc_sub (b_sub T)

abbrev F_sub := R_sub
theorem fn_sub {P : Program} {w : World} {G : Cg} {base : Heap} (T : Top G) : Fn P w G base "sub" 3 2 F_sub := raw_sub T

theorem ev_sub {n m : Nat} {q r : Rat} {st : Sto} (hq : SmQ n q) (hr : SmQ m r) (h : n + m < 9000 := by decide) : F_sub [fr q, fr r] st = .ok (fr (q - r)) st := by
  have hs := hq.2.mul hr.2
  simp only [R_sub, T_sub, dFn, sSeq, sSet, sPar, sRet, sRetN, sIf, sNil, sExpr, evL, dCall, dCallF, dVar, dC, dOp1, dOp2, dTst, dTru, tru, dNotT, dAndT, dOrT, dAndV, dOrV, dNotV, dIf, List.map_cons, List.map_nil, List.length_cons, List.length_nil, Nat.sub_self, Nat.reduceAdd, Nat.reduceSub, List.replicate_zero, List.reduceReplicate, List.append_nil, List.cons_append, List.nil_append, List.getElem?_cons_succ, List.getElem?_cons_zero, Out.bind_ok, Out.to_ok, List.set_cons_zero, List.set_cons_succ, if_true, if_false, Bool.not_false, Bool.not_true, Bool.false_eq_true, Bool.true_eq_false, reduceIte, if_pos, fr, ix0, ix1, oMul_sm hq.1 hr.2 (by omega), oMul_sm hr.1 hq.2 (by omega), oMul_sm hq.2 hr.2 (by omega), oSub, ev_made _ _ _ (ne_mul (den_ne q) (den_ne r)) hs h, divInt_sub]

/-! less -/
theorem sc_less : FnScope n_less ["one", "other"] (defScope s_less) := ⟨rfl, rfl, rfl, by decide +kernel, rfl, by decide +kernel, by decide +kernel⟩
def T_less : DenS := sRet (dCallF 2 F_sub [dCallF 1 F_need_fraction [dVar 0], dCallF 1 F_need_fraction [dVar 1]])
def R_less : List D → Sto → Out D := dFn 2 T_less
theorem b_less {P : Program} {w : World} {G : Cg} {base : Heap} (T : Top G) : ∀ (X : Cx) (W : WX), Ok X W 3 → (∃ f cdv A outer s H E, X = cxOf (L2.CX P w) P w G.K G.mg base n_less "less" (defScope s_less) f cdv A outer s H E) → PBv X W (defBody s_less) T_less := by
  rintro X W o ⟨f, cdv, A, outer, s, H, E, rfl⟩
  exact pbv_one (psv_ret (pev_call o (fn_sub T) (by decide) (pav_cons (pev_call o (fn_need_fraction T) (by decide) (pav_cons (pev_var 0) (pav_nil))) (pav_cons (pev_call o (fn_need_fraction T) (by decide) (pav_cons (pev_var 1) (pav_nil))) (pav_nil)))))
theorem raw_less {P : Program} {w : World} {G : Cg} {base : Heap} (T : Top G) : Fn P w G base "less" 4 2 R_less := fn_raw (N := n_less) T.d_less sc_less (b_less T)

abbrev F_less := R_less
theorem fn_less {P : Program} {w : World} {G : Cg} {base : Heap} (T : Top G) : Fn P w G base "less" 4 2 F_less := raw_less T

theorem ev_less {n m : Nat} {q r : Rat} {st : Sto} (hq : SmQ n q) (hr : SmQ m r) (h : n + m < 9000 := by decide) : F_less [fr q, fr r] st = .ok (fr (q - r)) st := by
  simp only [R_less, T_less, dFn, sSeq, sSet, sPar, sRet, sRetN, sIf, sNil, sExpr, evL, dCall, dCallF, dVar, dC, dOp1, dOp2, dTst, dTru, tru, dNotT, dAndT, dOrT, dAndV, dOrV, dNotV, dIf, List.map_cons, List.map_nil, List.length_cons, List.length_nil, Nat.sub_self, Nat.reduceAdd, Nat.reduceSub, List.replicate_zero, List.reduceReplicate, List.append_nil, List.cons_append, List.nil_append, List.getElem?_cons_succ, List.getElem?_cons_zero, Out.bind_ok, Out.to_ok, List.set_cons_zero, List.set_cons_succ, if_true, if_false, Bool.not_false, Bool.not_true, Bool.false_eq_true, Bool.true_eq_false, reduceIte, if_pos, ev_need_fraction, ev_sub hq hr h]

/-! _law_less -/
theorem sc__law_less : FnScope n__law_less ["one", "other"] (defScope s__law_less) := ⟨rfl, rfl, rfl, by decide +kernel, rfl, by decide +kernel, by decide +kernel⟩
def T__law_less : DenS := sRet (dCallF 2 F__law_ratio [dOp2 oSub (dOp2 oMul (dOp2 oIx (dVar 0) (dC (.int 0))) (dOp2 oIx (dVar 1) (dC (.int 1)))) (dOp2 oMul (dOp2 oIx (dVar 1) (dC (.int 0))) (dOp2 oIx (dVar 0) (dC (.int 1)))), dOp2 oMul (dOp2 oIx (dVar 0) (dC (.int 1))) (dOp2 oIx (dVar 1) (dC (.int 1)))])
def R__law_less : List D → Sto → Out D := dFn 2 T__law_less
theorem b__law_less {P : Program} {w : World} {G : Cg} {base : Heap} (T : Top G) : ∀ (X : Cx) (W : WX), Ok X W 1 → (∃ f cdv A outer s H E, X = cxOf (L2.CX P w) P w G.K G.mg base n__law_less "_law_less" (defScope s__law_less) f cdv A outer s H E) → PBv X W (defBody s__law_less) T__law_less := by
  rintro X W o ⟨f, cdv, A, outer, s, H, E, rfl⟩
  exact pbv_one (psv_ret (pev_call o (fn__law_ratio T) (by decide) (pav_cons (pev_sub (pev_mul (pev_sub_ o (pev_var 0) (pev_int)) (pev_sub_ o (pev_var 1) (pev_int))) (pev_mul (pev_sub_ o (pev_var 1) (pev_int)) (pev_sub_ o (pev_var 0) (pev_int)))) (pav_cons (pev_mul (pev_sub_ o (pev_var 0) (pev_int)) (pev_sub_ o (pev_var 1) (pev_int))) (pav_nil)))))
theorem raw__law_less {P : Program} {w : World} {G : Cg} {base : Heap} (T : Top G) : Fn P w G base "_law_less" 2 2 R__law_less := fn_raw (N := n__law_less) T.d__law_less sc__law_less (b__law_less T)

abbrev F__law_less := R__law_less
theorem fn__law_less {P : Program} {w : World} {G : Cg} {base : Heap} (T : Top G) : Fn P w G base "_law_less" 2 2 F__law_less := raw__law_less T

theorem ev_law_less {n m : Nat} {q r : Rat} {st : Sto} (hq : SmQ n q) (hr : SmQ m r) (h : n + m < 9000 := by decide) : F__law_less [fr q, fr r] st = .ok (fr (q - r)) st := by
  have hs := hq.2.mul hr.2
  simp only [R__law_less, T__law_less, dFn, sSeq, sSet, sPar, sRet, sRetN, sIf, sNil, sExpr, evL, dCall, dCallF, dVar, dC, dOp1, dOp2, dTst, dTru, tru, dNotT, dAndT, dOrT, dAndV, dOrV, dNotV, dIf, List.map_cons, List.map_nil, List.length_cons, List.length_nil, Nat.sub_self, Nat.reduceAdd, Nat.reduceSub, List.replicate_zero, List.reduceReplicate, List.append_nil, List.cons_append, List.nil_append, List.getElem?_cons_succ, List.getElem?_cons_zero, Out.bind_ok, Out.to_ok, List.set_cons_zero, List.set_cons_succ, if_true, if_false, Bool.not_false, Bool.not_true, Bool.false_eq_true, Bool.true_eq_false, reduceIte, if_pos, fr, ix0, ix1, oMul_sm hq.1 hr.2 (by omega), oMul_sm hr.1 hq.2 (by omega), oMul_sm hq.2 hr.2 (by omega), oSub, ev_law_ratio _ _ _ (Int.mul_pos (den_pos q) (den_pos r)) hs h, divInt_sub]

/-! mul -/
theorem sc_mul : FnScope n_mul ["one", "other"] (defScope s_mul) := ⟨rfl, rfl, rfl, by decide +kernel, rfl, by decide +kernel, by decide +kernel⟩
def T_mul : DenS := sRet (dCallF 2 F_made [dOp2 oMul (dOp2 oIx (dVar 0) (dC (.int 0))) (dOp2 oIx (dVar 1) (dC (.int 0))), dOp2 oMul (dOp2 oIx (dVar 0) (dC (.int 1))) (dOp2 oIx (dVar 1) (dC (.int 1)))])
def R_mul : List D → Sto → Out D := dFn 2 T_mul
theorem b_mul {P : Program} {w : World} {G : Cg} {base : Heap} (T : Top G) : ∀ (X : Cx) (W : WX), Ok X W 2 → (∃ f cdv A outer s H E, X = cxOf (L2.CX P w) P w G.K G.mg base n_mul "mul" (defScope s_mul) f cdv A outer s H E) → PBv X W (defBody s_mul) T_mul := by
  rintro X W o ⟨f, cdv, A, outer, s, H, E, rfl⟩
  exact pbv_one (psv_ret (pev_call o (fn_made T) (by decide) (pav_cons (pev_mul (pev_sub_ o (pev_var 0) (pev_int)) (pev_sub_ o (pev_var 1) (pev_int))) (pav_cons (pev_mul (pev_sub_ o (pev_var 0) (pev_int)) (pev_sub_ o (pev_var 1) (pev_int))) (pav_nil)))))
theorem raw_mul {P : Program} {w : World} {G : Cg} {base : Heap} (T : Top G) : Fn P w G base "mul" 3 2 R_mul := fn_raw (N := n_mul) T.d_mul sc_mul (b_mul T)

abbrev F_mul := R_mul
theorem fn_mul {P : Program} {w : World} {G : Cg} {base : Heap} (T : Top G) : Fn P w G base "mul" 3 2 F_mul := raw_mul T

theorem ev_mul {n m : Nat} {q r : Rat} {st : Sto} (hq : SmQ n q) (hr : SmQ m r) (h : n + m < 9000 := by decide) : F_mul [fr q, fr r] st = .ok (fr (q * r)) st := by
  have hs := hq.2.mul hr.2
  simp only [R_mul, T_mul, dFn, sSeq, sSet, sPar, sRet, sRetN, sIf, sNil, sExpr, evL, dCall, dCallF, dVar, dC, dOp1, dOp2, dTst, dTru, tru, dNotT, dAndT, dOrT, dAndV, dOrV, dNotV, dIf, List.map_cons, List.map_nil, List.length_cons, List.length_nil, Nat.sub_self, Nat.reduceAdd, Nat.reduceSub, List.replicate_zero, List.reduceReplicate, List.append_nil, List.cons_append, List.nil_append, List.getElem?_cons_succ, List.getElem?_cons_zero, Out.bind_ok, Out.to_ok, List.set_cons_zero, List.set_cons_succ, if_true, if_false, Bool.not_false, Bool.not_true, Bool.false_eq_true, Bool.true_eq_false, reduceIte, if_pos, fr, ix0, ix1, oMul_sm hq.1 hr.1 (by omega), oMul_sm hq.2 hr.2 (by omega), ev_made _ _ _ (ne_mul (den_ne q) (den_ne r)) hs h, divInt_mul]

/-! times -/
theorem sc_times : FnScope n_times ["one", "other"] (defScope s_times) := ⟨rfl, rfl, rfl, by decide +kernel, rfl, by decide +kernel, by decide +kernel⟩
def T_times : DenS := sRet (dCallF 2 F_mul [dCallF 1 F_need_fraction [dVar 0], dCallF 1 F_need_fraction [dVar 1]])
def R_times : List D → Sto → Out D := dFn 2 T_times
theorem b_times {P : Program} {w : World} {G : Cg} {base : Heap} (T : Top G) : ∀ (X : Cx) (W : WX), Ok X W 3 → (∃ f cdv A outer s H E, X = cxOf (L2.CX P w) P w G.K G.mg base n_times "times" (defScope s_times) f cdv A outer s H E) → PBv X W (defBody s_times) T_times := by
  rintro X W o ⟨f, cdv, A, outer, s, H, E, rfl⟩
  exact pbv_one (psv_ret (pev_call o (fn_mul T) (by decide) (pav_cons (pev_call o (fn_need_fraction T) (by decide) (pav_cons (pev_var 0) (pav_nil))) (pav_cons (pev_call o (fn_need_fraction T) (by decide) (pav_cons (pev_var 1) (pav_nil))) (pav_nil)))))
theorem raw_times {P : Program} {w : World} {G : Cg} {base : Heap} (T : Top G) : Fn P w G base "times" 4 2 R_times := fn_raw (N := n_times) T.d_times sc_times (b_times T)

abbrev F_times := R_times
theorem fn_times {P : Program} {w : World} {G : Cg} {base : Heap} (T : Top G) : Fn P w G base "times" 4 2 F_times := raw_times T

theorem ev_times {n m : Nat} {q r : Rat} {st : Sto} (hq : SmQ n q) (hr : SmQ m r) (h : n + m < 9000 := by decide) : F_times [fr q, fr r] st = .ok (fr (q * r)) st := by
  simp only [R_times, T_times, dFn, sSeq, sSet, sPar, sRet, sRetN, sIf, sNil, sExpr, evL, dCall, dCallF, dVar, dC, dOp1, dOp2, dTst, dTru, tru, dNotT, dAndT, dOrT, dAndV, dOrV, dNotV, dIf, List.map_cons, List.map_nil, List.length_cons, List.length_nil, Nat.sub_self, Nat.reduceAdd, Nat.reduceSub, List.replicate_zero, List.reduceReplicate, List.append_nil, List.cons_append, List.nil_append, List.getElem?_cons_succ, List.getElem?_cons_zero, Out.bind_ok, Out.to_ok, List.set_cons_zero, List.set_cons_succ, if_true, if_false, Bool.not_false, Bool.not_true, Bool.false_eq_true, Bool.true_eq_false, reduceIte, if_pos, ev_need_fraction, ev_mul hq hr h]

/-! _law_times -/
theorem sc__law_times : FnScope n__law_times ["one", "other"] (defScope s__law_times) := ⟨rfl, rfl, rfl, by decide +kernel, rfl, by decide +kernel, by decide +kernel⟩
def T__law_times : DenS := sRet (dCallF 2 F__law_ratio [dOp2 oMul (dOp2 oIx (dVar 0) (dC (.int 0))) (dOp2 oIx (dVar 1) (dC (.int 0))), dOp2 oMul (dOp2 oIx (dVar 0) (dC (.int 1))) (dOp2 oIx (dVar 1) (dC (.int 1)))])
def R__law_times : List D → Sto → Out D := dFn 2 T__law_times
theorem b__law_times {P : Program} {w : World} {G : Cg} {base : Heap} (T : Top G) : ∀ (X : Cx) (W : WX), Ok X W 1 → (∃ f cdv A outer s H E, X = cxOf (L2.CX P w) P w G.K G.mg base n__law_times "_law_times" (defScope s__law_times) f cdv A outer s H E) → PBv X W (defBody s__law_times) T__law_times := by
  rintro X W o ⟨f, cdv, A, outer, s, H, E, rfl⟩
  exact pbv_one (psv_ret (pev_call o (fn__law_ratio T) (by decide) (pav_cons (pev_mul (pev_sub_ o (pev_var 0) (pev_int)) (pev_sub_ o (pev_var 1) (pev_int))) (pav_cons (pev_mul (pev_sub_ o (pev_var 0) (pev_int)) (pev_sub_ o (pev_var 1) (pev_int))) (pav_nil)))))
theorem raw__law_times {P : Program} {w : World} {G : Cg} {base : Heap} (T : Top G) : Fn P w G base "_law_times" 2 2 R__law_times := fn_raw (N := n__law_times) T.d__law_times sc__law_times (b__law_times T)

abbrev F__law_times := R__law_times
theorem fn__law_times {P : Program} {w : World} {G : Cg} {base : Heap} (T : Top G) : Fn P w G base "_law_times" 2 2 F__law_times := raw__law_times T

theorem ev_law_times {n m : Nat} {q r : Rat} {st : Sto} (hq : SmQ n q) (hr : SmQ m r) (h : n + m < 9000 := by decide) : F__law_times [fr q, fr r] st = .ok (fr (q * r)) st := by
  have hs := hq.2.mul hr.2
  simp only [R__law_times, T__law_times, dFn, sSeq, sSet, sPar, sRet, sRetN, sIf, sNil, sExpr, evL, dCall, dCallF, dVar, dC, dOp1, dOp2, dTst, dTru, tru, dNotT, dAndT, dOrT, dAndV, dOrV, dNotV, dIf, List.map_cons, List.map_nil, List.length_cons, List.length_nil, Nat.sub_self, Nat.reduceAdd, Nat.reduceSub, List.replicate_zero, List.reduceReplicate, List.append_nil, List.cons_append, List.nil_append, List.getElem?_cons_succ, List.getElem?_cons_zero, Out.bind_ok, Out.to_ok, List.set_cons_zero, List.set_cons_succ, if_true, if_false, Bool.not_false, Bool.not_true, Bool.false_eq_true, Bool.true_eq_false, reduceIte, if_pos, fr, ix0, ix1, oMul_sm hq.1 hr.1 (by omega), oMul_sm hq.2 hr.2 (by omega), ev_law_ratio _ _ _ (Int.mul_pos (den_pos q) (den_pos r)) hs h, divInt_mul]

/-! is_under -/
theorem sc_is_under : FnScope n_is_under ["one", "other"] (defScope s_is_under) := ⟨rfl, rfl, rfl, by decide +kernel, rfl, by decide +kernel, by decide +kernel⟩
def T_is_under : DenS := sRet (dOp2 oLt (dOp2 oMul (dOp2 oIx (dVar 0) (dC (.int 0))) (dOp2 oIx (dVar 1) (dC (.int 1)))) (dOp2 oMul (dOp2 oIx (dVar 1) (dC (.int 0))) (dOp2 oIx (dVar 0) (dC (.int 1)))))
def R_is_under : List D → Sto → Out D := dFn 2 T_is_under
theorem b_is_under {P : Program} {w : World} {G : Cg} {base : Heap} (T : Top G) : ∀ (X : Cx) (W : WX), Ok X W 0 → (∃ f cdv A outer s H E, X = cxOf (L2.CX P w) P w G.K G.mg base n_is_under "is_under" (defScope s_is_under) f cdv A outer s H E) → PBv X W (defBody s_is_under) T_is_under := by
  rintro X W o ⟨f, cdv, A, outer, s, H, E, rfl⟩
  exact pbv_one (psv_ret (pev_lt o (pev_mul (pev_sub_ o (pev_var 0) (pev_int)) (pev_sub_ o (pev_var 1) (pev_int))) (pev_mul (pev_sub_ o (pev_var 1) (pev_int)) (pev_sub_ o (pev_var 0) (pev_int)))))
theorem raw_is_under {P : Program} {w : World} {G : Cg} {base : Heap} (T : Top G) : Fn P w G base "is_under" 1 2 R_is_under := fn_raw (N := n_is_under) T.d_is_under sc_is_under (b_is_under T)

abbrev F_is_under := R_is_under
theorem fn_is_under {P : Program} {w : World} {G : Cg} {base : Heap} (T : Top G) : Fn P w G base "is_under" 1 2 F_is_under := raw_is_under T

theorem ev_is_under {n m : Nat} {q r : Rat} {st : Sto} (hq : SmQ n q) (hr : SmQ m r) (h : n + m < 9000 := by decide) : F_is_under [fr q, fr r] st = .ok (.bl (decide (q < r))) st := by
  have e : decide (q < r) = decide (q.num * r.den < r.num * q.den) := by simp only [Rat.lt_iff]
  simp only [R_is_under, T_is_under, dFn, sSeq, sSet, sPar, sRet, sRetN, sIf, sNil, sExpr, evL, dCall, dCallF, dVar, dC, dOp1, dOp2, dTst, dTru, tru, dNotT, dAndT, dOrT, dAndV, dOrV, dNotV, dIf, List.map_cons, List.map_nil, List.length_cons, List.length_nil, Nat.sub_self, Nat.reduceAdd, Nat.reduceSub, List.replicate_zero, List.reduceReplicate, List.append_nil, List.cons_append, List.nil_append, List.getElem?_cons_succ, List.getElem?_cons_zero, Out.bind_ok, Out.to_ok, List.set_cons_zero, List.set_cons_succ, if_true, if_false, Bool.not_false, Bool.not_true, Bool.false_eq_true, Bool.true_eq_false, reduceIte, if_pos, fr, ix0, ix1, oMul_sm hq.1 hr.2 (by omega), oMul_sm hr.1 hq.2 (by omega), oLt, e]

/-! is_less -/
theorem sc_is_less : FnScope n_is_less ["one", "other"] (defScope s_is_less) := ⟨rfl, rfl, rfl, by decide +kernel, rfl, by decide +kernel, by decide +kernel⟩
def T_is_less : DenS := sRet (dCallF 2 F_is_under [dCallF 1 F_need_fraction [dVar 0], dCallF 1 F_need_fraction [dVar 1]])
def R_is_less : List D → Sto → Out D := dFn 2 T_is_less
theorem b_is_less {P : Program} {w : World} {G : Cg} {base : Heap} (T : Top G) : ∀ (X : Cx) (W : WX), Ok X W 3 → (∃ f cdv A outer s H E, X = cxOf (L2.CX P w) P w G.K G.mg base n_is_less "is_less" (defScope s_is_less) f cdv A outer s H E) → PBv X W (defBody s_is_less) T_is_less := by
  rintro X W o ⟨f, cdv, A, outer, s, H, E, rfl⟩
  exact pbv_one (psv_ret (pev_call o (fn_is_under T) (by decide) (pav_cons (pev_call o (fn_need_fraction T) (by decide) (pav_cons (pev_var 0) (pav_nil))) (pav_cons (pev_call o (fn_need_fraction T) (by decide) (pav_cons (pev_var 1) (pav_nil))) (pav_nil)))))
theorem raw_is_less {P : Program} {w : World} {G : Cg} {base : Heap} (T : Top G) : Fn P w G base "is_less" 4 2 R_is_less := fn_raw (N := n_is_less) T.d_is_less sc_is_less (b_is_less T)

abbrev F_is_less := R_is_less
theorem fn_is_less {P : Program} {w : World} {G : Cg} {base : Heap} (T : Top G) : Fn P w G base "is_less" 4 2 F_is_less := raw_is_less T

theorem ev_is_less {n m : Nat} {q r : Rat} {st : Sto} (hq : SmQ n q) (hr : SmQ m r) (h : n + m < 9000 := by decide) : F_is_less [fr q, fr r] st = .ok (.bl (decide (q < r))) st := by
  simp only [R_is_less, T_is_less, dFn, sSeq, sSet, sPar, sRet, sRetN, sIf, sNil, sExpr, evL, dCall, dCallF, dVar, dC, dOp1, dOp2, dTst, dTru, tru, dNotT, dAndT, dOrT, dAndV, dOrV, dNotV, dIf, List.map_cons, List.map_nil, List.length_cons, List.length_nil, Nat.sub_self, Nat.reduceAdd, Nat.reduceSub, List.replicate_zero, List.reduceReplicate, List.append_nil, List.cons_append, List.nil_append, List.getElem?_cons_succ, List.getElem?_cons_zero, Out.bind_ok, Out.to_ok, List.set_cons_zero, List.set_cons_succ, if_true, if_false, Bool.not_false, Bool.not_true, Bool.false_eq_true, Bool.true_eq_false, reduceIte, if_pos, ev_need_fraction, ev_is_under hq hr h]

/-! _law_under -/
theorem sc__law_under : FnScope n__law_under ["one", "other"] (defScope s__law_under) := ⟨rfl, rfl, rfl, by decide +kernel, rfl, by decide +kernel, by decide +kernel⟩
def T__law_under : DenS := sRet (dOp2 oLt (dOp2 oMul (dOp2 oIx (dVar 0) (dC (.int 0))) (dOp2 oIx (dVar 1) (dC (.int 1)))) (dOp2 oMul (dOp2 oIx (dVar 1) (dC (.int 0))) (dOp2 oIx (dVar 0) (dC (.int 1)))))
def R__law_under : List D → Sto → Out D := dFn 2 T__law_under
theorem b__law_under {P : Program} {w : World} {G : Cg} {base : Heap} (T : Top G) : ∀ (X : Cx) (W : WX), Ok X W 0 → (∃ f cdv A outer s H E, X = cxOf (L2.CX P w) P w G.K G.mg base n__law_under "_law_under" (defScope s__law_under) f cdv A outer s H E) → PBv X W (defBody s__law_under) T__law_under := by
  rintro X W o ⟨f, cdv, A, outer, s, H, E, rfl⟩
  exact pbv_one (psv_ret (pev_lt o (pev_mul (pev_sub_ o (pev_var 0) (pev_int)) (pev_sub_ o (pev_var 1) (pev_int))) (pev_mul (pev_sub_ o (pev_var 1) (pev_int)) (pev_sub_ o (pev_var 0) (pev_int)))))
theorem raw__law_under {P : Program} {w : World} {G : Cg} {base : Heap} (T : Top G) : Fn P w G base "_law_under" 1 2 R__law_under := fn_raw (N := n__law_under) T.d__law_under sc__law_under (b__law_under T)

abbrev F__law_under := R__law_under
theorem fn__law_under {P : Program} {w : World} {G : Cg} {base : Heap} (T : Top G) : Fn P w G base "_law_under" 1 2 F__law_under := raw__law_under T

theorem ev_law_under {n m : Nat} {q r : Rat} {st : Sto} (hq : SmQ n q) (hr : SmQ m r) (h : n + m < 9000 := by decide) : F__law_under [fr q, fr r] st = .ok (.bl (decide (q < r))) st := by
  have e : decide (q < r) = decide (q.num * r.den < r.num * q.den) := by simp only [Rat.lt_iff]
  simp only [R__law_under, T__law_under, dFn, sSeq, sSet, sPar, sRet, sRetN, sIf, sNil, sExpr, evL, dCall, dCallF, dVar, dC, dOp1, dOp2, dTst, dTru, tru, dNotT, dAndT, dOrT, dAndV, dOrV, dNotV, dIf, List.map_cons, List.map_nil, List.length_cons, List.length_nil, Nat.sub_self, Nat.reduceAdd, Nat.reduceSub, List.replicate_zero, List.reduceReplicate, List.append_nil, List.cons_append, List.nil_append, List.getElem?_cons_succ, List.getElem?_cons_zero, Out.bind_ok, Out.to_ok, List.set_cons_zero, List.set_cons_succ, if_true, if_false, Bool.not_false, Bool.not_true, Bool.false_eq_true, Bool.true_eq_false, reduceIte, if_pos, fr, ix0, ix1, oMul_sm hq.1 hr.2 (by omega), oMul_sm hr.1 hq.2 (by omega), oLt, e]

/-! div -/
theorem sc_div : FnScope n_div ["one", "other"] (defScope s_div) := ⟨rfl, rfl, rfl, by decide +kernel, rfl, by decide +kernel, by decide +kernel⟩
def T_div : DenS := sRet (dCallF 2 F_made [dOp2 oMul (dOp2 oIx (dVar 0) (dC (.int 0))) (dOp2 oIx (dVar 1) (dC (.int 1))), dOp2 oMul (dOp2 oIx (dVar 0) (dC (.int 1))) (dOp2 oIx (dVar 1) (dC (.int 0)))])
def R_div : List D → Sto → Out D := dFn 2 T_div
theorem b_div {P : Program} {w : World} {G : Cg} {base : Heap} (T : Top G) : ∀ (X : Cx) (W : WX), Ok X W 2 → (∃ f cdv A outer s H E, X = cxOf (L2.CX P w) P w G.K G.mg base n_div "div" (defScope s_div) f cdv A outer s H E) → PBv X W (defBody s_div) T_div := by
  rintro X W o ⟨f, cdv, A, outer, s, H, E, rfl⟩
  exact pbv_one (psv_ret (pev_call o (fn_made T) (by decide) (pav_cons (pev_mul (pev_sub_ o (pev_var 0) (pev_int)) (pev_sub_ o (pev_var 1) (pev_int))) (pav_cons (pev_mul (pev_sub_ o (pev_var 0) (pev_int)) (pev_sub_ o (pev_var 1) (pev_int))) (pav_nil)))))
theorem raw_div {P : Program} {w : World} {G : Cg} {base : Heap} (T : Top G) : Fn P w G base "div" 3 2 R_div := fn_raw (N := n_div) T.d_div sc_div (b_div T)

abbrev F_div := R_div
theorem fn_div {P : Program} {w : World} {G : Cg} {base : Heap} (T : Top G) : Fn P w G base "div" 3 2 F_div := raw_div T

theorem ev_div {n m : Nat} {q r : Rat} {st : Sto} (hq : SmQ n q) (hr : SmQ m r) (h0 : r ≠ 0) (h : n + m < 9000 := by decide) : F_div [fr q, fr r] st = .ok (fr (q / r)) st := by
  have hs := hq.2.mul hr.1
  have hz : r.num ≠ 0 := fun z => h0 (Rat.num_eq_zero.mp z)
  simp only [R_div, T_div, dFn, sSeq, sSet, sPar, sRet, sRetN, sIf, sNil, sExpr, evL, dCall, dCallF, dVar, dC, dOp1, dOp2, dTst, dTru, tru, dNotT, dAndT, dOrT, dAndV, dOrV, dNotV, dIf, List.map_cons, List.map_nil, List.length_cons, List.length_nil, Nat.sub_self, Nat.reduceAdd, Nat.reduceSub, List.replicate_zero, List.reduceReplicate, List.append_nil, List.cons_append, List.nil_append, List.getElem?_cons_succ, List.getElem?_cons_zero, Out.bind_ok, Out.to_ok, List.set_cons_zero, List.set_cons_succ, if_true, if_false, Bool.not_false, Bool.not_true, Bool.false_eq_true, Bool.true_eq_false, reduceIte, if_pos, fr, ix0, ix1, oMul_sm hq.1 hr.2 (by omega), oMul_sm hq.2 hr.1 (by omega), ev_made _ _ _ (ne_mul (den_ne q) hz) hs h, divInt_div]

/-! over -/
theorem sc_over : FnScope n_over ["one", "other"] (defScope s_over) := ⟨rfl, rfl, rfl, by decide +kernel, rfl, by decide +kernel, by decide +kernel⟩
def T_over : DenS := sSeq (sExpr (dCallF 1 F_need_fraction [dVar 0])) (sSeq (sIf (dTst (dOp2 oEq (dCallF 1 F_need_fraction [dVar 1]) (dC c_NOUGHT))) (sNo) (sNil)) (sRet (dCallF 2 F_div [dVar 0, dVar 1])))
def R_over : List D → Sto → Out D := dFn 2 T_over
theorem b_over {P : Program} {w : World} {G : Cg} {base : Heap} (T : Top G) : ∀ (X : Cx) (W : WX), Ok X W 3 → (∃ f cdv A outer s H E, X = cxOf (L2.CX P w) P w G.K G.mg base n_over "over" (defScope s_over) f cdv A outer s H E) → PBv X W (defBody s_over) T_over := by
  rintro X W o ⟨f, cdv, A, outer, s, H, E, rfl⟩
  exact pbv_cons (psv_expr (pev_call o (fn_need_fraction T) (by decide) (pav_cons (pev_var 0) (pav_nil)))) (pbv_cons (psv_if (ptv_eq o (pev_call o (fn_need_fraction T) (by decide) (pav_cons (pev_var 1) (pav_nil))) (pev_glob T.c_NOUGHT)) (pbv_one (psv_never)) (pbv_nil)) (pbv_one (psv_ret (pev_call o (fn_div T) (by decide) (pav_cons (pev_var 0) (pav_cons (pev_var 1) (pav_nil)))))))
theorem raw_over {P : Program} {w : World} {G : Cg} {base : Heap} (T : Top G) : Fn P w G base "over" 4 2 R_over := fn_raw (N := n_over) T.d_over sc_over (b_over T)

abbrev F_over := R_over
theorem fn_over {P : Program} {w : World} {G : Cg} {base : Heap} (T : Top G) : Fn P w G base "over" 4 2 F_over := raw_over T

theorem c_NOUGHT_fr : c_NOUGHT = fr 0 := rfl
theorem ev_over {n m : Nat} {q r : Rat} {st : Sto} (hq : SmQ n q) (hr : SmQ m r) (h0 : r ≠ 0) (h : n + m < 9000 := by decide) : F_over [fr q, fr r] st = .ok (fr (q / r)) st := by
  simp only [R_over, T_over, dFn, sSeq, sSet, sPar, sRet, sRetN, sIf, sNil, sExpr, evL, dCall, dCallF, dVar, dC, dOp1, dOp2, dTst, dTru, tru, dNotT, dAndT, dOrT, dAndV, dOrV, dNotV, dIf, List.map_cons, List.map_nil, List.length_cons, List.length_nil, Nat.sub_self, Nat.reduceAdd, Nat.reduceSub, List.replicate_zero, List.reduceReplicate, List.append_nil, List.cons_append, List.nil_append, List.getElem?_cons_succ, List.getElem?_cons_zero, Out.bind_ok, Out.to_ok, List.set_cons_zero, List.set_cons_succ, if_true, if_false, Bool.not_false, Bool.not_true, Bool.false_eq_true, Bool.true_eq_false, reduceIte, if_pos, ev_need_fraction, c_NOUGHT_fr, oEq_fr, h0, decide_false, ev_div hq hr h0 h]

/-! _law_pair_right -/
theorem sc__law_pair_right : FnScope n__law_pair_right ["one", "other"] (defScope s__law_pair_right) := ⟨rfl, rfl, rfl, by decide +kernel, rfl, by decide +kernel, by decide +kernel⟩
def T__law_pair_right : DenS := sSeq (sIf (dOrT (dTst (dOp2 oNe (dCallF 1 F_need_fraction [dVar 0]) (dVar 0))) (dOrT (dTst (dOp2 oNe (dCallF 2 F_plus [dVar 0, dVar 1]) (dCallF 2 F__law_plus [dVar 0, dVar 1]))) (dTst (dOp2 oNe (dCallF 2 F_plus [dVar 0, dVar 1]) (dCallF 2 F_plus [dVar 1, dVar 0]))))) (sRet (dC (.bl false))) (sNil)) (sSeq (sIf (dOrT (dTst (dOp2 oNe (dCallF 2 F_less [dVar 0, dVar 1]) (dCallF 2 F__law_less [dVar 0, dVar 1]))) (dTst (dOp2 oNe (dCallF 2 F_less [dCallF 2 F_plus [dVar 0, dVar 1], dVar 1]) (dVar 0)))) (sRet (dC (.bl false))) (sNil)) (sSeq (sIf (dOrT (dTst (dOp2 oNe (dCallF 2 F_times [dVar 0, dVar 1]) (dCallF 2 F__law_times [dVar 0, dVar 1]))) (dTst (dOp2 oNe (dCallF 2 F_is_less [dVar 0, dVar 1]) (dCallF 2 F__law_under [dVar 0, dVar 1])))) (sRet (dC (.bl false))) (sNil)) (sSeq (sIf (dTst (dOp2 oNe (dOp2 oIx (dVar 1) (dC (.int 0))) (dC (.int 0)))) (sSeq (sSet 2 (dCallF 2 F__law_ratio [dOp2 oMul (dOp2 oMul (dOp2 oIx (dVar 0) (dC (.int 0))) (dOp2 oIx (dVar 1) (dC (.int 1)))) (dIf (dTst (dOp2 oGt (dOp2 oIx (dVar 1) (dC (.int 0))) (dC (.int 0)))) (dC (.int 1)) (dOp1 oNeg (dC (.int 1)))), dOp2 oMul (dOp2 oIx (dVar 0) (dC (.int 1))) (dCall bAbs [dOp2 oIx (dVar 1) (dC (.int 0))])])) (sIf (dOrT (dTst (dOp2 oNe (dCallF 2 F_over [dVar 0, dVar 1]) (dVar 2))) (dOrT (dTst (dOp2 oNe (dCallF 2 F_over [dVar 0, dVar 1]) (dVar 2))) (dTst (dOp2 oNe (dCallF 2 F_times [dCallF 2 F_over [dVar 0, dVar 1], dVar 1]) (dVar 0))))) (sRet (dC (.bl false))) (sNil))) (sNil)) (sRet (dAndV (dOp2 oEq (dCallF 2 F_is_less [dVar 0, dVar 1]) (dCallF 2 F_is_less [dCallF 2 F_less [dVar 0, dVar 1], dCall oTup [dC (.int 0), dC (.int 1)]])) (dOp2 oEq (dCallF 2 F_plus [dVar 0, dCall oTup [dC (.int 0), dC (.int 1)]]) (dVar 0)))))))
def R__law_pair_right : List D → Sto → Out D := dFn 3 T__law_pair_right
theorem b__law_pair_right {P : Program} {w : World} {G : Cg} {base : Heap} (T : Top G) : ∀ (X : Cx) (W : WX), Ok X W 4 → (∃ f cdv A outer s H E, X = cxOf (L2.CX P w) P w G.K G.mg base n__law_pair_right "_law_pair_right" (defScope s__law_pair_right) f cdv A outer s H E) → PBv X W (defBody s__law_pair_right) T__law_pair_right := by
  rintro X W o ⟨f, cdv, A, outer, s, H, E, rfl⟩
  exact pbv_cons (psv_if ((pwv_or (ptv_ne o (pev_call o (fn_need_fraction T) (by decide) (pav_cons (pev_var 0) (pav_nil))) (pev_var 0)) (pwv_or (ptv_ne o (pev_call o (fn_plus T) (by decide) (pav_cons (pev_var 0) (pav_cons (pev_var 1) (pav_nil)))) (pev_call o (fn__law_plus T) (by decide) (pav_cons (pev_var 0) (pav_cons (pev_var 1) (pav_nil))))) (pwv_or1 (ptv_ne o (pev_call o (fn_plus T) (by decide) (pav_cons (pev_var 0) (pav_cons (pev_var 1) (pav_nil)))) (pev_call o (fn_plus T) (by decide) (pav_cons (pev_var 1) (pav_cons (pev_var 0) (pav_nil)))))))).pt) (pbv_one (psv_ret (pev_bl))) (pbv_nil)) (pbv_cons (psv_if ((pwv_or (ptv_ne o (pev_call o (fn_less T) (by decide) (pav_cons (pev_var 0) (pav_cons (pev_var 1) (pav_nil)))) (pev_call o (fn__law_less T) (by decide) (pav_cons (pev_var 0) (pav_cons (pev_var 1) (pav_nil))))) (pwv_or1 (ptv_ne o (pev_call o (fn_less T) (by decide) (pav_cons (pev_call o (fn_plus T) (by decide) (pav_cons (pev_var 0) (pav_cons (pev_var 1) (pav_nil)))) (pav_cons (pev_var 1) (pav_nil)))) (pev_var 0)))).pt) (pbv_one (psv_ret (pev_bl))) (pbv_nil)) (pbv_cons (psv_if ((pwv_or (ptv_ne o (pev_call o (fn_times T) (by decide) (pav_cons (pev_var 0) (pav_cons (pev_var 1) (pav_nil)))) (pev_call o (fn__law_times T) (by decide) (pav_cons (pev_var 0) (pav_cons (pev_var 1) (pav_nil))))) (pwv_or1 (ptv_ne o (pev_call o (fn_is_less T) (by decide) (pav_cons (pev_var 0) (pav_cons (pev_var 1) (pav_nil)))) (pev_call o (fn__law_under T) (by decide) (pav_cons (pev_var 0) (pav_cons (pev_var 1) (pav_nil))))))).pt) (pbv_one (psv_ret (pev_bl))) (pbv_nil)) (pbv_cons (psv_if (ptv_ne o (pev_sub_ o (pev_var 1) (pev_int)) (pev_int)) (pbv_cons (psv_set o 2 (pev_call o (fn__law_ratio T) (by decide) (pav_cons (pev_mul (pev_mul (pev_sub_ o (pev_var 0) (pev_int)) (pev_sub_ o (pev_var 1) (pev_int))) (pev_if (ptv_gt (pev_sub_ o (pev_var 1) (pev_int)) (pev_int)) (pev_int) (pev_neg (pev_int)))) (pav_cons (pev_mul (pev_sub_ o (pev_var 0) (pev_int)) (pev_abs T.z_abs (pav_cons (pev_sub_ o (pev_var 1) (pev_int)) (pav_nil)))) (pav_nil))))) (pbv_one (psv_if ((pwv_or (ptv_ne o (pev_call o (fn_over T) (by decide) (pav_cons (pev_var 0) (pav_cons (pev_var 1) (pav_nil)))) (pev_var 2)) (pwv_or (ptv_ne o (pev_call o (fn_over T) (by decide) (pav_cons (pev_var 0) (pav_cons (pev_var 1) (pav_nil)))) (pev_var 2)) (pwv_or1 (ptv_ne o (pev_call o (fn_times T) (by decide) (pav_cons (pev_call o (fn_over T) (by decide) (pav_cons (pev_var 0) (pav_cons (pev_var 1) (pav_nil)))) (pav_cons (pev_var 1) (pav_nil)))) (pev_var 0))))).pt) (pbv_one (psv_ret (pev_bl))) (pbv_nil)))) (pbv_nil)) (pbv_one (psv_ret (pev_and (pev_eq o (pev_call o (fn_is_less T) (by decide) (pav_cons (pev_var 0) (pav_cons (pev_var 1) (pav_nil)))) (pev_call o (fn_is_less T) (by decide) (pav_cons (pev_call o (fn_less T) (by decide) (pav_cons (pev_var 0) (pav_cons (pev_var 1) (pav_nil)))) (pav_cons (pev_tup (pav_cons (pev_int) (pav_cons (pev_int) (pav_nil)))) (pav_nil))))) (pev_one (pev_eq o (pev_call o (fn_plus T) (by decide) (pav_cons (pev_var 0) (pav_cons (pev_tup (pav_cons (pev_int) (pav_cons (pev_int) (pav_nil)))) (pav_nil)))) (pev_var 0)))))))))
theorem raw__law_pair_right {P : Program} {w : World} {G : Cg} {base : Heap} (T : Top G) : Fn P w G base "_law_pair_right" 5 2 R__law_pair_right := fn_raw (N := n__law_pair_right) T.d__law_pair_right sc__law_pair_right (b__law_pair_right T)

abbrev F__law_pair_right := R__law_pair_right
theorem fn__law_pair_right {P : Program} {w : World} {G : Cg} {base : Heap} (T : Top G) : Fn P w G base "_law_pair_right" 5 2 F__law_pair_right := raw__law_pair_right T

theorem ev_pair_right {q r : Rat} {st : Sto} (hq : SmQ 70 q) (hr : SmQ 70 r) : F__law_pair_right [fr q, fr r] st = .ok (.bl true) st := by
  have e1 : q + r - r = q := by grind
  have e2 : r + q = q + r := Rat.add_comm r q
  have e3 : (decide (q < r) == decide (q - r < 0)) = true := by
    have : (q < r) ↔ (q - r < 0) := by constructor <;> intro h <;> grind
    simp [this]
  have e4 : q + 0 = q := Rat.add_zero q
  by_cases h0 : r = 0
  · have hn : r.num = 0 := by rw [h0]; rfl
    simp only [R__law_pair_right, T__law_pair_right, dFn, sSeq, sSet, sPar, sRet, sRetN, sIf, sNil, sExpr, evL, dCall, dCallF, dVar, dC, dOp1, dOp2, dTst, dTru, tru, dNotT, dAndT, dOrT, dAndV, dOrV, dNotV, dIf, List.map_cons, List.map_nil, List.length_cons, List.length_nil, Nat.sub_self, Nat.reduceAdd, Nat.reduceSub, List.replicate_zero, List.reduceReplicate, List.append_nil, List.cons_append, List.nil_append, List.getElem?_cons_succ, List.getElem?_cons_zero, Out.bind_ok, Out.to_ok, List.set_cons_zero, List.set_cons_succ, if_true, if_false, Bool.not_false, Bool.not_true, Bool.false_eq_true, Bool.true_eq_false, reduceIte, if_pos, ev_need_fraction, oNe_fr, decide_true, ev_plus hq hr, ev_plus hr hq, ev_law_plus hq hr, e2, ev_less hq hr, ev_law_less hq hr, ev_less (hq.add hr) hr, e1, ev_times hq hr, ev_law_times hq hr, ev_is_less hq hr, ev_law_under hq hr, oNe_bl, beq_self_eq_true,
      ix0_fr, hn, oNe_int, oTup01, ev_is_less (hq.sub hr) smq0, oEq_bl, e3, ev_plus hq smq0, e4, oEq_fr]
  · have hz : r.num ≠ 0 := fun z => h0 (Rat.num_eq_zero.mp z)
    have hnb : (r.num == 0) = false := by simpa using hz
    have e5 : q / r * r = q := Rat.div_mul_cancel h0
    by_cases hp : 0 < r.num
    · have hlt : ¬ r.num < 0 := by omega
      have hd : Rat.divInt (q.num * r.den * 1) (q.den * r.num) = q / r := by rw [Int.mul_one, divInt_div]
      simp only [R__law_pair_right, T__law_pair_right, dFn, sSeq, sSet, sPar, sRet, sRetN, sIf, sNil, sExpr, evL, dCall, dCallF, dVar, dC, dOp1, dOp2, dTst, dTru, tru, dNotT, dAndT, dOrT, dAndV, dOrV, dNotV, dIf, List.map_cons, List.map_nil, List.length_cons, List.length_nil, Nat.sub_self, Nat.reduceAdd, Nat.reduceSub, List.replicate_zero, List.reduceReplicate, List.append_nil, List.cons_append, List.nil_append, List.getElem?_cons_succ, List.getElem?_cons_zero, Out.bind_ok, Out.to_ok, List.set_cons_zero, List.set_cons_succ, if_true, if_false, Bool.not_false, Bool.not_true, Bool.false_eq_true, Bool.true_eq_false, reduceIte, if_pos, ev_need_fraction, oNe_fr, decide_true, ev_plus hq hr, ev_plus hr hq, ev_law_plus hq hr, e2, ev_less hq hr, ev_law_less hq hr, ev_less (hq.add hr) hr, e1, ev_times hq hr, ev_law_times hq hr, ev_is_less hq hr, ev_law_under hq hr, oNe_bl, beq_self_eq_true,
        ix0_fr, ix1_fr, hnb, oNe_int, oMul_sm hq.1 hr.2, oCmp, hp, oMul_sm (hq.1.mul hr.2) (show Sm 1 1 by decide), bAbs, hlt, oMul_sm hq.2 hr.1, ev_law_ratio _ _ _ (Int.mul_pos (den_pos q) hp) (hq.2.mul hr.1), hd, ev_over hq hr h0, ev_times (hq.div hr h0) hr, e5,
        oTup01, ev_is_less (hq.sub hr) smq0, oEq_bl, e3, ev_plus hq smq0, e4, oEq_fr]
    · have hlt : r.num < 0 := by omega
      have hng : Sm 70 (-r.num) := by have := hr.1; unfold Sm at *; omega
      have hd : Rat.divInt (q.num * r.den * -1) (q.den * -r.num) = q / r := by rw [Int.mul_neg_one, Int.mul_neg, Rat.neg_divInt_neg, divInt_div]
      simp only [R__law_pair_right, T__law_pair_right, dFn, sSeq, sSet, sPar, sRet, sRetN, sIf, sNil, sExpr, evL, dCall, dCallF, dVar, dC, dOp1, dOp2, dTst, dTru, tru, dNotT, dAndT, dOrT, dAndV, dOrV, dNotV, dIf, List.map_cons, List.map_nil, List.length_cons, List.length_nil, Nat.sub_self, Nat.reduceAdd, Nat.reduceSub, List.replicate_zero, List.reduceReplicate, List.append_nil, List.cons_append, List.nil_append, List.getElem?_cons_succ, List.getElem?_cons_zero, Out.bind_ok, Out.to_ok, List.set_cons_zero, List.set_cons_succ, if_true, if_false, Bool.not_false, Bool.not_true, Bool.false_eq_true, Bool.true_eq_false, reduceIte, if_pos, ev_need_fraction, oNe_fr, decide_true, ev_plus hq hr, ev_plus hr hq, ev_law_plus hq hr, e2, ev_less hq hr, ev_law_less hq hr, ev_less (hq.add hr) hr, e1, ev_times hq hr, ev_law_times hq hr, ev_is_less hq hr, ev_law_under hq hr, oNe_bl, beq_self_eq_true,
        ix0_fr, ix1_fr, hnb, oNe_int, oMul_sm hq.1 hr.2, oCmp, hp, decide_false, oNeg, oMul_sm (hq.1.mul hr.2) (show Sm 1 (-1) by decide), bAbs, hlt, oMul_sm hq.2 hng, ev_law_ratio _ _ _ (Int.mul_pos (den_pos q) (show 0 < -r.num by omega)) (hq.2.mul hng), hd, ev_over hq hr h0, ev_times (hq.div hr h0) hr, e5,
        oTup01, ev_is_less (hq.sub hr) smq0, oEq_bl, e3, ev_plus hq smq0, e4, oEq_fr]

/-! ratio -/
theorem sc_ratio : FnScope n_ratio ["top", "bottom"] (defScope s_ratio) := ⟨rfl, rfl, rfl, by decide +kernel, rfl, by decide +kernel, by decide +kernel⟩
def T_ratio : DenS := sSeq (sIf (dNotT (dTru (dCallF 1 F_is_integer [dVar 0]))) (sNo) (sNil)) (sSeq (sIf (dOrT (dNotT (dTru (dCallF 1 F_is_integer [dVar 1]))) (dTst (dOp2 oEq (dVar 1) (dC (.int 0))))) (sNo) (sNil)) (sRet (dCallF 2 F_made [dVar 0, dVar 1])))
def R_ratio : List D → Sto → Out D := dFn 2 T_ratio
theorem b_ratio {P : Program} {w : World} {G : Cg} {base : Heap} (T : Top G) : ∀ (X : Cx) (W : WX), Ok X W 2 → (∃ f cdv A outer s H E, X = cxOf (L2.CX P w) P w G.K G.mg base n_ratio "ratio" (defScope s_ratio) f cdv A outer s H E) → PBv X W (defBody s_ratio) T_ratio := by
  rintro X W o ⟨f, cdv, A, outer, s, H, E, rfl⟩
  exact pbv_cons (psv_if (ptv_not (ptv_tru (pev_call o (fn_is_integer T) (by decide) (pav_cons (pev_var 0) (pav_nil))))) (pbv_one (psv_never)) (pbv_nil)) (pbv_cons (psv_if ((pwv_or (ptv_not (ptv_tru (pev_call o (fn_is_integer T) (by decide) (pav_cons (pev_var 1) (pav_nil))))) (pwv_or1 (ptv_eq o (pev_var 1) (pev_int)))).pt) (pbv_one (psv_never)) (pbv_nil)) (pbv_one (psv_ret (pev_call o (fn_made T) (by decide) (pav_cons (pev_var 0) (pav_cons (pev_var 1) (pav_nil)))))))
theorem raw_ratio {P : Program} {w : World} {G : Cg} {base : Heap} (T : Top G) : Fn P w G base "ratio" 3 2 R_ratio := fn_raw (N := n_ratio) T.d_ratio sc_ratio (b_ratio T)

abbrev F_ratio := R_ratio
theorem fn_ratio {P : Program} {w : World} {G : Cg} {base : Heap} (T : Top G) : Fn P w G base "ratio" 3 2 F_ratio := raw_ratio T

theorem ev_ratio {n : Nat} (t b : Int) (st : Sto) (h : b ≠ 0) (hs : Sm n b) (hn : n < 9000 := by decide) : F_ratio [.int t, .int b] st = .ok (fr (Rat.divInt t b)) st := by
  have hz : (b == 0) = false := by simpa using h
  simp only [R_ratio, T_ratio, dFn, sSeq, sSet, sPar, sRet, sRetN, sIf, sNil, sExpr, evL, dCall, dCallF, dVar, dC, dOp1, dOp2, dTst, dTru, tru, dNotT, dAndT, dOrT, dAndV, dOrV, dNotV, dIf, List.map_cons, List.map_nil, List.length_cons, List.length_nil, Nat.sub_self, Nat.reduceAdd, Nat.reduceSub, List.replicate_zero, List.reduceReplicate, List.append_nil, List.cons_append, List.nil_append, List.getElem?_cons_succ, List.getElem?_cons_zero, Out.bind_ok, Out.to_ok, List.set_cons_zero, List.set_cons_succ, if_true, if_false, Bool.not_false, Bool.not_true, Bool.false_eq_true, Bool.true_eq_false, reduceIte, if_pos, ev_is_integer_int, oEq_int, hz, ev_made t b st h hs hn]

/-! law -/
theorem sc_law : FnScope n_law ["script"] (defScope s_law) := ⟨rfl, rfl, rfl, by decide +kernel, rfl, by decide +kernel, by decide +kernel⟩
def B_law_0 : DenS := sSeq (sPar 3 4 [dCallF 1 F__law_drawn [dVar 1], dCallF 1 F__law_drawn [dVar 1]]) (sSeq (sIf (dNotT (dTru (dCallF 2 F__law_pair_right [dVar 3, dVar 4]))) (sRet (dC (.bl false))) (sNil)) (sSeq (sPar 5 6 [dOp2 oSub (dCallF 2 F__law_draw [dVar 1, dC (.int 201)]) (dC (.int 100)), dOp2 oAdd (dC (.int 1)) (dCallF 2 F__law_draw [dVar 1, dC (.int 50)])]) (sIf (dOrT (dTst (dOp2 oNe (dCallF 2 F_ratio [dVar 5, dVar 6]) (dCallF 2 F__law_ratio [dVar 5, dVar 6]))) (dTst (dOp2 oNe (dCallF 2 F_ratio [dOp2 oSub (dC (.int 0)) (dVar 5), dOp2 oSub (dC (.int 0)) (dVar 6)]) (dCallF 2 F__law_ratio [dVar 5, dVar 6])))) (sRet (dC (.bl false))) (sNil))))
def T_law : DenS := sSeq (sSet 1 (dCallF 1 F__law_begin [dVar 0])) (sSeq (sFor (dItR1 [dC (.int 12)]) (.nm 2) (B_law_0)) (sSeq (sIf (dOrT (dTst (dOp2 oNe (dCallF 2 F_ratio [dC (.int 0), dOp1 oNeg (dC (.int 7))]) (dCall oTup [dC (.int 0), dC (.int 1)]))) (dOrT (dTst (dOp2 oNe (dCallF 2 F_ratio [dC (.int 6), dOp1 oNeg (dC (.int 4))]) (dCall oTup [dOp1 oNeg (dC (.int 3)), dC (.int 2)]))) (dTst (dOp2 oNe (dCallF 2 F_over [dCall oTup [dC (.int 1), dC (.int 2)], dCall oTup [dOp1 oNeg (dC (.int 1)), dC (.int 3)]]) (dCall oTup [dOp1 oNeg (dC (.int 3)), dC (.int 2)]))))) (sRet (dC (.bl false))) (sNil)) (sRet (dAndV (dOp2 oIs (dCallF 2 F_is_less [dCall oTup [dC (.int 1), dC (.int 3)], dCall oTup [dC (.int 1), dC (.int 2)]]) (dC (.bl true))) (dOp2 oIs (dCallF 2 F_is_less [dCall oTup [dC (.int 1), dC (.int 2)], dCall oTup [dC (.int 1), dC (.int 2)]]) (dC (.bl false)))))))
def R_law : List D → Sto → Out D := dFn 7 T_law
theorem b_law {P : Program} {w : World} {G : Cg} {base : Heap} (T : Top G) : ∀ (X : Cx) (W : WX), Ok X W 5 → (∃ f cdv A outer s H E, X = cxOf (L2.CX P w) P w G.K G.mg base n_law "law" (defScope s_law) f cdv A outer s H E) → PBv X W (defBody s_law) T_law := by
  rintro X W o ⟨f, cdv, A, outer, s, H, E, rfl⟩
  exact pbv_cons (psv_set o 1 (pev_call o (fn__law_begin T) (by decide) (pav_cons (pev_var 0) (pav_nil)))) (pbv_cons (psv_for o (piv_rng1 T.z_range (pav_cons (pev_int) (pav_nil))) (pgv_name o.nd 2) (pbv_cons (psv_par o 3 4 (pav_cons (pev_call o (fn__law_drawn T) (by decide) (pav_cons (pev_var 1) (pav_nil))) (pav_cons (pev_call o (fn__law_drawn T) (by decide) (pav_cons (pev_var 1) (pav_nil))) (pav_nil)))) (pbv_cons (psv_if (ptv_not (ptv_tru (pev_call o (fn__law_pair_right T) (by decide) (pav_cons (pev_var 3) (pav_cons (pev_var 4) (pav_nil)))))) (pbv_one (psv_ret (pev_bl))) (pbv_nil)) (pbv_cons (psv_par o 5 6 (pav_cons (pev_sub (pev_call o (fn__law_draw T) (by decide) (pav_cons (pev_var 1) (pav_cons (pev_int) (pav_nil)))) (pev_int)) (pav_cons (pev_add (pev_int) (pev_call o (fn__law_draw T) (by decide) (pav_cons (pev_var 1) (pav_cons (pev_int) (pav_nil))))) (pav_nil)))) (pbv_one (psv_if ((pwv_or (ptv_ne o (pev_call o (fn_ratio T) (by decide) (pav_cons (pev_var 5) (pav_cons (pev_var 6) (pav_nil)))) (pev_call o (fn__law_ratio T) (by decide) (pav_cons (pev_var 5) (pav_cons (pev_var 6) (pav_nil))))) (pwv_or1 (ptv_ne o (pev_call o (fn_ratio T) (by decide) (pav_cons (pev_sub (pev_int) (pev_var 5)) (pav_cons (pev_sub (pev_int) (pev_var 6)) (pav_nil)))) (pev_call o (fn__law_ratio T) (by decide) (pav_cons (pev_var 5) (pav_cons (pev_var 6) (pav_nil))))))).pt) (pbv_one (psv_ret (pev_bl))) (pbv_nil))))))) (pbv_cons (psv_if ((pwv_or (ptv_ne o (pev_call o (fn_ratio T) (by decide) (pav_cons (pev_int) (pav_cons (pev_neg (pev_int)) (pav_nil)))) (pev_tup (pav_cons (pev_int) (pav_cons (pev_int) (pav_nil))))) (pwv_or (ptv_ne o (pev_call o (fn_ratio T) (by decide) (pav_cons (pev_int) (pav_cons (pev_neg (pev_int)) (pav_nil)))) (pev_tup (pav_cons (pev_neg (pev_int)) (pav_cons (pev_int) (pav_nil))))) (pwv_or1 (ptv_ne o (pev_call o (fn_over T) (by decide) (pav_cons (pev_tup (pav_cons (pev_int) (pav_cons (pev_int) (pav_nil)))) (pav_cons (pev_tup (pav_cons (pev_neg (pev_int)) (pav_cons (pev_int) (pav_nil)))) (pav_nil)))) (pev_tup (pav_cons (pev_neg (pev_int)) (pav_cons (pev_int) (pav_nil)))))))).pt) (pbv_one (psv_ret (pev_bl))) (pbv_nil)) (pbv_one (psv_ret (pev_and (pev_is (pev_call o (fn_is_less T) (by decide) (pav_cons (pev_tup (pav_cons (pev_int) (pav_cons (pev_int) (pav_nil)))) (pav_cons (pev_tup (pav_cons (pev_int) (pav_cons (pev_int) (pav_nil)))) (pav_nil)))) (pev_bl)) (pev_one (pev_is (pev_call o (fn_is_less T) (by decide) (pav_cons (pev_tup (pav_cons (pev_int) (pav_cons (pev_int) (pav_nil)))) (pav_cons (pev_tup (pav_cons (pev_int) (pav_cons (pev_int) (pav_nil)))) (pav_nil)))) (pev_bl))))))))
theorem raw_law {P : Program} {w : World} {G : Cg} {base : Heap} (T : Top G) : Fn P w G base "law" 6 1 R_law := fn_raw (N := n_law) T.d_law sc_law (b_law T)

abbrev F_law := R_law
theorem fn_law {P : Program} {w : World} {G : Cg} {base : Heap} (T : Top G) : Fn P w G base "law" 6 1 F_law := raw_law T

theorem c1 (st : Sto) : F_ratio [.int 0, .int (-7)] st = .ok (fr 0) st := rfl
theorem c2 (st : Sto) : F_ratio [.int 6, .int (-4)] st = .ok (.tup [.int (-3), .int 2]) st := rfl
theorem c3 (st : Sto) : F_over [.tup [.int 1, .int 2], .tup [.int (-1), .int 3]] st = .ok (.tup [.int (-3), .int 2]) st := rfl
theorem c4 (st : Sto) : F_is_less [.tup [.int 1, .int 3], .tup [.int 1, .int 2]] st = .ok (.bl true) st := rfl
theorem c5 (st : Sto) : F_is_less [.tup [.int 1, .int 2], .tup [.int 1, .int 2]] st = .ok (.bl false) st := rfl
theorem c6 (a b c d : Int) (st : Sto) : oNe (.tup [.int a, .int b]) (.tup [.int c, .int d]) st = .ok (.bl (!((a == c) && ((b == d) && true)))) st := rfl
theorem ev_loop {cs : List Int} : ∀ (ds : List D) (a : Nat) (st : Sto) (s u v w x y : Option D), Dr cs a st [] → a + 8 * ds.length ≤ 1000 →
    ∃ (a' : Nat) (st' : Sto) (u' v' w' x' y' : Option D), Dr cs a' st' [] ∧
      fLoop (.nm 2) B_law_0 ds [s, some (.ptr 1), u, v, w, x, y] st
        = some (.nx [s, some (.ptr 1), u', v', w', x', y'], st')
  | [], a, st, s, u, v, w, x, y, d, h => ⟨a, st, u, v, w, x, y, d, rfl⟩
  | t :: ds, a, st, s, u, v, w, x, y, d, h => by
    simp only [List.length_cons] at h
    obtain ⟨q, st1, a1, hq, h1, d1, e1⟩ := ev_law_drawn d (by omega)
    obtain ⟨r, st2, a2, hr, h2, d2, e2⟩ := ev_law_drawn d1 (by omega)
    obtain ⟨m, st3, m0, m1, d3, e3⟩ := drw d2 201
    obtain ⟨k, st4, k0, k1, d4, e4⟩ := drw d3 50
    have hb : 0 < 1 + k := by omega
    have hb2 : 1 + k ≠ 0 := by omega
    have hb3 : 0 - (1 + k) ≠ 0 := by omega
    have s1 : Sm 70 (1 + k) := by unfold Sm; omega
    have s2 : Sm 70 (0 - (1 + k)) := by unfold Sm; omega
    have en : Rat.divInt (0 - (m - 100)) (0 - (1 + k)) = Rat.divInt (m - 100) (1 + k) := by rw [Int.zero_sub, Int.zero_sub]; exact Rat.neg_divInt_neg _ _
    obtain ⟨a', st', u', v', w', x', y', d', e'⟩ := ev_loop ds (a2 + 1 + 1) st4 s (some t) (some (fr q)) (some (fr r)) (some (.int (m - 100))) (some (.int (1 + k))) d4 (by omega)
    refine ⟨a', st', u', v', w', x', y', d', ?_⟩
    rw [← e', fLoop]
    simp only [Pat.set, B_law_0, dFn, sSeq, sSet, sPar, sRet, sRetN, sIf, sNil, sExpr, evL, dCall, dCallF, dVar, dC, dOp1, dOp2, dTst, dTru, tru, dNotT, dAndT, dOrT, dAndV, dOrV, dNotV, dIf, List.map_cons, List.map_nil, List.length_cons, List.length_nil, Nat.sub_self, Nat.reduceAdd, Nat.reduceSub, List.replicate_zero, List.reduceReplicate, List.append_nil, List.cons_append, List.nil_append, List.getElem?_cons_succ, List.getElem?_cons_zero, Out.bind_ok, Out.to_ok, List.set_cons_zero, List.set_cons_succ, if_true, if_false, Bool.not_false, Bool.not_true, Bool.false_eq_true, Bool.true_eq_false, reduceIte, if_pos, e1, e2, ev_pair_right hq hr, e3, oSub, e4, oAdd, ev_ratio _ _ _ hb2 s1, ev_law_ratio _ _ _ hb s1, ev_ratio _ _ _ hb3 s2, en, oNe_fr, decide_true]
theorem law_true (ns : List Int) (hl : ns.length ≤ 63) : ∃ st, F_law [.fls (ns.map .int)] [] = .ok (.bl true) st := by
  obtain ⟨cs, st0, d0, e0⟩ := ev_law_begin ns hl
  obtain ⟨a', st', u', v', w', x', y', d', e'⟩ := ev_loop (rngL 0 12) 0 st0 (some (.fls (ns.map .int))) none none none none none d0 (by decide)
  refine ⟨st', ?_⟩
  have hr : dRng1 [.int 12] st0 = .ok (rngL 0 12) st0 := rfl
  simp only [R_law, T_law, dFn, sSeq, sSet, sPar, sRet, sRetN, sIf, sNil, sExpr, evL, dCall, dCallF, dVar, dC, dOp1, dOp2, dTst, dTru, tru, dNotT, dAndT, dOrT, dAndV, dOrV, dNotV, dIf, List.map_cons, List.map_nil, List.length_cons, List.length_nil, Nat.sub_self, Nat.reduceAdd, Nat.reduceSub, List.replicate_zero, List.reduceReplicate, List.append_nil, List.cons_append, List.nil_append, List.getElem?_cons_succ, List.getElem?_cons_zero, Out.bind_ok, Out.to_ok, List.set_cons_zero, List.set_cons_succ, if_true, if_false, Bool.not_false, Bool.not_true, Bool.false_eq_true, Bool.true_eq_false, reduceIte, if_pos, e0, sFor, dItR1, hr, e', oNeg, c1, c2, oTup2, show ∀ st, oNe (fr 0) (D.tup [.int 0, .int 1]) st = .ok (.bl false) st from fun _ => rfl, decide_true, c3, c4, c5, c6, beq_self_eq_true, oIs, Bool.and_self]

/-! what the top has written -/
theorem top_mk {K : Frag} {h : Heap} {mg : Str → Option Value} (X : K.In h) (G : h.Ns mainGlobals mg)
    {f0 : Addr} {od0 an0 : Option Addr} {sl0 : Array (Option Value)} {oc0 kV0 dc0 pm0 cd0 ct0 : Value} (a0 : PySem.W.nsIn K mainGlobals "_law_begin" = some (some (.ref f0))) (l0 : K.lookup f0 = some ⟨oc0, od0, .func (PySem.W.fnOf "_law_begin" "_law_begin" (defArgs s__law_begin) (defBody s__law_begin) (defScope s__law_begin) .none kV0 dc0 pm0 an0 cd0 ct0), sl0⟩) (c0 : PySem.W.codeIn K cd0 "_law_begin" = true) (k0 : PySem.W.keepIn K (.ref f0) = true)
    {f1 : Addr} {od1 an1 : Option Addr} {sl1 : Array (Option Value)} {oc1 kV1 dc1 pm1 cd1 ct1 : Value} (a1 : PySem.W.nsIn K mainGlobals "_law_ratio" = some (some (.ref f1))) (l1 : K.lookup f1 = some ⟨oc1, od1, .func (PySem.W.fnOf "_law_ratio" "_law_ratio" (defArgs s__law_ratio) (defBody s__law_ratio) (defScope s__law_ratio) .none kV1 dc1 pm1 an1 cd1 ct1), sl1⟩) (c1 : PySem.W.codeIn K cd1 "_law_ratio" = true) (k1 : PySem.W.keepIn K (.ref f1) = true)
    {f2 : Addr} {od2 an2 : Option Addr} {sl2 : Array (Option Value)} {oc2 kV2 dc2 pm2 cd2 ct2 : Value} (a2 : PySem.W.nsIn K mainGlobals "_law_mixed" = some (some (.ref f2))) (l2 : K.lookup f2 = some ⟨oc2, od2, .func (PySem.W.fnOf "_law_mixed" "_law_mixed" (defArgs s__law_mixed) (defBody s__law_mixed) (defScope s__law_mixed) .none kV2 dc2 pm2 an2 cd2 ct2), sl2⟩) (c2 : PySem.W.codeIn K cd2 "_law_mixed" = true) (k2 : PySem.W.keepIn K (.ref f2) = true)
    {f3 : Addr} {od3 an3 : Option Addr} {sl3 : Array (Option Value)} {oc3 kV3 dc3 pm3 cd3 ct3 : Value} (a3 : PySem.W.nsIn K mainGlobals "_law_draw" = some (some (.ref f3))) (l3 : K.lookup f3 = some ⟨oc3, od3, .func (PySem.W.fnOf "_law_draw" "_law_draw" (defArgs s__law_draw) (defBody s__law_draw) (defScope s__law_draw) .none kV3 dc3 pm3 an3 cd3 ct3), sl3⟩) (c3 : PySem.W.codeIn K cd3 "_law_draw" = true) (k3 : PySem.W.keepIn K (.ref f3) = true)
    {f4 : Addr} {od4 an4 : Option Addr} {sl4 : Array (Option Value)} {oc4 kV4 dc4 pm4 cd4 ct4 : Value} (a4 : PySem.W.nsIn K mainGlobals "_law_drawn" = some (some (.ref f4))) (l4 : K.lookup f4 = some ⟨oc4, od4, .func (PySem.W.fnOf "_law_drawn" "_law_drawn" (defArgs s__law_drawn) (defBody s__law_drawn) (defScope s__law_drawn) .none kV4 dc4 pm4 an4 cd4 ct4), sl4⟩) (c4 : PySem.W.codeIn K cd4 "_law_drawn" = true) (k4 : PySem.W.keepIn K (.ref f4) = true)
    {f5 : Addr} {od5 an5 : Option Addr} {sl5 : Array (Option Value)} {oc5 kV5 dc5 pm5 cd5 ct5 : Value} (a5 : PySem.W.nsIn K mainGlobals "common" = some (some (.ref f5))) (l5 : K.lookup f5 = some ⟨oc5, od5, .func (PySem.W.fnOf "common" "common" (defArgs s_common) (defBody s_common) (defScope s_common) .none kV5 dc5 pm5 an5 cd5 ct5), sl5⟩) (c5 : PySem.W.codeIn K cd5 "common" = true) (k5 : PySem.W.keepIn K (.ref f5) = true)
    {f6 : Addr} {od6 an6 : Option Addr} {sl6 : Array (Option Value)} {oc6 kV6 dc6 pm6 cd6 ct6 : Value} (a6 : PySem.W.nsIn K mainGlobals "is_integer" = some (some (.ref f6))) (l6 : K.lookup f6 = some ⟨oc6, od6, .func (PySem.W.fnOf "is_integer" "is_integer" (defArgs s_is_integer) (defBody s_is_integer) (defScope s_is_integer) .none kV6 dc6 pm6 an6 cd6 ct6), sl6⟩) (c6 : PySem.W.codeIn K cd6 "is_integer" = true) (k6 : PySem.W.keepIn K (.ref f6) = true)
    {f7 : Addr} {od7 an7 : Option Addr} {sl7 : Array (Option Value)} {oc7 kV7 dc7 pm7 cd7 ct7 : Value} (a7 : PySem.W.nsIn K mainGlobals "is_fraction" = some (some (.ref f7))) (l7 : K.lookup f7 = some ⟨oc7, od7, .func (PySem.W.fnOf "is_fraction" "is_fraction" (defArgs s_is_fraction) (defBody s_is_fraction) (defScope s_is_fraction) .none kV7 dc7 pm7 an7 cd7 ct7), sl7⟩) (c7 : PySem.W.codeIn K cd7 "is_fraction" = true) (k7 : PySem.W.keepIn K (.ref f7) = true)
    {f8 : Addr} {od8 an8 : Option Addr} {sl8 : Array (Option Value)} {oc8 kV8 dc8 pm8 cd8 ct8 : Value} (a8 : PySem.W.nsIn K mainGlobals "need_fraction" = some (some (.ref f8))) (l8 : K.lookup f8 = some ⟨oc8, od8, .func (PySem.W.fnOf "need_fraction" "need_fraction" (defArgs s_need_fraction) (defBody s_need_fraction) (defScope s_need_fraction) .none kV8 dc8 pm8 an8 cd8 ct8), sl8⟩) (c8 : PySem.W.codeIn K cd8 "need_fraction" = true) (k8 : PySem.W.keepIn K (.ref f8) = true)
    {f9 : Addr} {od9 an9 : Option Addr} {sl9 : Array (Option Value)} {oc9 kV9 dc9 pm9 cd9 ct9 : Value} (a9 : PySem.W.nsIn K mainGlobals "made" = some (some (.ref f9))) (l9 : K.lookup f9 = some ⟨oc9, od9, .func (PySem.W.fnOf "made" "made" (defArgs s_made) (defBody s_made) (defScope s_made) .none kV9 dc9 pm9 an9 cd9 ct9), sl9⟩) (c9 : PySem.W.codeIn K cd9 "made" = true) (k9 : PySem.W.keepIn K (.ref f9) = true)
    {f10 : Addr} {od10 an10 : Option Addr} {sl10 : Array (Option Value)} {oc10 kV10 dc10 pm10 cd10 ct10 : Value} (a10 : PySem.W.nsIn K mainGlobals "add" = some (some (.ref f10))) (l10 : K.lookup f10 = some ⟨oc10, od10, .func (PySem.W.fnOf "add" "add" (defArgs s_add) (defBody s_add) (defScope s_add) .none kV10 dc10 pm10 an10 cd10 ct10), sl10⟩) (c10 : PySem.W.codeIn K cd10 "add" = true) (k10 : PySem.W.keepIn K (.ref f10) = true)
    {f11 : Addr} {od11 an11 : Option Addr} {sl11 : Array (Option Value)} {oc11 kV11 dc11 pm11 cd11 ct11 : Value} (a11 : PySem.W.nsIn K mainGlobals "plus" = some (some (.ref f11))) (l11 : K.lookup f11 = some ⟨oc11, od11, .func (PySem.W.fnOf "plus" "plus" (defArgs s_plus) (defBody s_plus) (defScope s_plus) .none kV11 dc11 pm11 an11 cd11 ct11), sl11⟩) (c11 : PySem.W.codeIn K cd11 "plus" = true) (k11 : PySem.W.keepIn K (.ref f11) = true)
    {f12 : Addr} {od12 an12 : Option Addr} {sl12 : Array (Option Value)} {oc12 kV12 dc12 pm12 cd12 ct12 : Value} (a12 : PySem.W.nsIn K mainGlobals "_law_plus" = some (some (.ref f12))) (l12 : K.lookup f12 = some ⟨oc12, od12, .func (PySem.W.fnOf "_law_plus" "_law_plus" (defArgs s__law_plus) (defBody s__law_plus) (defScope s__law_plus) .none kV12 dc12 pm12 an12 cd12 ct12), sl12⟩) (c12 : PySem.W.codeIn K cd12 "_law_plus" = true) (k12 : PySem.W.keepIn K (.ref f12) = true)
    {f13 : Addr} {od13 an13 : Option Addr} {sl13 : Array (Option Value)} {oc13 kV13 dc13 pm13 cd13 ct13 : Value} (a13 : PySem.W.nsIn K mainGlobals "sub" = some (some (.ref f13))) (l13 : K.lookup f13 = some ⟨oc13, od13, .func (PySem.W.fnOf "sub" "sub" (defArgs s_sub) (defBody s_sub) (defScope s_sub) .none kV13 dc13 pm13 an13 cd13 ct13), sl13⟩) (c13 : PySem.W.codeIn K cd13 "sub" = true) (k13 : PySem.W.keepIn K (.ref f13) = true)
    {f14 : Addr} {od14 an14 : Option Addr} {sl14 : Array (Option Value)} {oc14 kV14 dc14 pm14 cd14 ct14 : Value} (a14 : PySem.W.nsIn K mainGlobals "less" = some (some (.ref f14))) (l14 : K.lookup f14 = some ⟨oc14, od14, .func (PySem.W.fnOf "less" "less" (defArgs s_less) (defBody s_less) (defScope s_less) .none kV14 dc14 pm14 an14 cd14 ct14), sl14⟩) (c14 : PySem.W.codeIn K cd14 "less" = true) (k14 : PySem.W.keepIn K (.ref f14) = true)
    {f15 : Addr} {od15 an15 : Option Addr} {sl15 : Array (Option Value)} {oc15 kV15 dc15 pm15 cd15 ct15 : Value} (a15 : PySem.W.nsIn K mainGlobals "_law_less" = some (some (.ref f15))) (l15 : K.lookup f15 = some ⟨oc15, od15, .func (PySem.W.fnOf "_law_less" "_law_less" (defArgs s__law_less) (defBody s__law_less) (defScope s__law_less) .none kV15 dc15 pm15 an15 cd15 ct15), sl15⟩) (c15 : PySem.W.codeIn K cd15 "_law_less" = true) (k15 : PySem.W.keepIn K (.ref f15) = true)
    {f16 : Addr} {od16 an16 : Option Addr} {sl16 : Array (Option Value)} {oc16 kV16 dc16 pm16 cd16 ct16 : Value} (a16 : PySem.W.nsIn K mainGlobals "mul" = some (some (.ref f16))) (l16 : K.lookup f16 = some ⟨oc16, od16, .func (PySem.W.fnOf "mul" "mul" (defArgs s_mul) (defBody s_mul) (defScope s_mul) .none kV16 dc16 pm16 an16 cd16 ct16), sl16⟩) (c16 : PySem.W.codeIn K cd16 "mul" = true) (k16 : PySem.W.keepIn K (.ref f16) = true)
    {f17 : Addr} {od17 an17 : Option Addr} {sl17 : Array (Option Value)} {oc17 kV17 dc17 pm17 cd17 ct17 : Value} (a17 : PySem.W.nsIn K mainGlobals "times" = some (some (.ref f17))) (l17 : K.lookup f17 = some ⟨oc17, od17, .func (PySem.W.fnOf "times" "times" (defArgs s_times) (defBody s_times) (defScope s_times) .none kV17 dc17 pm17 an17 cd17 ct17), sl17⟩) (c17 : PySem.W.codeIn K cd17 "times" = true) (k17 : PySem.W.keepIn K (.ref f17) = true)
    {f18 : Addr} {od18 an18 : Option Addr} {sl18 : Array (Option Value)} {oc18 kV18 dc18 pm18 cd18 ct18 : Value} (a18 : PySem.W.nsIn K mainGlobals "_law_times" = some (some (.ref f18))) (l18 : K.lookup f18 = some ⟨oc18, od18, .func (PySem.W.fnOf "_law_times" "_law_times" (defArgs s__law_times) (defBody s__law_times) (defScope s__law_times) .none kV18 dc18 pm18 an18 cd18 ct18), sl18⟩) (c18 : PySem.W.codeIn K cd18 "_law_times" = true) (k18 : PySem.W.keepIn K (.ref f18) = true)
    {f19 : Addr} {od19 an19 : Option Addr} {sl19 : Array (Option Value)} {oc19 kV19 dc19 pm19 cd19 ct19 : Value} (a19 : PySem.W.nsIn K mainGlobals "is_under" = some (some (.ref f19))) (l19 : K.lookup f19 = some ⟨oc19, od19, .func (PySem.W.fnOf "is_under" "is_under" (defArgs s_is_under) (defBody s_is_under) (defScope s_is_under) .none kV19 dc19 pm19 an19 cd19 ct19), sl19⟩) (c19 : PySem.W.codeIn K cd19 "is_under" = true) (k19 : PySem.W.keepIn K (.ref f19) = true)
    {f20 : Addr} {od20 an20 : Option Addr} {sl20 : Array (Option Value)} {oc20 kV20 dc20 pm20 cd20 ct20 : Value} (a20 : PySem.W.nsIn K mainGlobals "is_less" = some (some (.ref f20))) (l20 : K.lookup f20 = some ⟨oc20, od20, .func (PySem.W.fnOf "is_less" "is_less" (defArgs s_is_less) (defBody s_is_less) (defScope s_is_less) .none kV20 dc20 pm20 an20 cd20 ct20), sl20⟩) (c20 : PySem.W.codeIn K cd20 "is_less" = true) (k20 : PySem.W.keepIn K (.ref f20) = true)
    {f21 : Addr} {od21 an21 : Option Addr} {sl21 : Array (Option Value)} {oc21 kV21 dc21 pm21 cd21 ct21 : Value} (a21 : PySem.W.nsIn K mainGlobals "_law_under" = some (some (.ref f21))) (l21 : K.lookup f21 = some ⟨oc21, od21, .func (PySem.W.fnOf "_law_under" "_law_under" (defArgs s__law_under) (defBody s__law_under) (defScope s__law_under) .none kV21 dc21 pm21 an21 cd21 ct21), sl21⟩) (c21 : PySem.W.codeIn K cd21 "_law_under" = true) (k21 : PySem.W.keepIn K (.ref f21) = true)
    {f22 : Addr} {od22 an22 : Option Addr} {sl22 : Array (Option Value)} {oc22 kV22 dc22 pm22 cd22 ct22 : Value} (a22 : PySem.W.nsIn K mainGlobals "div" = some (some (.ref f22))) (l22 : K.lookup f22 = some ⟨oc22, od22, .func (PySem.W.fnOf "div" "div" (defArgs s_div) (defBody s_div) (defScope s_div) .none kV22 dc22 pm22 an22 cd22 ct22), sl22⟩) (c22 : PySem.W.codeIn K cd22 "div" = true) (k22 : PySem.W.keepIn K (.ref f22) = true)
    {f23 : Addr} {od23 an23 : Option Addr} {sl23 : Array (Option Value)} {oc23 kV23 dc23 pm23 cd23 ct23 : Value} (a23 : PySem.W.nsIn K mainGlobals "over" = some (some (.ref f23))) (l23 : K.lookup f23 = some ⟨oc23, od23, .func (PySem.W.fnOf "over" "over" (defArgs s_over) (defBody s_over) (defScope s_over) .none kV23 dc23 pm23 an23 cd23 ct23), sl23⟩) (c23 : PySem.W.codeIn K cd23 "over" = true) (k23 : PySem.W.keepIn K (.ref f23) = true)
    {f24 : Addr} {od24 an24 : Option Addr} {sl24 : Array (Option Value)} {oc24 kV24 dc24 pm24 cd24 ct24 : Value} (a24 : PySem.W.nsIn K mainGlobals "_law_pair_right" = some (some (.ref f24))) (l24 : K.lookup f24 = some ⟨oc24, od24, .func (PySem.W.fnOf "_law_pair_right" "_law_pair_right" (defArgs s__law_pair_right) (defBody s__law_pair_right) (defScope s__law_pair_right) .none kV24 dc24 pm24 an24 cd24 ct24), sl24⟩) (c24 : PySem.W.codeIn K cd24 "_law_pair_right" = true) (k24 : PySem.W.keepIn K (.ref f24) = true)
    {f25 : Addr} {od25 an25 : Option Addr} {sl25 : Array (Option Value)} {oc25 kV25 dc25 pm25 cd25 ct25 : Value} (a25 : PySem.W.nsIn K mainGlobals "ratio" = some (some (.ref f25))) (l25 : K.lookup f25 = some ⟨oc25, od25, .func (PySem.W.fnOf "ratio" "ratio" (defArgs s_ratio) (defBody s_ratio) (defScope s_ratio) .none kV25 dc25 pm25 an25 cd25 ct25), sl25⟩) (c25 : PySem.W.codeIn K cd25 "ratio" = true) (k25 : PySem.W.keepIn K (.ref f25) = true)
    {f26 : Addr} {od26 an26 : Option Addr} {sl26 : Array (Option Value)} {oc26 kV26 dc26 pm26 cd26 ct26 : Value} (a26 : PySem.W.nsIn K mainGlobals "law" = some (some (.ref f26))) (l26 : K.lookup f26 = some ⟨oc26, od26, .func (PySem.W.fnOf "law" "law" (defArgs s_law) (defBody s_law) (defScope s_law) .none kV26 dc26 pm26 an26 cd26 ct26), sl26⟩) (c26 : PySem.W.codeIn K cd26 "law" = true) (k26 : PySem.W.keepIn K (.ref f26) = true)
    (z_abs : PySem.W.nsIn K mainGlobals "abs" = some none)
    (z_all : PySem.W.nsIn K mainGlobals "all" = some none)
    (z_bool : PySem.W.nsIn K mainGlobals "bool" = some none)
    (z_int : PySem.W.nsIn K mainGlobals "int" = some none)
    (z_isinstance : PySem.W.nsIn K mainGlobals "isinstance" = some none)
    (z_len : PySem.W.nsIn K mainGlobals "len" = some none)
    (z_list : PySem.W.nsIn K mainGlobals "list" = some none)
    (z_range : PySem.W.nsIn K mainGlobals "range" = some none)
    (z_tuple : PySem.W.nsIn K mainGlobals "tuple" = some none)
    {q0 : Addr} {qn0 : Nat} {qd0 : Option Addr} {qs0 : Array (Option Value)} {t0_0 t0_1 : Tok} (ka0 : PySem.W.nsIn K mainGlobals "NOUGHT" = some (some (.ref q0))) (kl0 : K.lookup q0 = some ⟨.type "tuple", qd0, .seq #[.int 0 t0_0, .int 1 t0_1] qn0, qs0⟩) : Top ⟨K, mg⟩ :=
  ⟨def_mk (ps := ["script"]) X G (fun _ _ _ _ _ _ us hl => match us, hl with | [_], _ => rfl) a0 l0 c0 k0,
   def_mk (ps := ["top", "bottom"]) X G (fun _ _ _ _ _ _ us hl => match us, hl with | [_, _], _ => rfl) a1 l1 c1 k1,
   def_mk (ps := ["cell", "k"]) X G (fun _ _ _ _ _ _ us hl => match us, hl with | [_, _], _ => rfl) a2 l2 c2 k2,
   def_mk (ps := ["state", "many"]) X G (fun _ _ _ _ _ _ us hl => match us, hl with | [_, _], _ => rfl) a3 l3 c3 k3,
   def_mk (ps := ["state"]) X G (fun _ _ _ _ _ _ us hl => match us, hl with | [_], _ => rfl) a4 l4 c4 k4,
   def_mk (ps := ["one", "other"]) X G (fun _ _ _ _ _ _ us hl => match us, hl with | [_, _], _ => rfl) a5 l5 c5 k5,
   def_mk (ps := ["thing"]) X G (fun _ _ _ _ _ _ us hl => match us, hl with | [_], _ => rfl) a6 l6 c6 k6,
   def_mk (ps := ["thing"]) X G (fun _ _ _ _ _ _ us hl => match us, hl with | [_], _ => rfl) a7 l7 c7 k7,
   def_mk (ps := ["thing"]) X G (fun _ _ _ _ _ _ us hl => match us, hl with | [_], _ => rfl) a8 l8 c8 k8,
   def_mk (ps := ["top", "bottom"]) X G (fun _ _ _ _ _ _ us hl => match us, hl with | [_, _], _ => rfl) a9 l9 c9 k9,
   def_mk (ps := ["one", "other"]) X G (fun _ _ _ _ _ _ us hl => match us, hl with | [_, _], _ => rfl) a10 l10 c10 k10,
   def_mk (ps := ["one", "other"]) X G (fun _ _ _ _ _ _ us hl => match us, hl with | [_, _], _ => rfl) a11 l11 c11 k11,
   def_mk (ps := ["one", "other"]) X G (fun _ _ _ _ _ _ us hl => match us, hl with | [_, _], _ => rfl) a12 l12 c12 k12,
   def_mk (ps := ["one", "other"]) X G (fun _ _ _ _ _ _ us hl => match us, hl with | [_, _], _ => rfl) a13 l13 c13 k13,
   def_mk (ps := ["one", "other"]) X G (fun _ _ _ _ _ _ us hl => match us, hl with | [_, _], _ => rfl) a14 l14 c14 k14,
   def_mk (ps := ["one", "other"]) X G (fun _ _ _ _ _ _ us hl => match us, hl with | [_, _], _ => rfl) a15 l15 c15 k15,
   def_mk (ps := ["one", "other"]) X G (fun _ _ _ _ _ _ us hl => match us, hl with | [_, _], _ => rfl) a16 l16 c16 k16,
   def_mk (ps := ["one", "other"]) X G (fun _ _ _ _ _ _ us hl => match us, hl with | [_, _], _ => rfl) a17 l17 c17 k17,
   def_mk (ps := ["one", "other"]) X G (fun _ _ _ _ _ _ us hl => match us, hl with | [_, _], _ => rfl) a18 l18 c18 k18,
   def_mk (ps := ["one", "other"]) X G (fun _ _ _ _ _ _ us hl => match us, hl with | [_, _], _ => rfl) a19 l19 c19 k19,
   def_mk (ps := ["one", "other"]) X G (fun _ _ _ _ _ _ us hl => match us, hl with | [_, _], _ => rfl) a20 l20 c20 k20,
   def_mk (ps := ["one", "other"]) X G (fun _ _ _ _ _ _ us hl => match us, hl with | [_, _], _ => rfl) a21 l21 c21 k21,
   def_mk (ps := ["one", "other"]) X G (fun _ _ _ _ _ _ us hl => match us, hl with | [_, _], _ => rfl) a22 l22 c22 k22,
   def_mk (ps := ["one", "other"]) X G (fun _ _ _ _ _ _ us hl => match us, hl with | [_, _], _ => rfl) a23 l23 c23 k23,
   def_mk (ps := ["one", "other"]) X G (fun _ _ _ _ _ _ us hl => match us, hl with | [_, _], _ => rfl) a24 l24 c24 k24,
   def_mk (ps := ["top", "bottom"]) X G (fun _ _ _ _ _ _ us hl => match us, hl with | [_, _], _ => rfl) a25 l25 c25 k25,
   def_mk (ps := ["script"]) X G (fun _ _ _ _ _ _ us hl => match us, hl with | [_], _ => rfl) a26 l26 c26 k26,
   PySem.W.mg_none_of X G z_abs,
   PySem.W.mg_none_of X G z_all,
   PySem.W.mg_none_of X G z_bool,
   PySem.W.mg_none_of X G z_int,
   PySem.W.mg_none_of X G z_isinstance,
   PySem.W.mg_none_of X G z_len,
   PySem.W.mg_none_of X G z_list,
   PySem.W.mg_none_of X G z_range,
   PySem.W.mg_none_of X G z_tuple,
   gcon_tup (vs := [.int 0, .int 1]) X G ka0 kl0 rfl rfl (by show 2 ≤ sizeLine; decide) (.cons ⟨_, rfl⟩ (.cons ⟨_, rfl⟩ (.nil))) (fun p => .cons (.int _) (.cons (.int _) (.nil)))⟩
theorem end_mk {P : Program} {w : World} {K : Frag} {h : Heap} {mg : Str → Option Value} {fa : Addr} (X : K.In h) (G : h.Ns mainGlobals mg) (hfa : mg "law" = some (.ref fa))
    {f0 : Addr} {od0 an0 : Option Addr} {sl0 : Array (Option Value)} {oc0 kV0 dc0 pm0 cd0 ct0 : Value} (a0 : PySem.W.nsIn K mainGlobals "_law_begin" = some (some (.ref f0))) (l0 : K.lookup f0 = some ⟨oc0, od0, .func (PySem.W.fnOf "_law_begin" "_law_begin" (defArgs s__law_begin) (defBody s__law_begin) (defScope s__law_begin) .none kV0 dc0 pm0 an0 cd0 ct0), sl0⟩) (c0 : PySem.W.codeIn K cd0 "_law_begin" = true) (k0 : PySem.W.keepIn K (.ref f0) = true)
    {f1 : Addr} {od1 an1 : Option Addr} {sl1 : Array (Option Value)} {oc1 kV1 dc1 pm1 cd1 ct1 : Value} (a1 : PySem.W.nsIn K mainGlobals "_law_ratio" = some (some (.ref f1))) (l1 : K.lookup f1 = some ⟨oc1, od1, .func (PySem.W.fnOf "_law_ratio" "_law_ratio" (defArgs s__law_ratio) (defBody s__law_ratio) (defScope s__law_ratio) .none kV1 dc1 pm1 an1 cd1 ct1), sl1⟩) (c1 : PySem.W.codeIn K cd1 "_law_ratio" = true) (k1 : PySem.W.keepIn K (.ref f1) = true)
    {f2 : Addr} {od2 an2 : Option Addr} {sl2 : Array (Option Value)} {oc2 kV2 dc2 pm2 cd2 ct2 : Value} (a2 : PySem.W.nsIn K mainGlobals "_law_mixed" = some (some (.ref f2))) (l2 : K.lookup f2 = some ⟨oc2, od2, .func (PySem.W.fnOf "_law_mixed" "_law_mixed" (defArgs s__law_mixed) (defBody s__law_mixed) (defScope s__law_mixed) .none kV2 dc2 pm2 an2 cd2 ct2), sl2⟩) (c2 : PySem.W.codeIn K cd2 "_law_mixed" = true) (k2 : PySem.W.keepIn K (.ref f2) = true)
    {f3 : Addr} {od3 an3 : Option Addr} {sl3 : Array (Option Value)} {oc3 kV3 dc3 pm3 cd3 ct3 : Value} (a3 : PySem.W.nsIn K mainGlobals "_law_draw" = some (some (.ref f3))) (l3 : K.lookup f3 = some ⟨oc3, od3, .func (PySem.W.fnOf "_law_draw" "_law_draw" (defArgs s__law_draw) (defBody s__law_draw) (defScope s__law_draw) .none kV3 dc3 pm3 an3 cd3 ct3), sl3⟩) (c3 : PySem.W.codeIn K cd3 "_law_draw" = true) (k3 : PySem.W.keepIn K (.ref f3) = true)
    {f4 : Addr} {od4 an4 : Option Addr} {sl4 : Array (Option Value)} {oc4 kV4 dc4 pm4 cd4 ct4 : Value} (a4 : PySem.W.nsIn K mainGlobals "_law_drawn" = some (some (.ref f4))) (l4 : K.lookup f4 = some ⟨oc4, od4, .func (PySem.W.fnOf "_law_drawn" "_law_drawn" (defArgs s__law_drawn) (defBody s__law_drawn) (defScope s__law_drawn) .none kV4 dc4 pm4 an4 cd4 ct4), sl4⟩) (c4 : PySem.W.codeIn K cd4 "_law_drawn" = true) (k4 : PySem.W.keepIn K (.ref f4) = true)
    {f5 : Addr} {od5 an5 : Option Addr} {sl5 : Array (Option Value)} {oc5 kV5 dc5 pm5 cd5 ct5 : Value} (a5 : PySem.W.nsIn K mainGlobals "common" = some (some (.ref f5))) (l5 : K.lookup f5 = some ⟨oc5, od5, .func (PySem.W.fnOf "common" "common" (defArgs s_common) (defBody s_common) (defScope s_common) .none kV5 dc5 pm5 an5 cd5 ct5), sl5⟩) (c5 : PySem.W.codeIn K cd5 "common" = true) (k5 : PySem.W.keepIn K (.ref f5) = true)
    {f6 : Addr} {od6 an6 : Option Addr} {sl6 : Array (Option Value)} {oc6 kV6 dc6 pm6 cd6 ct6 : Value} (a6 : PySem.W.nsIn K mainGlobals "is_integer" = some (some (.ref f6))) (l6 : K.lookup f6 = some ⟨oc6, od6, .func (PySem.W.fnOf "is_integer" "is_integer" (defArgs s_is_integer) (defBody s_is_integer) (defScope s_is_integer) .none kV6 dc6 pm6 an6 cd6 ct6), sl6⟩) (c6 : PySem.W.codeIn K cd6 "is_integer" = true) (k6 : PySem.W.keepIn K (.ref f6) = true)
    {f7 : Addr} {od7 an7 : Option Addr} {sl7 : Array (Option Value)} {oc7 kV7 dc7 pm7 cd7 ct7 : Value} (a7 : PySem.W.nsIn K mainGlobals "is_fraction" = some (some (.ref f7))) (l7 : K.lookup f7 = some ⟨oc7, od7, .func (PySem.W.fnOf "is_fraction" "is_fraction" (defArgs s_is_fraction) (defBody s_is_fraction) (defScope s_is_fraction) .none kV7 dc7 pm7 an7 cd7 ct7), sl7⟩) (c7 : PySem.W.codeIn K cd7 "is_fraction" = true) (k7 : PySem.W.keepIn K (.ref f7) = true)
    {f8 : Addr} {od8 an8 : Option Addr} {sl8 : Array (Option Value)} {oc8 kV8 dc8 pm8 cd8 ct8 : Value} (a8 : PySem.W.nsIn K mainGlobals "need_fraction" = some (some (.ref f8))) (l8 : K.lookup f8 = some ⟨oc8, od8, .func (PySem.W.fnOf "need_fraction" "need_fraction" (defArgs s_need_fraction) (defBody s_need_fraction) (defScope s_need_fraction) .none kV8 dc8 pm8 an8 cd8 ct8), sl8⟩) (c8 : PySem.W.codeIn K cd8 "need_fraction" = true) (k8 : PySem.W.keepIn K (.ref f8) = true)
    {f9 : Addr} {od9 an9 : Option Addr} {sl9 : Array (Option Value)} {oc9 kV9 dc9 pm9 cd9 ct9 : Value} (a9 : PySem.W.nsIn K mainGlobals "made" = some (some (.ref f9))) (l9 : K.lookup f9 = some ⟨oc9, od9, .func (PySem.W.fnOf "made" "made" (defArgs s_made) (defBody s_made) (defScope s_made) .none kV9 dc9 pm9 an9 cd9 ct9), sl9⟩) (c9 : PySem.W.codeIn K cd9 "made" = true) (k9 : PySem.W.keepIn K (.ref f9) = true)
    {f10 : Addr} {od10 an10 : Option Addr} {sl10 : Array (Option Value)} {oc10 kV10 dc10 pm10 cd10 ct10 : Value} (a10 : PySem.W.nsIn K mainGlobals "add" = some (some (.ref f10))) (l10 : K.lookup f10 = some ⟨oc10, od10, .func (PySem.W.fnOf "add" "add" (defArgs s_add) (defBody s_add) (defScope s_add) .none kV10 dc10 pm10 an10 cd10 ct10), sl10⟩) (c10 : PySem.W.codeIn K cd10 "add" = true) (k10 : PySem.W.keepIn K (.ref f10) = true)
    {f11 : Addr} {od11 an11 : Option Addr} {sl11 : Array (Option Value)} {oc11 kV11 dc11 pm11 cd11 ct11 : Value} (a11 : PySem.W.nsIn K mainGlobals "plus" = some (some (.ref f11))) (l11 : K.lookup f11 = some ⟨oc11, od11, .func (PySem.W.fnOf "plus" "plus" (defArgs s_plus) (defBody s_plus) (defScope s_plus) .none kV11 dc11 pm11 an11 cd11 ct11), sl11⟩) (c11 : PySem.W.codeIn K cd11 "plus" = true) (k11 : PySem.W.keepIn K (.ref f11) = true)
    {f12 : Addr} {od12 an12 : Option Addr} {sl12 : Array (Option Value)} {oc12 kV12 dc12 pm12 cd12 ct12 : Value} (a12 : PySem.W.nsIn K mainGlobals "_law_plus" = some (some (.ref f12))) (l12 : K.lookup f12 = some ⟨oc12, od12, .func (PySem.W.fnOf "_law_plus" "_law_plus" (defArgs s__law_plus) (defBody s__law_plus) (defScope s__law_plus) .none kV12 dc12 pm12 an12 cd12 ct12), sl12⟩) (c12 : PySem.W.codeIn K cd12 "_law_plus" = true) (k12 : PySem.W.keepIn K (.ref f12) = true)
    {f13 : Addr} {od13 an13 : Option Addr} {sl13 : Array (Option Value)} {oc13 kV13 dc13 pm13 cd13 ct13 : Value} (a13 : PySem.W.nsIn K mainGlobals "sub" = some (some (.ref f13))) (l13 : K.lookup f13 = some ⟨oc13, od13, .func (PySem.W.fnOf "sub" "sub" (defArgs s_sub) (defBody s_sub) (defScope s_sub) .none kV13 dc13 pm13 an13 cd13 ct13), sl13⟩) (c13 : PySem.W.codeIn K cd13 "sub" = true) (k13 : PySem.W.keepIn K (.ref f13) = true)
    {f14 : Addr} {od14 an14 : Option Addr} {sl14 : Array (Option Value)} {oc14 kV14 dc14 pm14 cd14 ct14 : Value} (a14 : PySem.W.nsIn K mainGlobals "less" = some (some (.ref f14))) (l14 : K.lookup f14 = some ⟨oc14, od14, .func (PySem.W.fnOf "less" "less" (defArgs s_less) (defBody s_less) (defScope s_less) .none kV14 dc14 pm14 an14 cd14 ct14), sl14⟩) (c14 : PySem.W.codeIn K cd14 "less" = true) (k14 : PySem.W.keepIn K (.ref f14) = true)
    {f15 : Addr} {od15 an15 : Option Addr} {sl15 : Array (Option Value)} {oc15 kV15 dc15 pm15 cd15 ct15 : Value} (a15 : PySem.W.nsIn K mainGlobals "_law_less" = some (some (.ref f15))) (l15 : K.lookup f15 = some ⟨oc15, od15, .func (PySem.W.fnOf "_law_less" "_law_less" (defArgs s__law_less) (defBody s__law_less) (defScope s__law_less) .none kV15 dc15 pm15 an15 cd15 ct15), sl15⟩) (c15 : PySem.W.codeIn K cd15 "_law_less" = true) (k15 : PySem.W.keepIn K (.ref f15) = true)
    {f16 : Addr} {od16 an16 : Option Addr} {sl16 : Array (Option Value)} {oc16 kV16 dc16 pm16 cd16 ct16 : Value} (a16 : PySem.W.nsIn K mainGlobals "mul" = some (some (.ref f16))) (l16 : K.lookup f16 = some ⟨oc16, od16, .func (PySem.W.fnOf "mul" "mul" (defArgs s_mul) (defBody s_mul) (defScope s_mul) .none kV16 dc16 pm16 an16 cd16 ct16), sl16⟩) (c16 : PySem.W.codeIn K cd16 "mul" = true) (k16 : PySem.W.keepIn K (.ref f16) = true)
    {f17 : Addr} {od17 an17 : Option Addr} {sl17 : Array (Option Value)} {oc17 kV17 dc17 pm17 cd17 ct17 : Value} (a17 : PySem.W.nsIn K mainGlobals "times" = some (some (.ref f17))) (l17 : K.lookup f17 = some ⟨oc17, od17, .func (PySem.W.fnOf "times" "times" (defArgs s_times) (defBody s_times) (defScope s_times) .none kV17 dc17 pm17 an17 cd17 ct17), sl17⟩) (c17 : PySem.W.codeIn K cd17 "times" = true) (k17 : PySem.W.keepIn K (.ref f17) = true)
    {f18 : Addr} {od18 an18 : Option Addr} {sl18 : Array (Option Value)} {oc18 kV18 dc18 pm18 cd18 ct18 : Value} (a18 : PySem.W.nsIn K mainGlobals "_law_times" = some (some (.ref f18))) (l18 : K.lookup f18 = some ⟨oc18, od18, .func (PySem.W.fnOf "_law_times" "_law_times" (defArgs s__law_times) (defBody s__law_times) (defScope s__law_times) .none kV18 dc18 pm18 an18 cd18 ct18), sl18⟩) (c18 : PySem.W.codeIn K cd18 "_law_times" = true) (k18 : PySem.W.keepIn K (.ref f18) = true)
    {f19 : Addr} {od19 an19 : Option Addr} {sl19 : Array (Option Value)} {oc19 kV19 dc19 pm19 cd19 ct19 : Value} (a19 : PySem.W.nsIn K mainGlobals "is_under" = some (some (.ref f19))) (l19 : K.lookup f19 = some ⟨oc19, od19, .func (PySem.W.fnOf "is_under" "is_under" (defArgs s_is_under) (defBody s_is_under) (defScope s_is_under) .none kV19 dc19 pm19 an19 cd19 ct19), sl19⟩) (c19 : PySem.W.codeIn K cd19 "is_under" = true) (k19 : PySem.W.keepIn K (.ref f19) = true)
    {f20 : Addr} {od20 an20 : Option Addr} {sl20 : Array (Option Value)} {oc20 kV20 dc20 pm20 cd20 ct20 : Value} (a20 : PySem.W.nsIn K mainGlobals "is_less" = some (some (.ref f20))) (l20 : K.lookup f20 = some ⟨oc20, od20, .func (PySem.W.fnOf "is_less" "is_less" (defArgs s_is_less) (defBody s_is_less) (defScope s_is_less) .none kV20 dc20 pm20 an20 cd20 ct20), sl20⟩) (c20 : PySem.W.codeIn K cd20 "is_less" = true) (k20 : PySem.W.keepIn K (.ref f20) = true)
    {f21 : Addr} {od21 an21 : Option Addr} {sl21 : Array (Option Value)} {oc21 kV21 dc21 pm21 cd21 ct21 : Value} (a21 : PySem.W.nsIn K mainGlobals "_law_under" = some (some (.ref f21))) (l21 : K.lookup f21 = some ⟨oc21, od21, .func (PySem.W.fnOf "_law_under" "_law_under" (defArgs s__law_under) (defBody s__law_under) (defScope s__law_under) .none kV21 dc21 pm21 an21 cd21 ct21), sl21⟩) (c21 : PySem.W.codeIn K cd21 "_law_under" = true) (k21 : PySem.W.keepIn K (.ref f21) = true)
    {f22 : Addr} {od22 an22 : Option Addr} {sl22 : Array (Option Value)} {oc22 kV22 dc22 pm22 cd22 ct22 : Value} (a22 : PySem.W.nsIn K mainGlobals "div" = some (some (.ref f22))) (l22 : K.lookup f22 = some ⟨oc22, od22, .func (PySem.W.fnOf "div" "div" (defArgs s_div) (defBody s_div) (defScope s_div) .none kV22 dc22 pm22 an22 cd22 ct22), sl22⟩) (c22 : PySem.W.codeIn K cd22 "div" = true) (k22 : PySem.W.keepIn K (.ref f22) = true)
    {f23 : Addr} {od23 an23 : Option Addr} {sl23 : Array (Option Value)} {oc23 kV23 dc23 pm23 cd23 ct23 : Value} (a23 : PySem.W.nsIn K mainGlobals "over" = some (some (.ref f23))) (l23 : K.lookup f23 = some ⟨oc23, od23, .func (PySem.W.fnOf "over" "over" (defArgs s_over) (defBody s_over) (defScope s_over) .none kV23 dc23 pm23 an23 cd23 ct23), sl23⟩) (c23 : PySem.W.codeIn K cd23 "over" = true) (k23 : PySem.W.keepIn K (.ref f23) = true)
    {f24 : Addr} {od24 an24 : Option Addr} {sl24 : Array (Option Value)} {oc24 kV24 dc24 pm24 cd24 ct24 : Value} (a24 : PySem.W.nsIn K mainGlobals "_law_pair_right" = some (some (.ref f24))) (l24 : K.lookup f24 = some ⟨oc24, od24, .func (PySem.W.fnOf "_law_pair_right" "_law_pair_right" (defArgs s__law_pair_right) (defBody s__law_pair_right) (defScope s__law_pair_right) .none kV24 dc24 pm24 an24 cd24 ct24), sl24⟩) (c24 : PySem.W.codeIn K cd24 "_law_pair_right" = true) (k24 : PySem.W.keepIn K (.ref f24) = true)
    {f25 : Addr} {od25 an25 : Option Addr} {sl25 : Array (Option Value)} {oc25 kV25 dc25 pm25 cd25 ct25 : Value} (a25 : PySem.W.nsIn K mainGlobals "ratio" = some (some (.ref f25))) (l25 : K.lookup f25 = some ⟨oc25, od25, .func (PySem.W.fnOf "ratio" "ratio" (defArgs s_ratio) (defBody s_ratio) (defScope s_ratio) .none kV25 dc25 pm25 an25 cd25 ct25), sl25⟩) (c25 : PySem.W.codeIn K cd25 "ratio" = true) (k25 : PySem.W.keepIn K (.ref f25) = true)
    {f26 : Addr} {od26 an26 : Option Addr} {sl26 : Array (Option Value)} {oc26 kV26 dc26 pm26 cd26 ct26 : Value} (a26 : PySem.W.nsIn K mainGlobals "law" = some (some (.ref f26))) (l26 : K.lookup f26 = some ⟨oc26, od26, .func (PySem.W.fnOf "law" "law" (defArgs s_law) (defBody s_law) (defScope s_law) .none kV26 dc26 pm26 an26 cd26 ct26), sl26⟩) (c26 : PySem.W.codeIn K cd26 "law" = true) (k26 : PySem.W.keepIn K (.ref f26) = true)
    (z_abs : PySem.W.nsIn K mainGlobals "abs" = some none)
    (z_all : PySem.W.nsIn K mainGlobals "all" = some none)
    (z_bool : PySem.W.nsIn K mainGlobals "bool" = some none)
    (z_int : PySem.W.nsIn K mainGlobals "int" = some none)
    (z_isinstance : PySem.W.nsIn K mainGlobals "isinstance" = some none)
    (z_len : PySem.W.nsIn K mainGlobals "len" = some none)
    (z_list : PySem.W.nsIn K mainGlobals "list" = some none)
    (z_range : PySem.W.nsIn K mainGlobals "range" = some none)
    (z_tuple : PySem.W.nsIn K mainGlobals "tuple" = some none)
    {q0 : Addr} {qn0 : Nat} {qd0 : Option Addr} {qs0 : Array (Option Value)} {t0_0 t0_1 : Tok} (ka0 : PySem.W.nsIn K mainGlobals "NOUGHT" = some (some (.ref q0))) (kl0 : K.lookup q0 = some ⟨.type "tuple", qd0, .seq #[.int 0 t0_0, .int 1 t0_1] qn0, qs0⟩) :
    ∃ fd : FuncData, (∀ (s : Shared) (v : Value), BindsTo s fd ⟨[v], []⟩ [("script", v)]) ∧ ∀ base : Heap, K.In base → base.Ns mainGlobals mg → FnOk P w K mg base (L2.CX P w) 6 fa fd ["script"] (spLaw K) := by
  have T : Top ⟨K, mg⟩ := top_mk X G a0 l0 c0 k0 a1 l1 c1 k1 a2 l2 c2 k2 a3 l3 c3 k3 a4 l4 c4 k4 a5 l5 c5 k5 a6 l6 c6 k6 a7 l7 c7 k7 a8 l8 c8 k8 a9 l9 c9 k9 a10 l10 c10 k10 a11 l11 c11 k11 a12 l12 c12 k12 a13 l13 c13 k13 a14 l14 c14 k14 a15 l15 c15 k15 a16 l16 c16 k16 a17 l17 c17 k17 a18 l18 c18 k18 a19 l19 c19 k19 a20 l20 c20 k20 a21 l21 c21 k21 a22 l22 c22 k22 a23 l23 c23 k23 a24 l24 c24 k24 a25 l25 c25 k25 a26 l26 c26 k26 z_abs z_all z_bool z_int z_isinstance z_len z_list z_range z_tuple ka0 kl0
  obtain ⟨f, fd, F, hm, hb⟩ := T.d_law.ex
  obtain rfl : f = fa := by
    have e : some (Value.ref f) = some (Value.ref fa) := hm.symm.trans hfa
    injection e with e; injection e
  exact ⟨fd, fun s v => .of_eq (hb [v] rfl), fun base _ _ => law_of (G := ⟨K, mg⟩) (fn_den F sc_law fun X W o ⟨cdv, A, outer, s, H, E, e⟩ => b_law T X W o ⟨f, cdv, A, outer, s, H, E, e⟩) law_true⟩

end K01
open PySem PySem.W PyProof.Rows
set_option maxHeartbeats 0 in
theorem PySem.Challenge.cw_curtainsteps_k01_whole_ratios_holds : PySem.Challenge.rw_curtainsteps_k01_whole_ratios.Holds := by
  w_on; o_law; k_head; (case hw => w_witness2)
  k_fill
  refine L2.walk_of (l := PySem.Challenge.rw_curtainsteps_k01_whole_ratios) (n := 63) (k := 6) (x := "script") (CX := fun w => L2.CX (PySem.Challenge.rw_curtainsteps_k01_whole_ratios).prog w) (sp := fun w => DL.spLaw _) rfl (by decide) rfl ⟨rfl, by decide, by decide⟩ (fun w h Y => PySem.W.kIn_of Y) ?F (fun _ _ a ns hl hO hS => ⟨a, ns, rfl, hl, hO, hS, fun _ => rfl⟩) (fun w H s e s' h => DL.CX_false H s e s' h)
  case F =>
    intro w mg fa h KX G hmg
    refine' K01.end_mk KX G hmg ?a0 ?l0 ?c0 ?k0 ?a1 ?l1 ?c1 ?k1 ?a2 ?l2 ?c2 ?k2 ?a3 ?l3 ?c3 ?k3 ?a4 ?l4 ?c4 ?k4 ?a5 ?l5 ?c5 ?k5 ?a6 ?l6 ?c6 ?k6 ?a7 ?l7 ?c7 ?k7 ?a8 ?l8 ?c8 ?k8 ?a9 ?l9 ?c9 ?k9 ?a10 ?l10 ?c10 ?k10 ?a11 ?l11 ?c11 ?k11 ?a12 ?l12 ?c12 ?k12 ?a13 ?l13 ?c13 ?k13 ?a14 ?l14 ?c14 ?k14 ?a15 ?l15 ?c15 ?k15 ?a16 ?l16 ?c16 ?k16 ?a17 ?l17 ?c17 ?k17 ?a18 ?l18 ?c18 ?k18 ?a19 ?l19 ?c19 ?k19 ?a20 ?l20 ?c20 ?k20 ?a21 ?l21 ?c21 ?k21 ?a22 ?l22 ?c22 ?k22 ?a23 ?l23 ?c23 ?k23 ?a24 ?l24 ?c24 ?k24 ?a25 ?l25 ?c25 ?k25 ?a26 ?l26 ?c26 ?k26 ?z_abs ?z_all ?z_bool ?z_int ?z_isinstance ?z_len ?z_list ?z_range ?z_tuple ?ka0 ?kl0
    (case a0 => k_is); (case l0 => k_is); (case c0 => k_is); (case k0 => k_is); (case a1 => k_is); (case l1 => k_is); (case c1 => k_is); (case k1 => k_is); (case a2 => k_is); (case l2 => k_is); (case c2 => k_is); (case k2 => k_is); (case a3 => k_is); (case l3 => k_is); (case c3 => k_is); (case k3 => k_is); (case a4 => k_is); (case l4 => k_is); (case c4 => k_is); (case k4 => k_is); (case a5 => k_is); (case l5 => k_is); (case c5 => k_is); (case k5 => k_is); (case a6 => k_is); (case l6 => k_is); (case c6 => k_is); (case k6 => k_is); (case a7 => k_is); (case l7 => k_is); (case c7 => k_is); (case k7 => k_is); (case a8 => k_is); (case l8 => k_is); (case c8 => k_is); (case k8 => k_is); (case a9 => k_is); (case l9 => k_is); (case c9 => k_is); (case k9 => k_is); (case a10 => k_is); (case l10 => k_is); (case c10 => k_is); (case k10 => k_is); (case a11 => k_is); (case l11 => k_is); (case c11 => k_is); (case k11 => k_is); (case a12 => k_is); (case l12 => k_is); (case c12 => k_is); (case k12 => k_is); (case a13 => k_is); (case l13 => k_is); (case c13 => k_is); (case k13 => k_is); (case a14 => k_is); (case l14 => k_is); (case c14 => k_is); (case k14 => k_is); (case a15 => k_is); (case l15 => k_is); (case c15 => k_is); (case k15 => k_is); (case a16 => k_is); (case l16 => k_is); (case c16 => k_is); (case k16 => k_is); (case a17 => k_is); (case l17 => k_is); (case c17 => k_is); (case k17 => k_is); (case a18 => k_is); (case l18 => k_is); (case c18 => k_is); (case k18 => k_is); (case a19 => k_is); (case l19 => k_is); (case c19 => k_is); (case k19 => k_is); (case a20 => k_is); (case l20 => k_is); (case c20 => k_is); (case k20 => k_is); (case a21 => k_is); (case l21 => k_is); (case c21 => k_is); (case k21 => k_is); (case a22 => k_is); (case l22 => k_is); (case c22 => k_is); (case k22 => k_is); (case a23 => k_is); (case l23 => k_is); (case c23 => k_is); (case k23 => k_is); (case a24 => k_is); (case l24 => k_is); (case c24 => k_is); (case k24 => k_is); (case a25 => k_is); (case l25 => k_is); (case c25 => k_is); (case k25 => k_is); (case a26 => k_is); (case l26 => k_is); (case c26 => k_is); (case k26 => k_is); (case z_abs => k_is); (case z_all => k_is); (case z_bool => k_is); (case z_int => k_is); (case z_isinstance => k_is); (case z_len => k_is); (case z_list => k_is); (case z_range => k_is); (case z_tuple => k_is); (case ka0 => k_is); (case kl0 => k_is)
