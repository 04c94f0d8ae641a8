import PyProof.Rows.All
import Wide.All
import OpenK.AllK
import Wide.FinOn
import HandS.ForMost
import HandS.WordsExc
import HandS.CallSlots
import HandS.Lambda
import HandS.Ends
import HandS.Wide
import HandS.IsInst
import HandS.Style
import HandS.Flow
import HandS.TupAny
import HandS.Deep
import HandS.Star
import HandS.SortInts
import HandS.More
import HandS.Zip
import HandS.WrittenGet
import HandS.ExcInit
import HandS.ExcField
import HandS.ExcIs
import PySem.Challenge.RW_curtainsteps_k10_kind_papers_judged
set_option Elab.async false
set_option maxRecDepth 100000
set_option linter.all false
set_option maxHeartbeats 4000000
/-! DL: pure values and a store over the hand layer. A piece of program text is given a plain Lean function (its denotation); one lemma a construct. -/
namespace DL
open PySem PySem.Spec L2
open PyProof.Rows hiding St
set_option autoImplicit true
abbrev Frag := PySem.W.Frag

/-- a value as plainD data; ptr n: the n-th cell of the store -/
inductive D where
  | non | bl (b : Bool) | int (i : Int) | str (x : Str) | raw (v : V)
  | tup (ds : List D) | lst (ds : List D) | fls (ds : List D) | dic (ks : List Key) (ds : List D)
  | ptr (n : Nat)
  | ol (ds : List D) | od (ks : List Key) (ds : List D) | lam
/-- no list or dict that a slot alone holds, no lambda -/
def plainD : D → Bool
  | .ol _ => false
  | .od _ _ => false
  | .lam => false
  | _ => true
/-- what stands in a cell -/
inductive MO where
  | lst (ds : List D) | dic (ks : List Key) (ds : List D)
abbrev Sto := List MO
abbrev En := List (Option D)
/-- an exception: the class's name, its fields -/
structure XV where
  c : Str
  fs : List (Str × D)
structure Cg where
  K : Frag
  mg : Str → Option Value
/-- a point of the run: the cells' addresses, what is seen of the heap, the heap -/
structure Pt where
  rho : List Addr
  V : Hp
  H : Hp
  sub : ∀ b o, V b = some o → H b = some o
  T : List (Addr × Str)
  tb : LamX.Tabs T H
  hv : ∀ t ∈ T, V t.1 = none

/-- what may be read at a and is never written: u -/
def Fix (p : Pt) (a : Addr) (u : HO) : Prop := Rd p.V a u ∧ a ∉ p.rho
def STup (K : Frag) (p : Pt) (a : Addr) (xs : List V) : Prop :=
  Fix p a (.tup xs) ∨
    ∃ (o : Obj) (its : Array Value) (n : Nat), K.lookup a = some o ∧ o.cls = .type "tuple" ∧ o.data = .seq its n ∧ its.size ≤ sizeLine ∧ Vals xs its.toList
def SLst (K : Frag) (p : Pt) (a : Addr) (xs : List V) : Prop :=
  Fix p a (.lst xs) ∨
    ∃ (o : Obj) (its : Array Value) (n : Nat), K.lookup a = some o ∧ o.cls = .type "list" ∧ o.dict = none ∧ o.data = .seq its n ∧ its.size ≤ sizeLine ∧ Vals xs its.toList
theorem Pt.rd {p : Pt} {a u} (h : Rd p.V a u) : Rd p.H a u := by
  rcases h with h | ⟨o, h⟩
  · exact .inl (p.sub _ _ h)
  · exact .inr ⟨o, p.sub _ _ h⟩
theorem STup.sq {K p a xs} (h : STup K p a xs) : SqT K p.H a xs := by
  rcases h with h | h
  · exact .inl (Pt.rd h.1)
  · exact .inr h
theorem SLst.sq {K p a xs} (h : SLst K p a xs) : SqL K p.H a xs := by
  rcases h with h | h
  · exact .inl (Pt.rd h.1)
  · exact .inr h

mutual
inductive Rep (K : Frag) (p : Pt) : D → V → Prop
  | non : Rep K p .non .non
  | bl (b : Bool) : Rep K p (.bl b) (.bl b)
  | int (i : Int) : Rep K p (.int i) (.int i)
  | str (x : Str) : Rep K p (.str x) (.str x)
  | raw (v : V) : Rep K p (.raw v) v
  | tup {a : Addr} {ds : List D} {vs : List V} : STup K p a vs → Reps K p ds vs → Rep K p (.tup ds) (.ref a)
  | lst {a : Addr} {ds : List D} {vs : List V} : p.V a = some (.lst vs) → a ∉ p.rho → Reps K p ds vs → Rep K p (.lst ds) (.ref a)
  | fls {a : Addr} {ds : List D} {vs : List V} : SLst K p a vs → Reps K p ds vs → Rep K p (.fls ds) (.ref a)
  | dic {a : Addr} {ks : List Key} {ds : List D} {vs : List V} : p.V a = some (.dK (ks.zip vs)) → a ∉ p.rho → ks.length = ds.length → Reps K p ds vs → Rep K p (.dic ks ds) (.ref a)
  | ptr {n : Nat} {a : Addr} : p.rho[n]? = some a → Rep K p (.ptr n) (.ref a)
inductive Reps (K : Frag) (p : Pt) : List D → List V → Prop
  | nil : Reps K p [] []
  | cons {d : D} {v : V} {ds : List D} {vs : List V} : Rep K p d v → Reps K p ds vs → Reps K p (d :: ds) (v :: vs)
end

/-- the run has gone on from p to q: all that was seen, but the cells, is kept; what was not seen is kept; what is new is new -/
structure Ext (p q : Pt) : Prop where
  pre : ∃ t, q.rho = p.rho ++ t
  keep : ∀ b o, p.V b = some o → b ∉ p.rho → q.V b = some o
  new : ∀ b, b ∈ q.rho → b ∉ p.rho → p.H b = none
  vis : ∀ b o, q.V b = some o → p.V b = none → p.H b = none
  hid : ∀ b o, p.H b = some o → p.V b = none → (∀ ps, o ≠ .tbl ps) → q.H b = some o
  tbk : ∀ b ps, p.H b = some (.tbl ps) → ∃ ps', q.H b = some (.tbl ps')
  tT : q.T = p.T
theorem Ext.refl {p} : Ext p p := ⟨⟨[], by simp⟩, fun _ _ h _ => h, fun _ h n => absurd h n, fun b o h n => by { rw [h] at n; cases n }, fun _ _ h _ _ => h, fun _ ps h => ⟨ps, h⟩, rfl⟩
theorem Ext.nn {p q a o} (e : Ext p q) (h : p.V a = some o) (n : a ∉ p.rho) : a ∉ q.rho := fun z => by
  have := p.sub _ _ h
  rw [e.new a z n] at this; cases this
theorem Ext.trans {p q r} (a : Ext p q) (b : Ext q r) : Ext p r := by
  have back : ∀ c, q.H c = none → p.V c = none → p.H c = none := fun c h n => by
    cases z : p.H c with
    | none => rfl
    | some o =>
      by_cases t : ∃ ps, o = .tbl ps
      · obtain ⟨ps, rfl⟩ := t
        obtain ⟨ps', y⟩ := a.tbk c ps z
        rw [y] at h; cases h
      · rw [a.hid c o z n fun ps y => t ⟨ps, y⟩] at h; cases h
  refine ⟨?_, fun c o h n => b.keep c o (a.keep c o h n) (a.nn h n), fun c h n => ?_, fun c o h n => ?_, fun c o h n t => ?_, fun c ps h => ?_, b.tT.trans a.tT⟩
  · obtain ⟨t, e1⟩ := a.pre
    obtain ⟨u, e2⟩ := b.pre
    exact ⟨t ++ u, by rw [e2, e1, List.append_assoc]⟩
  · by_cases z : c ∈ q.rho
    · exact a.new c z n
    · have hq := b.new c h z
      cases y : p.V c with
      | none => exact back c hq y
      | some o =>
        have := q.sub _ _ (a.keep c o y n)
        rw [hq] at this; cases this
  · cases y : q.V c with
    | some u => exact a.vis c u y n
    | none => exact back c (b.vis c o h y) n
  · refine b.hid c o (a.hid c o h n t) ?_ t
    cases y : q.V c with
    | none => rfl
    | some u => rw [a.vis c u y n] at h; cases h
  · obtain ⟨ps', y⟩ := a.tbk c ps h
    exact b.tbk c ps' y
/-- all that is seen and is no cell of p is so at q -/
structure Mo (p q : Pt) : Prop where
  pre : ∃ t, q.rho = p.rho ++ t
  keep : ∀ b o, p.V b = some o → b ∉ p.rho → q.V b = some o
  nn : ∀ b o, p.V b = some o → b ∉ p.rho → b ∉ q.rho
theorem Mo.refl {p} : Mo p p := ⟨⟨[], by simp⟩, fun _ _ h _ => h, fun _ _ _ n => n⟩
theorem Mo.trans {p q r} (a : Mo p q) (b : Mo q r) : Mo p r := by
  refine ⟨?_, fun c o h n => b.keep c o (a.keep c o h n) (a.nn c o h n), fun c o h n => b.nn c o (a.keep c o h n) (a.nn c o h n)⟩
  obtain ⟨t, e1⟩ := a.pre
  obtain ⟨u, e2⟩ := b.pre
  exact ⟨t ++ u, by rw [e2, e1, List.append_assoc]⟩
theorem Ext.mo {p q} (e : Ext p q) : Mo p q := ⟨e.pre, e.keep, fun _ _ h n => e.nn h n⟩
theorem Fix.mo {p q a u} (e : Mo p q) (h : Fix p a u) : Fix q a u := by
  obtain ⟨r, n⟩ := h
  rcases r with r | ⟨o, r⟩
  · exact ⟨.inl (e.keep a _ r n), e.nn _ _ r n⟩
  · exact ⟨.inr ⟨o, e.keep a _ r n⟩, e.nn _ _ r n⟩
theorem STup.mo {K p q a xs} (e : Mo p q) (h : STup K p a xs) : STup K q a xs := by
  rcases h with h | h
  · exact .inl (h.mo e)
  · exact .inr h
theorem SLst.mo {K p q a xs} (e : Mo p q) (h : SLst K p a xs) : SLst K q a xs := by
  rcases h with h | h
  · exact .inl (h.mo e)
  · exact .inr h
theorem STup.mono {K p q a xs} (e : Ext p q) (h : STup K p a xs) : STup K q a xs := h.mo e.mo
theorem SLst.mono {K p q a xs} (e : Ext p q) (h : SLst K p a xs) : SLst K q a xs := h.mo e.mo
mutual
theorem Rep.mo {K p q} (e : Mo p q) : ∀ {d v}, Rep K p d v → Rep K q d v
  | _, _, .non => .non
  | _, _, .bl b => .bl b
  | _, _, .int i => .int i
  | _, _, .str x => .str x
  | _, _, .raw v => .raw v
  | _, _, .tup s r => .tup (s.mo e) (Reps.mo e r)
  | _, _, .lst s n r => .lst (e.keep _ _ s n) (e.nn _ _ s n) (Reps.mo e r)
  | _, _, .fls s r => .fls (s.mo e) (Reps.mo e r)
  | _, _, .dic s n l r => .dic (e.keep _ _ s n) (e.nn _ _ s n) l (Reps.mo e r)
  | _, _, .ptr h => .ptr (by
      obtain ⟨t, e⟩ := e.pre
      rw [e, List.getElem?_append_left (List.getElem?_eq_some_iff.mp h).1]; exact h)
theorem Reps.mo {K p q} (e : Mo p q) : ∀ {ds vs}, Reps K p ds vs → Reps K q ds vs
  | _, _, .nil => .nil
  | _, _, .cons a b => .cons (Rep.mo e a) (Reps.mo e b)
end
theorem Rep.mono {K p q} (e : Ext p q) {d v} (h : Rep K p d v) : Rep K q d v := h.mo e.mo
theorem Reps.mono {K p q} (e : Ext p q) {d v} (h : Reps K p d v) : Reps K q d v := h.mo e.mo
theorem Reps.length {K p} : ∀ {ds vs}, Reps K p ds vs → ds.length = vs.length
  | _, _, .nil => rfl
  | _, _, .cons _ b => by simp [Reps.length b]
theorem Reps.get {K p} : ∀ {ds : List D} {vs : List V} {i : Nat} {d : D}, Reps K p ds vs → ds[i]? = some d → ∃ v, vs[i]? = some v ∧ Rep K p d v
  | _, _, _, _, .nil, h => by simp at h
  | _, _, 0, _, .cons a b, h => by simp at h; subst h; exact ⟨_, rfl, a⟩
  | _, _, i + 1, _, .cons a b, h => by simpa using Reps.get (i := i) b (by simpa using h)
theorem Reps.get' {K p} : ∀ {ds : List D} {vs : List V} {i : Nat} {v : V}, Reps K p ds vs → vs[i]? = some v → ∃ d, ds[i]? = some d ∧ Rep K p d v
  | _, _, _, _, .nil, h => by simp at h
  | _, _, 0, _, .cons a b, h => by simp at h; subst h; exact ⟨_, rfl, a⟩
  | _, _, i + 1, _, .cons a b, h => by simpa using Reps.get' (i := i) b (by simpa using h)
theorem Reps.append {K p} : ∀ {ds es : List D} {vs ws : List V}, Reps K p ds vs → Reps K p es ws → Reps K p (ds ++ es) (vs ++ ws)
  | _, _, _, _, .nil, h => h
  | _, _, _, _, .cons a b, h => .cons a (Reps.append b h)
theorem Reps.take {K p} : ∀ {ds : List D} {vs : List V} (n : Nat), Reps K p ds vs → Reps K p (ds.take n) (vs.take n)
  | _, _, 0, _ => .nil
  | _, _, _ + 1, .nil => .nil
  | _, _, n + 1, .cons a b => .cons a (Reps.take n b)
theorem Reps.drop {K p} : ∀ {ds : List D} {vs : List V} (n : Nat), Reps K p ds vs → Reps K p (ds.drop n) (vs.drop n)
  | _, _, 0, h => h
  | _, _, _ + 1, .nil => .nil
  | _, _, n + 1, .cons _ b => Reps.drop n b
theorem Reps.set {K p d v} (r : Rep K p d v) : ∀ {ds : List D} {vs : List V} (n : Nat), Reps K p ds vs → Reps K p (ds.set n d) (vs.set n v)
  | _, _, _, .nil => .nil
  | _, _, 0, .cons _ b => .cons r b
  | _, _, n + 1, .cons a b => .cons a (Reps.set r n b)
theorem Reps.reverse {K p} {ds : List D} {vs : List V} (h : Reps K p ds vs) : Reps K p ds.reverse vs.reverse := by
  induction ds generalizing vs with
  | nil => cases h; exact .nil
  | cons d ds ih =>
    cases h with
    | cons a b =>
      simp only [List.reverse_cons]
      exact (ih b).append (.cons a .nil)

/-- a cell -/
def RepM (K : Frag) (p : Pt) (a : Addr) : MO → Prop
  | .lst ds => ∃ vs, p.V a = some (.lst vs) ∧ Reps K p ds vs
  | .dic ks ds => ∃ vs, p.V a = some (.dK (ks.zip vs)) ∧ ks.length = ds.length ∧ Reps K p ds vs
structure RepS (K : Frag) (p : Pt) (st : Sto) : Prop where
  len : st.length = p.rho.length
  nd : p.rho.Nodup
  at_ : ∀ (n : Nat) (m : MO) (a : Addr), st[n]? = some m → p.rho[n]? = some a → RepM K p a m
theorem RepS.has {K p st} (h : RepS K p st) {b : Addr} (hb : b ∈ p.rho) : (∃ xs, p.V b = some (.lst xs)) ∨ ∃ kvs, p.V b = some (.dK kvs) := by
  obtain ⟨n, hn⟩ := List.mem_iff_getElem?.mp hb
  have hl : n < st.length := by rw [h.len]; exact (List.getElem?_eq_some_iff.mp hn).1
  have q := h.at_ n st[n] b (List.getElem?_eq_getElem hl) hn
  cases e : st[n] with
  | lst ds => rw [e] at q; obtain ⟨vs, h1, _⟩ := q; exact .inl ⟨_, h1⟩
  | dic ks ds => rw [e] at q; obtain ⟨vs, h1, _⟩ := q; exact .inr ⟨_, h1⟩
theorem RepS.ne {K p st} (h : RepS K p st) {b : Addr} (hb : p.V b = none) : b ∉ p.rho := fun z => by
  rcases h.has z with ⟨xs, q⟩ | ⟨kvs, q⟩ <;> rw [hb] at q <;> cases q
theorem Pt.free {p : Pt} {b : Addr} (h : p.H b = none) : p.V b = none := by
  cases q : p.V b with
  | none => rfl
  | some o => rw [p.sub _ _ q] at h; cases h
theorem RepS.nh {K p st} (h : RepS K p st) {b : Addr} (hb : p.H b = none) : b ∉ p.rho := h.ne (Pt.free hb)
/-- what is wanted of an exception; where the def began; the lambda that it got -/
structure WG where
  w : WX
  p0 : Pt
  lam : Addr
theorem Ext.unseen {p q : Pt} {a o} (e : Ext p q) (n : p.V a = none) (h : p.H a = some o) (t : ∀ ps, o ≠ .tbl ps := by intro _ z; cases z) : q.V a = none ∧ q.H a = some o := by
  refine ⟨?_, e.hid a o h n t⟩
  cases z : q.V a with
  | none => rfl
  | some u => rw [e.vis a u z n] at h; cases h
/-- what a slot holds -/
inductive RepV (K : Frag) (W : WG) (p : Pt) : D → V → Prop
  | rep {d : D} {v : V} : Rep K p d v → RepV K W p d v
  | ol {a : Addr} {ds : List D} {vs : List V} : p.V a = none → p.H a = some (.lst vs) → Reps K p ds vs → W.p0.H a = none → RepV K W p (.ol ds) (.ref a)
  | od {a : Addr} {ks : List Key} {ds : List D} {vs : List V} : p.V a = none → p.H a = some (.dK (ks.zip vs)) → ks.length = ds.length → Reps K p ds vs → W.p0.H a = none → RepV K W p (.od ks ds) (.ref a)
  | lam : RepV K W p .lam (.ref W.lam)
theorem RepV.mono {K W p q d v} (e : Ext p q) (h : RepV K W p d v) : RepV K W q d v := by
  cases h with
  | rep r => exact .rep (r.mono e)
  | ol h1 h2 h3 h4 => obtain ⟨a, b⟩ := e.unseen h1 h2; exact .ol a b (h3.mono e) h4
  | od h1 h2 h3 h4 h5 => obtain ⟨a, b⟩ := e.unseen h1 h2; exact .od a b h3 (h4.mono e) h5
  | lam => exact .lam
theorem Rep.plain {K p d v} (h : Rep K p d v) : DL.plainD d = true := by cases h <;> rfl
theorem RepV.val {K W p d v} (h : RepV K W p d v) (hp : DL.plainD d = true) : Rep K p d v := by
  cases h with
  | rep r => exact r
  | ol => cases hp
  | od => cases hp
  | lam => cases hp
/-- the slots -/
structure RepE (K : Frag) (W : WG) (p : Pt) (env : En) (σ : St) : Prop where
  len : env.length = σ.length
  base : Ext W.p0 p
  at_ : ∀ (i : Nat) (d : D), env[i]? = some (some d) → ∃ v, σ[i]? = some (some v) ∧ RepV K W p d v
  inj : ∀ (i j : Nat) (d e : D) (a : Addr), env[i]? = some (some d) → plainD d = false → d ≠ .lam → env[j]? = some (some e) → plainD e = false → e ≠ .lam → σ[i]? = some (some (.ref a)) → σ[j]? = some (some (.ref a)) → i = j
theorem RepE.mono {K W p q env σ} (e : Ext p q) (h : RepE K W p env σ) : RepE K W q env σ :=
  ⟨h.len, h.base.trans e, fun i d q => let ⟨v, a, b⟩ := h.at_ i d q; ⟨v, a, b.mono e⟩, h.inj⟩
theorem set_get {α : Type} {l : List α} {i j : Nat} {x y : α} (h : (l.set i x)[j]? = some y) : (i = j ∧ y = x) ∨ (i ≠ j ∧ l[j]? = some y) := by
  by_cases hj : i = j
  · subst hj
    by_cases hl : i < l.length
    · rw [List.getElem?_set_self hl] at h; exact .inl ⟨rfl, (Option.some.inj h).symm⟩
    · rw [List.getElem?_eq_none (by simpa using hl)] at h; cases h
  · rw [List.getElem?_set_ne hj] at h; exact .inr ⟨hj, h⟩
theorem RepE.put {K W p env σ d v} (h : RepE K W p env σ) (i : Nat) (r : RepV K W p d v) (hi : ∀ (j : Nat) (e : D) (a : Addr), plainD d = false → d ≠ .lam → j ≠ i → env[j]? = some (some e) → plainD e = false → e ≠ .lam → v = .ref a → σ[j]? ≠ some (some (.ref a))) : RepE K W p (env.set i (some d)) (σ.set i (some v)) := by
  refine ⟨by simpa using h.len, h.base, fun j x q => ?_, fun j k x y a q1 n1 l1 q2 n2 l2 s1 s2 => ?_⟩
  · rcases set_get q with ⟨rfl, e⟩ | ⟨hj, q⟩
    · cases e
      have hl : i < env.length := by have := (List.getElem?_eq_some_iff.mp q).1; simpa using this
      exact ⟨v, by rw [List.getElem?_set_self (by rw [← h.len]; exact hl)], r⟩
    · rw [List.getElem?_set_ne hj]
      exact h.at_ j x q
  · rcases set_get q1 with ⟨rfl, e1⟩ | ⟨hj, q1⟩ <;> rcases set_get q2 with ⟨rfl, e2⟩ | ⟨hk, q2⟩
    · rfl
    · cases e1
      rcases set_get s1 with ⟨_, z⟩ | ⟨z, _⟩
      · rw [List.getElem?_set_ne hk] at s2
        exact absurd s2 (hi k y a n1 l1 (fun z => hk z.symm) q2 n2 l2 (Option.some.inj z.symm))
      · exact absurd rfl z
    · cases e2
      rcases set_get s2 with ⟨_, z⟩ | ⟨z, _⟩
      · rw [List.getElem?_set_ne hj] at s1
        exact absurd s1 (hi j x a n2 l2 (fun z => hj z.symm) q1 n1 l1 (Option.some.inj z.symm))
      · exact absurd rfl z
    · rw [List.getElem?_set_ne hj] at s1
      rw [List.getElem?_set_ne hk] at s2
      exact h.inj j k x y a q1 n1 l1 q2 n2 l2 s1 s2
theorem RepE.set {K W p env σ d v} (h : RepE K W p env σ) (i : Nat) (r : Rep K p d v) : RepE K W p (env.set i (some d)) (σ.set i (some v)) :=
  h.put i (.rep r) fun _ _ _ n => by rw [r.plain] at n; cases n

/-- an exception -/
def RepX (G : Cg) (p : Pt) (x : XV) (cls : Value) (dd : Option Addr) : Prop :=
  (G.mg x.c = some cls ∨ (G.mg x.c = none ∧ bootBuiltins x.c = some cls)) ∧
  ((x.fs = [] ∧ dd = none) ∨ ∃ d vs, dd = some d ∧ d ∉ p.rho ∧ p.V d = some (.xd ((x.fs.map (·.1)).zip vs)) ∧ Reps G.K p (x.fs.map (·.2)) vs)

inductive Out (α : Type) where
  | ok (a : α) (st : Sto) | exc (x : XV) (st : Sto) | bad
def Out.bind {α β : Type} (o : Out α) (k : α → Sto → Out β) : Out β := match o with
  | .ok a st => k a st
  | .exc x st => .exc x st
  | .bad => .bad
@[simp] theorem Out.bind_ok {α β : Type} {a : α} {st : Sto} {k : α → Sto → Out β} : (Out.ok a st).bind k = k a st := by unfold Out.bind; exact (Eq.refl _)
@[simp] theorem Out.bind_bad {α β : Type} {k : α → Sto → Out β} : (Out.bad : Out α).bind k = .bad := by unfold Out.bind; exact (Eq.refl _)
@[simp] theorem Out.bind_exc {α β : Type} {x : XV} {st : Sto} {k : α → Sto → Out β} : (Out.exc x st : Out α).bind k = .exc x st := by unfold Out.bind; exact (Eq.refl _)

/-- what is wanted behind an outcome -/
def Aft {α β : Type} (R : Pt → α → β → Prop) (G : Cg) (p : Pt) (o : Out α) (Q : β → Hp → Prop) (E : XK) : Prop := match o with
  | .ok a st => ∀ q b, Ext p q → R q a b → RepS G.K q st → Q b q.H
  | .exc x st => ∀ q cls dd, Ext p q → RepX G q x cls dd → RepS G.K q st → E cls dd q.H
  | .bad => False
section
variable {α β γ δ : Type} {R : Pt → α → β → Prop} {R' : Pt → γ → δ → Prop} {G : Cg} {p q : Pt} {o : Out α} {Q Q' : β → Hp → Prop} {E E' : XK}
theorem Aft.mono (h : Aft R G p o Q E) (hq : ∀ b H', Q b H' → Q' b H') : Aft R G p o Q' E := by
  cases o with
  | ok a st => exact fun q b e r s => hq _ _ (h q b e r s)
  | exc x st => exact h
  | bad => exact h
theorem Aft.monoE (h : Aft R G p o Q E) (hq : ∀ c d H', E c d H' → E' c d H') : Aft R G p o Q E' := by
  cases o with
  | ok a st => exact h
  | exc x st => exact fun q c d e r s => hq _ _ _ (h q c d e r s)
  | bad => exact h
theorem Aft.ext (e : Ext p q) (h : Aft R G p o Q E) : Aft R G q o Q E := by
  cases o with
  | ok a st => exact fun q b e' r s => h q b (e.trans e') r s
  | exc x st => exact fun q c d e' r s => h q c d (e.trans e') r s
  | bad => exact h
/-- the first part runs, then the rest -/
theorem Aft.bind {k : α → Sto → Out γ} {Q : δ → Hp → Prop} (h : Aft R' G p (o.bind k) Q E) :
    Aft R G p o (fun b H' => ∃ q a st', q.H = H' ∧ Ext p q ∧ R q a b ∧ RepS G.K q st' ∧ Aft R' G q (k a st') Q E) E := by
  cases o with
  | ok a st => exact fun q b e r s => ⟨q, a, st, rfl, e, r, s, h.ext e⟩
  | exc x st => exact h
  | bad => exact h
theorem Aft.now {a : α} {b : β} {st : Sto} (h : Aft R G p (.ok a st) Q E) (r : R p a b) (s : RepS G.K p st) : Q b p.H := h p b .refl r s
end

/-! ### expressions -/
abbrev Den := En → Sto → Out D
abbrev Cx.g (X : Cx) : Cg := ⟨X.K, X.mg⟩
abbrev wAt (W : WG) (σ : St) : XK := fun c d H => W.w c d σ H
def tD (G : Cg) (W : WG) (φ : Den) : TE := fun σ H Q => ∃ p env st, p.H = H ∧ RepE G.K W p env σ ∧ RepS G.K p st ∧ Aft (Rep G.K) G p (φ env st) Q (wAt W σ)
def PEv (X : Cx) (W : WG) (e : Expr) (φ : Den) : Prop := PE X e (tD (Cx.g X) W φ)
section
variable {G : Cg} {W : WG} {φ : Den} {σ : St} {H : Hp} {p : Pt} {env : En} {st : Sto}
theorem tD.mono {Q Q' : VK} (h : tD G W φ σ H Q) (hq : ∀ v H', Q v H' → Q' v H') : tD G W φ σ H Q' :=
  let ⟨p, env, st, z, a, b, c⟩ := h
  ⟨p, env, st, z, a, b, c.mono hq⟩
theorem tD.run {γ δ : Type} {R' : Pt → γ → δ → Prop} {k : D → Sto → Out γ} {Q : δ → Hp → Prop} (hE : RepE G.K W p env σ) (hS : RepS G.K p st) (h : Aft R' G p ((φ env st).bind k) Q (wAt W σ)) :
    tD G W φ σ p.H (fun v H1 => ∃ q d st1, q.H = H1 ∧ Ext p q ∧ Rep G.K q d v ∧ RepS G.K q st1 ∧ Aft R' G q (k d st1) Q (wAt W σ)) :=
  ⟨p, env, st, rfl, hE, hS, Aft.bind h⟩
end
theorem pev_of {X : Cx} {W : WG} {e : Expr} {t : TE} {φ : Den} (h : PE X e t) (i : ∀ σ Q p env st, RepE X.K W p env σ → RepS X.K p st → Aft (Rep X.K) (Cx.g X) p (φ env st) Q (wAt W σ) → t σ p.H Q) : PEv X W e φ :=
  ⟨fun pins s σ H Q I ⟨p, env, st, z, hE, hS, q⟩ => h.run pins s σ H Q I (z ▸ i σ Q p env st hE hS q)⟩

/-- argument lists -/
def evL : List Den → En → Sto → Out (List D)
  | [], _, st => .ok [] st
  | φ :: r, env, st => (φ env st).bind fun d st => (evL r env st).bind fun ds st => .ok (d :: ds) st
def tL (G : Cg) (W : WG) (φs : List Den) : TA := fun σ H Q => ∃ p env st, p.H = H ∧ RepE G.K W p env σ ∧ RepS G.K p st ∧ Aft (Reps G.K) G p (evL φs env st) Q (wAt W σ)
def PAv (X : Cx) (W : WG) (es : List Expr) (φs : List Den) : Prop := PA X es (tL (Cx.g X) W φs)
section
variable {G : Cg} {W : WG} {φs : List Den} {σ : St} {H : Hp} {p : Pt} {env : En} {st : Sto}
theorem tL.mono {Q Q' : List V → Hp → Prop} (h : tL G W φs σ H Q) (hq : ∀ v H', Q v H' → Q' v H') : tL G W φs σ H Q' :=
  let ⟨p, env, st, z, a, b, c⟩ := h
  ⟨p, env, st, z, a, b, c.mono hq⟩
theorem tL.run {γ δ : Type} {R' : Pt → γ → δ → Prop} {k : List D → Sto → Out γ} {Q : δ → Hp → Prop} (hE : RepE G.K W p env σ) (hS : RepS G.K p st) (h : Aft R' G p ((evL φs env st).bind k) Q (wAt W σ)) :
    tL G W φs σ p.H (fun v H1 => ∃ q d st1, q.H = H1 ∧ Ext p q ∧ Reps G.K q d v ∧ RepS G.K q st1 ∧ Aft R' G q (k d st1) Q (wAt W σ)) :=
  ⟨p, env, st, rfl, hE, hS, Aft.bind h⟩
end
theorem pav_nil {X : Cx} {W : WG} : PAv X W [] [] :=
  ⟨fun pos pins s σ H Q I ⟨p, env, st, z, hE, hS, h⟩ => (pa_nil (X := X)).run pos pins s σ H Q I (z ▸ h.now .nil hS)⟩
theorem pav_cons {X : Cx} {W : WG} {e : Expr} {es : List Expr} {φ : Den} {φs : List Den} (ha : PEv X W e φ) (hr : PAv X W es φs) (hs : starEach (e :: es) X.env = (false, eval e X.env) :: starEach es X.env := by rfl) : PAv X W (e :: es) (φ :: φs) :=
  ⟨fun pos pins s σ H Q I ⟨p, env, st, z, hE, hS, h⟩ => (pa_cons (X := X) ha hr hs).run pos pins s σ H Q I (by
    subst z
    refine (tD.run hE hS h).mono fun v H1 ⟨p1, d, st1, z1, e1, r1, s1, h1⟩ => ?_
    subst z1
    refine (tL.run (hE.mono e1) s1 h1).mono fun vs H2 ⟨p2, ds, st2, z2, e2, r2, s2, h2⟩ => ?_
    subst z2
    exact h2.now (.cons (r1.mono e2) r2) s2)⟩
end DL

/-! DL: defs called where no guard (of a repr on the way) stands; the law's end for these. -/
namespace DL
open PySem PySem.Spec L2
open PyProof.Rows hiding St
set_option autoImplicit true
/-- a def's promise, at callers without guards -/
structure FnG (P : Program) (w : World) (K : Frag) (mg : Str → Option Value) (base : Heap) (k : Nat) (f : Addr) (fd : FuncData) (ps : List Str) (sp : Sp) : Prop where
  len : ∀ ws G R F, sp ws G R F → ws.length = ps.length
  run : ∀ (B : Around) (ou : List PySem.Env) (t : Shared) (G : Hp) (ar : Args) (xs : List Value) (ws : List V) (R : VK) (F : XK), B.guards = some [] → Room k B → Env0 P w K mg base B ou t G → BindsTo t fd ar (ps.zip xs) → Vals ws xs → sp ws G R F →
    codeAny (model P w) B (.call (.ref f) ar) (CR (L2.CX P w) ou P w G t R F) t
section
variable {P : Program} {w : World} {K : Frag} {mg : Str → Option Value} {base : Heap} {k : Nat} {f : Addr} {fd : FuncData} {ps : List Str} {sp sp' : Sp}
theorem FnG.up {j : Nat} (h : FnG P w K mg base j f fd ps sp) (hk : j ≤ k) : FnG P w K mg base k f fd ps sp :=
  ⟨h.len, fun B ou t G ar xs ws R F g r => h.run B ou t G ar xs ws R F g (r.mono hk)⟩
theorem FnG.less (h : FnG P w K mg base k f fd ps sp) (i : ∀ ws G R F, sp' ws G R F → sp ws G R F) : FnG P w K mg base k f fd ps sp' :=
  ⟨fun ws G R F q => h.len ws G R F (i _ _ _ _ q), fun B ou t G ar xs ws R F g r e b v q => h.run B ou t G ar xs ws R F g r e b v (i _ _ _ _ q)⟩
theorem guards_deeper {B : Around} {env : PySem.Env} (h : B.guards = some []) : (B.deeper env).guards = some [] := h
theorem fnG_of {x qual : Str} {stm : Stmt} {N : List Str} (Fu : Fun K x qual stm f fd) (S : FnScope N ps (defScope stm)) (len : ∀ ws G R F, sp ws G R F → ws.length = ps.length)
    (body : ∀ (cdv : Value) (B : Around) (ou : List PySem.Env) (t : Shared) (G : Hp) (ws : List V) (R : VK) (F : XK), (B.deeper (envOfC qual (defScope stm) t.heap.objs.size f cdv)).guards = some [] → Room k (B.deeper (envOfC qual (defScope stm) t.heap.objs.size f cdv)) → sp ws G R F →
      ∃ tr, PSs (cxOf (L2.CX P w) P w K mg base N qual (defScope stm) f cdv B ou t G F) (defBody stm) tr ∧ tr { nx := fun _ G' => R .non G', rt := R } (L2.start N ws) G) : FnG P w K mg base (k + 1) f fd ps sp := by
  obtain ⟨oc, od, kV, doc, pm, an, cdv, ct, osl, rfl, lk, hcd⟩ := Fu.ex
  refine ⟨len, fun B ou t G ar xs ws R F gd hr e0 hb rv hsp => ?_⟩
  have hlen := len _ _ _ _ hsp
  have keep : ∀ b o, base.get? b = some o → t.heap.get? b = some o := fun b o e => (e0.bs b o e).1
  have kin : K.In t.heap := e0.mod.kin.keeps keep
  have nol : t.heap.NoLimit := e0.mod.nolimit.keeps keep
  have kinds : ∀ y ∈ ps.zip xs, (defScope stm).names.lookup y.1 = some .local ∨ ((defScope stm).names.lookup y.1 = some .cell ∧ ((cellsFrom (t.heap.objs.size + 1) (defScope stm).names []).lookup y.1).isSome = true) := by
    rintro ⟨n, v⟩ hy
    rcases S.par n (List.of_mem_zip hy).1 with z | z
    · exact Or.inl z
    · exact Or.inr ⟨z, PySem.W.cellsFrom_some _ _ _ (Or.inl z)⟩
  refine codeAny_call_function hr.depth (kin _ _ lk) rfl S.co S.gen rfl (PySem.W.codeRec_of kin hcd) (hb _ _ _ _ ?_)
  refine wpAny_newFunctionEnv_cells S.kind kinds fun en hen t1 z => ?_
  subst hen
  refine ⟨nol.keeps z.toInCall.keep, codeAny_func ?_⟩
  obtain ⟨tr, htr, hq⟩ := body cdv B ou t G ws R F (guards_deeper gd) (hr.deeper _) hsp
  have J := inv_start (CX := L2.CX P w) (E := F) S hr.hd e0 hlen rv z
  refine wpAny_mono (htr.run [] t1 (L2.start N ws) G _ J hq) (fun fl t2 hs => ?_) fun _ _ hs => hs
  cases fl with
  | ret u => exact let ⟨v, _, G', J', r, q⟩ := hs; ⟨v, G', J'.os, J'.bare, J'.base, J'.hok, r, q⟩
  | next => exact let ⟨_, G', J', q⟩ := hs; ⟨V.non, G', J'.os, J'.bare, J'.base, J'.hok, rfl, q⟩
  | brk => exact let ⟨_, _, _, q⟩ := hs; q.elim
  | cont => exact let ⟨_, _, _, q⟩ := hs; q.elim
end
section
variable {X : Cx} {k : Nat} {f : Addr} {fd : FuncData} {ps : List Str} {sp : Sp} {E : St → XK} {x : Str} {p pos : Pos} {e : Expr} {es : List Expr} {t : TA}
theorem runG {pins : List (Addr × Obj)} {σ : St} {H : Hp} {s : Shared} {Q : VK} {us : List Value} {vs : List V} (Fu : FnG X.prog X.w X.K X.mg X.base k f fd ps sp) (gd : X.A.guards = some []) (hr : Room k X.A) (hb : Binds X.K fd ps [])
    (hx : PassesAt (L2.CX X.prog X.w) X σ (E σ)) (I : Inv X pins σ H s) (rv : Vals vs us) (h : sp vs H Q (E σ)) : wpAny (model X.prog X.w) X.A (call (.ref f) us) (EP X pins σ Q) X.xe s := by
  have hn : us.length = ps.length := rv.length ▸ Fu.len _ _ _ _ h
  have bd := hb s us I.kIn (by simpa using hn)
  simp only [List.append_nil] at bd
  refine wpAny_call (codeAny_mono (Fu.run X.A X.stack s H ⟨us, []⟩ us vs Q (E σ) gd hr I.env0 bd rv h) fun res s2 hq => ?_)
  match res, hq with
  | .error er, hq => exact hx pins H s er s2 I hq
  | .ok (.ret _), hq => exact I.after hq
theorem pe_callG (Fu : FnG X.prog X.w X.K X.mg X.base k f fd ps sp) (gd : X.A.guards = some []) (hr : Room k X.A) (hg : Gl X x) (hm : X.mg x = some (.ref f)) (hk : PySem.W.keepIn X.K (.ref f) = true) (hb : Binds X.K fd ps []) (hx : ∀ σ, PassesAt (L2.CX X.prog X.w) X σ (E σ))
    (ha : PA X (e :: es) t) (hdb : (x == ("__debug__" : Str)) = false) (he : starEach (e :: es) X.env = (false, eval e X.env) :: starEach es X.env) (hpl : (backTo pos (starEach es X.env)).any (·.1) = false) :
    PE X (.Call (.Name x p) (e :: es) [] pos) (tCallS sp E t) :=
  ⟨fun pins s σ H Q I h => wpAny_Call_Name_kw (ld_glob I hg hm (PySem.W.callWith_K (h₀ := X.base) I.ok.mod.kin hk
    (thn (ha.run pos pins s σ H _ I h) fun us s1 ⟨vs, H1, I1, r, q⟩ => ⟨I1.kIn, runG Fu gd hr hb (hx σ) I1 r q⟩) he hpl) hdb)⟩
end
/-- the head, for a promise without guards: as the hand layer's, at the caller of the claim -/
theorem lawG {P : Program} {w : World} {K : Frag} {mg mb : Str → Option Value} {k : Nat} {fa a : Addr} {fd : FuncData} {x : Str} {sp : Sp} {t : Shared} {vs : List Value} {ns : List Int}
    (kin : K.In t.heap) (hns : t.heap.Ns mainGlobals mg) (hb : t.heap.Ns builtinsNs mb) (hbb : ∀ x : Str, x ≠ "__name__" → mb x = bootBuiltins x) (hlim : t.heap.NoLimit) (hg : t.gens = #[])
    (ha : t.heap.get? a = some { cls := .type "list", data := .seq vs.toArray }) (hi : IntsAre vs ns) (hl : ns.length ≤ sizeLine) (hr : Room k callerA)
    (F : ∀ base : Heap, K.In base → base.Ns mainGlobals mg → FnG P w K mg base k fa fd [x] sp) (bind : ∀ (s : Shared) (u : Value), BindsTo s fd ⟨[u], []⟩ [(x, u)])
    (hsp : ∀ H : Hp, Only H → SqL K H a (ns.map V.int) → sp [.ref a] H (fun v _ => v = .bl true) fun _ _ _ => False) :
    codeAny (model P w) callerA (.call (.ref fa) ⟨[.ref a], []⟩) (fun r s' => r = .ok (.ret (.bool true)) ∧ OldK t.heap s'.heap ∧ s'.os = t.os ∧ AllBare s'.gens) t := by
  have one : ∀ H : Hp, Only H → SqL K H a (ns.map V.int) → HOk P w H t.heap → (∀ b, H b ≠ none → b = a) → (H a ≠ none → K.lookup a = none) →
      codeAny (model P w) callerA (.call (.ref fa) ⟨[.ref a], []⟩) (fun r s' => r = .ok (.ret (.bool true)) ∧ OldK t.heap s'.heap ∧ s'.os = t.os ∧ AllBare s'.gens) t := by
    intro H hO hS hok hA hK
    have up : ∀ {b : Addr} {o : Obj}, t.heap.get? b = some o → H b = none → (hidT t.heap H).get? b = some o := fun e n => hidT_get e n
    have noD : ∀ {b : Addr} {o : Obj} {ents : Array DictEntry} {ep : Nat}, t.heap.get? b = some o → o.data = .dict ents ep → H b = none := by
      intro b o ents ep e d
      cases z : H b with
      | none => rfl
      | some u =>
        obtain rfl : b = a := hA b (by simp [z])
        rw [ha] at e
        obtain rfl := Option.some.inj e
        exact nomatch d
    have nsU : ∀ {b : Addr} {m : Str → Option Value}, t.heap.Ns b m → (hidT t.heap H).Ns b m := fun ⟨o, ents, ep, e, d, r⟩ => ⟨o, ents, ep, up e (noD e d), d, r⟩
    have kinU : K.In (hidT t.heap H) := fun b o e => up (kin b o e) (by
      cases z : H b with
      | none => rfl
      | some u =>
        obtain rfl : b = a := hA b (by simp [z])
        rw [hK (by simp [z])] at e
        exact nomatch e)
    have md : Mod K mg (hidT t.heap H) := ⟨kinU, nsU hns, ⟨mb, nsU hb, hbb⟩, let ⟨mc, q1, q2⟩ := hlim; ⟨mc, nsU q1, q2⟩⟩
    have e0 : Env0 P w K mg (hidT t.heap H) callerA [] t H := ⟨rfl, md, fun b o e => of_hidT e, Nat.le_of_eq (hidT_size _ _), trivial, fun b hb => (List.not_mem_nil (show b ∈ ([] : List Addr) from hb)).elim, hok, .of_eq hg⟩
    refine codeAny_mono ((F _ kinU (nsU hns)).run callerA [] t H ⟨[.ref a], []⟩ [.ref a] [.ref a] _ _ rfl hr e0 (bind t (.ref a)) (.cons rfl .nil) (hsp H hO hS)) fun res t2 h => ?_
    match res, h with
    | .error er, h => exact (let ⟨_, _, _, _, _, _, _, _, _, _, _, _, z⟩ := h; z : False).elim
    | .ok (.ret u), h =>
      obtain ⟨v, H', os, bare, un, hok', r', q⟩ := h
      obtain rfl : v = .bl true := q
      obtain rfl : u = Value.bool true := r'
      refine ⟨rfl, OldK.of_keep fun b o e => ?_, os, bare⟩
      cases z : H b with
      | none => exact un.keep b o e z (fun y => (List.not_mem_nil (show b ∈ ([] : List Addr) from y)).elim) (by simp)
      | some u =>
        rcases hO b with y | ⟨ob, xs, y⟩
        · rw [z] at y; exact nomatch y
        · obtain ⟨e1, _⟩ := hok b _ y
          obtain ⟨e2, _⟩ := hok' b _ (un.frzs b ob _ y)
          rw [e] at e1
          obtain rfl := Option.some.inj e1
          exact e2
  have rv := L2.vals_ints hi
  cases hk : K.lookup a with
  | some o =>
    have e := kin a o hk
    rw [ha] at e
    obtain rfl := Option.some.inj e
    exact one (fun _ => none) (fun _ => Or.inl rfl) (Or.inr ⟨_, vs.toArray, _, hk, rfl, rfl, rfl, by rw [List.size_toArray, hi.length]; exact hl, by simpa using rv⟩) (fun b u z => nomatch z) (fun b z => (z rfl).elim) fun z => (z rfl).elim
  | none =>
    refine one (fun b => if b = a then some (.frz { cls := .type "list", data := .seq vs.toArray } (.lst (ns.map V.int))) else none) (fun b => ?_) (Or.inl (Or.inr ⟨_, if_pos rfl⟩)) (fun b u z => ?_) (fun b z => ?_) fun _ => hk
    · by_cases q : b = a
      · exact Or.inr ⟨_, _, if_pos q⟩
      · exact Or.inl (if_neg q)
    · by_cases q : b = a
      · subst q
        simp only [if_true] at z
        obtain rfl := Option.some.inj z
        exact ⟨ha, by rw [List.length_map]; exact hl, vs, _, rv, ha⟩
      · simp [q] at z
    · exact Classical.byContradiction fun q => z (if_neg q)
theorem walkG {l : PySem.W.OpenLaw} {n k : Nat} {q : Program} {loose : List Str} {XP : (Str → Option Value) → Heap → Prop} {YP : World → Heap → Prop} {d : DefRec} {K : Params → Frag} {sp : World → Sp} {x : Str}
    (hn : l.most = some n) (hn2 : n ≤ sizeLine) (hdf : d.params.defaults = []) (hr : Room k callerA)
    (hY : ∀ (w : World) (h : Heap), YP w h → (K w.params).In h)
    (F : ∀ (w : World) (mg : Str → Option Value) (fa : Addr) (h : Heap), (K w.params).In h → h.Ns mainGlobals mg → mg d.name = some (.ref fa) →
      ∃ fd : FuncData, (∀ (s : Shared) (u : Value), BindsTo s fd ⟨[u], []⟩ [(x, u)]) ∧ ∀ base : Heap, (K w.params).In base → base.Ns mainGlobals mg → FnG l.prog w (K w.params) mg base k fa fd [x] (sp w))
    (hsp : ∀ (w : World) (H : Hp) (a : Addr) (ns : List Int), ns.length ≤ n → Only H → SqL (K w.params) H a (ns.map V.int) → sp w [.ref a] H (fun v _ => v = .bl true) fun _ _ _ => False) :
    PySem.W.WalkO q loose XP YP l.row.toRowW d [] (fun f vs => PySem.call f vs) := by
  refine Att.attach_call hn hdf fun w s₀ s₁ mg mb fa o pm cd doc a vs ns G Y ho hd hcd hmg hobj hints hlen hg => ?_
  obtain ⟨fd, hb, hF⟩ := F w mg fa _ (hY w _ Y) G.T.g hmg
  exact lawG (hY w _ Y) G.T.g G.T.b G.T.builtins G.T.nolimit hg hobj hints (Nat.le_trans hlen hn2) hr hF hb fun H hO hS => hsp w H a ns hlen hO hS
end DL

/-! DL: rules for expressions, tests, statements, loops, calls. -/
namespace DL
open PySem PySem.Spec L2
open PyProof.Rows hiding St
set_option autoImplicit true

/-- where one stands: what every rule may use -/
structure Ok (X : Cx) (W : WG) (k : Nat) : Prop where
  calm : X.calm = true
  nd : X.N.Nodup
  room : Room k X.A
  tk : Takes X W.w
  po : PassesOwn (model X.prog X.w) X.A X.env X.xe
  gd : X.A.guards = some []
abbrev wNo (W : WG) : WG := ⟨fun _ _ _ _ => False, W.p0, W.lam⟩
theorem Ok.blk {X : Cx} {W : WG} {k : Nat} (o : Ok X W k) (s : Shared) (H : Hp) (scope : Scope) (cenv : PySem.Env) (fp : List Addr) : Ok (X.blk s H scope cenv fp) (wNo W) k :=
  ⟨o.calm, o.nd, o.room, takes0, PassesOwn.never, o.gd⟩

/-! ### names, constants -/
def dVar (i : Nat) : Den := fun env st => match env[i]? with
  | some (some d) => if plainD d = true then .ok d st else .bad
  | _ => .bad
def dC (d : D) : Den := fun _ st => .ok d st
section
variable {X : Cx} {W : WG} {k : Nat} {pos : Pos}
theorem pev_var (i : Nat) {x : Str} (hN : X.N[i]? = some x := by rfl) (hv : Vis X.env.scope x := by first | exact Or.inl rfl | exact Or.inr (Or.inl rfl) | exact Or.inr (Or.inr rfl)) (hd : (x == ("__debug__" : Str)) = false := by decide)
    (hcd : (x == ("__classdict__" : Str)) = false := by decide) : PEv X W (.Name x pos) (dVar i) := by
  refine pev_of (pe_var hN hv hd hcd) fun σ Q p env st hE hS h => ?_
  unfold dVar at h
  split at h
  · rename_i d e
    obtain ⟨v, e1, r⟩ := hE.at_ i d e
    split at h
    · exact ⟨v, e1, h.now (r.val (by assumption)) hS⟩
    · exact h.elim
  · exact h.elim
theorem pev_c {e : Expr} {v : V} {d : D} (h : PE X e (tC v)) (r : ∀ p, Rep X.K p d v) : PEv X W e (dC d) :=
  pev_of h fun σ Q p env st hE hS q => q.now (r p) hS
theorem pev_int {i j} : PEv X W (.Constant (.int i) j pos) (dC (.int i)) := pev_c pe_int fun _ => .int i
theorem pev_bl {b j} : PEv X W (.Constant (.bool b) j pos) (dC (.bl b)) := pev_c pe_bl fun _ => .bl b
theorem pev_non {j} : PEv X W (.Constant .none j pos) (dC .non) := pev_c pe_non fun _ => .non
theorem pev_str {x j} : PEv X W (.Constant (.str x) j pos) (dC (.str x)) := pev_c pe_str fun _ => .str x
/-- a constant of the module -/
structure GCon (G : Cg) (x : Str) (d : D) : Prop where
  ex : ∃ u v, G.mg x = some u ∧ RelV v u ∧ ∀ p, Rep G.K p d v
theorem pev_glob {x : Str} {d : D} (h : GCon (Cx.g X) x d) (hg : Gl X x := by rfl) (hd : (x == ("__debug__" : Str)) = false := by decide) : PEv X W (.Name x pos) (dC d) := by
  obtain ⟨u, v, e, r, rr⟩ := h.ex
  exact pev_c (pe_glob hg e r hd) rr

/-! ### operators of two values, of one -/
def dOp2 (f : D → D → Sto → Out D) (a b : Den) : Den := fun env st => (a env st).bind fun x st => (b env st).bind fun y st => f x y st
def dOp1 (f : D → Sto → Out D) (a : Den) : Den := fun env st => (a env st).bind f
/-- f tells what r wants -/
def Op2 (G : Cg) (f : D → D → Sto → Out D) (r : R2) : Prop := ∀ p st x y v u Q E, Rep G.K p x v → Rep G.K p y u → RepS G.K p st → Aft (Rep G.K) G p (f x y st) Q E → r v u p.H Q
def Op1 (G : Cg) (f : D → Sto → Out D) (r : V → Hp → VK → Prop) : Prop := ∀ p st x v Q E, Rep G.K p x v → RepS G.K p st → Aft (Rep G.K) G p (f x st) Q E → r v p.H Q
theorem tOp_of {r : R2} {f : D → D → Sto → Out D} {φa φb : Den} (hf : Op2 (Cx.g X) f r) (σ : St) (Q : VK) (p : Pt) (env : En) (st : Sto) (hE : RepE X.K W p env σ) (hS : RepS X.K p st) (h : Aft (Rep X.K) (Cx.g X) p (dOp2 f φa φb env st) Q (wAt W σ)) : tOp r (tD (Cx.g X) W φa) (tD (Cx.g X) W φb) σ p.H Q := by
  refine (tD.run hE hS h).mono fun x H1 ⟨p1, d, st1, z1, e1, r1, s1, h1⟩ => ?_
  subst z1
  refine (tD.run (hE.mono e1) s1 h1).mono fun y H2 ⟨p2, d2, st2, z2, e2, r2, s2, h2⟩ => ?_
  subst z2
  exact hf _ _ _ _ _ _ _ _ (r1.mono e2) r2 s2 h2
theorem tUn_of {r : V → Hp → VK → Prop} {f : D → Sto → Out D} {φa : Den} (hf : Op1 (Cx.g X) f r) (σ : St) (Q : VK) (p : Pt) (env : En) (st : Sto) (hE : RepE X.K W p env σ) (hS : RepS X.K p st) (h : Aft (Rep X.K) (Cx.g X) p (dOp1 f φa env st) Q (wAt W σ)) : tUn r (tD (Cx.g X) W φa) σ p.H Q := by
  refine (tD.run hE hS h).mono fun x H1 ⟨p1, d, st1, z1, e1, r1, s1, h1⟩ => ?_
  subst z1
  exact hf _ _ _ _ _ _ r1 s1 h1
theorem pev_bin {op : Operator} {r : R2} {f : D → D → Sto → Out D} {a b : Expr} {φa φb : Den} (ho : OpR X (binaryOp op) r) (hf : Op2 (Cx.g X) f r) (ha : PEv X W a φa) (hb : PEv X W b φb) : PEv X W (.BinOp a op b pos) (dOp2 f φa φb) :=
  pev_of (pe_op ho ha hb) (tOp_of hf)
theorem pev_cmp {op : CmpOp} {r : R2} {f : D → D → Sto → Out D} {a b : Expr} {φa φb : Den} (ho : OpR X (compareOp op) r) (hf : Op2 (Cx.g X) f r) (ha : PEv X W a φa) (hb : PEv X W b φb) (hm : behindInMarks op b = false) : PEv X W (.Compare a [op] [b] pos) (dOp2 f φa φb) :=
  pev_of (pe_cmpR ho ha hb hm) (tOp_of hf)
theorem pev_un {op : UnaryOp} {r : V → Hp → VK → Prop} {f : D → Sto → Out D} {a : Expr} {φa : Den} (ho : UnR X (unaryOp op) r) (hf : Op1 (Cx.g X) f r) (ha : PEv X W a φa) : PEv X W (.UnaryOp op a pos) (dOp1 f φa) :=
  pev_of (pe_un ho ha) (tUn_of hf)
theorem pev_ix {r : R2} {f : D → D → Sto → Out D} {a b : Expr} {φa φb : Den} (ho : IxR X r) (hf : Op2 (Cx.g X) f r) (ha : PEv X W a φa) (hb : PEv X W b φb) (hs : PlainIx b) : PEv X W (.Subscript a b pos) (dOp2 f φa φb) :=
  pev_of (pe_ix ho ha hb hs) (tOp_of hf)

/-! ### built-in functions -/
def dCall (F : List D → Sto → Out D) (φs : List Den) : Den := fun env st => (evL φs env st).bind F
def CallOp (G : Cg) (F : List D → Sto → Out D) (r : List V → Hp → VK → Prop) : Prop := ∀ p st xs vs Q E, Reps G.K p xs vs → RepS G.K p st → Aft (Rep G.K) G p (F xs st) Q E → r vs p.H Q
theorem tCB_of {r : List V → Hp → VK → Prop} {F : List D → Sto → Out D} {φs : List Den} (hf : CallOp (Cx.g X) F r) (σ : St) (Q : VK) (p : Pt) (env : En) (st : Sto) (hE : RepE X.K W p env σ) (hS : RepS X.K p st) (h : Aft (Rep X.K) (Cx.g X) p (dCall F φs env st) Q (wAt W σ)) : tCB r (tL (Cx.g X) W φs) σ p.H Q := by
  refine (tL.run hE hS h).mono fun vs H1 ⟨p1, ds, st1, z1, e1, r1, s1, h1⟩ => ?_
  subst z1
  exact hf _ _ _ _ _ _ r1 s1 h1
theorem pev_callB {x : Str} {p : Pos} {id : String} {r : List V → Hp → VK → Prop} {F : List D → Sto → Out D} {e : Expr} {es : List Expr} {φs : List Den} (hc : CallR X (.builtin id) r) (hf : CallOp (Cx.g X) F r) (hm : X.mg x = none) (hv : bootBuiltins x = some (.builtin id)) (ha : PAv X W (e :: es) φs)
    (hg : Gl X x := by rfl) (hn : x ≠ "__name__" := by decide) (hdb : (x == ("__debug__" : Str)) = false := by decide)
    (he : starEach (e :: es) X.env = (false, eval e X.env) :: starEach es X.env := by rfl) (hpl : (backTo pos (starEach es X.env)).any (·.1) = false := by rfl) : PEv X W (.Call (.Name x p) (e :: es) [] pos) (dCall F φs) :=
  pev_of (pe_callB hc hg hm hv ha hn hdb he hpl) (tCB_of hf)
theorem pev_callTy {x : Str} {p : Pos} {T : String} {r : List V → Hp → VK → Prop} {F : List D → Sto → Out D} {e : Expr} {es : List Expr} {φs : List Den} (hc : CallR X (.type T) r) (hf : CallOp (Cx.g X) F r) (hm : X.mg x = none) (hv : bootBuiltins x = some (.type T)) (ha : PAv X W (e :: es) φs)
    (hg : Gl X x := by rfl) (hn : x ≠ "__name__" := by decide) (hdb : (x == ("__debug__" : Str)) = false := by decide)
    (he : starEach (e :: es) X.env = (false, eval e X.env) :: starEach es X.env := by rfl) (hpl : (backTo pos (starEach es X.env)).any (·.1) = false := by rfl) : PEv X W (.Call (.Name x p) (e :: es) [] pos) (dCall F φs) :=
  pev_of (pe_callTy hc hg hm hv ha hn hdb he hpl) (tCB_of hf)

/-! ### calls of defs -/
def spF (G : Cg) (n : Nat) (F : List D → Sto → Out D) : Sp := fun vs H Q E => ∃ p args st, p.H = H ∧ args.length = n ∧ Reps G.K p args vs ∧ RepS G.K p st ∧ Aft (Rep G.K) G p (F args st) Q E
/-- the def x of the module tells F -/
structure Fn (P : Program) (w : World) (G : Cg) (base : Heap) (x : Str) (k n : Nat) (F : List D → Sto → Out D) : Prop where
  ex : ∃ f fd ps, FnG P w G.K G.mg base k f fd ps (spF G n F) ∧ G.mg x = some (.ref f) ∧ PySem.W.keepIn G.K (.ref f) = true ∧ Binds G.K fd ps []
def dCallF (n : Nat) (F : List D → Sto → Out D) (φs : List Den) : Den := fun env st => (evL φs env st).bind fun ds st => if ds.length = n then F ds st else .bad
theorem pev_call {k' n : Nat} {x : Str} {p : Pos} {F : List D → Sto → Out D} {e : Expr} {es : List Expr} {φs : List Den} (o : Ok X W k) (h : Fn X.prog X.w (Cx.g X) X.base x k' n F) (hk : k' ≤ k) (ha : PAv X W (e :: es) φs)
    (hg : Gl X x := by rfl) (hdb : (x == ("__debug__" : Str)) = false := by decide) (he : starEach (e :: es) X.env = (false, eval e X.env) :: starEach es X.env := by rfl) (hpl : (backTo pos (starEach es X.env)).any (·.1) = false := by rfl) :
    PEv X W (.Call (.Name x p) (e :: es) [] pos) (dCallF n F φs) := by
  obtain ⟨f, fd, ps, F1, hm, hkp, hb⟩ := h.ex
  refine pev_of (pe_callG F1 o.gd (o.room.mono hk) hg hm hkp hb (fun σ => passAt o.tk σ) ha hdb he hpl) fun σ Q p env st hE hS h => ?_
  refine (tL.run hE hS h).mono fun vs H1 ⟨p1, ds, st1, z1, e1, r1, s1, h1⟩ => ?_
  by_cases hl : ds.length = n
  · rw [if_pos hl] at h1
    exact ⟨p1, ds, st1, z1, hl, r1, s1, h1⟩
  · rw [if_neg hl] at h1
    exact h1.elim
/-- f() -/
theorem pev_call0 {k' : Nat} {x : Str} {p : Pos} {F : List D → Sto → Out D} (o : Ok X W k) (h : Fn X.prog X.w (Cx.g X) X.base x k' 0 F) (hk : k' ≤ k)
    (hg : Gl X x := by rfl) (hdb : (x == ("__debug__" : Str)) = false := by decide) : PEv X W (.Call (.Name x p) [] [] pos) (dCallF 0 F []) := by
  obtain ⟨f, fd, ps, F1, hm, hkp, hb⟩ := h.ex
  refine ⟨fun pins s σ H Q I q => ?_⟩
  obtain ⟨p, env, st, z, hE, hS, h⟩ := q
  have h : Aft (Rep X.K) (Cx.g X) p (F [] st) Q (wAt W σ) := h
  refine wpAny_Call_Name_kw (ld_glob I hg hm ?_ hdb)
  exact PySem.W.callWith_K0 I.kIn hkp (runG (us := []) F1 o.gd (o.room.mono hk) hb (fun p q r s t u => passAt o.tk σ p q r s t u) I .nil ⟨p, [], st, z, rfl, .nil, hS, h⟩)

/-! ### displays -/
def oTup : List D → Sto → Out D := fun ds st => if ds.length ≤ sizeLine then .ok (.tup ds) st else .bad
def oLst : List D → Sto → Out D := fun ds st => if ds.length ≤ sizeLine then .ok (.lst ds) st else .bad
/-- a list that will be written -/
def oLstP : List D → Sto → Out D := fun ds st => if ds.length ≤ sizeLine then .ok (.ptr st.length) (st ++ [.lst ds]) else .bad
/-- something new is laid that is no cell -/
theorem sub_upd {V H : Hp} {a : Addr} {o : HO} (h : ∀ b o, V b = some o → H b = some o) : ∀ b u, upd V a o b = some u → upd H a o b = some u := fun b u q => by
  by_cases z : b = a
  · subst z; rw [upd_same] at q ⊢; exact q
  · rw [upd_ne z] at q ⊢; exact h b u q
theorem Pt.tne {p : Pt} {a : Addr} (hn : ∀ ps, p.H a ≠ some (.tbl ps)) : ∀ t ∈ p.T, t.1 ≠ a := fun t ht z => by
  obtain ⟨ps, h, _⟩ := p.tb t ht
  rw [z] at h; exact hn ps h
theorem Pt.tn0 {p : Pt} {a : Addr} (hn : p.H a = none) : ∀ ps, p.H a ≠ some (.tbl ps) := fun ps z => by rw [hn] at z; cases z
theorem tabs_upd {T : List (Addr × Str)} {H : Hp} {a : Addr} {o : HO} (h : LamX.Tabs T H) (hc : H a = none ∨ (∃ xs, H a = some (.lst xs)) ∨ ∃ kvs, H a = some (.dK kvs)) : LamX.Tabs T (upd H a o) := fun t ht => by
  obtain ⟨ps, h1, h2, h3⟩ := h t ht
  have ne : ∀ b u, H b = some u → (∀ xs, u ≠ .lst xs) → (∀ kvs, u ≠ .dK kvs) → b ≠ a := fun b u e n1 n2 z => by
    subst z
    rcases hc with q | ⟨xs, q⟩ | ⟨kvs, q⟩ <;> rw [q] at e
    · cases e
    · exact n1 xs (Option.some.inj e).symm
    · exact n2 kvs (Option.some.inj e).symm
  refine ⟨ps, by rw [upd_ne (ne _ _ h1 (fun _ z => nomatch z) (fun _ z => nomatch z))]; exact h1, h2, fun pos cv hcv => ?_⟩
  obtain ⟨c, e1, e2⟩ := h3 pos cv hcv
  exact ⟨c, e1, by rw [upd_ne (ne _ _ e2 (fun xs z => by unfold LamX.CodeO at z; cases z) (fun xs z => by unfold LamX.CodeO at z; cases z))]; exact e2⟩
def Pt.laid (p : Pt) (a : Addr) (o : HO) (hn : p.H a = none) : Pt := ⟨p.rho, upd p.V a o, upd p.H a o, sub_upd p.sub, p.T, tabs_upd p.tb (.inl hn), fun t ht => by rw [upd_ne (Pt.tne (Pt.tn0 hn) t ht)]; exact p.hv t ht⟩
def Pt.cell (p : Pt) (a : Addr) (o : HO) (hn : p.H a = none) : Pt := ⟨p.rho ++ [a], upd p.V a o, upd p.H a o, sub_upd p.sub, p.T, (p.laid a o hn).tb, (p.laid a o hn).hv⟩
theorem Ext.laid {p : Pt} {a o} (hn : p.H a = none) : Ext p (p.laid a o hn) :=
  ⟨⟨[], by simp [Pt.laid]⟩, fun b u h _ => by show upd _ _ _ _ = _; rw [upd_ne (ne_of_none h (Pt.free hn))]; exact h, fun b h n => absurd h n,
   fun b u h n => by
    by_cases z : b = a
    · rw [z]; exact hn
    · rw [show (p.laid a o hn).V b = p.V b from upd_ne z, n] at h; exact (nomatch h),
   fun b u h n _ => by show upd _ _ _ _ = _; rw [upd_ne (ne_of_none h hn)]; exact h,
   fun b ps h => ⟨ps, by show upd _ _ _ _ = _; rw [upd_ne (ne_of_none h hn)]; exact h⟩, rfl⟩
theorem RepM.ext {K p q a m} (e : Ext p q) (hs : q.V a = p.V a) (h : RepM K p a m) : RepM K q a m := by
  cases m with
  | lst ds => obtain ⟨vs, h1, h2⟩ := h; exact ⟨vs, hs.trans h1, h2.mono e⟩
  | dic ks ds => obtain ⟨vs, h1, h0, h2⟩ := h; exact ⟨vs, hs.trans h1, h0, h2.mono e⟩
theorem RepS.laid {K} {p : Pt} {st a o} (hS : RepS K p st) (hn : p.H a = none) : RepS K (p.laid a o hn) st :=
  ⟨hS.len, hS.nd, fun n m b h1 h2 => (hS.at_ n m b h1 h2).ext (Ext.laid hn) (upd_ne fun z => hS.nh hn (z ▸ List.mem_of_getElem? h2))⟩
/-- a new cell -/
theorem Ext.cell {p : Pt} {a o} (hn : p.H a = none) : Ext p (p.cell a o hn) :=
  ⟨⟨[a], rfl⟩, fun b u h _ => by show upd _ _ _ _ = _; rw [upd_ne (ne_of_none h (Pt.free hn))]; exact h, fun b h n => by
    rcases List.mem_append.mp h with z | z
    · exact absurd z n
    · simp at z; subst z; exact hn,
   fun b u h n => by
    by_cases z : b = a
    · rw [z]; exact hn
    · rw [show (p.cell a o hn).V b = p.V b from upd_ne z, n] at h; exact (nomatch h),
   fun b u h n _ => by show upd _ _ _ _ = _; rw [upd_ne (ne_of_none h hn)]; exact h,
   fun b ps h => ⟨ps, by show upd _ _ _ _ = _; rw [upd_ne (ne_of_none h hn)]; exact h⟩, rfl⟩
theorem RepS.cell {K} {p : Pt} {st a o m} (hS : RepS K p st) (hn : p.H a = none) (hm : RepM K (p.cell a o hn) a m) : RepS K (p.cell a o hn) (st ++ [m]) := by
  refine ⟨by simp [Pt.cell, hS.len], ?_, fun n m' b h1 h2 => ?_⟩
  · show (p.rho ++ [a]).Nodup
    rw [List.nodup_append]
    exact ⟨hS.nd, by simp, fun x hx y hy => by simp at hy; subst hy; intro z; subst z; exact hS.nh hn hx⟩
  · have h2 : (p.rho ++ [a])[n]? = some b := h2
    by_cases hl : n < p.rho.length
    · rw [List.getElem?_append_left (by rw [hS.len]; exact hl)] at h1
      rw [List.getElem?_append_left hl] at h2
      exact (hS.at_ n m' b h1 h2).ext (Ext.cell hn) (upd_ne fun z => hS.nh hn (z ▸ List.mem_of_getElem? h2))
    · have e : n = p.rho.length := by
        have := (List.getElem?_eq_some_iff.mp h2).1
        simp at this; omega
      subst e
      rw [show p.rho.length = st.length from hS.len.symm] at h1
      simp at h1
      simp at h2
      subst h1; subst h2
      exact hm
theorem pev_tup {es : List Expr} {φs : List Den} {x1} (h : PAv X W es φs) : PEv X W (.Tuple es x1 pos) (dCall oTup φs) :=
  pev_of (pe_tup h) fun σ Q p env st hE hS h => by
    refine (tL.run hE hS h).mono fun vs H1 ⟨p1, ds, st1, z1, e1, r1, s1, h1⟩ => ?_
    subst z1
    unfold oTup at h1
    split at h1
    · rename_i hl
      refine ⟨by rw [← r1.length]; exact hl, fun a hp => ?_⟩
      exact h1 (p1.laid a _ hp) _ (Ext.laid hp) (.tup (.inl ⟨.inl upd_same, s1.nh hp⟩) (r1.mono (Ext.laid hp))) (s1.laid hp)
    · exact h1.elim
theorem pev_lst {es : List Expr} {φs : List Den} (h : PAv X W es φs) : PEv X W (.List es pos) (dCall oLst φs) :=
  pev_of (pe_lst h) fun σ Q p env st hE hS h => by
    refine (tL.run hE hS h).mono fun vs H1 ⟨p1, ds, st1, z1, e1, r1, s1, h1⟩ => ?_
    subst z1
    unfold oLst at h1
    split at h1
    · rename_i hl
      refine ⟨by rw [← r1.length]; exact hl, fun a hp => ?_⟩
      exact h1 (p1.laid a _ hp) _ (Ext.laid hp) (.lst upd_same (s1.nh hp) (r1.mono (Ext.laid hp))) (s1.laid hp)
    · exact h1.elim
theorem pev_lstP {es : List Expr} {φs : List Den} (h : PAv X W es φs) : PEv X W (.List es pos) (dCall oLstP φs) :=
  pev_of (pe_lst h) fun σ Q p env st hE hS h => by
    refine (tL.run hE hS h).mono fun vs H1 ⟨p1, ds, st1, z1, e1, r1, s1, h1⟩ => ?_
    subst z1
    unfold oLstP at h1
    split at h1
    · rename_i hl
      refine ⟨by rw [← r1.length]; exact hl, fun a hp => ?_⟩
      refine h1 (p1.cell a _ hp) _ (Ext.cell hp) (.ptr ?_) (s1.cell hp ⟨vs, upd_same, r1.mono (Ext.cell hp)⟩)
      show (p1.rho ++ [a])[st1.length]? = some a
      rw [s1.len]; simp
    · exact h1.elim
end
end DL

namespace DL
open PySem PySem.Spec L2
open PyProof.Rows hiding St
set_option autoImplicit true
/-! ### tests -/
abbrev DenT := En → Sto → Out Bool
abbrev Req : Pt → Bool → Bool → Prop := fun _ a b => a = b
def tT (G : Cg) (W : WG) (φ : DenT) : TT := fun σ H Q => ∃ p env st, p.H = H ∧ RepE G.K W p env σ ∧ RepS G.K p st ∧ Aft Req G p (φ env st) Q (wAt W σ)
def PTv (X : Cx) (W : WG) (e : Expr) (φ : DenT) : Prop := PT X e (tT (Cx.g X) W φ)
def PWv (X : Cx) (W : WG) (e : Expr) (φ : DenT) : Prop := PW X e (tT (Cx.g X) W φ)
section
variable {G : Cg} {W : WG} {φ : DenT} {σ : St} {H : Hp} {p : Pt} {env : En} {st : Sto}
theorem tT.mono {Q Q' : Bool → Hp → Prop} (h : tT G W φ σ H Q) (hq : ∀ v H', Q v H' → Q' v H') : tT G W φ σ H Q' :=
  let ⟨p, env, st, z, a, b, c⟩ := h
  ⟨p, env, st, z, a, b, c.mono hq⟩
theorem tT.run {γ δ : Type} {R' : Pt → γ → δ → Prop} {k : Bool → Sto → Out γ} {Q : δ → Hp → Prop} (hE : RepE G.K W p env σ) (hS : RepS G.K p st) (h : Aft R' G p ((φ env st).bind k) Q (wAt W σ)) :
    tT G W φ σ p.H (fun b H1 => ∃ q st1, q.H = H1 ∧ Ext p q ∧ RepS G.K q st1 ∧ Aft R' G q (k b st1) Q (wAt W σ)) :=
  ⟨p, env, st, rfl, hE, hS, (Aft.bind (R := Req) h).mono fun b H1 ⟨q, a, st1, z, e, r, s, h⟩ => ⟨q, st1, z, e, s, r ▸ h⟩⟩
end
theorem ptv_of {X : Cx} {W : WG} {e : Expr} {t : TT} {φ : DenT} (h : PT X e t) (i : ∀ σ Q p env st, RepE X.K W p env σ → RepS X.K p st → Aft Req (Cx.g X) p (φ env st) Q (wAt W σ) → t σ p.H Q) : PTv X W e φ :=
  ⟨fun pins s σ H Q I ⟨p, env, st, z, hE, hS, q⟩ => h.run pins s σ H Q I (z ▸ i σ Q p env st hE hS q)⟩
theorem pwv_of {X : Cx} {W : WG} {e : Expr} {t : TT} {φ : DenT} (h : PW X e t) (i : ∀ σ Q p env st, RepE X.K W p env σ → RepS X.K p st → Aft Req (Cx.g X) p (φ env st) Q (wAt W σ) → t σ p.H Q) : PWv X W e φ :=
  ⟨fun wh pins s σ H Q I ⟨p, env, st, z, hE, hS, q⟩ => h.run wh pins s σ H Q I (z ▸ i σ Q p env st hE hS q)⟩
theorem PWv.pt {X : Cx} {W : WG} {e : Expr} {φ : DenT} (h : PWv X W e φ) : PTv X W e φ := PW.pt h
/-- the items of a list value -/
def view : D → Sto → Option (List D)
  | .lst ds, _ => some ds
  | .fls ds, _ => some ds
  | .ptr n, st => match st[n]? with
    | some (.lst ds) => some ds
    | _ => none
  | _, _ => none
theorem view_rep {G : Cg} {p : Pt} {st : Sto} {d : D} {v : V} {ds : List D} (h : view d st = some ds) (r : Rep G.K p d v) (s : RepS G.K p st) : ∃ a vs, v = .ref a ∧ SqL G.K p.H a vs ∧ Reps G.K p ds vs := by
  cases r <;> simp only [view] at h <;> try (cases h; done)
  · cases h
    rename_i e n q
    exact ⟨_, _, rfl, SqL.of (p.sub _ _ e), q⟩
  · cases h
    rename_i e q
    exact ⟨_, _, rfl, e.sq, q⟩
  · rename_i n a hn
    split at h
    · cases h
      rename_i es e
      obtain ⟨vs, h1, h2⟩ := s.at_ n _ a e hn
      exact ⟨a, vs, rfl, SqL.of (p.sub _ _ h1), h2⟩
    · cases h
def tru : D → Sto → Out Bool := fun d st => match d with
  | .non => .ok false st
  | .bl b => .ok b st
  | .int i => .ok (i != 0) st
  | .str y => if y.length ≤ sizeLine then .ok ((y.length : Int) != 0) st else .bad
  | .tup ds => .ok (!ds.isEmpty) st
  | .dic ks _ => .ok (!ks.isEmpty) st
  | .lst ds => .ok (!ds.isEmpty) st
  | .fls ds => .ok (!ds.isEmpty) st
  | .ptr n => match st[n]? with
    | some (.lst ds) => .ok (!ds.isEmpty) st
    | some (.dic ks _) => .ok (!ks.isEmpty) st
    | _ => .bad
  | _ => .bad
def dTru (φ : Den) : DenT := fun env st => (φ env st).bind tru
def dTst (φ : Den) : DenT := fun env st => (φ env st).bind fun d st => match d with
  | .bl b => .ok b st
  | _ => .bad
theorem isEmpty_len {α β : Type} {xs : List α} {ys : List β} (h : xs.length = ys.length) : xs.isEmpty = ys.isEmpty := by
  cases xs <;> cases ys <;> simp at h <;> rfl
theorem zip_empty {α β γ : Type} {ks : List α} {vs : List β} {ds : List γ} (h : ks.length = ds.length) (h2 : ds.length = vs.length) : (ks.zip vs).isEmpty = ks.isEmpty :=
  isEmpty_len (by rw [List.length_zip]; omega)
theorem tru_rep {G : Cg} {p : Pt} {st : Sto} {d : D} {v : V} {Q : Bool → Hp → Prop} {E : XK} (r : Rep G.K p d v) (s : RepS G.K p st) (h : Aft Req G p (tru d st) Q E) : ∃ k, TruV G.K v p.H k ∧ Q k p.H := by
  cases r with
  | non => exact ⟨false, rfl, h.now rfl s⟩
  | bl b => exact ⟨b, rfl, h.now rfl s⟩
  | int i => exact ⟨_, rfl, h.now rfl s⟩
  | str x =>
    unfold tru at h
    dsimp only at h
    split at h
    · rename_i hl
      exact ⟨_, ⟨hl, rfl⟩, h.now rfl s⟩
    · exact h.elim
  | raw v => exact h.elim
  | tup e q => exact ⟨_, .inr (.inl ⟨_, e.sq, rfl⟩), h.now (show (!List.isEmpty _) = _ by rw [isEmpty_len q.length]) s⟩
  | lst e n q => exact ⟨_, .inl ⟨_, SqL.of (p.sub _ _ e), rfl⟩, h.now (show (!List.isEmpty _) = _ by rw [isEmpty_len q.length]) s⟩
  | fls e q => exact ⟨_, .inl ⟨_, e.sq, rfl⟩, h.now (show (!List.isEmpty _) = _ by rw [isEmpty_len q.length]) s⟩
  | dic e n l q => exact ⟨_, .inr (.inr ⟨_, p.sub _ _ e, rfl⟩), h.now (show (!List.isEmpty _) = _ by rw [zip_empty l q.length]) s⟩
  | @ptr n a hn =>
    unfold tru at h
    dsimp only at h
    split at h
    · rename_i ds e
      obtain ⟨vs, h1, h2⟩ := s.at_ n _ a e hn
      exact ⟨_, .inl ⟨_, SqL.of (p.sub _ _ h1), rfl⟩, h.now (show (!List.isEmpty _) = _ by rw [isEmpty_len h2.length]) s⟩
    · rename_i ks ds e
      obtain ⟨vs, h1, h0, h2⟩ := s.at_ n _ a e hn
      exact ⟨_, .inr (.inr ⟨_, p.sub _ _ h1, rfl⟩), h.now (show (!List.isEmpty _) = _ by rw [zip_empty h0 h2.length]) s⟩
    · exact h.elim
section
variable {X : Cx} {W : WG} {k : Nat} {pos : Pos} {a b e : Expr} {φ φa φb : Den} {ψ ψa ψb : DenT}
theorem ptv_tru (ha : PEv X W a φ) (he : ∀ whole, isTrue a X.env whole = (do let v ← whole; standAt a.pos; holding [v] (truthy v)) := by intro _; rfl) : PTv X W a (dTru φ) := by
  refine ⟨fun pins s σ H Q I h => ?_⟩
  obtain ⟨p, env, st, z, hE, hS, h⟩ := h
  subst z
  refine isTrue_plain (thn (ha.run pins s σ p.H _ I (tD.run hE hS h)) fun v s1 ⟨x, H1, I1, r1, q1⟩ => ?_) (he _)
  obtain ⟨p1, d, st1, z1, e1, r2, s2, h2⟩ := q1
  subst z1
  obtain ⟨k, hk⟩ := tru_rep r2 s2 h2
  exact tru_ok pins s1 σ _ x v _ I1 r1 ⟨k, hk⟩
theorem tTest_of {t : TE} (σ : St) (Q : Bool → Hp → Prop) (p : Pt) (env : En) (st : Sto) (hE : RepE X.K W p env σ) (hS : RepS X.K p st) (ht : ∀ Q', Aft (Rep X.K) (Cx.g X) p (φ env st) Q' (wAt W σ) → t σ p.H Q') (h : Aft Req (Cx.g X) p (dTst φ env st) Q (wAt W σ)) : tTest t σ p.H Q := by
  refine ht _ ((Aft.bind (R := Rep X.K) h).mono fun x H1 ⟨p1, d, st1, z1, e1, r1, s1, h1⟩ => ?_)
  subst z1
  cases r1 <;> first | exact h1.elim | skip
  exact ⟨_, rfl, h1.now rfl s1⟩
theorem ptv_cmp {op : CmpOp} {r : R2} {f : D → D → Sto → Out D} (ho : OpR X (compareOp op) r) (hf : Op2 (Cx.g X) f r) (ha : PEv X W a φa) (hb : PEv X W b φb) (hm : behindInMarks op b = false) : PTv X W (.Compare a [op] [b] pos) (dTst (dOp2 f φa φb)) :=
  ptv_of (pt_cmpR ho ha hb hm) fun σ Q p env st hE hS h => tTest_of σ Q p env st hE hS (fun Q' q => tOp_of hf σ Q' p env st hE hS q) h
def dNotT (ψ : DenT) : DenT := fun env st => (ψ env st).bind fun b st => .ok (!b) st
def dAndT (ψa ψb : DenT) : DenT := fun env st => (ψa env st).bind fun b st => if b = true then ψb env st else .ok false st
def dOrT (ψa ψb : DenT) : DenT := fun env st => (ψa env st).bind fun b st => if b = true then .ok true st else ψb env st
theorem ptv_not (ha : PTv X W a ψ) : PTv X W (.UnaryOp .Not a pos) (dNotT ψ) :=
  ptv_of (pt_not ha) fun σ Q p env st hE hS h => (tT.run hE hS h).mono fun b H1 ⟨p1, st1, z1, e1, s1, h1⟩ => z1 ▸ h1.now rfl s1
theorem pwv_and1 (ha : PTv X W a ψ) : PWv X W (.BoolOp .And [a] pos) ψ := pw_and1 ha
theorem pwv_or1 (ha : PTv X W a ψ) : PWv X W (.BoolOp .Or [a] pos) ψ := pw_or1 ha
theorem pwv_and {rest : List Expr} (ha : PTv X W a ψa) (hb : PWv X W (.BoolOp .And (b :: rest) pos) ψb) : PWv X W (.BoolOp .And (a :: b :: rest) pos) (dAndT ψa ψb) :=
  pwv_of (pw_and ha hb) fun σ Q p env st hE hS h => (tT.run hE hS h).mono fun b H1 ⟨p1, st1, z1, e1, s1, h1⟩ => by
    subst z1
    cases b with
    | true => exact ⟨p1, env, st1, rfl, hE.mono e1, s1, h1⟩
    | false => exact h1.now rfl s1
theorem pwv_or {rest : List Expr} (ha : PTv X W a ψa) (hb : PWv X W (.BoolOp .Or (b :: rest) pos) ψb) : PWv X W (.BoolOp .Or (a :: b :: rest) pos) (dOrT ψa ψb) :=
  pwv_of (pw_or ha hb) fun σ Q p env st hE hS h => (tT.run hE hS h).mono fun b H1 ⟨p1, st1, z1, e1, s1, h1⟩ => by
    subst z1
    cases b with
    | false => exact ⟨p1, env, st1, rfl, hE.mono e1, s1, h1⟩
    | true => exact h1.now rfl s1
/-! .. as values (bools) -/
def dAndV (φa φb : Den) : Den := fun env st => (φa env st).bind fun d st => match d with
  | .bl true => φb env st
  | .bl false => .ok (.bl false) st
  | _ => .bad
def dOrV (φa φb : Den) : Den := fun env st => (φa env st).bind fun d st => match d with
  | .bl true => .ok (.bl true) st
  | .bl false => φb env st
  | _ => .bad
def dNotV (φ : Den) : Den := fun env st => (φ env st).bind fun d st => match d with
  | .bl b => .ok (.bl (!b)) st
  | _ => .bad
theorem pev_one {op} (h : PEv X W a φ) : PEv X W (.BoolOp op [a] pos) φ := pe_one h
theorem pev_and {rest : List Expr} (ha : PEv X W a φa) (hb : PEv X W (.BoolOp .And (b :: rest) pos) φb) : PEv X W (.BoolOp .And (a :: b :: rest) pos) (dAndV φa φb) :=
  pev_of (pe_and ha hb) fun σ Q p env st hE hS h => (tD.run hE hS h).mono fun x H1 ⟨p1, d, st1, z1, e1, r1, s1, h1⟩ => by
    subst z1
    cases d <;> first | exact h1.elim | skip
    rename_i c
    cases r1
    refine ⟨c, rfl, ?_⟩
    cases c with
    | true => exact ⟨p1, env, st1, rfl, hE.mono e1, s1, h1⟩
    | false => exact h1.now (.bl false) s1
theorem pev_or {rest : List Expr} (ha : PEv X W a φa) (hb : PEv X W (.BoolOp .Or (b :: rest) pos) φb) : PEv X W (.BoolOp .Or (a :: b :: rest) pos) (dOrV φa φb) :=
  pev_of (pe_or ha hb) fun σ Q p env st hE hS h => (tD.run hE hS h).mono fun x H1 ⟨p1, d, st1, z1, e1, r1, s1, h1⟩ => by
    subst z1
    cases d <;> first | exact h1.elim | skip
    rename_i c
    cases r1
    refine ⟨c, rfl, ?_⟩
    cases c with
    | false => exact ⟨p1, env, st1, rfl, hE.mono e1, s1, h1⟩
    | true => exact h1.now (.bl true) s1
theorem pev_not (ha : PEv X W a φ) : PEv X W (.UnaryOp .Not a pos) (dNotV φ) :=
  pev_of (pe_not ha) fun σ Q p env st hE hS h => (tD.run hE hS h).mono fun x H1 ⟨p1, d, st1, z1, e1, r1, s1, h1⟩ => by
    subst z1
    cases r1 <;> first | exact h1.elim | skip
    exact ⟨_, rfl, h1.now (.bl _) s1⟩
def dIf (ψ : DenT) (φa φb : Den) : Den := fun env st => (ψ env st).bind fun b st => if b = true then φa env st else φb env st
theorem pev_if {c : Expr} (hc : PTv X W c ψ) (ha : PEv X W a φa) (hb : PEv X W b φb) : PEv X W (.IfExp c a b pos) (dIf ψ φa φb) :=
  pev_of (pe_ifExp hc ha hb) fun σ Q p env st hE hS h => (tT.run hE hS h).mono fun b H1 ⟨p1, st1, z1, e1, s1, h1⟩ => by
    subst z1
    cases b with
    | true => exact ⟨p1, env, st1, rfl, hE.mono e1, s1, h1⟩
    | false => exact ⟨p1, env, st1, rfl, hE.mono e1, s1, h1⟩
end
end DL

/-! DL: statements, loops, comprehensions, defs. -/
namespace DL
open PySem PySem.Spec L2
open PyProof.Rows hiding St
set_option autoImplicit true

inductive Fl where
  | nx (e : En) | rt (d : D) | bk (e : En) | ct (e : En) | ex (x : XV) (e : En)
inductive FlV where
  | nx (σ : St) | rt (v : V) | bk (σ : St) | ct (σ : St) | ex (c : Value) (d : Option Addr) (σ : St)
inductive RepF (G : Cg) (W : WG) (p : Pt) : Fl → FlV → Prop
  | nx {e : En} {σ : St} : RepE G.K W p e σ → RepF G W p (.nx e) (.nx σ)
  | rt {d : D} {v : V} : Rep G.K p d v → RepF G W p (.rt d) (.rt v)
  | bk {e : En} {σ : St} : RepE G.K W p e σ → RepF G W p (.bk e) (.bk σ)
  | ct {e : En} {σ : St} : RepE G.K W p e σ → RepF G W p (.ct e) (.ct σ)
  | ex {x : XV} {e : En} {σ : St} {c : Value} {d : Option Addr} : RepX G p x c d → RepE G.K W p e σ → RepF G W p (.ex x e) (.ex c d σ)
def EndQ (W : WG) (Z : Ends) : FlV → Hp → Prop
  | .nx σ, H => Z.nx σ H
  | .rt v, H => Z.rt v H
  | .bk σ, H => Z.bk σ H
  | .ct σ, H => Z.ct σ H
  | .ex c d σ, H => W.w c d σ H
abbrev SOut := Option (Fl × Sto)
abbrev DenS := En → Sto → SOut
def AftS (G : Cg) (W : WG) (p : Pt) (o : SOut) (Z : Ends) : Prop := match o with
  | some (f, st) => ∀ q fv, Mo p q → Ext W.p0 q → RepF G W q f fv → RepS G.K q st → EndQ W Z fv q.H
  | none => False
def sD (G : Cg) (W : WG) (φ : DenS) : TS := fun Z σ H => ∃ p env st, p.H = H ∧ RepE G.K W p env σ ∧ RepS G.K p st ∧ AftS G W p (φ env st) Z
def PSv (X : Cx) (W : WG) (s : Stmt) (φ : DenS) : Prop := PS X s (sD (Cx.g X) W φ)
def PBv (X : Cx) (W : WG) (s : List Stmt) (φ : DenS) : Prop := PSs X s (sD (Cx.g X) W φ)
section
variable {G : Cg} {W : WG} {p q : Pt} {o : SOut} {Z : Ends}
theorem AftS.mo (e : Mo p q) (h : AftS G W p o Z) : AftS G W q o Z := by
  cases o with
  | none => exact h
  | some x => exact fun r fv e2 b rr s => h r fv (e.trans e2) b rr s
theorem AftS.ext (e : Ext p q) (h : AftS G W p o Z) : AftS G W q o Z := h.mo e.mo
theorem AftS.now {f : Fl} {fv : FlV} {st : Sto} (h : AftS G W p (some (f, st)) Z) (r : RepF G W p f fv) (s : RepS G.K p st) (b : Ext W.p0 p := by first | exact RepE.base (by assumption) | exact Ext.trans (RepE.base (by assumption)) (by assumption)) : EndQ W Z fv p.H := h p fv .refl b r s
end
/-- an expression's outcome goes on -/
def Out.to {α : Type} (o : Out α) (env : En) (k : α → Sto → SOut) : SOut := match o with
  | .ok a st => k a st
  | .exc x st => some (.ex x env, st)
  | .bad => none
section
variable {G : Cg} {W : WG} {σ : St} {p : Pt} {env : En} {st : Sto} {Z : Ends}
theorem Aft.to {α β : Type} {R : Pt → α → β → Prop} {o : Out α} {k : α → Sto → SOut} (hE : RepE G.K W p env σ) (h : AftS G W p (o.to env k) Z) :
    Aft R G p o (fun b H' => ∃ q a st', q.H = H' ∧ Ext p q ∧ R q a b ∧ RepS G.K q st' ∧ AftS G W q (k a st') Z) (wAt W σ) := by
  cases o with
  | ok a st => exact fun q b e r s => ⟨q, a, st, rfl, e, r, s, h.ext e⟩
  | exc x st => exact fun q c d e r s => h q (.ex c d σ) e.mo (hE.mono e).base (.ex r (hE.mono e)) s
  | bad => exact h
theorem tD.to {φ : Den} {k : D → Sto → SOut} (hE : RepE G.K W p env σ) (hS : RepS G.K p st) (h : AftS G W p ((φ env st).to env k) Z) :
    tD G W φ σ p.H (fun v H1 => ∃ q d st1, q.H = H1 ∧ Ext p q ∧ Rep G.K q d v ∧ RepS G.K q st1 ∧ AftS G W q (k d st1) Z) :=
  ⟨p, env, st, rfl, hE, hS, Aft.to hE h⟩
theorem tL.to {φs : List Den} {k : List D → Sto → SOut} (hE : RepE G.K W p env σ) (hS : RepS G.K p st) (h : AftS G W p ((evL φs env st).to env k) Z) :
    tL G W φs σ p.H (fun v H1 => ∃ q d st1, q.H = H1 ∧ Ext p q ∧ Reps G.K q d v ∧ RepS G.K q st1 ∧ AftS G W q (k d st1) Z) :=
  ⟨p, env, st, rfl, hE, hS, Aft.to hE h⟩
theorem tT.to {φ : DenT} {k : Bool → Sto → SOut} (hE : RepE G.K W p env σ) (hS : RepS G.K p st) (h : AftS G W p ((φ env st).to env k) Z) :
    tT G W φ σ p.H (fun b H1 => ∃ q st1, q.H = H1 ∧ Ext p q ∧ RepS G.K q st1 ∧ AftS G W q (k b st1) Z) :=
  ⟨p, env, st, rfl, hE, hS, (Aft.to (R := Req) hE h).mono fun b H1 ⟨q, a, st1, z, e, r, s, h⟩ => ⟨q, st1, z, e, s, r ▸ h⟩⟩
end
section
variable {X : Cx} {W : WG} {k : Nat} {pos : Pos} {e : Expr} {φ : Den} {ψ : DenT} {s : Stmt} {ss : List Stmt} {θ θ1 θ2 : DenS}
theorem psv_of {t : TS} (h : PS X s t) (i : ∀ Z σ p env st, RepE X.K W p env σ → RepS X.K p st → AftS (Cx.g X) W p (θ env st) Z → t Z σ p.H) : PSv X W s θ := ⟨fun pins s σ H Z I ⟨p, env, st, z, hE, hS, q⟩ => h.run pins s σ H Z I (z ▸ i Z σ p env st hE hS q)⟩
theorem pbv_of {t : TS} (h : PSs X ss t) (i : ∀ Z σ p env st, RepE X.K W p env σ → RepS X.K p st → AftS (Cx.g X) W p (θ env st) Z → t Z σ p.H) : PBv X W ss θ := ⟨fun pins s σ H Z I ⟨p, env, st, z, hE, hS, q⟩ => h.run pins s σ H Z I (z ▸ i Z σ p env st hE hS q)⟩
def sNil : DenS := fun env st => some (.nx env, st)
def sSeq (θ1 θ2 : DenS) : DenS := fun env st => match θ1 env st with
  | some (.nx env', st') => θ2 env' st'
  | o => o
theorem pbv_nil : PBv X W [] sNil := pbv_of pss_nil fun Z σ p env st hE hS h => h.now (.nx hE) hS
theorem sSeq_aft {G : Cg} {p : Pt} {Z : Ends} {env : En} {st : Sto} (h : AftS G W p (sSeq θ1 θ2 env st) Z) : AftS G W p (θ1 env st) { Z with nx := sD G W θ2 Z } := by
  unfold sSeq at h
  cases q : θ1 env st with
  | none => rw [q] at h; exact h
  | some x =>
    obtain ⟨f, st'⟩ := x
    rw [q] at h
    cases f with
    | nx env' =>
      intro q' fv m e r s
      cases r with
      | nx r => exact ⟨q', env', st', rfl, r, s, h.mo m⟩
    | rt d =>
      intro q' fv m e r s
      have := h q' fv m e r s
      cases r; exact this
    | bk d =>
      intro q' fv m e r s
      have := h q' fv m e r s
      cases r; exact this
    | ct d =>
      intro q' fv m e r s
      have := h q' fv m e r s
      cases r; exact this
    | ex x d =>
      intro q' fv m e r s
      have := h q' fv m e r s
      cases r; exact this
theorem pbv_cons (h1 : PSv X W s θ1) (h2 : PBv X W ss θ2) : PBv X W (s :: ss) (sSeq θ1 θ2) :=
  pbv_of (pss_cons h1 h2) fun Z σ p env st hE hS h => ⟨p, env, st, rfl, hE, hS, sSeq_aft h⟩
theorem pbv_one (h1 : PSv X W s θ1) : PBv X W [s] θ1 := pss_one h1
theorem psv_pass : PSv X W (.Pass pos) sNil := psv_of ps_pass fun Z σ p env st hE hS h => h.now (.nx hE) hS
def sBrk : DenS := fun env st => some (.bk env, st)
def sCnt : DenS := fun env st => some (.ct env, st)
theorem psv_break : PSv X W (.Break pos) sBrk := psv_of ps_break fun Z σ p env st hE hS h => h.now (.bk hE) hS
theorem psv_continue : PSv X W (.Continue pos) sCnt := psv_of ps_continue fun Z σ p env st hE hS h => h.now (.ct hE) hS
/-- what is never come to -/
def sNo : DenS := fun _ _ => none
theorem psv_never : PSv X W s sNo := psv_of ps_never fun Z σ p env st hE hS h => h
theorem pbv_never : PBv X W ss sNo := pbv_of pss_never fun Z σ p env st hE hS h => h
def sExpr (φ : Den) : DenS := fun env st => (φ env st).to env fun _ st => some (.nx env, st)
theorem psv_expr (he : PEv X W e φ) (hs : swapsWith e none pos.line X.env = pure false := by rfl) : PSv X W (.Expr e pos) (sExpr φ) :=
  psv_of (ps_expr he hs) fun Z σ p env st hE hS h => (tD.to hE hS h).mono fun v H1 ⟨p1, d, st1, z1, e1, r1, s1, h1⟩ => z1 ▸ h1.now (.nx (hE.mono e1)) s1
theorem psv_doc {x j pos'} : PSv X W (.Expr (.Constant (.str x) j pos) pos') sNil := psv_of ps_doc fun Z σ p env st hE hS h => h.now (.nx hE) hS
def sRet (φ : Den) : DenS := fun env st => (φ env st).to env fun d st => some (.rt d, st)
theorem psv_ret (he : PEv X W e φ) : PSv X W (.Return (some e) pos) (sRet φ) :=
  psv_of (ps_ret he) fun Z σ p env st hE hS h => (tD.to hE hS h).mono fun v H1 ⟨p1, d, st1, z1, e1, r1, s1, h1⟩ => z1 ▸ h1.now (.rt r1) s1
def sRetN : DenS := fun _ st => some (.rt .non, st)
theorem psv_retN : PSv X W (.Return none pos) sRetN := psv_of ps_retN fun Z σ p env st hE hS h => h.now (.rt .non) hS
def sIf (ψ : DenT) (θ1 θ2 : DenS) : DenS := fun env st => (ψ env st).to env fun b st => if b = true then θ1 env st else θ2 env st
theorem psv_if {c : Expr} {a b : List Stmt} (hc : PTv X W c ψ) (ha : PBv X W a θ1) (hb : PBv X W b θ2) : PSv X W (.If c a b pos) (sIf ψ θ1 θ2) :=
  psv_of (ps_if hc ha hb) fun Z σ p env st hE hS h => (tT.to hE hS h).mono fun b H1 ⟨p1, st1, z1, e1, s1, h1⟩ => by
    subst z1
    cases b with
    | true => exact ⟨p1, env, st1, rfl, hE.mono e1, s1, h1⟩
    | false => exact ⟨p1, env, st1, rfl, hE.mono e1, s1, h1⟩
def sSet (i : Nat) (φ : Den) : DenS := fun env st => (φ env st).to env fun d st => some (.nx (env.set i (some d)), st)
theorem psv_set (o : Ok X W k) (i : Nat) {x : Str} {pos' : Pos} (he : PEv X W e φ) (hi : X.N[i]? = some x := by rfl) (hx : Loc X.env.scope x := by first | exact .inl rfl | exact .inr rfl) (hs : swapsWith e (some (.Name x pos')) pos.line X.env = pure false := by rfl)
    (hf : X.fn x = true ∨ X.env.scope.names.lookup x = some .local := by first | exact .inl rfl | exact .inr rfl | assumption) : PSv X W (.Assign [.Name x pos'] e pos) (sSet i φ) :=
  psv_of (ps_set o.nd hi hx he hs hf) fun Z σ p env st hE hS h => (tD.to hE hS h).mono fun v H1 ⟨p1, d, st1, z1, e1, r1, s1, h1⟩ => z1 ▸ h1.now (.nx ((hE.mono e1).set i r1)) s1
/-- a, b = x, y -/
def sPar (i j : Nat) (φs : List Den) : DenS := fun env st => (evL φs env st).to env fun ds st => match ds with
  | [a, b] => some (.nx ((env.set i (some a)).set j (some b)), st)
  | _ => none
theorem psv_par (o : Ok X W k) (i j : Nat) {x y : Str} {a b : Expr} {φs : List Den} {px py pt : Pos} {kt k2 pt2} (ha : PAv X W [a, b] φs) (hi : X.N[i]? = some x := by rfl) (hj : X.N[j]? = some y := by rfl) (hij : i ≠ j := by decide)
    (hx : X.env.scope.names.lookup x = some .local := by rfl) (hy : X.env.scope.names.lookup y = some .local := by rfl)
    (hw : swappedStores [.Tuple [.Name x px, .Name y py] kt pt] (.Tuple [a, b] k2 pt2) X.env = pure (some [x, y]) := by rfl)
    (hs : swapsWithSole [.Tuple [.Name x px, .Name y py] kt pt] (.Tuple [a, b] k2 pt2) pos.line X.env = pure false := by rfl) :
    PSv X W (.Assign [.Tuple [.Name x px, .Name y py] kt pt] (.Tuple [a, b] k2 pt2) pos) (sPar i j φs) :=
  psv_of (ps_par o.calm o.nd hi hj hij hx hy ha hw hs) fun Z σ p env st hE hS h => (tL.to hE hS h).mono fun vs H1 ⟨p1, ds, st1, z1, e1, r1, s1, h1⟩ => by
    subst z1
    match ds, h1 with
    | [a, b], h1 =>
      cases r1 with
      | cons ra rr =>
        cases rr with
        | cons rb rn =>
          cases rn
          exact ⟨_, _, rfl, h1.now (.nx (((hE.mono e1).set i ra).set j rb)) s1⟩
    | [], h1 => exact h1.elim
    | [_], h1 => exact h1.elim
    | _ :: _ :: _ :: _, h1 => exact h1.elim
/-! ### while -/
def wLoop (c : DenT) (b : DenS) : Nat → En → Sto → SOut
  | 0, _, _ => none
  | n + 1, env, st => (c env st).to env fun t st1 => if t = true then (match b env st1 with
    | some (.nx e, s) => wLoop c b n e s
    | some (.ct e, s) => wLoop c b n e s
    | some (.bk e, s) => some (.nx e, s)
    | o => o) else some (.nx env, st1)
def sWhile (fuel : En → Sto → Nat) (c : DenT) (b : DenS) : DenS := fun env st => wLoop c b (fuel env st) env st
/-- what a loop's body is to reach -/
theorem body_aft {G : Cg} {p : Pt} {Z : Ends} {o : SOut} {nxt : En → Sto → SOut} {N : St → Hp → Prop}
    (h : AftS G W p (match o with
      | some (.nx e, s) => nxt e s
      | some (.ct e, s) => nxt e s
      | some (.bk e, s) => some (.nx e, s)
      | o => o) Z) (hN : ∀ q e s σ', RepE G.K W q e σ' → RepS G.K q s → Mo p q → AftS G W q (nxt e s) Z → N σ' q.H) :
    AftS G W p o { Z with nx := N, ct := N, bk := Z.nx } := by
  cases o with
  | none => exact h
  | some x =>
    obtain ⟨f, s⟩ := x
    cases f with
    | nx e => intro q fv ex b r rs; cases r with | nx r => exact hN q e s _ r rs ex (h.mo ex)
    | ct e => intro q fv ex b r rs; cases r with | ct r => exact hN q e s _ r rs ex (h.mo ex)
    | bk e => intro q fv ex b r rs; cases r with | bk r => exact h q _ ex b (.nx r) rs
    | rt d => intro q fv ex b r rs; cases r with | rt r => exact h q _ ex b (.rt r) rs
    | ex x e => intro q fv ex b r rs; cases r with | ex r r2 => exact h q _ ex b (.ex r r2) rs
theorem psv_while (o : Ok X W k) (fuel : En → Sto → Nat) {c : Expr} {body : List Stmt} (hc : PTv X W c ψ) (hb : PBv X W body θ) : PSv X W (.While c body [] pos) (sWhile fuel ψ θ) :=
  psv_of (ps_while o.po hc hb) fun Z σ p env st hE hS h => by
    refine ⟨fun m σ H => ∃ p env st, p.H = H ∧ RepE X.K W p env σ ∧ RepS X.K p st ∧ AftS (Cx.g X) W p (wLoop ψ θ m env st) Z, ⟨_, p, env, st, rfl, hE, hS, h⟩, fun m σ H hw => ?_⟩
    obtain ⟨p, env, st, z, hE, hS, h⟩ := hw
    subst z
    cases m with
    | zero => exact h.elim
    | succ n =>
      refine (tT.to hE hS h).mono fun b H1 ⟨p1, st1, z1, e1, s1, h1⟩ => ?_
      subst z1
      cases b with
      | true =>
        refine ⟨fun σ' H' => ∃ p env st, p.H = H' ∧ RepE X.K W p env σ' ∧ RepS X.K p st ∧ AftS (Cx.g X) W p (wLoop ψ θ n env st) Z, fun σ' H' q => ⟨n, Nat.lt_succ_self n, q⟩, ?_⟩
        exact ⟨p1, env, st1, rfl, hE.mono e1, s1, body_aft h1 fun q e s σ' re rs _ ha => ⟨q, e, s, rfl, re, rs, ha⟩⟩
      | false => exact h1.now (.nx (hE.mono e1)) s1
/-! ### targets -/
inductive Pat where
  | nm (i : Nat) | tp (ps : List Pat)
mutual
def Pat.set : Pat → D → En → Option En
  | .nm i, d, env => some (env.set i (some d))
  | .tp ps, d, env => match d with
    | .tup ds => Pat.sets ps ds env
    | _ => none
def Pat.sets : List Pat → List D → En → Option En
  | [], [], env => some env
  | p :: ps, d :: ds, env => (Pat.set p d env).bind fun env => Pat.sets ps ds env
  | _, _, _ => none
end
mutual
def Pat.ix : Pat → List Nat
  | .nm i => [i]
  | .tp ps => Pat.ixs ps
def Pat.ixs : List Pat → List Nat
  | [] => []
  | p :: ps => Pat.ix p ++ Pat.ixs ps
end
/-- behind a target's store: the slots at is alone have changed -/
def OnlyAt (is : List Nat) (σ σ' : St) : Prop := σ'.length = σ.length ∧ ∀ j : Nat, j ∉ is → σ'[j]? = σ[j]?
theorem OnlyAt.trans {a b : List Nat} {σ σ1 σ2 : St} (h : OnlyAt a σ σ1) (h' : OnlyAt b σ1 σ2) : OnlyAt (a ++ b) σ σ2 :=
  ⟨h'.1.trans h.1, fun j n => (h'.2 j fun z => n (List.mem_append_right _ z)).trans (h.2 j fun z => n (List.mem_append_left _ z))⟩
def gD (G : Cg) (W : WG) (t : Pat) : TG := fun v σ H Q => ∃ p d env env', p.H = H ∧ Rep G.K p d v ∧ RepE G.K W p env σ ∧ t.set d env = some env' ∧ ∀ σ', RepE G.K W p env' σ' → OnlyAt t.ix σ σ' → Q σ' H
def gDs (G : Cg) (W : WG) (ps : List Pat) : TGs := fun vs σ H Q => ∃ p ds env env', p.H = H ∧ Reps G.K p ds vs ∧ RepE G.K W p env σ ∧ Pat.sets ps ds env = some env' ∧ ∀ σ', RepE G.K W p env' σ' → OnlyAt (Pat.ixs ps) σ σ' → Q σ' H
def PGv (X : Cx) (W : WG) (tg : Expr) (p : Pat) : Prop := PG X tg (gD (Cx.g X) W p)
def PGsv (X : Cx) (W : WG) (tg : List Expr) (p : List Pat) : Prop := PGs X tg (gDs (Cx.g X) W p)
theorem pgv_name (hN : X.N.Nodup) (i : Nat) {x : Str} (hi : X.N[i]? = some x := by rfl) (hx : Loc X.env.scope x := by first | exact .inl rfl | exact .inr rfl) (hf : X.fn x = true ∨ X.env.scope.names.lookup x = some .local := by first | exact .inl rfl | exact .inr rfl | assumption) : PGv X W (.Name x pos) (.nm i) :=
  ⟨fun pins s σ H v u Q I r h => (pg_name hN hi hx hf).run pins s σ H v u Q I r (by
    obtain ⟨p, d, env, env', z, rd, hE, hp, h⟩ := h
    rw [Pat.set] at hp
    cases hp
    exact h _ (hE.set i rd) ⟨by simp, fun j n => List.getElem?_set_ne (by simp [Pat.ix] at n; omega)⟩)⟩
theorem pgsv_nil : PGsv X W [] [] :=
  ⟨fun pins s σ H v u Q I r h => (pgs_nil (X := X)).run pins s σ H v u Q I r (by
    obtain ⟨p, ds, env, env', z, rd, hE, hp, h⟩ := h
    cases ds with
    | nil =>
      rw [Pat.sets] at hp
      cases hp
      cases rd
      exact ⟨rfl, h _ hE ⟨rfl, fun _ _ => rfl⟩⟩
    | cons => simp [Pat.sets] at hp)⟩
theorem pgsv_cons {es : List Expr} {t : Pat} {ps : List Pat} (h1 : PGv X W e t) (h2 : PGsv X W es ps) (hs : (assignEach (e :: es) X.env).map (·.2) = assign e X.env :: (assignEach es X.env).map (·.2) := by rfl) : PGsv X W (e :: es) (t :: ps) :=
  ⟨fun pins s σ H v u Q I r h => (pgs_cons (X := X) h1 h2 hs).run pins s σ H v u Q I r (by
    obtain ⟨p, ds, env, env', z, rd, hE, hp, h⟩ := h
    cases ds with
    | nil => simp [Pat.sets] at hp
    | cons d ds =>
      rw [Pat.sets] at hp
      cases rd with
      | cons r1 r2 =>
        cases q : t.set d env with
        | none => rw [q] at hp; cases hp
        | some env1 =>
          rw [q] at hp
          exact ⟨_, _, rfl, p, d, env, env1, z, r1, hE, q, fun σ1 hE1 o1 => ⟨p, ds, env1, env', z, r2, hE1, hp, fun σ2 hE2 o2 => h σ2 hE2 (by rw [Pat.ixs]; exact o1.trans o2)⟩⟩)⟩
theorem Pat.sets_len : ∀ {ps : List Pat} {ds : List D} {env env' : En}, Pat.sets ps ds env = some env' → ds.length = ps.length
  | [], [], _, _, _ => rfl
  | [], _ :: _, _, _, h => by simp [Pat.sets] at h
  | _ :: _, [], _, _, h => by simp [Pat.sets] at h
  | p :: ps, d :: ds, env, env', h => by
    rw [Pat.sets] at h
    cases q : p.set d env with
    | none => rw [q] at h; cases h
    | some e => rw [q] at h; simp [Pat.sets_len (ps := ps) (ds := ds) h]
theorem pgv_tup (hc : X.calm = true) {es : List Expr} {kk : Nat} {ps : List Pat} (h : PGsv X W es ps) (hn : (assignEach es X.env).length = ps.length := by rfl) (hst : (assignEach es X.env).findIdx? (·.1) = none := by rfl) : PGv X W (.Tuple es kk pos) (.tp ps) :=
  ⟨fun pins s σ H v u Q I r h' => (pg_tup (X := X) hc h hn hst).run pins s σ H v u Q I r (by
    obtain ⟨p, d, env, env', z, rd, hE, hp, h⟩ := h'
    subst z
    cases d <;> simp only [Pat.set, reduceCtorEq] at hp
    rename_i ds
    cases rd with
    | tup e1 e2 => exact ⟨_, _, rfl, e1.sq, by rw [← e2.length]; exact Pat.sets_len hp, p, ds, env, env', rfl, e2, hE, hp, fun σ' a b => h σ' a (by rw [Pat.ix]; exact b)⟩)⟩
/-! ### what is walked -/
/-- J walks the items ds: while the heap goes on -/
def Walks (G : Cg) (J : It) (p : Pt) (ds : List D) : Prop := ∀ (i : Nat) q, Mo p q →
  (∀ d, ds[i]? = some d → J.go i q.H ∧ ∀ x H'', J.yld i q.H x H'' → ∀ st, RepS G.K q st → ∃ r, r.H = H'' ∧ Ext q r ∧ Rep G.K r d x ∧ RepS G.K r st) ∧ (ds.length ≤ i → J.stop i q.H)
theorem Walks.mo {G : Cg} {J : It} {p q : Pt} {ds : List D} (e : Mo p q) (h : Walks G J p ds) : Walks G J q ds := fun i r e2 => h i r (e.trans e2)
abbrev DenI := En → Sto → Out (List D)
def iD (G : Cg) (W : WG) (φ : DenI) : TI := fun σ H R => ∃ p env st, p.H = H ∧ RepE G.K W p env σ ∧ RepS G.K p st ∧ Aft (fun q ds J => Walks G J q ds) G p (φ env st) R (wAt W σ)
def PIv (X : Cx) (W : WG) (tg iter : Expr) (φ : DenI) : Prop := PI X tg iter (iD (Cx.g X) W φ)
theorem piv_of {tg iter : Expr} {t : TI} {φ : DenI} (h : PI X tg iter t) (i : ∀ σ R p env st, RepE X.K W p env σ → RepS X.K p st → Aft (fun q ds J => Walks (Cx.g X) J q ds) (Cx.g X) p (φ env st) R (wAt W σ) → t σ p.H R) : PIv X W tg iter φ :=
  ⟨fun pins s σ H R I ⟨p, env, st, z, hE, hS, q⟩ => h.run pins s σ H R I (z ▸ i σ R p env st hE hS q)⟩
/-- the items of a tuple; of a list that is no cell -/
def tupIt : D → Sto → Out (List D) := fun d st => match d with
  | .tup ds => .ok ds st
  | _ => .bad
def lstIt : D → Sto → Out (List D) := fun d st => match d with
  | .lst ds => .ok ds st
  | .fls ds => .ok ds st
  | _ => .bad
def dItT (φ : Den) : DenI := fun env st => (φ env st).bind tupIt
def dItL (φ : Den) : DenI := fun env st => (φ env st).bind lstIt
theorem walks_tup {G : Cg} {p : Pt} {a : Addr} {ds : List D} {vs : List V} (e : STup G.K p a vs) (r : Reps G.K p ds vs) : Walks G (Itt G.K a) p ds := fun i q ex => by
  refine ⟨fun d hd => ?_, fun hl => ⟨vs, (e.mo ex).sq, by rw [← r.length]; exact hl⟩⟩
  obtain ⟨v, hv, rv⟩ := (r.mo ex).get hd
  refine ⟨⟨vs, v, (e.mo ex).sq, hv⟩, fun x H'' y st hs => ?_⟩
  obtain ⟨rfl, y⟩ := y
  have e2 := y vs (e.mo ex).sq
  rw [hv] at e2
  cases e2
  exact ⟨q, rfl, .refl, rv, hs⟩
theorem walks_lst {G : Cg} {p : Pt} {a : Addr} {ds : List D} {vs : List V} (e : ∀ q, Mo p q → SqL G.K q.H a vs) (r : Reps G.K p ds vs) : Walks G (Itl G.K a) p ds := fun i q ex => by
  have es := e q ex
  refine ⟨fun d hd => ?_, fun hl => ⟨vs, es, by rw [← r.length]; exact hl⟩⟩
  obtain ⟨v, hv, rv⟩ := (r.mo ex).get hd
  refine ⟨⟨vs, v, es, hv⟩, fun x H'' y st hs => ?_⟩
  obtain ⟨rfl, y⟩ := y
  have e2 := y vs es
  rw [hv] at e2
  cases e2
  exact ⟨q, rfl, .refl, rv, hs⟩
theorem piv_tup {tg : Expr} (h : PEv X W e φ) : PIv X W tg e (dItT φ) :=
  piv_of (pi_tup h) fun σ R p env st hE hS h => (tD.run hE hS h).mono fun x H1 ⟨p1, d, st1, z1, e1, r1, s1, h1⟩ => by
    subst z1
    cases r1 with
    | tup e2 r2 => exact ⟨_, rfl, ⟨_, e2.sq⟩, h1.now (walks_tup e2 r2) s1⟩
    | _ => exact h1.elim
theorem piv_lst {tg : Expr} (h : PEv X W e φ) : PIv X W tg e (dItL φ) :=
  piv_of (pi_list h) fun σ R p env st hE hS h => (tD.run hE hS h).mono fun x H1 ⟨p1, d, st1, z1, e1, r1, s1, h1⟩ => by
    subst z1
    cases r1 with
    | lst e2 n2 r2 => exact ⟨_, rfl, ⟨_, SqL.of (p1.sub _ _ e2)⟩, h1.now (walks_lst (fun q ex => SqL.of (q.sub _ _ (ex.keep _ _ e2 n2))) r2) s1⟩
    | fls e2 r2 => exact ⟨_, rfl, ⟨_, e2.sq⟩, h1.now (walks_lst (fun q ex => (e2.mo ex).sq) r2) s1⟩
    | _ => exact h1.elim
/-- range(n), range(a, b) -/
def rngL (a : Int) (n : Nat) : List D := (List.range n).map fun (i : Nat) => D.int (a + (i : Int))
theorem walks_rng {G : Cg} {p : Pt} {a : Int} {n : Nat} : Walks G (Itr a n) p (rngL a n) := fun i q ex => by
  refine ⟨fun d hd => ?_, fun hl => show n ≤ i by simpa [rngL] using hl⟩
  unfold rngL at hd
  rw [List.getElem?_map] at hd
  by_cases hl : i < n
  · rw [List.getElem?_range hl] at hd
    cases hd
    refine ⟨hl, fun x H'' y st hs => ?_⟩
    obtain ⟨rfl, rfl⟩ := y
    exact ⟨q, rfl, .refl, .int _, hs⟩
  · rw [List.getElem?_eq_none (by simpa using hl)] at hd; cases hd
def dRng1 : List D → Sto → Out (List D)
  | [.int j], st => if -(2 ^ 62) ≤ j ∧ j < 2 ^ 62 then .ok (rngL 0 j.toNat) st else .bad
  | _, _ => .bad
def dRng2 : List D → Sto → Out (List D)
  | [.int i, .int j], st => if -(2 ^ 62) ≤ i ∧ i < 2 ^ 62 ∧ -(2 ^ 62) ≤ j ∧ j < 2 ^ 62 then .ok (rngL i (j - i).toNat) st else .bad
  | _, _ => .bad
def dItR1 (φs : List Den) : DenI := fun env st => (evL φs env st).bind dRng1
def dItR2 (φs : List Den) : DenI := fun env st => (evL φs env st).bind dRng2
theorem piv_rng1 {tg a : Expr} {p : Pos} {φs : List Den} (hm : X.mg "range" = none) (ha : PAv X W [a] φs) (hg : Gl X "range" := by rfl) (hs : starEach [a] X.env = [(false, eval a X.env)] := by rfl) : PIv X W tg (.Call (.Name "range" p) [a] [] pos) (dItR1 φs) :=
  piv_of (pi_range1 hg hm ha hs) fun σ R p env st hE hS h => (tL.run hE hS h).mono fun vs H1 ⟨p1, ds, st1, z1, e1, r1, s1, h1⟩ => by
    subst z1
    unfold dRng1 at h1
    split at h1
    · rename_i j
      cases r1 with
      | cons ra rr =>
        cases ra; cases rr
        split at h1
        · rename_i hb
          exact ⟨j, rfl, hb.1, hb.2, h1.now walks_rng s1⟩
        · exact h1.elim
    · exact h1.elim
theorem piv_rng2 {tg a b : Expr} {p : Pos} {φs : List Den} (hm : X.mg "range" = none) (ha : PAv X W [a, b] φs) (hg : Gl X "range" := by rfl) (hs : starEach [a, b] X.env = [(false, eval a X.env), (false, eval b X.env)] := by rfl) (hs2 : starEach [b] X.env = [(false, eval b X.env)] := by rfl) : PIv X W tg (.Call (.Name "range" p) [a, b] [] pos) (dItR2 φs) :=
  piv_of (pi_range2 hg hm ha hs hs2) fun σ R p env st hE hS h => (tL.run hE hS h).mono fun vs H1 ⟨p1, ds, st1, z1, e1, r1, s1, h1⟩ => by
    subst z1
    unfold dRng2 at h1
    split at h1
    · rename_i i j
      cases r1 with
      | cons ra rr =>
        cases ra
        cases rr with
        | cons rb rr =>
          cases rb; cases rr
          split at h1
          · rename_i hb
            exact ⟨i, j, rfl, hb, h1.now walks_rng s1⟩
          · exact h1.elim
    · exact h1.elim
/-! ### for -/
def fLoop (t : Pat) (b : DenS) : List D → En → Sto → SOut
  | [], env, st => some (.nx env, st)
  | d :: r, env, st => match t.set d env with
    | none => none
    | some env1 => match b env1 st with
      | some (.nx e, s) => fLoop t b r e s
      | some (.ct e, s) => fLoop t b r e s
      | some (.bk e, s) => some (.nx e, s)
      | o => o
def sFor (ι : DenI) (t : Pat) (b : DenS) : DenS := fun env st => (ι env st).to env fun ds st => fLoop t b ds env st
theorem psv_for (o : Ok X W k) {tg iter : Expr} {body : List Stmt} {ι : DenI} {t : Pat} (hi : PIv X W tg iter ι) (hg : PGv X W tg t) (hb : PBv X W body θ) (hs : ∀ x, foldedSetIterable iter X.env x = pure x := by intro _; rfl) :
    PSv X W (.For tg iter body [] pos) (sFor ι t θ) :=
  psv_of (ps_for o.po o.calm hi hg hb hs) fun Z σ p env st hE hS h => by
    refine ⟨p, env, st, rfl, hE, hS, (Aft.to (σ := σ) hE h).mono fun J H1 ⟨p1, ds, st1, z1, e1, w1, s1, h1⟩ => ?_⟩
    subst z1
    refine ⟨fun i m σ H => ∃ p env st, m = ds.length - i ∧ p.H = H ∧ RepE X.K W p env σ ∧ RepS X.K p st ∧ Walks (Cx.g X) J p ds ∧ AftS (Cx.g X) W p (fLoop t θ (ds.drop i) env st) Z,
      ⟨_, p1, env, st1, rfl, rfl, hE.mono e1, s1, w1, h1⟩, fun i m σ H hw => ?_⟩
    obtain ⟨p, env, st, em, z, hE, hS, hW, h⟩ := hw
    subst z
    obtain ⟨hgo, hstop⟩ := hW i p .refl
    by_cases hl : i < ds.length
    · obtain ⟨go, yld⟩ := hgo ds[i] (List.getElem?_eq_getElem hl)
      refine .inr ⟨go, fun σ' H' => ∃ p env st, p.H = H' ∧ RepE X.K W p env σ' ∧ RepS X.K p st ∧ Walks (Cx.g X) J p ds ∧ AftS (Cx.g X) W p (fLoop t θ (ds.drop (i + 1)) env st) Z, fun σ' H' q => ?_, fun x H' y => ?_⟩
      · obtain ⟨p', env', st', z, a, b, c, d⟩ := q
        exact ⟨ds.length - (i + 1), by omega, p', env', st', rfl, z, a, b, c, d⟩
      · obtain ⟨r, z, ex, rx, sx⟩ := yld x H' y _ hS
        subst z
        rw [List.drop_eq_getElem_cons hl, fLoop] at h
        have h := h.ext ex
        cases q : t.set ds[i] env with
        | none => rw [q] at h; exact h.elim
        | some env1 =>
          rw [q] at h
          refine ⟨r, ds[i], env, env1, rfl, rx, hE.mono ex, q, fun σ2 hE2 _ => ?_⟩
          exact ⟨r, env1, st, rfl, hE2, sx, body_aft h fun q' e s σ' re rs e' ha => ⟨q', e, s, rfl, re, rs, hW.mo (ex.mo.trans e'), ha⟩⟩
    · refine .inl ⟨hstop (by omega), ?_⟩
      rw [List.drop_eq_nil_of_le (by omega)] at h
      exact h.now (.nx hE) hS
/-! ### [elt for target in iter if test] -/
def wipeE (env : En) : List Nat → En
  | [] => env
  | v :: vs => (wipeE env vs).set v none
theorem RepE.unset {K W p env σ} (h : RepE K W p env σ) (i : Nat) : RepE K W p (env.set i none) (σ.set i none) := by
  refine ⟨by simpa using h.len, h.base, fun j x q => ?_, fun j k x y a q1 n1 l1 q2 n2 l2 s1 s2 => ?_⟩
  · rcases set_get q with ⟨_, e⟩ | ⟨hj, q⟩
    · cases e
    · rw [List.getElem?_set_ne hj]
      exact h.at_ j x q
  · rcases set_get q1 with ⟨_, e⟩ | ⟨hj, q1⟩
    · cases e
    · rcases set_get q2 with ⟨_, e⟩ | ⟨hk, q2⟩
      · cases e
      · rw [List.getElem?_set_ne hj] at s1
        rw [List.getElem?_set_ne hk] at s2
        exact h.inj j k x y a q1 n1 l1 q2 n2 l2 s1 s2
theorem RepE.wipe {K W p env σ} (h : RepE K W p env σ) : ∀ vs, RepE K W p (wipeE env vs) (L2.wipe σ vs)
  | [] => h
  | v :: vs => (RepE.wipe h vs).unset v
theorem RepV.w {K W W' p d v} (h0 : W'.p0 = W.p0) (hl : W'.lam = W.lam) (h : RepV K W p d v) : RepV K W' p d v := by
  cases h with
  | rep r => exact .rep r
  | ol h1 h2 h3 h4 => exact .ol h1 h2 h3 (by rw [h0]; exact h4)
  | od h1 h2 h3 h4 h5 => exact .od h1 h2 h3 h4 (by rw [h0]; exact h5)
  | lam => rw [← hl]; exact .lam
theorem RepE.w {K W W' p env σ} (h : RepE K W p env σ) (h0 : W'.p0 = W.p0 := by rfl) (hl : W'.lam = W.lam := by rfl) : RepE K W' p env σ :=
  ⟨h.len, by rw [h0]; exact h.base, fun i d q => let ⟨v, a, b⟩ := h.at_ i d q; ⟨v, a, b.w h0 hl⟩, h.inj⟩
def lcGo (t : Pat) (ψ : DenT) (φ : Den) (env : En) : List D → Sto → List D → Out (List D)
  | [], st, acc => .ok acc st
  | d :: r, st, acc => match t.set d env with
    | none => .bad
    | some env1 => match ψ env1 st with
      | .ok true st1 => (match φ env1 st1 with
        | .ok y st2 => if acc.length < sizeLine then lcGo t ψ φ env r st2 (acc ++ [y]) else .bad
        | _ => .bad)
      | .ok false st1 => lcGo t ψ φ env r st1 acc
      | _ => .bad
/-- the new list is no cell | is one -/
def dLc (ι : DenI) (t : Pat) (ψ : DenT) (φ : Den) (vs : List Nat) : Den := fun env st => (ι env st).bind fun ds st => (lcGo t ψ φ (wipeE env vs) ds st []).bind fun acc st => .ok (.lst acc) st
def dLcP (ι : DenI) (t : Pat) (ψ : DenT) (φ : Den) (vs : List Nat) : Den := fun env st => (ι env st).bind fun ds st => (lcGo t ψ φ (wipeE env vs) ds st []).bind fun acc st => .ok (.ptr st.length) (st ++ [.lst acc])
def dYes : DenT := fun _ st => .ok true st
def PTsv (X : Cx) (W : WG) (ifs : List Expr) (φ : DenT) : Prop := PTs X ifs (tT (Cx.g X) W φ)
theorem ptsv_nil : PTsv X W [] dYes := ⟨fun pins s σ H Q I ⟨p, env, st, z, hE, hS, h⟩ => (pts_nil (X := X)).run pins s σ H Q I (z ▸ h.now rfl hS)⟩
theorem ptsv_one {c : Expr} (h : PTv X W c ψ) : PTsv X W [c] ψ := pts_one h
theorem wipe_only {vs is : List Nat} {σ σ' : St} (h : OnlyAt is (L2.wipe σ vs) σ') (hs : ∀ i ∈ is, i ∈ vs) : L2.wipe σ' vs = L2.wipe σ vs := by
  have idem : ∀ (ws : List Nat) (τ τ' : St), τ.length = τ'.length → (∀ j : Nat, j ∉ ws → τ[j]? = τ'[j]?) → L2.wipe τ ws = L2.wipe τ' ws := by
    intro ws
    induction ws with
    | nil => intro τ τ' _ h; exact List.ext_getElem? fun j => h j (by simp)
    | cons w ws ih =>
      intro τ τ' hl h
      unfold L2.wipe
      apply List.ext_getElem?
      intro j
      by_cases hj : w = j
      · subst hj
        by_cases hw : w < τ.length
        · rw [List.getElem?_set_self (by rw [wipe_length]; exact hw), List.getElem?_set_self (by rw [wipe_length, ← hl]; exact hw)]
        · rw [List.getElem?_eq_none (by rw [List.length_set, wipe_length]; omega), List.getElem?_eq_none (by rw [List.length_set, wipe_length]; omega)]
      · rw [List.getElem?_set_ne hj, List.getElem?_set_ne hj]
        by_cases hm : j ∈ ws
        · have nn : ∀ (υ : St), j < υ.length → (L2.wipe υ ws)[j]? = some Option.none := by
            intro υ hυ
            cases q : (L2.wipe υ ws)[j]? with
            | none => rw [List.getElem?_eq_none_iff, wipe_length] at q; omega
            | some y =>
              cases y with
              | none => rfl
              | some y => exact absurd hm (wipe_some q).2
          by_cases hjl : j < τ.length
          · rw [nn τ hjl, nn τ' (by omega)]
          · rw [List.getElem?_eq_none (by rw [wipe_length]; omega), List.getElem?_eq_none (by rw [wipe_length]; omega)]
        · rw [wipe_out hm, wipe_out hm]
          exact h j (by simp [hm]; omega)
  have w2 : L2.wipe (L2.wipe σ vs) vs = L2.wipe σ vs := idem vs _ _ (wipe_length _ _) fun j hj => wipe_out hj
  rw [← w2]
  exact idem vs _ _ h.1 fun j hj => h.2 j fun z => hj (hs j z)
/-- the accumulator, which is not seen, is written -/
def Pt.over (p : Pt) (a : Addr) (o : HO) (n : p.V a = none) (hc : p.H a = none ∨ (∃ xs, p.H a = some (.lst xs)) ∨ ∃ kvs, p.H a = some (.dK kvs)) : Pt := ⟨p.rho, p.V, upd p.H a o, fun b u h => by rw [upd_ne (ne_of_none h n)]; exact p.sub b u h, p.T, tabs_upd p.tb hc, p.hv⟩
theorem Ext.over {p q : Pt} {a o n hc} (e : Ext p q) (h : p.H a = none) : Ext p (q.over a o n hc) :=
  ⟨e.pre, e.keep, e.new, e.vis, fun b u hb hn ht => by show upd _ _ _ _ = _; rw [upd_ne (ne_of_none hb h)]; exact e.hid b u hb hn ht, fun b ps hb => by
    obtain ⟨ps', y⟩ := e.tbk b ps hb
    exact ⟨ps', by show upd _ _ _ _ = _; rw [upd_ne (ne_of_none hb h)]; exact y⟩, e.tT⟩
theorem Mo.over {p : Pt} {a o n hc} : Mo p (p.over a o n hc) := ⟨⟨[], by simp [Pt.over]⟩, fun _ _ h _ => h, fun _ _ _ n => n⟩
theorem RepM.mo {K p q a m} (e : Mo p q) (hs : q.V a = p.V a) (h : RepM K p a m) : RepM K q a m := by
  cases m with
  | lst ds => obtain ⟨vs, h1, h2⟩ := h; exact ⟨vs, hs.trans h1, h2.mo e⟩
  | dic ks ds => obtain ⟨vs, h1, h0, h2⟩ := h; exact ⟨vs, hs.trans h1, h0, h2.mo e⟩
theorem RepS.over {K} {p : Pt} {a o n hc st} (h : RepS K p st) : RepS K (p.over a o n hc) st := ⟨h.len, h.nd, fun i m b h1 h2 => (h.at_ i m b h1 h2).mo Mo.over rfl⟩
/-- what was not seen is seen from now on -/
def Pt.see (p : Pt) (a : Addr) (o : HO) (h : p.H a = some o) (ht : ∀ ps, o ≠ .tbl ps := by intro _ z; cases z) : Pt := ⟨p.rho, upd p.V a o, p.H, fun b u q => by
  by_cases z : b = a
  · subst z; rw [upd_same] at q; cases q; exact h
  · rw [upd_ne z] at q; exact p.sub b u q, p.T, p.tb, fun t hm => by rw [upd_ne (Pt.tne (fun ps z => ht ps (Option.some.inj (h.symm.trans z))) t hm)]; exact p.hv t hm⟩
def Pt.seeC (p : Pt) (a : Addr) (o : HO) (h : p.H a = some o) (ht : ∀ ps, o ≠ .tbl ps := by intro _ z; cases z) : Pt := ⟨p.rho ++ [a], upd p.V a o, p.H, (p.see a o h ht).sub, p.T, p.tb, (p.see a o h ht).hv⟩
theorem Mo.see {p : Pt} {a o h ht} (n : p.V a = none) : Mo p (p.see a o h ht) := ⟨⟨[], by simp [Pt.see]⟩, fun b u q _ => by show upd _ _ _ _ = _; rw [upd_ne (ne_of_none q n)]; exact q, fun _ _ _ n => n⟩
theorem Mo.seeC {p : Pt} {a o h ht} (n : p.V a = none) : Mo p (p.seeC a o h ht) := ⟨⟨[a], rfl⟩, fun b u q _ => by show upd _ _ _ _ = _; rw [upd_ne (ne_of_none q n)]; exact q, fun b u q nb z => by
  rcases List.mem_append.mp z with z | z
  · exact nb z
  · simp at z; subst z; rw [n] at q; cases q⟩
theorem Ext.see {p q : Pt} {a o h ht} (e : Ext p q) (n : q.V a = none) (hp : p.H a = none) : Ext p (q.see a o h ht) :=
  ⟨e.pre, fun b u hb nb => (Mo.see n).keep b u (e.keep b u hb nb) (e.nn hb nb), e.new, fun b u hb nb => by
    by_cases z : b = a
    · rw [z]; exact hp
    · rw [show (q.see a o h ht).V b = q.V b from upd_ne z] at hb
      exact e.vis b u hb nb, e.hid, e.tbk, e.tT⟩
theorem Ext.seeC {p q : Pt} {a o h ht} (e : Ext p q) (n : q.V a = none) (hp : p.H a = none) : Ext p (q.seeC a o h ht) := by
  refine ⟨?_, fun b u hb nb => (Mo.see (h := h) (ht := ht) n).keep b u (e.keep b u hb nb) (e.nn hb nb), fun b hb nb => ?_, (Ext.see (h := h) (ht := ht) e n hp).vis, e.hid, e.tbk, e.tT⟩
  · obtain ⟨t, z⟩ := e.pre
    exact ⟨t ++ [a], by show q.rho ++ [a] = _; rw [z, List.append_assoc]⟩
  · rcases List.mem_append.mp hb with z | z
    · exact e.new b z nb
    · simp at z; subst z; exact hp
theorem RepS.see {K} {p : Pt} {a o h ht st} (s : RepS K p st) (n : p.V a = none) : RepS K (p.see a o h ht) st :=
  ⟨s.len, s.nd, fun i m b h1 h2 => (s.at_ i m b h1 h2).mo (Mo.see n) (upd_ne fun z => s.ne n (z ▸ List.mem_of_getElem? h2))⟩
theorem RepS.seeC {K} {p : Pt} {a o h ht st m} (s : RepS K p st) (n : p.V a = none) (hm : RepM K (p.seeC a o h ht) a m) : RepS K (p.seeC a o h ht) (st ++ [m]) := by
  refine ⟨by simp [Pt.seeC, s.len], ?_, fun i m' b h1 h2 => ?_⟩
  · show (p.rho ++ [a]).Nodup
    rw [List.nodup_append]
    exact ⟨s.nd, by simp, fun x hx y hy => by simp at hy; subst hy; intro z; subst z; exact s.ne n hx⟩
  · have h2 : (p.rho ++ [a])[i]? = some b := h2
    by_cases hl : i < p.rho.length
    · rw [List.getElem?_append_left (by rw [s.len]; exact hl)] at h1
      rw [List.getElem?_append_left hl] at h2
      exact (s.at_ i m' b h1 h2).mo (Mo.seeC n) (upd_ne fun z => s.ne n (z ▸ List.mem_of_getElem? h2))
    · have e : i = p.rho.length := by
        have := (List.getElem?_eq_some_iff.mp h2).1
        simp at this; omega
      subst e
      rw [show p.rho.length = st.length from s.len.symm] at h1
      simp at h1
      simp at h2
      subst h1; subst h2
      exact hm
theorem Ext.fresh {K : Frag} {p q : Pt} {st : Sto} {a : Addr} (e : Ext p q) (s : RepS K q st) (h : q.H a = none) : p.H a = none := by
  cases z : p.H a with
  | none => rfl
  | some o =>
    cases y : p.V a with
    | none =>
      by_cases t : ∃ ps, o = .tbl ps
      · obtain ⟨ps, rfl⟩ := t
        obtain ⟨ps', w⟩ := e.tbk a ps z
        rw [w] at h; cases h
      · rw [e.hid a o z y fun ps w => t ⟨ps, w⟩] at h; cases h
    | some u =>
      by_cases m : a ∈ p.rho
      · obtain ⟨t, w⟩ := e.pre
        have m' : a ∈ q.rho := by rw [w]; exact List.mem_append_left _ m
        exact absurd m' (s.nh h)
      · have := q.sub _ _ (e.keep a u y m)
        rw [h] at this; cases this
def AftN (G : Cg) (p : Pt) (o : Out (List D)) (Q : VK) (E : XK) : Prop := match o with
  | .ok ds st => ∀ q a vs, Ext p q → p.H a = none → q.V a = none → q.H a = some (.lst vs) → Reps G.K q ds vs → RepS G.K q st → Q (.ref a) q.H
  | .exc x st => ∀ q cls dd, Ext p q → RepX G q x cls dd → RepS G.K q st → E cls dd q.H
  | .bad => False
/-- the first part runs, then the rest makes -/
theorem AftN.bind {α β : Type} {R : Pt → α → β → Prop} {G : Cg} {p : Pt} {o : Out α} {k : α → Sto → Out (List D)} {Q : VK} {E : XK} (h : AftN G p (o.bind k) Q E) :
    Aft R G p o (fun b H' => ∃ q a st', q.H = H' ∧ Ext p q ∧ R q a b ∧ RepS G.K q st' ∧ AftN G q (k a st') Q E) E := by
  cases o with
  | ok a st =>
    intro q b e r s
    refine ⟨q, a, st, rfl, e, r, s, ?_⟩
    have h : AftN G p (k a st) Q E := h
    cases z : k a st with
    | bad => rw [z] at h; exact h
    | exc x st' => rw [z] at h; exact fun q2 c d e2 rx s2 => h q2 c d (e.trans e2) rx s2
    | ok ds st' => rw [z] at h; exact fun q2 a2 vs e2 ha hv hq rr s2 => h q2 a2 vs (e.trans e2) (e.fresh s ha) hv hq rr s2
  | exc x st => exact h
  | bad => exact h
theorem AftN.see {G : Cg} {p : Pt} {o : Out (List D)} {Q : VK} {E : XK} (h : Aft (Rep G.K) G p (o.bind fun acc st => .ok (.lst acc) st) Q E) : AftN G p o Q E := by
  cases o with
  | bad => exact h
  | exc x st => exact h
  | ok acc st => exact fun q a vs e ha na hq r s => h (q.see a _ hq) _ (e.see na ha) (.lst upd_same (s.ne na) (r.mo (Mo.see na))) (s.see na)
theorem AftN.seeC {G : Cg} {p : Pt} {o : Out (List D)} {Q : VK} {E : XK} (h : Aft (Rep G.K) G p (o.bind fun acc st => .ok (.ptr st.length) (st ++ [.lst acc])) Q E) : AftN G p o Q E := by
  cases o with
  | bad => exact h
  | exc x st => exact h
  | ok acc st => exact fun q a vs e ha na hq r s => h (q.seeC a _ hq) _ (e.seeC na ha) (.ptr (by show (q.rho ++ [a])[st.length]? = some a; rw [s.len]; simp)) (s.seeC na ⟨vs, upd_same, r.mo (Mo.seeC na)⟩)
theorem bind_assoc {α β γ : Type} {o : Out α} {f : α → Sto → Out β} {g : β → Sto → Out γ} : (o.bind f).bind g = o.bind fun a st => (f a st).bind g := by cases o <;> rfl
/-- what a comprehension asks, from what its denotation says -/
theorem tLc_of {ι : DenI} {t : Pat} {vs : List Nat} {σ : St} {p : Pt} {env : En} {st : Sto} {Q : VK} (hp : ∀ i ∈ t.ix, i ∈ vs)
    (hE : RepE X.K W p env σ) (hS : RepS X.K p st) (h : AftN (Cx.g X) p ((ι env st).bind fun ds st => lcGo t ψ φ (wipeE env vs) ds st []) Q (wAt W σ)) :
    tLc (iD (Cx.g X) W ι) (gD (Cx.g X) (wNo W) t) (tT (Cx.g X) (wNo W) ψ) (tD (Cx.g X) (wNo W) φ) vs σ p.H Q := by
  refine ⟨p, env, st, rfl, hE, hS, (AftN.bind h).mono fun J H1 ⟨p1, ds, st1, z1, e1, w1, s1, h1⟩ => ?_⟩
  subst z1
  have hE1 := hE.mono e1
  intro A hA
  have fA := Pt.free hA
  refine ⟨fun i m H => ∃ q st acc avs, m = ds.length - i ∧ q.H = H ∧ Ext p1 q ∧ q.V A = none ∧ H A = some (.lst avs) ∧ RepS X.K q st ∧ Reps X.K q acc avs ∧
      AftN (Cx.g X) p1 (lcGo t ψ φ (wipeE env vs) (ds.drop i) st acc) Q (wAt W σ),
    ⟨_, p1.over A (.lst []) fA (.inl hA), st1, [], [], rfl, rfl, Ext.refl.over hA, fA, upd_same, s1.over, .nil, h1⟩, fun i m H hw => ?_⟩
  obtain ⟨q, st, acc, avs, em, z, eq, nA, hAl, hS, rA, h⟩ := hw
  subst z
  obtain ⟨hgo, hstop⟩ := w1 i q eq.mo
  by_cases hl : i < ds.length
  · obtain ⟨go, yld⟩ := hgo ds[i] (List.getElem?_eq_getElem hl)
    refine .inr ⟨go, fun H' => ∃ q st acc avs, q.H = H' ∧ Ext p1 q ∧ q.V A = none ∧ H' A = some (.lst avs) ∧ RepS X.K q st ∧ Reps X.K q acc avs ∧
      AftN (Cx.g X) p1 (lcGo t ψ φ (wipeE env vs) (ds.drop (i + 1)) st acc) Q (wAt W σ), fun H' hq => ?_, fun x H' y => ?_⟩
    · obtain ⟨q', st', acc', avs', a, b, c, d, e, f, g⟩ := hq
      exact ⟨ds.length - (i + 1), by omega, q', st', acc', avs', rfl, a, b, c, d, e, f, g⟩
    · obtain ⟨r, z, ex, rx, sx⟩ := yld x H' y _ hS
      subst z
      rw [List.drop_eq_getElem_cons hl, lcGo] at h
      have e1r := eq.trans ex
      cases q0 : t.set ds[i] (wipeE env vs) with
      | none => rw [q0] at h; exact h.elim
      | some env1 =>
        rw [q0] at h
        dsimp only at h
        refine ⟨r, ds[i], wipeE env vs, env1, rfl, rx, ((hE1.mono e1r).wipe vs).w, q0, fun σ2 hE2 o2 => ⟨wipe_only o2 hp, r, env1, st, rfl, hE2, sx, ?_⟩⟩
        cases q1 : ψ env1 st with
        | exc x st => rw [q1] at h; exact h.elim
        | bad => rw [q1] at h; exact h.elim
        | ok b st2 =>
          rw [q1] at h
          intro r2 b2 e2 hb s2
          cases hb
          have e12 := e1r.trans e2
          obtain ⟨nA2, hA2⟩ := (ex.trans e2).unseen nA hAl
          cases b with
          | false => exact ⟨r2, st2, acc, avs, rfl, e12, nA2, hA2, s2, rA.mono (ex.trans e2), h⟩
          | true =>
            show tD _ _ _ _ _ _
            refine ⟨r2, env1, st2, rfl, hE2.mono e2, s2, ?_⟩
            dsimp only at h
            cases q2 : φ env1 st2 with
            | exc x st => rw [q2] at h; exact h.elim
            | bad => rw [q2] at h; exact h.elim
            | ok yd st3 =>
              rw [q2] at h
              dsimp only at h
              intro r3 v e3 rv s3
              obtain ⟨nA3, hA3⟩ := e3.unseen nA2 hA2
              by_cases hz : acc.length < sizeLine
              · rw [if_pos hz] at h
                refine ⟨avs, hA3, by rw [← rA.length]; exact hz, r3.over A (.lst (avs ++ [v])) nA3 (.inr (.inl ⟨_, hA3⟩)), st3, acc ++ [yd], avs ++ [v], rfl, (e12.trans e3).over hA, nA3, upd_same, s3.over, ?_, h⟩
                exact ((rA.mono ((ex.trans e2).trans e3)).append (.cons rv .nil)).mo Mo.over
              · rw [if_neg hz] at h
                exact h.elim
  · refine .inl ⟨hstop (by omega), ?_⟩
    rw [List.drop_eq_nil_of_le (by omega), lcGo] at h
    exact h q A avs eq hA nA hAl rA hS
theorem pev_lc (o : Ok X W k) {elt tg iter : Expr} {ifs : List Expr} {scope : Scope} (own : List (Str × Nat)) {ι : DenI} {t : Pat} (hi : PIv X W tg iter ι) (ok : BlkOk X.N X.env.scope scope own)
    (hg : ∀ (s : Shared) (H : Hp) (C : Addr) (cl : List (Str × Addr)) (fp : List Addr), PGv (X.blk s H scope (compEnvC scope cl C X.env) fp) (wNo W) tg t)
    (ht : ∀ (s : Shared) (H : Hp) (C : Addr) (cl : List (Str × Addr)) (fp : List Addr), Ok (X.blk s H scope (compEnvC scope cl C X.env) fp) (wNo W) k → PTsv (X.blk s H scope (compEnvC scope cl C X.env) fp) (wNo W) ifs ψ)
    (he : ∀ (s : Shared) (H : Hp) (C : Addr) (cl : List (Str × Addr)) (fp : List Addr), Ok (X.blk s H scope (compEnvC scope cl C X.env) fp) (wNo W) k → PEv (X.blk s H scope (compEnvC scope cl C X.env) fp) (wNo W) elt φ)
    (hp : ∀ i ∈ t.ix, i ∈ own.map (·.2) := by decide) (hs : ∀ x, foldedSetIterable iter X.env x = pure x := by intro _; rfl) :
    PEv X W (.ListComp elt [⟨tg, iter, ifs, 0⟩] scope pos) (dLc ι t ψ φ (own.map (·.2))) :=
  pev_of (pe_lc (g := gD (Cx.g X) (wNo W) t) (tt := tT (Cx.g X) (wNo W) ψ) (te := tD (Cx.g X) (wNo W) φ) o.calm o.nd hi ok hg (fun s H C cl fp => ht s H C cl fp (o.blk ..)) (fun s H C cl fp => he s H C cl fp (o.blk ..)) hs) fun σ Q p env st hE hS h =>
    tLc_of hp hE hS (AftN.see (by rw [bind_assoc]; exact h))
theorem pev_lcP (o : Ok X W k) {elt tg iter : Expr} {ifs : List Expr} {scope : Scope} (own : List (Str × Nat)) {ι : DenI} {t : Pat} (hi : PIv X W tg iter ι) (ok : BlkOk X.N X.env.scope scope own)
    (hg : ∀ (s : Shared) (H : Hp) (C : Addr) (cl : List (Str × Addr)) (fp : List Addr), PGv (X.blk s H scope (compEnvC scope cl C X.env) fp) (wNo W) tg t)
    (ht : ∀ (s : Shared) (H : Hp) (C : Addr) (cl : List (Str × Addr)) (fp : List Addr), Ok (X.blk s H scope (compEnvC scope cl C X.env) fp) (wNo W) k → PTsv (X.blk s H scope (compEnvC scope cl C X.env) fp) (wNo W) ifs ψ)
    (he : ∀ (s : Shared) (H : Hp) (C : Addr) (cl : List (Str × Addr)) (fp : List Addr), Ok (X.blk s H scope (compEnvC scope cl C X.env) fp) (wNo W) k → PEv (X.blk s H scope (compEnvC scope cl C X.env) fp) (wNo W) elt φ)
    (hp : ∀ i ∈ t.ix, i ∈ own.map (·.2) := by decide) (hs : ∀ x, foldedSetIterable iter X.env x = pure x := by intro _; rfl) :
    PEv X W (.ListComp elt [⟨tg, iter, ifs, 0⟩] scope pos) (dLcP ι t ψ φ (own.map (·.2))) :=
  pev_of (pe_lc (g := gD (Cx.g X) (wNo W) t) (tt := tT (Cx.g X) (wNo W) ψ) (te := tD (Cx.g X) (wNo W) φ) o.calm o.nd hi ok hg (fun s H C cl fp => ht s H C cl fp (o.blk ..)) (fun s H C cl fp => he s H C cl fp (o.blk ..)) hs) fun σ Q p env st hE hS h =>
    tLc_of hp hE hS (AftN.seeC (by rw [bind_assoc]; exact h))
/-- name = [..] on one line, the name a local -/
theorem psv_setLc (o : Ok X W k) (i : Nat) {y : Str} {py spos : Pos} {elt tg iter : Expr} {ifs : List Expr} {scope : Scope} (own : List (Str × Nat)) {ι : DenI} {t : Pat} (hi : PIv X W tg iter ι) (ok : BlkOk X.N X.env.scope scope own)
    (hg : ∀ (s : Shared) (H : Hp) (C : Addr) (cl : List (Str × Addr)) (fp : List Addr), PGv (X.blk s H scope (compEnvC scope cl C X.env) fp) (wNo W) tg t)
    (ht : ∀ (s : Shared) (H : Hp) (C : Addr) (cl : List (Str × Addr)) (fp : List Addr), Ok (X.blk s H scope (compEnvC scope cl C X.env) fp) (wNo W) k → PTsv (X.blk s H scope (compEnvC scope cl C X.env) fp) (wNo W) ifs ψ)
    (he : ∀ (s : Shared) (H : Hp) (C : Addr) (cl : List (Str × Addr)) (fp : List Addr), Ok (X.blk s H scope (compEnvC scope cl C X.env) fp) (wNo W) k → PEv (X.blk s H scope (compEnvC scope cl C X.env) fp) (wNo W) elt φ)
    (hy : X.N[i]? = some y := by rfl) (hyl : X.env.scope.names.lookup y = some .local := by rfl)
    (hsw : swapsWith (.ListComp elt [⟨tg, iter, ifs, 0⟩] scope pos) (some (.Name y py)) spos.line X.env = pure true := by exact sw_true rfl rfl rfl (by decide +kernel))
    (hp : ∀ i ∈ t.ix, i ∈ own.map (·.2) := by decide) (hs : ∀ x, foldedSetIterable iter X.env x = pure x := by intro _; rfl) :
    PSv X W (.Assign [.Name y py] (.ListComp elt [⟨tg, iter, ifs, 0⟩] scope pos) spos) (sSet i (dLc ι t ψ φ (own.map (·.2)))) :=
  psv_of (ps_setLc (g := gD (Cx.g X) (wNo W) t) (tt := tT (Cx.g X) (wNo W) ψ) (te := tD (Cx.g X) (wNo W) φ) o.calm o.nd hy hyl hsw hi ok hg (fun s H C cl fp => ht s H C cl fp (o.blk ..)) (fun s H C cl fp => he s H C cl fp (o.blk ..)) hs) fun Z σ p env st hE hS h => by
    refine tLc_of (W := W) hp hE hS (Q := fun x H1 => gName i x σ H1 Z.nx) (AftN.see ?_)
    rw [bind_assoc]
    exact (Aft.to (R := Rep X.K) (σ := σ) hE h).mono fun v H1 ⟨q, d, st1, z, e, r, s, h⟩ => z ▸ h.now (.nx ((hE.mono e).set i r)) s
end

/-! ### defs -/
def dFn (m : Nat) (θ : DenS) : List D → Sto → Out D := fun args st => match θ (args.map some ++ List.replicate (m - args.length) none) st with
  | some (.rt d, st') => .ok d st'
  | some (.nx _, st') => .ok .non st'
  | some (.ex x _, st') => .exc x st'
  | _ => .bad
theorem start_at {args : List D} {m i : Nat} {d : D} (h : (args.map some ++ List.replicate m none)[i]? = some (some d)) : args[i]? = some d := by
  by_cases hi : i < args.length
  · rw [List.getElem?_append_left (by simpa using hi), List.getElem?_map] at h
    cases q : args[i]? with
    | none => rw [q] at h; cases h
    | some d' => rw [q] at h; cases h; rfl
  · rw [List.getElem?_append_right (by simpa using hi), List.getElem?_replicate] at h
    split at h <;> cases h
theorem repE_start {K : Frag} {W : WG} {p : Pt} {N : List Str} (hp : W.p0 = p) {args : List D} {vs : List V} (r : Reps K p args vs) : RepE K W p (args.map some ++ List.replicate (N.length - args.length) none) (L2.start N vs) := by
  unfold L2.start
  have hl := r.length
  refine ⟨by simp; omega, by rw [hp]; exact .refl, fun i d h => ?_, fun i j d e a h1 n1 => ?_⟩
  · have h := start_at h
    have hi : i < args.length := (List.getElem?_eq_some_iff.mp h).1
    obtain ⟨v, hv, rv⟩ := r.get h
    exact ⟨v, by rw [List.getElem?_append_left (by simp; omega), List.getElem?_map, hv]; rfl, .rep rv⟩
  · obtain ⟨v, _, rv⟩ := r.get (start_at h1)
    rw [rv.plain] at n1; cases n1
theorem fn_den {P : Program} {w : World} {K : Frag} {mg : Str → Option Value} {base : Heap} {x qual : Str} {st : Stmt} {f : Addr} {fd : FuncData} {N ps : List Str} {k : Nat} {θ : DenS} (F : Fun K x qual st f fd) (S : FnScope N ps (defScope st))
    (hb : ∀ (X : Cx) (W : WG), Ok X W k → (∃ cdv A outer s H E, X = cxOf (L2.CX P w) P w K mg base N qual (defScope st) f cdv A outer s H E) → PBv X W (defBody st) θ) :
    FnG P w K mg base (k + 1) f fd ps (spF ⟨K, mg⟩ ps.length (dFn N.length θ)) := by
  refine fnG_of F S (fun vs H Q E ⟨p, args, st, z, hl, r, _⟩ => by rw [← r.length]; exact hl) fun cdv A outer s H vs Q E gd hr ⟨p, args, st, z, hl, r, hS, h⟩ => ?_
  subst z
  refine ⟨_, hb _ ⟨fun c d σ H => E c d H, p, 0⟩ ⟨rfl, S.nd, hr, takes_of rfl rfl rfl rfl, passes_of rfl, gd⟩ ⟨cdv, A, outer, s, p.H, E, rfl⟩, p, _, st, rfl, repE_start rfl r, hS, ?_⟩
  unfold dFn at h
  show AftS _ _ p (θ (args.map some ++ List.replicate (N.length - args.length) none) st) _
  cases q : θ (args.map some ++ List.replicate (N.length - args.length) none) st with
  | none => rw [q] at h; exact h
  | some o =>
    obtain ⟨fl, st'⟩ := o
    rw [q] at h
    intro q' fv _ e rf rs
    cases rf with
    | nx rf => exact h q' .non e .non rs
    | rt rf => exact h q' _ e rf rs
    | bk rf => exact h.elim
    | ct rf => exact h.elim
    | ex rx rf => exact h q' _ _ e rx rs
end DL

/-! DL: operators, built-ins, dicts. -/
namespace DL
open PySem PySem.Spec L2
open PyProof.Rows hiding St
set_option autoImplicit true

/-! ### keys and dicts as plain data -/
def dKey : D → Option Key
  | .int i => some (.inl i)
  | .str x => some (.inr x)
  | _ => none
def kD : Key → D
  | .inl i => .int i
  | .inr x => .str x
theorem dKey_rep {K p d v k} (h : dKey d = some k) (r : Rep K p d v) : v = kV k := by
  cases r <;> simp only [dKey] at h <;> cases h <;> rfl
def valD {κ : Type} [DecidableEq κ] : List κ → List D → κ → Option D
  | k' :: ks, d :: ds, k => if k' = k then some d else valD ks ds k
  | _, _, _ => none
theorem valD_rep {κ : Type} [DecidableEq κ] {K p} {k : κ} : ∀ {ks : List κ} {ds : List D} {vs : List V}, ks.length = ds.length → Reps K p ds vs →
    (∀ d, valD ks ds k = some d → ∃ v, valV (ks.zip vs) k = some v ∧ Rep K p d v) ∧ (valD ks ds k = none → valV (ks.zip vs) k = none)
  | [], [], _, _, .nil => ⟨fun d h => by simp [valD] at h, fun _ => rfl⟩
  | [], _ :: _, _, h, _ => by simp at h
  | _ :: _, [], _, h, _ => by simp at h
  | k' :: ks, d :: ds, _, h, .cons r rr => by
    have ih := valD_rep (k := k) (ks := ks) (by simpa using h) rr
    by_cases e : k' = k
    · subst e
      refine ⟨fun d' h' => ?_, fun h' => ?_⟩
      · rw [valD, if_pos rfl] at h'
        cases h'
        exact ⟨_, by rw [List.zip_cons_cons, valV_pos rfl], r⟩
      · rw [valD, if_pos rfl] at h'; cases h'
    · rw [valD, if_neg e, List.zip_cons_cons, valV_neg (by exact e)]
      exact ih
def putKs {κ : Type} [DecidableEq κ] (ks : List κ) (k : κ) : List κ := if k ∈ ks then ks else ks ++ [k]
def putDs {κ : Type} [DecidableEq κ] : List κ → List D → κ → D → List D
  | k' :: ks, d' :: ds, k, d => if k' = k then d :: putDs' ks ds k d else d' :: putDs ks ds k d
  | _, _, _, d => [d]
where putDs' : List κ → List D → κ → D → List D
  | k' :: ks, d' :: ds, k, d => (if k' = k then d else d') :: putDs' ks ds k d
  | _, _, _, _ => []
theorem putDs'_rep {κ : Type} [DecidableEq κ] {K p d v} {k : κ} (r : Rep K p d v) : ∀ {ks : List κ} {ds : List D} {vs : List V}, ks.length = ds.length → Reps K p ds vs →
    ∃ ws, Reps K p (putDs.putDs' ks ds k d) ws ∧ (ks.zip vs).map (fun kv => if kv.1 = k then (kv.1, v) else kv) = ks.zip ws ∧ ks.length = (putDs.putDs' ks ds k d).length
  | [], [], _, _, .nil => ⟨[], .nil, rfl, rfl⟩
  | [], _ :: _, _, h, _ => by simp at h
  | _ :: _, [], _, h, _ => by simp at h
  | k' :: ks, d' :: ds, _, h, .cons (v := v') r1 rr => by
    obtain ⟨ws, h1, h2, h3⟩ := putDs'_rep r (ks := ks) (by simpa using h) rr
    by_cases e : k' = k
    · refine ⟨v :: ws, ?_, ?_, ?_⟩
      · rw [putDs.putDs', if_pos e]; exact .cons r h1
      · simp [e, h2]
      · rw [putDs.putDs', if_pos e]; simp [h3]
    · refine ⟨v' :: ws, ?_, ?_, ?_⟩
      · rw [putDs.putDs', if_neg e]; exact .cons r1 h1
      · simp [e, h2]
      · rw [putDs.putDs', if_neg e]; simp [h3]
theorem zip_any {κ : Type} [DecidableEq κ] {k : κ} : ∀ {ks : List κ} {vs : List V}, ks.length = vs.length → ((ks.zip vs).any fun kv => decide (kv.1 = k)) = decide (k ∈ ks)
  | [], _, _ => rfl
  | _ :: _, [], h => by simp at h
  | k' :: ks, v :: vs, h => by
    rw [List.zip_cons_cons, List.any_cons, zip_any (ks := ks) (by simpa using h)]
    by_cases e : k' = k
    · subst e; simp
    · simp [e, Ne.symm e]
theorem putDs_rep {κ : Type} [DecidableEq κ] {K p d v} {k : κ} (r : Rep K p d v) : ∀ {ks : List κ} {ds : List D} {vs : List V}, ks.length = ds.length → Reps K p ds vs →
    ∃ ws, Reps K p (putDs ks ds k d) ws ∧ putK (ks.zip vs) k v = (putKs ks k).zip ws ∧ (putKs ks k).length = (putDs ks ds k d).length
  | [], [], _, _, .nil => ⟨[v], by simp only [putDs]; exact .cons r .nil, by simp [putK, putKs], by simp [putKs, putDs]⟩
  | [], _ :: _, _, h, _ => by simp at h
  | _ :: _, [], _, h, _ => by simp at h
  | k' :: ks, d' :: ds, _, h, .cons (v := v') (vs := vs) r1 rr => by
    have hl : ks.length = ds.length := by simpa using h
    have hv : ks.length = vs.length := hl.trans rr.length
    by_cases e : k' = k
    · subst e
      obtain ⟨ws, h1, h2, h3⟩ := putDs'_rep r (k := k') hl rr
      refine ⟨v :: ws, ?_, ?_, ?_⟩
      · rw [putDs, if_pos rfl]; exact .cons r h1
      · unfold putK
        rw [zip_any (by simp [hv])]
        simp [putKs, h2]
      · rw [putDs, if_pos rfl]; simp [putKs, h3]
    · obtain ⟨ws, h1, h2, h3⟩ := putDs_rep r (k := k) hl rr
      refine ⟨v' :: ws, ?_, ?_, ?_⟩
      · rw [putDs, if_neg e]; exact .cons r1 h1
      · unfold putK at h2 ⊢
        rw [zip_any hv] at h2
        rw [zip_any (by simp [hv])]
        unfold putKs at h2 ⊢
        by_cases m : k ∈ ks
        · have m' : k ∈ k' :: ks := List.mem_cons_of_mem _ m
          simp only [m, m', decide_true, if_true] at h2 ⊢
          rw [List.zip_cons_cons, List.map_cons, h2]
          simp [e]
        · have m' : ¬ k ∈ k' :: ks := by simp [m, Ne.symm e]
          simp only [m, m', decide_false, Bool.false_eq_true, if_false] at h2 ⊢
          rw [List.zip_cons_cons, List.cons_append, h2]
          simp
      · rw [putDs, if_neg e]
        unfold putKs at h3 ⊢
        by_cases m : k ∈ ks
        · simp [m] at h3 ⊢; exact h3
        · simp [m, Ne.symm e] at h3 ⊢; exact h3

/-! ### a cell is written -/
def Pt.wr (p : Pt) (a : Addr) (o : HO) (h : (∃ xs, p.V a = some (.lst xs)) ∨ ∃ kvs, p.V a = some (.dK kvs)) : Pt := ⟨p.rho, upd p.V a o, upd p.H a o, sub_upd p.sub, p.T, tabs_upd p.tb (.inr (h.imp (fun ⟨xs, e⟩ => ⟨xs, p.sub _ _ e⟩) fun ⟨xs, e⟩ => ⟨xs, p.sub _ _ e⟩)), fun t ht => by
  rw [upd_ne (fun z => by rcases h with ⟨xs, e⟩ | ⟨xs, e⟩ <;> rw [← z, p.hv t ht] at e <;> cases e)]; exact p.hv t ht⟩
theorem Pt.wne {p : Pt} {a b : Addr} (h : (∃ xs, p.V a = some (.lst xs)) ∨ ∃ kvs, p.V a = some (.dK kvs)) (n : p.V b = none) : b ≠ a := fun z => by
  rcases h with ⟨xs, e⟩ | ⟨xs, e⟩ <;> rw [← z, n] at e <;> cases e
theorem Ext.wr {p : Pt} {a o h} (hm : a ∈ p.rho) : Ext p (p.wr a o h) :=
  ⟨⟨[], by simp [Pt.wr]⟩, fun b u hb nb => by show upd _ _ _ _ = _; rw [upd_ne (show b ≠ a from fun z => nb (by rw [z]; exact hm))]; exact hb, fun b hb nb => absurd hb nb,
   fun b u hb nb => by
    rw [show (p.wr a o h).V b = p.V b from upd_ne (Pt.wne h nb), nb] at hb; exact (nomatch hb),
   fun b u hb nb _ => by show upd _ _ _ _ = _; rw [upd_ne (Pt.wne h nb)]; exact hb,
   fun b ps hb => ⟨ps, by
    show upd _ _ _ _ = _
    rw [upd_ne (fun z => by rcases h with ⟨xs, e⟩ | ⟨xs, e⟩ <;> rw [← z] at e <;> rw [p.sub _ _ e] at hb <;> cases hb)]; exact hb⟩, rfl⟩
theorem RepS.wr {K} {p : Pt} {st n a o h m} (s : RepS K p st) (hn : p.rho[n]? = some a) (hm : RepM K (p.wr a o h) a m) : RepS K (p.wr a o h) (st.set n m) := by
  have ha : a ∈ p.rho := List.mem_of_getElem? hn
  refine ⟨by simpa [Pt.wr] using s.len, s.nd, fun i m' b h1 h2 => ?_⟩
  have h2 : p.rho[i]? = some b := h2
  by_cases e : n = i
  · subst e
    rw [hn] at h2; cases h2
    rw [List.getElem?_set_self (by rw [s.len]; exact (List.getElem?_eq_some_iff.mp hn).1)] at h1
    cases h1
    exact hm
  · rw [List.getElem?_set_ne e] at h1
    have nb : b ≠ a := fun z => by
      subst z
      obtain ⟨hi, ei⟩ := List.getElem?_eq_some_iff.mp h2
      obtain ⟨hj, ej⟩ := List.getElem?_eq_some_iff.mp hn
      exact e ((List.getElem_inj s.nd).mp (ej.trans ei.symm))
    exact (s.at_ i m' b h1 h2).ext (Ext.wr ha) (upd_ne nb)

/-! ### operators -/
section
variable {X : Cx} {W : WG} {k : Nat} {pos : Pos} {a b e : Expr} {φ φa φb : Den}
def oAdd : D → D → Sto → Out D
  | .int i, .int j, st => .ok (.int (i + j)) st
  | .str x, .str y, st => if x.length + y.length ≤ sizeLine then .ok (.str (x ++ y)) st else .bad
  | .tup xs, .tup ys, st => if xs.length + ys.length ≤ sizeLine then .ok (.tup (xs ++ ys)) st else .bad
  | a, b, st => match vieS a st, vieS b st with
    | some xs, some ys => if xs.length + ys.length ≤ sizeLine then .ok (.lst (xs ++ ys)) st else .bad
    | _, _ => .bad
where vieS : D → Sto → Option (List D)
  | .lst ds, _ => some ds
  | .ptr n, st => match st[n]? with
    | some (.lst ds) => some ds
    | _ => none
  | _, _ => none
theorem vieS_rep {G : Cg} {p : Pt} {st : Sto} {d : D} {v : V} {ds : List D} (h : oAdd.vieS d st = some ds) (r : Rep G.K p d v) (s : RepS G.K p st) : ∃ a vs, v = .ref a ∧ p.H a = some (.lst vs) ∧ Reps G.K p ds vs := by
  cases r <;> simp only [oAdd.vieS] at h <;> try (cases h; done)
  · cases h
    rename_i e n q
    exact ⟨_, _, rfl, p.sub _ _ e, q⟩
  · rename_i n a hn
    split at h
    · cases h
      rename_i es e
      obtain ⟨vs, h1, h2⟩ := s.at_ n _ a e hn
      exact ⟨a, vs, rfl, p.sub _ _ h1, h2⟩
    · cases h
abbrev rAddAll (K : Frag) : R2 := fun x y H Q => (rI0 fun i j => .int (i + j)) x y H Q ∨ ((∃ i j, x = .str i ∧ y = .str j ∧ i.length + j.length ≤ sizeLine ∧ Q (.str (i ++ j)) H) ∨ (rCatA K x y H Q ∨ rCat x y H Q))
theorem op_addAll : OpR X (binaryOp .Add) (rAddAll X.K) := op_add.or (op_add_str.or (op_catA.or op_cat))
theorem d_add {G : Cg} : Op2 G oAdd (rAddAll G.K) := by
  intro p st x y v u Q E rx ry s h
  have cat : ∀ xs ys, oAdd.vieS x st = some xs → oAdd.vieS y st = some ys → Aft (Rep G.K) G p (if xs.length + ys.length ≤ sizeLine then .ok (.lst (xs ++ ys)) st else .bad) Q E → rCat v u p.H Q := by
    intro xs ys hx hy h
    obtain ⟨a, vs, rfl, ha, ra⟩ := vieS_rep hx rx s
    obtain ⟨b, us, rfl, hb, rb⟩ := vieS_rep hy ry s
    split at h
    · rename_i hl
      refine ⟨a, b, vs, us, rfl, rfl, ha, hb, by rw [← ra.length, ← rb.length]; exact hl, fun c hc => ?_⟩
      exact h (p.laid c _ hc) _ (Ext.laid hc) (.lst upd_same (s.nh hc) ((ra.append rb).mono (Ext.laid hc))) (s.laid hc)
    · exact h.elim
  unfold oAdd at h
  split at h
  · cases rx; cases ry
    exact .inl ⟨_, _, rfl, rfl, h.now (.int _) s⟩
  · cases rx; cases ry
    split at h
    · rename_i hl
      exact .inr (.inl ⟨_, _, rfl, rfl, hl, h.now (.str _) s⟩)
    · exact h.elim
  · cases rx with
    | tup e1 r1 =>
      cases ry with
      | tup e2 r2 =>
        split at h
        · rename_i hl
          refine .inr (.inr (.inl ⟨_, _, _, _, rfl, rfl, e1.sq, e2.sq, by rw [← r1.length, ← r2.length]; exact hl, fun z => ?_, fun _ z => ?_, fun _ _ c hc => ?_⟩))
          · subst z
            cases r1
            exact h.now (.tup e2 r2) s
          · subst z
            cases r2
            exact h.now (.tup e1 (by simpa using r1)) s
          · exact h (p.laid c _ hc) _ (Ext.laid hc) (.tup (.inl ⟨.inl upd_same, s.nh hc⟩) ((r1.append r2).mono (Ext.laid hc))) (s.laid hc)
        · exact h.elim
  · split at h
    · rename_i xs ys e1 e2
      exact .inr (.inr (.inr (cat xs ys e1 e2 h)))
    · exact h.elim
theorem pev_add (ha : PEv X W a φa) (hb : PEv X W b φb) : PEv X W (.BinOp a .Add b pos) (dOp2 oAdd φa φb) := pev_bin op_addAll d_add ha hb
def oSub : D → D → Sto → Out D
  | .int i, .int j, st => .ok (.int (i - j)) st
  | _, _, _ => .bad
def oMod : D → D → Sto → Out D
  | .int i, .int j, st => if 0 < j then .ok (.int (i % j)) st else .bad
  | _, _, _ => .bad
def oFdiv : D → D → Sto → Out D
  | .int i, .int j, st => if 0 < j ∧ j.natAbs.log2 < 9000 then .ok (.int (i / j)) st else .bad
  | _, _, _ => .bad
def oPow : D → D → Sto → Out D
  | .int i, .int j, st => if 0 ≤ j ∧ j ≤ 1000000 ∧ i.natAbs < 2 ^ 64 then .ok (.int (i ^ j.toNat)) st else .bad
  | _, _, _ => .bad
def oMul : D → D → Sto → Out D
  | .int i, .int j, st => if i.natAbs.log2 + j.natAbs.log2 < 1000000 then .ok (.int (i * j)) st else .bad
  | a, .int n, st => match oAdd.vieS a st with
    | some ds => if -(2 ^ 63) ≤ n ∧ n < 2 ^ 63 ∧ ds.length * n.toNat ≤ sizeLine then .ok (.lst (List.replicate n.toNat ds).flatten) st else .bad
    | none => .bad
  | _, _, _ => .bad
theorem d_int2 {G : Cg} {C : Int → Int → Prop} [∀ i j, Decidable (C i j)] {g : Int → Int → Int} {f : D → D → Sto → Out D} (hf : ∀ x y st, f x y st = .bad ∨ ∃ i j, x = .int i ∧ y = .int j ∧ C i j ∧ f x y st = .ok (.int (g i j)) st) : Op2 G f (rI C fun i j => .int (g i j)) := by
  intro p st x y v u Q E rx ry s h
  rcases hf x y st with e | ⟨i, j, rfl, rfl, c, e⟩
  · rw [e] at h; exact h.elim
  · rw [e] at h
    cases rx; cases ry
    exact ⟨i, j, rfl, rfl, c, h.now (.int _) s⟩
theorem d_sub {G : Cg} : Op2 G oSub (rI0 fun i j => .int (i - j)) := by
  intro p st x y v u Q E rx ry s h
  unfold oSub at h
  split at h
  · cases rx; cases ry
    exact ⟨_, _, rfl, rfl, h.now (.int _) s⟩
  · exact h.elim
theorem pev_sub (ha : PEv X W a φa) (hb : PEv X W b φb) : PEv X W (.BinOp a .Sub b pos) (dOp2 oSub φa φb) := pev_bin op_sub d_sub ha hb
theorem d_mod {G : Cg} : Op2 G oMod (rI (fun _ j => 0 < j) fun i j => .int (i % j)) := d_int2 fun x y st => by
  unfold oMod
  split
  · split
    · exact .inr ⟨_, _, rfl, rfl, by assumption, rfl⟩
    · exact .inl rfl
  · exact .inl rfl
theorem pev_mod (ha : PEv X W a φa) (hb : PEv X W b φb) : PEv X W (.BinOp a .Mod b pos) (dOp2 oMod φa φb) := pev_bin op_mod d_mod ha hb
instance : ∀ i j, Decidable (CDivW i j) := fun i j => inferInstanceAs (Decidable (_ ∧ _))
instance : ∀ i j, Decidable (CPow i j) := fun i j => inferInstanceAs (Decidable (_ ∧ _))
instance : ∀ i j, Decidable (CMulW i j) := fun i j => inferInstanceAs (Decidable (_ < _))
theorem d_fdiv {G : Cg} : Op2 G oFdiv (rI CDivW fun i j => .int (i / j)) := d_int2 fun x y st => by
  unfold oFdiv
  split
  · split
    · exact .inr ⟨_, _, rfl, rfl, by assumption, rfl⟩
    · exact .inl rfl
  · exact .inl rfl
theorem pev_fdiv (ha : PEv X W a φa) (hb : PEv X W b φb) : PEv X W (.BinOp a .FloorDiv b pos) (dOp2 oFdiv φa φb) := pev_bin op_fdivW d_fdiv ha hb
theorem d_pow {G : Cg} : Op2 G oPow (rI CPow fun i j => .int (i ^ j.toNat)) := d_int2 fun x y st => by
  unfold oPow
  split
  · split
    · exact .inr ⟨_, _, rfl, rfl, by assumption, rfl⟩
    · exact .inl rfl
  · exact .inl rfl
theorem pev_pow (ha : PEv X W a φa) (hb : PEv X W b φb) : PEv X W (.BinOp a .Pow b pos) (dOp2 oPow φa φb) := pev_bin op_pow d_pow ha hb
abbrev rMulAll : R2 := fun x y H Q => (rI CMulW fun i j => .int (i * j)) x y H Q ∨ rRep x y H Q
theorem op_mulAll : OpR X (binaryOp .Mult) rMulAll := op_mulW.or op_rep
theorem Reps.rep {K p} {ds : List D} {vs : List V} (h : Reps K p ds vs) : ∀ n : Nat, Reps K p (List.replicate n ds).flatten (List.replicate n vs).flatten
  | 0 => .nil
  | n + 1 => by simp only [List.replicate_succ, List.flatten_cons]; exact h.append (Reps.rep h n)
theorem d_mul {G : Cg} : Op2 G oMul rMulAll := by
  intro p st x y v u Q E rx ry s h
  unfold oMul at h
  split at h
  · cases rx; cases ry
    split at h
    · rename_i c
      exact .inl ⟨_, _, rfl, rfl, c, h.now (.int _) s⟩
    · exact h.elim
  · cases ry
    split at h
    · rename_i ds e
      split at h
      · rename_i hl
        obtain ⟨a, vs, rfl, ha, ra⟩ := vieS_rep e rx s
        refine .inr ⟨a, _, vs, rfl, rfl, ha, hl.1, hl.2.1, by rw [← ra.length]; exact hl.2.2, fun c hc => ?_⟩
        exact h (p.laid c _ hc) _ (Ext.laid hc) (.lst upd_same (s.nh hc) ((ra.rep _).mono (Ext.laid hc))) (s.laid hc)
      · exact h.elim
    · exact h.elim
  · exact h.elim
theorem pev_mul (ha : PEv X W a φa) (hb : PEv X W b φb) : PEv X W (.BinOp a .Mult b pos) (dOp2 oMul φa φb) := pev_bin op_mulAll d_mul ha hb
def oNeg : D → Sto → Out D
  | .int i, st => .ok (.int (-i)) st
  | _, _ => .bad
theorem pev_neg (ha : PEv X W a φ) : PEv X W (.UnaryOp .USub a pos) (dOp1 oNeg φ) := pev_un un_neg (fun p st x v Q E rx s h => by
  unfold oNeg at h
  split at h
  · cases rx; exact ⟨_, rfl, h.now (.int _) s⟩
  · exact h.elim) ha
end
end DL

/-! DL: comparisons, items, dicts, built-ins. -/
namespace DL
open PySem PySem.Spec L2
open PyProof.Rows hiding St
set_option autoImplicit true

/-! ### data as the model's own -/
mutual
def toPy : D → Option PyData
  | .non => some .none
  | .bl b => some (.bool b)
  | .int i => some (.int i)
  | .str x => some (.str x)
  | .tup ds => (toPys ds).map .tuple
  | .lst ds => (toPys ds).map .list
  | .fls ds => (toPys ds).map .list
  | _ => none
def toPys : List D → Option (List PyData)
  | [] => some []
  | d :: ds => match toPy d, toPys ds with
    | some y, some ys => some (y :: ys)
    | _, _ => none
end
mutual
theorem toPy_dp {K : Frag} {p : Pt} : ∀ {d : D} {v : V} {y : PyData}, toPy d = some y → Rep K p d v → Dp K p.H v y
  | .non, _, y, h, r => by simp only [toPy] at h; cases h; cases r; exact .non
  | .bl b, _, y, h, r => by simp only [toPy] at h; cases h; cases r; exact .bl b
  | .int i, _, y, h, r => by simp only [toPy] at h; cases h; cases r; exact .int i
  | .str x, _, y, h, r => by simp only [toPy] at h; cases h; cases r; exact .str x
  | .raw _, _, y, h, r => by simp [toPy] at h
  | .tup ds, _, y, h, r => by
    simp only [toPy] at h
    cases q : toPys ds with
    | none => rw [q] at h; cases h
    | some ys =>
      rw [q] at h; cases h
      cases r with
      | tup s r => exact .tup s.sq (toPys_dp q r)
  | .lst ds, _, y, h, r => by
    simp only [toPy] at h
    cases q : toPys ds with
    | none => rw [q] at h; cases h
    | some ys =>
      rw [q] at h; cases h
      cases r with
      | lst s n r => exact .lst (SqL.of (p.sub _ _ s)) (toPys_dp q r)
  | .fls ds, _, y, h, r => by
    simp only [toPy] at h
    cases q : toPys ds with
    | none => rw [q] at h; cases h
    | some ys =>
      rw [q] at h; cases h
      cases r with
      | fls s r => exact .lst s.sq (toPys_dp q r)
  | .dic _ _, _, y, h, r => by simp [toPy] at h
  | .ptr _, _, y, h, r => by simp [toPy] at h
theorem toPys_dp {K : Frag} {p : Pt} : ∀ {ds : List D} {vs : List V} {ys : List PyData}, toPys ds = some ys → Reps K p ds vs → DpAll K p.H vs ys
  | [], _, ys, h, r => by simp only [toPys] at h; cases h; cases r; exact .nil
  | d :: ds, _, ys, h, r => by
    simp only [toPys] at h
    split at h
    · rename_i y' ys' q1 q2
      cases h
      cases r with
      | cons r rr => exact .cons (toPy_dp q1 r) (toPys_dp q2 rr)
    · cases h
end
/-- a cell's list as a value -/
def deref : D → Sto → D
  | .ptr n, st => match st[n]? with
    | some (.lst ds) => .lst ds
    | _ => .ptr n
  | d, _ => d
theorem deref_dp {G : Cg} {p : Pt} {st : Sto} {d : D} {v : V} {y : PyData} (h : toPy (deref d st) = some y) (r : Rep G.K p d v) (s : RepS G.K p st) : Dp G.K p.H v y := by
  cases d with
  | ptr n =>
    cases r with
    | @ptr _ a hn =>
      simp only [deref] at h
      split at h
      · rename_i ds e
        obtain ⟨vs, h1, h2⟩ := s.at_ _ _ a e hn
        simp only [toPy] at h
        cases q : toPys ds with
        | none => rw [q] at h; cases h
        | some ys => rw [q] at h; cases h; exact .lst (SqL.of (p.sub _ _ h1)) (toPys_dp q h2)
      · simp [toPy] at h
  | _ => exact toPy_dp h r
def twoS : D → D → Option (Str × Str)
  | .str a, .str b => some (a, b)
  | _, _ => none
theorem twoS_rep {K : Frag} {p : Pt} {x y : D} {v u : V} {a b : Str} (h : twoS x y = some (a, b)) (rx : Rep K p x v) (ry : Rep K p y u) : v = .str a ∧ u = .str b := by
  unfold twoS at h
  split at h
  · cases h; cases rx; cases ry; exact ⟨rfl, rfl⟩
  · cases h
def oEq : D → D → Sto → Out D := fun x y st => match twoS x y with
  | some (a, b) => .ok (.bl (decide (a = b))) st
  | none => (match toPy (deref x st), toPy (deref y st) with
    | some a, some b => if SeqAt.shaped a = true ∧ SeqAt.shaped b = true then .ok (.bl (PyData.eqv a b)) st else .bad
    | _, _ => .bad)
def oNe : D → D → Sto → Out D := fun x y st => match twoS x y with
  | some (a, b) => .ok (.bl (!decide (a = b))) st
  | none => (match toPy (deref x st), toPy (deref y st) with
    | some a, some b => if SeqAt.shaped a = true ∧ SeqAt.shaped b = true then .ok (.bl (!PyData.eqv a b)) st else .bad
    | _, _ => .bad)
theorem d_eq {G : Cg} : Op2 G oEq (fun x y H Q => rEq x y H Q ∨ rEqD G.K x y H Q) := by
  intro p st x y v u Q E rx ry s h
  unfold oEq at h
  split at h
  · rename_i a b e
    obtain ⟨rfl, rfl⟩ := twoS_rep e rx ry
    refine .inl ⟨rfl, ?_⟩
    have z : decide (V.str a = V.str b) = decide (a = b) := by
      by_cases q : a = b
      · subst q; simp
      · simp [q]
    rw [z]
    exact h.now (.bl _) s
  · split at h
    · rename_i a b e1 e2
      split at h
      · rename_i hs
        exact .inr ⟨a, b, deref_dp e1 rx s, deref_dp e2 ry s, hs.1, hs.2, h.now (.bl _) s⟩
      · exact h.elim
    · exact h.elim
theorem d_ne {G : Cg} : Op2 G oNe (fun x y H Q => rNe x y H Q ∨ rNeD G.K x y H Q) := by
  intro p st x y v u Q E rx ry s h
  unfold oNe at h
  split at h
  · rename_i a b e
    obtain ⟨rfl, rfl⟩ := twoS_rep e rx ry
    refine .inl ⟨rfl, ?_⟩
    have z : decide (V.str a = V.str b) = decide (a = b) := by
      by_cases q : a = b
      · subst q; simp
      · simp [q]
    rw [z]
    exact h.now (.bl _) s
  · split at h
    · rename_i a b e1 e2
      split at h
      · rename_i hs
        exact .inr ⟨a, b, deref_dp e1 rx s, deref_dp e2 ry s, hs.1, hs.2, h.now (.bl _) s⟩
      · exact h.elim
    · exact h.elim
/-- ints in a row -/
def toInts : List D → Option (List Int)
  | [] => some []
  | .int i :: r => (toInts r).map (i :: ·)
  | _ => none
theorem toInts_rep {K p} : ∀ {ds : List D} {vs : List V} {ns : List Int}, toInts ds = some ns → Reps K p ds vs → vs = ns.map V.int
  | [], _, ns, h, .nil => by simp only [toInts] at h; cases h; rfl
  | .int i :: ds, _, ns, h, .cons r rr => by
    simp only [toInts] at h
    cases q : toInts ds with
    | none => rw [q] at h; cases h
    | some ms => rw [q] at h; cases h; cases r; rw [toInts_rep q rr]; rfl
  | .non :: _, _, _, h, _ => by simp [toInts] at h
  | .bl _ :: _, _, _, h, _ => by simp [toInts] at h
  | .str _ :: _, _, _, h, _ => by simp [toInts] at h
  | .raw _ :: _, _, _, h, _ => by simp [toInts] at h
  | .tup _ :: _, _, _, h, _ => by simp [toInts] at h
  | .lst _ :: _, _, _, h, _ => by simp [toInts] at h
  | .fls _ :: _, _, _, h, _ => by simp [toInts] at h
  | .dic _ _ :: _, _, _, h, _ => by simp [toInts] at h
  | .ptr _ :: _, _, _, h, _ => by simp [toInts] at h
def oLt : D → D → Sto → Out D
  | .int i, .int j, st => .ok (.bl (decide (i < j))) st
  | .tup xs, .tup ys, st => match toInts xs, toInts ys with
    | some ns, some ms => .ok (.bl (HT.lexLt ns ms)) st
    | _, _ => .bad
  | .str x, .str y, st => .ok (.bl (decide (x.cps.toList < y.cps.toList))) st
  | _, _, _ => .bad
abbrev rLtAll (K : Frag) : R2 := fun x y H Q => (rI0 fun i j => .bl (decide (i < j))) x y H Q ∨ (rLtT K x y H Q ∨ (∃ i j, x = .str i ∧ y = .str j ∧ Q (.bl (decide (i.cps.toList < j.cps.toList))) H))
theorem op_ltAll (hu : X.A.units < cLine) : OpR X (compareOp .Lt) (rLtAll X.K) := op_lt.or ((op_ltT hu).or op_lt_str)
theorem d_lt {G : Cg} : Op2 G oLt (rLtAll G.K) := by
  intro p st x y v u Q E rx ry s h
  unfold oLt at h
  split at h
  · cases rx; cases ry
    exact .inl ⟨_, _, rfl, rfl, h.now (.bl _) s⟩
  · cases rx with
    | tup e1 r1 =>
      cases ry with
      | tup e2 r2 =>
        split at h
        · rename_i ns ms q1 q2
          have z1 := toInts_rep q1 r1
          have z2 := toInts_rep q2 r2
          subst z1; subst z2
          exact .inr (.inl ⟨_, _, ns, ms, rfl, rfl, e1.sq, e2.sq, h.now (.bl _) s⟩)
        · exact h.elim
  · cases rx; cases ry
    exact .inr (.inr ⟨_, _, rfl, rfl, h.now (.bl _) s⟩)
  · exact h.elim
def oCmp (f : Int → Int → Bool) : D → D → Sto → Out D
  | .int i, .int j, st => .ok (.bl (f i j)) st
  | _, _, _ => .bad
theorem d_cmp {G : Cg} {f : Int → Int → Bool} : Op2 G (oCmp f) (rI0 fun i j => .bl (f i j)) := by
  intro p st x y v u Q E rx ry s h
  unfold oCmp at h
  split at h
  · cases rx; cases ry
    exact ⟨_, _, rfl, rfl, h.now (.bl _) s⟩
  · exact h.elim
abbrev oLe := oCmp fun i j => decide (i ≤ j)
abbrev oGt := oCmp fun i j => decide (j < i)
abbrev oGe := oCmp fun i j => decide (j ≤ i)
/-- is, is not: of None, of bools -/
def isNon : D → Bool
  | .non => true
  | _ => false
def oIs : D → D → Sto → Out D
  | .bl a, .bl b, st => .ok (.bl (decide (a = b))) st
  | .raw _, _, _ => .bad
  | d, .non, st => .ok (.bl (isNon d)) st
  | _, _, _ => .bad
def oIsNot : D → D → Sto → Out D
  | .bl a, .bl b, st => .ok (.bl (!decide (a = b))) st
  | .raw _, _, _ => .bad
  | d, .non, st => .ok (.bl (!isNon d)) st
  | _, _, _ => .bad
theorem isNon_rep {K p d v} (r : Rep K p d v) (hr : ∀ u, d ≠ .raw u) : decide (v = .non) = isNon d := by
  cases r <;> first | rfl | exact absurd rfl (hr _)
abbrev rIsAll : R2 := fun x y H Q => rIsB x y H Q ∨ (y = .non ∧ Q (.bl (decide (x = .non))) H)
abbrev rIsNotAll : R2 := fun x y H Q => rNotB x y H Q ∨ (y = .non ∧ Q (.bl (!decide (x = .non))) H)
theorem op_isAll : OpR X (compareOp .Is) rIsAll := op_isBl.or op_isN
theorem op_isNotAll : OpR X (compareOp .IsNot) rIsNotAll := op_notBl.or op_notN
theorem d_is {G : Cg} : Op2 G oIs rIsAll := by
  intro p st x y v u Q E rx ry s h
  unfold oIs at h
  split at h
  · cases rx; cases ry
    exact .inl ⟨_, _, rfl, rfl, h.now (.bl _) s⟩
  · exact h.elim
  · rename_i hr
    cases ry
    refine .inr ⟨rfl, ?_⟩
    rw [isNon_rep rx (fun u z => hr u z)]
    exact h.now (.bl _) s
  · exact h.elim
theorem d_isNot {G : Cg} : Op2 G oIsNot rIsNotAll := by
  intro p st x y v u Q E rx ry s h
  unfold oIsNot at h
  split at h
  · cases rx; cases ry
    exact .inl ⟨_, _, rfl, rfl, h.now (.bl _) s⟩
  · exact h.elim
  · rename_i hr
    cases ry
    refine .inr ⟨rfl, ?_⟩
    rw [isNon_rep rx (fun u z => hr u z)]
    exact h.now (.bl _) s
  · exact h.elim
section
variable {X : Cx} {W : WG} {k : Nat} {pos : Pos} {a b c e : Expr} {φ φa φb φc : Den}
theorem Ok.u64 (o : Ok X W k) : X.A.units + 64 < cLine := o.room.units
theorem Ok.u1 (o : Ok X W k) : X.A.units + 1 < cLine := by have := o.u64; omega
theorem Ok.u0 (o : Ok X W k) : X.A.units < cLine := by have := o.u64; omega
theorem pev_eq (o : Ok X W k) (ha : PEv X W a φa) (hb : PEv X W b φb) : PEv X W (.Compare a [.Eq] [b] pos) (dOp2 oEq φa φb) := pev_cmp (op_eq.or (op_eqD o.u64)) d_eq ha hb (nomark _)
theorem pev_ne (o : Ok X W k) (ha : PEv X W a φa) (hb : PEv X W b φb) : PEv X W (.Compare a [.NotEq] [b] pos) (dOp2 oNe φa φb) := pev_cmp (op_ne.or (op_neD o.u64)) d_ne ha hb (nomark _)
theorem pev_lt (o : Ok X W k) (ha : PEv X W a φa) (hb : PEv X W b φb) : PEv X W (.Compare a [.Lt] [b] pos) (dOp2 oLt φa φb) := pev_cmp (op_ltAll o.u0) d_lt ha hb (nomark _)
theorem pev_le (ha : PEv X W a φa) (hb : PEv X W b φb) : PEv X W (.Compare a [.LtE] [b] pos) (dOp2 oLe φa φb) := pev_cmp op_le d_cmp ha hb (nomark _)
theorem pev_gt (ha : PEv X W a φa) (hb : PEv X W b φb) : PEv X W (.Compare a [.Gt] [b] pos) (dOp2 oGt φa φb) := pev_cmp op_gt d_cmp ha hb (nomark _)
theorem pev_ge (ha : PEv X W a φa) (hb : PEv X W b φb) : PEv X W (.Compare a [.GtE] [b] pos) (dOp2 oGe φa φb) := pev_cmp op_ge d_cmp ha hb (nomark _)
theorem pev_is (ha : PEv X W a φa) (hb : PEv X W b φb) : PEv X W (.Compare a [.Is] [b] pos) (dOp2 oIs φa φb) := pev_cmp op_isAll d_is ha hb (nomark _)
theorem pev_isnot (ha : PEv X W a φa) (hb : PEv X W b φb) : PEv X W (.Compare a [.IsNot] [b] pos) (dOp2 oIsNot φa φb) := pev_cmp op_isNotAll d_isNot ha hb (nomark _)
theorem ptv_eq (o : Ok X W k) (ha : PEv X W a φa) (hb : PEv X W b φb) : PTv X W (.Compare a [.Eq] [b] pos) (dTst (dOp2 oEq φa φb)) := ptv_cmp (op_eq.or (op_eqD o.u64)) d_eq ha hb (nomark _)
theorem ptv_ne (o : Ok X W k) (ha : PEv X W a φa) (hb : PEv X W b φb) : PTv X W (.Compare a [.NotEq] [b] pos) (dTst (dOp2 oNe φa φb)) := ptv_cmp (op_ne.or (op_neD o.u64)) d_ne ha hb (nomark _)
theorem ptv_lt (o : Ok X W k) (ha : PEv X W a φa) (hb : PEv X W b φb) : PTv X W (.Compare a [.Lt] [b] pos) (dTst (dOp2 oLt φa φb)) := ptv_cmp (op_ltAll o.u0) d_lt ha hb (nomark _)
theorem ptv_le (ha : PEv X W a φa) (hb : PEv X W b φb) : PTv X W (.Compare a [.LtE] [b] pos) (dTst (dOp2 oLe φa φb)) := ptv_cmp op_le d_cmp ha hb (nomark _)
theorem ptv_gt (ha : PEv X W a φa) (hb : PEv X W b φb) : PTv X W (.Compare a [.Gt] [b] pos) (dTst (dOp2 oGt φa φb)) := ptv_cmp op_gt d_cmp ha hb (nomark _)
theorem ptv_ge (ha : PEv X W a φa) (hb : PEv X W b φb) : PTv X W (.Compare a [.GtE] [b] pos) (dTst (dOp2 oGe φa φb)) := ptv_cmp op_ge d_cmp ha hb (nomark _)
theorem ptv_is (ha : PEv X W a φa) (hb : PEv X W b φb) : PTv X W (.Compare a [.Is] [b] pos) (dTst (dOp2 oIs φa φb)) := ptv_cmp op_isAll d_is ha hb (nomark _)
theorem ptv_isnot (ha : PEv X W a φa) (hb : PEv X W b φb) : PTv X W (.Compare a [.IsNot] [b] pos) (dTst (dOp2 oIsNot φa φb)) := ptv_cmp op_isNotAll d_isNot ha hb (nomark _)
/-- a op b op' c -/
def dChain (f g : D → D → Sto → Out D) (φa φb φc : Den) : Den := fun env st => (φa env st).bind fun x st => (φb env st).bind fun y st => (f x y st).bind fun z st => match z with
  | .bl true => (φc env st).bind fun w st => g y w st
  | .bl false => .ok (.bl false) st
  | _ => .bad
theorem tChain_of {r r' : R2} {f g : D → D → Sto → Out D} (hf : Op2 (Cx.g X) f r) (hg : Op2 (Cx.g X) g r') (σ : St) (Q : VK) (p : Pt) (env : En) (st : Sto) (hE : RepE X.K W p env σ) (hS : RepS X.K p st) (h : Aft (Rep X.K) (Cx.g X) p (dChain f g φa φb φc env st) Q (wAt W σ)) :
    tChain r r' (tD (Cx.g X) W φa) (tD (Cx.g X) W φb) (tD (Cx.g X) W φc) σ p.H Q := by
  refine (tD.run hE hS h).mono fun x H1 ⟨p1, d, st1, z1, e1, r1, s1, h1⟩ => ?_
  subst z1
  refine (tD.run (hE.mono e1) s1 h1).mono fun y H2 ⟨p2, d2, st2, z2, e2, r2, s2, h2⟩ => ?_
  subst z2
  refine hf _ _ _ _ _ _ _ _ (r1.mono e2) r2 s2 ((Aft.bind (R := Rep X.K) h2).mono fun z H3 ⟨p3, d3, st3, z3, e3, r3, s3, h3⟩ => ?_)
  subst z3
  cases d3 <;> first | exact h3.elim | skip
  rename_i t
  cases r3
  refine ⟨t, rfl, ?_⟩
  cases t with
  | false => exact h3.now (.bl false) s3
  | true =>
    refine (tD.run (((hE.mono e1).mono e2).mono e3) s3 h3).mono fun w H4 ⟨p4, d4, st4, z4, e4, r4, s4, h4⟩ => ?_
    subst z4
    exact hg _ _ _ _ _ _ _ _ ((r2.mono e3).mono e4) r4 s4 h4
theorem pev_chain {op op' : CmpOp} {r r' : R2} {f g : D → D → Sto → Out D} (ho : OpR X (compareOp op) r) (hf : Op2 (Cx.g X) f r) (ho' : OpR X (compareOp op') r') (hg : Op2 (Cx.g X) g r') (ha : PEv X W a φa) (hb : PEv X W b φb) (hc : PEv X W c φc)
    (hm : lastMarks [op, op'] [b, c] = false := by with_unfolding_all rfl) : PEv X W (.Compare a [op, op'] [b, c] pos) (dChain f g φa φb φc) :=
  pev_of (pe_chain ho ho' ha hb hc hm) (tChain_of hf hg)
theorem ptv_chain {op op' : CmpOp} {r r' : R2} {f g : D → D → Sto → Out D} (ho : OpR X (compareOp op) r) (hf : Op2 (Cx.g X) f r) (ho' : OpR X (compareOp op') r') (hg : Op2 (Cx.g X) g r') (ha : PEv X W a φa) (hb : PEv X W b φb) (hc : PEv X W c φc)
    (hm : lastMarks [op, op'] [b, c] = false := by with_unfolding_all rfl) : PTv X W (.Compare a [op, op'] [b, c] pos) (dTst (dChain f g φa φb φc)) :=
  ptv_of (pt_chain ho ho' ha hb hc hm) fun σ Q p env st hE hS h => tTest_of σ Q p env st hE hS (fun Q' q => tChain_of hf hg σ Q' p env st hE hS q) h

/-! ### items -/
def oIx : D → D → Sto → Out D
  | .tup ds, .int i, st => match atI ds i with
    | some d => .ok d st
    | none => .bad
  | .lst ds, .int i, st => match atI ds i with
    | some d => .ok d st
    | none => .bad
  | .fls ds, .int i, st => match atI ds i with
    | some d => .ok d st
    | none => .bad
  | .dic ks ds, y, st => match dKey y with
    | some k => (match valD ks ds k with
      | some d => .ok d st
      | none => .bad)
    | none => .bad
  | .ptr n, y, st => match st[n]? with
    | some (.lst ds) => (match y with
      | .int i => (match atI ds i with
        | some d => .ok d st
        | none => .bad)
      | _ => .bad)
    | some (.dic ks ds) => (match dKey y with
      | some k => (match valD ks ds k with
        | some d => .ok d st
        | none => .bad)
      | none => .bad)
    | none => .bad
  | .str z, .int i, st => if z.length ≤ sizeLine then (match atI z.cps.toList i with
    | some c => .ok (.str ⟨#[c]⟩) st
    | none => .bad) else .bad
  | _, _, _ => .bad
abbrev rIxD : R2 := fun x y H Q => ∃ a v, x = .ref a ∧ DGet H a y (some v) ∧ Q v H
theorem ix_dict (hu : X.A.units + 1 < cLine) : IxR X rIxD := by
  intro value slice pins s σ H x y v u Q I rx ry h hs
  obtain ⟨a, z, rfl, g, q⟩ := h
  cases rx
  have hT := dict_typeIs I g
  unfold subscriptTail
  refine wpAny_bind ?_
  rw [getitemInPython_of_ne hT.not_modules]
  refine wpAny_bind (wpAny_specialOf hT PySem.F.slot_dict_getitem.lookup ?_)
  have fin : wpAny (model X.prog X.w) X.A (subscripted slice false (.ref a) u) (fun r s₃ => wpAny (model X.prog X.w) X.A (letTemporaryGo value (.ref a) r >>= fun _ => pure r) (EP X pins σ Q) X.xe s₃) X.xe s := by
    rw [hs]
    exact wpAny_operating (d_getItem hu I g ry fun w' s3 I3 rw' => wpAny_bind (wpAny_letTemporaryGo (wpAny_pure ⟨z, H, I3, rw', q⟩)))
  first
    | exact wpAny_pure (wpAny_bind fin)
    | exact wpAny_bind (wpAny_pure (wpAny_bind fin))
    | exact wpAny_bind fin
abbrev rIxAll (K : Frag) : R2 := fun x y H Q => rIx K x y H Q ∨ rIxD x y H Q
theorem ix_all (hu : X.A.units + 1 < cLine) : IxR X (rIxAll X.K) := ix_seq.or (ix_dict hu)
theorem atI_rep {K p} {ds : List D} {vs : List V} {i : Int} {d : D} (h : atI ds i = some d) (r : Reps K p ds vs) : ∃ v, atI vs i = some v ∧ Rep K p d v := by
  unfold atI at h ⊢
  rw [← r.length]
  cases q : ixN ds.length i with
  | none => rw [q] at h; cases h
  | some j => rw [q] at h; exact r.get h
theorem d_ix {G : Cg} : Op2 G oIx (rIxAll G.K) := by
  intro p st x y v u Q E rx ry s h
  unfold oIx at h
  split at h
  · split at h
    · rename_i ha
      cases ry
      cases rx with
      | tup e1 r1 =>
        obtain ⟨w, hw, rw'⟩ := atI_rep ha r1
        exact .inl (.inr (.inl ⟨_, _, _, w, rfl, rfl, e1.sq, hw, h.now rw' s⟩))
    · exact h.elim
  · split at h
    · rename_i ha
      cases ry
      cases rx with
      | lst e1 n1 r1 =>
        obtain ⟨w, hw, rw'⟩ := atI_rep ha r1
        exact .inl (.inl ⟨_, _, _, w, rfl, rfl, SqL.of (p.sub _ _ e1), hw, h.now rw' s⟩)
    · exact h.elim
  · split at h
    · rename_i ha
      cases ry
      cases rx with
      | fls e1 r1 =>
        obtain ⟨w, hw, rw'⟩ := atI_rep ha r1
        exact .inl (.inl ⟨_, _, _, w, rfl, rfl, e1.sq, hw, h.now rw' s⟩)
    · exact h.elim
  · split at h
    · rename_i k hk
      split at h
      · rename_i d hd
        cases rx with
        | dic e1 n1 l1 r1 =>
          obtain ⟨w, hw, rw'⟩ := (valD_rep l1 r1).1 d hd
          have hy := dKey_rep hk ry
          subst hy
          refine .inr ⟨_, w, rfl, ?_, h.now rw' s⟩
          rw [← hw]
          exact DGet.k (p.sub _ _ e1)
      · exact h.elim
    · exact h.elim
  · cases rx with
    | @ptr _ a hn =>
      split at h
      · rename_i ds e
        obtain ⟨vs, h1, h2⟩ := s.at_ _ _ a e hn
        split at h
        · split at h
          · rename_i ha
            cases ry
            obtain ⟨w, hw, rw'⟩ := atI_rep ha h2
            exact .inl (.inl ⟨_, _, _, w, rfl, rfl, SqL.of (p.sub _ _ h1), hw, h.now rw' s⟩)
          · exact h.elim
        · exact h.elim
      · rename_i ks ds e
        obtain ⟨vs, h1, h0, h2⟩ := s.at_ _ _ a e hn
        split at h
        · rename_i k hk
          split at h
          · rename_i d hd
            obtain ⟨w, hw, rw'⟩ := (valD_rep h0 h2).1 d hd
            have hy := dKey_rep hk ry
            subst hy
            refine .inr ⟨_, w, rfl, ?_, h.now rw' s⟩
            rw [← hw]
            exact DGet.k (p.sub _ _ h1)
          · exact h.elim
        · exact h.elim
      · exact h.elim
  · split at h
    · rename_i hl
      split at h
      · rename_i ha
        cases rx; cases ry
        exact .inl (.inr (.inr ⟨_, _, _, rfl, rfl, hl, ha, h.now (.str _) s⟩))
      · exact h.elim
    · exact h.elim
  · exact h.elim
theorem pev_sub_ (o : Ok X W k) (ha : PEv X W a φa) (hb : PEv X W b φb) (hs : PlainIx b := by intro _ _; rfl) : PEv X W (.Subscript a b pos) (dOp2 oIx φa φb) := pev_ix (ix_all o.u1) d_ix ha hb hs

/-! ### stores -/
def oSet : D → D → D → Sto → Option Sto
  | .ptr n, y, d, st => match st[n]? with
    | some (.lst ds) => (match y with
      | .int i => (ixN ds.length i).map fun j => st.set n (.lst (ds.set j d))
      | _ => none)
    | some (.dic ks ds) => (match dKey y with
      | some k => if ks.length < sizeLine then some (st.set n (.dic (putKs ks k) (putDs ks ds k d))) else none
      | none => none)
    | none => none
  | _, _, _, _ => none
abbrev rSetAll : V → V → V → Hp → (Hp → Prop) → Prop := fun o i v H Q => rSetL o i v H Q ∨ ∃ a H', o = .ref a ∧ DPut H a i v H' ∧ Q H'
theorem set_all (hu : X.A.units + 1 < cLine) : PSet X rSetAll := by
  intro pins s σ H o i v ov iv u Q I ro ri rv h
  rcases h with h | ⟨a, H', rfl, g, q⟩
  · exact set_list pins s σ H o i v ov iv u Q I ro ri rv h
  · cases ro
    exact d_setItem hu I g ri rv fun s' I' => ⟨H', I', q⟩
def sStore (φo φi φv : Den) : DenS := fun env st => (φv env st).to env fun d st => (φo env st).to env fun o st => (φi env st).to env fun i st => (oSet o i d st).map fun st => (.nx env, st)
theorem zip_len {α β γ : Type} {ks : List α} {vs : List β} {ds : List γ} (h : ks.length = ds.length) (h2 : ds.length = vs.length) : (ks.zip vs).length = ks.length := by rw [List.length_zip]; omega
theorem psv_store (o : Ok X W k) {ob ix value : Expr} {φo φi φv : Den} {pos' : Pos} (ho : PEv X W ob φo) (hi : PEv X W ix φi) (hv : PEv X W value φv) (hs : swapsWithSole [.Subscript ob ix pos'] value pos.line X.env = pure false := by rfl) (hw : swappedStores [.Subscript ob ix pos'] value X.env = pure none := by rfl)
    (h1 : (assignEach [.Subscript ob ix pos'] X.env).map (·.2) = [assign (.Subscript ob ix pos') X.env] := by rfl)
    (ha : ∀ v, assign (.Subscript ob ix pos') X.env v = (do
      let ov ← holding [v] (eval ob X.env)
      let iv ← holding [v, ov] (eval ix X.env)
      standAt pos'
      holding [v, ov, iv] (setItem ov iv v)
      release [v, ov, iv] []) := by intro _; rfl) : PSv X W (.Assign [.Subscript ob ix pos'] value pos) (sStore φo φi φv) :=
  psv_of (ps_asg hv (pg_sub ho hi (set_all o.u1) ha) hs hw h1) fun Z σ p env st hE hS h => by
    refine (tD.to hE hS h).mono fun v H1 ⟨p1, d, st1, z1, e1, r1, s1, h1⟩ => ?_
    subst z1
    refine (tD.to (hE.mono e1) s1 h1).mono fun x H2 ⟨p2, d2, st2, z2, e2, r2, s2, h2⟩ => ?_
    subst z2
    refine (tD.to ((hE.mono e1).mono e2) s2 h2).mono fun y H3 ⟨p3, d3, st3, z3, e3, r3, s3, h3⟩ => ?_
    subst z3
    have rd := (r1.mono e2).mono e3
    have ro := r2.mono e3
    have hE3 := ((hE.mono e1).mono e2).mono e3
    cases q : oSet d2 d3 d st3 with
    | none => rw [q] at h3; exact h3.elim
    | some st4 =>
      rw [q] at h3
      have h3 : AftS (Cx.g X) W p3 (some (.nx env, st4)) Z := h3
      unfold oSet at q
      split at q
      · cases ro with
        | @ptr n a hn =>
          have ha : a ∈ p3.rho := List.mem_of_getElem? hn
          split at q
          · rename_i ds e
            obtain ⟨vs, g1, g2⟩ := s3.at_ _ _ a e hn
            split at q
            · rename_i i
              cases r3
              cases qi : ixN ds.length i with
              | none => rw [qi] at q; cases q
              | some j =>
                rw [qi] at q
                cases q
                refine .inl ⟨a, vs, i, j, rfl, rfl, p3.sub _ _ g1, by rw [← g2.length]; exact qi, ?_⟩
                have ew : Ext p3 (p3.wr a (.lst (vs.set j v)) (.inl ⟨_, g1⟩)) := Ext.wr ha
                exact h3 _ (.nx σ) ew.mo (hE3.mono ew).base (.nx (hE3.mono ew)) (s3.wr hn ⟨_, upd_same, (g2.set rd j).mono ew⟩)
            · cases q
          · rename_i ks ds e
            obtain ⟨vs, g1, g0, g2⟩ := s3.at_ _ _ a e hn
            split at q
            · rename_i kk hk
              split at q
              · rename_i hl
                cases q
                have hy := dKey_rep hk r3
                subst hy
                obtain ⟨ws, w1, w2, w3⟩ := putDs_rep (k := kk) rd g0 g2
                refine .inr ⟨a, _, rfl, DPut.k (p3.sub _ _ g1) (by rw [zip_len g0 g2.length]; exact hl), ?_⟩
                have ew : Ext p3 (p3.wr a (.dK (putK (ks.zip vs) kk v)) (.inr ⟨_, g1⟩)) := Ext.wr ha
                exact h3 _ (.nx σ) ew.mo (hE3.mono ew).base (.nx (hE3.mono ew)) (s3.wr hn ⟨ws, by rw [← w2]; exact upd_same, w3, w1.mono ew⟩)
              · cases q
            · cases q
          · cases q
      · cases q
end
end DL

/-! DL: built-in functions, dict displays, isinstance. -/
namespace DL
open PySem PySem.Spec L2
open PyProof.Rows hiding St
set_option autoImplicit true
section
variable {X : Cx} {W : WG} {k : Nat} {pos : Pos} {a b c e : Expr} {es : List Expr} {φ φa φb φc : Den} {φs : List Den} {p0 : Pos}
def bAbs : List D → Sto → Out D
  | [.int i], st => .ok (.int (if i < 0 then -i else i)) st
  | _, _ => .bad
theorem reps1 {K p d vs} (r : Reps K p [d] vs) : ∃ v, vs = [v] ∧ Rep K p d v := by
  cases r with
  | cons r rr => cases rr; exact ⟨_, rfl, r⟩
theorem reps2 {K p d d' vs} (r : Reps K p [d, d'] vs) : ∃ v v', vs = [v, v'] ∧ Rep K p d v ∧ Rep K p d' v' := by
  cases r with
  | cons r rr => obtain ⟨v', rfl, r'⟩ := reps1 rr; exact ⟨_, _, rfl, r, r'⟩
theorem pev_abs (hm : X.mg "abs" = none) (ha : PAv X W (e :: es) φs) (hg : Gl X "abs" := by rfl)
    (he : starEach (e :: es) X.env = (false, eval e X.env) :: starEach es X.env := by rfl) (hpl : (backTo pos (starEach es X.env)).any (·.1) = false := by rfl) : PEv X W (.Call (.Name "abs" p0) (e :: es) [] pos) (dCall bAbs φs) :=
  pev_callB call_abs (fun p st xs vs Q E r s h => by
    unfold bAbs at h
    split at h
    · obtain ⟨v, rfl, r'⟩ := reps1 r
      cases r'
      exact ⟨_, rfl, h.now (.int _) s⟩
    · exact h.elim) hm boot_abs ha hg (by decide) (by decide) he hpl
def bInt : List D → Sto → Out D
  | [.int i], st => .ok (.int i) st
  | [.bl b], st => .ok (.int (if b then 1 else 0)) st
  | _, _ => .bad
theorem pev_intc (hm : X.mg "int" = none) (ha : PAv X W (e :: es) φs) (hg : Gl X "int" := by rfl)
    (he : starEach (e :: es) X.env = (false, eval e X.env) :: starEach es X.env := by rfl) (hpl : (backTo pos (starEach es X.env)).any (·.1) = false := by rfl) : PEv X W (.Call (.Name "int" p0) (e :: es) [] pos) (dCall bInt φs) :=
  pev_callTy call_int1 (fun p st xs vs Q E r s h => by
    unfold bInt at h
    split at h
    · obtain ⟨v, rfl, r'⟩ := reps1 r
      cases r'
      exact .inl ⟨_, rfl, h.now (.int _) s⟩
    · obtain ⟨v, rfl, r'⟩ := reps1 r
      cases r'
      exact .inr ⟨_, rfl, h.now (.int _) s⟩
    · exact h.elim) hm PyProof.Rows.boot_int ha hg (by decide) (by decide) he hpl
def lenD : D → Sto → Option Nat
  | .str y, _ => if y.length ≤ sizeLine then some y.length else none
  | .tup ds, _ => some ds.length
  | .dic ks _, _ => some ks.length
  | .lst ds, _ => some ds.length
  | .fls ds, _ => some ds.length
  | .ptr n, st => match st[n]? with
    | some (.lst ds) => some ds.length
    | some (.dic ks _) => some ks.length
    | _ => none
  | _, _ => none
def bLen : List D → Sto → Out D
  | [d], st => match lenD d st with
    | some n => .ok (.int n) st
    | none => .bad
  | _, _ => .bad
theorem call_lenAll : CallR X (.builtin "len") (fun xs H Q => (∃ x n, xs = [x] ∧ LenV X.K x H n ∧ Q (.int n) H) ∨ (∃ a kvs, xs = [.ref a] ∧ H a = some (.dK kvs) ∧ Q (.int kvs.length) H)) := call_len.or (by
  intro pins s σ H xs us Q I r h
  obtain ⟨a, kvs, rfl, e, q⟩ := h
  obtain ⟨u, rfl, ru⟩ := Vals.one r
  cases ru
  exact d_len I (.inl e) fun t s' I' => ⟨.int _, H, I', ⟨_, rfl⟩, q⟩)
theorem pev_len (hm : X.mg "len" = none) (ha : PAv X W (e :: es) φs) (hg : Gl X "len" := by rfl)
    (he : starEach (e :: es) X.env = (false, eval e X.env) :: starEach es X.env := by rfl) (hpl : (backTo pos (starEach es X.env)).any (·.1) = false := by rfl) : PEv X W (.Call (.Name "len" p0) (e :: es) [] pos) (dCall bLen φs) :=
  pev_callB call_lenAll (fun p st xs vs Q E r s h => by
    unfold bLen at h
    split at h
    · obtain ⟨v, rfl, r'⟩ := reps1 r
      split at h
      · rename_i n hn
        cases r' with
        | str x =>
          simp only [lenD] at hn
          split at hn
          · cases hn; exact .inl ⟨_, _, rfl, ⟨by assumption, rfl⟩, h.now (.int _) s⟩
          · cases hn
        | tup e r2 => simp only [lenD] at hn; cases hn; exact .inl ⟨_, _, rfl, .inr ⟨_, e.sq, r2.length⟩, h.now (.int _) s⟩
        | lst e n r2 => simp only [lenD] at hn; cases hn; exact .inl ⟨_, _, rfl, .inl ⟨_, SqL.of (p.sub _ _ e), r2.length⟩, h.now (.int _) s⟩
        | fls e r2 => simp only [lenD] at hn; cases hn; exact .inl ⟨_, _, rfl, .inl ⟨_, e.sq, r2.length⟩, h.now (.int _) s⟩
        | dic e n l r2 => simp only [lenD] at hn; cases hn; exact .inr ⟨_, _, rfl, p.sub _ _ e, h.now (by rw [zip_len l r2.length]; exact .int _) s⟩
        | @ptr _ a hq =>
          simp only [lenD] at hn
          split at hn
          · rename_i ds q
            cases hn
            obtain ⟨vs, h1, h2⟩ := s.at_ _ _ a q hq
            exact .inl ⟨_, _, rfl, .inl ⟨_, SqL.of (p.sub _ _ h1), h2.length⟩, h.now (.int _) s⟩
          · rename_i ks ds q
            cases hn
            obtain ⟨vs, h1, h0, h2⟩ := s.at_ _ _ a q hq
            exact .inr ⟨_, _, rfl, p.sub _ _ h1, h.now (by rw [zip_len h0 h2.length]; exact .int _) s⟩
          · cases hn
        | _ => simp [lenD] at hn
      · exact h.elim
    · exact h.elim) hm PySem.boot_len ha hg (by decide) (by decide) he hpl
/-- all, any of a list of bools -/
def toBls : List D → Option (List Bool)
  | [] => some []
  | .bl b :: r => (toBls r).map (b :: ·)
  | _ => none
theorem toBls_rep {K : Frag} {p : Pt} : ∀ {ds : List D} {vs : List V} {ns : List Bool}, toBls ds = some ns → Reps K p ds vs → vs = ns.map V.bl
  | [], _, ns, h, r => by simp only [toBls] at h; cases h; cases r; rfl
  | d :: ds, _, ns, h, r => by
    cases d <;> simp only [toBls, reduceCtorEq] at h
    rename_i b
    cases q : toBls ds with
    | none => rw [q] at h; cases h
    | some ms =>
      rw [q] at h; cases h
      cases r with
      | cons r rr => cases r; rw [toBls_rep q rr]; rfl
def bAll : List D → Sto → Out D
  | [d], st => match (view d st).bind toBls with
    | some bs => .ok (.bl (bs.all id)) st
    | none => .bad
  | _, _ => .bad
def bAny : List D → Sto → Out D
  | [d], st => match (view d st).bind toBls with
    | some bs => .ok (.bl (bs.any id)) st
    | none => .bad
  | _, _ => .bad
theorem pev_all (o : Ok X W k) (hm : X.mg "all" = none) (ha : PAv X W (e :: es) φs) (hg : Gl X "all" := by rfl)
    (he : starEach (e :: es) X.env = (false, eval e X.env) :: starEach es X.env := by rfl) (hpl : (backTo pos (starEach es X.env)).any (·.1) = false := by rfl) : PEv X W (.Call (.Name "all" p0) (e :: es) [] pos) (dCall bAll φs) :=
  pev_callB (cr_all o.calm) (fun p st xs vs Q E r s h => by
    unfold bAll at h
    split at h
    · obtain ⟨v, rfl, r'⟩ := reps1 r
      split at h
      · rename_i bs hb
        obtain ⟨ds, q1, q2⟩ := Option.bind_eq_some_iff.mp hb
        obtain ⟨a, ws, rfl, g1, g2⟩ := view_rep q1 r' s
        have z := toBls_rep q2 g2
        subst z
        exact ⟨a, bs, rfl, g1, h.now (.bl _) s⟩
      · exact h.elim
    · exact h.elim) hm PyProof.Rows.boot_all ha hg (by decide) (by decide) he hpl
theorem pev_any (o : Ok X W k) (hm : X.mg "any" = none) (ha : PAv X W (e :: es) φs) (hg : Gl X "any" := by rfl)
    (he : starEach (e :: es) X.env = (false, eval e X.env) :: starEach es X.env := by rfl) (hpl : (backTo pos (starEach es X.env)).any (·.1) = false := by rfl) : PEv X W (.Call (.Name "any" p0) (e :: es) [] pos) (dCall bAny φs) :=
  pev_callB (cr_any o.calm) (fun p st xs vs Q E r s h => by
    unfold bAny at h
    split at h
    · obtain ⟨v, rfl, r'⟩ := reps1 r
      split at h
      · rename_i bs hb
        obtain ⟨ds, q1, q2⟩ := Option.bind_eq_some_iff.mp hb
        obtain ⟨a, ws, rfl, g1, g2⟩ := view_rep q1 r' s
        have z := toBls_rep q2 g2
        subst z
        exact ⟨a, bs, rfl, g1, h.now (.bl _) s⟩
      · exact h.elim
    · exact h.elim) hm PyProof.Rows.boot_any ha hg (by decide) (by decide) he hpl
/-- list(x) of a list or a tuple: the new one is no cell | is one; tuple(x) -/
def seqD : D → Sto → Option (List D)
  | .tup ds, _ => some ds
  | d, st => view d st
theorem seqD_rep {G : Cg} {p : Pt} {st : Sto} {d : D} {v : V} {ds : List D} (h : seqD d st = some ds) (r : Rep G.K p d v) (s : RepS G.K p st) : ∃ a vs, v = .ref a ∧ (SqL G.K p.H a vs ∨ SqT G.K p.H a vs) ∧ Reps G.K p ds vs := by
  cases d with
  | tup es =>
    simp only [seqD] at h
    cases h
    cases r with
    | tup e r => exact ⟨_, _, rfl, .inr e.sq, r⟩
  | _ =>
    simp only [seqD] at h
    obtain ⟨a, vs, rfl, g1, g2⟩ := view_rep h r s
    exact ⟨a, vs, rfl, .inl g1, g2⟩
def bList : List D → Sto → Out D
  | [d], st => match seqD d st with
    | some ds => .ok (.lst ds) st
    | none => .bad
  | _, _ => .bad
def bListP : List D → Sto → Out D
  | [d], st => match seqD d st with
    | some ds => .ok (.ptr st.length) (st ++ [.lst ds])
    | none => .bad
  | _, _ => .bad
theorem pev_list (hm : X.mg "list" = none) (ha : PAv X W (e :: es) φs) (hg : Gl X "list" := by rfl)
    (he : starEach (e :: es) X.env = (false, eval e X.env) :: starEach es X.env := by rfl) (hpl : (backTo pos (starEach es X.env)).any (·.1) = false := by rfl) : PEv X W (.Call (.Name "list" p0) (e :: es) [] pos) (dCall bList φs) :=
  pev_callTy call_list_of (fun p st xs vs Q E r s h => by
    unfold bList at h
    split at h
    · obtain ⟨v, rfl, r'⟩ := reps1 r
      split at h
      · rename_i ds hd
        obtain ⟨a, ws, rfl, g1, g2⟩ := seqD_rep hd r' s
        exact ⟨a, ws, rfl, g1, fun l hl => h (p.laid l _ hl) _ (Ext.laid hl) (.lst upd_same (s.nh hl) (g2.mono (Ext.laid hl))) (s.laid hl)⟩
      · exact h.elim
    · exact h.elim) hm PyProof.Rows.boot_list ha hg (by decide) (by decide) he hpl
theorem pev_listP (hm : X.mg "list" = none) (ha : PAv X W (e :: es) φs) (hg : Gl X "list" := by rfl)
    (he : starEach (e :: es) X.env = (false, eval e X.env) :: starEach es X.env := by rfl) (hpl : (backTo pos (starEach es X.env)).any (·.1) = false := by rfl) : PEv X W (.Call (.Name "list" p0) (e :: es) [] pos) (dCall bListP φs) :=
  pev_callTy call_list_of (fun p st xs vs Q E r s h => by
    unfold bListP at h
    split at h
    · obtain ⟨v, rfl, r'⟩ := reps1 r
      split at h
      · rename_i ds hd
        obtain ⟨a, ws, rfl, g1, g2⟩ := seqD_rep hd r' s
        exact ⟨a, ws, rfl, g1, fun l hl => h (p.cell l _ hl) _ (Ext.cell hl) (.ptr (by show (p.rho ++ [l])[st.length]? = some l; rw [s.len]; simp)) (s.cell hl ⟨ws, upd_same, g2.mono (Ext.cell hl)⟩)⟩
      · exact h.elim
    · exact h.elim) hm PyProof.Rows.boot_list ha hg (by decide) (by decide) he hpl
def bTuple : List D → Sto → Out D
  | [.tup ds], st => .ok (.tup ds) st
  | [d], st => match view d st with
    | some ds => .ok (.tup ds) st
    | none => .bad
  | _, _ => .bad
theorem pev_tuple (hm : X.mg "tuple" = none) (ha : PAv X W (e :: es) φs) (hg : Gl X "tuple" := by rfl)
    (he : starEach (e :: es) X.env = (false, eval e X.env) :: starEach es X.env := by rfl) (hpl : (backTo pos (starEach es X.env)).any (·.1) = false := by rfl) : PEv X W (.Call (.Name "tuple" p0) (e :: es) [] pos) (dCall bTuple φs) :=
  pev_callTy call_tuple_of (fun p st xs vs Q E r s h => by
    unfold bTuple at h
    split at h
    · obtain ⟨v, rfl, r'⟩ := reps1 r
      cases r' with
      | tup e r2 => exact ⟨_, _, rfl, .inr ⟨e.sq, h.now (.tup e r2) s⟩⟩
    · obtain ⟨v, rfl, r'⟩ := reps1 r
      split at h
      · rename_i ds hd
        obtain ⟨a, ws, rfl, g1, g2⟩ := view_rep hd r' s
        exact ⟨a, ws, rfl, .inl ⟨g1, fun l hl => h (p.laid l _ hl) _ (Ext.laid hl) (.tup (.inl ⟨.inl upd_same, s.nh hl⟩) (g2.mono (Ext.laid hl))) (s.laid hl)⟩⟩
      · exact h.elim
    · exact h.elim) hm PyProof.Rows.boot_tuple ha hg (by decide) (by decide) he hpl

/-! ### isinstance with a built-in type -/
inductive Ty where
  | int | bool | tuple | list | dict | str | none
  deriving DecidableEq
def Ty.nm : Ty → String
  | .int => "int" | .bool => "bool" | .tuple => "tuple" | .list => "list" | .dict => "dict" | .str => "str" | .none => "NoneType"
def tyD : D → Sto → Option Ty
  | .non, _ => some .none
  | .bl _, _ => some .bool
  | .int _, _ => some .int
  | .str _, _ => some .str
  | .tup _, _ => some .tuple
  | .lst _, _ => some .list
  | .fls _, _ => some .list
  | .dic _ _, _ => some .dict
  | .ptr n, st => match st[n]? with
    | some (.lst _) => some .list
    | some (.dic _ _) => some .dict
    | _ => Option.none
  | _, _ => Option.none
def isi : Ty → Ty → Bool
  | .bool, .int => true
  | a, b => decide (a = b)
theorem isi_kit (a b : Ty) : kitB a.nm b.nm = some (isi a b) := by
  cases a <;> cases b <;> decide +kernel
theorem tyD_rep {G : Cg} {p : Pt} {st : Sto} {d : D} {v : V} {t : Ty} (h : tyD d st = some t) (r : Rep G.K p d v) (s : RepS G.K p st) : TyX G.K p.H v (.type t.nm) := by
  have seqT : ∀ {a vs}, STup G.K p a vs → TyX G.K p.H (.ref a) (.type "tuple") := by
    intro a vs e
    rcases e with ⟨e | ⟨o, e⟩, _⟩ | ⟨o, its, n, e, c, _⟩
    · exact .base (.tup (p.sub _ _ e))
    · exact .fTuple (p.sub _ _ e)
    · exact .kTuple e c
  have seqL : ∀ {a vs}, SLst G.K p a vs → TyX G.K p.H (.ref a) (.type "list") := by
    intro a vs e
    rcases e with ⟨e | ⟨o, e⟩, _⟩ | ⟨o, its, n, e, c, _⟩
    · exact .base (.lst (p.sub _ _ e))
    · exact .base (.frz (p.sub _ _ e))
    · exact .kList e c
  cases r with
  | non => simp only [tyD] at h; cases h; exact .base .non
  | bl b => simp only [tyD] at h; cases h; exact .base (.bl b)
  | int i => simp only [tyD] at h; cases h; exact .base (.int i)
  | str x => simp only [tyD] at h; cases h; exact .base (.str x)
  | raw v => simp [tyD] at h
  | tup e r => simp only [tyD] at h; cases h; exact seqT e
  | lst e n r => simp only [tyD] at h; cases h; exact .base (.lst (p.sub _ _ e))
  | fls e r => simp only [tyD] at h; cases h; exact seqL e
  | dic e n l r => simp only [tyD] at h; cases h; exact .base (.dK (p.sub _ _ e))
  | @ptr _ a hn =>
    simp only [tyD] at h
    split at h
    · rename_i ds q
      cases h
      obtain ⟨vs, h1, h2⟩ := s.at_ _ _ a q hn
      exact .base (.lst (p.sub _ _ h1))
    · rename_i ks ds q
      cases h
      obtain ⟨vs, h1, h0, h2⟩ := s.at_ _ _ a q hn
      exact .base (.dK (p.sub _ _ h1))
    · cases h
def oIsi (t : Ty) : D → Sto → Out D := fun d st => match tyD d st with
  | some u => .ok (.bl (isi u t)) st
  | Option.none => .bad
theorem pev_isi (t : Ty) {x : Str} {p1 p2 : Pos} (hm : X.mg "isinstance" = none) (hm2 : X.mg x = none) (hb : bootBuiltins x = some (.type t.nm)) (ha : PEv X W e φ) (hg : Gl X "isinstance" := by rfl) (hg2 : Gl X x := by rfl)
    (hn : x ≠ "__name__" := by decide) (hd : (x == ("__debug__" : Str)) = false := by decide)
    (he : starEach [e, .Name x p1] X.env = (false, eval e X.env) :: starEach [.Name x p1] X.env := by rfl) (he2 : starEach [.Name x p1] X.env = (false, eval (.Name x p1) X.env) :: starEach [] X.env := by rfl) (hpl : (backTo pos (starEach [.Name x p1] X.env)).any (·.1) = false := by rfl) :
    PEv X W (.Call (.Name "isinstance" p2) [e, .Name x p1] [] pos) (dOp1 (oIsi t) φ) :=
  pev_of (pe_callB call_isi hg hm PyProof.Rows.boot_isinstance (pa_cons ha (pa_cons (pe_bltn (v := .ty t.nm) hg2 hm2 hb rfl hn hd) pa_nil he2) he) (by decide) (by decide) he hpl) fun σ Q p env st hE hS h => by
    refine (tD.run hE hS h).mono fun v H1 ⟨p1, d, st1, z1, e1, r1, s1, h1⟩ => ?_
    subst z1
    unfold oIsi at h1
    split at h1
    · rename_i u hu
      exact ⟨v, _, _, _, _, rfl, .ty _, tyD_rep hu r1 s1, kit_ty (isi_kit u t), h1.now (.bl _) s1⟩
    · exact h1.elim

/-! ### {k: v, ..} -/
def evP : List (Den × Den) → En → Sto → Out (List (D × D))
  | [], _, st => .ok [] st
  | (φk, φv) :: r, env, st => (φk env st).bind fun x st => (φv env st).bind fun y st => (evP r env st).bind fun ps st => .ok ((x, y) :: ps) st
def RepPs (K : Frag) (p : Pt) : List (D × D) → List (V × V) → Prop := Paired fun x y => Rep K p x.1 y.1 ∧ Rep K p x.2 y.2
theorem RepPs.mono {K p q} (e : Ext p q) : ∀ {xs ys}, RepPs K p xs ys → RepPs K q xs ys
  | _, _, .nil => .nil
  | _, _, .cons a b => .cons ⟨a.1.mono e, a.2.mono e⟩ (RepPs.mono e b)
theorem tPairs_of {σ : St} : ∀ (φs : List (Den × Den)) {p : Pt} {env : En} {st : Sto} {Q : List (V × V) → Hp → Prop}, RepE X.K W p env σ → RepS X.K p st → Aft (RepPs X.K) (Cx.g X) p (evP φs env st) Q (wAt W σ) →
    tPairs (φs.map fun x => (tD (Cx.g X) W x.1, tD (Cx.g X) W x.2)) σ p.H Q
  | [], p, env, st, Q, hE, hS, h => h.now .nil hS
  | (φk, φv) :: r, p, env, st, Q, hE, hS, h => by
    refine (tD.run hE hS h).mono fun x H1 ⟨p1, d, st1, z1, e1, r1, s1, h1⟩ => ?_
    subst z1
    refine (tD.run (hE.mono e1) s1 h1).mono fun y H2 ⟨p2, d2, st2, z2, e2, r2, s2, h2⟩ => ?_
    subst z2
    refine tPairs_of r ((hE.mono e1).mono e2) s2 ((Aft.bind (R := RepPs X.K) h2).mono fun ps H3 ⟨p3, d3, st3, z3, e3, r3, s3, h3⟩ => ?_)
    subst z3
    exact h3.now (.cons ⟨(r1.mono e2).mono e3, r2.mono e3⟩ r3) s3
def mkDic : List (D × D) → List Key → List D → Option (List Key × List D)
  | [], ks, ds => some (ks, ds)
  | (x, y) :: r, ks, ds => match dKey x with
    | some k => mkDic r (putKs ks k) (putDs ks ds k y)
    | none => none
theorem mkDic_rep {K p} : ∀ {xs : List (D × D)} {ys : List (V × V)} {ks ks' : List Key} {ds ds' : List D} {vs : List V}, mkDic xs ks ds = some (ks', ds') → RepPs K p xs ys → ks.length = ds.length → Reps K p ds vs →
    ∃ kvs ws, ys = kvs.map (fun kv => (kV kv.1, kv.2)) ∧ kvs.length = xs.length ∧ mergeK (ks.zip vs) kvs = ks'.zip ws ∧ ks'.length = ds'.length ∧ Reps K p ds' ws
  | [], _, ks, ks', ds, ds', vs, h, .nil, hl, r => by simp only [mkDic] at h; cases h; exact ⟨[], vs, rfl, rfl, rfl, hl, r⟩
  | (x, y) :: xs, _, ks, ks', ds, ds', vs, h, .cons (l₂ := ys) (b := b) rr rs, hl, r => by
    simp only [mkDic] at h
    split at h
    · rename_i k hk
      obtain ⟨ws, w1, w2, w3⟩ := putDs_rep (k := k) rr.2 hl r
      obtain ⟨kvs, us, g1, g2, g3, g4, g5⟩ := mkDic_rep h rs w3 w1
      have hb := dKey_rep hk rr.1
      refine ⟨(k, b.2) :: kvs, us, ?_, by simp [g2], ?_, g4, g5⟩
      · rw [List.map_cons, ← g1, ← hb]
      · show mergeK (putK (ks.zip vs) k b.2) kvs = _
        rw [w2]; exact g3
    · cases h
/-- the new dict is a cell -/
def dDicP (φs : List (Den × Den)) : Den := fun env st => (evP φs env st).bind fun ps st => if ps.length ≤ 15 then (match mkDic ps [] [] with
  | some (ks, ds) => .ok (.ptr st.length) (st ++ [.dic ks ds])
  | none => .bad) else .bad
def dDic (φs : List (Den × Den)) : Den := fun env st => (evP φs env st).bind fun ps st => if ps.length ≤ 15 then (match mkDic ps [] [] with
  | some (ks, ds) => .ok (.dic ks ds) st
  | none => .bad) else .bad
def PPv (X : Cx) (W : WG) (pos : Pos) (keys : List (Option Expr)) (values : List Expr) (φs : List (Den × Den)) : Prop := PPs X pos keys values (φs.map fun x => (tD (Cx.g X) W x.1, tD (Cx.g X) W x.2))
theorem ppv_nil : PPv X W pos [] [] [] := pps_nil
theorem ppv_cons {k v : Expr} {ks : List (Option Expr)} {vs : List Expr} {φk φv : Den} {φs : List (Den × Den)} (hk : PEv X W k φk) (hv : PEv X W v φv) (hr : PPv X W pos ks vs φs) : PPv X W pos (some k :: ks) (v :: vs) ((φk, φv) :: φs) := pps_cons hk hv hr
theorem disp_of {σ : St} {p : Pt} {env : En} {st : Sto} {Q : VK} {φs : List (Den × Den)} {fin : List Key → List D → Sto → Out D} (hE : RepE X.K W p env σ) (hS : RepS X.K p st)
    (h : Aft (Rep X.K) (Cx.g X) p ((evP φs env st).bind fun ps st => if ps.length ≤ 15 then (match mkDic ps [] [] with
      | some (ks, ds) => fin ks ds st
      | none => .bad) else .bad) Q (wAt W σ))
    (hfin : ∀ ks ds st p q a vs, Ext p q → p.H a = none → q.V a = none → q.H a = some (.dK (ks.zip vs)) → ks.length = ds.length → Reps X.K q ds vs → RepS X.K q st → Aft (Rep X.K) (Cx.g X) p (fin ks ds st) Q (wAt W σ) → Q (.ref a) q.H) :
    tDisp (φs.map fun x => (tD (Cx.g X) W x.1, tD (Cx.g X) W x.2)) σ p.H Q := by
  intro A hA
  have fA := Pt.free hA
  have e0 : Ext p (p.over A (.dK []) fA (.inl hA)) := Ext.refl.over hA
  refine tPairs_of φs (p := p.over A (.dK []) fA (.inl hA)) (hE.mono e0) hS.over ?_
  cases he : evP φs env st with
  | bad => rw [he] at h; exact h.elim
  | exc x st' =>
    rw [he] at h
    exact fun q cls dd e1 rx s1 => h q cls dd (e0.trans e1) rx s1
  | ok xs st1 =>
    rw [he] at h
    have h : Aft (Rep X.K) (Cx.g X) p (if xs.length ≤ 15 then (match mkDic xs [] [] with
      | some (ks, ds) => fin ks ds st1
      | none => .bad) else .bad) Q (wAt W σ) := h
    intro q ps e1 r1 s1
    obtain ⟨nA, hA1⟩ := e1.unseen (a := A) (o := .dK []) fA upd_same
    split at h
    · rename_i hl
      split at h
      · rename_i ks ds hm
        obtain ⟨kvs, ws, g1, g2, g3, g4, g5⟩ := mkDic_rep hm r1 rfl .nil
        refine ⟨hA1, kvs, g1, by rw [g2]; exact hl, ?_⟩
        have g3 : mergeK [] kvs = ks.zip ws := g3
        rw [g3]
        have e2 : Ext p (q.over A (.dK (ks.zip ws)) nA (.inr (.inr ⟨_, hA1⟩))) := (e0.trans e1).over hA
        exact hfin ks ds st1 p (q.over A (.dK (ks.zip ws)) nA (.inr (.inr ⟨_, hA1⟩))) A ws e2 hA nA upd_same g4 (g5.mo Mo.over) s1.over h
      · exact h.elim
    · exact h.elim
theorem pev_dicP {keys : List (Option Expr)} {values : List Expr} {φs : List (Den × Den)} (h : PPv X W pos keys values φs) (hall : keys.all (·.isSome) = true := by rfl) (hl : keys.length = values.length := by rfl) (h0 : keys ≠ [] := by exact List.cons_ne_nil _ _) (h15 : keys.length ≤ 15 := by decide) :
    PEv X W (.Dict keys values pos) (dDicP φs) :=
  pev_of (pe_disp h hall hl h0 h15) fun σ Q p env st hE hS h =>
    disp_of (fin := fun ks ds st => .ok (.ptr (List.length st)) (st ++ [MO.dic ks ds])) hE hS h fun ks ds st p q a vs e ha na hq hl r s h =>
      h (q.seeC a _ hq) _ (e.seeC na ha) (.ptr (by show (q.rho ++ [a])[st.length]? = some a; rw [s.len]; simp)) (s.seeC na ⟨vs, upd_same, hl, r.mo (Mo.seeC na)⟩)
theorem pev_dic {keys : List (Option Expr)} {values : List Expr} {φs : List (Den × Den)} (h : PPv X W pos keys values φs) (hall : keys.all (·.isSome) = true := by rfl) (hl : keys.length = values.length := by rfl) (h0 : keys ≠ [] := by exact List.cons_ne_nil _ _) (h15 : keys.length ≤ 15 := by decide) :
    PEv X W (.Dict keys values pos) (dDic φs) :=
  pev_of (pe_disp h hall hl h0 h15) fun σ Q p env st hE hS h =>
    disp_of (fin := fun ks ds st => .ok (.dic ks ds) st) hE hS h fun ks ds st p q a vs e ha na hq hl r s h =>
      h (q.see a _ hq) _ (e.see na ha) (.dic upd_same (s.ne na) hl (r.mo (Mo.see na))) (s.see na)
end
end DL

/-! DL: repr, slices, methods of lists, in, min and max, new dicts, sorted, starred displays. -/
namespace DL
open PySem PySem.Spec L2
open PyProof.Rows hiding St
set_option autoImplicit true
section
variable {X : Cx} {W : WG} {k : Nat} {pos : Pos} {a b c e : Expr} {es : List Expr} {φ φa φb φc : Den} {φs : List Den} {p0 : Pos}
/-! ### repr -/
def shwOk (y : PyData) : Bool := y.showable && (!y.hasDict && (decide (y.depth ≤ 60) && decide (y.shown.length ≤ sizeLine)))
def bRepr : List D → Sto → Out D
  | [d], st => match toPy (deref d st) with
    | some y => if shwOk y = true then .ok (.str y.shown) st else .bad
    | none => .bad
  | _, _ => .bad
def rReprD (K : Frag) : List V → Hp → VK → Prop := fun vs H Q => ∃ v y, vs = [v] ∧ Dp K H v y ∧ shwOk y = true ∧ Q (.str y.shown) H
theorem cr_reprD (gd : X.A.guards = some []) (hu : X.A.units + 64 < cLine) : CallR X (.builtin "repr") (rReprD X.K) := by
  intro pins s σ H vs us Q I r h
  obtain ⟨v, y, rfl, hd, hs, q⟩ := h
  obtain ⟨u, rfl, ru⟩ := Vals.one r
  obtain ⟨as, rd⟩ := Dp.reads I y v u hd ru
  obtain ⟨h1, hs⟩ := Bool.and_eq_true_iff.mp hs
  obtain ⟨h2, hs⟩ := Bool.and_eq_true_iff.mp hs
  obtain ⟨h3, h4⟩ := Bool.and_eq_true_iff.mp hs
  have h2 : y.hasDict = false := by simpa using h2
  have h3 := of_decide_eq_true h3
  have h4 := of_decide_eq_true h4
  have big : ∀ a : Addr, u = .ref a → wpAny (model X.prog X.w) X.A (call (.builtin "repr") [u]) (EP X pins σ Q) X.xe s := by
    rintro a rfl
    exact repr_of_reads' rd h1 (PyData.noDict_hsm h2) gd (by omega) (fun _ _ z => z) (fun h' t tk hk => ⟨.str _, H, I.kept hk, ⟨_, rfl⟩, q⟩) h4
  cases hd with
  | non => cases ru; exact PySem.P.repr_of_none ⟨.str _, H, I.tok _, ⟨_, rfl⟩, q⟩
  | bl b => cases ru; exact PySem.P.repr_of_bool ⟨.str _, H, I.tok _, ⟨_, by cases b <;> rfl⟩, q⟩
  | int i =>
    obtain ⟨t, rfl⟩ := ru
    exact PySem.P.repr_of_int (by simpa [PyData.showable] using h1) ⟨.str _, H, I.tok _, ⟨_, rfl⟩, q⟩
  | str x =>
    obtain ⟨t, rfl⟩ := ru
    exact PySem.P.repr_of_str ⟨.str _, H, I.tok _, ⟨_, rfl⟩, q⟩ h4
  | lst s1 s2 => cases ru; exact big _ rfl
  | tup s1 s2 => cases ru; exact big _ rfl
theorem pev_repr (o : Ok X W k) (hm : X.mg "repr" = none) (ha : PAv X W (e :: es) φs) (hg : Gl X "repr" := by rfl)
    (he : starEach (e :: es) X.env = (false, eval e X.env) :: starEach es X.env := by rfl) (hpl : (backTo pos (starEach es X.env)).any (·.1) = false := by rfl) : PEv X W (.Call (.Name "repr" p0) (e :: es) [] pos) (dCall bRepr φs) :=
  pev_callB (cr_reprD o.gd o.u64) (fun p st xs vs Q E r s h => by
    unfold bRepr at h
    split at h
    · obtain ⟨v, rfl, r'⟩ := reps1 r
      split at h
      · rename_i y hy
        split at h
        · rename_i hz
          exact ⟨v, y, rfl, deref_dp hy r' s, hz, h.now (.str _) s⟩
        · exact h.elim
      · exact h.elim
    · exact h.elim) hm PyProof.Rows.boot_repr ha hg (by decide) (by decide) he hpl

/-! ### slices -/
abbrev DenP := En → Sto → Out (Option Int)
abbrev Rqo : Pt → Option Int → Option Int → Prop := fun _ a b => a = b
def dNoP : DenP := fun _ st => .ok none st
def dP (φ : Den) : DenP := fun env st => (φ env st).bind fun d st => match d with
  | .int i => .ok (some i) st
  | _ => .bad
def tO (G : Cg) (W : WG) (φ : DenP) : TO := fun σ H Q => ∃ p env st, p.H = H ∧ RepE G.K W p env σ ∧ RepS G.K p st ∧ Aft Rqo G p (φ env st) Q (wAt W σ)
def POv (X : Cx) (W : WG) (e : Option Expr) (φ : DenP) : Prop := PO X e (tO (Cx.g X) W φ)
theorem pov_none : POv X W none dNoP := ⟨fun pins s σ H Q I ⟨p, env, st, z, hE, hS, h⟩ => (po_none (X := X)).run pins s σ H Q I (z ▸ h.now rfl hS)⟩
theorem pov_some (he : PEv X W e φ) : POv X W (some e) (dP φ) := ⟨fun pins s σ H Q I ⟨p, env, st, z, hE, hS, h⟩ => (po_some (X := X) he).run pins s σ H Q I (by
  subst z
  refine (tD.run hE hS h).mono fun v H1 ⟨p1, d, st1, z1, e1, r1, s1, h1⟩ => ?_
  subst z1
  cases d <;> first | exact h1.elim | skip
  cases r1
  exact ⟨_, rfl, h1.now rfl s1⟩)⟩
def cutL {α : Type} (xs : List α) (lo hi : Option Int) : List α := (xs.drop (HT.sIx xs.length 0 lo)).take (HT.sIx xs.length xs.length hi - HT.sIx xs.length 0 lo)
def oSl : D → Option Int → Option Int → Sto → Out D := fun d lo hi st => match d with
  | .tup ds => .ok (.tup (cutL ds lo hi)) st
  | d => match view d st with
    | some ds => .ok (.lst (cutL ds lo hi)) st
    | none => .bad
def dSl (φ : Den) (lo hi : DenP) : Den := fun env st => (φ env st).bind fun x st => (lo env st).bind fun l st => (hi env st).bind fun u st => oSl x l u st
theorem tO.run {G : Cg} {φ : DenP} {σ : St} {p : Pt} {env : En} {st : Sto} {γ δ : Type} {R' : Pt → γ → δ → Prop} {k : Option Int → Sto → Out γ} {Q : δ → Hp → Prop} (hE : RepE G.K W p env σ) (hS : RepS G.K p st) (h : Aft R' G p ((φ env st).bind k) Q (wAt W σ)) :
    tO G W φ σ p.H (fun b H1 => ∃ q st1, q.H = H1 ∧ Ext p q ∧ RepS G.K q st1 ∧ Aft R' G q (k b st1) Q (wAt W σ)) :=
  ⟨p, env, st, rfl, hE, hS, (Aft.bind (R := Rqo) h).mono fun b H1 ⟨q, a, st1, z, e, r, s, h⟩ => ⟨q, st1, z, e, s, r ▸ h⟩⟩
theorem tO.mono {G : Cg} {φ : DenP} {σ : St} {H : Hp} {Q Q' : Option Int → Hp → Prop} (h : tO G W φ σ H Q) (hq : ∀ v H', Q v H' → Q' v H') : tO G W φ σ H Q' :=
  let ⟨p, env, st, z, a, b, c⟩ := h
  ⟨p, env, st, z, a, b, c.mono hq⟩
theorem Reps.cutL {K p} {ds : List D} {vs : List V} (r : Reps K p ds vs) (lo hi : Option Int) : Reps K p (DL.cutL ds lo hi) (cutV vs lo hi) := by
  unfold DL.cutL cutV
  rw [r.length]
  exact (r.drop _).take _
abbrev rSlAll (K : Frag) : V → Option Int → Option Int → Hp → VK → Prop := fun x lo hi H Q => rSlA K x lo hi H Q ∨ rSlL K x lo hi H Q
theorem pev_sl {lo hi : Option Expr} {p2 : Pos} {φl φh : DenP} (ha : PEv X W e φ) (hl : POv X W lo φl) (hh : POv X W hi φh) : PEv X W (.Subscript e (.Slice lo hi none p2) pos) (dSl φ φl φh) :=
  pev_of (pe_slice (r := rSlAll X.K) (sl_tupA.or sl_list) ha hl hh) fun σ Q p env st hE hS h => by
    refine (tD.run hE hS h).mono fun v H1 ⟨p1, d, st1, z1, e1, r1, s1, h1⟩ => ?_
    subst z1
    refine (tO.run (hE.mono e1) s1 h1).mono fun l H2 ⟨p2, st2, z2, e2, s2, h2⟩ => ?_
    subst z2
    refine (tO.run ((hE.mono e1).mono e2) s2 h2).mono fun u H3 ⟨p3, st3, z3, e3, s3, h3⟩ => ?_
    subst z3
    have r3 := (r1.mono e2).mono e3
    cases d with
    | tup ds =>
      simp only [oSl] at h3
      cases r3 with
      | tup sq rr =>
        refine .inl ⟨_, _, rfl, sq.sq, fun hw => ?_, fun _ c hc => ?_⟩
        · refine h3.now (.tup sq ?_) s3
          have q := rr.cutL l u
          unfold cutV at q
          rw [hw.1, hw.2, List.drop_zero, Nat.sub_zero, List.take_length] at q
          exact q
        · exact h3 (p3.laid c _ hc) _ (Ext.laid hc) (.tup (.inl ⟨.inl upd_same, s3.nh hc⟩) ((rr.cutL l u).mono (Ext.laid hc))) (s3.laid hc)
    | _ =>
      simp only [oSl] at h3
      split at h3
      · rename_i ds hv
        obtain ⟨a, vs, rfl, g1, g2⟩ := view_rep hv r3 s3
        exact .inr ⟨a, vs, rfl, g1, fun c hc => h3 (p3.laid c _ hc) _ (Ext.laid hc) (.lst upd_same (s3.nh hc) ((g2.cutL l u).mono (Ext.laid hc))) (s3.laid hc)⟩
      · exact h3.elim

/-! ### methods of lists that are cells -/
def mAppend : D → List D → Sto → Out D
  | .ptr n, [y], st => match st[n]? with
    | some (.lst ds) => if ds.length < sizeLine then .ok .non (st.set n (.lst (ds ++ [y]))) else .bad
    | _ => .bad
  | _, _, _ => .bad
def mExtend : D → List D → Sto → Out D
  | .ptr n, [y], st => match st[n]?, oAdd.vieS y st with
    | some (.lst ds), some es => if ds.length + es.length ≤ sizeLine then .ok .non (st.set n (.lst (ds ++ es))) else .bad
    | _, _ => .bad
  | _, _, _ => .bad
/-- x is a list that is a cell -/
def isL : D → Sto → Bool
  | .ptr n, st => match st[n]? with
    | some (.lst _) => true
    | _ => false
  | _, _ => false
theorem isL_rep {K : Frag} {p : Pt} {st : Sto} {d : D} {v : V} (h : isL d st = true) (r : Rep K p d v) (s : RepS K p st) : ∃ n A vs, d = .ptr n ∧ v = .ref A ∧ p.rho[n]? = some A ∧ p.V A = some (.lst vs) := by
  cases r <;> simp only [isL, reduceCtorEq, Bool.false_eq_true] at h
  rename_i n A hn
  split at h
  · rename_i ds q
    obtain ⟨vs, g1, _⟩ := s.at_ n _ A q hn
    exact ⟨n, A, vs, rfl, rfl, hn, g1⟩
  · cases h
def dMt (f : D → List D → Sto → Out D) (φ : Den) (φs : List Den) : Den := fun env st => (φ env st).bind fun x st => if isL x st = true then (evL φs env st).bind fun ys st => f x ys st else .bad
def MtL (G : Cg) (f : D → List D → Sto → Out D) (r : V → List V → Hp → VK → Prop) : Prop := ∀ p st n A ys ws Q E, p.rho[n]? = some A → Reps G.K p ys ws → RepS G.K p st → Aft (Rep G.K) G p (f (.ptr n) ys st) Q E → r (.ref A) ws p.H Q
theorem tBM_of {f : D → List D → Sto → Out D} {r : V → List V → Hp → VK → Prop} (hf : MtL (Cx.g X) f r) (σ : St) (Q : VK) (p : Pt) (env : En) (st : Sto) (hE : RepE X.K W p env σ) (hS : RepS X.K p st) (h : Aft (Rep X.K) (Cx.g X) p (dMt f φ φs env st) Q (wAt W σ)) :
    tBM X.K "list" r (tD (Cx.g X) W φ) (tL (Cx.g X) W φs) σ p.H Q := by
  refine (tD.run hE hS h).mono fun v H1 ⟨p1, d, st1, z1, e1, r1, s1, h1⟩ => ?_
  subst z1
  by_cases hb : isL d st1 = true
  · rw [if_pos hb] at h1
    obtain ⟨n, A, vs, rfl, rfl, hn, g1⟩ := isL_rep hb r1 s1
    refine ⟨.inl ⟨rfl, _, SqL.of (p1.sub _ _ g1)⟩, (tL.run (hE.mono e1) s1 h1).mono fun ws H2 ⟨p2, ys, st2, z2, e2, r2, s2, h2⟩ => ?_⟩
    subst z2
    refine hf p2 st2 n A ys ws _ _ ?_ r2 s2 h2
    obtain ⟨t, z⟩ := e2.pre
    rw [z, List.getElem?_append_left (List.getElem?_eq_some_iff.mp hn).1]; exact hn
  · rw [if_neg hb] at h1
    exact h1.elim
theorem d_append {G : Cg} : MtL G mAppend rAppend := by
  intro p st n A ys ws Q E hn r s h
  unfold mAppend at h
  split at h
  · rename_i n' y z1
    cases z1
    split at h
    · rename_i ds q
      split at h
      · rename_i hl
        obtain ⟨us, g3, g4⟩ := s.at_ n _ A q hn
        obtain ⟨w, rfl, rw'⟩ := reps1 r
        refine ⟨A, us, w, rfl, rfl, p.sub _ _ g3, by rw [← g4.length]; exact hl, ?_⟩
        have hex : (∃ xs, p.V A = some (.lst xs)) ∨ ∃ kvs, p.V A = some (.dK kvs) := .inl ⟨_, g3⟩
        have ew := Ext.wr (p := p) (a := A) (o := .lst (us ++ [w])) (h := hex) (List.mem_of_getElem? hn)
        exact h (p.wr A _ hex) .non ew .non (s.wr hn ⟨us ++ [w], upd_same, (g4.mono ew).append (.cons (rw'.mono ew) .nil)⟩)
      · exact h.elim
    · exact h.elim
  · exact h.elim
theorem d_extend {G : Cg} : MtL G mExtend rExtend := by
  intro p st n A ys ws Q E hn r s h
  unfold mExtend at h
  split at h
  · rename_i n' y z1
    cases z1
    split at h
    · rename_i ds es q q3
      split at h
      · rename_i hl
        obtain ⟨us, g3, g4⟩ := s.at_ n _ A q hn
        obtain ⟨w, rfl, rw'⟩ := reps1 r
        obtain ⟨B, zs, rfl, g5, g6⟩ := vieS_rep q3 rw' s
        refine ⟨A, B, us, zs, rfl, rfl, p.sub _ _ g3, g5, by rw [← g4.length, ← g6.length]; exact hl, ?_⟩
        have hex : (∃ xs, p.V A = some (.lst xs)) ∨ ∃ kvs, p.V A = some (.dK kvs) := .inl ⟨_, g3⟩
        have ew := Ext.wr (p := p) (a := A) (o := .lst (us ++ zs)) (h := hex) (List.mem_of_getElem? hn)
        exact h (p.wr A _ hex) .non ew .non (s.wr hn ⟨us ++ zs, upd_same, (g4.mono ew).append (g6.mono ew)⟩)
      · exact h.elim
    · exact h.elim
  · exact h.elim
theorem pev_append {apos : Pos} (hx : PEv X W a φ) (ha : PAv X W (e :: es) φs)
    (hbase : attributeBase a "append" X.env (eval a X.env) = eval a X.env := by rfl)
    (hfew : ((backTo pos (starEach (e :: es) X.env)).all (fun x => !x.1) && (backToKw pos (keywordEach [] X.env)).all (fun x => x.1.isSome) && decide ((e :: es).length + ([] : List Keyword).length + (if ([] : List Keyword).isEmpty then 0 else 1) < 30)) = true := by rfl)
    (hline : (apos.endLine == pos.line) = true := by rfl) (hs : starEach (e :: es) X.env = (false, eval e X.env) :: starEach es X.env := by rfl) (hplain : (backTo pos (starEach es X.env)).any (·.1) = false := by rfl) :
    PEv X W (.Call (.Attribute a "append" apos) (e :: es) [] pos) (dMt mAppend φ φs) :=
  pev_of (pe_bm PySem.F.plainAttrs_list PySem.F.slot_list_append PySem.F.type_list_append mt_append hx ha hbase hfew hline hs hplain) (tBM_of d_append)
theorem pev_extend {apos : Pos} (hx : PEv X W a φ) (ha : PAv X W (e :: es) φs)
    (hbase : attributeBase a "extend" X.env (eval a X.env) = eval a X.env := by rfl)
    (hfew : ((backTo pos (starEach (e :: es) X.env)).all (fun x => !x.1) && (backToKw pos (keywordEach [] X.env)).all (fun x => x.1.isSome) && decide ((e :: es).length + ([] : List Keyword).length + (if ([] : List Keyword).isEmpty then 0 else 1) < 30)) = true := by rfl)
    (hline : (apos.endLine == pos.line) = true := by rfl) (hs : starEach (e :: es) X.env = (false, eval e X.env) :: starEach es X.env := by rfl) (hplain : (backTo pos (starEach es X.env)).any (·.1) = false := by rfl) :
    PEv X W (.Call (.Attribute a "extend" apos) (e :: es) [] pos) (dMt mExtend φ φs) :=
  pev_of (pe_bm PySem.F.plainAttrs_list PySem.F.slot_list_extend PySem.F.type_list_extend mt_extend hx ha hbase hfew hline hs hplain) (tBM_of d_extend)
end
end DL

/-! DL: in, min and max, dicts, sorted, zip, starred items. -/
namespace DL
open PySem PySem.Spec L2
open PyProof.Rows hiding St
set_option autoImplicit true
section
variable {X : Cx} {W : WG} {k : Nat} {pos : Pos} {a b c e : Expr} {es : List Expr} {φ φa φb φc : Den} {φs : List Den} {p0 : Pos}
/-! ### in -/
def inIt : PyData → Option (List PyData)
  | .list ds => some ds
  | .tuple ds => some ds
  | _ => none
def dicV : D → Sto → Option (List Key × List D)
  | .dic ks ds, _ => some (ks, ds)
  | .ptr n, st => match st[n]? with
    | some (.dic ks ds) => some (ks, ds)
    | _ => none
  | _, _ => none
theorem dicV_rep {G : Cg} {p : Pt} {st : Sto} {d : D} {v : V} {ks : List Key} {ds : List D} (h : dicV d st = some (ks, ds)) (r : Rep G.K p d v) (s : RepS G.K p st) : ∃ a vs, v = .ref a ∧ p.H a = some (.dK (ks.zip vs)) ∧ ks.length = ds.length ∧ Reps G.K p ds vs := by
  cases r <;> simp only [dicV] at h <;> try (cases h; done)
  · cases h
    rename_i e n l q
    exact ⟨_, _, rfl, p.sub _ _ ‹_›, ‹_›, ‹_›⟩
  · rename_i n a hn
    split at h
    · cases h
      rename_i es e
      obtain ⟨vs, h1, h0, h2⟩ := s.at_ n _ a e hn
      exact ⟨a, vs, rfl, p.sub _ _ h1, h0, h2⟩
    · cases h
def oIn : D → D → Sto → Out D := fun x y st => match dicV y st, dKey x with
  | some (ks, ds), some k => .ok (.bl (valD ks ds k).isSome) st
  | _, _ => match toPy (deref x st), (toPy (deref y st)).bind inIt with
    | some d, some ds => if SeqAt.shaped d = true ∧ SeqAt.shaped (.list ds) = true then .ok (.bl (ds.any fun z => PyData.eqv z d)) st else .bad
    | _, _ => .bad
def oNotIn : D → D → Sto → Out D := fun x y st => match dicV y st, dKey x with
  | some (ks, ds), some k => .ok (.bl (!(valD ks ds k).isSome)) st
  | _, _ => match toPy (deref x st), (toPy (deref y st)).bind inIt with
    | some d, some ds => if SeqAt.shaped d = true ∧ SeqAt.shaped (.list ds) = true then .ok (.bl (!ds.any fun z => PyData.eqv z d)) st else .bad
    | _, _ => .bad
def rInA (K : Frag) (f : Bool → Bool) : R2 := fun x y H Q => (∃ a o, y = .ref a ∧ DGet H a x o ∧ Q (.bl (f o.isSome)) H) ∨
  ∃ d c ds, Dp K H x d ∧ Dp K H y c ∧ inIt c = some ds ∧ SeqAt.shaped d = true ∧ SeqAt.shaped (.list ds) = true ∧ Q (.bl (f (ds.any fun z => PyData.eqv z d))) H
theorem op_inA (hu : X.A.units + 65 < cLine) : OpR X (compareOp .In) (rInA X.K id) := by
  intro pins s σ H x y v u Q I rx ry h
  rcases h with ⟨a, o, rfl, g, q⟩ | ⟨d, c, ds, hd, he, hi, sd, se, q⟩
  · cases ry
    exact d_in (by omega) I g rx fun s' I' => ⟨.bl _, H, I', rfl, q⟩
  · obtain ⟨as, r1⟩ := Dp.reads I d x v hd rx
    obtain ⟨bs, r2⟩ := Dp.reads I c y u he ry
    cases c <;> simp only [inIt, reduceCtorEq] at hi <;> cases hi
    · exact SeqAt.in_list_reads r2 r1 (SeqAt.canLay_of_shaped se) (SeqAt.canLay_of_shaped sd) (room_in_shaped sd hu) ⟨.bl _, H, I, rfl, q⟩
    · exact SeqAt.in_tuple_reads r2 r1 (SeqAt.canLay_of_shaped se) (SeqAt.canLay_of_shaped sd) (room_in_shaped sd hu) ⟨.bl _, H, I, rfl, q⟩
theorem op_notInA (hu : X.A.units + 65 < cLine) : OpR X (compareOp .NotIn) (rInA X.K not) := by
  intro pins s σ H x y v u Q I rx ry h
  rcases h with ⟨a, o, rfl, g, q⟩ | ⟨d, c, ds, hd, he, hi, sd, se, q⟩
  · cases ry
    exact d_notIn (by omega) I g rx fun s' I' => ⟨.bl _, H, I', rfl, q⟩
  · obtain ⟨as, r1⟩ := Dp.reads I d x v hd rx
    obtain ⟨bs, r2⟩ := Dp.reads I c y u he ry
    cases c <;> simp only [inIt, reduceCtorEq] at hi <;> cases hi
    · exact SeqAt.notIn_list_reads r2 r1 (SeqAt.canLay_of_shaped se) (SeqAt.canLay_of_shaped sd) (room_in_shaped sd hu) ⟨.bl _, H, I, rfl, q⟩
    · exact SeqAt.notIn_tuple_reads r2 r1 (SeqAt.canLay_of_shaped se) (SeqAt.canLay_of_shaped sd) (room_in_shaped sd hu) ⟨.bl _, H, I, rfl, q⟩
theorem valD_get {κ : Type} [DecidableEq κ] {K p} {k : κ} {ks : List κ} {ds : List D} {vs : List V} (hl : ks.length = ds.length) (r : Reps K p ds vs) : (valV (ks.zip vs) k).isSome = (valD ks ds k).isSome := by
  obtain ⟨h1, h2⟩ := valD_rep (k := k) hl r
  cases q : valD ks ds k with
  | none => rw [h2 q]; rfl
  | some d => obtain ⟨v, e, _⟩ := h1 d q; rw [e]; rfl
theorem d_inA {G : Cg} {f : Bool → Bool} {o : D → D → Sto → Out D} (ho : ∀ x y st, o x y st = match dicV y st, dKey x with
      | some (ks, ds), some k => .ok (.bl (f (valD ks ds k).isSome)) st
      | _, _ => match toPy (deref x st), (toPy (deref y st)).bind inIt with
        | some d, some ds => if SeqAt.shaped d = true ∧ SeqAt.shaped (.list ds) = true then .ok (.bl (f (ds.any fun z => PyData.eqv z d))) st else .bad
        | _, _ => .bad) : Op2 G o (rInA G.K f) := by
  intro p st x y v u Q E rx ry s h
  rw [ho] at h
  split at h
  · rename_i ks ds k e1 e2
    obtain ⟨a, vs, rfl, g1, g2, g3⟩ := dicV_rep e1 ry s
    have z := dKey_rep e2 rx
    subst z
    refine .inl ⟨a, _, rfl, .k g1, ?_⟩
    rw [valD_get g2 g3]
    exact h.now (.bl _) s
  · split at h
    · rename_i d ds e1 e2
      split at h
      · rename_i hs
        obtain ⟨c, q1, q2⟩ := Option.bind_eq_some_iff.mp e2
        exact .inr ⟨d, c, ds, deref_dp e1 rx s, deref_dp q1 ry s, q2, hs.1, hs.2, h.now (.bl _) s⟩
      · exact h.elim
    · exact h.elim
theorem Ok.u65 (o : Ok X W k) : X.A.units + 65 < cLine := by have := o.room.un; omega
theorem pev_in (o : Ok X W k) (ha : PEv X W a φa) (hb : PEv X W b φb) (hm : behindInMarks .In b = false := by rfl) : PEv X W (.Compare a [.In] [b] pos) (dOp2 oIn φa φb) := pev_cmp (op_inA o.u65) (d_inA fun _ _ _ => rfl) ha hb hm
theorem pev_notin (o : Ok X W k) (ha : PEv X W a φa) (hb : PEv X W b φb) (hm : behindInMarks .NotIn b = false := by rfl) : PEv X W (.Compare a [.NotIn] [b] pos) (dOp2 oNotIn φa φb) := pev_cmp (op_notInA o.u65) (d_inA fun _ _ _ => rfl) ha hb hm
theorem ptv_in (o : Ok X W k) (ha : PEv X W a φa) (hb : PEv X W b φb) (hm : behindInMarks .In b = false := by rfl) : PTv X W (.Compare a [.In] [b] pos) (dTst (dOp2 oIn φa φb)) := ptv_cmp (op_inA o.u65) (d_inA fun _ _ _ => rfl) ha hb hm
theorem ptv_notin (o : Ok X W k) (ha : PEv X W a φa) (hb : PEv X W b φb) (hm : behindInMarks .NotIn b = false := by rfl) : PTv X W (.Compare a [.NotIn] [b] pos) (dTst (dOp2 oNotIn φa φb)) := ptv_cmp (op_notInA o.u65) (d_inA fun _ _ _ => rfl) ha hb hm

/-! ### min, max of two ints -/
def bMax : List D → Sto → Out D
  | [.int i, .int j], st => .ok (.int (if j > i then j else i)) st
  | _, _ => .bad
def bMin : List D → Sto → Out D
  | [.int i, .int j], st => .ok (.int (if j < i then j else i)) st
  | _, _ => .bad
theorem pev_max (o : Ok X W k) (hm : X.mg "max" = none) (ha : PAv X W (e :: es) φs) (hg : Gl X "max" := by rfl)
    (he : starEach (e :: es) X.env = (false, eval e X.env) :: starEach es X.env := by rfl) (hpl : (backTo pos (starEach es X.env)).any (·.1) = false := by rfl) : PEv X W (.Call (.Name "max" p0) (e :: es) [] pos) (dCall bMax φs) :=
  pev_callB (call_max2 o.calm) (fun p st xs vs Q E r s h => by
    unfold bMax at h
    split at h
    · obtain ⟨v, v', rfl, r1, r2⟩ := reps2 r
      cases r1; cases r2
      exact ⟨_, _, rfl, h.now (.int _) s⟩
    · exact h.elim) hm PyProof.Rows.boot_max ha hg (by decide) (by decide) he hpl
theorem pev_min (o : Ok X W k) (hm : X.mg "min" = none) (ha : PAv X W (e :: es) φs) (hg : Gl X "min" := by rfl)
    (he : starEach (e :: es) X.env = (false, eval e X.env) :: starEach es X.env := by rfl) (hpl : (backTo pos (starEach es X.env)).any (·.1) = false := by rfl) : PEv X W (.Call (.Name "min" p0) (e :: es) [] pos) (dCall bMin φs) :=
  pev_callB (call_min2 o.calm) (fun p st xs vs Q E r s h => by
    unfold bMin at h
    split at h
    · obtain ⟨v, v', rfl, r1, r2⟩ := reps2 r
      cases r1; cases r2
      exact ⟨_, _, rfl, h.now (.int _) s⟩
    · exact h.elim) hm PyProof.Rows.boot_min ha hg (by decide) (by decide) he hpl

/-! ### {} -/
def dNewP : Den := fun _ st => .ok (.ptr st.length) (st ++ [.dic [] []])
theorem pev_newP : PEv X W (.Dict [] [] pos) dNewP :=
  pev_of pe_dnewK fun σ Q p env st hE hS h c hc => h (p.cell c _ hc) _ (Ext.cell hc) (.ptr (by show (p.rho ++ [c])[st.length]? = some c; rw [hS.len]; simp)) (hS.cell hc ⟨[], upd_same, rfl, .nil⟩)
def dNew : Den := fun _ st => .ok (.dic [] []) st
theorem pev_new : PEv X W (.Dict [] [] pos) dNew :=
  pev_of pe_dnewK fun σ Q p env st hE hS h c hc => h (p.laid c _ hc) _ (Ext.laid hc) (.dic (vs := []) upd_same (hS.nh hc) rfl .nil) (hS.laid hc)

/-! ### d.get(k), d.get(k, x) -/
def isDc : D → Sto → Bool := fun d st => (dicV d st).isSome
def oGet2 : D → D → D → Sto → Out D := fun x y z st => match dicV x st, dKey y with
  | some (ks, ds), some k => .ok ((valD ks ds k).getD z) st
  | _, _ => .bad
def dGet2 (φ φk φx : Den) : Den := fun env st => (φ env st).bind fun x st => if isDc x st = true then (φk env st).bind fun y st => (φx env st).bind fun z st => oGet2 x y z st else .bad
def dGet1 (φ φk : Den) : Den := dGet2 φ φk (dC .non)
theorem get2_of {σ : St} {p : Pt} {st : Sto} {Q : VK} {x y z : D} {a : Addr} {vy vz : V} (rx : Rep X.K p x (.ref a)) (ry : Rep X.K p y vy) (rz : Rep X.K p z vz) (s : RepS X.K p st) (h : Aft (Rep X.K) (Cx.g X) p (oGet2 x y z st) Q (wAt W σ)) :
    ∃ o, DGet p.H a vy o ∧ Q (o.getD vz) p.H := by
  unfold oGet2 at h
  split at h
  · rename_i ks ds k e1 e2
    obtain ⟨a', vs, ea, g1, g2, g3⟩ := dicV_rep (G := Cx.g X) e1 rx s
    cases ea
    have w := dKey_rep e2 ry
    subst w
    refine ⟨_, .k g1, h.now ?_ s⟩
    obtain ⟨h1, h2⟩ := valD_rep (k := k) g2 g3
    cases q : valD ks ds k with
    | none => rw [h2 q]; exact rz
    | some d => obtain ⟨v, e, r⟩ := h1 d q; rw [e]; exact r
  · exact h.elim
theorem pev_get2 (o : Ok X W k) {apos : Pos} {f : Expr} {φk φx : Den} (hx : PEv X W a φ) (he : PEv X W e φk) (hf : PEv X W f φx) (m : M2 X a "get" apos e f pos := by exact ⟨rfl, rfl, rfl, rfl⟩) :
    PEv X W (.Call (.Attribute a "get" apos) [e, f] [] pos) (dGet2 φ φk φx) :=
  pev_of (pe_dget2 o.u1 hx he hf m) fun σ Q p env st hE hS h => by
    refine (tD.run hE hS h).mono fun v H1 ⟨p1, d, st1, z1, e1, r1, s1, h1⟩ => ?_
    subst z1
    by_cases hb : isDc d st1 = true
    · rw [if_pos hb] at h1
      obtain ⟨⟨ks, ds⟩, hq⟩ := Option.isSome_iff_exists.mp hb
      obtain ⟨A, vs, rfl, g1, g2, g3⟩ := dicV_rep (G := Cx.g X) hq r1 s1
      refine ⟨A, rfl, .inl ⟨_, .inl g1⟩, (tD.run (hE.mono e1) s1 h1).mono fun y H2 ⟨p2, d2, st2, z2, e2, r2, s2, h2⟩ => ?_⟩
      subst z2
      refine (tD.run ((hE.mono e1).mono e2) s2 h2).mono fun z H3 ⟨p3, d3, st3, z3, e3, r3, s3, h3⟩ => ?_
      subst z3
      exact get2_of ((r1.mono e2).mono e3) (r2.mono e3) r3 s3 h3
    · rw [if_neg hb] at h1
      exact h1.elim
theorem pev_get1 (o : Ok X W k) {apos : Pos} {φk : Den} (hx : PEv X W a φ) (he : PEv X W e φk) (m : M1 X a "get" apos e pos := by exact ⟨rfl, rfl, rfl, rfl⟩) :
    PEv X W (.Call (.Attribute a "get" apos) [e] [] pos) (dGet1 φ φk) :=
  pev_of (pe_dget1 o.u1 hx he m) fun σ Q p env st hE hS h => by
    refine (tD.run hE hS h).mono fun v H1 ⟨p1, d, st1, z1, e1, r1, s1, h1⟩ => ?_
    subst z1
    by_cases hb : isDc d st1 = true
    · rw [if_pos hb] at h1
      obtain ⟨⟨ks, ds⟩, hq⟩ := Option.isSome_iff_exists.mp hb
      obtain ⟨A, vs, rfl, g1, g2, g3⟩ := dicV_rep (G := Cx.g X) hq r1 s1
      refine ⟨A, rfl, .inl ⟨_, .inl g1⟩, (tD.run (hE.mono e1) s1 h1).mono fun y H2 ⟨p2, d2, st2, z2, e2, r2, s2, h2⟩ => ?_⟩
      subst z2
      exact get2_of (r1.mono e2) r2 .non s2 h2
    · rw [if_neg hb] at h1
      exact h1.elim

/-! ### a written dict of the module: d.get(k) -/
structure WDic (w : World) (G : Cg) (x : Str) (ks : List Str) (ds : List D) : Prop where
  ex : ∃ (d : Addr) (ents : Array DictEntry) (n : Nat) (vs : List V), G.mg x = some (.ref d) ∧ G.K.lookup d = some ⟨.type "dict", none, .dict ents n, #[]⟩ ∧ PySem.W.KeysLit w.params ents.toList ∧ (d == sysModules) = false ∧
    (∀ p, Reps G.K p ds vs) ∧ Paired (fun kv (en : DictEntry) => (∃ t, en.key = .str kv.1 t) ∧ RelV kv.2 en.val) (ks.zip vs) ents.toList ∧ ks.length = ds.length
def oWGet (ks : List Str) (ds : List D) : D → Sto → Out D
  | .str z, st => .ok ((valD ks ds z).getD .non) st
  | _, _ => .bad
theorem find_paired {z : Str} : ∀ {kvs : List (Str × V)} {l : List DictEntry}, Paired (fun kv (en : DictEntry) => (∃ t, en.key = .str kv.1 t) ∧ RelV kv.2 en.val) kvs l →
    RelO (valV kvs z) ((l.find? fun en => Value.isStrOf z en.key).map (·.val))
  | _, _, .nil => trivial
  | _, _, .cons (a := kv) (b := en) ⟨⟨t, hk⟩, rv⟩ h => by
    have ih := find_paired (z := z) h
    have hs : Value.isStrOf z en.key = decide (kv.1 = z) := by
      rw [hk]
      show (kv.1 == z) = decide (kv.1 = z)
      by_cases q : kv.1 = z
      · rw [decide_eq_true q, q]; exact beq_self_eq_true z
      · rw [decide_eq_false q]; exact beq_eq_false_iff_ne.mpr q
    by_cases q : kv.1 = z
    · rw [valV_pos q, List.find?_cons_of_pos (by rw [hs]; exact decide_eq_true q)]
      exact rv
    · rw [valV_neg q, List.find?_cons_of_neg (by rw [hs, decide_eq_false q]; exact Bool.false_ne_true)]
      exact ih
theorem pev_wget {x : Str} {px apos : Pos} {ks : List Str} {ds : List D} (h : WDic X.w (Cx.g X) x ks ds) (he : PEv X W e φ) (m : M1 X (.Name x px) "get" apos e pos := by exact ⟨rfl, rfl, rfl, rfl⟩) (hg : Gl X x := by rfl) (hdb : (x == ("__debug__" : Str)) = false := by decide) :
    PEv X W (.Call (.Attribute (.Name x px) "get" apos) [e] [] pos) (dOp1 (oWGet ks ds) φ) := by
  obtain ⟨d, ents, n, vs, e1, e2, e3, e4, e5, e6, e7⟩ := h.ex
  refine pev_of (t := fun σ H Q => tD (Cx.g X) W φ σ H fun y H1 => ∃ z v, y = .str z ∧ RelO (some v) ((findBy Value.isStrOf ents z).elim (some .none) some) ∧ Q v H1) ⟨fun pins s σ H Q I h => ?_⟩ fun σ Q p env st hE hS h => ?_
  · refine wpAny_Call_method m.base m.few m.line PySem.F.plainAttrs_dict PySem.F.slot_dict_get PySem.F.type_dict_get (ld_glob I hg e1 ?_ hdb)
    have mp := PySem.W.mapOf_K (prog := X.prog) (w := X.w) I.kIn e2 e3
    refine ⟨mp.typeIs, fun b q => ?_, ?_⟩
    · cases q
      exact ⟨_, I.kIn _ _ e2, rfl⟩
    · rw [m.trees]
      refine Calls.callWith_builtin rfl (Calls.evalArgs_plain (Calls.spliced_cons (thn (he.run pins s σ H _ I h) fun iv s2 ⟨y, H2, I2, ry, z, v, ey, rv, q⟩ => Calls.spliced_nil ?_)))
      subst ey
      obtain ⟨t, rfl⟩ := ry
      have mp2 := PySem.W.mapOf_K (prog := X.prog) (w := X.w) I2.kIn e2 e3
      refine call_meetsIn PySem.F.slot_dict_get mp2.typeIs PySem.F.entry_dict_get (PySem.F.args_dict_get_2 _ _) (meets_dict_get (PySem.strKind X.prog X.w) d (PySem.strKind_is X.prog X.w z t) e4) ⟨_, mp2, v, H2, I2.tok _, ?_, q⟩
      cases hf : findBy Value.isStrOf ents z with
      | none => rw [hf] at rv; exact rv
      | some u => rw [hf] at rv; exact rv
  · refine (tD.run hE hS h).mono fun y H1 ⟨p1, dy, st1, z1, x1, r1, s1, h1⟩ => ?_
    subst z1
    cases dy <;> first | exact h1.elim | skip
    rename_i z
    cases r1
    have fp := find_paired (z := z) e6
    have fe : findBy Value.isStrOf ents z = (ents.toList.find? fun en => Value.isStrOf z en.key).map (·.val) := by
      unfold findBy
      rw [← Array.find?_toList]
    rw [← fe] at fp
    obtain ⟨g1, g2⟩ := valD_rep (k := z) e7 (e5 p1)
    have h1 : Aft (Rep X.K) (Cx.g X) p1 (.ok ((valD ks ds z).getD .non) st1) Q (wAt W σ) := h1
    cases q : valD ks ds z with
    | none =>
      rw [q] at h1
      rw [g2 q] at fp
      refine ⟨z, .non, rfl, ?_, h1.now .non s1⟩
      cases hf : findBy Value.isStrOf ents z with
      | none => exact rfl
      | some u => rw [hf] at fp; exact fp.elim
    | some dd =>
      rw [q] at h1
      obtain ⟨v, ev, rv⟩ := g1 dd q
      rw [ev] at fp
      refine ⟨z, v, rfl, ?_, h1.now rv s1⟩
      cases hf : findBy Value.isStrOf ents z with
      | none => rw [hf] at fp; exact fp.elim
      | some u => rw [hf] at fp; exact fp
end
end DL

/-! DL: sorted, zip, starred items. -/
namespace DL
open PySem PySem.Spec L2
open PyProof.Rows hiding St
set_option autoImplicit true
/-! ### ints in order -/
def insI (x : Int) : List Int → List Int
  | [] => [x]
  | y :: r => if x ≤ y then x :: y :: r else y :: insI x r
def isrt : List Int → List Int
  | [] => []
  | x :: r => insI x (isrt r)
theorem insI_perm (x : Int) : ∀ l : List Int, (insI x l).Perm (x :: l)
  | [] => .refl _
  | y :: r => by
    unfold insI
    split
    · exact .refl _
    · exact ((insI_perm x r).cons y).trans (.swap x y r)
theorem isrt_perm : ∀ l : List Int, (isrt l).Perm l
  | [] => .refl _
  | x :: r => (insI_perm x (isrt r)).trans ((isrt_perm r).cons x)
theorem insI_up {x : Int} : ∀ {l : List Int}, l.Pairwise (· ≤ ·) → (insI x l).Pairwise (· ≤ ·)
  | [], _ => by simp [insI]
  | y :: r, h => by
    have h' := List.pairwise_cons.mp h
    unfold insI
    split
    · rename_i hx
      refine List.pairwise_cons.mpr ⟨fun z hz => ?_, h⟩
      rcases List.mem_cons.mp hz with rfl | hz
      · exact hx
      · exact Int.le_trans hx (h'.1 z hz)
    · rename_i hx
      refine List.pairwise_cons.mpr ⟨fun z hz => ?_, insI_up h'.2⟩
      rcases List.mem_cons.mp ((insI_perm x r).mem_iff.mp hz) with rfl | hz
      · omega
      · exact h'.1 z hz
theorem isrt_up : ∀ l : List Int, (isrt l).Pairwise (· ≤ ·)
  | [] => .nil
  | _ :: r => insI_up (isrt_up r)
theorem up_uniq : ∀ {l m : List Int}, l.Pairwise (· ≤ ·) → m.Pairwise (· ≤ ·) → l.Perm m → l = m
  | [], m, _, _, h => (List.nil_perm.mp h).symm ▸ rfl
  | x :: l, [], _, _, h => (List.not_mem_nil (h.mem_iff.mp (List.mem_cons_self ..))).elim
  | x :: l, y :: m, h1, h2, h => by
    obtain ⟨a1, b1⟩ := List.pairwise_cons.mp h1
    obtain ⟨a2, b2⟩ := List.pairwise_cons.mp h2
    have e : x = y := by
      rcases List.mem_cons.mp (h.mem_iff.mp (List.mem_cons_self ..)) with e | e
      · exact e
      · rcases List.mem_cons.mp (h.mem_iff.mpr (List.mem_cons_self ..)) with e' | e'
        · exact e'.symm
        · have := a1 y e'
          have := a2 x e
          omega
    subst e
    rw [up_uniq b1 b2 (List.Perm.cons_inv h)]
def toIntK : List Key → Option (List Int)
  | [] => some []
  | .inl i :: r => (toIntK r).map (i :: ·)
  | .inr _ :: _ => none
theorem toIntK_eq : ∀ {ks : List Key} {is : List Int}, toIntK ks = some is → ks = is.map Sum.inl
  | [], is, h => by simp only [toIntK] at h; cases h; rfl
  | .inl i :: r, is, h => by
    simp only [toIntK] at h
    cases q : toIntK r with
    | none => rw [q] at h; cases h
    | some js => rw [q] at h; cases h; rw [toIntK_eq q]; rfl
  | .inr _ :: _, is, h => by simp [toIntK] at h
section
variable {X : Cx} {W : WG} {k : Nat} {pos : Pos} {a b c e : Expr} {es : List Expr} {φ φa φb φc : Den} {φs : List Den} {p0 : Pos}
def bSorted : List D → Sto → Out D
  | [d], st => match (dicV d st).bind fun x => toIntK x.1 with
    | some is => if is.length < 64 then .ok (.lst ((isrt is).map .int)) st else .bad
    | none => match (view d st).bind toInts with
      | some is => .ok (.lst ((isrt is).map .int)) st
      | none => .bad
  | _, _ => .bad
theorem zip_fst {α β γ : Type} {ks : List α} {vs : List β} {ds : List γ} (h : ks.length = ds.length) (h2 : ds.length = vs.length) : (ks.zip vs).map (·.1) = ks := by
  rw [List.map_fst_zip]; omega
theorem reps_intsL {K : Frag} {p : Pt} : ∀ ns : List Int, Reps K p (ns.map D.int) (ns.map V.int)
  | [] => .nil
  | n :: ns => .cons (.int n) (reps_intsL ns)
theorem pev_sorted (o : Ok X W k) (hm : X.mg "sorted" = none) (ha : PAv X W (e :: es) φs) (hg : Gl X "sorted" := by rfl)
    (he : starEach (e :: es) X.env = (false, eval e X.env) :: starEach es X.env := by rfl) (hpl : (backTo pos (starEach es X.env)).any (·.1) = false := by rfl) : PEv X W (.Call (.Name "sorted" p0) (e :: es) [] pos) (dCall bSorted φs) :=
  pev_callB ((call_sortedDI o.calm).or cr_sortedI) (fun p st xs vs Q E r s h => by
    have lay : ∀ {is ns' : List Int} {l : Addr}, ns'.Perm is → ns'.Pairwise (· ≤ ·) → p.H l = none → Aft (Rep X.K) (Cx.g X) p (.ok (.lst ((isrt is).map .int)) st) Q E → Q (.ref l) (upd p.H l (.lst (ns'.map V.int))) := by
      intro is ns' l hp hu hl h
      obtain rfl := up_uniq hu (isrt_up is) (hp.trans (isrt_perm is).symm)
      exact h (p.laid l _ hl) _ (Ext.laid hl) (.lst upd_same (s.nh hl) (reps_intsL _)) (s.laid hl)
    unfold bSorted at h
    split at h
    · obtain ⟨v, rfl, r'⟩ := reps1 r
      split at h
      · rename_i is hi
        obtain ⟨⟨ks, ds⟩, q1, q2⟩ := Option.bind_eq_some_iff.mp hi
        split at h
        · rename_i hl
          obtain ⟨A, ws, rfl, g1, g2, g3⟩ := dicV_rep (G := Cx.g X) q1 r' s
          exact .inl ⟨A, _, is, rfl, .inl g1, (zip_fst g2 g3.length).trans (toIntK_eq q2), hl, fun ys l hp hu hl => lay hp hu hl h⟩
        · exact h.elim
      · split at h
        · rename_i is hi
          obtain ⟨ds, q1, q2⟩ := Option.bind_eq_some_iff.mp hi
          obtain ⟨A, ws, rfl, g1, g2⟩ := view_rep (G := Cx.g X) q1 r' s
          have z := toInts_rep q2 g2
          subst z
          exact .inr ⟨A, is, rfl, g1, fun ys l hp hu hl => lay hp hu hl h⟩
        · exact h.elim
    · exact h.elim) hm PyProof.Rows.boot_sorted ha hg (by decide) (by decide) he hpl

/-! ### zip of two tuples, of two lists that are no cells -/
def zipP (xs ys : List D) : List D := (xs.zip ys).map fun p => .tup [p.1, p.2]
def zipIt : List D → Sto → Out (List D)
  | [.tup xs, .tup ys], st => .ok (zipP xs ys) st
  | [.lst xs, .lst ys], st => .ok (zipP xs ys) st
  | _, _ => .bad
def dItZ (φs : List Den) : DenI := fun env st => (evL φs env st).bind zipIt
theorem zipP_get {xs ys : List D} {i : Nat} {d : D} (h : (zipP xs ys)[i]? = some d) : ∃ x y, xs[i]? = some x ∧ ys[i]? = some y ∧ d = .tup [x, y] := by
  unfold zipP at h
  rw [List.getElem?_map] at h
  cases q : (xs.zip ys)[i]? with
  | none => rw [q] at h; cases h
  | some z =>
    rw [q] at h
    cases h
    obtain ⟨h1, h2⟩ := List.getElem?_zip_eq_some.mp q
    exact ⟨z.1, z.2, h1, h2, rfl⟩
theorem zipP_len (xs ys : List D) : (zipP xs ys).length = min xs.length ys.length := by simp [zipP]
theorem walks_zipT {G : Cg} {p : Pt} {A B : Addr} {xs ys : List D} {vs ws : List V} (e1 : STup G.K p A vs) (r1 : Reps G.K p xs vs) (e2 : STup G.K p B ws) (r2 : Reps G.K p ys ws) : Walks G (RZ.ItzT G.K A B) p (zipP xs ys) := fun i q ex => by
  have h1 := (e1.mo ex).sq
  have h2 := (e2.mo ex).sq
  refine ⟨fun d hd => ?_, fun hl => ⟨vs, ws, h1, h2, by rw [zipP_len] at hl; rw [← r1.length, ← r2.length]; omega⟩⟩
  obtain ⟨x, y, hx, hy, rfl⟩ := zipP_get hd
  obtain ⟨v, hv, rv⟩ := (r1.mo ex).get hx
  obtain ⟨w, hw, rw'⟩ := (r2.mo ex).get hy
  refine ⟨⟨vs, ws, v, w, h1, h2, hv, hw⟩, fun z H'' yl st hs => ?_⟩
  obtain ⟨T, v', w', rfl, hT, rfl, f1, f2⟩ := yl
  have z1 := f1 vs h1
  have z2 := f2 ws h2
  rw [hv] at z1; rw [hw] at z2
  cases z1; cases z2
  have ee := Ext.laid (p := q) (o := .tup [v, w]) hT
  exact ⟨q.laid T (.tup [v, w]) hT, rfl, ee, .tup (.inl ⟨.inl upd_same, hs.nh hT⟩) (.cons (rv.mono ee) (.cons (rw'.mono ee) .nil)), hs.laid hT⟩
theorem walks_zipL {G : Cg} {p : Pt} {A B : Addr} {xs ys : List D} {vs ws : List V} (e1 : ∀ q, Mo p q → SqL G.K q.H A vs) (r1 : Reps G.K p xs vs) (e2 : ∀ q, Mo p q → SqL G.K q.H B ws) (r2 : Reps G.K p ys ws) : Walks G (L2.Itz G.K A B) p (zipP xs ys) := fun i q ex => by
  have h1 := e1 q ex
  have h2 := e2 q ex
  refine ⟨fun d hd => ?_, fun hl => ⟨vs, ws, h1, h2, by rw [zipP_len] at hl; rw [← r1.length, ← r2.length]; omega⟩⟩
  obtain ⟨x, y, hx, hy, rfl⟩ := zipP_get hd
  obtain ⟨v, hv, rv⟩ := (r1.mo ex).get hx
  obtain ⟨w, hw, rw'⟩ := (r2.mo ex).get hy
  refine ⟨⟨vs, ws, v, w, h1, h2, hv, hw⟩, fun z H'' yl st hs => ?_⟩
  obtain ⟨T, v', w', rfl, hT, rfl, f1, f2⟩ := yl
  have z1 := f1 vs h1
  have z2 := f2 ws h2
  rw [hv] at z1; rw [hw] at z2
  cases z1; cases z2
  have ee := Ext.laid (p := q) (o := .tup [v, w]) hT
  exact ⟨q.laid T (.tup [v, w]) hT, rfl, ee, .tup (.inl ⟨.inl upd_same, hs.nh hT⟩) (.cons (rv.mono ee) (.cons (rw'.mono ee) .nil)), hs.laid hT⟩
theorem piv_zip {elts : List Expr} {kk : Nat} {tpos p : Pos} (hm : X.mg "zip" = none) (ha : PAv X W [a, b] φs) (hg : Gl X "zip" := by rfl)
    (hs : starEach [a, b] X.env = (false, eval a X.env) :: starEach [b] X.env := by rfl) (hpl : (backTo pos (starEach [b] X.env)).any (·.1) = false := by rfl) :
    PIv X W (.Tuple elts kk tpos) (.Call (.Name "zip" p) [a, b] [] pos) (dItZ φs) :=
  piv_of (RZ.pi_zipA hg hm ha hs hpl) fun σ R p env st hE hS h => by
    refine (tL.run hE hS h).mono fun vs H1 ⟨p1, ds, st1, z1, e1, r1, s1, h1⟩ => ?_
    subst z1
    unfold zipIt at h1
    split at h1
    · obtain ⟨v, w, rfl, ra, rb⟩ := reps2 r1
      cases ra with
      | tup ea qa =>
        cases rb with
        | tup eb qb => exact ⟨_, _, _, _, rfl, .inr ⟨ea.sq, eb.sq, h1.now (walks_zipT ea qa eb qb) s1⟩⟩
    · obtain ⟨v, w, rfl, ra, rb⟩ := reps2 r1
      cases ra with
      | lst ea na qa =>
        cases rb with
        | lst eb nb qb =>
          have fa : ∀ q, Mo p1 q → SqL X.K q.H _ _ := fun q ex => SqL.of (q.sub _ _ (ex.keep _ _ ea na))
          have fb : ∀ q, Mo p1 q → SqL X.K q.H _ _ := fun q ex => SqL.of (q.sub _ _ (ex.keep _ _ eb nb))
          exact ⟨_, _, _, _, rfl, .inl ⟨fa _ .refl, fb _ .refl, h1.now (walks_zipL fa qa fb qb) s1⟩⟩
    · exact h1.elim

/-! ### items some of which are starred -/
abbrev DenL := En → Sto → Out (List D)
def tLw (G : Cg) (W : WG) (φ : DenL) : TA := fun σ H Q => ∃ p env st, p.H = H ∧ RepE G.K W p env σ ∧ RepS G.K p st ∧ Aft (Reps G.K) G p (φ env st) Q (wAt W σ)
def PAw (X : Cx) (W : WG) (es : List Expr) (φ : DenL) : Prop := PA X es (tLw (Cx.g X) W φ)
theorem tLw.run {G : Cg} {φ : DenL} {σ : St} {p : Pt} {env : En} {st : Sto} {γ δ : Type} {R' : Pt → γ → δ → Prop} {k : List D → Sto → Out γ} {Q : δ → Hp → Prop} (hE : RepE G.K W p env σ) (hS : RepS G.K p st) (h : Aft R' G p ((φ env st).bind k) Q (wAt W σ)) :
    tLw G W φ σ p.H (fun v H1 => ∃ q d st1, q.H = H1 ∧ Ext p q ∧ Reps G.K q d v ∧ RepS G.K q st1 ∧ Aft R' G q (k d st1) Q (wAt W σ)) :=
  ⟨p, env, st, rfl, hE, hS, Aft.bind h⟩
theorem tLw.mono {G : Cg} {φ : DenL} {σ : St} {H : Hp} {Q Q' : List V → Hp → Prop} (h : tLw G W φ σ H Q) (hq : ∀ v H', Q v H' → Q' v H') : tLw G W φ σ H Q' :=
  let ⟨p, env, st, z, a, b, c⟩ := h
  ⟨p, env, st, z, a, b, c.mono hq⟩
def lNil : DenL := fun _ st => .ok [] st
def lCons (φ : Den) (φr : DenL) : DenL := fun env st => (φ env st).bind fun d st => (φr env st).bind fun ds st => .ok (d :: ds) st
def lStar (φ : Den) (φr : DenL) : DenL := fun env st => (φ env st).bind fun d st => match seqD d st with
  | some xs => (φr env st).bind fun ds st => .ok (xs ++ ds) st
  | none => .bad
theorem paw_nil : PAw X W [] lNil :=
  ⟨fun pos pins s σ H Q I ⟨p, env, st, z, hE, hS, h⟩ => (pa_nil (X := X)).run pos pins s σ H Q I (z ▸ h.now .nil hS)⟩
theorem paw_cons {φr : DenL} (ha : PEv X W e φ) (hr : PAw X W es φr) (hs : starEach (e :: es) X.env = (false, eval e X.env) :: starEach es X.env := by rfl) : PAw X W (e :: es) (lCons φ φr) :=
  ⟨fun pos pins s σ H Q I ⟨p, env, st, z, hE, hS, h⟩ => (pa_cons (X := X) ha hr hs).run pos pins s σ H Q I (by
    subst z
    refine (tD.run hE hS h).mono fun v H1 ⟨p1, d, st1, z1, e1, r1, s1, h1⟩ => ?_
    subst z1
    refine (tLw.run (hE.mono e1) s1 h1).mono fun vs H2 ⟨p2, ds, st2, z2, e2, r2, s2, h2⟩ => ?_
    subst z2
    exact h2.now (.cons (r1.mono e2) r2) s2)⟩
theorem paw_star {φr : DenL} {sp : Pos} (ha : PEv X W e φ) (hr : PAw X W es φr) (hs : starEach (.Starred e sp :: es) X.env = (true, eval e X.env) :: starEach es X.env := by rfl) : PAw X W (.Starred e sp :: es) (lStar φ φr) :=
  ⟨fun pos pins s σ H Q I ⟨p, env, st, z, hE, hS, h⟩ => (StX.pa_star (X := X) ha hr hs).run pos pins s σ H Q I (by
    subst z
    refine (tD.run hE hS h).mono fun v H1 ⟨p1, d, st1, z1, e1, r1, s1, h1⟩ => ?_
    subst z1
    split at h1
    · rename_i xs hx
      obtain ⟨A, ws, rfl, g1, g2⟩ := seqD_rep (G := Cx.g X) hx r1 s1
      refine ⟨A, ws, rfl, g1.symm, (tLw.run (hE.mono e1) s1 h1).mono fun vs H2 ⟨p2, ds, st2, z2, e2, r2, s2, h2⟩ => ?_⟩
      subst z2
      exact h2.now ((g2.mono e2).append r2) s2
    · exact h1.elim)⟩
def dTupW (φ : DenL) : Den := fun env st => (φ env st).bind oTup
def dLstW (φ : DenL) : Den := fun env st => (φ env st).bind oLst
theorem pev_tupW {φ : DenL} {x1} (h : PAw X W es φ) : PEv X W (.Tuple es x1 pos) (dTupW φ) :=
  pev_of (pe_tup h) fun σ Q p env st hE hS h => by
    refine (tLw.run hE hS h).mono fun vs H1 ⟨p1, ds, st1, z1, e1, r1, s1, h1⟩ => ?_
    subst z1
    unfold oTup at h1
    split at h1
    · rename_i hl
      exact ⟨by rw [← r1.length]; exact hl, fun a hp => h1 (p1.laid a _ hp) _ (Ext.laid hp) (.tup (.inl ⟨.inl upd_same, s1.nh hp⟩) (r1.mono (Ext.laid hp))) (s1.laid hp)⟩
    · exact h1.elim
theorem pev_lstW {φ : DenL} (h : PAw X W es φ) : PEv X W (.List es pos) (dLstW φ) :=
  pev_of (pe_lst h) fun σ Q p env st hE hS h => by
    refine (tLw.run hE hS h).mono fun vs H1 ⟨p1, ds, st1, z1, e1, r1, s1, h1⟩ => ?_
    subst z1
    unfold oLst at h1
    split at h1
    · rename_i hl
      exact ⟨by rw [← r1.length]; exact hl, fun a hp => h1 (p1.laid a _ hp) _ (Ext.laid hp) (.lst upd_same (s1.nh hp) (r1.mono (Ext.laid hp))) (s1.laid hp)⟩
    · exact h1.elim
end
end DL

/-! DL: own exceptions with one field: raised, caught. -/
namespace DL
open PySem PySem.Spec L2
open PyProof.Rows hiding St
set_option autoImplicit true
section
variable {X : Cx} {e : Expr} {es : List Expr} {ta : TA} {p1 p2 pos : Pos}
/-- B.__init__(self, ..), B a class of the program over ValueError -/
theorem pe_ocinit {pl : Sem Bool} {B : Addr} {x : Str} (hg : Gl X x) (hm : X.mg x = some (.ref B)) (g1 : PySem.W.specialIn X.K (.ref B) "__getattribute__" = some (some (.builtin "type.__getattribute__")))
    (g2 : PySem.W.readsIn X.K B (.type "type") = true) (g3 : PySem.W.findCls X.K (.ref B) (.type "type") "__init__" = some (.val (.builtin "ValueError.__init__"))) (ha : PA X (e :: es) ta)
    (hc : eval (.Call (.Attribute (.Name x p1) "__init__" p2) (e :: es) [] pos) X.env = (do
      let ov ← eval (.Name x p1) X.env
      standAt p2.atName
      let (f, first) ← holding [ov] (getMethod ov "__init__" pl)
      callWith pos f first (backTo pos (starEach (e :: es) X.env)) (backToKw pos (keywordEach [] X.env))) := by rfl) (hdb : (x == ("__debug__" : Str)) = false := by decide)
    (he : starEach (e :: es) X.env = (false, eval e X.env) :: starEach es X.env := by rfl) (hpl : (backTo pos (starEach es X.env)).any (·.1) = false := by rfl) :
    PE X (.Call (.Attribute (.Name x p1) "__init__" p2) (e :: es) [] pos) (tVeI X.K ta) := by
  refine ⟨fun pins s σ H Q I h => PySem.W.methodCall_KW (ld_glob I hg hm ?_ hdb) hc⟩
  refine PySem.W.method_cls I.kIn g1 (PySem.W.cls_value I.kIn g2 g3 (by decide +kernel) ?_)
  show wpAny _ _ (callWith pos (Value.builtin "ValueError.__init__") [] (backTo pos (starEach (e :: es) X.env)) []) _ _ _
  refine PyProof.Rows.callWith_method1 (thn (ha.run pos pins _ σ H _ (I.tok _) h) fun us s1 ⟨vs, H1, I1, r1, z⟩ => ?_) he hpl
  obtain ⟨A, C, ws, rfl, hl, T, ea, q⟩ := z
  cases r1 with
  | @cons _ u0 _ ur ra rr =>
    obtain rfl : u0 = Value.ref A := ra
    exact oinit_ok T I1 ea (by rw [← Paired.length rr, sizeLine_eq]; omega) fun s2 J => ⟨.non, H1, J, rfl, q⟩
end
/-- what __init__(self, y) promises: the field f is y -/
def spInit (C : Addr) (f : Str) : Sp := fun vs H Q _ => ∃ (a : Addr) (y : V), vs = [.ref a, y] ∧ H a = some (exo a C none) ∧ ∀ dx, H dx = none → dx ≠ a → Q .non (upd (upd H dx (exd dx [(f, y)])) a (exo a C (some dx)))
/-- x is a class over ValueError whose __init__ keeps its one argument as f -/
structure ClsE (P : Program) (w : World) (G : Cg) (base : Heap) (x f : Str) : Prop where
  ex : ∃ (C fI : Addr) (fd : FuncData) (ps : List Str), G.mg x = some (.ref C) ∧ OexC G.K C ∧ XfC G.K C ∧ PySem.W.findIn G.K (.ref C) f = some none ∧ PySem.W.findIn G.K (.ref C) "__init__" = some (some (.ref fI)) ∧
    PySem.W.typeIn G.K (.ref fI) = some (.type "function") ∧ FnOk P w G.K G.mg base (L2.CX P w) 1 fI fd ps (spInit C f) ∧ Binds G.K fd ps []
section
variable {X : Cx} {W : WG} {k : Nat} {pos : Pos} {a b c e : Expr} {es : List Expr} {φ φa φb φc : Den} {φs : List Den} {p0 : Pos}
def sRaise (x f : Str) (φ : Den) : DenS := fun env st => (φ env st).to env fun d st => some (.ex ⟨x, [(f, d)]⟩ env, st)
theorem psv_raise (o : Ok X W k) {x f : Str} {p pos' : Pos} (h : ClsE X.prog X.w (Cx.g X) X.base x f) (hk : 2 ≤ k) (he : PEv X W e φ) (hg : Gl X x := by rfl) (hdb : (x == ("__debug__" : Str)) = false := by decide)
    (hs : starEach [e] X.env = (false, eval e X.env) :: starEach [] X.env := by rfl) (hpl : (backTo pos (starEach [] X.env)).any (·.1) = false := by rfl) :
    PSv X W (.Raise (some (.Call (.Name x p) [e] [] pos)) none pos') (sRaise x f φ) := by
  obtain ⟨C, fI, fd, ps, hm, T, xf, hno, iC, tI, F1, hb⟩ := h.ex
  refine psv_of (ps_raise o.calm o.tk (pmk_oex (dvs := []) (ds := []) T iC tI F1 (o.room.mono hk) hb .nil passL hg hm (pa_cons he pa_nil hs) hdb hs hpl)) fun Z σ p env st hE hS h => ?_
  refine (tD.to hE hS h).mono fun v H1 ⟨p1, d, st1, z1, e1, r1, s1, h1⟩ => ?_
  subst z1
  refine ⟨by show 1 ≤ 1000; decide, fun A hA => ⟨A, v, rfl, upd_same, fun dx hdx nA => ⟨rfl, dx, [(f, v)], upd_same, by rw [upd_ne nA]; exact upd_same, ?_, ?_⟩⟩⟩
  · rw [upd_ne nA] at hdx; exact hdx
  · have hd1 : p1.H dx = none := by rw [upd_ne nA] at hdx; exact hdx
    have z : upd (del (upd (upd (upd p1.H A (exo A C none)) dx (exd dx [(f, v)])) A (exo A C (some dx))) A) dx (.xd [(f, v)]) = (p1.laid dx (.xd [(f, v)]) hd1).H := by
      funext y
      show _ = upd p1.H dx (.xd [(f, v)]) y
      by_cases q : y = dx
      · rw [q, upd_same, upd_same]
      · rw [upd_ne q, upd_ne q]
        by_cases q2 : y = A
        · rw [q2, del_same, hA]
        · rw [del_ne q2, upd_ne q2, upd_ne q, upd_ne q2]
    rw [z]
    have ee := Ext.laid (p := p1) (o := .xd [(f, v)]) hd1
    exact h1 (p1.laid dx (.xd [(f, v)]) hd1) (.ex (.ref C) (some dx) σ) ee.mo (((hE.mono e1).mono ee).base) (.ex ⟨.inl hm, .inr ⟨dx, [v], rfl, s1.nh hd1, upd_same, .cons (r1.mono ee) .nil⟩⟩ ((hE.mono e1).mono ee)) (s1.laid hd1)

/-! ### in an except suite: what is told of the exception -/
abbrev DenX := XV → Sto → Out D
def tX (G : Cg) (i : Nat) (A : Addr) (cls : Value) (d : Option Addr) (φ : DenX) : TE := fun σ H Q => ∃ p x st, p.H = H ∧ σ[i]? = some (some (.ref A)) ∧ RepX G p x cls d ∧ RepS G.K p st ∧ Aft (Rep G.K) G p (φ x st) Q (fun _ _ _ => False)
def tXs (G : Cg) (i : Nat) (A : Addr) (cls : Value) (d : Option Addr) (φ : XV → Sto → Out (List D)) : TA := fun σ H Q => ∃ p x st, p.H = H ∧ σ[i]? = some (some (.ref A)) ∧ RepX G p x cls d ∧ RepS G.K p st ∧ Aft (Reps G.K) G p (φ x st) Q (fun _ _ _ => False)
/-- Y is the suite's context over X -/
def PXv (X : Cx) (i : Nat) (e : Expr) (φ : DenX) : Prop := ∀ (A : Addr) (oe : Obj) (cls : Value) (d : Option Addr) (pn : List (Addr × Obj)), Zc cls d oe → (∃ vs, oe.data = .fields vs) → PE (X.suite A ((A, oe) :: pn)) e (tX (Cx.g X) i A cls d φ)
def PXsv (X : Cx) (i : Nat) (es : List Expr) (φ : XV → Sto → Out (List D)) : Prop := ∀ (A : Addr) (oe : Obj) (cls : Value) (d : Option Addr) (pn : List (Addr × Obj)), Zc cls d oe → (∃ vs, oe.data = .fields vs) → PA (X.suite A ((A, oe) :: pn)) es (tXs (Cx.g X) i A cls d φ)
theorem RepX.mono {G : Cg} {p q : Pt} {x cls d} (e : Ext p q) (h : RepX G p x cls d) : RepX G q x cls d := by
  obtain ⟨h1, h2⟩ := h
  refine ⟨h1, ?_⟩
  rcases h2 with h2 | ⟨A, vs, a, b, c, r⟩
  · exact .inl h2
  · exact .inr ⟨A, vs, a, e.nn c b, e.keep _ _ c b, r.mono e⟩
def xC (d : D) : DenX := fun _ st => .ok d st
theorem pxv_str {i : Nat} {x j} : PXv X i (.Constant (.str x) j pos) (xC (.str x)) := fun A oe cls d pn hz hf =>
  ⟨fun pins s σ H Q I ⟨p, xv, st, z, hi, hx, hS, h⟩ => pe_str.run pins s σ H Q I (z ▸ h.now (.str x) hS)⟩
def lkX : List (Str × D) → Str → Option D
  | [], _ => none
  | (g, d) :: r, f => if f = g then some d else lkX r f
def xF (c f : Str) : DenX := fun x st => if x.c = c then match lkX x.fs f with
  | some d => .ok d st
  | none => .bad else .bad
theorem lkX_rep {K : Frag} {p : Pt} {f : Str} : ∀ {fs : List (Str × D)} {vs : List V} {d : D}, lkX fs f = some d → Reps K p (fs.map (·.2)) vs → ∃ v, ((fs.map (·.1)).zip vs).lookup f = some v ∧ Rep K p d v
  | [], _, d, h, _ => by simp [lkX] at h
  | (g, d') :: r, _, d, h, .cons (v := v) r1 rr => by
    unfold lkX at h
    show ∃ v', ((g, v) :: (r.map (·.1)).zip _).lookup f = some v' ∧ _
    by_cases q : f = g
    · rw [if_pos q] at h
      cases h
      subst q
      exact ⟨v, by simp, r1⟩
    · rw [if_neg q] at h
      obtain ⟨v', e, r'⟩ := lkX_rep h rr
      refine ⟨v', ?_, r'⟩
      rw [List.lookup_cons, beq_eq_false_iff_ne.mpr q]
      exact e
/-- n.f, n the exception's name -/
theorem pxv_fld (i : Nat) {n f c : Str} {np : Pos} {base : Heap} {P : Program} {w : World} (h : ClsE P w (Cx.g X) base c f) (hN : X.N[i]? = some n := by rfl) (hv : Vis X.env.scope n := by first | exact Or.inl rfl | exact Or.inr (Or.inl rfl) | exact Or.inr (Or.inr rfl))
    (hd : (n == ("__debug__" : Str)) = false := by decide) (hcd : (n == ("__classdict__" : Str)) = false := by decide) (hb : attributeBase (.Name n np) f X.env (eval (.Name n np) X.env) = eval (.Name n np) X.env := by rfl) :
    PXv X i (.Attribute (.Name n np) f pos) (xF c f) := fun A oe cls d pn hz hf => by
  obtain ⟨C, fI, fd, ps, hm, T, xf, hno, iC, tI, F1, hbd⟩ := h.ex
  have q := pe_xf (X := X) (a := A) (cls := cls) (d := d) (pn := pn) (pos := pos) xf hno hz hf (pe_var (X := X.suite A ((A, oe) :: pn)) (pos := np) hN hv hd hcd) hb
  refine ⟨fun pins s σ H Q I ⟨p, xv, st, z, hi, hx, hS, h⟩ => q.run pins s σ H Q I ⟨_, hi, rfl, ?_⟩⟩
  subst z
  unfold xF at h
  split at h
  · rename_i hc
    obtain ⟨hcls, hfs⟩ := hx
    have hC : cls = .ref C := by
      rw [hc] at hcls
      rcases hcls with y | ⟨y, _⟩
      · exact Option.some.inj (y.symm.trans hm)
      · exact nomatch (y.symm.trans hm)
    split at h
    · rename_i dd hl
      rcases hfs with ⟨y, _⟩ | ⟨A', vs, rfl, nr, hV, rr⟩
      · rw [y] at hl; simp [lkX] at hl
      · obtain ⟨v, e1, r1⟩ := lkX_rep hl rr
        exact ⟨hC, A', _, v, rfl, p.sub _ _ hV, e1, h.now r1 hS⟩
    · exact h.elim
  · exact h.elim
def xNil : XV → Sto → Out (List D) := fun _ st => .ok [] st
def xCons (φ : DenX) (φr : XV → Sto → Out (List D)) : XV → Sto → Out (List D) := fun x st => (φ x st).bind fun d st => (φr x st).bind fun ds st => .ok (d :: ds) st
theorem pxsv_nil {i : Nat} : PXsv X i [] xNil := fun A oe cls d pn hz hf =>
  ⟨fun pos pins s σ H Q I ⟨p, xv, st, z, hi, hx, hS, h⟩ => pa_nil.run pos pins s σ H Q I (z ▸ h.now .nil hS)⟩
theorem pxsv_cons {i : Nat} {φ : DenX} {φr : XV → Sto → Out (List D)} (ha : PXv X i e φ) (hr : PXsv X i es φr) (hs : starEach (e :: es) X.env = (false, eval e X.env) :: starEach es X.env := by rfl) : PXsv X i (e :: es) (xCons φ φr) := fun A oe cls d pn hz hf =>
  ⟨fun pos pins s σ H Q I ⟨p, xv, st, z, hi, hx, hS, h⟩ => (pa_cons (ha A oe cls d pn hz hf) (hr A oe cls d pn hz hf) hs).run pos pins s σ H Q I (by
    subst z
    refine ⟨p, xv, st, rfl, hi, hx, hS, (Aft.bind (R := Rep X.K) h).mono fun v H1 ⟨p1, d1, st1, z1, e1, r1, s1, h1⟩ => ?_⟩
    subst z1
    refine ⟨p1, xv, st1, rfl, hi, hx.mono e1, s1, (Aft.bind (R := Reps X.K) h1).mono fun vs H2 ⟨p2, ds, st2, z2, e2, r2, s2, h2⟩ => ?_⟩
    subst z2
    exact h2.now (.cons (r1.mono e2) r2) s2)⟩
def xTup (φ : XV → Sto → Out (List D)) : DenX := fun x st => (φ x st).bind oTup
def xLst (φ : XV → Sto → Out (List D)) : DenX := fun x st => (φ x st).bind oLst
theorem pxv_tup {i : Nat} {φ : XV → Sto → Out (List D)} {x1} (ha : PXsv X i es φ) : PXv X i (.Tuple es x1 pos) (xTup φ) := fun A oe cls d pn hz hf =>
  ⟨fun pins s σ H Q I ⟨p, xv, st, z, hi, hx, hS, h⟩ => (pe_tup (ha A oe cls d pn hz hf)).run pins s σ H Q I (by
    subst z
    refine ⟨p, xv, st, rfl, hi, hx, hS, (Aft.bind (R := Reps X.K) h).mono fun vs H1 ⟨p1, ds, st1, z1, e1, r1, s1, h1⟩ => ?_⟩
    subst z1
    unfold oTup at h1
    split at h1
    · rename_i hl
      exact ⟨by rw [← r1.length]; exact hl, fun a hp => h1 (p1.laid a _ hp) _ (Ext.laid hp) (.tup (.inl ⟨.inl upd_same, s1.nh hp⟩) (r1.mono (Ext.laid hp))) (s1.laid hp)⟩
    · exact h1.elim)⟩
theorem pxv_lst {i : Nat} {φ : XV → Sto → Out (List D)} (ha : PXsv X i es φ) : PXv X i (.List es pos) (xLst φ) := fun A oe cls d pn hz hf =>
  ⟨fun pins s σ H Q I ⟨p, xv, st, z, hi, hx, hS, h⟩ => (pe_lst (ha A oe cls d pn hz hf)).run pins s σ H Q I (by
    subst z
    refine ⟨p, xv, st, rfl, hi, hx, hS, (Aft.bind (R := Reps X.K) h).mono fun vs H1 ⟨p1, ds, st1, z1, e1, r1, s1, h1⟩ => ?_⟩
    subst z1
    unfold oLst at h1
    split at h1
    · rename_i hl
      exact ⟨by rw [← r1.length]; exact hl, fun a hp => h1 (p1.laid a _ hp) _ (Ext.laid hp) (.lst upd_same (s1.nh hp) (r1.mono (Ext.laid hp))) (s1.laid hp)⟩
    · exact h1.elim)⟩

/-! ### try: .. except c as n: return e -/
def catT : List (Str × Bool) → Str → Option Bool
  | [], _ => none
  | (c, b) :: r, x => if x = c then some b else catT r x
/-- the class x, and what it catches -/
structure Catch (G : Cg) (x : Str) (tbl : List (Str × Bool)) : Prop where
  ex : ∃ cH, G.mg x = some cH ∧ ∀ c b, catT tbl c = some b → ∃ cls, G.mg c = some cls ∧ PySem.W.exmOne G.K cls cH = some b
def sTryR (i : Nat) (tbl : List (Str × Bool)) (θ : DenS) (φ : DenX) : DenS := fun env st => match θ env st with
  | some (.ex x env', st') => match catT tbl x.c with
    | some true => if i < env'.length then (match φ x st' with
      | .ok d st2 => some (.rt d, st2)
      | _ => none) else none
    | some false => some (.ex x env', st')
    | none => none
  | o => o
theorem Ok.tr (o : Ok X W k) {W' : WG} {pn : List (Addr × Obj)} {xe : Value → Shared → Prop} (tk : Takes (X.tr pn xe) W'.w) (po : PassesOwn (model X.prog X.w) X.A X.env xe) : Ok (X.tr pn xe) W' k := ⟨o.calm, o.nd, o.room, tk, po, o.gd⟩
theorem psv_tryR (o : Ok X W k) (i : Nat) {x n : Str} {body : List Stmt} {re : Expr} {np rp pos' : Pos} {θ : DenS} {φ : DenX} {tbl : List (Str × Bool)} (h : Catch (Cx.g X) x tbl)
    (hb : ∀ (W' : WX) (pn : List (Addr × Obj)) (xe : Value → Shared → Prop), Ok (X.tr pn xe) ⟨W', W.p0, W.lam⟩ k → PBv (X.tr pn xe) ⟨W', W.p0, W.lam⟩ body θ) (he : PXv X i re φ)
    (hs : X.stack = X.env :: X.outer := by rfl) (hf : X.env.frame = some X.env.locals := by rfl) (hi : X.N[i]? = some n := by rfl) (hln : X.env.kindOf n = some .local := by rfl) (hg : Gl X x := by rfl) (hdb : (x == ("__debug__" : Str)) = false := by decide) :
    PSv X W (.Try body [.ExceptHandler (some (.Name x np)) (some n) [.Return (some re) rp] pos'] [] [] pos) (sTryR i tbl θ φ) := by
  obtain ⟨cH, hm, ht⟩ := h.ex
  refine psv_of (ps_try_as (tb := fun W' => sD (Cx.g X) ⟨W', W.p0, W.lam⟩ θ) (ts := fun A cls d => fun D σ H => tX (Cx.g X) i A cls d φ σ H D.rt) hs hf o.nd hi hln ⟨hg, hdb, .inl hm⟩ o.tk
    (fun W' pn xe tk po => hb W' pn xe (o.tr (W' := ⟨W', W.p0, W.lam⟩) tk po)) (fun A oe cls d pn hz hd => pss_one (ps_ret (he A oe cls d pn hz hd)))) fun Z σ p env st hE hS h => ?_
  refine ⟨p, env, st, rfl, hE.w, hS, ?_⟩
  unfold sTryR at h
  cases q : θ env st with
  | none => rw [q] at h; exact h
  | some out =>
    obtain ⟨fl, st'⟩ := out
    rw [q] at h
    cases fl with
    | nx e' => intro q' fv ex b rf rs; cases rf with | nx r => exact h q' _ ex b (.nx r.w) rs
    | rt d => intro q' fv ex b rf rs; cases rf with | rt r => exact h q' _ ex b (.rt r) rs
    | bk e' => intro q' fv ex b rf rs; cases rf with | bk r => exact h q' _ ex b (.bk r.w) rs
    | ct e' => intro q' fv ex b rf rs; cases rf with | ct r => exact h q' _ ex b (.ct r.w) rs
    | ex x env' =>
      dsimp only at h
      intro q' fv ex bb rf rs
      cases rf with
      | @ex _ _ σ' cls d rx re' =>
        cases ct : catT tbl x.c with
        | none => rw [ct] at h; exact h.elim
        | some b =>
          obtain ⟨cls', e1, e2⟩ := ht _ _ ct
          have ec : cls = cls' := by
            rcases rx.1 with y | ⟨y, _⟩
            · exact Option.some.inj (y.symm.trans e1)
            · exact nomatch (y.symm.trans e1)
          subst ec
          refine ⟨b, e2, fun hb A hA => ?_, fun hb => ?_⟩
          · subst hb
            rw [ct] at h
            dsimp only at h
            split at h
            case isFalse => exact h.elim
            rename_i hl
            have hi' : i < σ'.length := by rw [← re'.len]; exact hl
            refine ⟨q', x, st', rfl, by rw [List.getElem?_set_self hi'], rx, rs, ?_⟩
            cases fx : φ x st' with
            | bad => rw [fx] at h; exact h.elim
            | exc y s => rw [fx] at h; exact h.elim
            | ok dd st2 =>
              rw [fx] at h
              exact fun q2 v ex2 rv rs2 => h q2 (.rt v) (ex.trans ex2.mo) (bb.trans ex2) (.rt rv) rs2
          · subst hb
            rw [ct] at h
            exact h q' _ ex bb (.ex rx re'.w) rs
end
end DL
namespace DL
open PySem PySem.Spec L2
open PyProof.Rows hiding St
set_option autoImplicit true
/-- what is written of a class x over bn, a class over ValueError; sI: its __init__ -/
structure ClsF (G : Cg) (x f bn qual : Str) (sI : Stmt) (ps : List Str) : Prop where
  ex : ∃ (C B fI : Addr) (fd : FuncData), G.mg x = some (.ref C) ∧ G.mg bn = some (.ref B) ∧ OexC G.K C ∧ XfC G.K C ∧ PySem.W.findIn G.K (.ref C) f = some none ∧ PySem.W.findIn G.K (.ref C) "__init__" = some (some (.ref fI)) ∧
    PySem.W.typeIn G.K (.ref fI) = some (.type "function") ∧ Fun G.K "__init__" qual sI fI fd ∧ (∀ us : List Value, us.length = ps.length → bindArgs fd ⟨us, []⟩ = pure (ps.zip us)) ∧
    PySem.W.specialIn G.K (.ref B) "__getattribute__" = some (some (.builtin "type.__getattribute__")) ∧ PySem.W.readsIn G.K B (.type "type") = true ∧ PySem.W.findCls G.K (.ref B) (.type "type") "__init__" = some (.val (.builtin "ValueError.__init__"))
theorem clsF_mk {K : Frag} {h : Heap} {mg : Str → Option Value} {x f bn qual : Str} {sI : Stmt} {ps : List Str} {C B fI N : Addr} {nm q : Str} {bs bm sub : List Value} {sn : List Str} {ab : Bool} {col : Option Bool} {dd : Option Addr} {k0 k1 k2 k3 k5 : Option Value}
    {oc : Value} {od an : Option Addr} {osl : Array (Option Value)} {kV doc pm cdv ct : Value} (X : K.In h) (G : h.Ns mainGlobals mg)
    (hb : ∀ (kV doc pm : Value) (an : Option Addr) (cdv ct : Value) (us : List Value), us.length = ps.length → bindArgs (PySem.W.fnOf "__init__" qual (defArgs sI) (defBody sI) (defScope sI) .none kV doc pm an cdv ct) ⟨us, []⟩ = pure (ps.zip us))
    (a1 : PySem.W.nsIn K mainGlobals x = some (some (.ref C))) (a2 : PySem.W.nsIn K mainGlobals bn = some (some (.ref B)))
    (a3 : K.lookup C = some (excClassObj nm q C N bs bm true sn sub ab col dd k0 k1 k2 k3 k5 "ValueError.__new__")) (a4 : PySem.HandSPX.refsVE bm = true) (a5 : PySem.W.findIn K (.ref C) "__setattr__" = some (some (.builtin "object.__setattr__")))
    (a6 : PySem.W.subIn K (.ref C) (.type "BaseException") = some true) (a7 : PySem.W.typeIn K (.ref C) = some (.type "type")) (a8 : PySem.W.keepIn K (.ref C) = true)
    (b1 : xfB K C = true) (b2 : PySem.W.findIn K (.ref C) f = some none) (b3 : PySem.W.findIn K (.ref C) "__init__" = some (some (.ref fI))) (b4 : PySem.W.typeIn K (.ref fI) = some (.type "function"))
    (l : K.lookup fI = some ⟨oc, od, .func (PySem.W.fnOf "__init__" qual (defArgs sI) (defBody sI) (defScope sI) .none kV doc pm an cdv ct), osl⟩) (c : PySem.W.codeIn K cdv qual = true) (k : PySem.W.keepIn K (.ref fI) = true)
    (d1 : PySem.W.specialIn K (.ref B) "__getattribute__" = some (some (.builtin "type.__getattribute__"))) (d2 : PySem.W.readsIn K B (.type "type") = true) (d3 : PySem.W.findCls K (.ref B) (.type "type") "__init__" = some (.val (.builtin "ValueError.__init__"))) :
    ClsF ⟨K, mg⟩ x f bn qual sI ps :=
  ⟨C, B, fI, _, PySem.W.mg_of X G a1, PySem.W.mg_of X G a2, ⟨⟨nm, q, N, bs, bm, sn, sub, ab, col, dd, k0, k1, k2, k3, k5, a3, a4⟩, a5, a6, a7, a8⟩, xfB_ok b1, b2, b3, b4, fun_mk l c k, hb kV doc pm an cdv ct, d1, d2, d3⟩
/-- .. the class, once its __init__ is walked -/
theorem clsE_of {P : Program} {w : World} {G : Cg} {base : Heap} {x f bn qual : Str} {sI : Stmt} {ps : List Str} (h : ClsF G x f bn qual sI ps) (S : FnScope ps ps (defScope sI)) (h2 : ps.length = 2)
    (body : ∀ (X : Cx) (B : Addr), X.K = G.K → X.mg = G.mg → (∃ f cdv A outer s H E, X = cxOf (L2.CX P w) P w G.K G.mg base ps qual (defScope sI) f cdv A outer s H E) → G.mg bn = some (.ref B) →
      PySem.W.specialIn X.K (.ref B) "__getattribute__" = some (some (.builtin "type.__getattribute__")) → PySem.W.readsIn X.K B (.type "type") = true → PySem.W.findCls X.K (.ref B) (.type "type") "__init__" = some (.val (.builtin "ValueError.__init__")) →
      PSs X (defBody sI) (fun D σ H => ∃ (a C : Addr) (y : V), σ[0]? = some (some (.ref a)) ∧ σ[1]? = some (some y) ∧ OexC X.K C ∧ PySem.W.findIn X.K (.ref C) f = some none ∧ H a = some (exo a C none) ∧ ∀ dx, H dx = none → dx ≠ a → D.nx σ (upd (upd H dx (exd dx [(f, y)])) a (exo a C (some dx))))) :
    ClsE P w G base x f := by
  obtain ⟨C, B, fI, fd, e1, e2, T, xf, hno, e3, e4, Fu, hbd, d1, d2, d3⟩ := h.ex
  refine ⟨C, fI, fd, ps, e1, T, xf, hno, e3, e4, ?_, .all hbd⟩
  refine Fun.okX (k := 0) Fu S (fun vs H Q E ⟨a, y, ev, _⟩ => by rw [ev, h2]; rfl) fun cdv A outer s H vs Q E hr ⟨a, y, ev, ea, hq⟩ => ?_
  subst ev
  refine ⟨_, body _ B rfl rfl ⟨fI, cdv, A, outer, s, H, E, rfl⟩ e2 d1 d2 d3, a, C, y, ?_, ?_, T, hno, ea, hq⟩
  · rfl
  · rfl
theorem pss_init {X : Cx} {f : Str} {s1 s2 : Stmt} {t1 : TS} (h1 : PS X s1 t1) (h2 : PS X s2 (tOst X.K f (tVar 0) (tVar 1)))
    (i : ∀ (D : Ends) σ H, (∃ (a C : Addr), σ[0]? = some (some (.ref a)) ∧ OexC X.K C ∧ H a = some (exo a C none) ∧ D.nx σ H) → t1 D σ H) :
    PSs X [s1, s2] (fun D σ H => ∃ (a C : Addr) (y : V), σ[0]? = some (some (.ref a)) ∧ σ[1]? = some (some y) ∧ OexC X.K C ∧ PySem.W.findIn X.K (.ref C) f = some none ∧ H a = some (exo a C none) ∧ ∀ dx, H dx = none → dx ≠ a → D.nx σ (upd (upd H dx (exd dx [(f, y)])) a (exo a C (some dx)))) :=
  ⟨fun pins s σ H D I ⟨a, C, y, g0, g1, T, hno, ea, hq⟩ => (pss_cons h1 (pss_one h2)).run pins s σ H D I (i _ _ _ ⟨a, C, g0, T, ea, y, g1, .ref a, g0, a, C, rfl, T, hno, .inl ⟨ea, hq⟩⟩)⟩
/-- the statements of a class -/
def clsBody (s : Stmt) : List Stmt := match s with
  | .ClassDef _ _ _ b _ _ _ _ _ _ _ => b
  | _ => []
end DL

/-! DL: more ways to assign; blocks in blocks. -/
namespace DL
open PySem PySem.Spec L2
open PyProof.Rows hiding St
set_option autoImplicit true
theorem blkOk_in {X : Cx} {s : Shared} {H : Hp} {sc0 scope : Scope} {cl : List (Str × Addr)} {C : Addr} {fp : List Addr} {own : List (Str × Nat)} (N : List Str) (sc : Scope) (h : blkC N (relS sc0 sc) scope own = true) (hN : X.N = N := by rfl) (hsc : X.env.scope = sc := by rfl) :
    BlkOk (X.blk s H sc0 (compEnvC sc0 cl C X.env) fp).N (X.blk s H sc0 (compEnvC sc0 cl C X.env) fp).env.scope scope own := by
  subst hN; subst hsc
  exact blkOk_by h
section
variable {X : Cx} {W : WG} {k : Nat} {pos : Pos} {a b c e : Expr} {es : List Expr} {φ φa φb φc : Den} {φs : List Den} {p0 : Pos}
def sPar3 (i j l : Nat) (φs : List Den) : DenS := fun env st => (evL φs env st).to env fun ds st => match ds with
  | [a, b, c] => some (.nx (((env.set i (some a)).set j (some b)).set l (some c)), st)
  | _ => none
theorem psv_par3 (o : Ok X W k) (i j l : Nat) {x y z : Str} {px py pz pt : Pos} {kt k2 pt2} (ha : PAv X W [a, b, c] φs) (hi : X.N[i]? = some x := by rfl) (hj : X.N[j]? = some y := by rfl) (hl : X.N[l]? = some z := by rfl) (hij : i ≠ j := by decide) (hil : i ≠ l := by decide) (hjl : j ≠ l := by decide)
    (hx : X.env.scope.names.lookup x = some .local := by rfl) (hy : X.env.scope.names.lookup y = some .local := by rfl) (hz : X.env.scope.names.lookup z = some .local := by rfl)
    (hw : swappedStores [.Tuple [.Name x px, .Name y py, .Name z pz] kt pt] (.Tuple [a, b, c] k2 pt2) X.env = pure (some [x, y, z]) := by rfl)
    (hs : swapsWithSole [.Tuple [.Name x px, .Name y py, .Name z pz] kt pt] (.Tuple [a, b, c] k2 pt2) pos.line X.env = pure false := by rfl) :
    PSv X W (.Assign [.Tuple [.Name x px, .Name y py, .Name z pz] kt pt] (.Tuple [a, b, c] k2 pt2) pos) (sPar3 i j l φs) :=
  psv_of (ps_par3 o.calm o.nd hi hj hl hij hil hjl hx hy hz ha hw hs) fun Z σ p env st hE hS h => (tL.to hE hS h).mono fun vs H1 ⟨p1, ds, st1, z1, e1, r1, s1, h1⟩ => by
    subst z1
    match ds, h1 with
    | [a, b, c], h1 =>
      cases r1 with
      | cons ra rr =>
        cases rr with
        | cons rb rr =>
          cases rr with
          | cons rc rn =>
            cases rn
            exact ⟨_, _, _, rfl, h1.now (.nx ((((hE.mono e1).set i ra).set j rb).set l rc)) s1⟩
    | [], h1 => exact h1.elim
    | [_], h1 => exact h1.elim
    | [_, _], h1 => exact h1.elim
    | _ :: _ :: _ :: _ :: _, h1 => exact h1.elim
/-- targets = value -/
def sAsg (t : Pat) (φ : Den) : DenS := fun env st => (φ env st).to env fun d st => match t.set d env with
  | some env' => some (.nx env', st)
  | none => none
theorem psv_asg {tg : Expr} {t : Pat} (he : PEv X W e φ) (hg : PGv X W tg t) (hs : swapsWithSole [tg] e pos.line X.env = pure false := by rfl) (hw : swappedStores [tg] e X.env = pure none := by rfl)
    (h1 : (assignEach [tg] X.env).map (·.2) = [assign tg X.env] := by rfl) : PSv X W (.Assign [tg] e pos) (sAsg t φ) :=
  psv_of (ps_asg he hg hs hw h1) fun Z σ p env st hE hS h => (tD.to hE hS h).mono fun v H1 ⟨p1, d, st1, z1, e1, r1, s1, h1⟩ => by
    subst z1
    split at h1
    · rename_i env' hp
      exact ⟨p1, d, env, env', rfl, r1, hE.mono e1, hp, fun σ' hE' _ => h1.now (.nx hE') s1⟩
    · exact h1.elim
/-- xs + ys, the new list a cell -/
def oAddP : D → D → Sto → Out D := fun a b st => match oAdd.vieS a st, oAdd.vieS b st with
  | some xs, some ys => if xs.length + ys.length ≤ sizeLine then .ok (.ptr st.length) (st ++ [.lst (xs ++ ys)]) else .bad
  | _, _ => .bad
theorem d_addP {G : Cg} : Op2 G oAddP rCat := by
  intro p st x y v u Q E rx ry s h
  unfold oAddP at h
  split at h
  · rename_i xs ys hx hy
    obtain ⟨a, vs, rfl, ha, ra⟩ := vieS_rep hx rx s
    obtain ⟨b, us, rfl, hb, rb⟩ := vieS_rep hy ry s
    split at h
    · rename_i hl
      refine ⟨a, b, vs, us, rfl, rfl, ha, hb, by rw [← ra.length, ← rb.length]; exact hl, fun c hc => ?_⟩
      exact h (p.cell c _ hc) _ (Ext.cell hc) (.ptr (by show (p.rho ++ [c])[st.length]? = some c; rw [s.len]; simp)) (s.cell hc ⟨_, upd_same, (ra.append rb).mono (Ext.cell hc)⟩)
    · exact h.elim
  · exact h.elim
theorem pev_addP (ha : PEv X W a φa) (hb : PEv X W b φb) : PEv X W (.BinOp a .Add b pos) (dOp2 oAddP φa φb) := pev_bin op_cat d_addP ha hb
end
end DL

/-! DL: lists and dicts that one slot alone holds: made, written, looked at, frozen. -/
namespace DL
open PySem PySem.Spec L2
open PyProof.Rows hiding St
set_option autoImplicit true
section
variable {K : Frag} {W : WG} {p : Pt} {env : En} {σ : St} {i : Nat}
theorem RepE.ownL (hE : RepE K W p env σ) {ds : List D} (h : env[i]? = some (some (.ol ds))) : ∃ a vs, σ[i]? = some (some (.ref a)) ∧ p.V a = none ∧ p.H a = some (.lst vs) ∧ Reps K p ds vs ∧ W.p0.H a = none := by
  obtain ⟨v, hv, r⟩ := hE.at_ i _ h
  cases r with
  | rep r => cases r
  | ol h1 h2 h3 h4 => exact ⟨_, _, hv, h1, h2, h3, h4⟩
theorem RepE.ownD (hE : RepE K W p env σ) {ks : List Key} {ds : List D} (h : env[i]? = some (some (.od ks ds))) : ∃ a vs, σ[i]? = some (some (.ref a)) ∧ p.V a = none ∧ p.H a = some (.dK (ks.zip vs)) ∧ ks.length = ds.length ∧ Reps K p ds vs ∧ W.p0.H a = none := by
  obtain ⟨v, hv, r⟩ := hE.at_ i _ h
  cases r with
  | rep r => cases r
  | od h1 h2 h3 h4 h5 => exact ⟨_, _, hv, h1, h2, h3, h4, h5⟩
/-- the slot's own thing is another one from now on -/
theorem RepE.wrO (hE : RepE K W p env σ) {d d' : D} {a : Addr} {o : HO} {n hc} (hi : env[i]? = some (some d)) (hp : plainD d = false) (hl : d ≠ .lam) (hs : σ[i]? = some (some (.ref a))) (h0 : W.p0.H a = none) (r : RepV K W (p.over a o n hc) d' (.ref a)) :
    RepE K W (p.over a o n hc) (env.set i (some d')) σ := by
  have hil : i < env.length := (List.getElem?_eq_some_iff.mp hi).1
  refine ⟨by simpa using hE.len, hE.base.over h0, fun j x q => ?_, fun j k x y b q1 n1 l1 q2 n2 l2 s1 s2 => ?_⟩
  · rcases set_get q with ⟨rfl, e⟩ | ⟨hj, q⟩
    · cases e; exact ⟨_, hs, r⟩
    · obtain ⟨v, hv, rv⟩ := hE.at_ j x q
      refine ⟨v, hv, ?_⟩
      have ne : ∀ b, plainD x = false → x ≠ .lam → v = .ref b → b ≠ a := fun b hx hxl e z => by
        subst e; subst z
        exact hj (hE.inj i j d x b hi hp hl q hx hxl hs hv)
      cases rv with
      | rep rv => exact .rep (rv.mo Mo.over)
      | ol h1 h2 h3 h4 => exact .ol h1 (by show upd _ _ _ _ = _; rw [upd_ne (ne _ rfl (fun z => by cases z) rfl)]; exact h2) (h3.mo Mo.over) h4
      | od h1 h2 h3 h4 h5 => exact .od h1 (by show upd _ _ _ _ = _; rw [upd_ne (ne _ rfl (fun z => by cases z) rfl)]; exact h2) h3 (h4.mo Mo.over) h5
      | lam => exact .lam
  · have old : ∀ (j : Nat) (x : D) , (env.set i (some d'))[j]? = some (some x) → plainD x = false → x ≠ .lam → ∃ y, env[j]? = some (some y) ∧ plainD y = false ∧ y ≠ .lam := fun j x q n l => by
      rcases set_get q with ⟨rfl, e⟩ | ⟨hj, q⟩
      · exact ⟨d, hi, hp, hl⟩
      · exact ⟨x, q, n, l⟩
    obtain ⟨x', a1, a2, a3⟩ := old j x q1 n1 l1
    obtain ⟨y', b1, b2, b3⟩ := old k y q2 n2 l2
    exact hE.inj j k x' y' b a1 a2 a3 b1 b2 b3 s1 s2
/-- .. is seen by all from now on, and never written again -/
theorem RepE.frz (hE : RepE K W p env σ) {d d' : D} {a : Addr} {o : HO} {h ht} (hi : env[i]? = some (some d)) (hp : plainD d = false) (hl : d ≠ .lam) (hs : σ[i]? = some (some (.ref a))) (hv : p.V a = none) (h0 : W.p0.H a = none) (r : Rep K (p.see a o h ht) d' (.ref a)) :
    RepE K W (p.see a o h ht) (env.set i (some d')) σ := by
  refine ⟨by simpa using hE.len, hE.base.see hv h0, fun j x q => ?_, fun j k x y b q1 n1 l1 q2 n2 l2 s1 s2 => ?_⟩
  · rcases set_get q with ⟨rfl, e⟩ | ⟨hj, q⟩
    · cases e; exact ⟨_, hs, .rep r⟩
    · obtain ⟨v, hv', rv⟩ := hE.at_ j x q
      refine ⟨v, hv', ?_⟩
      have ne : ∀ b, plainD x = false → x ≠ .lam → v = .ref b → b ≠ a := fun b hx hxl e z => by
        subst e; subst z
        exact hj (hE.inj i j d x b hi hp hl q hx hxl hs hv')
      cases rv with
      | rep rv => exact .rep (rv.mo (Mo.see hv))
      | ol h1 h2 h3 h4 => exact .ol (by show upd _ _ _ _ = _; rw [upd_ne (ne _ rfl (fun z => by cases z) rfl)]; exact h1) h2 (h3.mo (Mo.see hv)) h4
      | od h1 h2 h3 h4 h5 => exact .od (by show upd _ _ _ _ = _; rw [upd_ne (ne _ rfl (fun z => by cases z) rfl)]; exact h1) h2 h3 (h4.mo (Mo.see hv)) h5
      | lam => exact .lam
  · rcases set_get q1 with ⟨rfl, e⟩ | ⟨hj, q1⟩
    · cases e; rw [r.plain] at n1; cases n1
    · rcases set_get q2 with ⟨rfl, e⟩ | ⟨hk, q2⟩
      · cases e; rw [r.plain] at n2; cases n2
      · exact hE.inj j k x y b q1 n1 l1 q2 n2 l2 s1 s2
/-- a new thing for a slot -/
theorem RepE.newO {q : Pt} (hE : RepE K W p env σ) (e : Ext p q) {d : D} {a : Addr} (ha : p.H a = none) (r : RepV K W q d (.ref a)) : RepE K W q (env.set i (some d)) (σ.set i (some (.ref a))) :=
  (hE.mono e).put i r fun j x b _ _ _ hj hx hxl eb hs => by
    cases eb
    obtain ⟨v, hv, rv⟩ := hE.at_ j x hj
    rw [hs] at hv
    cases hv
    cases rv with
    | rep rv => rw [rv.plain] at hx; cases hx
    | ol h1 h2 => rw [ha] at h2; cases h2
    | od h1 h2 => rw [ha] at h2; cases h2
    | lam => exact hxl rfl
end
/-! ### frozen ahead of a statement -/
def frzE (env : En) (i : Nat) : En := match env[i]? with
  | some (some (.ol ds)) => env.set i (some (.lst ds))
  | some (some (.od ks ds)) => env.set i (some (.dic ks ds))
  | _ => env
def sFrz (i : Nat) (θ : DenS) : DenS := fun env st => θ (frzE env i) st
section
variable {X : Cx} {W : WG} {k : Nat} {pos : Pos} {a b c e : Expr} {es : List Expr} {s : Stmt} {ss : List Stmt} {φ φa φb φc : Den} {φs : List Den} {p0 : Pos} {θ : DenS}
theorem frz_go {G : Cg} {i : Nat} {Z : Ends} {σ : St} {p : Pt} {env : En} {st : Sto} (hE : RepE G.K W p env σ) (hS : RepS G.K p st) (h : AftS G W p (sFrz i θ env st) Z) : ∃ q env', q.H = p.H ∧ RepE G.K W q env' σ ∧ RepS G.K q st ∧ AftS G W q (θ env' st) Z := by
  unfold sFrz frzE at h
  split at h
  · rename_i ds hi
    obtain ⟨a, vs, h1, h2, h3, h4, h5⟩ := hE.ownL hi
    exact ⟨p.see a _ h3, _, rfl, hE.frz hi rfl (fun z => by cases z) h1 h2 h5 (.lst upd_same (hS.ne h2) (h4.mo (Mo.see h2))), hS.see h2, h.mo (Mo.see h2)⟩
  · rename_i ks ds hi
    obtain ⟨a, vs, h1, h2, h3, h4, h5, h6⟩ := hE.ownD hi
    exact ⟨p.see a _ h3, _, rfl, hE.frz hi rfl (fun z => by cases z) h1 h2 h6 (.dic upd_same (hS.ne h2) h4 (h5.mo (Mo.see h2))), hS.see h2, h.mo (Mo.see h2)⟩
  · exact ⟨p, env, rfl, hE, hS, h⟩
theorem psv_frz (i : Nat) (h : PSv X W s θ) : PSv X W s (sFrz i θ) :=
  ⟨fun pins s σ H Z I ⟨p, env, st, z, hE, hS, q⟩ => h.run pins s σ H Z I (by
    obtain ⟨q', env', z', a, b, c⟩ := frz_go hE hS q
    exact ⟨q', env', st, z'.trans z, a, b, c⟩)⟩
theorem pbv_frz (i : Nat) (h : PBv X W ss θ) : PBv X W ss (sFrz i θ) :=
  ⟨fun pins s σ H Z I ⟨p, env, st, z, hE, hS, q⟩ => h.run pins s σ H Z I (by
    obtain ⟨q', env', z', a, b, c⟩ := frz_go hE hS q
    exact ⟨q', env', st, z'.trans z, a, b, c⟩)⟩
/-! ### made -/
def tNL (G : Cg) (W : WG) (φ : En → Sto → Out (List D)) : TE := fun σ H Q => ∃ p env st, p.H = H ∧ RepE G.K W p env σ ∧ RepS G.K p st ∧ AftN G p (φ env st) Q (wAt W σ)
/-- e makes a new list of the items φ -/
def PNv (X : Cx) (W : WG) (e : Expr) (φ : En → Sto → Out (List D)) : Prop := PE X e (tNL (Cx.g X) W φ)
def AftM (G : Cg) (p : Pt) (o : Out (List Key × List D)) (Q : VK) (E : XK) : Prop := match o with
  | .ok (ks, ds) st => ∀ q a vs, Ext p q → p.H a = none → q.V a = none → q.H a = some (.dK (ks.zip vs)) → ks.length = ds.length → Reps G.K q ds vs → RepS G.K q st → Q (.ref a) q.H
  | .exc x st => ∀ q cls dd, Ext p q → RepX G q x cls dd → RepS G.K q st → E cls dd q.H
  | .bad => False
def tNM (G : Cg) (W : WG) (φ : En → Sto → Out (List Key × List D)) : TE := fun σ H Q => ∃ p env st, p.H = H ∧ RepE G.K W p env σ ∧ RepS G.K p st ∧ AftM G p (φ env st) Q (wAt W σ)
/-- e makes a new dict -/
def PMv (X : Cx) (W : WG) (e : Expr) (φ : En → Sto → Out (List Key × List D)) : Prop := PE X e (tNM (Cx.g X) W φ)
abbrev DenN := En → Sto → Out (List D)
abbrev DenM := En → Sto → Out (List Key × List D)
def sNew (i : Nat) (φ : DenN) : DenS := fun env st => (φ env st).to env fun ds st => some (.nx (env.set i (some (.ol ds))), st)
def sNewM (i : Nat) (φ : DenM) : DenS := fun env st => (φ env st).to env fun x st => some (.nx (env.set i (some (.od x.1 x.2))), st)
theorem new_go {G : Cg} {i : Nat} {φ : DenN} {Z : Ends} {σ : St} {p : Pt} {env : En} {st : Sto} (hE : RepE G.K W p env σ) (hS : RepS G.K p st) (h : AftS G W p (sNew i φ env st) Z) : AftN G p (φ env st) (fun v H1 => Z.nx (σ.set i (some v)) H1) (wAt W σ) := by
  unfold sNew at h
  cases q : φ env st with
  | bad => rw [q] at h; exact h
  | exc x st' => rw [q] at h; exact fun r cls dd e rx s => h r (.ex cls dd σ) e.mo (hE.mono e).base (.ex rx (hE.mono e)) s
  | ok ds st' =>
    rw [q] at h
    intro r a vs e ha nv hr rr s
    exact h r (.nx _) e.mo (hE.mono e).base (.nx (hE.newO e ha (.ol nv hr rr (hE.base.fresh hS ha)))) s
theorem newM_go {G : Cg} {i : Nat} {φ : DenM} {Z : Ends} {σ : St} {p : Pt} {env : En} {st : Sto} (hE : RepE G.K W p env σ) (hS : RepS G.K p st) (h : AftS G W p (sNewM i φ env st) Z) : AftM G p (φ env st) (fun v H1 => Z.nx (σ.set i (some v)) H1) (wAt W σ) := by
  unfold sNewM at h
  cases q : φ env st with
  | bad => rw [q] at h; exact h
  | exc x st' => rw [q] at h; exact fun r cls dd e rx s => h r (.ex cls dd σ) e.mo (hE.mono e).base (.ex rx (hE.mono e)) s
  | ok x st' =>
    rw [q] at h
    obtain ⟨ks, ds⟩ := x
    intro r a vs e ha nv hr hl rr s
    exact h r (.nx _) e.mo (hE.mono e).base (.nx (hE.newO e ha (.od nv hr hl rr (hE.base.fresh hS ha)))) s
theorem psv_new (o : Ok X W k) (i : Nat) {φ : DenN} {x : Str} {pos' : Pos} (he : PNv X W e φ) (hi : X.N[i]? = some x := by rfl) (hx : Loc X.env.scope x := by first | exact .inl rfl | exact .inr rfl) (hs : swapsWith e (some (.Name x pos')) pos.line X.env = pure false := by rfl)
    (hf : X.fn x = true ∨ X.env.scope.names.lookup x = some .local := by first | exact .inl rfl | exact .inr rfl | assumption) : PSv X W (.Assign [.Name x pos'] e pos) (sNew i φ) :=
  psv_of (ps_set o.nd hi hx he hs hf) fun Z σ p env st hE hS h => ⟨p, env, st, rfl, hE, hS, new_go hE hS h⟩
theorem psv_newM (o : Ok X W k) (i : Nat) {φ : DenM} {x : Str} {pos' : Pos} (he : PMv X W e φ) (hi : X.N[i]? = some x := by rfl) (hx : Loc X.env.scope x := by first | exact .inl rfl | exact .inr rfl) (hs : swapsWith e (some (.Name x pos')) pos.line X.env = pure false := by rfl)
    (hf : X.fn x = true ∨ X.env.scope.names.lookup x = some .local := by first | exact .inl rfl | exact .inr rfl | assumption) : PSv X W (.Assign [.Name x pos'] e pos) (sNewM i φ) :=
  psv_of (ps_set o.nd hi hx he hs hf) fun Z σ p env st hE hS h => ⟨p, env, st, rfl, hE, hS, newM_go hE hS h⟩
/-! the ways to make one -/
theorem pnv_of {t : TE} {φ : DenN} (h : PE X e t) (i : ∀ σ Q p env st, RepE X.K W p env σ → RepS X.K p st → AftN (Cx.g X) p (φ env st) Q (wAt W σ) → t σ p.H Q) : PNv X W e φ :=
  ⟨fun pins s σ H Q I ⟨p, env, st, z, hE, hS, q⟩ => h.run pins s σ H Q I (z ▸ i σ Q p env st hE hS q)⟩
theorem pmv_of {t : TE} {φ : DenM} (h : PE X e t) (i : ∀ σ Q p env st, RepE X.K W p env σ → RepS X.K p st → AftM (Cx.g X) p (φ env st) Q (wAt W σ) → t σ p.H Q) : PMv X W e φ :=
  ⟨fun pins s σ H Q I ⟨p, env, st, z, hE, hS, q⟩ => h.run pins s σ H Q I (z ▸ i σ Q p env st hE hS q)⟩
theorem AftM.bind {α β : Type} {R : Pt → α → β → Prop} {G : Cg} {p : Pt} {o : Out α} {k : α → Sto → Out (List Key × List D)} {Q : VK} {E : XK} (h : AftM G p (o.bind k) Q E) :
    Aft R G p o (fun b H' => ∃ q a st', q.H = H' ∧ Ext p q ∧ R q a b ∧ RepS G.K q st' ∧ AftM G q (k a st') Q E) E := by
  cases o with
  | ok a st =>
    intro q b e r s
    refine ⟨q, a, st, rfl, e, r, s, ?_⟩
    have h : AftM G p (k a st) Q E := h
    cases z : k a st with
    | bad => rw [z] at h; exact h
    | exc x st' => rw [z] at h; exact fun q2 c d e2 rx s2 => h q2 c d (e.trans e2) rx s2
    | ok ds st' => rw [z] at h; exact fun q2 a2 vs e2 ha hv hq hl rr s2 => h q2 a2 vs (e.trans e2) (e.fresh s ha) hv hq hl rr s2
  | exc x st => exact h
  | bad => exact h
def nLst (φs : List Den) : DenN := fun env st => (evL φs env st).bind fun ds st => if ds.length ≤ sizeLine then .ok ds st else .bad
theorem AftN.lay {G : Cg} {p : Pt} {ds : List D} {vs : List V} {st : Sto} {Q : VK} {E : XK} (h : AftN G p (.ok ds st) Q E) (r : Reps G.K p ds vs) (s : RepS G.K p st) {a : Addr} (ha : p.H a = none) : Q (.ref a) (upd p.H a (.lst vs)) :=
  h (p.over a _ (Pt.free ha) (.inl ha)) a vs (Ext.refl.over ha) ha (show p.V a = none from Pt.free ha) upd_same (r.mo Mo.over) s.over
theorem AftM.lay {G : Cg} {p : Pt} {ks : List Key} {ds : List D} {vs : List V} {st : Sto} {Q : VK} {E : XK} (h : AftM G p (.ok (ks, ds) st) Q E) (hl : ks.length = ds.length) (r : Reps G.K p ds vs) (s : RepS G.K p st) {a : Addr} (ha : p.H a = none) : Q (.ref a) (upd p.H a (.dK (ks.zip vs))) :=
  h (p.over a _ (Pt.free ha) (.inl ha)) a vs (Ext.refl.over ha) ha (show p.V a = none from Pt.free ha) upd_same hl (r.mo Mo.over) s.over
theorem pnv_lst (h : PAv X W es φs) : PNv X W (.List es pos) (nLst φs) :=
  pnv_of (pe_lst h) fun σ Q p env st hE hS h => ⟨p, env, st, rfl, hE, hS, (AftN.bind (R := Reps X.K) h).mono fun vs H1 ⟨p1, ds, st1, z1, e1, r1, s1, h1⟩ => by
    subst z1
    split at h1
    · rename_i hl
      exact ⟨by rw [← r1.length]; exact hl, fun a hp => h1.lay r1 s1 hp⟩
    · exact h1.elim⟩
/-- xs + ys -/
def nCat (φa φb : Den) : DenN := fun env st => (φa env st).bind fun x st => (φb env st).bind fun y st => match oAdd.vieS x st, oAdd.vieS y st with
  | some xs, some ys => if xs.length + ys.length ≤ sizeLine then .ok (xs ++ ys) st else .bad
  | _, _ => .bad
theorem pnv_cat (ha : PEv X W a φa) (hb : PEv X W b φb) : PNv X W (.BinOp a .Add b pos) (nCat φa φb) :=
  pnv_of (pe_op op_cat ha hb) fun σ Q p env st hE hS h => ⟨p, env, st, rfl, hE, hS, (AftN.bind (R := Rep X.K) h).mono fun x H1 ⟨p1, d, st1, z1, e1, r1, s1, h1⟩ => by
    subst z1
    refine ⟨p1, env, st1, rfl, hE.mono e1, s1, (AftN.bind (R := Rep X.K) h1).mono fun y H2 ⟨p2, d2, st2, z2, e2, r2, s2, h2⟩ => ?_⟩
    subst z2
    split at h2
    · rename_i xs ys hx hy
      obtain ⟨a1, vs, rfl, g1, g2⟩ := vieS_rep (G := Cx.g X) hx (r1.mono e2) s2
      obtain ⟨a2, us, rfl, g3, g4⟩ := vieS_rep (G := Cx.g X) hy r2 s2
      split at h2
      · rename_i hl
        exact ⟨a1, a2, vs, us, rfl, rfl, g1, g3, by rw [← g2.length, ← g4.length]; exact hl, fun c hc => h2.lay (g2.append g4) s2 hc⟩
      · exact h2.elim
    · exact h2.elim⟩
/-- [elt for ..] -/
def nLc (ι : DenI) (t : Pat) (ψ : DenT) (φ : Den) (vs : List Nat) : DenN := fun env st => (ι env st).bind fun ds st => lcGo t ψ φ (wipeE env vs) ds st []
theorem pnv_lc (o : Ok X W k) {ψ : DenT} {elt tg iter : Expr} {ifs : List Expr} {scope : Scope} (own : List (Str × Nat)) {ι : DenI} {t : Pat} (hi : PIv X W tg iter ι) (ok : BlkOk X.N X.env.scope scope own)
    (hg : ∀ (s : Shared) (H : Hp) (C : Addr) (cl : List (Str × Addr)) (fp : List Addr), PGv (X.blk s H scope (compEnvC scope cl C X.env) fp) (wNo W) tg t)
    (ht : ∀ (s : Shared) (H : Hp) (C : Addr) (cl : List (Str × Addr)) (fp : List Addr), Ok (X.blk s H scope (compEnvC scope cl C X.env) fp) (wNo W) k → PTsv (X.blk s H scope (compEnvC scope cl C X.env) fp) (wNo W) ifs ψ)
    (he : ∀ (s : Shared) (H : Hp) (C : Addr) (cl : List (Str × Addr)) (fp : List Addr), Ok (X.blk s H scope (compEnvC scope cl C X.env) fp) (wNo W) k → PEv (X.blk s H scope (compEnvC scope cl C X.env) fp) (wNo W) elt φ)
    (hp : ∀ i ∈ t.ix, i ∈ own.map (·.2) := by decide) (hs : ∀ x, foldedSetIterable iter X.env x = pure x := by intro _; rfl) :
    PNv X W (.ListComp elt [⟨tg, iter, ifs, 0⟩] scope pos) (nLc ι t ψ φ (own.map (·.2))) :=
  pnv_of (pe_lc (g := gD (Cx.g X) (wNo W) t) (tt := tT (Cx.g X) (wNo W) ψ) (te := tD (Cx.g X) (wNo W) φ) o.calm o.nd hi ok hg (fun s H C cl fp => ht s H C cl fp (o.blk ..)) (fun s H C cl fp => he s H C cl fp (o.blk ..)) hs) fun σ Q p env st hE hS h =>
    tLc_of hp hE hS h
theorem psv_newLc (o : Ok X W k) (i : Nat) {ψ : DenT} {y : Str} {py spos : Pos} {elt tg iter : Expr} {ifs : List Expr} {scope : Scope} (own : List (Str × Nat)) {ι : DenI} {t : Pat} (hi : PIv X W tg iter ι) (ok : BlkOk X.N X.env.scope scope own)
    (hg : ∀ (s : Shared) (H : Hp) (C : Addr) (cl : List (Str × Addr)) (fp : List Addr), PGv (X.blk s H scope (compEnvC scope cl C X.env) fp) (wNo W) tg t)
    (ht : ∀ (s : Shared) (H : Hp) (C : Addr) (cl : List (Str × Addr)) (fp : List Addr), Ok (X.blk s H scope (compEnvC scope cl C X.env) fp) (wNo W) k → PTsv (X.blk s H scope (compEnvC scope cl C X.env) fp) (wNo W) ifs ψ)
    (he : ∀ (s : Shared) (H : Hp) (C : Addr) (cl : List (Str × Addr)) (fp : List Addr), Ok (X.blk s H scope (compEnvC scope cl C X.env) fp) (wNo W) k → PEv (X.blk s H scope (compEnvC scope cl C X.env) fp) (wNo W) elt φ)
    (hy : X.N[i]? = some y := by rfl) (hyl : X.env.scope.names.lookup y = some .local := by rfl)
    (hsw : swapsWith (.ListComp elt [⟨tg, iter, ifs, 0⟩] scope pos) (some (.Name y py)) spos.line X.env = pure true := by exact sw_true rfl rfl rfl (by decide +kernel))
    (hp : ∀ i ∈ t.ix, i ∈ own.map (·.2) := by decide) (hs : ∀ x, foldedSetIterable iter X.env x = pure x := by intro _; rfl) :
    PSv X W (.Assign [.Name y py] (.ListComp elt [⟨tg, iter, ifs, 0⟩] scope pos) spos) (sNew i (nLc ι t ψ φ (own.map (·.2)))) :=
  psv_of (ps_setLc (g := gD (Cx.g X) (wNo W) t) (tt := tT (Cx.g X) (wNo W) ψ) (te := tD (Cx.g X) (wNo W) φ) o.calm o.nd hy hyl hsw hi ok hg (fun s H C cl fp => ht s H C cl fp (o.blk ..)) (fun s H C cl fp => he s H C cl fp (o.blk ..)) hs) fun Z σ p env st hE hS h =>
    tLc_of (W := W) hp hE hS (Q := fun x H1 => gName i x σ H1 Z.nx) (new_go hE hS h)
/-- list(e) -/
def nList (φs : List Den) : DenN := fun env st => (evL φs env st).bind fun xs st => match xs with
  | [d] => (match seqD d st with
    | some ds => .ok ds st
    | none => .bad)
  | _ => .bad
theorem pnv_list (hm : X.mg "list" = none) (ha : PAv X W (e :: es) φs) (hg : Gl X "list" := by rfl)
    (he : starEach (e :: es) X.env = (false, eval e X.env) :: starEach es X.env := by rfl) (hpl : (backTo pos (starEach es X.env)).any (·.1) = false := by rfl) : PNv X W (.Call (.Name "list" p0) (e :: es) [] pos) (nList φs) :=
  pnv_of (pe_callTy call_list_of hg hm PyProof.Rows.boot_list ha (by decide) (by decide) he hpl) fun σ Q p env st hE hS h => ⟨p, env, st, rfl, hE, hS, (AftN.bind (R := Reps X.K) h).mono fun vs H1 ⟨p1, xs, st1, z1, e1, r1, s1, h1⟩ => by
    subst z1
    split at h1
    · obtain ⟨v, rfl, r'⟩ := reps1 r1
      split at h1
      · rename_i ds hd
        obtain ⟨a, ws, rfl, g1, g2⟩ := seqD_rep hd r' s1
        exact ⟨a, ws, rfl, g1, fun l hl => h1.lay g2 s1 hl⟩
      · exact h1.elim
    · exact h1.elim⟩
/-- [x, ..] * n -/
def nRep (φa φb : Den) : DenN := fun env st => (φa env st).bind fun x st => (φb env st).bind fun y st => match oAdd.vieS x st, y with
  | some xs, .int n => if -(2 ^ 63) ≤ n ∧ n < 2 ^ 63 ∧ xs.length * n.toNat ≤ sizeLine then .ok (List.replicate n.toNat xs).flatten st else .bad
  | _, _ => .bad
theorem pnv_rep (ha : PEv X W a φa) (hb : PEv X W b φb) : PNv X W (.BinOp a .Mult b pos) (nRep φa φb) :=
  pnv_of (pe_op op_rep ha hb) fun σ Q p env st hE hS h => ⟨p, env, st, rfl, hE, hS, (AftN.bind (R := Rep X.K) h).mono fun x H1 ⟨p1, d, st1, z1, e1, r1, s1, h1⟩ => by
    subst z1
    refine ⟨p1, env, st1, rfl, hE.mono e1, s1, (AftN.bind (R := Rep X.K) h1).mono fun y H2 ⟨p2, d2, st2, z2, e2, r2, s2, h2⟩ => ?_⟩
    subst z2
    split at h2
    · rename_i xs n hx
      obtain ⟨a1, vs, rfl, g1, g2⟩ := vieS_rep (G := Cx.g X) hx (r1.mono e2) s2
      cases r2
      split at h2
      · rename_i hl
        exact ⟨a1, n, vs, rfl, rfl, g1, hl.1, hl.2.1, by rw [← g2.length]; exact hl.2.2, fun c hc => h2.lay (g2.rep _) s2 hc⟩
      · exact h2.elim
    · exact h2.elim⟩
/-! ### what a slot may get -/
def AftV (G : Cg) (W : WG) (p : Pt) (o : Out D) (Q : VK) (E : XK) : Prop := match o with
  | .ok d st => ∀ q v, Ext p q → RepV G.K W q d v → (plainD d = false → ∀ a, v = .ref a → p.H a = none) → d ≠ .lam → RepS G.K q st → Q v q.H
  | .exc x st => ∀ q cls dd, Ext p q → RepX G q x cls dd → RepS G.K q st → E cls dd q.H
  | .bad => False
def tV (G : Cg) (W : WG) (φ : Den) : TE := fun σ H Q => ∃ p env st, p.H = H ∧ RepE G.K W p env σ ∧ RepS G.K p st ∧ AftV G W p (φ env st) Q (wAt W σ)
def PVv (X : Cx) (W : WG) (e : Expr) (φ : Den) : Prop := PE X e (tV (Cx.g X) W φ)
theorem pvv_val (h : PEv X W e φ) : PVv X W e φ :=
  ⟨fun pins s σ H Q I ⟨p, env, st, z, hE, hS, q⟩ => h.run pins s σ H Q I ⟨p, env, st, z, hE, hS, by
    cases y : φ env st with
    | bad => rw [y] at q; exact q
    | exc x st' => rw [y] at q; exact q
    | ok d st' => rw [y] at q; exact fun r v e rv s => q r v e (.rep rv) (fun n => by rw [rv.plain] at n; cases n) (fun z => by subst z; cases rv) s⟩⟩
def mkL (φ : DenN) : Den := fun env st => (φ env st).bind fun ds st => .ok (.ol ds) st
def mkM (φ : DenM) : Den := fun env st => (φ env st).bind fun x st => .ok (.od x.1 x.2) st
theorem pvv_new {φ : DenN} (h : PNv X W e φ) : PVv X W e (mkL φ) :=
  ⟨fun pins s σ H Q I ⟨p, env, st, z, hE, hS, q⟩ => h.run pins s σ H Q I ⟨p, env, st, z, hE, hS, by
    unfold mkL at q
    cases y : φ env st with
    | bad => rw [y] at q; exact q
    | exc x st' => rw [y] at q; exact q
    | ok ds st' => rw [y] at q; exact fun r a vs e ha nv hr rr s => q r (.ref a) e (.ol nv hr rr (hE.base.fresh hS ha)) (fun _ b hb => by cases hb; exact ha) (fun z => by cases z) s⟩⟩
theorem pvv_newM {φ : DenM} (h : PMv X W e φ) : PVv X W e (mkM φ) :=
  ⟨fun pins s σ H Q I ⟨p, env, st, z, hE, hS, q⟩ => h.run pins s σ H Q I ⟨p, env, st, z, hE, hS, by
    unfold mkM at q
    cases y : φ env st with
    | bad => rw [y] at q; exact q
    | exc x st' => rw [y] at q; exact q
    | ok ds st' => rw [y] at q; exact fun r a vs e ha nv hr hl rr s => q r (.ref a) e (.od nv hr hl rr (hE.base.fresh hS ha)) (fun _ b hb => by cases hb; exact ha) (fun z => by cases z) s⟩⟩
/-- a slot's new thing, made since p -/
theorem RepE.putV {K : Frag} {p q : Pt} {env : En} {σ : St} {i : Nat} {d : D} {v : V} (hE : RepE K W p env σ) (e : Ext p q) (r : RepV K W q d v) (hn : plainD d = false → ∀ a, v = .ref a → p.H a = none) : RepE K W q (env.set i (some d)) (σ.set i (some v)) :=
  (hE.mono e).put i r fun j x b hd _ _ hj hx hxl eb hs => by
    have ha := hn hd b eb
    obtain ⟨w, hv, rv⟩ := hE.at_ j x hj
    rw [hs] at hv
    cases hv
    cases rv with
    | rep rv => rw [rv.plain] at hx; cases hx
    | ol h1 h2 => rw [ha] at h2; cases h2
    | od h1 h2 => rw [ha] at h2; cases h2
    | lam => exact hxl rfl
theorem psv_setV (o : Ok X W k) (i : Nat) {x : Str} {pos' : Pos} (he : PVv X W e φ) (hi : X.N[i]? = some x := by rfl) (hx : Loc X.env.scope x := by first | exact .inl rfl | exact .inr rfl) (hs : swapsWith e (some (.Name x pos')) pos.line X.env = pure false := by rfl)
    (hf : X.fn x = true ∨ X.env.scope.names.lookup x = some .local := by first | exact .inl rfl | exact .inr rfl | assumption) : PSv X W (.Assign [.Name x pos'] e pos) (sSet i φ) :=
  psv_of (ps_set o.nd hi hx he hs hf) fun Z σ p env st hE hS h => ⟨p, env, st, rfl, hE, hS, by
    unfold sSet at h
    cases y : φ env st with
    | bad => rw [y] at h; exact h
    | exc x st' => rw [y] at h; exact fun q c d e r s => h q (.ex c d σ) e.mo (hE.mono e).base (.ex r (hE.mono e)) s
    | ok d st' => rw [y] at h; exact fun q v e r hn hl s => h q (.nx _) e.mo (hE.mono e).base (.nx (hE.putV e r hn)) s⟩
theorem psv_parV (o : Ok X W k) (i j : Nat) {x y : Str} {px py pt : Pos} {kt k2 pt2} (ha : PVv X W a φa) (hb : PVv X W b φb) (hi : X.N[i]? = some x := by rfl) (hj : X.N[j]? = some y := by rfl) (hij : i ≠ j := by decide)
    (hx : X.env.scope.names.lookup x = some .local := by rfl) (hy : X.env.scope.names.lookup y = some .local := by rfl)
    (h1 : starEach [a, b] X.env = (false, eval a X.env) :: starEach [b] X.env := by rfl) (h2 : starEach [b] X.env = (false, eval b X.env) :: starEach [] X.env := by rfl)
    (hw : swappedStores [.Tuple [.Name x px, .Name y py] kt pt] (.Tuple [a, b] k2 pt2) X.env = pure (some [x, y]) := by rfl)
    (hs : swapsWithSole [.Tuple [.Name x px, .Name y py] kt pt] (.Tuple [a, b] k2 pt2) pos.line X.env = pure false := by rfl) :
    PSv X W (.Assign [.Tuple [.Name x px, .Name y py] kt pt] (.Tuple [a, b] k2 pt2) pos) (sPar i j [φa, φb]) :=
  psv_of (ps_par o.calm o.nd hi hj hij hx hy (pa_cons ha (pa_cons hb pa_nil h2) h1) hw hs) fun Z σ p env st hE hS h => ⟨p, env, st, rfl, hE, hS, by
    unfold sPar at h
    simp only [evL] at h
    cases qa : φa env st with
    | bad => rw [qa] at h; exact h
    | exc x st' => rw [qa] at h; exact fun q c d e r s => h q (.ex c d σ) e.mo (hE.mono e).base (.ex r (hE.mono e)) s
    | ok d1 st1 =>
      rw [qa] at h
      intro q1 v1 e1 r1 n1 l1 s1
      refine ⟨q1, env, st1, rfl, hE.mono e1, s1, ?_⟩
      have h : AftS (Cx.g X) W p (((φb env st1).bind fun d st => .ok [d] st).bind (fun ds st => Out.ok (d1 :: ds) st) |>.to env fun ds st => match ds with
        | [a, b] => some (.nx ((env.set i (some a)).set j (some b)), st)
        | _ => none) Z := h
      cases qb : φb env st1 with
      | bad => rw [qb] at h; exact h
      | exc x st' => rw [qb] at h; exact fun q c d e r s => h q (.ex c d σ) (e1.trans e).mo (hE.mono (e1.trans e)).base (.ex r (hE.mono (e1.trans e))) s
      | ok d2 st2 =>
        rw [qb] at h
        intro q2 v2 e2 r2 n2 l2 s2
        refine ⟨v1, v2, rfl, h q2 (.nx _) (e1.trans e2).mo (hE.mono (e1.trans e2)).base (.nx ?_) s2⟩
        exact (hE.putV e1 r1 n1).putV e2 r2 n2⟩
theorem psv_par3V (o : Ok X W k) (i j l : Nat) {x y z : Str} {px py pz pt : Pos} {kt k2 pt2} (ha : PVv X W a φa) (hb : PVv X W b φb) (hc : PVv X W c φc) (hi : X.N[i]? = some x := by rfl) (hj : X.N[j]? = some y := by rfl) (hl : X.N[l]? = some z := by rfl) (hij : i ≠ j := by decide) (hil : i ≠ l := by decide) (hjl : j ≠ l := by decide)
    (hx : X.env.scope.names.lookup x = some .local := by rfl) (hy : X.env.scope.names.lookup y = some .local := by rfl) (hz : X.env.scope.names.lookup z = some .local := by rfl)
    (h1 : starEach [a, b, c] X.env = (false, eval a X.env) :: starEach [b, c] X.env := by rfl) (h2 : starEach [b, c] X.env = (false, eval b X.env) :: starEach [c] X.env := by rfl) (h3 : starEach [c] X.env = (false, eval c X.env) :: starEach [] X.env := by rfl)
    (hw : swappedStores [.Tuple [.Name x px, .Name y py, .Name z pz] kt pt] (.Tuple [a, b, c] k2 pt2) X.env = pure (some [x, y, z]) := by rfl)
    (hs : swapsWithSole [.Tuple [.Name x px, .Name y py, .Name z pz] kt pt] (.Tuple [a, b, c] k2 pt2) pos.line X.env = pure false := by rfl) :
    PSv X W (.Assign [.Tuple [.Name x px, .Name y py, .Name z pz] kt pt] (.Tuple [a, b, c] k2 pt2) pos) (sPar3 i j l [φa, φb, φc]) :=
  psv_of (ps_par3 o.calm o.nd hi hj hl hij hil hjl hx hy hz (pa_cons ha (pa_cons hb (pa_cons hc pa_nil h3) h2) h1) hw hs) fun Z σ p env st hE hS h => ⟨p, env, st, rfl, hE, hS, by
    unfold sPar3 at h
    simp only [evL] at h
    cases qa : φa env st with
    | bad => rw [qa] at h; exact h
    | exc x st' => rw [qa] at h; exact fun q c d e r s => h q (.ex c d σ) e.mo (hE.mono e).base (.ex r (hE.mono e)) s
    | ok d1 st1 =>
      rw [qa] at h
      intro q1 v1 e1 r1 n1 l1 s1
      refine ⟨q1, env, st1, rfl, hE.mono e1, s1, ?_⟩
      have h : AftS (Cx.g X) W p (((φb env st1).bind fun d st => ((φc env st).bind fun d st => .ok [d] st).bind (fun ds st => Out.ok (d :: ds) st)).bind (fun ds st => Out.ok (d1 :: ds) st) |>.to env fun ds st => match ds with
        | [a, b, c] => some (.nx (((env.set i (some a)).set j (some b)).set l (some c)), st)
        | _ => none) Z := h
      cases qb : φb env st1 with
      | bad => rw [qb] at h; exact h
      | exc x st' => rw [qb] at h; exact fun q c d e r s => h q (.ex c d σ) (e1.trans e).mo (hE.mono (e1.trans e)).base (.ex r (hE.mono (e1.trans e))) s
      | ok d2 st2 =>
        rw [qb] at h
        intro q2 v2 e2 r2 n2 l2 s2
        refine ⟨q2, env, st2, rfl, hE.mono (e1.trans e2), s2, ?_⟩
        have h : AftS (Cx.g X) W p (((φc env st2).bind fun d st => .ok [d] st).bind (fun ds st => Out.ok (d2 :: ds) st) |>.bind (fun ds st => Out.ok (d1 :: ds) st) |>.to env fun ds st => match ds with
          | [a, b, c] => some (.nx (((env.set i (some a)).set j (some b)).set l (some c)), st)
          | _ => none) Z := h
        cases qc : φc env st2 with
        | bad => rw [qc] at h; exact h
        | exc x st' => rw [qc] at h; exact fun q c d e r s => h q (.ex c d σ) ((e1.trans e2).trans e).mo (hE.mono ((e1.trans e2).trans e)).base (.ex r (hE.mono ((e1.trans e2).trans e))) s
        | ok d3 st3 =>
          rw [qc] at h
          intro q3 v3 e3 r3 n3 l3 s3
          refine ⟨v1, v2, v3, rfl, h q3 (.nx _) ((e1.trans e2).trans e3).mo (hE.mono ((e1.trans e2).trans e3)).base (.nx ?_) s3⟩
          exact ((hE.putV e1 r1 n1).putV e2 r2 n2).putV e3 r3 n3⟩
/-! dicts -/
def mNew : DenM := fun _ st => .ok ([], []) st
theorem pmv_new : PMv X W (.Dict [] [] pos) mNew :=
  pmv_of pe_dnewK fun σ Q p env st hE hS h c hc => h.lay (vs := []) rfl .nil hS hc
/-! ### written -/
def sApp (i : Nat) (φ : Den) : DenS := fun env st => match env[i]? with
  | some (some (.ol ds)) => (φ env st).to env fun d st => if ds.length < sizeLine then some (.nx (env.set i (some (.ol (ds ++ [d])))), st) else none
  | _ => none
def sExt (i : Nat) (φ : Den) : DenS := fun env st => match env[i]? with
  | some (some (.ol ds)) => (φ env st).to env fun d st => (match oAdd.vieS d st with
    | some es => if ds.length + es.length ≤ sizeLine then some (.nx (env.set i (some (.ol (ds ++ es)))), st) else none
    | none => none)
  | _ => none
theorem psv_app (i : Nat) {x : Str} {px apos cpos : Pos} (he : PEv X W e φ) (hN : X.N[i]? = some x := by rfl) (hv : Vis X.env.scope x := by first | exact Or.inl rfl | exact Or.inr (Or.inl rfl) | exact Or.inr (Or.inr rfl)) (hd : (x == ("__debug__" : Str)) = false := by decide)
    (hcd : (x == ("__classdict__" : Str)) = false := by decide) (hbase : attributeBase (.Name x px) "append" X.env (eval (.Name x px) X.env) = eval (.Name x px) X.env := by rfl)
    (hfew : ((backTo cpos (starEach [e] X.env)).all (fun x => !x.1) && (backToKw cpos (keywordEach [] X.env)).all (fun x => x.1.isSome) && decide (([e] : List Expr).length + ([] : List Keyword).length + (if ([] : List Keyword).isEmpty then 0 else 1) < 30)) = true := by rfl)
    (hline : (apos.endLine == cpos.line) = true := by rfl) (hs : starEach [e] X.env = (false, eval e X.env) :: starEach [] X.env := by rfl) (hplain : (backTo cpos (starEach [] X.env)).any (·.1) = false := by rfl)
    (hsw : swapsWith (.Call (.Attribute (.Name x px) "append" apos) [e] [] cpos) none pos.line X.env = pure false := by rfl) :
    PSv X W (.Expr (.Call (.Attribute (.Name x px) "append" apos) [e] [] cpos) pos) (sApp i φ) :=
  psv_of (ps_expr (pe_bm PySem.F.plainAttrs_list PySem.F.slot_list_append PySem.F.type_list_append mt_append (pe_var hN hv hd hcd) (pa_cons he pa_nil hs) hbase hfew hline hs hplain) hsw) fun Z σ p env st hE hS h => by
    unfold sApp at h
    split at h
    · rename_i ds hi
      obtain ⟨a, vs, h1, h2, h3, h4, h5⟩ := hE.ownL hi
      refine ⟨.ref a, h1, .inl ⟨rfl, _, SqL.of h3⟩, (tD.to hE hS h).mono fun v H1 ⟨p1, d, st1, z1, e1, r1, s1, h6⟩ => ?_⟩
      subst z1
      obtain ⟨n1, g1⟩ := e1.unseen h2 h3
      split at h6
      · rename_i hl
        have hE1 := hE.mono e1
        refine ⟨a, vs, v, rfl, rfl, g1, by rw [← h4.length]; exact hl, ?_⟩
        have hr : RepE X.K W (p1.over a (.lst (vs ++ [v])) n1 (.inr (.inl ⟨_, g1⟩))) (env.set i (some (.ol (ds ++ [d])))) σ :=
          hE1.wrO hi rfl (fun z => by cases z) h1 h5 (.ol n1 upd_same (((h4.mono e1).append (.cons r1 .nil)).mo Mo.over) h5)
        exact h6 _ (.nx σ) Mo.over hr.base (.nx hr) s1.over
      · exact h6.elim
    · exact h.elim
theorem psv_ext (i : Nat) {x : Str} {px apos cpos : Pos} (he : PEv X W e φ) (hN : X.N[i]? = some x := by rfl) (hv : Vis X.env.scope x := by first | exact Or.inl rfl | exact Or.inr (Or.inl rfl) | exact Or.inr (Or.inr rfl)) (hd : (x == ("__debug__" : Str)) = false := by decide)
    (hcd : (x == ("__classdict__" : Str)) = false := by decide) (hbase : attributeBase (.Name x px) "extend" X.env (eval (.Name x px) X.env) = eval (.Name x px) X.env := by rfl)
    (hfew : ((backTo cpos (starEach [e] X.env)).all (fun x => !x.1) && (backToKw cpos (keywordEach [] X.env)).all (fun x => x.1.isSome) && decide (([e] : List Expr).length + ([] : List Keyword).length + (if ([] : List Keyword).isEmpty then 0 else 1) < 30)) = true := by rfl)
    (hline : (apos.endLine == cpos.line) = true := by rfl) (hs : starEach [e] X.env = (false, eval e X.env) :: starEach [] X.env := by rfl) (hplain : (backTo cpos (starEach [] X.env)).any (·.1) = false := by rfl)
    (hsw : swapsWith (.Call (.Attribute (.Name x px) "extend" apos) [e] [] cpos) none pos.line X.env = pure false := by rfl) :
    PSv X W (.Expr (.Call (.Attribute (.Name x px) "extend" apos) [e] [] cpos) pos) (sExt i φ) :=
  psv_of (ps_expr (pe_bm PySem.F.plainAttrs_list PySem.F.slot_list_extend PySem.F.type_list_extend mt_extend (pe_var hN hv hd hcd) (pa_cons he pa_nil hs) hbase hfew hline hs hplain) hsw) fun Z σ p env st hE hS h => by
    unfold sExt at h
    split at h
    · rename_i ds hi
      obtain ⟨a, vs, h1, h2, h3, h4, h5⟩ := hE.ownL hi
      refine ⟨.ref a, h1, .inl ⟨rfl, _, SqL.of h3⟩, (tD.to hE hS h).mono fun v H1 ⟨p1, d, st1, z1, e1, r1, s1, h6⟩ => ?_⟩
      subst z1
      obtain ⟨n1, g1⟩ := e1.unseen h2 h3
      split at h6
      · rename_i es hq
        obtain ⟨b, ws, rfl, g3, g4⟩ := vieS_rep (G := Cx.g X) hq r1 s1
        split at h6
        · rename_i hl
          have hE1 := hE.mono e1
          refine ⟨a, b, vs, ws, rfl, rfl, g1, g3, by rw [← h4.length, ← g4.length]; exact hl, ?_⟩
          have hr : RepE X.K W (p1.over a (.lst (vs ++ ws)) n1 (.inr (.inl ⟨_, g1⟩))) (env.set i (some (.ol (ds ++ es)))) σ :=
            hE1.wrO hi rfl (fun z => by cases z) h1 h5 (.ol n1 upd_same (((h4.mono e1).append g4).mo Mo.over) h5)
          exact h6 _ (.nx σ) Mo.over hr.base (.nx hr) s1.over
        · exact h6.elim
      · exact h6.elim
    · exact h.elim
/-- x[e] = v -/
def sSto (i : Nat) (φi φv : Den) : DenS := fun env st => match env[i]? with
  | some (some (.ol ds)) => (φv env st).to env fun d st => (φi env st).to env fun y st => (match y with
    | .int j => (match ixN ds.length j with
      | some n => some (.nx (env.set i (some (.ol (ds.set n d)))), st)
      | none => none)
    | _ => none)
  | some (some (.od ks ds)) => (φv env st).to env fun d st => (φi env st).to env fun y st => (match dKey y with
    | some k => if ks.length < sizeLine then some (.nx (env.set i (some (.od (putKs ks k) (putDs ks ds k d)))), st) else none
    | none => none)
  | _ => none
theorem psv_sto (o : Ok X W k) (i : Nat) {x : Str} {px : Pos} {ix value : Expr} {φi φv : Den} {pos' : Pos} (hi : PEv X W ix φi) (hv : PEv X W value φv) (hN : X.N[i]? = some x := by rfl) (hvs : Vis X.env.scope x := by first | exact Or.inl rfl | exact Or.inr (Or.inl rfl) | exact Or.inr (Or.inr rfl)) (hd : (x == ("__debug__" : Str)) = false := by decide)
    (hcd : (x == ("__classdict__" : Str)) = false := by decide) (hs : swapsWithSole [.Subscript (.Name x px) ix pos'] value pos.line X.env = pure false := by rfl) (hw : swappedStores [.Subscript (.Name x px) ix pos'] value X.env = pure none := by rfl)
    (h1 : (assignEach [.Subscript (.Name x px) ix pos'] X.env).map (·.2) = [assign (.Subscript (.Name x px) ix pos') X.env] := by rfl)
    (ha : ∀ v, assign (.Subscript (.Name x px) ix pos') X.env v = (do
      let ov ← holding [v] (eval (.Name x px) X.env)
      let iv ← holding [v, ov] (eval ix X.env)
      standAt pos'
      holding [v, ov, iv] (setItem ov iv v)
      release [v, ov, iv] []) := by intro _; rfl) : PSv X W (.Assign [.Subscript (.Name x px) ix pos'] value pos) (sSto i φi φv) :=
  psv_of (ps_asg hv (pg_sub (pe_var hN hvs hd hcd) hi (set_all o.u1) ha) hs hw h1) fun Z σ p env st hE hS h => by
    unfold sSto at h
    split at h
    · rename_i ds hi
      obtain ⟨a, vs, g1, g2, g3, g4, g5⟩ := hE.ownL hi
      refine (tD.to hE hS h).mono fun v H1 ⟨p1, d, st1, z1, e1, r1, s1, h1⟩ => ?_
      subst z1
      have hE1 := hE.mono e1
      refine ⟨.ref a, g1, (tD.to hE1 s1 h1).mono fun y H2 ⟨p2, d2, st2, z2, e2, r2, s2, h2⟩ => ?_⟩
      subst z2
      have e12 := e1.trans e2
      have hE2 := hE.mono e12
      obtain ⟨n2, k2⟩ := e12.unseen g2 g3
      split at h2
      · rename_i j
        cases r2
        split at h2
        · rename_i n hn
          refine .inl ⟨a, vs, j, n, rfl, rfl, k2, by rw [← g4.length]; exact hn, ?_⟩
          have hr : RepE X.K W (p2.over a (.lst (vs.set n v)) n2 (.inr (.inl ⟨_, k2⟩))) (env.set i (some (.ol (ds.set n d)))) σ :=
            hE2.wrO hi rfl (fun z => by cases z) g1 g5 (.ol n2 upd_same (((g4.mono e12).set (r1.mono e2) n).mo Mo.over) g5)
          exact h2 _ (.nx σ) Mo.over hr.base (.nx hr) s2.over
        · exact h2.elim
      · exact h2.elim
    · rename_i ks ds hi
      obtain ⟨a, vs, g1, g2, g3, g0, g4, g5⟩ := hE.ownD hi
      refine (tD.to hE hS h).mono fun v H1 ⟨p1, d, st1, z1, e1, r1, s1, h1⟩ => ?_
      subst z1
      have hE1 := hE.mono e1
      refine ⟨.ref a, g1, (tD.to hE1 s1 h1).mono fun y H2 ⟨p2, d2, st2, z2, e2, r2, s2, h2⟩ => ?_⟩
      subst z2
      have e12 := e1.trans e2
      have hE2 := hE.mono e12
      obtain ⟨n2, k2⟩ := e12.unseen g2 g3
      split at h2
      · rename_i kk hk
        split at h2
        · rename_i hl
          have hy := dKey_rep hk r2
          subst hy
          obtain ⟨ws, w1, w2, w3⟩ := putDs_rep (k := kk) (r1.mono e2) g0 (g4.mono e12)
          refine .inr ⟨a, _, rfl, DPut.k k2 (by rw [zip_len g0 g4.length]; exact hl), ?_⟩
          have hr : RepE X.K W (p2.over a (.dK (putK (ks.zip vs) kk v)) n2 (.inr (.inr ⟨_, k2⟩))) (env.set i (some (.od (putKs ks kk) (putDs ks ds kk d)))) σ :=
            hE2.wrO hi rfl (fun z => by cases z) g1 g5 (.od n2 (by rw [← w2]; exact upd_same) w3 (w1.mo Mo.over) g5)
          exact h2 _ (.nx σ) Mo.over hr.base (.nx hr) s2.over
        · exact h2.elim
      · exact h2.elim
    · exact h.elim
/-! ### looked at -/
/-- the slot's own thing, as plainD data -/
def ownV (env : En) (i : Nat) : Option D := match env[i]? with
  | some (some (.ol ds)) => some (.lst ds)
  | some (some (.od ks ds)) => some (.dic ks ds)
  | _ => none
/-- d stands at a in the heap, not seen -/
def OwnAt (K : Frag) (p : Pt) (d : D) (a : Addr) : Prop := p.V a = none ∧ ((∃ ds vs, d = .lst ds ∧ p.H a = some (.lst vs) ∧ Reps K p ds vs) ∨ ∃ ks ds vs, d = .dic ks ds ∧ p.H a = some (.dK (ks.zip vs)) ∧ ks.length = ds.length ∧ Reps K p ds vs)
theorem OwnAt.mono {K : Frag} {p q : Pt} {d : D} {a : Addr} (e : Ext p q) (h : OwnAt K p d a) : OwnAt K q d a := by
  obtain ⟨n, ⟨ds, vs, rfl, h1, h2⟩ | ⟨ks, ds, vs, rfl, h1, h2, h3⟩⟩ := h
  · obtain ⟨x, y⟩ := e.unseen n h1
    exact ⟨x, .inl ⟨ds, vs, rfl, y, h2.mono e⟩⟩
  · obtain ⟨x, y⟩ := e.unseen n h1
    exact ⟨x, .inr ⟨ks, ds, vs, rfl, y, h2, h3.mono e⟩⟩
theorem ownV_at {K : Frag} {p : Pt} {env : En} {σ : St} {i : Nat} {d : D} (hE : RepE K W p env σ) (h : ownV env i = some d) : ∃ a, σ[i]? = some (some (.ref a)) ∧ OwnAt K p d a := by
  unfold ownV at h
  split at h
  · cases h
    obtain ⟨a, vs, g1, g2, g3, g4, g5⟩ := hE.ownL ‹_›
    exact ⟨a, g1, g2, .inl ⟨_, vs, rfl, g3, g4⟩⟩
  · cases h
    obtain ⟨a, vs, g1, g2, g3, g0, g4, g5⟩ := hE.ownD ‹_›
    exact ⟨a, g1, g2, .inr ⟨_, _, vs, rfl, g3, g0, g4⟩⟩
  · cases h
def dOw2 (f : D → D → Sto → Out D) (i : Nat) (φ : Den) : Den := fun env st => match ownV env i with
  | some d => (φ env st).bind fun y st => f d y st
  | none => .bad
def dOw1 (f : D → Sto → Out D) (i : Nat) : Den := fun env st => match ownV env i with
  | some d => f d st
  | none => .bad
/-- e is looked for in x -/
def dOwR (f : D → D → Sto → Out D) (φ : Den) (i : Nat) : Den := fun env st => (φ env st).bind fun y st => match ownV env i with
  | some d => f y d st
  | none => .bad
def Own2 (G : Cg) (f : D → D → Sto → Out D) (r : R2) : Prop := ∀ p st d a y u Q E, OwnAt G.K p d a → Rep G.K p y u → RepS G.K p st → Aft (Rep G.K) G p (f d y st) Q E → r (.ref a) u p.H Q
def OwnR (G : Cg) (f : D → D → Sto → Out D) (r : R2) : Prop := ∀ p st d a y u Q E, OwnAt G.K p d a → Rep G.K p y u → RepS G.K p st → Aft (Rep G.K) G p (f y d st) Q E → r u (.ref a) p.H Q
theorem tOw2_of {r : R2} {f : D → D → Sto → Out D} {φ : Den} {i : Nat} (hf : Own2 (Cx.g X) f r) (σ : St) (Q : VK) (p : Pt) (env : En) (st : Sto) (hE : RepE X.K W p env σ) (hS : RepS X.K p st) (h : Aft (Rep X.K) (Cx.g X) p (dOw2 f i φ env st) Q (wAt W σ)) : tOp r (tVar i) (tD (Cx.g X) W φ) σ p.H Q := by
  unfold dOw2 at h
  split at h
  · rename_i d hd
    obtain ⟨a, g1, g2⟩ := ownV_at hE hd
    refine ⟨_, g1, (tD.run hE hS h).mono fun y H1 ⟨p1, dy, st1, z1, e1, r1, s1, h1⟩ => ?_⟩
    subst z1
    exact hf _ _ _ _ _ _ _ _ (g2.mono e1) r1 s1 h1
  · exact h.elim
theorem tOwR_of {r : R2} {f : D → D → Sto → Out D} {φ : Den} {i : Nat} (hf : OwnR (Cx.g X) f r) (σ : St) (Q : VK) (p : Pt) (env : En) (st : Sto) (hE : RepE X.K W p env σ) (hS : RepS X.K p st) (h : Aft (Rep X.K) (Cx.g X) p (dOwR f φ i env st) Q (wAt W σ)) : tOp r (tD (Cx.g X) W φ) (tVar i) σ p.H Q := by
  refine (tD.run hE hS h).mono fun y H1 ⟨p1, dy, st1, z1, e1, r1, s1, h1⟩ => ?_
  subst z1
  split at h1
  · rename_i d hd
    obtain ⟨a, g1, g2⟩ := ownV_at (hE.mono e1) hd
    exact ⟨_, g1, hf _ _ _ _ _ _ _ _ g2 r1 s1 h1⟩
  · exact h1.elim
theorem own_ix {G : Cg} : Own2 G oIx (rIxAll G.K) := by
  intro p st d a y u Q E ⟨_, hd⟩ ry s h
  rcases hd with ⟨ds, vs, rfl, h1, h2⟩ | ⟨ks, ds, vs, rfl, h1, h0, h2⟩
  · cases y <;> first | exact h.elim | skip
    rename_i j
    cases ry
    have h : Aft (Rep G.K) G p (match atI ds j with
      | some d => .ok d st
      | none => .bad) Q E := h
    split at h
    · rename_i ha
      obtain ⟨w, hw, rw'⟩ := atI_rep ha h2
      exact .inl (.inl ⟨_, _, _, w, rfl, rfl, SqL.of h1, hw, h.now rw' s⟩)
    · exact h.elim
  · have h : Aft (Rep G.K) G p (match dKey y with
      | some k => (match valD ks ds k with
        | some d => .ok d st
        | none => .bad)
      | none => .bad) Q E := by cases y <;> exact h
    split at h
    · rename_i k hk
      split at h
      · rename_i d hd
        obtain ⟨w, hw, rw'⟩ := (valD_rep h0 h2).1 d hd
        have hy := dKey_rep hk ry
        subst hy
        refine .inr ⟨_, w, rfl, ?_, h.now rw' s⟩
        rw [← hw]
        exact DGet.k h1
      · exact h.elim
    · exact h.elim
section
variable {x : Str} {px : Pos} (i : Nat)
theorem pev_ixO (o : Ok X W k) (hb : PEv X W b φb) (hN : X.N[i]? = some x := by rfl) (hv : Vis X.env.scope x := by first | exact Or.inl rfl | exact Or.inr (Or.inl rfl) | exact Or.inr (Or.inr rfl)) (hd : (x == ("__debug__" : Str)) = false := by decide)
    (hcd : (x == ("__classdict__" : Str)) = false := by decide) (hs : PlainIx b := by intro _ _; rfl) : PEv X W (.Subscript (.Name x px) b pos) (dOw2 oIx i φb) :=
  pev_of (pe_ix (ix_all o.u1) (pe_var hN hv hd hcd) hb hs) (tOw2_of own_ix)
def oInD (f : Bool → Bool) : D → D → Sto → Out D := fun y d st => match d with
  | .dic ks ds => (match dKey y with
    | some k => .ok (.bl (f (valD ks ds k).isSome)) st
    | none => .bad)
  | .lst ds => (match toPy (deref y st), toPys ds with
    | some e, some es => if SeqAt.shaped e = true ∧ SeqAt.shaped (.list es) = true then .ok (.bl (f (es.any fun z => PyData.eqv z e))) st else .bad
    | _, _ => .bad)
  | _ => .bad
theorem own_in {G : Cg} (f : Bool → Bool) : OwnR G (oInD f) (rInA G.K f) := by
  intro p st d a y u Q E ⟨_, hd⟩ ry s h
  rcases hd with ⟨ds, vs, rfl, h1, h2⟩ | ⟨ks, ds, vs, rfl, h1, h0, h2⟩
  · unfold oInD at h
    dsimp only at h
    split at h
    · rename_i e es he hes
      split at h
      · rename_i hs
        exact .inr ⟨e, .list es, es, deref_dp he ry s, .lst (SqL.of h1) (toPys_dp hes h2), rfl, hs.1, hs.2, h.now (.bl _) s⟩
      · exact h.elim
    · exact h.elim
  · unfold oInD at h
    dsimp only at h
    split at h
    · rename_i k hk
      have hy := dKey_rep hk ry
      subst hy
      obtain ⟨q1, q2⟩ := valD_rep (k := k) h0 h2
      refine .inl ⟨a, _, rfl, DGet.k h1, h.now ?_ s⟩
      cases q : valD ks ds k with
      | none => rw [q2 q]; exact .bl _
      | some dd => obtain ⟨v, e, _⟩ := q1 dd q; rw [e]; exact .bl _
    · exact h.elim
theorem pev_inO (o : Ok X W k) (ha : PEv X W a φa) (hN : X.N[i]? = some x := by rfl) (hv : Vis X.env.scope x := by first | exact Or.inl rfl | exact Or.inr (Or.inl rfl) | exact Or.inr (Or.inr rfl)) (hd : (x == ("__debug__" : Str)) = false := by decide)
    (hcd : (x == ("__classdict__" : Str)) = false := by decide) : PEv X W (.Compare a [.In] [.Name x px] pos) (dOwR (oInD id) φa i) :=
  pev_of (pe_cmpR (op_inA o.u65) ha (pe_var hN hv hd hcd) rfl) (tOwR_of (own_in id))
theorem pev_notinO (o : Ok X W k) (ha : PEv X W a φa) (hN : X.N[i]? = some x := by rfl) (hv : Vis X.env.scope x := by first | exact Or.inl rfl | exact Or.inr (Or.inl rfl) | exact Or.inr (Or.inr rfl)) (hd : (x == ("__debug__" : Str)) = false := by decide)
    (hcd : (x == ("__classdict__" : Str)) = false := by decide) : PEv X W (.Compare a [.NotIn] [.Name x px] pos) (dOwR (oInD not) φa i) :=
  pev_of (pe_cmpR (op_notInA o.u65) ha (pe_var hN hv hd hcd) rfl) (tOwR_of (own_in not))
theorem ptv_inO (o : Ok X W k) (ha : PEv X W a φa) (hN : X.N[i]? = some x := by rfl) (hv : Vis X.env.scope x := by first | exact Or.inl rfl | exact Or.inr (Or.inl rfl) | exact Or.inr (Or.inr rfl)) (hd : (x == ("__debug__" : Str)) = false := by decide)
    (hcd : (x == ("__classdict__" : Str)) = false := by decide) : PTv X W (.Compare a [.In] [.Name x px] pos) (dTst (dOwR (oInD id) φa i)) :=
  ptv_of (pt_cmpR (op_inA o.u65) ha (pe_var hN hv hd hcd) rfl) fun σ Q p env st hE hS h => tTest_of σ Q p env st hE hS (fun Q' q => tOwR_of (own_in id) σ Q' p env st hE hS q) h
theorem ptv_notinO (o : Ok X W k) (ha : PEv X W a φa) (hN : X.N[i]? = some x := by rfl) (hv : Vis X.env.scope x := by first | exact Or.inl rfl | exact Or.inr (Or.inl rfl) | exact Or.inr (Or.inr rfl)) (hd : (x == ("__debug__" : Str)) = false := by decide)
    (hcd : (x == ("__classdict__" : Str)) = false := by decide) : PTv X W (.Compare a [.NotIn] [.Name x px] pos) (dTst (dOwR (oInD not) φa i)) :=
  ptv_of (pt_cmpR (op_notInA o.u65) ha (pe_var hN hv hd hcd) rfl) fun σ Q p env st hE hS h => tTest_of σ Q p env st hE hS (fun Q' q => tOwR_of (own_in not) σ Q' p env st hE hS q) h
/-! x == e -/
def oEqO (f : Bool → Bool) : D → D → Sto → Out D := fun d y st => match toPy d, toPy (deref y st) with
  | some a, some b => if SeqAt.shaped a = true ∧ SeqAt.shaped b = true then .ok (.bl (f (PyData.eqv a b))) st else .bad
  | _, _ => .bad
theorem own_eq {G : Cg} (f : Bool → Bool) {r : R2} (hr : ∀ x y H Q a b, Dp G.K H x a → Dp G.K H y b → SeqAt.shaped a = true → SeqAt.shaped b = true → Q (.bl (f (PyData.eqv a b))) H → r x y H Q) : Own2 G (oEqO f) r := by
  intro p st d a y u Q E ⟨_, hd⟩ ry s h
  rcases hd with ⟨ds, vs, rfl, h1, h2⟩ | ⟨ks, ds, vs, rfl, h1, h0, h2⟩
  · unfold oEqO at h
    split at h
    · rename_i e1 e2 he1 he2
      split at h
      · rename_i hs
        simp only [toPy] at he1
        obtain ⟨es, q1, rfl⟩ := Option.map_eq_some_iff.mp he1
        exact hr _ _ _ _ _ _ (.lst (SqL.of h1) (toPys_dp q1 h2)) (deref_dp he2 ry s) hs.1 hs.2 (h.now (.bl _) s)
      · exact h.elim
    · exact h.elim
  · exact h.elim
theorem pev_eqO (o : Ok X W k) (hb : PEv X W b φb) (hN : X.N[i]? = some x := by rfl) (hv : Vis X.env.scope x := by first | exact Or.inl rfl | exact Or.inr (Or.inl rfl) | exact Or.inr (Or.inr rfl)) (hd : (x == ("__debug__" : Str)) = false := by decide)
    (hcd : (x == ("__classdict__" : Str)) = false := by decide) : PEv X W (.Compare (.Name x px) [.Eq] [b] pos) (dOw2 (oEqO id) i φb) :=
  pev_of (pe_cmpR (op_eqD o.u64) (pe_var hN hv hd hcd) hb (nomark _)) (tOw2_of (own_eq id fun _ _ _ _ a b h1 h2 h3 h4 h5 => ⟨a, b, h1, h2, h3, h4, h5⟩))
theorem ptv_eqO (o : Ok X W k) (hb : PEv X W b φb) (hN : X.N[i]? = some x := by rfl) (hv : Vis X.env.scope x := by first | exact Or.inl rfl | exact Or.inr (Or.inl rfl) | exact Or.inr (Or.inr rfl)) (hd : (x == ("__debug__" : Str)) = false := by decide)
    (hcd : (x == ("__classdict__" : Str)) = false := by decide) : PTv X W (.Compare (.Name x px) [.Eq] [b] pos) (dTst (dOw2 (oEqO id) i φb)) :=
  ptv_of (pt_cmpR (op_eqD o.u64) (pe_var hN hv hd hcd) hb (nomark _)) fun σ Q p env st hE hS h => tTest_of σ Q p env st hE hS (fun Q' q => tOw2_of (own_eq id fun _ _ _ _ a b h1 h2 h3 h4 h5 => ⟨a, b, h1, h2, h3, h4, h5⟩) σ Q' p env st hE hS q) h
theorem pev_neO (o : Ok X W k) (hb : PEv X W b φb) (hN : X.N[i]? = some x := by rfl) (hv : Vis X.env.scope x := by first | exact Or.inl rfl | exact Or.inr (Or.inl rfl) | exact Or.inr (Or.inr rfl)) (hd : (x == ("__debug__" : Str)) = false := by decide)
    (hcd : (x == ("__classdict__" : Str)) = false := by decide) : PEv X W (.Compare (.Name x px) [.NotEq] [b] pos) (dOw2 (oEqO not) i φb) :=
  pev_of (pe_cmpR (op_neD o.u64) (pe_var hN hv hd hcd) hb (nomark _)) (tOw2_of (own_eq not fun _ _ _ _ a b h1 h2 h3 h4 h5 => ⟨a, b, h1, h2, h3, h4, h5⟩))
theorem ptv_neO (o : Ok X W k) (hb : PEv X W b φb) (hN : X.N[i]? = some x := by rfl) (hv : Vis X.env.scope x := by first | exact Or.inl rfl | exact Or.inr (Or.inl rfl) | exact Or.inr (Or.inr rfl)) (hd : (x == ("__debug__" : Str)) = false := by decide)
    (hcd : (x == ("__classdict__" : Str)) = false := by decide) : PTv X W (.Compare (.Name x px) [.NotEq] [b] pos) (dTst (dOw2 (oEqO not) i φb)) :=
  ptv_of (pt_cmpR (op_neD o.u64) (pe_var hN hv hd hcd) hb (nomark _)) fun σ Q p env st hE hS h => tTest_of σ Q p env st hE hS (fun Q' q => tOw2_of (own_eq not fun _ _ _ _ a b h1 h2 h3 h4 h5 => ⟨a, b, h1, h2, h3, h4, h5⟩) σ Q' p env st hE hS q) h
/-! len(x) -/
theorem pev_lenO {pn : Pos} (hm : X.mg "len" = none) (hN : X.N[i]? = some x := by rfl) (hv : Vis X.env.scope x := by first | exact Or.inl rfl | exact Or.inr (Or.inl rfl) | exact Or.inr (Or.inr rfl)) (hd : (x == ("__debug__" : Str)) = false := by decide)
    (hcd : (x == ("__classdict__" : Str)) = false := by decide) (hg : Gl X "len" := by rfl)
    (he : starEach [.Name x px] X.env = (false, eval (.Name x px) X.env) :: starEach [] X.env := by rfl) (hpl : (backTo pos (starEach [] X.env)).any (·.1) = false := by rfl) : PEv X W (.Call (.Name "len" pn) [.Name x px] [] pos) (dOw1 (fun d st => bLen [d] st) i) :=
  pev_of (pe_callB call_lenAll hg hm PySem.boot_len (pa_cons (pe_var hN hv hd hcd) pa_nil he) (by decide) (by decide) he hpl) fun σ Q p env st hE hS h => by
    unfold dOw1 at h
    split at h
    · rename_i d hd
      obtain ⟨A, g1, _, g2⟩ := ownV_at hE hd
      refine ⟨.ref A, g1, ?_⟩
      rcases g2 with ⟨ds, vs, rfl, h1, h2⟩ | ⟨ks, ds, vs, rfl, h1, h0, h2⟩
      · exact .inl ⟨_, _, rfl, .inl ⟨_, SqL.of h1, h2.length⟩, h.now (.int _) hS⟩
      · exact .inr ⟨_, _, rfl, h1, h.now (by rw [zip_len h0 h2.length]; exact .int _) hS⟩
    · exact h.elim
/-! x.get(e), x.get(e, f) -/
def dOwG2 (i : Nat) (φk φx : Den) : Den := fun env st => match ownV env i with
  | some (.dic ks ds) => (φk env st).bind fun y st => (φx env st).bind fun z st => oGet2 (.dic ks ds) y z st
  | _ => .bad
def dOwG1 (i : Nat) (φk : Den) : Den := dOwG2 i φk (dC .non)
theorem get2_own {σ : St} {p : Pt} {st : Sto} {Q : VK} {d y z : D} {A : Addr} {vy vz : V} (rx : OwnAt X.K p d A) (ry : Rep X.K p y vy) (rz : Rep X.K p z vz) (s : RepS X.K p st) (h : Aft (Rep X.K) (Cx.g X) p (oGet2 d y z st) Q (wAt W σ)) :
    ∃ o, DGet p.H A vy o ∧ Q (o.getD vz) p.H := by
  obtain ⟨_, ⟨ds, vs, rfl, h1, h2⟩ | ⟨ks, ds, vs, rfl, h1, h0, h2⟩⟩ := rx
  · exact h.elim
  · unfold oGet2 at h
    split at h
    · rename_i ks' ds' k e1 e2
      cases e1
      have w := dKey_rep e2 ry
      subst w
      refine ⟨_, .k h1, h.now ?_ s⟩
      obtain ⟨q1, q2⟩ := valD_rep (k := k) h0 h2
      cases q : valD ks ds k with
      | none => rw [q2 q]; exact rz
      | some d => obtain ⟨v, e, r⟩ := q1 d q; rw [e]; exact r
    · exact h.elim
theorem pev_get2O (o : Ok X W k) {apos : Pos} {f : Expr} {φk φx : Den} (he : PEv X W e φk) (hf : PEv X W f φx) (hN : X.N[i]? = some x := by rfl) (hv : Vis X.env.scope x := by first | exact Or.inl rfl | exact Or.inr (Or.inl rfl) | exact Or.inr (Or.inr rfl)) (hd : (x == ("__debug__" : Str)) = false := by decide)
    (hcd : (x == ("__classdict__" : Str)) = false := by decide) (m : M2 X (.Name x px) "get" apos e f pos := by exact ⟨rfl, rfl, rfl, rfl⟩) :
    PEv X W (.Call (.Attribute (.Name x px) "get" apos) [e, f] [] pos) (dOwG2 i φk φx) :=
  pev_of (pe_dget2 o.u1 (pe_var hN hv hd hcd) he hf m) fun σ Q p env st hE hS h => by
    unfold dOwG2 at h
    split at h
    · rename_i ks ds hd
      obtain ⟨A, g1, g2⟩ := ownV_at hE hd
      obtain ⟨_, ⟨_, _, q, _, _⟩ | ⟨_, _, vs, q, h1, h0, h2⟩⟩ := id g2
      · cases q
      · refine ⟨.ref A, g1, A, rfl, .inl ⟨_, .inl h1⟩, (tD.run hE hS h).mono fun y H2 ⟨p2, d2, st2, z2, e2, r2, s2, h3⟩ => ?_⟩
        subst z2
        refine (tD.run (hE.mono e2) s2 h3).mono fun z H3 ⟨p3, d3, st3, z3, e3, r3, s3, h4⟩ => ?_
        subst z3
        exact get2_own ((g2.mono e2).mono e3) (r2.mono e3) r3 s3 h4
    · exact h.elim
theorem pev_get1O (o : Ok X W k) {apos : Pos} {φk : Den} (he : PEv X W e φk) (hN : X.N[i]? = some x := by rfl) (hv : Vis X.env.scope x := by first | exact Or.inl rfl | exact Or.inr (Or.inl rfl) | exact Or.inr (Or.inr rfl)) (hd : (x == ("__debug__" : Str)) = false := by decide)
    (hcd : (x == ("__classdict__" : Str)) = false := by decide) (m : M1 X (.Name x px) "get" apos e pos := by exact ⟨rfl, rfl, rfl, rfl⟩) :
    PEv X W (.Call (.Attribute (.Name x px) "get" apos) [e] [] pos) (dOwG1 i φk) :=
  pev_of (pe_dget1 o.u1 (pe_var hN hv hd hcd) he m) fun σ Q p env st hE hS h => by
    unfold dOwG1 dOwG2 at h
    split at h
    · rename_i ks ds hd
      obtain ⟨A, g1, g2⟩ := ownV_at hE hd
      obtain ⟨_, ⟨_, _, q, _, _⟩ | ⟨_, _, vs, q, h1, h0, h2⟩⟩ := id g2
      · cases q
      · refine ⟨.ref A, g1, A, rfl, .inl ⟨_, .inl h1⟩, (tD.run hE hS h).mono fun y H2 ⟨p2, d2, st2, z2, e2, r2, s2, h3⟩ => ?_⟩
        subst z2
        exact get2_own (g2.mono e2) r2 .non s2 h3
    · exact h.elim
end
end
end DL

/-! DL: what a def tells in other words; cells that are dropped; the defs of the top; the end of a law. -/
namespace DL
open PySem PySem.Spec L2
open PyProof.Rows hiding St
set_option autoImplicit true

/-- F tells less than R, or the same -/
def Ref (R F : List D → Sto → Out D) : Prop := ∀ args st, F args st = .bad ∨ R args st = F args st
theorem Fn.imp {P w G base x k n R F} (h : Fn P w G base x k n R) (i : ∀ vs H Q E, spF G n F vs H Q E → spF G n R vs H Q E) : Fn P w G base x k n F := by
  obtain ⟨f, fd, ps, F1, a, b, c⟩ := h.ex
  exact ⟨f, fd, ps, F1.less i, a, b, c⟩
theorem Fn.ref {P w G base x k n R F} (h : Fn P w G base x k n R) (r : Ref R F) : Fn P w G base x k n F :=
  h.imp fun vs H Q E ⟨p, args, st, z, hl, ra, rs, h⟩ => ⟨p, args, st, z, hl, ra, rs, by
    rcases r args st with e | e
    · rw [e] at h; exact h.elim
    · rw [e]; exact h⟩
theorem Fn.mono {P w G base x j k n F} (h : Fn P w G base x j n F) (hk : j ≤ k) : Fn P w G base x k n F := by
  obtain ⟨f, fd, ps, F1, a, b, c⟩ := h.ex
  exact ⟨f, fd, ps, F1.up hk, a, b, c⟩

/-! ### cells that are dropped -/
mutual
def cl (n : Nat) : D → Bool
  | .tup ds => cls n ds
  | .lst ds => cls n ds
  | .fls ds => cls n ds
  | .dic _ ds => cls n ds
  | .ptr i => decide (i < n)
  | _ => true
def cls (n : Nat) : List D → Bool
  | [] => true
  | d :: ds => cl n d && cls n ds
end
def clm (n : Nat) : MO → Bool
  | .lst ds => cls n ds
  | .dic _ ds => cls n ds
mutual
theorem cl_of {K : Frag} {p : Pt} : ∀ {d : D} {v : V}, Rep K p d v → cl p.rho.length d = true
  | .non, _, _ => rfl
  | .bl _, _, _ => rfl
  | .int _, _, _ => rfl
  | .str _, _, _ => rfl
  | .raw _, _, _ => rfl
  | .tup ds, _, r => by rw [cl]; cases r with | tup _ r => exact cls_of r
  | .lst ds, _, r => by rw [cl]; cases r with | lst _ _ r => exact cls_of r
  | .fls ds, _, r => by rw [cl]; cases r with | fls _ r => exact cls_of r
  | .dic _ ds, _, r => by rw [cl]; cases r with | dic _ _ _ r => exact cls_of r
  | .ptr i, _, r => by rw [cl]; cases r with | ptr h => exact decide_eq_true (List.getElem?_eq_some_iff.mp h).1
theorem cls_of {K : Frag} {p : Pt} : ∀ {ds : List D} {vs : List V}, Reps K p ds vs → cls p.rho.length ds = true
  | [], _, _ => rfl
  | d :: ds, _, r => by
    rw [cls]
    cases r with
    | cons a b => rw [cl_of a, cls_of b]; rfl
end
/-- the cells behind the first ones are forgotten -/
def Pt.cut (q : Pt) (rho : List Addr) : Pt := ⟨rho, q.V, q.H, q.sub, q.T, q.tb, q.hv⟩
mutual
theorem Rep.cut {K : Frag} {q : Pt} {r t : List Addr} (e : q.rho = r ++ t) : ∀ {d : D} {v : V}, cl r.length d = true → Rep K q d v → Rep K (q.cut r) d v
  | .non, _, _, h => by cases h; exact .non
  | .bl _, _, _, h => by cases h; exact .bl _
  | .int _, _, _, h => by cases h; exact .int _
  | .str _, _, _, h => by cases h; exact .str _
  | .raw _, _, _, h => by cases h; exact .raw _
  | .tup ds, _, c, h => by
    rw [cl] at c
    cases h with
    | tup s h =>
      refine .tup ?_ (Reps.cut e c h)
      rcases s with ⟨s, n⟩ | s
      · exact .inl ⟨s, fun z => n (by rw [e]; exact List.mem_append_left _ z)⟩
      · exact .inr s
  | .lst ds, _, c, h => by
    rw [cl] at c
    cases h with
    | lst s n h => exact .lst s (fun z => n (by rw [e]; exact List.mem_append_left _ z)) (Reps.cut e c h)
  | .fls ds, _, c, h => by
    rw [cl] at c
    cases h with
    | fls s h =>
      refine .fls ?_ (Reps.cut e c h)
      rcases s with ⟨s, n⟩ | s
      · exact .inl ⟨s, fun z => n (by rw [e]; exact List.mem_append_left _ z)⟩
      · exact .inr s
  | .dic _ ds, _, c, h => by
    rw [cl] at c
    cases h with
    | dic s n l h => exact .dic s (fun z => n (by rw [e]; exact List.mem_append_left _ z)) l (Reps.cut e c h)
  | .ptr i, _, c, h => by
    rw [cl] at c
    cases h with
    | ptr h =>
      refine .ptr ?_
      rw [e, List.getElem?_append_left (of_decide_eq_true c)] at h
      exact h
theorem Reps.cut {K : Frag} {q : Pt} {r t : List Addr} (e : q.rho = r ++ t) : ∀ {ds : List D} {vs : List V}, cls r.length ds = true → Reps K q ds vs → Reps K (q.cut r) ds vs
  | [], _, _, h => by cases h; exact .nil
  | d :: ds, _, c, h => by
    rw [cls, Bool.and_eq_true] at c
    cases h with
    | cons a b => exact .cons (Rep.cut e c.1 a) (Reps.cut e c.2 b)
end
/-! what is handed back, without the new cells g: n cells stay -/
mutual
inductive Frz (n : Nat) (g : Sto) : D → D → Prop
  | self {d : D} (c : cl n d = true) : Frz n g d d
  | lst {j : Nat} {ds ds' : List D} (h : g[j]? = some (.lst ds)) (c : Frzs n g ds ds') : Frz n g (.ptr (n + j)) (.lst ds')
  | dic {j : Nat} {ks : List Key} {ds ds' : List D} (h : g[j]? = some (.dic ks ds)) (c : Frzs n g ds ds') : Frz n g (.ptr (n + j)) (.dic ks ds')
  | tup {ds ds' : List D} (c : Frzs n g ds ds') : Frz n g (.tup ds) (.tup ds')
  | lsv {ds ds' : List D} (c : Frzs n g ds ds') : Frz n g (.lst ds) (.lst ds')
inductive Frzs (n : Nat) (g : Sto) : List D → List D → Prop
  | nil : Frzs n g [] []
  | cons {d d' : D} {ds ds' : List D} (a : Frz n g d d') (b : Frzs n g ds ds') : Frzs n g (d :: ds) (d' :: ds')
end
theorem Frzs.length {n : Nat} {g : Sto} : ∀ {ds ds' : List D}, Frzs n g ds ds' → ds.length = ds'.length
  | _, _, .nil => rfl
  | _, _, .cons _ b => by simp [Frzs.length b]
section
variable {K : Frag} {q : Pt} {r t : List Addr} {n : Nat} {g : Sto}
mutual
theorem Frz.rep (e : q.rho = r ++ t) (hn : n = r.length) (cell : ∀ {j a m}, q.rho[n + j]? = some a → g[j]? = some m → RepM K q a m ∧ a ∉ r) : ∀ {d d' : D} {v : V}, Frz n g d d' → Rep K q d v → Rep K (q.cut r) d' v
  | _, _, _, .self c, h => Rep.cut e (hn ▸ c) h
  | _, _, _, .lst hg c, h => by
    cases h with
    | ptr ha =>
      obtain ⟨⟨vs, g1, g2⟩, na⟩ := cell ha hg
      exact .lst g1 na (Frzs.rep e hn cell c g2)
  | _, _, _, .dic hg c, h => by
    cases h with
    | ptr ha =>
      obtain ⟨⟨vs, g1, g0, g2⟩, na⟩ := cell ha hg
      exact .dic g1 na (g0.trans c.length) (Frzs.rep e hn cell c g2)
  | _, _, _, .tup c, h => by
    cases h with
    | tup s h =>
      refine .tup ?_ (Frzs.rep e hn cell c h)
      rcases s with ⟨s, n⟩ | s
      · exact .inl ⟨s, fun z => n (by rw [e]; exact List.mem_append_left _ z)⟩
      · exact .inr s
  | _, _, _, .lsv c, h => by
    cases h with
    | lst s n h => exact .lst s (fun z => n (by rw [e]; exact List.mem_append_left _ z)) (Frzs.rep e hn cell c h)
theorem Frzs.rep (e : q.rho = r ++ t) (hn : n = r.length) (cell : ∀ {j a m}, q.rho[n + j]? = some a → g[j]? = some m → RepM K q a m ∧ a ∉ r) : ∀ {ds ds' : List D} {vs : List V}, Frzs n g ds ds' → Reps K q ds vs → Reps K (q.cut r) ds' vs
  | _, _, _, .nil, h => by cases h; exact .nil
  | _, _, _, .cons a b, h => by
    cases h with
    | cons x y => exact .cons (Frz.rep e hn cell a x) (Frzs.rep e hn cell b y)
end
end
def RefP (R F : List D → Sto → Out D) : Prop := ∀ args st, F args st = .bad ∨ R args st = F args st ∨
  ∃ d d' st' g, R args st = .ok d (st' ++ g) ∧ F args st = .ok d' st' ∧ st'.length = st.length ∧ (st' = st ∨ st'.all (clm st.length) = true) ∧ Frz st.length g d d'
theorem Fn.refP {P w G base x k n R F} (h : Fn P w G base x k n R) (r : RefP R F) : Fn P w G base x k n F :=
  h.imp fun vs H Q E ⟨p, args, st, z, hl, ra, rs, h⟩ => ⟨p, args, st, z, hl, ra, rs, by
    rcases r args st with e | e | ⟨d, d', st', g, e1, e2, hlen, hcl, fz⟩
    · rw [e] at h; exact h.elim
    · rw [e]; exact h
    · rw [e2] at h
      rw [e1]
      intro q b ex rq sq
      obtain ⟨t, ht⟩ := ex.pre
      have hn : st.length = p.rho.length := rs.len
      have ex0 : Ext p (q.cut p.rho) := ⟨⟨[], by simp [Pt.cut]⟩, ex.keep, fun b hb nb => absurd hb nb, ex.vis, ex.hid, ex.tbk, ex.tT⟩
      have mcl : ∀ (i : Nat) (m : MO), st'[i]? = some m → clm p.rho.length m = true := by
        intro i m hm
        rcases hcl with e | e
        · subst e
          have hi : i < p.rho.length := by rw [← hn]; exact (List.getElem?_eq_some_iff.mp hm).1
          have := rs.at_ i m _ hm (List.getElem?_eq_getElem hi)
          cases m with
          | lst ds => obtain ⟨vs, _, r⟩ := this; exact cls_of r
          | dic ks ds => obtain ⟨vs, _, _, r⟩ := this; exact cls_of r
        · rw [← hn]
          exact List.all_eq_true.mp e m (List.mem_of_getElem? hm)
      have sq0 : RepS G.K (q.cut p.rho) st' := by
        refine ⟨by rw [hlen]; exact hn, rs.nd, fun i m a h1 h2 => ?_⟩
        have h2 : p.rho[i]? = some a := h2
        have hi := (List.getElem?_eq_some_iff.mp h2).1
        have hi' := (List.getElem?_eq_some_iff.mp h1).1
        have hm := sq.at_ i m a (by rw [List.getElem?_append_left hi']; exact h1) (by rw [ht, List.getElem?_append_left hi]; exact h2)
        have c := mcl i m h1
        cases m with
        | lst ds => obtain ⟨vs, g1, g2⟩ := hm; exact ⟨vs, g1, Reps.cut ht c g2⟩
        | dic ks ds => obtain ⟨vs, g1, g0, g2⟩ := hm; exact ⟨vs, g1, g0, Reps.cut ht c g2⟩
      have cell : ∀ {j a m}, q.rho[st.length + j]? = some a → g[j]? = some m → RepM G.K q a m ∧ a ∉ p.rho := by
        intro j a m ha hm
        refine ⟨sq.at_ (st.length + j) m a (by rw [List.getElem?_append_right (by omega), hlen, Nat.add_sub_cancel_left]; exact hm) ha, fun z => ?_⟩
        obtain ⟨i, hi⟩ := List.mem_iff_getElem?.mp z
        have h3 : q.rho[i]? = some a := by rw [ht, List.getElem?_append_left (List.getElem?_eq_some_iff.mp hi).1]; exact hi
        obtain ⟨a1, b1⟩ := List.getElem?_eq_some_iff.mp h3
        obtain ⟨a2, b2⟩ := List.getElem?_eq_some_iff.mp ha
        have := (List.getElem_inj sq.nd).mp (b1.trans b2.symm)
        have := (List.getElem?_eq_some_iff.mp hi).1
        omega
      exact h (q.cut p.rho) b ex0 (Frz.rep ht hn cell fz rq) sq0⟩
/-- the new cells are dropped, what is handed back is frozen -/
def frz (n : Nat) (g : Sto) : Nat → D → Option D
  | 0, d => if cl n d = true then some d else none
  | k + 1, d => match d with
    | .ptr i => if i < n then some (.ptr i) else match g[i - n]? with
      | some (.lst ds) => (ds.mapM (frz n g k)).map .lst
      | some (.dic ks ds) => (ds.mapM (frz n g k)).map (.dic ks)
      | none => none
    | .tup ds => (ds.mapM (frz n g k)).map .tup
    | .lst ds => (ds.mapM (frz n g k)).map .lst
    | d => if cl n d = true then some d else none
theorem frzs_of {n : Nat} {g : Sto} {k : Nat} (ih : ∀ d d', frz n g k d = some d' → Frz n g d d') : ∀ {ds ds' : List D}, ds.mapM (frz n g k) = some ds' → Frzs n g ds ds'
  | [], ds', h => by simp at h; subst h; exact .nil
  | d :: ds, ds', h => by
    rw [List.mapM_cons] at h
    obtain ⟨d', h1, h⟩ := Option.bind_eq_some_iff.mp h
    obtain ⟨es, h2, h⟩ := Option.bind_eq_some_iff.mp h
    cases h
    exact .cons (ih _ _ h1) (frzs_of ih h2)
theorem frz_of {n : Nat} {g : Sto} : ∀ {k : Nat} {d d' : D}, frz n g k d = some d' → Frz n g d d'
  | 0, d, d', h => by
    unfold frz at h
    split at h
    · cases h; exact .self (by assumption)
    · cases h
  | k + 1, d, d', h => by
    have ih : ∀ d d', frz n g k d = some d' → Frz n g d d' := fun d d' h => frz_of h
    unfold frz at h
    split at h
    · rename_i i
      split at h
      · cases h; exact .self (by rw [cl]; exact decide_eq_true (by assumption))
      · rename_i hi
        have e : i = n + (i - n) := by omega
        split at h
        · rename_i ds hg
          obtain ⟨es, h2, h⟩ := Option.map_eq_some_iff.mp h
          subst h
          rw [e]
          exact .lst hg (frzs_of ih h2)
        · rename_i ks ds hg
          obtain ⟨es, h2, h⟩ := Option.map_eq_some_iff.mp h
          subst h
          rw [e]
          exact .dic hg (frzs_of ih h2)
        · cases h
    · obtain ⟨es, h2, h⟩ := Option.map_eq_some_iff.mp h
      subst h
      exact .tup (frzs_of ih h2)
    · obtain ⟨es, h2, h⟩ := Option.map_eq_some_iff.mp h
      subst h
      exact .lsv (frzs_of ih h2)
    · split at h
      · cases h; exact .self (by assumption)
      · cases h
open Classical in
noncomputable def prn (R : List D → Sto → Out D) : List D → Sto → Out D := fun args st => match R args st with
  | .ok d st2 => if (st2.take st.length = st ∨ (st2.take st.length).all (clm st.length) = true) ∧ st.length ≤ st2.length then (match frz st.length (st2.drop st.length) 9 d with
    | some d' => .ok d' (st2.take st.length)
    | none => .bad) else .bad
  | .exc x st2 => .exc x st2
  | .bad => .bad
theorem prn_ref (R : List D → Sto → Out D) : RefP R (prn R) := by
  intro args st
  unfold prn
  cases q : R args st with
  | bad => exact .inl rfl
  | exc x st2 => exact .inr (.inl rfl)
  | ok d st2 =>
    dsimp only
    split
    · rename_i hc
      cases f : frz st.length (st2.drop st.length) 9 d with
      | none => exact .inl rfl
      | some d' =>
        refine .inr (.inr ⟨d, d', st2.take st.length, st2.drop st.length, by rw [List.take_append_drop], rfl, by rw [List.length_take]; omega, hc.1, frz_of f⟩)
    · exact .inl rfl
theorem prn_ok {R : List D → Sto → Out D} {args : List D} {st st' g : Sto} {d d' : D} (h : R args st = .ok d (st' ++ g)) (hl : st'.length = st.length) (hc : st' = st ∨ st'.all (clm st.length) = true) (hf : frz st.length g 9 d = some d') : prn R args st = .ok d' st' := by
  unfold prn
  rw [h]
  dsimp only
  rw [← hl, List.take_left, List.drop_left, hl, if_pos ⟨hc, by rw [List.length_append]; omega⟩, hf]
theorem prn_exc {R : List D → Sto → Out D} {args : List D} {st st' : Sto} {x : XV} (h : R args st = .exc x st') : prn R args st = .exc x st' := by
  unfold prn
  rw [h]

/-! ### the defs of the top -/
structure DefIn (G : Cg) (x : Str) (st : Stmt) (ps : List Str) : Prop where
  ex : ∃ f fd, Fun G.K x x st f fd ∧ G.mg x = some (.ref f) ∧ ∀ us : List Value, us.length = ps.length → bindArgs fd ⟨us, []⟩ = pure (ps.zip us)
theorem def_mk {K : Frag} {h : Heap} {mg : Str → Option Value} {x : Str} {st : Stmt} {ps : List Str} {f : Addr} {oc : Value} {od an : Option Addr} {osl : Array (Option Value)} {kV doc pm cdv ct : Value} (X : K.In h) (G : h.Ns mainGlobals mg)
    (hb : ∀ (kV doc pm : Value) (an : Option Addr) (cdv ct : Value) (us : List Value), us.length = ps.length → bindArgs (PySem.W.fnOf x x (defArgs st) (defBody st) (defScope st) .none kV doc pm an cdv ct) ⟨us, []⟩ = pure (ps.zip us))
    (a : PySem.W.nsIn K mainGlobals x = some (some (.ref f))) (l : K.lookup f = some ⟨oc, od, .func (PySem.W.fnOf x x (defArgs st) (defBody st) (defScope st) .none kV doc pm an cdv ct), osl⟩) (c : PySem.W.codeIn K cdv x = true) (k : PySem.W.keepIn K (.ref f) = true) :
    DefIn ⟨K, mg⟩ x st ps := ⟨f, _, fun_mk l c k, PySem.W.mg_of X G a, hb kV doc pm an cdv ct⟩
theorem fn_raw {P : Program} {w : World} {G : Cg} {base : Heap} {x : Str} {st : Stmt} {ps N : List Str} {k : Nat} {θ : DenS} (Df : DefIn G x st ps) (S : FnScope N ps (defScope st))
    (hb : ∀ (X : Cx) (W : WG), Ok X W k → (∃ f cdv A outer s H E, X = cxOf (L2.CX P w) P w G.K G.mg base N x (defScope st) f cdv A outer s H E) → PBv X W (defBody st) θ) : Fn P w G base x (k + 1) ps.length (dFn N.length θ) := by
  obtain ⟨f, fd, F, hm, hbd⟩ := Df.ex
  exact ⟨f, fd, ps, fn_den F S fun X W o ⟨cdv, A, outer, s, H, E, e⟩ => hb X W o ⟨f, cdv, A, outer, s, H, E, e⟩, hm, F.kp, Binds.all hbd⟩
/-- a tuple of the module -/
theorem gcon_tup {K : Frag} {h : Heap} {mg : Str → Option Value} {x : Str} {a : Addr} {o : Obj} {its : Array Value} {n : Nat} {ds : List D} {vs : List V} (X : K.In h) (G : h.Ns mainGlobals mg) (e : PySem.W.nsIn K mainGlobals x = some (some (.ref a)))
    (l : K.lookup a = some o) (c : o.cls = .type "tuple") (d : o.data = .seq its n) (z : its.size ≤ sizeLine) (r : Vals vs its.toList) (q : ∀ p, Reps K p ds vs) : GCon ⟨K, mg⟩ x (.tup ds) :=
  ⟨.ref a, .ref a, PySem.W.mg_of X G e, rfl, fun p => .tup (.inr ⟨o, its, n, l, c, d, z, r⟩) (q p)⟩

/-! ### the end -/
def spLaw (K : Frag) : Sp := fun vs H Q _ => ∃ (a : Addr) (ns : List Int), vs = [.ref a] ∧ ns.length ≤ 63 ∧ Only H ∧ SqL K H a (ns.map V.int) ∧ ∀ H', Q (.bl true) H'
theorem reps_ints {K : Frag} {p : Pt} : ∀ ns : List Int, Reps K p (ns.map D.int) (ns.map V.int)
  | [] => .nil
  | n :: ns => .cons (.int n) (reps_ints ns)
theorem law_of {P : Program} {w : World} {G : Cg} {base : Heap} {f : Addr} {fd : FuncData} {k : Nat} {x : Str} {F : List D → Sto → Out D} (h : FnG P w G.K G.mg base k f fd [x] (spF G 1 F))
    (ht : ∀ ns : List Int, ns.length ≤ 63 → ∃ st, F [.fls (ns.map D.int)] [] = .ok (.bl true) st) : FnG P w G.K G.mg base k f fd [x] (spLaw G.K) :=
  h.less fun vs H Q E ⟨a, ns, e, hl, hO, hS, hq⟩ => by
    subst e
    obtain ⟨st, e⟩ := ht ns hl
    refine ⟨⟨[], H, H, fun _ _ h => h, [], fun p hp => absurd hp (by simp), fun p hp => absurd hp (by simp)⟩, [.fls (ns.map D.int)], [], rfl, rfl, .cons (.fls ?_ (reps_ints ns)) .nil, ⟨rfl, List.nodup_nil, fun n m a h _ => by simp at h⟩, ?_⟩
    · rcases hS with h | h
      · exact .inl ⟨h, by simp⟩
      · exact .inr h
    · rw [e]
      intro q b _ r _
      cases r
      exact hq _
end DL

/-! DL: evaluation of denotations; fractions. -/
namespace DL
open PySem PySem.Spec L2
open PyProof.Rows hiding St
set_option autoImplicit true
/-- a loop's fuel by an int in a slot -/
def fuI (i : Nat) : En → Sto → Nat := fun env _ => match env[i]? with
  | some (some (.int j)) => j.natAbs + 2
  | _ => 0
/-! ### what simp unfolds -/
theorem shaped_int (i : Int) : SeqAt.shaped (.int i) = true := rfl
theorem shaped_bool (i : Bool) : SeqAt.shaped (.bool i) = true := rfl
theorem shaped_none : SeqAt.shaped .none = true := rfl
theorem oEq_int (i j : Int) (st : Sto) : oEq (.int i) (.int j) st = .ok (.bl (i == j)) st := rfl
theorem oNe_int (i j : Int) (st : Sto) : oNe (.int i) (.int j) st = .ok (.bl (!(i == j))) st := rfl
theorem oEq_bl (i j : Bool) (st : Sto) : oEq (.bl i) (.bl j) st = .ok (.bl (i == j)) st := rfl
theorem oNe_bl (i j : Bool) (st : Sto) : oNe (.bl i) (.bl j) st = .ok (.bl (!(i == j))) st := rfl
@[simp] theorem Out.to_ok {α : Type} {a : α} {st : Sto} {env : En} {k : α → Sto → SOut} : (Out.ok a st).to env k = k a st := by unfold Out.to; exact (Eq.refl _)
@[simp] theorem Out.to_bad {α : Type} {env : En} {k : α → Sto → SOut} : (Out.bad : Out α).to env k = none := by unfold Out.to; exact (Eq.refl _)
/-! ### sizes -/
def Sm (n : Nat) (i : Int) : Prop := i.natAbs < 2 ^ n
instance (n : Nat) (i : Int) : Decidable (Sm n i) := inferInstanceAs (Decidable (_ < _))
theorem Sm.mono {n m i} (h : Sm n i) (hm : n ≤ m) : Sm m i := Nat.lt_of_lt_of_le h (Nat.pow_le_pow_right (by decide) hm)
theorem Sm.mul {n m i j} (h : Sm n i) (h' : Sm m j) : Sm (n + m) (i * j) := by
  unfold Sm at *
  rw [Int.natAbs_mul, Nat.pow_add]
  exact Nat.mul_lt_mul'' h h'
theorem Sm.add {n i j} (h : Sm n i) (h' : Sm n j) : Sm (n + 1) (i + j) := by
  unfold Sm at *
  rw [Nat.pow_succ]
  have := Int.natAbs_add_le i j
  omega
theorem Sm.sub {n i j} (h : Sm n i) (h' : Sm n j) : Sm (n + 1) (i - j) := by
  unfold Sm at *
  rw [Nat.pow_succ]
  have := Int.natAbs_sub_le i j
  omega
theorem Sm.log {n i} (h : Sm n i) : i.natAbs.log2 ≤ n := by
  unfold Sm at h
  by_cases z : i.natAbs = 0
  · rw [z]; simp
  · exact Nat.le_of_lt ((Nat.log2_lt z).mpr h)
theorem Sm.log' {n i} (h : Sm n i) (h0 : 0 < n) : i.natAbs.log2 < n := by
  unfold Sm at h
  by_cases z : i.natAbs = 0
  · rw [z]; simpa using h0
  · exact (Nat.log2_lt z).mpr h
theorem oMul_sm {n m : Nat} {i j : Int} {st : Sto} (h : Sm n i) (h' : Sm m j) (hs : n + m < 1000000 := by decide) : oMul (.int i) (.int j) st = .ok (.int (i * j)) st := by
  simp only [oMul]
  rw [if_pos]
  have := h.log
  have := h'.log
  omega
theorem oFdiv_sm {n : Nat} {i j : Int} {st : Sto} (h0 : 0 < j) (h : Sm n j) (hs : n < 9000 := by decide) : oFdiv (.int i) (.int j) st = .ok (.int (i / j)) st := by
  simp only [oFdiv]
  rw [if_pos]
  have := h.log
  exact ⟨h0, by omega⟩
theorem oMod_pos {i j : Int} {st : Sto} (h : 0 < j) : oMod (.int i) (.int j) st = .ok (.int (i % j)) st := by
  simp only [oMod]
  rw [if_pos h]
/-! ### fractions -/
def fr (q : Rat) : D := .tup [.int q.num, .int q.den]
theorem fr_inj {q r : Rat} : fr q = fr r ↔ q = r := by
  constructor
  · intro h
    simp only [fr, D.tup.injEq, List.cons.injEq, D.int.injEq, and_true] at h
    exact Rat.ext h.1 (by omega)
  · rintro rfl; rfl
theorem oEq_fr (q r : Rat) (st : Sto) : oEq (fr q) (fr r) st = .ok (.bl (decide (q = r))) st := by
  have : oEq (fr q) (fr r) st = .ok (.bl ((q.num == r.num) && (((q.den : Int) == (r.den : Int)) && true))) st := rfl
  rw [this]
  congr 2
  by_cases h : q = r
  · subst h; simp
  · have : ¬ (q.num = r.num ∧ q.den = r.den) := fun z => h (Rat.ext z.1 z.2)
    simp [h]
    intro z; exact fun y => this ⟨z, by omega⟩
theorem oNe_fr (q r : Rat) (st : Sto) : oNe (fr q) (fr r) st = .ok (.bl (!decide (q = r))) st := by
  have : oNe (fr q) (fr r) st = .ok (.bl (!((q.num == r.num) && (((q.den : Int) == (r.den : Int)) && true)))) st := rfl
  have h2 : oEq (fr q) (fr r) st = .ok (.bl ((q.num == r.num) && (((q.den : Int) == (r.den : Int)) && true))) st := rfl
  rw [oEq_fr] at h2
  rw [this]
  simp only [Out.ok.injEq, D.bl.injEq, and_true] at h2
  rw [← h2]
/-- the fraction of two ints, in the program's words -/
theorem fr_divInt (t b : Int) (h : 0 < b) : fr (Rat.divInt t b) = .tup [.int (t / (Int.gcd t b : Int)), .int (b / (Int.gcd t b : Int))] := by
  unfold fr
  rw [Rat.num_divInt, Rat.den_divInt, if_neg (by omega), Int.sign_eq_one_of_pos h, Int.one_mul, Int.gcd_comm b t]
  have : ((b.natAbs / Int.gcd t b : Nat) : Int) = b / (Int.gcd t b : Int) := by
    rw [Int.natCast_ediv, Int.natAbs_of_nonneg (by omega)]
  rw [this]
def SmQ (n : Nat) (q : Rat) : Prop := Sm n q.num ∧ Sm n (q.den : Int)
theorem SmQ.mono {n m q} (h : SmQ n q) (hm : n ≤ m) : SmQ m q := ⟨h.1.mono hm, h.2.mono hm⟩
theorem SmQ.divInt {n t b} (h : Sm n t) (h' : Sm n b) (hb : b ≠ 0) : SmQ n (Rat.divInt t b) := by
  unfold SmQ Sm at *
  rw [Rat.num_divInt, Rat.den_divInt, if_neg hb]
  constructor
  · have : (b.sign * t / (b.gcd t : Int)).natAbs ≤ t.natAbs := by
      rw [Int.natAbs_ediv_of_dvd (Int.dvd_mul_of_dvd_right (Int.gcd_dvd_right ..)), Int.natAbs_mul, Int.natAbs_sign_of_ne_zero hb, Nat.one_mul]
      exact Nat.div_le_self ..
    omega
  · have : b.natAbs / b.gcd t ≤ b.natAbs := Nat.div_le_self ..
    simp only [Int.natAbs_natCast]
    omega
theorem oTup2 (a b : D) (st : Sto) : oTup [a, b] st = .ok (.tup [a, b]) st := rfl
theorem gcd_pos' {t b : Int} (h : 0 < b) : (0 : Int) < (Int.gcd t b : Int) := by
  have := Int.gcd_pos_of_ne_zero_right t (show b ≠ 0 by omega)
  omega
theorem gcd_sm {n : Nat} {t b : Int} (h : 0 < b) (hs : Sm n b) : Sm n (Int.gcd t b : Int) := by
  have h1 : Int.gcd t b ≤ b.natAbs := Nat.le_of_dvd (by omega) (Int.gcd_dvd_natAbs_right ..)
  unfold Sm at *
  simp only [Int.natAbs_natCast]
  omega
theorem ix0 (x : D) (xs : List D) (st : Sto) : oIx (.tup (x :: xs)) (.int 0) st = .ok x st := by
  have : atI (x :: xs) 0 = some x := atI_nat (j := 0) rfl
  simp only [oIx, this]
theorem ix1 (x y : D) (xs : List D) (st : Sto) : oIx (.tup (x :: y :: xs)) (.int 1) st = .ok y st := by
  have : atI (x :: y :: xs) 1 = some y := atI_nat (j := 1) rfl
  simp only [oIx, this]
theorem den_ne (q : Rat) : (q.den : Int) ≠ 0 := by have := q.den_nz; omega
theorem den_pos (q : Rat) : (0 : Int) < (q.den : Int) := by have := q.den_nz; omega
theorem divInt_add (q r : Rat) : Rat.divInt (q.num * r.den + r.num * q.den) (q.den * r.den) = q + r := by
  rw [← Rat.divInt_add_divInt _ _ (den_ne q) (den_ne r), Rat.num_divInt_den, Rat.num_divInt_den]
theorem divInt_sub (q r : Rat) : Rat.divInt (q.num * r.den - r.num * q.den) (q.den * r.den) = q - r := by
  rw [← Rat.divInt_sub_divInt _ _ (den_ne q) (den_ne r), Rat.num_divInt_den, Rat.num_divInt_den]
theorem divInt_mul (q r : Rat) : Rat.divInt (q.num * r.num) (q.den * r.den) = q * r := by
  rw [← Rat.divInt_mul_divInt, Rat.num_divInt_den, Rat.num_divInt_den]
theorem divInt_div (q r : Rat) : Rat.divInt (q.num * r.den) (q.den * r.num) = q / r := by
  rw [← Rat.divInt_mul_divInt, Rat.num_divInt_den, Rat.div_def, Rat.inv_def]
theorem ne_mul {a b : Int} (h : a ≠ 0) (h' : b ≠ 0) : a * b ≠ 0 := Int.mul_ne_zero h h'
theorem len2 (a b : D) (st : Sto) : bLen [.tup [a, b]] st = .ok (.int 2) st := rfl
/-! ### sizes of sums and products -/
theorem SmQ.add {n m : Nat} {q r : Rat} (hq : SmQ n q) (hr : SmQ m r) : SmQ (n + m + 1) (q + r) := by
  rw [← divInt_add]
  refine SmQ.divInt ?_ ((hq.2.mul hr.2).mono (by omega)) (ne_mul (den_ne q) (den_ne r))
  exact (hq.1.mul hr.2).add ((hr.1.mul hq.2).mono (by omega))
theorem SmQ.sub {n m : Nat} {q r : Rat} (hq : SmQ n q) (hr : SmQ m r) : SmQ (n + m + 1) (q - r) := by
  rw [← divInt_sub]
  refine SmQ.divInt ?_ ((hq.2.mul hr.2).mono (by omega)) (ne_mul (den_ne q) (den_ne r))
  exact (hq.1.mul hr.2).sub ((hr.1.mul hq.2).mono (by omega))
theorem SmQ.mul {n m : Nat} {q r : Rat} (hq : SmQ n q) (hr : SmQ m r) : SmQ (n + m) (q * r) := by
  rw [← divInt_mul]
  exact SmQ.divInt (hq.1.mul hr.1) (hq.2.mul hr.2) (ne_mul (den_ne q) (den_ne r))
theorem SmQ.div {n m : Nat} {q r : Rat} (hq : SmQ n q) (hr : SmQ m r) (h0 : r ≠ 0) : SmQ (n + m) (q / r) := by
  rw [← divInt_div]
  exact SmQ.divInt (hq.1.mul hr.2) (hq.2.mul hr.1) (ne_mul (den_ne q) fun z => h0 (Rat.num_eq_zero.mp z))
theorem ix0_fr (q : Rat) (st : Sto) : oIx (fr q) (.int 0) st = .ok (.int q.num) st := ix0 _ _ _
theorem ix1_fr (q : Rat) (st : Sto) : oIx (fr q) (.int 1) st = .ok (.int q.den) st := ix1 _ _ _ _
theorem oTup01 (st : Sto) : oTup [.int 0, .int 1] st = .ok (fr 0) st := rfl
theorem smq0 : SmQ 1 0 := ⟨by show (0 : Nat) < 2 ^ 1; decide, by show (1 : Nat) < 2 ^ 1; decide⟩
/-! ### the draws of a law -/
def kks : List Key := [.inr "cells", .inr "lefts", .inr "at", .inr "room"]
def stt (cells lefts : List Int) (a : Int) : Sto := [.lst (lefts.map .int), .dic kks [.lst (cells.map .int), .ptr 0, .int a, .int 0]]
theorem v_cells (a b c d : D) : valD kks [a, b, c, d] (.inr "cells") = some a := rfl
theorem v_lefts (a b c d : D) : valD kks [a, b, c, d] (.inr "lefts") = some b := rfl
theorem v_at (a b c d : D) : valD kks [a, b, c, d] (.inr "at") = some c := rfl
theorem p_at (a b c d e : D) : putDs kks [a, b, c, d] (.inr "at") e = [a, b, e, d] := rfl
theorem k_at : putKs kks (.inr "at") = kks := rfl
theorem x_cells (cs ls : List Int) (a : Int) (r : Sto) : oIx (.ptr 1) (.str "cells") (stt cs ls a ++ r) = .ok (.lst (cs.map .int)) (stt cs ls a ++ r) := rfl
theorem x_lefts (cs ls : List Int) (a : Int) (r : Sto) : oIx (.ptr 1) (.str "lefts") (stt cs ls a ++ r) = .ok (.ptr 0) (stt cs ls a ++ r) := rfl
theorem x_at (cs ls : List Int) (a : Int) (r : Sto) : oIx (.ptr 1) (.str "at") (stt cs ls a ++ r) = .ok (.int a) (stt cs ls a ++ r) := rfl
theorem s_at (cs ls : List Int) (a b : Int) (r : Sto) : oSet (.ptr 1) (.str "at") (.int b) (stt cs ls a ++ r) = some (stt cs ls b ++ r) := rfl
theorem atI_map (ls : List Int) (i : Nat) (h : i < ls.length) : atI (ls.map D.int) (i : Int) = some (.int ls[i]) := atI_nat (by simp [h])
theorem ixN_nat (n i : Nat) (h : i < n) : ixN n (i : Int) = some i := by unfold ixN; simp; omega
theorem x_left (cs ls : List Int) (a : Int) (r : Sto) (i : Nat) (h : i < ls.length) : oIx (.ptr 0) (.int i) (stt cs ls a ++ r) = .ok (.int ls[i]) (stt cs ls a ++ r) := by
  have : oIx (.ptr 0) (.int i) (stt cs ls a ++ r) = (match atI (ls.map D.int) (i : Int) with
        | some d => .ok d (stt cs ls a ++ r)
        | none => .bad) := rfl
  rw [this, atI_map ls i h]
theorem x_cell (cs : List Int) (st : Sto) (i : Nat) (h : i < cs.length) : oIx (.lst (cs.map .int)) (.int i) st = .ok (.int cs[i]) st := by
  simp only [oIx, atI_map cs i h]
theorem s_left (cs ls : List Int) (a b : Int) (r : Sto) (i : Nat) (h : i < ls.length) : oSet (.ptr 0) (.int i) (.int b) (stt cs ls a ++ r) = some (stt cs (ls.set i b) a ++ r) := by
  have : oSet (.ptr 0) (.int i) (.int b) (stt cs ls a ++ r) = (ixN (ls.map D.int).length (i : Int)).map fun j => (stt cs ls a ++ r).set 0 (.lst ((ls.map D.int).set j (.int b))) := rfl
  rw [this, ixN_nat _ i (by simpa using h)]
  simp [stt, List.map_set]
theorem b_len (cs : List Int) (st : Sto) : bLen [.lst (cs.map .int)] st = .ok (.int cs.length) st := by simp [bLen, lenD]
def mixI (c k : Int) : Int := (c % 2147483647 * (48271 + 2 * k * k) + 69621 * k + 11) % 2147483647 * 69621 % 2147483629
theorem Sm.mod {n : Nat} (i : Int) {j : Int} (h : 0 < j) (hs : Sm n j) : Sm n (i % j) := by
  have h1 := Int.emod_nonneg i (show j ≠ 0 by omega)
  have h2 := Int.emod_lt_of_pos i h
  unfold Sm at *
  omega
theorem mixI_sm (c k : Int) : Sm 31 (mixI c k) := Sm.mod _ (by decide) (by decide)
def Dr (cs : List Int) (a : Nat) (st r : Sto) : Prop := cs ≠ [] ∧ ∃ ls, ls.length = cs.length ∧ st = stt cs ls a ++ r
theorem toPys_ints : ∀ ns : List Int, toPys (ns.map D.int) = some (ns.map PyData.int)
  | [] => rfl
  | n :: ns => by simp only [List.map_cons, toPys, toPy, toPys_ints ns]
theorem can_ints : ∀ ns : List Int, PyData.canLayAll0 (ns.map PyData.int) = true
  | [] => rfl
  | n :: ns => by rw [List.map_cons, PyData.canLayAll0, can_ints ns]; rfl
theorem depth_ints : ∀ ns : List Int, PyData.depthAll (ns.map PyData.int) = 0
  | [] => rfl
  | n :: ns => by rw [List.map_cons, PyData.depthAll, depth_ints ns]; rfl
theorem oNe_nil (ns : List Int) (st : Sto) : oNe (.fls (ns.map .int)) (.lst []) st = .ok (.bl (!ns.isEmpty)) st := by
  have h1 : toPy (deref (.fls (ns.map D.int)) st) = some (.list (ns.map PyData.int)) := by simp only [deref, toPy, toPys_ints, Option.map_some]
  have h2 : toPy (deref (.lst []) st) = some (.list []) := rfl
  have h3 : SeqAt.shaped (.list (ns.map PyData.int)) = true := by
    unfold SeqAt.shaped
    rw [PyData.canLay0, can_ints, PyData.depth, depth_ints]; rfl
  have h4 : SeqAt.shaped (.list []) = true := rfl
  have h5 : twoS (.fls (ns.map D.int)) (.lst []) = none := rfl
  unfold oNe
  rw [h5, h1, h2]
  simp only [h3, h4, and_self, if_true]
  cases ns <;> rfl
end DL
namespace DL
open PySem PySem.Spec L2
open PyProof.Rows hiding St
set_option autoImplicit true
/-! ### loops and comprehensions in general -/
theorem lcGo_filter {t : Pat} {ψ : DenT} {φ : Den} {env : En} {st : Sto} (f : D → D) (g : D → Bool) : ∀ (ds acc : List D), (∀ d ∈ ds, ∃ env1, t.set d env = some env1 ∧ ψ env1 st = .ok (g d) st ∧ (g d = true → φ env1 st = .ok (f d) st)) → acc.length + ds.length ≤ sizeLine →
    lcGo t ψ φ env ds st acc = .ok (acc ++ (ds.filter g).map f) st
  | [], acc, _, _ => by simp [lcGo]
  | d :: ds, acc, h, hl => by
    obtain ⟨env1, h1, h2, h3⟩ := h d (List.mem_cons_self ..)
    simp only [List.length_cons] at hl
    rw [lcGo]
    simp only [h1, h2]
    cases hg : g d with
    | false =>
      rw [List.filter_cons_of_neg (by simp [hg])]
      exact lcGo_filter f g ds acc (fun x hx => h x (List.mem_cons_of_mem _ hx)) (by omega)
    | true =>
      rw [List.filter_cons_of_pos hg]
      have hz : acc.length < sizeLine := by omega
      simp only [h3 hg, hz, if_true]
      rw [lcGo_filter f g ds (acc ++ [f d]) (fun x hx => h x (List.mem_cons_of_mem _ hx)) (by simp; omega)]
      simp
theorem lcGo_map {t : Pat} {φ : Den} {env : En} {st : Sto} (f : D → D) (ds : List D) (h : ∀ d ∈ ds, ∃ env1, t.set d env = some env1 ∧ φ env1 st = .ok (f d) st) (hl : ds.length ≤ sizeLine) :
    lcGo t dYes φ env ds st [] = .ok (ds.map f) st := by
  rw [lcGo_filter f (fun _ => true) ds [] (fun d hd => by
    obtain ⟨env1, h1, h2⟩ := h d hd
    exact ⟨env1, h1, rfl, fun _ => h2⟩) (by simpa using hl)]
  rw [List.filter_eq_self.mpr (fun _ _ => rfl)]
  simp
theorem fLoop_inv {t : Pat} {B : DenS} (I : Nat → En → Sto → Prop) : ∀ (ds : List D) (k : Nat) (env : En) (st : Sto), I k env st →
    (∀ (j : Nat) (d : D), ds[j]? = some d → ∀ env st, I (k + j) env st → ∃ env1 env2 st2, t.set d env = some env1 ∧ B env1 st = some (.nx env2, st2) ∧ I (k + j + 1) env2 st2) →
    ∃ env' st', I (k + ds.length) env' st' ∧ fLoop t B ds env st = some (.nx env', st')
  | [], k, env, st, h, _ => ⟨env, st, h, by rw [fLoop]⟩
  | d :: ds, k, env, st, h, hs => by
    obtain ⟨env1, env2, st2, h1, h2, h3⟩ := hs 0 d rfl env st h
    obtain ⟨env', st', h4, h5⟩ := fLoop_inv I ds (k + 1) env2 st2 h3 fun j x hx env st hi => by
      have := hs (j + 1) x (by simpa using hx) env st (by rw [show k + (j + 1) = k + 1 + j by omega]; exact hi)
      rw [show k + (j + 1) + 1 = k + 1 + j + 1 by omega] at this
      exact this
    refine ⟨env', st', by rw [List.length_cons, show k + (ds.length + 1) = k + 1 + ds.length by omega]; exact h4, ?_⟩
    rw [fLoop]
    simp only [h1, h2, h5]
/-! ### shares -/
def shP (p : Int × Rat) : D := .tup [.int p.1, fr p.2]
def shr (l : List (Int × Rat)) : D := .tup (l.map shP)
structure Shr (l : List (Int × Rat)) : Prop where
  up : l.Pairwise fun p q => p.1 < q.1
  num : ∀ p ∈ l, -100 ≤ p.1 ∧ p.1 ≤ 100
  pos : ∀ p ∈ l, 0 < p.2.num
  few : l.length ≤ 8
theorem atI_mapN {α : Type} (f : α → D) (l : List α) (i : Nat) (h : i < l.length) : atI (l.map f) (i : Int) = some (f l[i]) := atI_nat (by simp [h])
theorem oIx_mapT {α : Type} (f : α → D) (l : List α) (i : Nat) (h : i < l.length) (st : Sto) : oIx (.tup (l.map f)) (.int (i : Int)) st = .ok (f l[i]) st := by
  simp only [oIx, atI_mapN f l i h]
theorem bLen_mapT {α : Type} (f : α → D) (l : List α) (st : Sto) : bLen [.tup (l.map f)] st = .ok (.int l.length) st := by simp [bLen, lenD]
theorem bAll_true {ds : List D} {st : Sto} (h : ∀ d ∈ ds, d = .bl true) : bAll [.lst ds] st = .ok (.bl true) st := by
  have : toBls ds = some (List.replicate ds.length true) := by
    clear st
    induction ds with
    | nil => rfl
    | cons d ds ih =>
      rw [h d (List.mem_cons_self ..), toBls, ih (fun x hx => h x (List.mem_cons_of_mem _ hx))]
      rfl
  simp [bAll, view, this]
/-! ### closed data -/
theorem cls_mem {n : Nat} : ∀ {ds : List D}, cls n ds = true → ∀ d ∈ ds, cl n d = true
  | [], _, d, h => (List.not_mem_nil h).elim
  | x :: ds, hc, d, h => by
    rw [cls, Bool.and_eq_true] at hc
    rcases List.mem_cons.mp h with rfl | h
    · exact hc.1
    · exact cls_mem hc.2 d h
theorem cls_of_mem {n : Nat} : ∀ {ds : List D}, (∀ d ∈ ds, cl n d = true) → cls n ds = true
  | [], _ => by rw [cls]
  | x :: ds, h => by rw [cls, h x (List.mem_cons_self ..), cls_of_mem fun d hd => h d (List.mem_cons_of_mem _ hd)]; rfl
theorem cls_ints {n : Nat} (is : List Int) : cls n (is.map D.int) = true := cls_of_mem fun d hd => by
  obtain ⟨i, _, rfl⟩ := List.mem_map.mp hd
  simp [cl]
theorem mapM_self {f : D → Option D} : ∀ {ds : List D}, (∀ d ∈ ds, f d = some d) → ds.mapM f = some ds
  | [], _ => rfl
  | x :: ds, h => by
    rw [List.mapM_cons, h x (List.mem_cons_self ..), mapM_self fun d hd => h d (List.mem_cons_of_mem _ hd)]
    rfl
theorem frz_cl {n : Nat} {g : Sto} : ∀ (k : Nat) (d : D), cl n d = true → frz n g k d = some d
  | 0, d, h => by rw [frz, if_pos h]
  | k + 1, d, h => by
    have ih := frz_cl (n := n) (g := g) k
    cases d with
    | tup ds => rw [cl] at h; simp only [frz, mapM_self fun d hd => ih d (cls_mem h d hd), Option.map_some]
    | lst ds => rw [cl] at h; simp only [frz, mapM_self fun d hd => ih d (cls_mem h d hd), Option.map_some]
    | ptr i => rw [cl] at h; simp only [frz, of_decide_eq_true h, if_true]
    | _ => simp only [frz, h, if_true]
theorem putDs'_len {κ : Type} [DecidableEq κ] : ∀ (ks : List κ) (ds : List D) (k : κ) (d : D), ks.length = ds.length → (putDs.putDs' ks ds k d).length = ks.length
  | [], [], _, _, _ => rfl
  | _ :: ks, _ :: ds, k, d, h => by rw [putDs.putDs', List.length_cons, List.length_cons, putDs'_len ks ds k d (by simpa using h)]
  | [], _ :: _, _, _, h => by simp at h
  | _ :: _, [], _, _, h => by simp at h
theorem putDs_len {κ : Type} [DecidableEq κ] : ∀ (ks : List κ) (ds : List D) (k : κ) (d : D), ks.length = ds.length → (putKs ks k).length = (putDs ks ds k d).length
  | [], [], _, _, _ => by simp [putKs, putDs]
  | k' :: ks, d' :: ds, k, d, h => by
    have ih := putDs_len ks ds k d (by simpa using h)
    by_cases e : k' = k
    · subst e
      rw [putDs, if_pos rfl, List.length_cons, putDs'_len ks ds k' d (by simpa using h)]
      simp [putKs]
    · rw [putDs, if_neg e, List.length_cons, ← ih]
      unfold putKs
      by_cases m : k ∈ ks
      · simp [m]
      · simp [m, Ne.symm e]
  | [], _ :: _, _, _, h => by simp at h
  | _ :: _, [], _, _, h => by simp at h
theorem cl_fr {n : Nat} (q : Rat) : cl n (fr q) = true := by simp [fr, cl, cls]
theorem cl_shr {n : Nat} (l : List (Int × Rat)) : cl n (shr l) = true := by
  unfold shr
  rw [cl]
  exact cls_of_mem fun d hd => by
    obtain ⟨p, _, rfl⟩ := List.mem_map.mp hd
    simp [shP, cl, cls, cl_fr]
theorem stt_cl {n : Nat} (cs ls : List Int) (a : Int) (h : 0 < n) : (stt cs ls a).all (clm n) = true := by
  simp [stt, clm, cls, cl, cls_ints, h]
theorem dRng1_ok {j : Int} {st : Sto} (h0 : -1000000 ≤ j) (h : j ≤ 1000000) : dRng1 [.int j] st = .ok (rngL 0 j.toNat) st := by
  simp only [dRng1]
  rw [if_pos ⟨Int.le_trans (by decide) h0, Int.lt_of_le_of_lt h (by decide)⟩]
theorem rngL_len (a : Int) (n : Nat) : (rngL a n).length = n := by simp [rngL]
theorem rngL_get {a : Int} {n j : Nat} {d : D} (h : (rngL a n)[j]? = some d) : j < n ∧ d = .int (a + j) := by
  have hj : j < n := by have := (List.getElem?_eq_some_iff.mp h).1; simpa [rngL] using this
  refine ⟨hj, ?_⟩
  unfold rngL at h
  rw [List.getElem?_map, List.getElem?_range hj] at h
  exact (Option.some.inj h).symm
/-! ### costs and places -/
def cstR (r : List Int) : D := .tup (r.map .int)
def cst (rows : List (List Int)) : D := .tup (rows.map cstR)
structure Cst (n m : Nat) (rows : List (List Int)) : Prop where
  len : rows.length = n
  row : ∀ r ∈ rows, r.length = m
  sm : ∀ r ∈ rows, ∀ c ∈ r, -1000 ≤ c ∧ c ≤ 1000
def plD (p : Nat × Nat) : D := .tup [.int (p.1 : Int), .int (p.2 : Int)]
def plc (n m : Nat) : List (Nat × Nat) := (List.range (n - 1)).flatMap fun r => (List.range (m - 2)).map fun s => (r, s)
def at2 (rows : List (List Int)) (r s : Nat) : Int := (rows.getD r []).getD s 0
def om (o : List (Int × Rat)) (s : Nat) : Int := (o.getD s (0, 0)).1
def rise (rows : List (List Int)) (r s : Nat) : Int := at2 rows (r + 1) s - at2 rows r s
def bnd (o : List (Int × Rat)) (rows : List (List Int)) (r s : Nat) : Int := (rise rows r (s + 1) - rise rows r s) * (om o (s + 2) - om o (s + 1)) - (rise rows r (s + 2) - rise rows r (s + 1)) * (om o (s + 1) - om o s)
theorem plc_mem {n m : Nat} {p : Nat × Nat} (h : p ∈ plc n m) : p.1 + 1 < n ∧ p.2 + 2 < m := by
  simp only [plc, List.mem_flatMap, List.mem_range, List.mem_map] at h
  obtain ⟨r, hr, s, hs, rfl⟩ := h
  exact ⟨by simp; omega, by simp; omega⟩
theorem oIx_T {ds : List D} {i : Int} {j : Nat} {d : D} {st : Sto} (h : ds[j]? = some d) (hi : i = (j : Int)) : oIx (.tup ds) (.int i) st = .ok d st := by
  subst hi
  simp only [oIx, atI_nat h]
theorem oIx_L {ds : List D} {i : Int} {j : Nat} {d : D} {st : Sto} (h : ds[j]? = some d) (hi : i = (j : Int)) : oIx (.lst ds) (.int i) st = .ok d st := by
  subst hi
  simp only [oIx, atI_nat h]
theorem oIx_cst {rows : List (List Int)} {i : Int} {j : Nat} {st : Sto} (h : j < rows.length) (hi : i = (j : Int)) : oIx (cst rows) (.int i) st = .ok (cstR (rows.getD j [])) st :=
  oIx_T (by simp [h]) hi
theorem oIx_row {r : List Int} {i : Int} {j : Nat} {st : Sto} (h : j < r.length) (hi : i = (j : Int)) : oIx (cstR r) (.int i) st = .ok (.int (r.getD j 0)) st :=
  oIx_T (by simp [h]) hi
theorem oIx_shr {o : List (Int × Rat)} {i : Int} {j : Nat} {st : Sto} (h : j < o.length) (hi : i = (j : Int)) : oIx (shr o) (.int i) st = .ok (shP (o.getD j (0, 0))) st :=
  oIx_T (by simp [h]) hi
theorem Cst.at_row {n m : Nat} {rows : List (List Int)} (h : Cst n m rows) {r : Nat} (hr : r < n) : (rows.getD r []).length = m := by
  have hr' : r < rows.length := by rw [h.len]; exact hr
  rw [List.getD_eq_getElem?_getD, List.getElem?_eq_getElem hr']
  exact h.row _ (List.getElem_mem hr')
theorem Cst.at_sm {n m : Nat} {rows : List (List Int)} (h : Cst n m rows) (r s : Nat) : -1000 ≤ at2 rows r s ∧ at2 rows r s ≤ 1000 := by
  unfold at2
  by_cases hr : r < rows.length
  · rw [List.getD_eq_getElem?_getD (l := rows), List.getElem?_eq_getElem hr]
    have hm := List.getElem_mem hr
    by_cases hs : s < (rows[r]).length
    · rw [List.getD_eq_getElem?_getD, Option.getD_some, List.getElem?_eq_getElem hs]
      exact h.sm _ hm _ (List.getElem_mem hs)
    · rw [List.getD_eq_getElem?_getD, Option.getD_some, List.getElem?_eq_none (by omega)]
      simp
  · rw [List.getD_eq_getElem?_getD (l := rows), List.getElem?_eq_none (by omega)]
    simp
theorem Shr.om_sm {o : List (Int × Rat)} (h : Shr o) (s : Nat) : -100 ≤ om o s ∧ om o s ≤ 100 := by
  unfold om
  by_cases hs : s < o.length
  · rw [List.getD_eq_getElem?_getD, List.getElem?_eq_getElem hs]
    exact h.num _ (List.getElem_mem hs)
  · rw [List.getD_eq_getElem?_getD, List.getElem?_eq_none (by omega)]
    simp
theorem frz_lst {n : Nat} {g : Sto} {k j i : Nat} {ds : List D} (h : g[j]? = some (.lst ds)) (c : cls n ds = true) (hi : i = n + j := by rfl) : frz n g (k + 1) (.ptr i) = some (.lst ds) := by
  subst hi
  rw [frz]
  simp only [if_neg (show ¬ n + j < n by omega), Nat.add_sub_cancel_left, h, mapM_self fun d hd => frz_cl k d (cls_mem c d hd), Option.map_some]
theorem cls_pl {n : Nat} (l : List (Nat × Nat)) : cls n (l.map plD) = true := cls_of_mem fun d hd => by
  obtain ⟨p, _, rfl⟩ := List.mem_map.mp hd
  simp [plD, cl, cls]
theorem pl_fr (q : Rat) : plainD (fr q) = true := rfl
theorem pl_shP (q : Int × Rat) : plainD (shP q) = true := rfl
theorem pl_shr (l : List (Int × Rat)) : plainD (shr l) = true := rfl
theorem pl_cst (l : List (List Int)) : plainD (cst l) = true := rfl
theorem pl_cstR (l : List Int) : plainD (cstR l) = true := rfl
theorem pl_plD (l : Nat × Nat) : plainD (plD l) = true := rfl
theorem pl_non : plainD .non = true := rfl
theorem pl_bl (b : Bool) : plainD (.bl b) = true := rfl
theorem pl_int (b : Int) : plainD (.int b) = true := rfl
theorem pl_str (b : Str) : plainD (.str b) = true := rfl
theorem pl_tup (b : List D) : plainD (.tup b) = true := rfl
theorem pl_lst (b : List D) : plainD (.lst b) = true := rfl
theorem pl_fls (b : List D) : plainD (.fls b) = true := rfl
theorem pl_dic (a : List Key) (b : List D) : plainD (.dic a b) = true := rfl
theorem pl_ptr (b : Nat) : plainD (.ptr b) = true := rfl
theorem tupIt_t (ds : List D) (st : Sto) : tupIt (.tup ds) st = .ok ds st := rfl
theorem tupIt_shr (l : List (Int × Rat)) (st : Sto) : tupIt (shr l) st = .ok (l.map shP) st := rfl
theorem tupIt_cst (l : List (List Int)) (st : Sto) : tupIt (cst l) st = .ok (l.map cstR) st := rfl
theorem tupIt_cstR (l : List Int) (st : Sto) : tupIt (cstR l) st = .ok (l.map .int) st := rfl
theorem lstIt_l (ds : List D) (st : Sto) : lstIt (.lst ds) st = .ok ds st := rfl
theorem lstIt_f (ds : List D) (st : Sto) : lstIt (.fls ds) st = .ok ds st := rfl
/-- statement by statement -/
theorem seq_nx {θ1 θ2 : DenS} {env env' : En} {st st' : Sto} (h : θ1 env st = some (.nx env', st')) : sSeq θ1 θ2 env st = θ2 env' st' := by
  unfold sSeq; rw [h]
theorem seq_rt {θ1 θ2 : DenS} {env : En} {st st' : Sto} {d : D} (h : θ1 env st = some (.rt d, st')) : sSeq θ1 θ2 env st = some (.rt d, st') := by
  unfold sSeq; rw [h]
theorem fn_rt {m : Nat} {θ : DenS} {args : List D} {st st' : Sto} {d : D} (h : θ (args.map some ++ List.replicate (m - args.length) none) st = some (.rt d, st')) : dFn m θ args st = .ok d st' := by
  unfold dFn; rw [h]
theorem for_of {ι : DenI} {t : Pat} {b : DenS} {env : En} {st st' : Sto} {ds : List D} {o : SOut} (h : ι env st = .ok ds st') (h2 : fLoop t b ds env st' = o) : sFor ι t b env st = o := by
  unfold sFor; rw [h]; exact h2
end DL

/-! DL: plainD data of the laws: bends, texts that are shown. -/
namespace DL
open PySem PySem.Spec L2
open PyProof.Rows hiding St
set_option autoImplicit true
def upsL (n : Nat) (o : List (Int × Rat)) (rows : List (List Int)) : List (Nat × Nat) := (plc n o.length).filter fun p => decide (bnd o rows p.1 p.2 < 0)
def dnsL (n : Nat) (o : List (Int × Rat)) (rows : List (List Int)) : List (Nat × Nat) := (plc n o.length).filter fun p => decide (0 < bnd o rows p.1 p.2)
def plsD (l : List (Nat × Nat)) : D := .lst (l.map plD)
theorem lstIt_pls (l : List (Nat × Nat)) (st : Sto) : lstIt (plsD l) st = .ok (l.map plD) st := rfl
theorem pl_plsD (l : List (Nat × Nat)) : plainD (plsD l) = true := rfl
def onPl (f : Nat → Nat → Bool) : D → Bool
  | .tup [.int r, .int s] => f r.toNat s.toNat
  | _ => false
theorem filter_pl (f : Nat → Nat → Bool) (l : List (Nat × Nat)) : (l.map plD).filter (onPl f) = (l.filter fun p => f p.1 p.2).map plD := by
  rw [List.filter_map]
  congr 1
theorem plc_len (n m : Nat) (hn : n ≤ 8) (hm : m ≤ 8) : (plc n m).length ≤ 64 := by
  simp only [plc, List.length_flatMap, List.length_map, List.length_range]
  simp only [List.map_const', List.sum_replicate_nat, List.length_range]
  have : (n - 1) * (m - 2) ≤ 8 * 8 := Nat.mul_le_mul (by omega) (by omega)
  simpa using this
theorem toPys_pl : ∀ l : List (Nat × Nat), toPys (l.map plD) = some (l.map fun p => PyData.tuple [.int p.1, .int p.2])
  | [] => rfl
  | p :: l => by simp only [List.map_cons, toPys, plD, toPy, toPys_pl l, Option.map_some]
theorem shaped_pl (l : List (Nat × Nat)) : SeqAt.shaped (.list (l.map fun p => PyData.tuple [.int p.1, .int p.2])) = true := by
  have h1 : PyData.canLayAll0 (l.map fun p => PyData.tuple [.int p.1, .int p.2]) = true := by
    induction l with
    | nil => rfl
    | cons p l ih => rw [List.map_cons, PyData.canLayAll0, ih]; rfl
  have h2 : PyData.depthAll (l.map fun p => PyData.tuple [.int p.1, .int p.2]) ≤ 1 := by
    clear h1
    induction l with
    | nil => simp [PyData.depthAll]
    | cons p l ih =>
      rw [List.map_cons, PyData.depthAll]
      have : (PyData.tuple [.int p.1, .int p.2]).depth = 1 := rfl
      rw [this]; omega
  unfold SeqAt.shaped
  rw [PyData.canLay0, h1, PyData.depth, Bool.true_and]
  exact decide_eq_true (by omega)
theorem eq_nil (l : List (Nat × Nat)) (st : Sto) : oEq (plsD l) (.lst []) st = .ok (.bl l.isEmpty) st := by
  have h1 : toPy (deref (plsD l) st) = some (.list (l.map fun p => PyData.tuple [.int p.1, .int p.2])) := by simp only [plsD, deref, toPy, toPys_pl, Option.map_some]
  have h2 : toPy (deref (.lst []) st) = some (.list []) := rfl
  have h4 : SeqAt.shaped (.list []) = true := rfl
  have h5 : twoS (plsD l) (.lst []) = none := rfl
  unfold oEq
  rw [h5, h1, h2]
  simp only [shaped_pl, h4, and_self, if_true]
  cases l <;> rfl
theorem ne_nil (l : List (Nat × Nat)) (st : Sto) : oNe (plsD l) (.lst []) st = .ok (.bl (!l.isEmpty)) st := by
  have h1 : toPy (deref (plsD l) st) = some (.list (l.map fun p => PyData.tuple [.int p.1, .int p.2])) := by simp only [plsD, deref, toPy, toPys_pl, Option.map_some]
  have h2 : toPy (deref (.lst []) st) = some (.list []) := rfl
  have h4 : SeqAt.shaped (.list []) = true := rfl
  have h5 : twoS (plsD l) (.lst []) = none := rfl
  unfold oNe
  rw [h5, h1, h2]
  simp only [shaped_pl, h4, and_self, if_true]
  cases l <;> rfl
/-- a pair of ints among places -/
theorem in_pl (a b : Int) (l : List (Nat × Nat)) (st : Sto) : oIn (.tup [.int a, .int b]) (plsD l) st = .ok (.bl (l.any fun p => decide ((p.1 : Int) = a ∧ (p.2 : Int) = b))) st := by
  have h1 : toPy (deref (plsD l) st) = some (.list (l.map fun p => PyData.tuple [.int p.1, .int p.2])) := by simp only [plsD, deref, toPy, toPys_pl, Option.map_some]
  have h2 : toPy (deref (.tup [.int a, .int b]) st) = some (.tuple [.int a, .int b]) := rfl
  have h3 : dicV (plsD l) st = none := rfl
  have h4 : SeqAt.shaped (.tuple [.int a, .int b]) = true := rfl
  unfold oIn
  simp only [h3, h1, h2, Option.bind_some, inIt, h4, shaped_pl, and_self, if_true]
  congr 2
  rw [List.any_map]
  congr 1
  funext p
  show ((p.1 : Int) == a && ((p.2 : Int) == b && true)) = _
  by_cases h : (p.1 : Int) = a <;> by_cases h' : (p.2 : Int) = b <;> simp [h, h']
/-! ### loops as folds -/
theorem fLoop_fold {α σ : Type} {t : Pat} {B : DenS} (enc : α → D) (E : σ → En → Prop) (S : σ → Sto) (f : σ → α → σ) : ∀ (xs : List α), (∀ x ∈ xs, ∀ s env, E s env → ∃ env1 env2, t.set (enc x) env = some env1 ∧ B env1 (S s) = some (.nx env2, S (f s x)) ∧ E (f s x) env2) →
    ∀ s env, E s env → ∃ env', E (xs.foldl f s) env' ∧ fLoop t B (xs.map enc) env (S s) = some (.nx env', S (xs.foldl f s))
  | [], _, s, env, h => ⟨env, h, by rw [List.map_nil, fLoop]; rfl⟩
  | x :: xs, hx, s, env, h => by
    obtain ⟨env1, env2, h1, h2, h3⟩ := hx x (List.mem_cons_self ..) s env h
    obtain ⟨env', h4, h5⟩ := fLoop_fold enc E S f xs (fun y hy => hx y (List.mem_cons_of_mem _ hy)) (f s x) env2 h3
    exact ⟨env', h4, by rw [List.map_cons, fLoop]; simp only [h1, h2]; exact h5⟩
/-- .. a fold that goes on to a state of which P holds -/
theorem fLoop_rel {α σ : Type} {t : Pat} {B : DenS} (enc : α → D) (E : σ → En → Sto → Prop) : ∀ (xs : List α), (∀ x ∈ xs, ∀ s env st, E s env st → ∃ s' env1 env2 st2, t.set (enc x) env = some env1 ∧ B env1 st = some (.nx env2, st2) ∧ E s' env2 st2) →
    ∀ s env st, E s env st → ∃ s' env' st', E s' env' st' ∧ fLoop t B (xs.map enc) env st = some (.nx env', st')
  | [], _, s, env, st, h => ⟨s, env, st, h, by rw [List.map_nil, fLoop]⟩
  | x :: xs, hx, s, env, st, h => by
    obtain ⟨s1, env1, env2, st2, h1, h2, h3⟩ := hx x (List.mem_cons_self ..) s env st h
    obtain ⟨s', env', st', h4, h5⟩ := fLoop_rel enc E xs (fun y hy => hx y (List.mem_cons_of_mem _ hy)) s1 env2 st2 h3
    exact ⟨s', env', st', h4, by rw [List.map_cons, fLoop]; simp only [h1, h2]; exact h5⟩
theorem lcGo_enc {α β : Type} {t : Pat} {φ : Den} {env : En} {st : Sto} (enc : α → D) (out : β → D) (f : α → β) (xs : List α) (h : ∀ x ∈ xs, ∃ env1, t.set (enc x) env = some env1 ∧ φ env1 st = .ok (out (f x)) st) (hl : xs.length ≤ sizeLine) :
    lcGo t dYes φ env (xs.map enc) st [] = .ok ((xs.map f).map out) st := by
  have : ∀ (xs : List α) (acc : List D), (∀ x ∈ xs, ∃ env1, t.set (enc x) env = some env1 ∧ φ env1 st = .ok (out (f x)) st) → acc.length + xs.length ≤ sizeLine → lcGo t dYes φ env (xs.map enc) st acc = .ok (acc ++ (xs.map f).map out) st := by
    intro xs
    induction xs with
    | nil => intro acc _ _; simp [lcGo]
    | cons x xs ih =>
      intro acc h hl
      obtain ⟨env1, h1, h2⟩ := h x (List.mem_cons_self ..)
      simp only [List.length_cons] at hl
      have hz : acc.length < sizeLine := by omega
      rw [List.map_cons, lcGo]
      simp only [h1, dYes, h2, hz, if_true]
      rw [ih (acc ++ [out (f x)]) (fun y hy => h y (List.mem_cons_of_mem _ hy)) (by simp; omega)]
      simp
  simpa using this xs [] h (by simpa using hl)
/-- a loop that changes slots alone, counted -/
theorem fLoop_foldI {α σ : Type} {t : Pat} {B : DenS} {st : Sto} (enc : α → D) (E : Nat → σ → En → Prop) (f : σ → α → σ) : ∀ (xs : List α) (k : Nat), (∀ (j : Nat) x, xs[j]? = some x → ∀ s env, E (k + j) s env → ∃ env1 env2, t.set (enc x) env = some env1 ∧ B env1 st = some (.nx env2, st) ∧ E (k + j + 1) (f s x) env2) →
    ∀ s env, E k s env → ∃ env', E (k + xs.length) (xs.foldl f s) env' ∧ fLoop t B (xs.map enc) env st = some (.nx env', st)
  | [], k, _, s, env, h => ⟨env, h, by rw [List.map_nil, fLoop]⟩
  | x :: xs, k, hx, s, env, h => by
    obtain ⟨env1, env2, h1, h2, h3⟩ := hx 0 x rfl s env h
    obtain ⟨env', h4, h5⟩ := fLoop_foldI enc E f xs (k + 1) (fun j y hy s env hi => by
      have := hx (j + 1) y (by simpa using hy) s env (by rw [show k + (j + 1) = k + 1 + j by omega]; exact hi)
      rw [show k + (j + 1) + 1 = k + 1 + j + 1 by omega] at this
      exact this) (f s x) env2 h3
    refine ⟨env', by rw [List.length_cons, show k + (xs.length + 1) = k + 1 + xs.length by omega]; exact h4, ?_⟩
    rw [List.map_cons, fLoop]; simp only [h1, h2]; exact h5
end DL

namespace K10
open PySem PySem.Spec L2 DL
open PyProof.Rows hiding St
noncomputable section
def topS (i : Nat) : Stmt := PySem.Challenge.pw_curtainsteps_k10_kind_papers_judged.main.body.getD i (.Pass ⟨0, 0, 0, 0⟩)
def c_DOWN : D := .str "down"
def c_MIXED : D := .str "mixed"
def c_MOST_COST : D := .int 1000
def c_MOST_NUMBER : D := .int 100
def c_MOST_PAIRS : D := .int 8
def c_STRAIGHT : D := .str "straight"
def c_UP : D := .str "up"
abbrev s__law_begin : Stmt := topS 37
abbrev n__law_begin : List Str := ["script", "cells", "cell"]
abbrev s__law_mixed : Stmt := topS 36
abbrev n__law_mixed : List Str := ["cell", "k"]
abbrev s__law_draw : Stmt := topS 38
abbrev n__law_draw : List Str := ["state", "many", "at", "place", "left", "number"]
abbrev s__law_costs : Stmt := topS 44
abbrev n__law_costs : List Str := ["state", "one", "other", "way", "sign", "found", "near", "heft", "row", "far", "own", "kinds", "at", "spot"]
abbrev s__law_bent : Stmt := topS 48
abbrev n__law_bent : List Str := ["state", "one", "other", "sheet", "found", "rows", "spots", "again", "places", "at", "odd"]
abbrev s_is_integer : Stmt := topS 6
abbrev n_is_integer : List Str := ["thing"]
abbrev s_is_number : Stmt := topS 12
abbrev n_is_number : List Str := ["thing"]
abbrev s_common : Stmt := topS 7
abbrev n_common : List Str := ["one", "other"]
abbrev s_is_fraction : Stmt := topS 8
abbrev n_is_fraction : List Str := ["thing", "one"]
abbrev s_is_weight : Stmt := topS 13
abbrev n_is_weight : List Str := ["thing"]
abbrev s_is_share : Stmt := topS 14
abbrev n_is_share : List Str := ["thing", "pair", "one", "other"]
abbrev s_need_share : Stmt := topS 15
abbrev n_need_share : List Str := ["thing"]
abbrev s_is_cost : Stmt := topS 18
abbrev n_is_cost : List Str := ["thing"]
abbrev s_are_costs : Stmt := topS 19
abbrev n_are_costs : List Str := ["one", "other", "thing", "row", "cost"]
abbrev s_need_question : Stmt := topS 20
abbrev n_need_question : List Str := ["one", "other", "costs"]
abbrev s_places_in : Stmt := topS 28
abbrev n_places_in : List Str := ["one", "other", "found", "row", "spot"]
abbrev s_bend_at : Stmt := topS 27
abbrev n_bend_at : List Str := ["other", "costs", "place", "row", "spot", "rises", "near", "far"]
abbrev s_ups_in : Stmt := topS 29
abbrev n_ups_in : List Str := ["one", "other", "costs", "place"]
abbrev s_downs_in : Stmt := topS 30
abbrev n_downs_in : List Str := ["one", "other", "costs", "place"]
abbrev s_does_hold : Stmt := topS 33
abbrev n_does_hold : List Str := ["one", "other", "costs", "paper", "ups", "downs", "number"]
abbrev s_check_kind : Stmt := topS 34
abbrev n_check_kind : List Str := ["one", "other", "costs", "paper"]
abbrev s__law_heard : Stmt := topS 47
abbrev n__law_heard : List Str := ["one", "other", "costs_so", "sheet", "error"]
abbrev s__law_ratio : Stmt := topS 39
abbrev n__law_ratio : List Str := ["top", "bottom", "one", "other"]
abbrev s__law_heft : Stmt := topS 40
abbrev n__law_heft : List Str := ["state"]
abbrev s__law_marks : Stmt := topS 41
abbrev n__law_marks : List Str := ["state", "many", "most", "known", "k"]
abbrev s__law_share : Stmt := topS 42
abbrev n__law_share : List Str := ["state", "many", "mark"]
abbrev s_kind_in : Stmt := topS 31
abbrev n_kind_in : List Str := ["one", "other", "costs", "ups", "downs"]
abbrev s_kind_paper : Stmt := topS 32
abbrev n_kind_paper : List Str := ["one", "other", "costs", "word"]
abbrev s__law_bends : Stmt := topS 45
abbrev n__law_bends : List Str := ["one", "other", "costs_so", "ups", "downs", "row", "spot", "rises", "near", "far"]
abbrev s__law_is_int : Stmt := topS 43
abbrev n__law_is_int : List Str := ["thing", "least", "most"]
abbrev s__law_due : Stmt := topS 46
abbrev n__law_due : List Str := ["one", "other", "costs_so", "sheet", "ups", "downs", "spot"]
abbrev s_law : Stmt := topS 49
abbrev n_law : List Str := ["script", "state", "turn", "one", "other", "costs_so", "thing", "kept", "due", "told", "mixed", "line", "sheet"]
def k_SIZES : List Str := ["down", "up", "straight", "mixed"]
def v_SIZES : List D := [.int 1, .int 1, .int 1, .int 5]
abbrev si_BadPaper : Stmt := (clsBody (topS 2)).getD 0 (.Pass ⟨0, 0, 0, 0⟩)
def t_BadPaper : List (Str × Bool) := [("BadPaper", true)]
/-- what the top has left -/
structure Top (w : World) (G : Cg) : Prop where
  d__law_begin : DefIn G "_law_begin" s__law_begin ["script"]
  d__law_mixed : DefIn G "_law_mixed" s__law_mixed ["cell", "k"]
  d__law_draw : DefIn G "_law_draw" s__law_draw ["state", "many"]
  d__law_costs : DefIn G "_law_costs" s__law_costs ["state", "one", "other"]
  d__law_bent : DefIn G "_law_bent" s__law_bent ["state", "one", "other", "sheet"]
  d_is_integer : DefIn G "is_integer" s_is_integer ["thing"]
  d_is_number : DefIn G "is_number" s_is_number ["thing"]
  d_common : DefIn G "common" s_common ["one", "other"]
  d_is_fraction : DefIn G "is_fraction" s_is_fraction ["thing"]
  d_is_weight : DefIn G "is_weight" s_is_weight ["thing"]
  d_is_share : DefIn G "is_share" s_is_share ["thing"]
  d_need_share : DefIn G "need_share" s_need_share ["thing"]
  d_is_cost : DefIn G "is_cost" s_is_cost ["thing"]
  d_are_costs : DefIn G "are_costs" s_are_costs ["one", "other", "thing"]
  d_need_question : DefIn G "need_question" s_need_question ["one", "other", "costs"]
  d_places_in : DefIn G "places_in" s_places_in ["one", "other"]
  d_bend_at : DefIn G "bend_at" s_bend_at ["other", "costs", "place"]
  d_ups_in : DefIn G "ups_in" s_ups_in ["one", "other", "costs"]
  d_downs_in : DefIn G "downs_in" s_downs_in ["one", "other", "costs"]
  d_does_hold : DefIn G "does_hold" s_does_hold ["one", "other", "costs", "paper"]
  d_check_kind : DefIn G "check_kind" s_check_kind ["one", "other", "costs", "paper"]
  d__law_heard : DefIn G "_law_heard" s__law_heard ["one", "other", "costs_so", "sheet"]
  d__law_ratio : DefIn G "_law_ratio" s__law_ratio ["top", "bottom"]
  d__law_heft : DefIn G "_law_heft" s__law_heft ["state"]
  d__law_marks : DefIn G "_law_marks" s__law_marks ["state", "many", "most"]
  d__law_share : DefIn G "_law_share" s__law_share ["state", "many"]
  d_kind_in : DefIn G "kind_in" s_kind_in ["one", "other", "costs"]
  d_kind_paper : DefIn G "kind_paper" s_kind_paper ["one", "other", "costs"]
  d__law_bends : DefIn G "_law_bends" s__law_bends ["one", "other", "costs_so"]
  d__law_is_int : DefIn G "_law_is_int" s__law_is_int ["thing", "least", "most"]
  d__law_due : DefIn G "_law_due" s__law_due ["one", "other", "costs_so", "sheet"]
  d_law : DefIn G "law" s_law ["script"]
  z_abs : G.mg "abs" = none
  z_all : G.mg "all" = none
  z_bool : G.mg "bool" = none
  z_int : G.mg "int" = none
  z_isinstance : G.mg "isinstance" = none
  z_len : G.mg "len" = none
  z_list : G.mg "list" = none
  z_max : G.mg "max" = none
  z_min : G.mg "min" = none
  z_range : G.mg "range" = none
  z_repr : G.mg "repr" = none
  z_sorted : G.mg "sorted" = none
  z_str : G.mg "str" = none
  z_tuple : G.mg "tuple" = none
  z_zip : G.mg "zip" = none
  c_DOWN : GCon G "DOWN" c_DOWN
  c_MIXED : GCon G "MIXED" c_MIXED
  c_MOST_COST : GCon G "MOST_COST" c_MOST_COST
  c_MOST_NUMBER : GCon G "MOST_NUMBER" c_MOST_NUMBER
  c_MOST_PAIRS : GCon G "MOST_PAIRS" c_MOST_PAIRS
  c_STRAIGHT : GCon G "STRAIGHT" c_STRAIGHT
  c_UP : GCon G "UP" c_UP
  w_SIZES : WDic w G "SIZES" k_SIZES v_SIZES
  e_BadPaper : ClsF G "BadPaper" "part" "StepError" "BadPaper.__init__" si_BadPaper ["self", "part"]
  h_BadPaper : Catch G "BadPaper" t_BadPaper
theorem cls_BadPaper {P : Program} {w : World} {G : Cg} {base : Heap} (T : Top w G) : ClsE P w G base "BadPaper" "part" := clsE_of T.e_BadPaper ⟨rfl, rfl, rfl, by decide +kernel, rfl, by decide +kernel, by decide +kernel⟩ rfl (by
  rintro X B hK hM ⟨f, cdv, A, outer, s, H, E, rfl⟩ hB g1 g2 g3
  exact pss_init (ps_expr (pe_ocinit rfl hB g1 g2 g3 (pa_cons (pe_var (i := 0) rfl (Or.inl rfl)) (pa_cons pe_str pa_nil)))) (ps_ost (pe_var (i := 0) rfl (Or.inl rfl)) (pe_var (i := 1) rfl (Or.inl rfl))) (fun D σ H ⟨a, C, g0, T, ea, q⟩ => ⟨_, g0, a, C, [_], rfl, (by decide), T, ea, q⟩))
/-! _law_begin -/
theorem sc__law_begin : FnScope n__law_begin ["script"] (defScope s__law_begin) := ⟨rfl, rfl, rfl, by decide +kernel, rfl, by decide +kernel, by decide +kernel⟩
def E__law_begin_0 : Den := dIf (dTst (dOp2 oGe (dVar 2) (dOp2 oPow (dC (.int 10)) (dC (.int 18))))) (dVar 2) (dC (.int 0))
def T__law_begin : DenS := sSeq (sSet 1 (dIf (dTst (dOp2 oNe (dVar 0) (dCall oLst []))) (dCall bList [dVar 0]) (dCall oLst [dC (.int 0)]))) (sRet (dDicP [(dC (.str "cells"), dVar 1), (dC (.str "lefts"), dLcP (dItL (dVar 1)) (.nm 2) (dYes) (E__law_begin_0) [2]), (dC (.str "at"), dC (.int 0)), (dC (.str "room"), dC (.int 0))]))
def R__law_begin : List D → Sto → Out D := dFn 3 T__law_begin
theorem b__law_begin {P : Program} {w : World} {G : Cg} {base : Heap} (T : Top w G) : ∀ (X : Cx) (W : WG), Ok X W 0 → (∃ f cdv A outer s H E, X = cxOf (L2.CX P w) P w G.K G.mg base n__law_begin "_law_begin" (defScope s__law_begin) f cdv A outer s H E) → PBv X W (defBody s__law_begin) T__law_begin := by
  rintro X W o ⟨f, cdv, A, outer, s, H, E, rfl⟩
  exact pbv_cons (psv_set o 1 (pev_if (ptv_ne o (pev_var 0) (pev_lst (pav_nil))) (pev_list T.z_list (pav_cons (pev_var 0) (pav_nil))) (pev_lst (pav_cons (pev_int) (pav_nil))))) (pbv_one (psv_ret (pev_dicP (ppv_cons (pev_str) (pev_var 1) (ppv_cons (pev_str) (pev_lcP o [("cell", 2)] (piv_lst (pev_var 1)) (blkOk_by (N := n__law_begin) (sc := defScope s__law_begin) (by decide +kernel)) (fun s H C cl fp => pgv_name sc__law_begin.nd 2) (fun s H C cl fp o => ptsv_nil) (fun s H C cl fp o => pev_if (ptv_ge (pev_var 2) (pev_pow (pev_int) (pev_int))) (pev_var 2) (pev_int))) (ppv_cons (pev_str) (pev_int) (ppv_cons (pev_str) (pev_int) (ppv_nil))))))))
theorem raw__law_begin {P : Program} {w : World} {G : Cg} {base : Heap} (T : Top w G) : Fn P w G base "_law_begin" 1 1 R__law_begin := fn_raw (N := n__law_begin) T.d__law_begin sc__law_begin (b__law_begin T)

abbrev F__law_begin := R__law_begin
theorem fn__law_begin {P : Program} {w : World} {G : Cg} {base : Heap} (T : Top w G) : Fn P w G base "_law_begin" 1 1 F__law_begin := raw__law_begin T

/-! _law_mixed -/
theorem sc__law_mixed : FnScope n__law_mixed ["cell", "k"] (defScope s__law_mixed) := ⟨rfl, rfl, rfl, by decide +kernel, rfl, by decide +kernel, by decide +kernel⟩
def T__law_mixed : DenS := sSeq (sSet 0 (dOp2 oMod (dCall bInt [dVar 0]) (dC (.int 2147483647)))) (sRet (dOp2 oMod (dOp2 oMul (dOp2 oMod (dOp2 oAdd (dOp2 oAdd (dOp2 oMul (dVar 0) (dOp2 oAdd (dC (.int 48271)) (dOp2 oMul (dOp2 oMul (dC (.int 2)) (dVar 1)) (dVar 1)))) (dOp2 oMul (dC (.int 69621)) (dVar 1))) (dC (.int 11))) (dC (.int 2147483647))) (dC (.int 69621))) (dC (.int 2147483629))))
def R__law_mixed : List D → Sto → Out D := dFn 2 T__law_mixed
theorem b__law_mixed {P : Program} {w : World} {G : Cg} {base : Heap} (T : Top w G) : ∀ (X : Cx) (W : WG), Ok X W 0 → (∃ f cdv A outer s H E, X = cxOf (L2.CX P w) P w G.K G.mg base n__law_mixed "_law_mixed" (defScope s__law_mixed) f cdv A outer s H E) → PBv X W (defBody s__law_mixed) T__law_mixed := by
  rintro X W o ⟨f, cdv, A, outer, s, H, E, rfl⟩
  exact pbv_cons (psv_set o 0 (pev_mod (pev_intc T.z_int (pav_cons (pev_var 0) (pav_nil))) (pev_int))) (pbv_one (psv_ret (pev_mod (pev_mul (pev_mod (pev_add (pev_add (pev_mul (pev_var 0) (pev_add (pev_int) (pev_mul (pev_mul (pev_int) (pev_var 1)) (pev_var 1)))) (pev_mul (pev_int) (pev_var 1))) (pev_int)) (pev_int)) (pev_int)) (pev_int))))
theorem raw__law_mixed {P : Program} {w : World} {G : Cg} {base : Heap} (T : Top w G) : Fn P w G base "_law_mixed" 1 2 R__law_mixed := fn_raw (N := n__law_mixed) T.d__law_mixed sc__law_mixed (b__law_mixed T)

abbrev F__law_mixed := R__law_mixed
theorem fn__law_mixed {P : Program} {w : World} {G : Cg} {base : Heap} (T : Top w G) : Fn P w G base "_law_mixed" 1 2 F__law_mixed := raw__law_mixed T

/-! _law_draw -/
theorem sc__law_draw : FnScope n__law_draw ["state", "many"] (defScope s__law_draw) := ⟨rfl, rfl, rfl, by decide +kernel, rfl, by decide +kernel, by decide +kernel⟩
def T__law_draw : DenS := sSeq (sSet 2 (dOp2 oIx (dVar 0) (dC (.str "at")))) (sSeq (sStore (dVar 0) (dC (.str "at")) (dOp2 oAdd (dVar 2) (dC (.int 1)))) (sSeq (sSet 3 (dOp2 oMod (dCall bInt [dVar 2]) (dCall bLen [dOp2 oIx (dVar 0) (dC (.str "cells"))]))) (sSeq (sSet 4 (dOp2 oIx (dOp2 oIx (dVar 0) (dC (.str "lefts"))) (dVar 3))) (sSeq (sIf (dTst (dOp2 oGt (dVar 4) (dC (.int 0)))) (sSeq (sStore (dOp2 oIx (dVar 0) (dC (.str "lefts"))) (dVar 3) (dOp2 oFdiv (dVar 4) (dVar 1))) (sRet (dOp2 oMod (dCall bInt [dVar 4]) (dVar 1)))) (sNil)) (sSeq (sSet 5 (dCallF 2 F__law_mixed [dCallF 2 F__law_mixed [dOp2 oIx (dOp2 oIx (dVar 0) (dC (.str "cells"))) (dVar 3), dVar 2], dOp2 oAdd (dC (.int 40)) (dVar 2)])) (sRet (dOp2 oMod (dOp2 oFdiv (dCall bInt [dOp2 oAdd (dOp2 oMul (dVar 5) (dC (.int 2147483647))) (dCallF 2 F__law_mixed [dVar 5, dOp2 oAdd (dC (.int 7)) (dVar 2)])]) (dC (.int 64))) (dVar 1))))))))
def R__law_draw : List D → Sto → Out D := dFn 6 T__law_draw
theorem b__law_draw {P : Program} {w : World} {G : Cg} {base : Heap} (T : Top w G) : ∀ (X : Cx) (W : WG), Ok X W 1 → (∃ f cdv A outer s H E, X = cxOf (L2.CX P w) P w G.K G.mg base n__law_draw "_law_draw" (defScope s__law_draw) f cdv A outer s H E) → PBv X W (defBody s__law_draw) T__law_draw := by
  rintro X W o ⟨f, cdv, A, outer, s, H, E, rfl⟩
  exact pbv_cons (psv_set o 2 (pev_sub_ o (pev_var 0) (pev_str))) (pbv_cons (psv_store o (pev_var 0) (pev_str) (pev_add (pev_var 2) (pev_int))) (pbv_cons (psv_set o 3 (pev_mod (pev_intc T.z_int (pav_cons (pev_var 2) (pav_nil))) (pev_len T.z_len (pav_cons (pev_sub_ o (pev_var 0) (pev_str)) (pav_nil))))) (pbv_cons (psv_set o 4 (pev_sub_ o (pev_sub_ o (pev_var 0) (pev_str)) (pev_var 3))) (pbv_cons (psv_if (ptv_gt (pev_var 4) (pev_int)) (pbv_cons (psv_store o (pev_sub_ o (pev_var 0) (pev_str)) (pev_var 3) (pev_fdiv (pev_var 4) (pev_var 1))) (pbv_one (psv_ret (pev_mod (pev_intc T.z_int (pav_cons (pev_var 4) (pav_nil))) (pev_var 1))))) (pbv_nil)) (pbv_cons (psv_set o 5 (pev_call o (fn__law_mixed T) (by decide) (pav_cons (pev_call o (fn__law_mixed T) (by decide) (pav_cons (pev_sub_ o (pev_sub_ o (pev_var 0) (pev_str)) (pev_var 3)) (pav_cons (pev_var 2) (pav_nil)))) (pav_cons (pev_add (pev_int) (pev_var 2)) (pav_nil))))) (pbv_one (psv_ret (pev_mod (pev_fdiv (pev_intc T.z_int (pav_cons (pev_add (pev_mul (pev_var 5) (pev_int)) (pev_call o (fn__law_mixed T) (by decide) (pav_cons (pev_var 5) (pav_cons (pev_add (pev_int) (pev_var 2)) (pav_nil))))) (pav_nil))) (pev_int)) (pev_var 1)))))))))
theorem raw__law_draw {P : Program} {w : World} {G : Cg} {base : Heap} (T : Top w G) : Fn P w G base "_law_draw" 2 2 R__law_draw := fn_raw (N := n__law_draw) T.d__law_draw sc__law_draw (b__law_draw T)

abbrev F__law_draw := R__law_draw
theorem fn__law_draw {P : Program} {w : World} {G : Cg} {base : Heap} (T : Top w G) : Fn P w G base "_law_draw" 2 2 F__law_draw := raw__law_draw T

/-! _law_costs -/
theorem sc__law_costs : FnScope n__law_costs ["state", "one", "other"] (defScope s__law_costs) := ⟨rfl, rfl, rfl, by decide +kernel, rfl, by decide +kernel, by decide +kernel⟩
def B__law_costs_0 : DenS := sSeq (sSet 11 (dCall oLst [dOp2 oSub (dCallF 2 F__law_draw [dVar 0, dC (.int 19)]) (dC (.int 9)), dOp2 oFdiv (dOp2 oMul (dOp2 oMul (dOp2 oMul (dVar 4) (dVar 6)) (dVar 9)) (dVar 9)) (dC (.int 2)), dOp2 oMul (dOp2 oMul (dVar 4) (dVar 6)) (dCall bAbs [dVar 9]), dOp2 oMul (dVar 6) (dVar 9), dC (.int 3)])) (sApp 8 (dCall bMax [dOp1 oNeg (dC (.int 900)), dCall bMin [dC (.int 900), dOp2 oIx (dVar 11) (dVar 3)]]))
def B__law_costs_1 : DenS := sSeq (sSet 8 (mkL (nLst []))) (sSeq (sFor (dItT (dVar 2)) (.tp [.nm 9, .nm 10]) (B__law_costs_0)) (sFrz 8 (sApp 5 (dCall bTuple [dVar 8]))))
def T__law_costs : DenS := sSeq (sPar3 3 4 5 [dCallF 2 F__law_draw [dVar 0, dC (.int 5)], dOp2 oIx (dCall oLst [dC (.int 1), dOp1 oNeg (dC (.int 1))]) (dCallF 2 F__law_draw [dVar 0, dC (.int 2)]), mkL (nLst [])]) (sSeq (sFor (dItT (dVar 1)) (.tp [.nm 6, .nm 7]) (B__law_costs_1)) (sSeq (sIf (dAndT (dTst (dOp2 oEq (dVar 3) (dC (.int 1)))) (dAndT (dTst (dOw2 (oEqO not) 5 (dCall oLst []))) (dTst (dOp2 oEq (dCallF 2 F__law_draw [dVar 0, dC (.int 2)]) (dC (.int 0)))))) (sSeq (sSet 12 (dCallF 2 F__law_draw [dVar 0, dOw1 (fun d st => bLen [d] st) 5])) (sSeq (sSet 13 (dCallF 2 F__law_draw [dVar 0, dCall bLen [dVar 2]])) (sSto 5 (dVar 12) (dOp2 oAdd (dOp2 oAdd (dSl (dOw2 oIx 5 (dVar 12)) (dNoP) (dP (dVar 13))) (dCall oTup [dOp2 oAdd (dOp2 oIx (dOw2 oIx 5 (dVar 12)) (dVar 13)) (dC (.int 7))])) (dSl (dOw2 oIx 5 (dVar 12)) (dP (dOp2 oAdd (dVar 13) (dC (.int 1)))) (dNoP)))))) (sNil)) (sFrz 5 (sRet (dCall bTuple [dVar 5])))))
def R__law_costs : List D → Sto → Out D := dFn 14 T__law_costs
theorem b__law_costs {P : Program} {w : World} {G : Cg} {base : Heap} (T : Top w G) : ∀ (X : Cx) (W : WG), Ok X W 2 → (∃ f cdv A outer s H E, X = cxOf (L2.CX P w) P w G.K G.mg base n__law_costs "_law_costs" (defScope s__law_costs) f cdv A outer s H E) → PBv X W (defBody s__law_costs) T__law_costs := by
  rintro X W o ⟨f, cdv, A, outer, s, H, E, rfl⟩
  exact pbv_cons (psv_par3V o 3 4 5 (pvv_val (pev_call o (fn__law_draw T) (by decide) (pav_cons (pev_var 0) (pav_cons (pev_int) (pav_nil))))) (pvv_val (pev_sub_ o (pev_lst (pav_cons (pev_int) (pav_cons (pev_neg (pev_int)) (pav_nil)))) (pev_call o (fn__law_draw T) (by decide) (pav_cons (pev_var 0) (pav_cons (pev_int) (pav_nil)))))) (pvv_new (pnv_lst (pav_nil)))) (pbv_cons (psv_for o (piv_tup (pev_var 1)) (pgv_tup o.calm (pgsv_cons (pgv_name o.nd 6) (pgsv_cons (pgv_name o.nd 7) (pgsv_nil)))) (pbv_cons (psv_setV o 8 (pvv_new (pnv_lst (pav_nil)))) (pbv_cons (psv_for o (piv_tup (pev_var 2)) (pgv_tup o.calm (pgsv_cons (pgv_name o.nd 9) (pgsv_cons (pgv_name o.nd 10) (pgsv_nil)))) (pbv_cons (psv_set o 11 (pev_lst (pav_cons (pev_sub (pev_call o (fn__law_draw T) (by decide) (pav_cons (pev_var 0) (pav_cons (pev_int) (pav_nil)))) (pev_int)) (pav_cons (pev_fdiv (pev_mul (pev_mul (pev_mul (pev_var 4) (pev_var 6)) (pev_var 9)) (pev_var 9)) (pev_int)) (pav_cons (pev_mul (pev_mul (pev_var 4) (pev_var 6)) (pev_abs T.z_abs (pav_cons (pev_var 9) (pav_nil)))) (pav_cons (pev_mul (pev_var 6) (pev_var 9)) (pav_cons (pev_int) (pav_nil)))))))) (pbv_one (psv_app 8 (pev_max o T.z_max (pav_cons (pev_neg (pev_int)) (pav_cons (pev_min o T.z_min (pav_cons (pev_int) (pav_cons (pev_sub_ o (pev_var 11) (pev_var 3)) (pav_nil)))) (pav_nil)))))))) (pbv_one (psv_frz 8 (psv_app 5 (pev_tuple T.z_tuple (pav_cons (pev_var 8) (pav_nil))))))))) (pbv_cons (psv_if ((pwv_and (ptv_eq o (pev_var 3) (pev_int)) (pwv_and (ptv_neO 5 o (pev_lst (pav_nil))) (pwv_and1 (ptv_eq o (pev_call o (fn__law_draw T) (by decide) (pav_cons (pev_var 0) (pav_cons (pev_int) (pav_nil)))) (pev_int))))).pt) (pbv_cons (psv_set o 12 (pev_call o (fn__law_draw T) (by decide) (pav_cons (pev_var 0) (pav_cons (pev_lenO 5 T.z_len) (pav_nil))))) (pbv_cons (psv_set o 13 (pev_call o (fn__law_draw T) (by decide) (pav_cons (pev_var 0) (pav_cons (pev_len T.z_len (pav_cons (pev_var 2) (pav_nil))) (pav_nil))))) (pbv_one (psv_sto o 5 (pev_var 12) (pev_add (pev_add (pev_sl (pev_ixO 5 o (pev_var 12)) (pov_none) (pov_some (pev_var 13))) (pev_tup (pav_cons (pev_add (pev_sub_ o (pev_ixO 5 o (pev_var 12)) (pev_var 13)) (pev_int)) (pav_nil)))) (pev_sl (pev_ixO 5 o (pev_var 12)) (pov_some (pev_add (pev_var 13) (pev_int))) (pov_none))))))) (pbv_nil)) (pbv_one (psv_frz 5 (psv_ret (pev_tuple T.z_tuple (pav_cons (pev_var 5) (pav_nil))))))))
theorem raw__law_costs {P : Program} {w : World} {G : Cg} {base : Heap} (T : Top w G) : Fn P w G base "_law_costs" 3 3 R__law_costs := fn_raw (N := n__law_costs) T.d__law_costs sc__law_costs (b__law_costs T)

abbrev F__law_costs := R__law_costs
theorem fn__law_costs {P : Program} {w : World} {G : Cg} {base : Heap} (T : Top w G) : Fn P w G base "_law_costs" 3 3 F__law_costs := raw__law_costs T

/-! _law_bent -/
theorem sc__law_bent : FnScope n__law_bent ["state", "one", "other", "sheet"] (defScope s__law_bent) := ⟨rfl, rfl, rfl, by decide +kernel, rfl, by decide +kernel, by decide +kernel⟩
def B__law_bent_0 : DenS := sSeq (sSet 8 (dCall oTup [dCallF 2 F__law_draw [dVar 0, dVar 5], dCallF 2 F__law_draw [dVar 0, dVar 6], dCallF 2 F__law_draw [dVar 0, dVar 5], dCallF 2 F__law_draw [dVar 0, dVar 6]])) (sApp 4 (dOp2 oAdd (dCall oTup [dC (.str "mixed")]) (dVar 8)))
def B__law_bent_1 : DenS := sApp 4 (dOp2 oAdd (dOp2 oAdd (dSl (dVar 3) (dNoP) (dP (dVar 9))) (dCall oTup [dVar 10])) (dSl (dVar 3) (dP (dOp2 oAdd (dVar 9) (dC (.int 1)))) (dNoP)))
def T__law_bent : DenS := sSeq (sSet 4 (mkL (nLst [dVar 3, dCall bList [dVar 3], dSl (dVar 3) (dNoP) (dP (dOp1 oNeg (dC (.int 1)))), dOp2 oAdd (dVar 3) (dCall oTup [dC (.int 0)]), dC .non, dCall oTup [], dC (.int 5), dC (.str "down"), dCall oTup [dC (.str "Down")], dCall oTup [dC .non], dCall oTup [dCall oLst [dC (.str "down")]]]))) (sSeq (sFrz 4 (sSet 4 (mkL (nCat (dVar 4) (dCall oLst [dCall oTup [dC (.str "down")], dCall oTup [dC (.str "up")], dCall oTup [dC (.str "straight")], dCall oTup [dC (.str "mixed")], dCall oTup [dC (.str "down"), dC (.int 0)], dCall oTup [dC (.str "mixed"), dC (.int 0), dC (.int 0), dC (.int 0)], dCall oTup [dC (.str ""), dC (.int 0)]]))))) (sSeq (sPar 5 6 [dCall bMax [dC (.int 1), dCall bLen [dVar 1]], dCall bMax [dC (.int 1), dCall bLen [dVar 2]]]) (sSeq (sFor (dItR1 [dC (.int 8)]) (.nm 7) (B__law_bent_0)) (sSeq (sIf (dTst (dOp2 oEq (dOp2 oIx (dVar 3) (dC (.int 0))) (dC (.str "mixed")))) (sSeq (sSet 9 (dOp2 oAdd (dC (.int 1)) (dCallF 2 F__law_draw [dVar 0, dC (.int 4)]))) (sSeq (sFor (dItT (dCall oTup [dOp2 oAdd (dOp2 oIx (dVar 3) (dVar 9)) (dC (.int 1)), dOp2 oSub (dOp2 oIx (dVar 3) (dVar 9)) (dC (.int 1)), dOp1 oNeg (dC (.int 1)), dC .non, dC (.bl true), dC (.bl false), dC (.str "0"), dCall oTup [dC (.int 0)], dOp2 oPow (dC (.int 10)) (dC (.int 30))])) (.nm 10) (B__law_bent_1)) (sApp 4 (dOp2 oAdd (dOp2 oAdd (dCall oTup [dC (.str "mixed")]) (dSl (dVar 3) (dP (dC (.int 3))) (dNoP))) (dSl (dVar 3) (dP (dC (.int 1))) (dP (dC (.int 3)))))))) (sNil)) (sFrz 4 (sRet (dVar 4)))))))
def R__law_bent : List D → Sto → Out D := dFn 11 T__law_bent
theorem b__law_bent {P : Program} {w : World} {G : Cg} {base : Heap} (T : Top w G) : ∀ (X : Cx) (W : WG), Ok X W 2 → (∃ f cdv A outer s H E, X = cxOf (L2.CX P w) P w G.K G.mg base n__law_bent "_law_bent" (defScope s__law_bent) f cdv A outer s H E) → PBv X W (defBody s__law_bent) T__law_bent := by
  rintro X W o ⟨f, cdv, A, outer, s, H, E, rfl⟩
  exact pbv_cons (psv_setV o 4 (pvv_new (pnv_lst (pav_cons (pev_var 3) (pav_cons (pev_list T.z_list (pav_cons (pev_var 3) (pav_nil))) (pav_cons (pev_sl (pev_var 3) (pov_none) (pov_some (pev_neg (pev_int)))) (pav_cons (pev_add (pev_var 3) (pev_tup (pav_cons (pev_int) (pav_nil)))) (pav_cons (pev_non) (pav_cons (pev_tup (pav_nil)) (pav_cons (pev_int) (pav_cons (pev_str) (pav_cons (pev_tup (pav_cons (pev_str) (pav_nil))) (pav_cons (pev_tup (pav_cons (pev_non) (pav_nil))) (pav_cons (pev_tup (pav_cons (pev_lst (pav_cons (pev_str) (pav_nil))) (pav_nil))) (pav_nil))))))))))))))) (pbv_cons (psv_frz 4 (psv_setV o 4 (pvv_new (pnv_cat (pev_var 4) (pev_lst (pav_cons (pev_tup (pav_cons (pev_str) (pav_nil))) (pav_cons (pev_tup (pav_cons (pev_str) (pav_nil))) (pav_cons (pev_tup (pav_cons (pev_str) (pav_nil))) (pav_cons (pev_tup (pav_cons (pev_str) (pav_nil))) (pav_cons (pev_tup (pav_cons (pev_str) (pav_cons (pev_int) (pav_nil)))) (pav_cons (pev_tup (pav_cons (pev_str) (pav_cons (pev_int) (pav_cons (pev_int) (pav_cons (pev_int) (pav_nil)))))) (pav_cons (pev_tup (pav_cons (pev_str) (pav_cons (pev_int) (pav_nil)))) (pav_nil))))))))))))) (pbv_cons (psv_par o 5 6 (pav_cons (pev_max o T.z_max (pav_cons (pev_int) (pav_cons (pev_len T.z_len (pav_cons (pev_var 1) (pav_nil))) (pav_nil)))) (pav_cons (pev_max o T.z_max (pav_cons (pev_int) (pav_cons (pev_len T.z_len (pav_cons (pev_var 2) (pav_nil))) (pav_nil)))) (pav_nil)))) (pbv_cons (psv_for o (piv_rng1 T.z_range (pav_cons (pev_int) (pav_nil))) (pgv_name o.nd 7) (pbv_cons (psv_set o 8 (pev_tup (pav_cons (pev_call o (fn__law_draw T) (by decide) (pav_cons (pev_var 0) (pav_cons (pev_var 5) (pav_nil)))) (pav_cons (pev_call o (fn__law_draw T) (by decide) (pav_cons (pev_var 0) (pav_cons (pev_var 6) (pav_nil)))) (pav_cons (pev_call o (fn__law_draw T) (by decide) (pav_cons (pev_var 0) (pav_cons (pev_var 5) (pav_nil)))) (pav_cons (pev_call o (fn__law_draw T) (by decide) (pav_cons (pev_var 0) (pav_cons (pev_var 6) (pav_nil)))) (pav_nil))))))) (pbv_one (psv_app 4 (pev_add (pev_tup (pav_cons (pev_str) (pav_nil))) (pev_var 8)))))) (pbv_cons (psv_if (ptv_eq o (pev_sub_ o (pev_var 3) (pev_int)) (pev_str)) (pbv_cons (psv_set o 9 (pev_add (pev_int) (pev_call o (fn__law_draw T) (by decide) (pav_cons (pev_var 0) (pav_cons (pev_int) (pav_nil)))))) (pbv_cons (psv_for o (piv_tup (pev_tup (pav_cons (pev_add (pev_sub_ o (pev_var 3) (pev_var 9)) (pev_int)) (pav_cons (pev_sub (pev_sub_ o (pev_var 3) (pev_var 9)) (pev_int)) (pav_cons (pev_neg (pev_int)) (pav_cons (pev_non) (pav_cons (pev_bl) (pav_cons (pev_bl) (pav_cons (pev_str) (pav_cons (pev_tup (pav_cons (pev_int) (pav_nil))) (pav_cons (pev_pow (pev_int) (pev_int)) (pav_nil)))))))))))) (pgv_name o.nd 10) (pbv_one (psv_app 4 (pev_add (pev_add (pev_sl (pev_var 3) (pov_none) (pov_some (pev_var 9))) (pev_tup (pav_cons (pev_var 10) (pav_nil)))) (pev_sl (pev_var 3) (pov_some (pev_add (pev_var 9) (pev_int))) (pov_none)))))) (pbv_one (psv_app 4 (pev_add (pev_add (pev_tup (pav_cons (pev_str) (pav_nil))) (pev_sl (pev_var 3) (pov_some (pev_int)) (pov_none))) (pev_sl (pev_var 3) (pov_some (pev_int)) (pov_some (pev_int)))))))) (pbv_nil)) (pbv_one (psv_frz 4 (psv_ret (pev_var 4))))))))
theorem raw__law_bent {P : Program} {w : World} {G : Cg} {base : Heap} (T : Top w G) : Fn P w G base "_law_bent" 3 4 R__law_bent := fn_raw (N := n__law_bent) T.d__law_bent sc__law_bent (b__law_bent T)

abbrev F__law_bent := R__law_bent
theorem fn__law_bent {P : Program} {w : World} {G : Cg} {base : Heap} (T : Top w G) : Fn P w G base "_law_bent" 3 4 F__law_bent := raw__law_bent T

/-! is_integer -/
theorem sc_is_integer : FnScope n_is_integer ["thing"] (defScope s_is_integer) := ⟨rfl, rfl, rfl, by decide +kernel, rfl, by decide +kernel, by decide +kernel⟩
def T_is_integer : DenS := sRet (dAndV (dOp1 (oIsi .int) (dVar 0)) (dNotV (dOp1 (oIsi .bool) (dVar 0))))
def R_is_integer : List D → Sto → Out D := dFn 1 T_is_integer
theorem b_is_integer {P : Program} {w : World} {G : Cg} {base : Heap} (T : Top w G) : ∀ (X : Cx) (W : WG), Ok X W 0 → (∃ f cdv A outer s H E, X = cxOf (L2.CX P w) P w G.K G.mg base n_is_integer "is_integer" (defScope s_is_integer) f cdv A outer s H E) → PBv X W (defBody s_is_integer) T_is_integer := by
  rintro X W o ⟨f, cdv, A, outer, s, H, E, rfl⟩
  exact pbv_one (psv_ret (pev_and (pev_isi .int T.z_isinstance T.z_int PyProof.Rows.boot_int (pev_var 0)) (pev_one (pev_not (pev_isi .bool T.z_isinstance T.z_bool PyProof.Rows.boot_bool (pev_var 0))))))
theorem raw_is_integer {P : Program} {w : World} {G : Cg} {base : Heap} (T : Top w G) : Fn P w G base "is_integer" 1 1 R_is_integer := fn_raw (N := n_is_integer) T.d_is_integer sc_is_integer (b_is_integer T)

abbrev F_is_integer := R_is_integer
theorem fn_is_integer {P : Program} {w : World} {G : Cg} {base : Heap} (T : Top w G) : Fn P w G base "is_integer" 1 1 F_is_integer := raw_is_integer T

/-! is_number -/
theorem sc_is_number : FnScope n_is_number ["thing"] (defScope s_is_number) := ⟨rfl, rfl, rfl, by decide +kernel, rfl, by decide +kernel, by decide +kernel⟩
def T_is_number : DenS := sRet (dAndV (dCallF 1 F_is_integer [dVar 0]) (dChain oLe oLe (dOp2 oSub (dC (.int 0)) (dC c_MOST_NUMBER)) (dVar 0) (dC c_MOST_NUMBER)))
def R_is_number : List D → Sto → Out D := dFn 1 T_is_number
theorem b_is_number {P : Program} {w : World} {G : Cg} {base : Heap} (T : Top w G) : ∀ (X : Cx) (W : WG), Ok X W 1 → (∃ f cdv A outer s H E, X = cxOf (L2.CX P w) P w G.K G.mg base n_is_number "is_number" (defScope s_is_number) f cdv A outer s H E) → PBv X W (defBody s_is_number) T_is_number := by
  rintro X W o ⟨f, cdv, A, outer, s, H, E, rfl⟩
  exact pbv_one (psv_ret (pev_and (pev_call o (fn_is_integer T) (by decide) (pav_cons (pev_var 0) (pav_nil))) (pev_one (pev_chain op_le d_cmp op_le d_cmp (pev_sub (pev_int) (pev_glob T.c_MOST_NUMBER)) (pev_var 0) (pev_glob T.c_MOST_NUMBER)))))
theorem raw_is_number {P : Program} {w : World} {G : Cg} {base : Heap} (T : Top w G) : Fn P w G base "is_number" 2 1 R_is_number := fn_raw (N := n_is_number) T.d_is_number sc_is_number (b_is_number T)

abbrev F_is_number := R_is_number
theorem fn_is_number {P : Program} {w : World} {G : Cg} {base : Heap} (T : Top w G) : Fn P w G base "is_number" 2 1 F_is_number := raw_is_number T

/-! common -/
theorem sc_common : FnScope n_common ["one", "other"] (defScope s_common) := ⟨rfl, rfl, rfl, by decide +kernel, rfl, by decide +kernel, by decide +kernel⟩
def C_common_0 : DenT := dTst (dOp2 oNe (dVar 1) (dC (.int 0)))
def B_common_0 : DenS := sPar 0 1 [dVar 1, dOp2 oMod (dVar 0) (dCall bInt [dVar 1])]
def T_common : DenS := sSeq (sPar 0 1 [dCall bAbs [dVar 0], dCall bAbs [dVar 1]]) (sSeq (sWhile (fuI 1) (C_common_0) (B_common_0)) (sRet (dVar 0)))
def R_common : List D → Sto → Out D := dFn 2 T_common
theorem b_common {P : Program} {w : World} {G : Cg} {base : Heap} (T : Top w G) : ∀ (X : Cx) (W : WG), Ok X W 0 → (∃ f cdv A outer s H E, X = cxOf (L2.CX P w) P w G.K G.mg base n_common "common" (defScope s_common) f cdv A outer s H E) → PBv X W (defBody s_common) T_common := by
  rintro X W o ⟨f, cdv, A, outer, s, H, E, rfl⟩
  exact pbv_cons (psv_par o 0 1 (pav_cons (pev_abs T.z_abs (pav_cons (pev_var 0) (pav_nil))) (pav_cons (pev_abs T.z_abs (pav_cons (pev_var 1) (pav_nil))) (pav_nil)))) (pbv_cons (psv_while o (fuI 1) (ptv_ne o (pev_var 1) (pev_int)) (pbv_one (psv_par o 0 1 (pav_cons (pev_var 1) (pav_cons (pev_mod (pev_var 0) (pev_intc T.z_int (pav_cons (pev_var 1) (pav_nil)))) (pav_nil)))))) (pbv_one (psv_ret (pev_var 0))))
theorem raw_common {P : Program} {w : World} {G : Cg} {base : Heap} (T : Top w G) : Fn P w G base "common" 1 2 R_common := fn_raw (N := n_common) T.d_common sc_common (b_common T)

abbrev F_common := R_common
theorem fn_common {P : Program} {w : World} {G : Cg} {base : Heap} (T : Top w G) : Fn P w G base "common" 1 2 F_common := raw_common T

/-! is_fraction -/
theorem sc_is_fraction : FnScope n_is_fraction ["thing"] (defScope s_is_fraction) := ⟨rfl, rfl, rfl, by decide +kernel, rfl, by decide +kernel, by decide +kernel⟩
def E_is_fraction_0 : Den := dCallF 1 F_is_integer [dVar 1]
def T_is_fraction : DenS := sSeq (sIf (dOrT (dNotT (dTru (dOp1 (oIsi .tuple) (dVar 0)))) (dOrT (dTst (dOp2 oNe (dCall bLen [dVar 0]) (dC (.int 2)))) (dNotT (dTru (dCall bAll [dLc (dItT (dVar 0)) (.nm 1) (dYes) (E_is_fraction_0) [1]]))))) (sRet (dC (.bl false))) (sNil)) (sRet (dAndV (dOp2 oGe (dOp2 oIx (dVar 0) (dC (.int 1))) (dC (.int 1))) (dOp2 oEq (dCallF 2 F_common [dOp2 oIx (dVar 0) (dC (.int 0)), dOp2 oIx (dVar 0) (dC (.int 1))]) (dC (.int 1)))))
def R_is_fraction : List D → Sto → Out D := dFn 2 T_is_fraction
theorem b_is_fraction {P : Program} {w : World} {G : Cg} {base : Heap} (T : Top w G) : ∀ (X : Cx) (W : WG), Ok X W 1 → (∃ f cdv A outer s H E, X = cxOf (L2.CX P w) P w G.K G.mg base n_is_fraction "is_fraction" (defScope s_is_fraction) f cdv A outer s H E) → PBv X W (defBody s_is_fraction) T_is_fraction := by
  rintro X W o ⟨f, cdv, A, outer, s, H, E, rfl⟩
  exact pbv_cons (psv_if ((pwv_or (ptv_not (ptv_tru (pev_isi .tuple T.z_isinstance T.z_tuple PyProof.Rows.boot_tuple (pev_var 0)))) (pwv_or (ptv_ne o (pev_len T.z_len (pav_cons (pev_var 0) (pav_nil))) (pev_int)) (pwv_or1 (ptv_not (ptv_tru (pev_all o T.z_all (pav_cons (pev_lc o [("one", 1)] (piv_tup (pev_var 0)) (blkOk_by (N := n_is_fraction) (sc := defScope s_is_fraction) (by decide +kernel)) (fun s H C cl fp => pgv_name sc_is_fraction.nd 1) (fun s H C cl fp o => ptsv_nil) (fun s H C cl fp o => pev_call o (fn_is_integer T) (by decide) (pav_cons (pev_var 1) (pav_nil)))) (pav_nil)))))))).pt) (pbv_one (psv_ret (pev_bl))) (pbv_nil)) (pbv_one (psv_ret (pev_and (pev_ge (pev_sub_ o (pev_var 0) (pev_int)) (pev_int)) (pev_one (pev_eq o (pev_call o (fn_common T) (by decide) (pav_cons (pev_sub_ o (pev_var 0) (pev_int)) (pav_cons (pev_sub_ o (pev_var 0) (pev_int)) (pav_nil)))) (pev_int))))))
theorem raw_is_fraction {P : Program} {w : World} {G : Cg} {base : Heap} (T : Top w G) : Fn P w G base "is_fraction" 2 1 R_is_fraction := fn_raw (N := n_is_fraction) T.d_is_fraction sc_is_fraction (b_is_fraction T)

abbrev F_is_fraction := R_is_fraction
theorem fn_is_fraction {P : Program} {w : World} {G : Cg} {base : Heap} (T : Top w G) : Fn P w G base "is_fraction" 2 1 F_is_fraction := raw_is_fraction T

/-! is_weight -/
theorem sc_is_weight : FnScope n_is_weight ["thing"] (defScope s_is_weight) := ⟨rfl, rfl, rfl, by decide +kernel, rfl, by decide +kernel, by decide +kernel⟩
def T_is_weight : DenS := sRet (dAndV (dCallF 1 F_is_fraction [dVar 0]) (dOp2 oGt (dOp2 oIx (dVar 0) (dC (.int 0))) (dC (.int 0))))
def R_is_weight : List D → Sto → Out D := dFn 1 T_is_weight
theorem b_is_weight {P : Program} {w : World} {G : Cg} {base : Heap} (T : Top w G) : ∀ (X : Cx) (W : WG), Ok X W 2 → (∃ f cdv A outer s H E, X = cxOf (L2.CX P w) P w G.K G.mg base n_is_weight "is_weight" (defScope s_is_weight) f cdv A outer s H E) → PBv X W (defBody s_is_weight) T_is_weight := by
  rintro X W o ⟨f, cdv, A, outer, s, H, E, rfl⟩
  exact pbv_one (psv_ret (pev_and (pev_call o (fn_is_fraction T) (by decide) (pav_cons (pev_var 0) (pav_nil))) (pev_one (pev_gt (pev_sub_ o (pev_var 0) (pev_int)) (pev_int)))))
theorem raw_is_weight {P : Program} {w : World} {G : Cg} {base : Heap} (T : Top w G) : Fn P w G base "is_weight" 3 1 R_is_weight := fn_raw (N := n_is_weight) T.d_is_weight sc_is_weight (b_is_weight T)

abbrev F_is_weight := R_is_weight
theorem fn_is_weight {P : Program} {w : World} {G : Cg} {base : Heap} (T : Top w G) : Fn P w G base "is_weight" 3 1 F_is_weight := raw_is_weight T

/-! is_share -/
theorem sc_is_share : FnScope n_is_share ["thing"] (defScope s_is_share) := ⟨rfl, rfl, rfl, by decide +kernel, rfl, by decide +kernel, by decide +kernel⟩
def B_is_share_0 : DenS := sIf (dOrT (dNotT (dTru (dOp1 (oIsi .tuple) (dVar 1)))) (dOrT (dTst (dOp2 oNe (dCall bLen [dVar 1]) (dC (.int 2)))) (dOrT (dNotT (dTru (dCallF 1 F_is_number [dOp2 oIx (dVar 1) (dC (.int 0))]))) (dNotT (dTru (dCallF 1 F_is_weight [dOp2 oIx (dVar 1) (dC (.int 1))])))))) (sRet (dC (.bl false))) (sNil)
def E_is_share_0 : Den := dOp2 oLt (dOp2 oIx (dVar 2) (dC (.int 0))) (dOp2 oIx (dVar 3) (dC (.int 0)))
def T_is_share : DenS := sSeq (sIf (dOrT (dNotT (dTru (dOp1 (oIsi .tuple) (dVar 0)))) (dTst (dOp2 oGt (dCall bLen [dVar 0]) (dC c_MOST_PAIRS)))) (sRet (dC (.bl false))) (sNil)) (sSeq (sFor (dItT (dVar 0)) (.nm 1) (B_is_share_0)) (sRet (dCall bAll [dLc (dItZ [dVar 0, dSl (dVar 0) (dP (dC (.int 1))) (dNoP)]) (.tp [.nm 2, .nm 3]) (dYes) (E_is_share_0) [2, 3]])))
def R_is_share : List D → Sto → Out D := dFn 4 T_is_share
theorem b_is_share {P : Program} {w : World} {G : Cg} {base : Heap} (T : Top w G) : ∀ (X : Cx) (W : WG), Ok X W 3 → (∃ f cdv A outer s H E, X = cxOf (L2.CX P w) P w G.K G.mg base n_is_share "is_share" (defScope s_is_share) f cdv A outer s H E) → PBv X W (defBody s_is_share) T_is_share := by
  rintro X W o ⟨f, cdv, A, outer, s, H, E, rfl⟩
  exact pbv_cons (psv_if ((pwv_or (ptv_not (ptv_tru (pev_isi .tuple T.z_isinstance T.z_tuple PyProof.Rows.boot_tuple (pev_var 0)))) (pwv_or1 (ptv_gt (pev_len T.z_len (pav_cons (pev_var 0) (pav_nil))) (pev_glob T.c_MOST_PAIRS)))).pt) (pbv_one (psv_ret (pev_bl))) (pbv_nil)) (pbv_cons (psv_for o (piv_tup (pev_var 0)) (pgv_name o.nd 1) (pbv_one (psv_if ((pwv_or (ptv_not (ptv_tru (pev_isi .tuple T.z_isinstance T.z_tuple PyProof.Rows.boot_tuple (pev_var 1)))) (pwv_or (ptv_ne o (pev_len T.z_len (pav_cons (pev_var 1) (pav_nil))) (pev_int)) (pwv_or (ptv_not (ptv_tru (pev_call o (fn_is_number T) (by decide) (pav_cons (pev_sub_ o (pev_var 1) (pev_int)) (pav_nil))))) (pwv_or1 (ptv_not (ptv_tru (pev_call o (fn_is_weight T) (by decide) (pav_cons (pev_sub_ o (pev_var 1) (pev_int)) (pav_nil))))))))).pt) (pbv_one (psv_ret (pev_bl))) (pbv_nil)))) (pbv_one (psv_ret (pev_all o T.z_all (pav_cons (pev_lc o [("one", 2), ("other", 3)] (piv_zip T.z_zip (pav_cons (pev_var 0) (pav_cons (pev_sl (pev_var 0) (pov_some (pev_int)) (pov_none)) (pav_nil)))) (blkOk_by (N := n_is_share) (sc := defScope s_is_share) (by decide +kernel)) (fun s H C cl fp => pgv_tup rfl (pgsv_cons (pgv_name sc_is_share.nd 2) (pgsv_cons (pgv_name sc_is_share.nd 3) (pgsv_nil)))) (fun s H C cl fp o => ptsv_nil) (fun s H C cl fp o => pev_lt o (pev_sub_ o (pev_var 2) (pev_int)) (pev_sub_ o (pev_var 3) (pev_int)))) (pav_nil))))))
theorem raw_is_share {P : Program} {w : World} {G : Cg} {base : Heap} (T : Top w G) : Fn P w G base "is_share" 4 1 R_is_share := fn_raw (N := n_is_share) T.d_is_share sc_is_share (b_is_share T)

abbrev F_is_share := R_is_share
theorem fn_is_share {P : Program} {w : World} {G : Cg} {base : Heap} (T : Top w G) : Fn P w G base "is_share" 4 1 F_is_share := raw_is_share T

/-! need_share -/
theorem sc_need_share : FnScope n_need_share ["thing"] (defScope s_need_share) := ⟨rfl, rfl, rfl, by decide +kernel, rfl, by decide +kernel, by decide +kernel⟩
def T_need_share : DenS := sSeq (sIf (dNotT (dTru (dCallF 1 F_is_share [dVar 0]))) (sNo) (sNil)) (sRet (dVar 0))
def R_need_share : List D → Sto → Out D := dFn 1 T_need_share
theorem b_need_share {P : Program} {w : World} {G : Cg} {base : Heap} (T : Top w G) : ∀ (X : Cx) (W : WG), Ok X W 4 → (∃ f cdv A outer s H E, X = cxOf (L2.CX P w) P w G.K G.mg base n_need_share "need_share" (defScope s_need_share) f cdv A outer s H E) → PBv X W (defBody s_need_share) T_need_share := by
  rintro X W o ⟨f, cdv, A, outer, s, H, E, rfl⟩
  exact pbv_cons (psv_if (ptv_not (ptv_tru (pev_call o (fn_is_share T) (by decide) (pav_cons (pev_var 0) (pav_nil))))) (pbv_one (psv_never)) (pbv_nil)) (pbv_one (psv_ret (pev_var 0)))
theorem raw_need_share {P : Program} {w : World} {G : Cg} {base : Heap} (T : Top w G) : Fn P w G base "need_share" 5 1 R_need_share := fn_raw (N := n_need_share) T.d_need_share sc_need_share (b_need_share T)

abbrev F_need_share := R_need_share
theorem fn_need_share {P : Program} {w : World} {G : Cg} {base : Heap} (T : Top w G) : Fn P w G base "need_share" 5 1 F_need_share := raw_need_share T

/-! is_cost -/
theorem sc_is_cost : FnScope n_is_cost ["thing"] (defScope s_is_cost) := ⟨rfl, rfl, rfl, by decide +kernel, rfl, by decide +kernel, by decide +kernel⟩
def T_is_cost : DenS := sRet (dAndV (dCallF 1 F_is_integer [dVar 0]) (dChain oLe oLe (dOp2 oSub (dC (.int 0)) (dC c_MOST_COST)) (dVar 0) (dC c_MOST_COST)))
def R_is_cost : List D → Sto → Out D := dFn 1 T_is_cost
theorem b_is_cost {P : Program} {w : World} {G : Cg} {base : Heap} (T : Top w G) : ∀ (X : Cx) (W : WG), Ok X W 1 → (∃ f cdv A outer s H E, X = cxOf (L2.CX P w) P w G.K G.mg base n_is_cost "is_cost" (defScope s_is_cost) f cdv A outer s H E) → PBv X W (defBody s_is_cost) T_is_cost := by
  rintro X W o ⟨f, cdv, A, outer, s, H, E, rfl⟩
  exact pbv_one (psv_ret (pev_and (pev_call o (fn_is_integer T) (by decide) (pav_cons (pev_var 0) (pav_nil))) (pev_one (pev_chain op_le d_cmp op_le d_cmp (pev_sub (pev_int) (pev_glob T.c_MOST_COST)) (pev_var 0) (pev_glob T.c_MOST_COST)))))
theorem raw_is_cost {P : Program} {w : World} {G : Cg} {base : Heap} (T : Top w G) : Fn P w G base "is_cost" 2 1 R_is_cost := fn_raw (N := n_is_cost) T.d_is_cost sc_is_cost (b_is_cost T)

abbrev F_is_cost := R_is_cost
theorem fn_is_cost {P : Program} {w : World} {G : Cg} {base : Heap} (T : Top w G) : Fn P w G base "is_cost" 2 1 F_is_cost := raw_is_cost T

/-! are_costs -/
theorem sc_are_costs : FnScope n_are_costs ["one", "other", "thing"] (defScope s_are_costs) := ⟨rfl, rfl, rfl, by decide +kernel, rfl, by decide +kernel, by decide +kernel⟩
def E_are_costs_0 : Den := dAndV (dOp1 (oIsi .tuple) (dVar 3)) (dOp2 oEq (dCall bLen [dVar 3]) (dCall bLen [dVar 1]))
def E_are_costs_1 : Den := dCallF 1 F_is_cost [dVar 4]
def E_are_costs_2 : Den := dCall bAll [dLc (dItT (dVar 3)) (.nm 4) (dYes) (E_are_costs_1) [4]]
def T_are_costs : DenS := sSeq (sIf (dOrT (dNotT (dTru (dOp1 (oIsi .tuple) (dVar 2)))) (dTst (dOp2 oNe (dCall bLen [dVar 2]) (dCall bLen [dVar 0])))) (sRet (dC (.bl false))) (sNil)) (sSeq (sIf (dNotT (dTru (dCall bAll [dLc (dItT (dVar 2)) (.nm 3) (dYes) (E_are_costs_0) [3]]))) (sRet (dC (.bl false))) (sNil)) (sRet (dCall bAll [dLc (dItT (dVar 2)) (.nm 3) (dYes) (E_are_costs_2) [3]])))
def R_are_costs : List D → Sto → Out D := dFn 5 T_are_costs
theorem b_are_costs {P : Program} {w : World} {G : Cg} {base : Heap} (T : Top w G) : ∀ (X : Cx) (W : WG), Ok X W 2 → (∃ f cdv A outer s H E, X = cxOf (L2.CX P w) P w G.K G.mg base n_are_costs "are_costs" (defScope s_are_costs) f cdv A outer s H E) → PBv X W (defBody s_are_costs) T_are_costs := by
  rintro X W o ⟨f, cdv, A, outer, s, H, E, rfl⟩
  exact pbv_cons (psv_if ((pwv_or (ptv_not (ptv_tru (pev_isi .tuple T.z_isinstance T.z_tuple PyProof.Rows.boot_tuple (pev_var 2)))) (pwv_or1 (ptv_ne o (pev_len T.z_len (pav_cons (pev_var 2) (pav_nil))) (pev_len T.z_len (pav_cons (pev_var 0) (pav_nil)))))).pt) (pbv_one (psv_ret (pev_bl))) (pbv_nil)) (pbv_cons (psv_if (ptv_not (ptv_tru (pev_all o T.z_all (pav_cons (pev_lc o [("row", 3)] (piv_tup (pev_var 2)) (blkOk_by (N := n_are_costs) (sc := defScope s_are_costs) (by decide +kernel)) (fun s H C cl fp => pgv_name sc_are_costs.nd 3) (fun s H C cl fp o => ptsv_nil) (fun s H C cl fp o => pev_and (pev_isi .tuple T.z_isinstance T.z_tuple PyProof.Rows.boot_tuple (pev_var 3)) (pev_one (pev_eq o (pev_len T.z_len (pav_cons (pev_var 3) (pav_nil))) (pev_len T.z_len (pav_cons (pev_var 1) (pav_nil))))))) (pav_nil))))) (pbv_one (psv_ret (pev_bl))) (pbv_nil)) (pbv_one (psv_ret (pev_all o T.z_all (pav_cons (pev_lc o [("row", 3)] (piv_tup (pev_var 2)) (blkOk_by (N := n_are_costs) (sc := defScope s_are_costs) (by decide +kernel)) (fun s H C cl fp => pgv_name sc_are_costs.nd 3) (fun s H C cl fp o => ptsv_nil) (fun s H C cl fp o => pev_all o T.z_all (pav_cons (pev_lc o [("cost", 4)] (piv_tup (pev_var 3)) (blkOk_in n_are_costs (defScope s_are_costs) (by decide +kernel)) (fun s H C cl fp => pgv_name sc_are_costs.nd 4) (fun s H C cl fp o => ptsv_nil) (fun s H C cl fp o => pev_call o (fn_is_cost T) (by decide) (pav_cons (pev_var 4) (pav_nil)))) (pav_nil)))) (pav_nil))))))
theorem raw_are_costs {P : Program} {w : World} {G : Cg} {base : Heap} (T : Top w G) : Fn P w G base "are_costs" 3 3 R_are_costs := fn_raw (N := n_are_costs) T.d_are_costs sc_are_costs (b_are_costs T)

abbrev F_are_costs := R_are_costs
theorem fn_are_costs {P : Program} {w : World} {G : Cg} {base : Heap} (T : Top w G) : Fn P w G base "are_costs" 3 3 F_are_costs := raw_are_costs T

/-! need_question -/
theorem sc_need_question : FnScope n_need_question ["one", "other", "costs"] (defScope s_need_question) := ⟨rfl, rfl, rfl, by decide +kernel, rfl, by decide +kernel, by decide +kernel⟩
def T_need_question : DenS := sSeq (sExpr (dCallF 1 F_need_share [dVar 0])) (sSeq (sExpr (dCallF 1 F_need_share [dVar 1])) (sIf (dNotT (dTru (dCallF 3 F_are_costs [dVar 0, dVar 1, dVar 2]))) (sNo) (sNil)))
def R_need_question : List D → Sto → Out D := dFn 3 T_need_question
theorem b_need_question {P : Program} {w : World} {G : Cg} {base : Heap} (T : Top w G) : ∀ (X : Cx) (W : WG), Ok X W 5 → (∃ f cdv A outer s H E, X = cxOf (L2.CX P w) P w G.K G.mg base n_need_question "need_question" (defScope s_need_question) f cdv A outer s H E) → PBv X W (defBody s_need_question) T_need_question := by
  rintro X W o ⟨f, cdv, A, outer, s, H, E, rfl⟩
  exact pbv_cons (psv_expr (pev_call o (fn_need_share T) (by decide) (pav_cons (pev_var 0) (pav_nil)))) (pbv_cons (psv_expr (pev_call o (fn_need_share T) (by decide) (pav_cons (pev_var 1) (pav_nil)))) (pbv_one (psv_if (ptv_not (ptv_tru (pev_call o (fn_are_costs T) (by decide) (pav_cons (pev_var 0) (pav_cons (pev_var 1) (pav_cons (pev_var 2) (pav_nil))))))) (pbv_one (psv_never)) (pbv_nil))))
theorem raw_need_question {P : Program} {w : World} {G : Cg} {base : Heap} (T : Top w G) : Fn P w G base "need_question" 6 3 R_need_question := fn_raw (N := n_need_question) T.d_need_question sc_need_question (b_need_question T)

abbrev F_need_question := R_need_question
theorem fn_need_question {P : Program} {w : World} {G : Cg} {base : Heap} (T : Top w G) : Fn P w G base "need_question" 6 3 F_need_question := raw_need_question T

/-! places_in -/
theorem sc_places_in : FnScope n_places_in ["one", "other"] (defScope s_places_in) := ⟨rfl, rfl, rfl, by decide +kernel, rfl, by decide +kernel, by decide +kernel⟩
def E_places_in_0 : Den := dCall oTup [dVar 3, dVar 4]
def B_places_in_0 : DenS := sExt 2 (dLc (dItR1 [dOp2 oSub (dCall bLen [dVar 1]) (dC (.int 2))]) (.nm 4) (dYes) (E_places_in_0) [4])
def T_places_in : DenS := sSeq (sSet 2 (mkL (nLst []))) (sSeq (sFor (dItR1 [dOp2 oSub (dCall bLen [dVar 0]) (dC (.int 1))]) (.nm 3) (B_places_in_0)) (sFrz 2 (sRet (dVar 2))))
def R_places_in : List D → Sto → Out D := dFn 5 T_places_in
theorem b_places_in {P : Program} {w : World} {G : Cg} {base : Heap} (T : Top w G) : ∀ (X : Cx) (W : WG), Ok X W 0 → (∃ f cdv A outer s H E, X = cxOf (L2.CX P w) P w G.K G.mg base n_places_in "places_in" (defScope s_places_in) f cdv A outer s H E) → PBv X W (defBody s_places_in) T_places_in := by
  rintro X W o ⟨f, cdv, A, outer, s, H, E, rfl⟩
  exact pbv_cons (psv_setV o 2 (pvv_new (pnv_lst (pav_nil)))) (pbv_cons (psv_for o (piv_rng1 T.z_range (pav_cons (pev_sub (pev_len T.z_len (pav_cons (pev_var 0) (pav_nil))) (pev_int)) (pav_nil))) (pgv_name o.nd 3) (pbv_one (psv_ext 2 (pev_lc o [("spot", 4)] (piv_rng1 T.z_range (pav_cons (pev_sub (pev_len T.z_len (pav_cons (pev_var 1) (pav_nil))) (pev_int)) (pav_nil))) (blkOk_by (N := n_places_in) (sc := defScope s_places_in) (by decide +kernel)) (fun s H C cl fp => pgv_name sc_places_in.nd 4) (fun s H C cl fp o => ptsv_nil) (fun s H C cl fp o => pev_tup (pav_cons (pev_var 3) (pav_cons (pev_var 4) (pav_nil)))))))) (pbv_one (psv_frz 2 (psv_ret (pev_var 2)))))
theorem raw_places_in {P : Program} {w : World} {G : Cg} {base : Heap} (T : Top w G) : Fn P w G base "places_in" 1 2 R_places_in := fn_raw (N := n_places_in) T.d_places_in sc_places_in (b_places_in T)

abbrev F_places_in := R_places_in
theorem fn_places_in {P : Program} {w : World} {G : Cg} {base : Heap} (T : Top w G) : Fn P w G base "places_in" 1 2 F_places_in := raw_places_in T

/-! bend_at -/
theorem sc_bend_at : FnScope n_bend_at ["other", "costs", "place"] (defScope s_bend_at) := ⟨rfl, rfl, rfl, by decide +kernel, rfl, by decide +kernel, by decide +kernel⟩
def E_bend_at_0 : Den := dOp2 oSub (dOp2 oIx (dOp2 oIx (dVar 1) (dOp2 oAdd (dVar 3) (dC (.int 1)))) (dVar 7)) (dOp2 oIx (dOp2 oIx (dVar 1) (dVar 3)) (dVar 7))
def T_bend_at : DenS := sSeq (sAsg (.tp [.nm 3, .nm 4]) (dVar 2)) (sSeq (sSet 5 (dLc (dItT (dCall oTup [dVar 4, dOp2 oAdd (dVar 4) (dC (.int 1)), dOp2 oAdd (dVar 4) (dC (.int 2))])) (.nm 7) (dYes) (E_bend_at_0) [7])) (sSeq (sPar 6 7 [dOp2 oSub (dOp2 oIx (dOp2 oIx (dVar 0) (dOp2 oAdd (dVar 4) (dC (.int 1)))) (dC (.int 0))) (dOp2 oIx (dOp2 oIx (dVar 0) (dVar 4)) (dC (.int 0))), dOp2 oSub (dOp2 oIx (dOp2 oIx (dVar 0) (dOp2 oAdd (dVar 4) (dC (.int 2)))) (dC (.int 0))) (dOp2 oIx (dOp2 oIx (dVar 0) (dOp2 oAdd (dVar 4) (dC (.int 1)))) (dC (.int 0)))]) (sRet (dOp2 oSub (dOp2 oMul (dOp2 oSub (dOp2 oIx (dVar 5) (dC (.int 1))) (dOp2 oIx (dVar 5) (dC (.int 0)))) (dVar 7)) (dOp2 oMul (dOp2 oSub (dOp2 oIx (dVar 5) (dC (.int 2))) (dOp2 oIx (dVar 5) (dC (.int 1)))) (dVar 6))))))
def R_bend_at : List D → Sto → Out D := dFn 8 T_bend_at
theorem b_bend_at {P : Program} {w : World} {G : Cg} {base : Heap} (T : Top w G) : ∀ (X : Cx) (W : WG), Ok X W 0 → (∃ f cdv A outer s H E, X = cxOf (L2.CX P w) P w G.K G.mg base n_bend_at "bend_at" (defScope s_bend_at) f cdv A outer s H E) → PBv X W (defBody s_bend_at) T_bend_at := by
  rintro X W o ⟨f, cdv, A, outer, s, H, E, rfl⟩
  exact pbv_cons (psv_asg (pev_var 2) (pgv_tup o.calm (pgsv_cons (pgv_name o.nd 3) (pgsv_cons (pgv_name o.nd 4) (pgsv_nil))))) (pbv_cons (psv_setLc o 5 [("far", 7)] (piv_tup (pev_tup (pav_cons (pev_var 4) (pav_cons (pev_add (pev_var 4) (pev_int)) (pav_cons (pev_add (pev_var 4) (pev_int)) (pav_nil)))))) (blkOk_by (N := n_bend_at) (sc := defScope s_bend_at) (by decide +kernel)) (fun s H C cl fp => pgv_name sc_bend_at.nd 7) (fun s H C cl fp o => ptsv_nil) (fun s H C cl fp o => pev_sub (pev_sub_ o (pev_sub_ o (pev_var 1) (pev_add (pev_var 3) (pev_int))) (pev_var 7)) (pev_sub_ o (pev_sub_ o (pev_var 1) (pev_var 3)) (pev_var 7)))) (pbv_cons (psv_par o 6 7 (pav_cons (pev_sub (pev_sub_ o (pev_sub_ o (pev_var 0) (pev_add (pev_var 4) (pev_int))) (pev_int)) (pev_sub_ o (pev_sub_ o (pev_var 0) (pev_var 4)) (pev_int))) (pav_cons (pev_sub (pev_sub_ o (pev_sub_ o (pev_var 0) (pev_add (pev_var 4) (pev_int))) (pev_int)) (pev_sub_ o (pev_sub_ o (pev_var 0) (pev_add (pev_var 4) (pev_int))) (pev_int))) (pav_nil)))) (pbv_one (psv_ret (pev_sub (pev_mul (pev_sub (pev_sub_ o (pev_var 5) (pev_int)) (pev_sub_ o (pev_var 5) (pev_int))) (pev_var 7)) (pev_mul (pev_sub (pev_sub_ o (pev_var 5) (pev_int)) (pev_sub_ o (pev_var 5) (pev_int))) (pev_var 6)))))))
theorem raw_bend_at {P : Program} {w : World} {G : Cg} {base : Heap} (T : Top w G) : Fn P w G base "bend_at" 1 3 R_bend_at := fn_raw (N := n_bend_at) T.d_bend_at sc_bend_at (b_bend_at T)

abbrev F_bend_at := R_bend_at
theorem fn_bend_at {P : Program} {w : World} {G : Cg} {base : Heap} (T : Top w G) : Fn P w G base "bend_at" 1 3 F_bend_at := raw_bend_at T

/-! ups_in -/
theorem sc_ups_in : FnScope n_ups_in ["one", "other", "costs"] (defScope s_ups_in) := ⟨rfl, rfl, rfl, by decide +kernel, rfl, by decide +kernel, by decide +kernel⟩
def E_ups_in_0 : Den := dVar 3
def Q_ups_in_0 : DenT := dTst (dOp2 oLt (dCallF 3 F_bend_at [dVar 1, dVar 2, dVar 3]) (dC (.int 0)))
def T_ups_in : DenS := sRet (dLc (dItL (dCallF 2 F_places_in [dVar 0, dVar 1])) (.nm 3) (Q_ups_in_0) (E_ups_in_0) [3])
def R_ups_in : List D → Sto → Out D := dFn 4 T_ups_in
theorem b_ups_in {P : Program} {w : World} {G : Cg} {base : Heap} (T : Top w G) : ∀ (X : Cx) (W : WG), Ok X W 1 → (∃ f cdv A outer s H E, X = cxOf (L2.CX P w) P w G.K G.mg base n_ups_in "ups_in" (defScope s_ups_in) f cdv A outer s H E) → PBv X W (defBody s_ups_in) T_ups_in := by
  rintro X W o ⟨f, cdv, A, outer, s, H, E, rfl⟩
  exact pbv_one (psv_ret (pev_lc o [("place", 3)] (piv_lst (pev_call o (fn_places_in T) (by decide) (pav_cons (pev_var 0) (pav_cons (pev_var 1) (pav_nil))))) (blkOk_by (N := n_ups_in) (sc := defScope s_ups_in) (by decide +kernel)) (fun s H C cl fp => pgv_name sc_ups_in.nd 3) (fun s H C cl fp o => ptsv_one (ptv_lt o (pev_call o (fn_bend_at T) (by decide) (pav_cons (pev_var 1) (pav_cons (pev_var 2) (pav_cons (pev_var 3) (pav_nil))))) (pev_int))) (fun s H C cl fp o => pev_var 3)))
theorem raw_ups_in {P : Program} {w : World} {G : Cg} {base : Heap} (T : Top w G) : Fn P w G base "ups_in" 2 3 R_ups_in := fn_raw (N := n_ups_in) T.d_ups_in sc_ups_in (b_ups_in T)

abbrev F_ups_in := R_ups_in
theorem fn_ups_in {P : Program} {w : World} {G : Cg} {base : Heap} (T : Top w G) : Fn P w G base "ups_in" 2 3 F_ups_in := raw_ups_in T

/-! downs_in -/
theorem sc_downs_in : FnScope n_downs_in ["one", "other", "costs"] (defScope s_downs_in) := ⟨rfl, rfl, rfl, by decide +kernel, rfl, by decide +kernel, by decide +kernel⟩
def E_downs_in_0 : Den := dVar 3
def Q_downs_in_0 : DenT := dTst (dOp2 oGt (dCallF 3 F_bend_at [dVar 1, dVar 2, dVar 3]) (dC (.int 0)))
def T_downs_in : DenS := sRet (dLc (dItL (dCallF 2 F_places_in [dVar 0, dVar 1])) (.nm 3) (Q_downs_in_0) (E_downs_in_0) [3])
def R_downs_in : List D → Sto → Out D := dFn 4 T_downs_in
theorem b_downs_in {P : Program} {w : World} {G : Cg} {base : Heap} (T : Top w G) : ∀ (X : Cx) (W : WG), Ok X W 1 → (∃ f cdv A outer s H E, X = cxOf (L2.CX P w) P w G.K G.mg base n_downs_in "downs_in" (defScope s_downs_in) f cdv A outer s H E) → PBv X W (defBody s_downs_in) T_downs_in := by
  rintro X W o ⟨f, cdv, A, outer, s, H, E, rfl⟩
  exact pbv_one (psv_ret (pev_lc o [("place", 3)] (piv_lst (pev_call o (fn_places_in T) (by decide) (pav_cons (pev_var 0) (pav_cons (pev_var 1) (pav_nil))))) (blkOk_by (N := n_downs_in) (sc := defScope s_downs_in) (by decide +kernel)) (fun s H C cl fp => pgv_name sc_downs_in.nd 3) (fun s H C cl fp o => ptsv_one (ptv_gt (pev_call o (fn_bend_at T) (by decide) (pav_cons (pev_var 1) (pav_cons (pev_var 2) (pav_cons (pev_var 3) (pav_nil))))) (pev_int))) (fun s H C cl fp o => pev_var 3)))
theorem raw_downs_in {P : Program} {w : World} {G : Cg} {base : Heap} (T : Top w G) : Fn P w G base "downs_in" 2 3 R_downs_in := fn_raw (N := n_downs_in) T.d_downs_in sc_downs_in (b_downs_in T)

abbrev F_downs_in := R_downs_in
theorem fn_downs_in {P : Program} {w : World} {G : Cg} {base : Heap} (T : Top w G) : Fn P w G base "downs_in" 2 3 F_downs_in := raw_downs_in T

/-! does_hold -/
theorem sc_does_hold : FnScope n_does_hold ["one", "other", "costs", "paper"] (defScope s_does_hold) := ⟨rfl, rfl, rfl, by decide +kernel, rfl, by decide +kernel, by decide +kernel⟩
def E_does_hold_0 : Den := dCallF 1 F_is_integer [dVar 6]
def T_does_hold : DenS := sSeq (sPar 4 5 [dCallF 3 F_ups_in [dVar 0, dVar 1, dVar 2], dCallF 3 F_downs_in [dVar 0, dVar 1, dVar 2]]) (sSeq (sIf (dTst (dOp2 oEq (dOp2 oIx (dVar 3) (dC (.int 0))) (dC c_MIXED))) (sSeq (sIf (dNotT (dTru (dCall bAll [dLc (dItT (dSl (dVar 3) (dP (dC (.int 1))) (dNoP))) (.nm 6) (dYes) (E_does_hold_0) [6]]))) (sRet (dC (.bl false))) (sNil)) (sRet (dAndV (dOp2 oIn (dSl (dVar 3) (dP (dC (.int 1))) (dP (dC (.int 3)))) (dVar 4)) (dOp2 oIn (dSl (dVar 3) (dP (dC (.int 3))) (dNoP)) (dVar 5))))) (sNil)) (sRet (dAndV (dOrV (dOp2 oEq (dOp2 oIx (dVar 3) (dC (.int 0))) (dC c_UP)) (dOp2 oEq (dVar 4) (dCall oLst []))) (dOrV (dOp2 oEq (dOp2 oIx (dVar 3) (dC (.int 0))) (dC c_DOWN)) (dOp2 oEq (dVar 5) (dCall oLst []))))))
def R_does_hold : List D → Sto → Out D := dFn 7 T_does_hold
theorem b_does_hold {P : Program} {w : World} {G : Cg} {base : Heap} (T : Top w G) : ∀ (X : Cx) (W : WG), Ok X W 2 → (∃ f cdv A outer s H E, X = cxOf (L2.CX P w) P w G.K G.mg base n_does_hold "does_hold" (defScope s_does_hold) f cdv A outer s H E) → PBv X W (defBody s_does_hold) T_does_hold := by
  rintro X W o ⟨f, cdv, A, outer, s, H, E, rfl⟩
  exact pbv_cons (psv_par o 4 5 (pav_cons (pev_call o (fn_ups_in T) (by decide) (pav_cons (pev_var 0) (pav_cons (pev_var 1) (pav_cons (pev_var 2) (pav_nil))))) (pav_cons (pev_call o (fn_downs_in T) (by decide) (pav_cons (pev_var 0) (pav_cons (pev_var 1) (pav_cons (pev_var 2) (pav_nil))))) (pav_nil)))) (pbv_cons (psv_if (ptv_eq o (pev_sub_ o (pev_var 3) (pev_int)) (pev_glob T.c_MIXED)) (pbv_cons (psv_if (ptv_not (ptv_tru (pev_all o T.z_all (pav_cons (pev_lc o [("number", 6)] (piv_tup (pev_sl (pev_var 3) (pov_some (pev_int)) (pov_none))) (blkOk_by (N := n_does_hold) (sc := defScope s_does_hold) (by decide +kernel)) (fun s H C cl fp => pgv_name sc_does_hold.nd 6) (fun s H C cl fp o => ptsv_nil) (fun s H C cl fp o => pev_call o (fn_is_integer T) (by decide) (pav_cons (pev_var 6) (pav_nil)))) (pav_nil))))) (pbv_one (psv_ret (pev_bl))) (pbv_nil)) (pbv_one (psv_ret (pev_and (pev_in o (pev_sl (pev_var 3) (pov_some (pev_int)) (pov_some (pev_int))) (pev_var 4)) (pev_one (pev_in o (pev_sl (pev_var 3) (pov_some (pev_int)) (pov_none)) (pev_var 5))))))) (pbv_nil)) (pbv_one (psv_ret (pev_and (pev_or (pev_eq o (pev_sub_ o (pev_var 3) (pev_int)) (pev_glob T.c_UP)) (pev_one (pev_eq o (pev_var 4) (pev_lst (pav_nil))))) (pev_one (pev_or (pev_eq o (pev_sub_ o (pev_var 3) (pev_int)) (pev_glob T.c_DOWN)) (pev_one (pev_eq o (pev_var 5) (pev_lst (pav_nil))))))))))
theorem raw_does_hold {P : Program} {w : World} {G : Cg} {base : Heap} (T : Top w G) : Fn P w G base "does_hold" 3 4 R_does_hold := fn_raw (N := n_does_hold) T.d_does_hold sc_does_hold (b_does_hold T)

abbrev F_does_hold := R_does_hold
theorem fn_does_hold {P : Program} {w : World} {G : Cg} {base : Heap} (T : Top w G) : Fn P w G base "does_hold" 3 4 F_does_hold := raw_does_hold T

/-! check_kind -/
theorem sc_check_kind : FnScope n_check_kind ["one", "other", "costs", "paper"] (defScope s_check_kind) := ⟨rfl, rfl, rfl, by decide +kernel, rfl, by decide +kernel, by decide +kernel⟩
def T_check_kind : DenS := sSeq (sExpr (dCallF 3 F_need_question [dVar 0, dVar 1, dVar 2])) (sSeq (sIf (dOrT (dNotT (dTru (dOp1 (oIsi .tuple) (dVar 3)))) (dOrT (dTst (dOp2 oEq (dVar 3) (dCall oTup []))) (dNotT (dTru (dOp1 (oIsi .str) (dOp2 oIx (dVar 3) (dC (.int 0)))))))) (sRaise "BadPaper" "part" (dC (.str "form"))) (sNil)) (sSeq (sIf (dTst (dOp2 oNe (dOp1 (oWGet k_SIZES v_SIZES) (dOp2 oIx (dVar 3) (dC (.int 0)))) (dCall bLen [dVar 3]))) (sRaise "BadPaper" "part" (dC (.str "form"))) (sNil)) (sSeq (sIf (dNotT (dTru (dCallF 4 F_does_hold [dVar 0, dVar 1, dVar 2, dVar 3]))) (sRaise "BadPaper" "part" (dOp2 oIx (dVar 3) (dC (.int 0)))) (sNil)) (sRet (dOp2 oIx (dVar 3) (dC (.int 0)))))))
def R_check_kind : List D → Sto → Out D := dFn 4 T_check_kind
theorem b_check_kind {P : Program} {w : World} {G : Cg} {base : Heap} (T : Top w G) : ∀ (X : Cx) (W : WG), Ok X W 6 → (∃ f cdv A outer s H E, X = cxOf (L2.CX P w) P w G.K G.mg base n_check_kind "check_kind" (defScope s_check_kind) f cdv A outer s H E) → PBv X W (defBody s_check_kind) T_check_kind := by
  rintro X W o ⟨f, cdv, A, outer, s, H, E, rfl⟩
  exact pbv_cons (psv_expr (pev_call o (fn_need_question T) (by decide) (pav_cons (pev_var 0) (pav_cons (pev_var 1) (pav_cons (pev_var 2) (pav_nil)))))) (pbv_cons (psv_if ((pwv_or (ptv_not (ptv_tru (pev_isi .tuple T.z_isinstance T.z_tuple PyProof.Rows.boot_tuple (pev_var 3)))) (pwv_or (ptv_eq o (pev_var 3) (pev_tup (pav_nil))) (pwv_or1 (ptv_not (ptv_tru (pev_isi .str T.z_isinstance T.z_str PyProof.Rows.boot_str (pev_sub_ o (pev_var 3) (pev_int)))))))).pt) (pbv_one (psv_raise o (cls_BadPaper T) (by decide) (pev_str))) (pbv_nil)) (pbv_cons (psv_if (ptv_ne o (pev_wget T.w_SIZES (pev_sub_ o (pev_var 3) (pev_int))) (pev_len T.z_len (pav_cons (pev_var 3) (pav_nil)))) (pbv_one (psv_raise o (cls_BadPaper T) (by decide) (pev_str))) (pbv_nil)) (pbv_cons (psv_if (ptv_not (ptv_tru (pev_call o (fn_does_hold T) (by decide) (pav_cons (pev_var 0) (pav_cons (pev_var 1) (pav_cons (pev_var 2) (pav_cons (pev_var 3) (pav_nil)))))))) (pbv_one (psv_raise o (cls_BadPaper T) (by decide) (pev_sub_ o (pev_var 3) (pev_int)))) (pbv_nil)) (pbv_one (psv_ret (pev_sub_ o (pev_var 3) (pev_int)))))))
theorem raw_check_kind {P : Program} {w : World} {G : Cg} {base : Heap} (T : Top w G) : Fn P w G base "check_kind" 7 4 R_check_kind := fn_raw (N := n_check_kind) T.d_check_kind sc_check_kind (b_check_kind T)

abbrev F_check_kind := R_check_kind
theorem fn_check_kind {P : Program} {w : World} {G : Cg} {base : Heap} (T : Top w G) : Fn P w G base "check_kind" 7 4 F_check_kind := raw_check_kind T

/-! _law_heard -/
theorem sc__law_heard : FnScope n__law_heard ["one", "other", "costs_so", "sheet"] (defScope s__law_heard) := ⟨rfl, rfl, rfl, by decide +kernel, rfl, by decide +kernel, by decide +kernel⟩
def B__law_heard_0 : DenS := sRet (dCall oLst [dCallF 4 F_check_kind [dVar 0, dVar 1, dVar 2, dVar 3]])
def T__law_heard : DenS := sTryR 4 t_BadPaper B__law_heard_0 (xF "BadPaper" "part")
def R__law_heard : List D → Sto → Out D := dFn 5 T__law_heard
theorem b__law_heard {P : Program} {w : World} {G : Cg} {base : Heap} (T : Top w G) : ∀ (X : Cx) (W : WG), Ok X W 7 → (∃ f cdv A outer s H E, X = cxOf (L2.CX P w) P w G.K G.mg base n__law_heard "_law_heard" (defScope s__law_heard) f cdv A outer s H E) → PBv X W (defBody s__law_heard) T__law_heard := by
  rintro X W o ⟨f, cdv, A, outer, s, H, E, rfl⟩
  exact pbv_one (psv_tryR o 4 T.h_BadPaper (fun W pn xe o => pbv_one (psv_ret (pev_lst (pav_cons (pev_call o (fn_check_kind T) (by decide) (pav_cons (pev_var 0) (pav_cons (pev_var 1) (pav_cons (pev_var 2) (pav_cons (pev_var 3) (pav_nil)))))) (pav_nil))))) (pxv_fld 4 (cls_BadPaper (P := P) (base := base) T)))
theorem raw__law_heard {P : Program} {w : World} {G : Cg} {base : Heap} (T : Top w G) : Fn P w G base "_law_heard" 8 4 R__law_heard := fn_raw (N := n__law_heard) T.d__law_heard sc__law_heard (b__law_heard T)

abbrev F__law_heard := R__law_heard
theorem fn__law_heard {P : Program} {w : World} {G : Cg} {base : Heap} (T : Top w G) : Fn P w G base "_law_heard" 8 4 F__law_heard := raw__law_heard T

/-! _law_ratio -/
theorem sc__law_ratio : FnScope n__law_ratio ["top", "bottom"] (defScope s__law_ratio) := ⟨rfl, rfl, rfl, by decide +kernel, rfl, by decide +kernel, by decide +kernel⟩
def C__law_ratio_0 : DenT := dTst (dOp2 oNe (dVar 3) (dC (.int 0)))
def B__law_ratio_0 : DenS := sPar 2 3 [dVar 3, dOp2 oMod (dCall bInt [dVar 2]) (dVar 3)]
def T__law_ratio : DenS := sSeq (sPar 2 3 [dCall bAbs [dVar 0], dVar 1]) (sSeq (sWhile (fuI 3) (C__law_ratio_0) (B__law_ratio_0)) (sRet (dCall oTup [dOp2 oFdiv (dVar 0) (dVar 2), dOp2 oFdiv (dVar 1) (dVar 2)])))
def R__law_ratio : List D → Sto → Out D := dFn 4 T__law_ratio
theorem b__law_ratio {P : Program} {w : World} {G : Cg} {base : Heap} (T : Top w G) : ∀ (X : Cx) (W : WG), Ok X W 0 → (∃ f cdv A outer s H E, X = cxOf (L2.CX P w) P w G.K G.mg base n__law_ratio "_law_ratio" (defScope s__law_ratio) f cdv A outer s H E) → PBv X W (defBody s__law_ratio) T__law_ratio := by
  rintro X W o ⟨f, cdv, A, outer, s, H, E, rfl⟩
  exact pbv_cons (psv_par o 2 3 (pav_cons (pev_abs T.z_abs (pav_cons (pev_var 0) (pav_nil))) (pav_cons (pev_var 1) (pav_nil)))) (pbv_cons (psv_while o (fuI 3) (ptv_ne o (pev_var 3) (pev_int)) (pbv_one (psv_par o 2 3 (pav_cons (pev_var 3) (pav_cons (pev_mod (pev_intc T.z_int (pav_cons (pev_var 2) (pav_nil))) (pev_var 3)) (pav_nil)))))) (pbv_one (psv_ret (pev_tup (pav_cons (pev_fdiv (pev_var 0) (pev_var 2)) (pav_cons (pev_fdiv (pev_var 1) (pev_var 2)) (pav_nil)))))))
theorem raw__law_ratio {P : Program} {w : World} {G : Cg} {base : Heap} (T : Top w G) : Fn P w G base "_law_ratio" 1 2 R__law_ratio := fn_raw (N := n__law_ratio) T.d__law_ratio sc__law_ratio (b__law_ratio T)

abbrev F__law_ratio := R__law_ratio
theorem fn__law_ratio {P : Program} {w : World} {G : Cg} {base : Heap} (T : Top w G) : Fn P w G base "_law_ratio" 1 2 F__law_ratio := raw__law_ratio T

/-! _law_heft -/
theorem sc__law_heft : FnScope n__law_heft ["state"] (defScope s__law_heft) := ⟨rfl, rfl, rfl, by decide +kernel, rfl, by decide +kernel, by decide +kernel⟩
def T__law_heft : DenS := sRet (dCallF 2 F__law_ratio [dOp2 oAdd (dC (.int 1)) (dCallF 2 F__law_draw [dVar 0, dC (.int 6)]), dOp2 oAdd (dC (.int 1)) (dCallF 2 F__law_draw [dVar 0, dC (.int 4)])])
def R__law_heft : List D → Sto → Out D := dFn 1 T__law_heft
theorem b__law_heft {P : Program} {w : World} {G : Cg} {base : Heap} (T : Top w G) : ∀ (X : Cx) (W : WG), Ok X W 2 → (∃ f cdv A outer s H E, X = cxOf (L2.CX P w) P w G.K G.mg base n__law_heft "_law_heft" (defScope s__law_heft) f cdv A outer s H E) → PBv X W (defBody s__law_heft) T__law_heft := by
  rintro X W o ⟨f, cdv, A, outer, s, H, E, rfl⟩
  exact pbv_one (psv_ret (pev_call o (fn__law_ratio T) (by decide) (pav_cons (pev_add (pev_int) (pev_call o (fn__law_draw T) (by decide) (pav_cons (pev_var 0) (pav_cons (pev_int) (pav_nil))))) (pav_cons (pev_add (pev_int) (pev_call o (fn__law_draw T) (by decide) (pav_cons (pev_var 0) (pav_cons (pev_int) (pav_nil))))) (pav_nil)))))
theorem raw__law_heft {P : Program} {w : World} {G : Cg} {base : Heap} (T : Top w G) : Fn P w G base "_law_heft" 3 1 R__law_heft := fn_raw (N := n__law_heft) T.d__law_heft sc__law_heft (b__law_heft T)

abbrev F__law_heft := R__law_heft
theorem fn__law_heft {P : Program} {w : World} {G : Cg} {base : Heap} (T : Top w G) : Fn P w G base "_law_heft" 3 1 F__law_heft := raw__law_heft T

/-! _law_marks -/
theorem sc__law_marks : FnScope n__law_marks ["state", "many", "most"] (defScope s__law_marks) := ⟨rfl, rfl, rfl, by decide +kernel, rfl, by decide +kernel, by decide +kernel⟩
def B__law_marks_0 : DenS := sSto 3 (dOp2 oSub (dCallF 2 F__law_draw [dVar 0, dOp2 oAdd (dOp2 oMul (dC (.int 2)) (dVar 2)) (dC (.int 1))]) (dVar 2)) (dC (.bl true))
def T__law_marks : DenS := sSeq (sSet 3 (mkM mNew)) (sSeq (sFor (dItR1 [dOp2 oAdd (dC (.int 1)) (dCallF 2 F__law_draw [dVar 0, dVar 1])]) (.nm 4) (B__law_marks_0)) (sFrz 3 (sRet (dCall bSorted [dVar 3]))))
def R__law_marks : List D → Sto → Out D := dFn 5 T__law_marks
theorem b__law_marks {P : Program} {w : World} {G : Cg} {base : Heap} (T : Top w G) : ∀ (X : Cx) (W : WG), Ok X W 2 → (∃ f cdv A outer s H E, X = cxOf (L2.CX P w) P w G.K G.mg base n__law_marks "_law_marks" (defScope s__law_marks) f cdv A outer s H E) → PBv X W (defBody s__law_marks) T__law_marks := by
  rintro X W o ⟨f, cdv, A, outer, s, H, E, rfl⟩
  exact pbv_cons (psv_setV o 3 (pvv_newM pmv_new)) (pbv_cons (psv_for o (piv_rng1 T.z_range (pav_cons (pev_add (pev_int) (pev_call o (fn__law_draw T) (by decide) (pav_cons (pev_var 0) (pav_cons (pev_var 1) (pav_nil))))) (pav_nil))) (pgv_name o.nd 4) (pbv_one (psv_sto o 3 (pev_sub (pev_call o (fn__law_draw T) (by decide) (pav_cons (pev_var 0) (pav_cons (pev_add (pev_mul (pev_int) (pev_var 2)) (pev_int)) (pav_nil)))) (pev_var 2)) (pev_bl)))) (pbv_one (psv_frz 3 (psv_ret (pev_sorted o T.z_sorted (pav_cons (pev_var 3) (pav_nil)))))))
theorem raw__law_marks {P : Program} {w : World} {G : Cg} {base : Heap} (T : Top w G) : Fn P w G base "_law_marks" 3 3 R__law_marks := fn_raw (N := n__law_marks) T.d__law_marks sc__law_marks (b__law_marks T)

abbrev F__law_marks := R__law_marks
theorem fn__law_marks {P : Program} {w : World} {G : Cg} {base : Heap} (T : Top w G) : Fn P w G base "_law_marks" 3 3 F__law_marks := raw__law_marks T

/-! _law_share -/
theorem sc__law_share : FnScope n__law_share ["state", "many"] (defScope s__law_share) := ⟨rfl, rfl, rfl, by decide +kernel, rfl, by decide +kernel, by decide +kernel⟩
def E__law_share_0 : Den := dCall oTup [dVar 2, dCallF 1 F__law_heft [dVar 0]]
def T__law_share : DenS := sRet (dCall bTuple [dLc (dItL (dCallF 3 F__law_marks [dVar 0, dVar 1, dC (.int 9)])) (.nm 2) (dYes) (E__law_share_0) [2]])
def R__law_share : List D → Sto → Out D := dFn 3 T__law_share
theorem b__law_share {P : Program} {w : World} {G : Cg} {base : Heap} (T : Top w G) : ∀ (X : Cx) (W : WG), Ok X W 3 → (∃ f cdv A outer s H E, X = cxOf (L2.CX P w) P w G.K G.mg base n__law_share "_law_share" (defScope s__law_share) f cdv A outer s H E) → PBv X W (defBody s__law_share) T__law_share := by
  rintro X W o ⟨f, cdv, A, outer, s, H, E, rfl⟩
  exact pbv_one (psv_ret (pev_tuple T.z_tuple (pav_cons (pev_lc o [("mark", 2)] (piv_lst (pev_call o (fn__law_marks T) (by decide) (pav_cons (pev_var 0) (pav_cons (pev_var 1) (pav_cons (pev_int) (pav_nil)))))) (blkOk_by (N := n__law_share) (sc := defScope s__law_share) (by decide +kernel)) (fun s H C cl fp => pgv_name sc__law_share.nd 2) (fun s H C cl fp o => ptsv_nil) (fun s H C cl fp o => pev_tup (pav_cons (pev_var 2) (pav_cons (pev_call o (fn__law_heft T) (by decide) (pav_cons (pev_var 0) (pav_nil))) (pav_nil))))) (pav_nil))))
theorem raw__law_share {P : Program} {w : World} {G : Cg} {base : Heap} (T : Top w G) : Fn P w G base "_law_share" 4 2 R__law_share := fn_raw (N := n__law_share) T.d__law_share sc__law_share (b__law_share T)

abbrev F__law_share := R__law_share
theorem fn__law_share {P : Program} {w : World} {G : Cg} {base : Heap} (T : Top w G) : Fn P w G base "_law_share" 4 2 F__law_share := raw__law_share T

/-! kind_in -/
theorem sc_kind_in : FnScope n_kind_in ["one", "other", "costs"] (defScope s_kind_in) := ⟨rfl, rfl, rfl, by decide +kernel, rfl, by decide +kernel, by decide +kernel⟩
def T_kind_in : DenS := sSeq (sPar 3 4 [dCallF 3 F_ups_in [dVar 0, dVar 1, dVar 2], dCallF 3 F_downs_in [dVar 0, dVar 1, dVar 2]]) (sSeq (sIf (dAndT (dTst (dOp2 oEq (dVar 3) (dCall oLst []))) (dTst (dOp2 oEq (dVar 4) (dCall oLst [])))) (sRet (dC c_STRAIGHT)) (sNil)) (sSeq (sIf (dTst (dOp2 oEq (dVar 3) (dCall oLst []))) (sRet (dC c_DOWN)) (sNil)) (sRet (dIf (dTst (dOp2 oEq (dVar 4) (dCall oLst []))) (dC c_UP) (dC c_MIXED)))))
def R_kind_in : List D → Sto → Out D := dFn 5 T_kind_in
theorem b_kind_in {P : Program} {w : World} {G : Cg} {base : Heap} (T : Top w G) : ∀ (X : Cx) (W : WG), Ok X W 2 → (∃ f cdv A outer s H E, X = cxOf (L2.CX P w) P w G.K G.mg base n_kind_in "kind_in" (defScope s_kind_in) f cdv A outer s H E) → PBv X W (defBody s_kind_in) T_kind_in := by
  rintro X W o ⟨f, cdv, A, outer, s, H, E, rfl⟩
  exact pbv_cons (psv_par o 3 4 (pav_cons (pev_call o (fn_ups_in T) (by decide) (pav_cons (pev_var 0) (pav_cons (pev_var 1) (pav_cons (pev_var 2) (pav_nil))))) (pav_cons (pev_call o (fn_downs_in T) (by decide) (pav_cons (pev_var 0) (pav_cons (pev_var 1) (pav_cons (pev_var 2) (pav_nil))))) (pav_nil)))) (pbv_cons (psv_if ((pwv_and (ptv_eq o (pev_var 3) (pev_lst (pav_nil))) (pwv_and1 (ptv_eq o (pev_var 4) (pev_lst (pav_nil))))).pt) (pbv_one (psv_ret (pev_glob T.c_STRAIGHT))) (pbv_nil)) (pbv_cons (psv_if (ptv_eq o (pev_var 3) (pev_lst (pav_nil))) (pbv_one (psv_ret (pev_glob T.c_DOWN))) (pbv_nil)) (pbv_one (psv_ret (pev_if (ptv_eq o (pev_var 4) (pev_lst (pav_nil))) (pev_glob T.c_UP) (pev_glob T.c_MIXED))))))
theorem raw_kind_in {P : Program} {w : World} {G : Cg} {base : Heap} (T : Top w G) : Fn P w G base "kind_in" 3 3 R_kind_in := fn_raw (N := n_kind_in) T.d_kind_in sc_kind_in (b_kind_in T)

abbrev F_kind_in := R_kind_in
theorem fn_kind_in {P : Program} {w : World} {G : Cg} {base : Heap} (T : Top w G) : Fn P w G base "kind_in" 3 3 F_kind_in := raw_kind_in T

/-! kind_paper -/
theorem sc_kind_paper : FnScope n_kind_paper ["one", "other", "costs"] (defScope s_kind_paper) := ⟨rfl, rfl, rfl, by decide +kernel, rfl, by decide +kernel, by decide +kernel⟩
def T_kind_paper : DenS := sSeq (sExpr (dCallF 3 F_need_question [dVar 0, dVar 1, dVar 2])) (sSeq (sSet 3 (dCallF 3 F_kind_in [dVar 0, dVar 1, dVar 2])) (sSeq (sIf (dTst (dOp2 oEq (dVar 3) (dC c_MIXED))) (sRet (dTupW (lCons (dC c_MIXED) (lStar (dOp2 oIx (dCallF 3 F_ups_in [dVar 0, dVar 1, dVar 2]) (dC (.int 0))) (lStar (dOp2 oIx (dCallF 3 F_downs_in [dVar 0, dVar 1, dVar 2]) (dC (.int 0))) (lNil)))))) (sNil)) (sRet (dCall oTup [dVar 3]))))
def R_kind_paper : List D → Sto → Out D := dFn 4 T_kind_paper
theorem b_kind_paper {P : Program} {w : World} {G : Cg} {base : Heap} (T : Top w G) : ∀ (X : Cx) (W : WG), Ok X W 6 → (∃ f cdv A outer s H E, X = cxOf (L2.CX P w) P w G.K G.mg base n_kind_paper "kind_paper" (defScope s_kind_paper) f cdv A outer s H E) → PBv X W (defBody s_kind_paper) T_kind_paper := by
  rintro X W o ⟨f, cdv, A, outer, s, H, E, rfl⟩
  exact pbv_cons (psv_expr (pev_call o (fn_need_question T) (by decide) (pav_cons (pev_var 0) (pav_cons (pev_var 1) (pav_cons (pev_var 2) (pav_nil)))))) (pbv_cons (psv_set o 3 (pev_call o (fn_kind_in T) (by decide) (pav_cons (pev_var 0) (pav_cons (pev_var 1) (pav_cons (pev_var 2) (pav_nil)))))) (pbv_cons (psv_if (ptv_eq o (pev_var 3) (pev_glob T.c_MIXED)) (pbv_one (psv_ret (pev_tupW (paw_cons (pev_glob T.c_MIXED) (paw_star (pev_sub_ o (pev_call o (fn_ups_in T) (by decide) (pav_cons (pev_var 0) (pav_cons (pev_var 1) (pav_cons (pev_var 2) (pav_nil))))) (pev_int)) (paw_star (pev_sub_ o (pev_call o (fn_downs_in T) (by decide) (pav_cons (pev_var 0) (pav_cons (pev_var 1) (pav_cons (pev_var 2) (pav_nil))))) (pev_int)) (paw_nil))))))) (pbv_nil)) (pbv_one (psv_ret (pev_tup (pav_cons (pev_var 3) (pav_nil)))))))
theorem raw_kind_paper {P : Program} {w : World} {G : Cg} {base : Heap} (T : Top w G) : Fn P w G base "kind_paper" 7 3 R_kind_paper := fn_raw (N := n_kind_paper) T.d_kind_paper sc_kind_paper (b_kind_paper T)

abbrev F_kind_paper := R_kind_paper
theorem fn_kind_paper {P : Program} {w : World} {G : Cg} {base : Heap} (T : Top w G) : Fn P w G base "kind_paper" 7 3 F_kind_paper := raw_kind_paper T

/-! _law_bends -/
theorem sc__law_bends : FnScope n__law_bends ["one", "other", "costs_so"] (defScope s__law_bends) := ⟨rfl, rfl, rfl, by decide +kernel, rfl, by decide +kernel, by decide +kernel⟩
def E__law_bends_0 : Den := dOp2 oSub (dOp2 oIx (dOp2 oIx (dVar 2) (dOp2 oAdd (dVar 5) (dC (.int 1)))) (dVar 9)) (dOp2 oIx (dOp2 oIx (dVar 2) (dVar 5)) (dVar 9))
def B__law_bends_0 : DenS := sSeq (sSet 7 (dLc (dItT (dCall oTup [dVar 6, dOp2 oAdd (dVar 6) (dC (.int 1)), dOp2 oAdd (dVar 6) (dC (.int 2))])) (.nm 9) (dYes) (E__law_bends_0) [9])) (sSeq (sSet 8 (dOp2 oMul (dOp2 oSub (dOp2 oIx (dVar 7) (dC (.int 1))) (dOp2 oIx (dVar 7) (dC (.int 0)))) (dOp2 oSub (dOp2 oIx (dOp2 oIx (dVar 1) (dOp2 oAdd (dVar 6) (dC (.int 2)))) (dC (.int 0))) (dOp2 oIx (dOp2 oIx (dVar 1) (dOp2 oAdd (dVar 6) (dC (.int 1)))) (dC (.int 0)))))) (sSeq (sSet 9 (dOp2 oMul (dOp2 oSub (dOp2 oIx (dVar 7) (dC (.int 2))) (dOp2 oIx (dVar 7) (dC (.int 1)))) (dOp2 oSub (dOp2 oIx (dOp2 oIx (dVar 1) (dOp2 oAdd (dVar 6) (dC (.int 1)))) (dC (.int 0))) (dOp2 oIx (dOp2 oIx (dVar 1) (dVar 6)) (dC (.int 0)))))) (sSeq (sIf (dTst (dOp2 oLt (dVar 8) (dVar 9))) (sApp 3 (dCall oTup [dVar 5, dVar 6])) (sNil)) (sIf (dTst (dOp2 oGt (dVar 8) (dVar 9))) (sApp 4 (dCall oTup [dVar 5, dVar 6])) (sNil)))))
def B__law_bends_1 : DenS := sFor (dItR1 [dOp2 oSub (dCall bLen [dVar 1]) (dC (.int 2))]) (.nm 6) (B__law_bends_0)
def T__law_bends : DenS := sSeq (sPar 3 4 [mkL (nLst []), mkL (nLst [])]) (sSeq (sFor (dItR1 [dOp2 oSub (dCall bLen [dVar 0]) (dC (.int 1))]) (.nm 5) (B__law_bends_1)) (sFrz 4 (sFrz 3 (sRet (dCall oTup [dVar 3, dVar 4])))))
def R__law_bends : List D → Sto → Out D := dFn 10 T__law_bends
theorem b__law_bends {P : Program} {w : World} {G : Cg} {base : Heap} (T : Top w G) : ∀ (X : Cx) (W : WG), Ok X W 0 → (∃ f cdv A outer s H E, X = cxOf (L2.CX P w) P w G.K G.mg base n__law_bends "_law_bends" (defScope s__law_bends) f cdv A outer s H E) → PBv X W (defBody s__law_bends) T__law_bends := by
  rintro X W o ⟨f, cdv, A, outer, s, H, E, rfl⟩
  exact pbv_cons (psv_parV o 3 4 (pvv_new (pnv_lst (pav_nil))) (pvv_new (pnv_lst (pav_nil)))) (pbv_cons (psv_for o (piv_rng1 T.z_range (pav_cons (pev_sub (pev_len T.z_len (pav_cons (pev_var 0) (pav_nil))) (pev_int)) (pav_nil))) (pgv_name o.nd 5) (pbv_one (psv_for o (piv_rng1 T.z_range (pav_cons (pev_sub (pev_len T.z_len (pav_cons (pev_var 1) (pav_nil))) (pev_int)) (pav_nil))) (pgv_name o.nd 6) (pbv_cons (psv_setLc o 7 [("far", 9)] (piv_tup (pev_tup (pav_cons (pev_var 6) (pav_cons (pev_add (pev_var 6) (pev_int)) (pav_cons (pev_add (pev_var 6) (pev_int)) (pav_nil)))))) (blkOk_by (N := n__law_bends) (sc := defScope s__law_bends) (by decide +kernel)) (fun s H C cl fp => pgv_name sc__law_bends.nd 9) (fun s H C cl fp o => ptsv_nil) (fun s H C cl fp o => pev_sub (pev_sub_ o (pev_sub_ o (pev_var 2) (pev_add (pev_var 5) (pev_int))) (pev_var 9)) (pev_sub_ o (pev_sub_ o (pev_var 2) (pev_var 5)) (pev_var 9)))) (pbv_cons (psv_set o 8 (pev_mul (pev_sub (pev_sub_ o (pev_var 7) (pev_int)) (pev_sub_ o (pev_var 7) (pev_int))) (pev_sub (pev_sub_ o (pev_sub_ o (pev_var 1) (pev_add (pev_var 6) (pev_int))) (pev_int)) (pev_sub_ o (pev_sub_ o (pev_var 1) (pev_add (pev_var 6) (pev_int))) (pev_int))))) (pbv_cons (psv_set o 9 (pev_mul (pev_sub (pev_sub_ o (pev_var 7) (pev_int)) (pev_sub_ o (pev_var 7) (pev_int))) (pev_sub (pev_sub_ o (pev_sub_ o (pev_var 1) (pev_add (pev_var 6) (pev_int))) (pev_int)) (pev_sub_ o (pev_sub_ o (pev_var 1) (pev_var 6)) (pev_int))))) (pbv_cons (psv_if (ptv_lt o (pev_var 8) (pev_var 9)) (pbv_one (psv_app 3 (pev_tup (pav_cons (pev_var 5) (pav_cons (pev_var 6) (pav_nil)))))) (pbv_nil)) (pbv_one (psv_if (ptv_gt (pev_var 8) (pev_var 9)) (pbv_one (psv_app 4 (pev_tup (pav_cons (pev_var 5) (pav_cons (pev_var 6) (pav_nil)))))) (pbv_nil)))))))))) (pbv_one (psv_frz 4 (psv_frz 3 (psv_ret (pev_tup (pav_cons (pev_var 3) (pav_cons (pev_var 4) (pav_nil)))))))))
theorem raw__law_bends {P : Program} {w : World} {G : Cg} {base : Heap} (T : Top w G) : Fn P w G base "_law_bends" 1 3 R__law_bends := fn_raw (N := n__law_bends) T.d__law_bends sc__law_bends (b__law_bends T)

abbrev F__law_bends := R__law_bends
theorem fn__law_bends {P : Program} {w : World} {G : Cg} {base : Heap} (T : Top w G) : Fn P w G base "_law_bends" 1 3 F__law_bends := raw__law_bends T

/-! _law_is_int -/
theorem sc__law_is_int : FnScope n__law_is_int ["thing", "least", "most"] (defScope s__law_is_int) := ⟨rfl, rfl, rfl, by decide +kernel, rfl, by decide +kernel, by decide +kernel⟩
def T__law_is_int : DenS := sRet (dAndV (dOp1 (oIsi .int) (dVar 0)) (dAndV (dNotV (dOp1 (oIsi .bool) (dVar 0))) (dChain oLe oLe (dVar 1) (dVar 0) (dVar 2))))
def R__law_is_int : List D → Sto → Out D := dFn 3 T__law_is_int
theorem b__law_is_int {P : Program} {w : World} {G : Cg} {base : Heap} (T : Top w G) : ∀ (X : Cx) (W : WG), Ok X W 0 → (∃ f cdv A outer s H E, X = cxOf (L2.CX P w) P w G.K G.mg base n__law_is_int "_law_is_int" (defScope s__law_is_int) f cdv A outer s H E) → PBv X W (defBody s__law_is_int) T__law_is_int := by
  rintro X W o ⟨f, cdv, A, outer, s, H, E, rfl⟩
  exact pbv_one (psv_ret (pev_and (pev_isi .int T.z_isinstance T.z_int PyProof.Rows.boot_int (pev_var 0)) (pev_and (pev_not (pev_isi .bool T.z_isinstance T.z_bool PyProof.Rows.boot_bool (pev_var 0))) (pev_one (pev_chain op_le d_cmp op_le d_cmp (pev_var 1) (pev_var 0) (pev_var 2))))))
theorem raw__law_is_int {P : Program} {w : World} {G : Cg} {base : Heap} (T : Top w G) : Fn P w G base "_law_is_int" 1 3 R__law_is_int := fn_raw (N := n__law_is_int) T.d__law_is_int sc__law_is_int (b__law_is_int T)

abbrev F__law_is_int := R__law_is_int
theorem fn__law_is_int {P : Program} {w : World} {G : Cg} {base : Heap} (T : Top w G) : Fn P w G base "_law_is_int" 1 3 F__law_is_int := raw__law_is_int T

/-! _law_due -/
theorem sc__law_due : FnScope n__law_due ["one", "other", "costs_so", "sheet"] (defScope s__law_due) := ⟨rfl, rfl, rfl, by decide +kernel, rfl, by decide +kernel, by decide +kernel⟩
def E__law_due_0 : Den := dC (.int 1)
def Q__law_due_0 : DenT := dNotT (dTru (dCallF 3 F__law_is_int [dVar 6, dC (.int 0), dC (.int 99)]))
def T__law_due : DenS := sSeq (sIf (dOrT (dNotT (dTru (dOp1 (oIsi .tuple) (dVar 3)))) (dOrT (dTst (dOp2 oEq (dVar 3) (dCall oTup []))) (dNotT (dTru (dOp1 (oIsi .str) (dOp2 oIx (dVar 3) (dC (.int 0)))))))) (sRet (dC (.str "form"))) (sNil)) (sSeq (sIf (dTst (dOp2 oNotIn (dCall oTup [dOp2 oIx (dVar 3) (dC (.int 0)), dCall bLen [dVar 3]]) (dCall oTup [dCall oTup [dC (.str "down"), dC (.int 1)], dCall oTup [dC (.str "up"), dC (.int 1)], dCall oTup [dC (.str "straight"), dC (.int 1)], dCall oTup [dC (.str "mixed"), dC (.int 5)]]))) (sRet (dC (.str "form"))) (sNil)) (sSeq (sAsg (.tp [.nm 4, .nm 5]) (dCallF 3 F__law_bends [dVar 0, dVar 1, dVar 2])) (sSeq (sIf (dTst (dOp2 oEq (dOp2 oIx (dVar 3) (dC (.int 0))) (dC (.str "mixed")))) (sSeq (sIf (dTst (dOp2 oNe (dLc (dItT (dSl (dVar 3) (dP (dC (.int 1))) (dNoP))) (.nm 6) (Q__law_due_0) (E__law_due_0) [6]) (dCall oLst []))) (sRet (dC (.str "mixed"))) (sNil)) (sRet (dIf (dAndT (dTst (dOp2 oIn (dSl (dVar 3) (dP (dC (.int 1))) (dP (dC (.int 3)))) (dVar 4))) (dTst (dOp2 oIn (dSl (dVar 3) (dP (dC (.int 3))) (dNoP)) (dVar 5)))) (dCall oLst [dC (.str "mixed")]) (dC (.str "mixed"))))) (sNil)) (sSeq (sIf (dOrT (dAndT (dTst (dOp2 oNe (dOp2 oIx (dVar 3) (dC (.int 0))) (dC (.str "up")))) (dTst (dOp2 oNe (dVar 4) (dCall oLst [])))) (dAndT (dTst (dOp2 oNe (dOp2 oIx (dVar 3) (dC (.int 0))) (dC (.str "down")))) (dTst (dOp2 oNe (dVar 5) (dCall oLst []))))) (sRet (dOp2 oIx (dVar 3) (dC (.int 0)))) (sNil)) (sRet (dCall oLst [dOp2 oIx (dVar 3) (dC (.int 0))]))))))
def R__law_due : List D → Sto → Out D := dFn 7 T__law_due
theorem b__law_due {P : Program} {w : World} {G : Cg} {base : Heap} (T : Top w G) : ∀ (X : Cx) (W : WG), Ok X W 1 → (∃ f cdv A outer s H E, X = cxOf (L2.CX P w) P w G.K G.mg base n__law_due "_law_due" (defScope s__law_due) f cdv A outer s H E) → PBv X W (defBody s__law_due) T__law_due := by
  rintro X W o ⟨f, cdv, A, outer, s, H, E, rfl⟩
  exact pbv_cons (psv_if ((pwv_or (ptv_not (ptv_tru (pev_isi .tuple T.z_isinstance T.z_tuple PyProof.Rows.boot_tuple (pev_var 3)))) (pwv_or (ptv_eq o (pev_var 3) (pev_tup (pav_nil))) (pwv_or1 (ptv_not (ptv_tru (pev_isi .str T.z_isinstance T.z_str PyProof.Rows.boot_str (pev_sub_ o (pev_var 3) (pev_int)))))))).pt) (pbv_one (psv_ret (pev_str))) (pbv_nil)) (pbv_cons (psv_if (ptv_notin o (pev_tup (pav_cons (pev_sub_ o (pev_var 3) (pev_int)) (pav_cons (pev_len T.z_len (pav_cons (pev_var 3) (pav_nil))) (pav_nil)))) (pev_tup (pav_cons (pev_tup (pav_cons (pev_str) (pav_cons (pev_int) (pav_nil)))) (pav_cons (pev_tup (pav_cons (pev_str) (pav_cons (pev_int) (pav_nil)))) (pav_cons (pev_tup (pav_cons (pev_str) (pav_cons (pev_int) (pav_nil)))) (pav_cons (pev_tup (pav_cons (pev_str) (pav_cons (pev_int) (pav_nil)))) (pav_nil))))))) (pbv_one (psv_ret (pev_str))) (pbv_nil)) (pbv_cons (psv_asg (pev_call o (fn__law_bends T) (by decide) (pav_cons (pev_var 0) (pav_cons (pev_var 1) (pav_cons (pev_var 2) (pav_nil))))) (pgv_tup o.calm (pgsv_cons (pgv_name o.nd 4) (pgsv_cons (pgv_name o.nd 5) (pgsv_nil))))) (pbv_cons (psv_if (ptv_eq o (pev_sub_ o (pev_var 3) (pev_int)) (pev_str)) (pbv_cons (psv_if (ptv_ne o (pev_lc o [("spot", 6)] (piv_tup (pev_sl (pev_var 3) (pov_some (pev_int)) (pov_none))) (blkOk_by (N := n__law_due) (sc := defScope s__law_due) (by decide +kernel)) (fun s H C cl fp => pgv_name sc__law_due.nd 6) (fun s H C cl fp o => ptsv_one (ptv_not (ptv_tru (pev_call o (fn__law_is_int T) (by decide) (pav_cons (pev_var 6) (pav_cons (pev_int) (pav_cons (pev_int) (pav_nil)))))))) (fun s H C cl fp o => pev_int)) (pev_lst (pav_nil))) (pbv_one (psv_ret (pev_str))) (pbv_nil)) (pbv_one (psv_ret (pev_if ((pwv_and (ptv_in o (pev_sl (pev_var 3) (pov_some (pev_int)) (pov_some (pev_int))) (pev_var 4)) (pwv_and1 (ptv_in o (pev_sl (pev_var 3) (pov_some (pev_int)) (pov_none)) (pev_var 5)))).pt) (pev_lst (pav_cons (pev_str) (pav_nil))) (pev_str))))) (pbv_nil)) (pbv_cons (psv_if ((pwv_or ((pwv_and (ptv_ne o (pev_sub_ o (pev_var 3) (pev_int)) (pev_str)) (pwv_and1 (ptv_ne o (pev_var 4) (pev_lst (pav_nil))))).pt) (pwv_or1 ((pwv_and (ptv_ne o (pev_sub_ o (pev_var 3) (pev_int)) (pev_str)) (pwv_and1 (ptv_ne o (pev_var 5) (pev_lst (pav_nil))))).pt))).pt) (pbv_one (psv_ret (pev_sub_ o (pev_var 3) (pev_int)))) (pbv_nil)) (pbv_one (psv_ret (pev_lst (pav_cons (pev_sub_ o (pev_var 3) (pev_int)) (pav_nil)))))))))
theorem raw__law_due {P : Program} {w : World} {G : Cg} {base : Heap} (T : Top w G) : Fn P w G base "_law_due" 2 4 R__law_due := fn_raw (N := n__law_due) T.d__law_due sc__law_due (b__law_due T)

abbrev F__law_due := R__law_due
theorem fn__law_due {P : Program} {w : World} {G : Cg} {base : Heap} (T : Top w G) : Fn P w G base "_law_due" 2 4 F__law_due := raw__law_due T

/-! law -/
theorem sc_law : FnScope n_law ["script"] (defScope s_law) := ⟨rfl, rfl, rfl, by decide +kernel, rfl, by decide +kernel, by decide +kernel⟩
def B_law_0 : DenS := sSeq (sPar 7 8 [dCall bRepr [dVar 6], dCallF 4 F__law_due [dVar 3, dVar 4, dVar 5, dVar 6]]) (sSeq (sSet 9 (dCall oLst [dCallF 4 F__law_heard [dVar 3, dVar 4, dVar 5, dVar 6], dCallF 4 F__law_heard [dVar 3, dVar 4, dVar 5, dVar 6]])) (sIf (dOrT (dTst (dOp2 oNe (dCall bRepr [dVar 9]) (dCall bRepr [dCall oLst [dVar 8, dVar 8]]))) (dTst (dOp2 oNe (dCall bRepr [dVar 6]) (dVar 7)))) (sRet (dC (.bl false))) (sNil)))
def B_law_1 : DenS := sSeq (sAsg (.tp [.nm 3, .nm 4]) (dCall oTup [dCallF 2 F__law_share [dVar 1, dC (.int 4)], dCallF 2 F__law_share [dVar 1, dC (.int 6)]])) (sSeq (sSet 5 (dCallF 3 F__law_costs [dVar 1, dVar 3, dVar 4])) (sFor (dItL (dCallF 4 F__law_bent [dVar 1, dVar 3, dVar 4, dCallF 3 F_kind_paper [dVar 3, dVar 4, dVar 5]])) (.nm 6) (B_law_0)))
def E_law_0 : Den := dCallF 4 F__law_heard [dVar 3, dVar 4, dVar 10, dVar 12]
def T_law : DenS := sSeq (sSet 1 (dCallF 1 F__law_begin [dVar 0])) (sSeq (sFor (dItR1 [dOp2 oAdd (dC (.int 8)) (dCall bMin [dCall bLen [dVar 0], dC (.int 9)])]) (.nm 2) (B_law_1)) (sSeq (sAsg (.tp [.nm 3, .nm 4]) (dCall oTup [dCall oTup [dCall oTup [dC (.int 0), dCall oTup [dC (.int 1), dC (.int 2)]], dCall oTup [dC (.int 1), dCall oTup [dC (.int 1), dC (.int 2)]]], dCall oTup [dCall oTup [dOp1 oNeg (dC (.int 2)), dCall oTup [dC (.int 1), dC (.int 4)]], dCall oTup [dC (.int 0), dCall oTup [dC (.int 1), dC (.int 4)]], dCall oTup [dC (.int 1), dCall oTup [dC (.int 1), dC (.int 4)]], dCall oTup [dC (.int 3), dCall oTup [dC (.int 1), dC (.int 4)]]]])) (sSeq (sAsg (.tp [.nm 10, .nm 11]) (dCall oTup [dCall oTup [dCall oTup [dC (.int 0), dC (.int 0), dC (.int 0), dC (.int 0)], dCall oTup [dC (.int 0), dC (.int 3), dC (.int 3), dC (.int 7)]], dCall oTup [dCall oTup [dC (.int 0), dC (.int 0), dC (.int 0), dC (.int 0)], dCall oTup [dC (.int 0), dC (.int 2), dC (.int 3), dC (.int 5)]]])) (sSeq (sSet 9 (dLc (dItT (dCall oTup [dCall oTup [dC (.str "mixed"), dC (.int 0), dC (.int 1), dC (.int 0), dC (.int 0)], dCall oTup [dC (.str "mixed"), dC (.int 0), dC (.int 0), dC (.int 0), dC (.int 1)], dCall oTup [dC (.str "up")]])) (.nm 12) (dYes) (E_law_0) [12])) (sSeq (sSet 9 (dOp2 oAdd (dVar 9) (dCall oLst [dCallF 4 F__law_heard [dVar 3, dVar 4, dVar 10, dCall oTup [dC (.str "mixed"), dC (.int 0), dC (.bl true), dC (.int 0), dC (.int 0)]], dCallF 4 F__law_heard [dVar 3, dVar 4, dVar 11, dCall oTup [dC (.str "up")]]]))) (sSeq (sSet 9 (dOp2 oAdd (dVar 9) (dCall oLst [dCallF 4 F__law_heard [dVar 3, dVar 4, dVar 11, dCall oTup [dC (.str "down")]], dCallF 4 F__law_heard [dVar 3, dVar 4, dVar 11, dCall oTup [dC (.str "straight")]]]))) (sRet (dOp2 oEq (dVar 9) (dCall oLst [dCall oLst [dC (.str "mixed")], dC (.str "mixed"), dC (.str "up"), dC (.str "mixed"), dCall oLst [dC (.str "up")], dCall oLst [dC (.str "down")], dCall oLst [dC (.str "straight")]])))))))))
def R_law : List D → Sto → Out D := dFn 13 T_law
theorem b_law {P : Program} {w : World} {G : Cg} {base : Heap} (T : Top w G) : ∀ (X : Cx) (W : WG), Ok X W 8 → (∃ f cdv A outer s H E, X = cxOf (L2.CX P w) P w G.K G.mg base n_law "law" (defScope s_law) f cdv A outer s H E) → PBv X W (defBody s_law) T_law := by
  rintro X W o ⟨f, cdv, A, outer, s, H, E, rfl⟩
  exact pbv_cons (psv_set o 1 (pev_call o (fn__law_begin T) (by decide) (pav_cons (pev_var 0) (pav_nil)))) (pbv_cons (psv_for o (piv_rng1 T.z_range (pav_cons (pev_add (pev_int) (pev_min o T.z_min (pav_cons (pev_len T.z_len (pav_cons (pev_var 0) (pav_nil))) (pav_cons (pev_int) (pav_nil))))) (pav_nil))) (pgv_name o.nd 2) (pbv_cons (psv_asg (pev_tup (pav_cons (pev_call o (fn__law_share T) (by decide) (pav_cons (pev_var 1) (pav_cons (pev_int) (pav_nil)))) (pav_cons (pev_call o (fn__law_share T) (by decide) (pav_cons (pev_var 1) (pav_cons (pev_int) (pav_nil)))) (pav_nil)))) (pgv_tup o.calm (pgsv_cons (pgv_name o.nd 3) (pgsv_cons (pgv_name o.nd 4) (pgsv_nil))))) (pbv_cons (psv_set o 5 (pev_call o (fn__law_costs T) (by decide) (pav_cons (pev_var 1) (pav_cons (pev_var 3) (pav_cons (pev_var 4) (pav_nil)))))) (pbv_one (psv_for o (piv_lst (pev_call o (fn__law_bent T) (by decide) (pav_cons (pev_var 1) (pav_cons (pev_var 3) (pav_cons (pev_var 4) (pav_cons (pev_call o (fn_kind_paper T) (by decide) (pav_cons (pev_var 3) (pav_cons (pev_var 4) (pav_cons (pev_var 5) (pav_nil))))) (pav_nil))))))) (pgv_name o.nd 6) (pbv_cons (psv_par o 7 8 (pav_cons (pev_repr o T.z_repr (pav_cons (pev_var 6) (pav_nil))) (pav_cons (pev_call o (fn__law_due T) (by decide) (pav_cons (pev_var 3) (pav_cons (pev_var 4) (pav_cons (pev_var 5) (pav_cons (pev_var 6) (pav_nil)))))) (pav_nil)))) (pbv_cons (psv_set o 9 (pev_lst (pav_cons (pev_call o (fn__law_heard T) (by decide) (pav_cons (pev_var 3) (pav_cons (pev_var 4) (pav_cons (pev_var 5) (pav_cons (pev_var 6) (pav_nil)))))) (pav_cons (pev_call o (fn__law_heard T) (by decide) (pav_cons (pev_var 3) (pav_cons (pev_var 4) (pav_cons (pev_var 5) (pav_cons (pev_var 6) (pav_nil)))))) (pav_nil))))) (pbv_one (psv_if ((pwv_or (ptv_ne o (pev_repr o T.z_repr (pav_cons (pev_var 9) (pav_nil))) (pev_repr o T.z_repr (pav_cons (pev_lst (pav_cons (pev_var 8) (pav_cons (pev_var 8) (pav_nil)))) (pav_nil)))) (pwv_or1 (ptv_ne o (pev_repr o T.z_repr (pav_cons (pev_var 6) (pav_nil))) (pev_var 7)))).pt) (pbv_one (psv_ret (pev_bl))) (pbv_nil)))))))))) (pbv_cons (psv_asg (pev_tup (pav_cons (pev_tup (pav_cons (pev_tup (pav_cons (pev_int) (pav_cons (pev_tup (pav_cons (pev_int) (pav_cons (pev_int) (pav_nil)))) (pav_nil)))) (pav_cons (pev_tup (pav_cons (pev_int) (pav_cons (pev_tup (pav_cons (pev_int) (pav_cons (pev_int) (pav_nil)))) (pav_nil)))) (pav_nil)))) (pav_cons (pev_tup (pav_cons (pev_tup (pav_cons (pev_neg (pev_int)) (pav_cons (pev_tup (pav_cons (pev_int) (pav_cons (pev_int) (pav_nil)))) (pav_nil)))) (pav_cons (pev_tup (pav_cons (pev_int) (pav_cons (pev_tup (pav_cons (pev_int) (pav_cons (pev_int) (pav_nil)))) (pav_nil)))) (pav_cons (pev_tup (pav_cons (pev_int) (pav_cons (pev_tup (pav_cons (pev_int) (pav_cons (pev_int) (pav_nil)))) (pav_nil)))) (pav_cons (pev_tup (pav_cons (pev_int) (pav_cons (pev_tup (pav_cons (pev_int) (pav_cons (pev_int) (pav_nil)))) (pav_nil)))) (pav_nil)))))) (pav_nil)))) (pgv_tup o.calm (pgsv_cons (pgv_name o.nd 3) (pgsv_cons (pgv_name o.nd 4) (pgsv_nil))))) (pbv_cons (psv_asg (pev_tup (pav_cons (pev_tup (pav_cons (pev_tup (pav_cons (pev_int) (pav_cons (pev_int) (pav_cons (pev_int) (pav_cons (pev_int) (pav_nil)))))) (pav_cons (pev_tup (pav_cons (pev_int) (pav_cons (pev_int) (pav_cons (pev_int) (pav_cons (pev_int) (pav_nil)))))) (pav_nil)))) (pav_cons (pev_tup (pav_cons (pev_tup (pav_cons (pev_int) (pav_cons (pev_int) (pav_cons (pev_int) (pav_cons (pev_int) (pav_nil)))))) (pav_cons (pev_tup (pav_cons (pev_int) (pav_cons (pev_int) (pav_cons (pev_int) (pav_cons (pev_int) (pav_nil)))))) (pav_nil)))) (pav_nil)))) (pgv_tup o.calm (pgsv_cons (pgv_name o.nd 10) (pgsv_cons (pgv_name o.nd 11) (pgsv_nil))))) (pbv_cons (psv_setLc o 9 [("sheet", 12)] (piv_tup (pev_tup (pav_cons (pev_tup (pav_cons (pev_str) (pav_cons (pev_int) (pav_cons (pev_int) (pav_cons (pev_int) (pav_cons (pev_int) (pav_nil))))))) (pav_cons (pev_tup (pav_cons (pev_str) (pav_cons (pev_int) (pav_cons (pev_int) (pav_cons (pev_int) (pav_cons (pev_int) (pav_nil))))))) (pav_cons (pev_tup (pav_cons (pev_str) (pav_nil))) (pav_nil)))))) (blkOk_by (N := n_law) (sc := defScope s_law) (by decide +kernel)) (fun s H C cl fp => pgv_name sc_law.nd 12) (fun s H C cl fp o => ptsv_nil) (fun s H C cl fp o => pev_call o (fn__law_heard T) (by decide) (pav_cons (pev_var 3) (pav_cons (pev_var 4) (pav_cons (pev_var 10) (pav_cons (pev_var 12) (pav_nil))))))) (pbv_cons (psv_set o 9 (pev_add (pev_var 9) (pev_lst (pav_cons (pev_call o (fn__law_heard T) (by decide) (pav_cons (pev_var 3) (pav_cons (pev_var 4) (pav_cons (pev_var 10) (pav_cons (pev_tup (pav_cons (pev_str) (pav_cons (pev_int) (pav_cons (pev_bl) (pav_cons (pev_int) (pav_cons (pev_int) (pav_nil))))))) (pav_nil)))))) (pav_cons (pev_call o (fn__law_heard T) (by decide) (pav_cons (pev_var 3) (pav_cons (pev_var 4) (pav_cons (pev_var 11) (pav_cons (pev_tup (pav_cons (pev_str) (pav_nil))) (pav_nil)))))) (pav_nil)))))) (pbv_cons (psv_set o 9 (pev_add (pev_var 9) (pev_lst (pav_cons (pev_call o (fn__law_heard T) (by decide) (pav_cons (pev_var 3) (pav_cons (pev_var 4) (pav_cons (pev_var 11) (pav_cons (pev_tup (pav_cons (pev_str) (pav_nil))) (pav_nil)))))) (pav_cons (pev_call o (fn__law_heard T) (by decide) (pav_cons (pev_var 3) (pav_cons (pev_var 4) (pav_cons (pev_var 11) (pav_cons (pev_tup (pav_cons (pev_str) (pav_nil))) (pav_nil)))))) (pav_nil)))))) (pbv_one (psv_ret (pev_eq o (pev_var 9) (pev_lst (pav_cons (pev_lst (pav_cons (pev_str) (pav_nil))) (pav_cons (pev_str) (pav_cons (pev_str) (pav_cons (pev_str) (pav_cons (pev_lst (pav_cons (pev_str) (pav_nil))) (pav_cons (pev_lst (pav_cons (pev_str) (pav_nil))) (pav_cons (pev_lst (pav_cons (pev_str) (pav_nil))) (pav_nil))))))))))))))))))
theorem raw_law {P : Program} {w : World} {G : Cg} {base : Heap} (T : Top w G) : Fn P w G base "law" 9 1 R_law := fn_raw (N := n_law) T.d_law sc_law (b_law T)

abbrev F_law := R_law
theorem fn_law {P : Program} {w : World} {G : Cg} {base : Heap} (T : Top w G) : Fn P w G base "law" 9 1 F_law := raw_law T

end
theorem lefts_go (st : Sto) (env : En) (he : env.length = 3) : ∀ (ds : List Int) (acc : List D), acc.length + ds.length < 1000 → ∃ ls : List Int, ls.length = ds.length ∧ lcGo (.nm 2) dYes E__law_begin_0 env (ds.map .int) st acc = .ok (acc ++ ls.map .int) st
  | [], acc, _ => ⟨[], rfl, by simp [lcGo]⟩
  | d :: ds, acc, h => by
    obtain ⟨e0, e1, e2, rfl⟩ : ∃ a b c, env = [a, b, c] := by
      match env, he with
      | [a, b, c], _ => exact ⟨a, b, c, rfl⟩
    have p18 : ∀ st, oPow (.int 10) (.int 18) st = .ok (.int (10 ^ 18)) st := fun _ => rfl
    have hz : acc.length < sizeLine := by rw [sizeLine_eq]; simp at h; omega
    simp at h
    by_cases hd : (10 : Int) ^ 18 ≤ d
    · obtain ⟨ls, h1, h2⟩ := lefts_go st [e0, e1, e2] he ds (acc ++ [.int d]) (by simp; omega)
      refine ⟨d :: ls, by simp [h1], ?_⟩
      have hx : E__law_begin_0 [e0, e1, some (.int d)] st = .ok (.int d) st := by simp only [E__law_begin_0, dFn, tupIt_t, tupIt_shr, tupIt_cst, tupIt_cstR, lstIt_l, lstIt_f, lstIt_pls, sSeq, sSet, sNew, mkL, mkM, sApp, sExt, sSto, dOw2, dOw1, dOwR, dOwG2, dOwG1, ownV, sFrz, frzE, nLst, nCat, nLc, nList, nRep, mNew, pl_non, pl_bl, pl_int, pl_str, pl_tup, pl_lst, pl_fls, pl_dic, pl_ptr, pl_fr, pl_shP, pl_shr, pl_cst, pl_cstR, pl_plD, pl_plsD, sPar, sRet, sRetN, sIf, sNil, sExpr, evL, dCall, dCallF, dVar, dC, dOp1, dOp2, dTst, dTru, tru, dNotT, dAndT, dOrT, dAndV, dOrV, dNotV, dIf, List.map_cons, List.map_nil, List.length_cons, List.length_nil, Nat.sub_self, Nat.reduceAdd, Nat.reduceSub, List.replicate_zero, List.reduceReplicate, List.append_nil, List.cons_append, List.nil_append, List.getElem?_cons_succ, List.getElem?_cons_zero, Out.bind_ok, Out.to_ok, List.set_cons_zero, List.set_cons_succ, if_true, if_false, Bool.not_false, Bool.not_true, Bool.false_eq_true, Bool.true_eq_false, reduceIte, if_pos, p18, oCmp, hd, decide_true]
      simp only [List.map_cons, lcGo, Pat.set, dYes, List.set_cons_succ, List.set_cons_zero, hx, hz, if_true, h2]
      simp
    · obtain ⟨ls, h1, h2⟩ := lefts_go st [e0, e1, e2] he ds (acc ++ [.int 0]) (by simp; omega)
      refine ⟨0 :: ls, by simp [h1], ?_⟩
      have hx : E__law_begin_0 [e0, e1, some (.int d)] st = .ok (.int 0) st := by simp only [E__law_begin_0, dFn, tupIt_t, tupIt_shr, tupIt_cst, tupIt_cstR, lstIt_l, lstIt_f, lstIt_pls, sSeq, sSet, sNew, mkL, mkM, sApp, sExt, sSto, dOw2, dOw1, dOwR, dOwG2, dOwG1, ownV, sFrz, frzE, nLst, nCat, nLc, nList, nRep, mNew, pl_non, pl_bl, pl_int, pl_str, pl_tup, pl_lst, pl_fls, pl_dic, pl_ptr, pl_fr, pl_shP, pl_shr, pl_cst, pl_cstR, pl_plD, pl_plsD, sPar, sRet, sRetN, sIf, sNil, sExpr, evL, dCall, dCallF, dVar, dC, dOp1, dOp2, dTst, dTru, tru, dNotT, dAndT, dOrT, dAndV, dOrV, dNotV, dIf, List.map_cons, List.map_nil, List.length_cons, List.length_nil, Nat.sub_self, Nat.reduceAdd, Nat.reduceSub, List.replicate_zero, List.reduceReplicate, List.append_nil, List.cons_append, List.nil_append, List.getElem?_cons_succ, List.getElem?_cons_zero, Out.bind_ok, Out.to_ok, List.set_cons_zero, List.set_cons_succ, if_true, if_false, Bool.not_false, Bool.not_true, Bool.false_eq_true, Bool.true_eq_false, reduceIte, if_pos, p18, oCmp, hd, decide_false]
      simp only [List.map_cons, lcGo, Pat.set, dYes, List.set_cons_succ, List.set_cons_zero, hx, hz, if_true, h2]
      simp
theorem ev_law_begin (ns : List Int) (hl : ns.length ≤ 63) : ∃ cs st, Dr cs 0 st [] ∧ F__law_begin [.fls (ns.map .int)] [] = .ok (.ptr 1) st := by
  by_cases hn : ns = []
  · subst hn
    exact ⟨[0], _, ⟨by simp, [0], rfl, rfl⟩, rfl⟩
  · obtain ⟨ls, h1, h2⟩ := lefts_go [] [some (.fls (ns.map .int)), some (.lst (ns.map .int)), none] rfl ns [] (by simp; omega)
    refine ⟨ns, stt ns ls 0 ++ [], ⟨hn, ls, h1, rfl⟩, ?_⟩
    have hw : wipeE [some (D.fls (ns.map .int)), some (.lst (ns.map .int)), none] [2] = [some (.fls (ns.map .int)), some (.lst (ns.map .int)), none] := rfl
    have hlst : ∀ st, bList [.fls (ns.map .int)] st = .ok (.lst (ns.map .int)) st := fun _ => rfl
    have hnil : ∀ st, oLst [] st = .ok (.lst []) st := fun _ => rfl
    have hmk : ∀ a b c d, mkDic [(.str "cells", a), (.str "lefts", b), (.str "at", c), (.str "room", d)] [] [] = some (kks, [a, b, c, d]) := fun _ _ _ _ => rfl
    have hemp : ns.isEmpty = false := by simpa using hn
    have h15 : (4 : Nat) ≤ 15 := by decide
    simp only [R__law_begin, T__law_begin, dFn, tupIt_t, tupIt_shr, tupIt_cst, tupIt_cstR, lstIt_l, lstIt_f, lstIt_pls, sSeq, sSet, sNew, mkL, mkM, sApp, sExt, sSto, dOw2, dOw1, dOwR, dOwG2, dOwG1, ownV, sFrz, frzE, nLst, nCat, nLc, nList, nRep, mNew, pl_non, pl_bl, pl_int, pl_str, pl_tup, pl_lst, pl_fls, pl_dic, pl_ptr, pl_fr, pl_shP, pl_shr, pl_cst, pl_cstR, pl_plD, pl_plsD, sPar, sRet, sRetN, sIf, sNil, sExpr, evL, dCall, dCallF, dVar, dC, dOp1, dOp2, dTst, dTru, tru, dNotT, dAndT, dOrT, dAndV, dOrV, dNotV, dIf, List.map_cons, List.map_nil, List.length_cons, List.length_nil, Nat.sub_self, Nat.reduceAdd, Nat.reduceSub, List.replicate_zero, List.reduceReplicate, List.append_nil, List.cons_append, List.nil_append, List.getElem?_cons_succ, List.getElem?_cons_zero, Out.bind_ok, Out.to_ok, List.set_cons_zero, List.set_cons_succ, if_true, if_false, Bool.not_false, Bool.not_true, Bool.false_eq_true, Bool.true_eq_false, reduceIte, if_pos, hnil, oNe_nil, hemp, hlst, dDicP, evP, dLcP, dItL, hw, h2, hmk, h15]
    rfl

theorem ev_law_mixed (c k : Int) (st : Sto) (hk : Sm 64 k) : F__law_mixed [.int c, .int k] st = .ok (.int (mixI c k)) st := by
  have h1 : Sm 31 (c % 2147483647) := Sm.mod c (by decide) (by decide)
  have h2 : Sm 66 (2 * k) := (show Sm 2 2 by decide).mul hk
  have h3 : Sm 130 (2 * k * k) := h2.mul hk
  have h4 : Sm 131 (48271 + 2 * k * k) := ((show Sm 17 48271 by decide).mono (by decide)).add h3
  have h5 : Sm 31 ((c % 2147483647 * (48271 + 2 * k * k) + 69621 * k + 11) % 2147483647) := Sm.mod _ (by decide) (by decide)
  simp only [R__law_mixed, T__law_mixed, dFn, tupIt_t, tupIt_shr, tupIt_cst, tupIt_cstR, lstIt_l, lstIt_f, lstIt_pls, sSeq, sSet, sNew, mkL, mkM, sApp, sExt, sSto, dOw2, dOw1, dOwR, dOwG2, dOwG1, ownV, sFrz, frzE, nLst, nCat, nLc, nList, nRep, mNew, pl_non, pl_bl, pl_int, pl_str, pl_tup, pl_lst, pl_fls, pl_dic, pl_ptr, pl_fr, pl_shP, pl_shr, pl_cst, pl_cstR, pl_plD, pl_plsD, sPar, sRet, sRetN, sIf, sNil, sExpr, evL, dCall, dCallF, dVar, dC, dOp1, dOp2, dTst, dTru, tru, dNotT, dAndT, dOrT, dAndV, dOrV, dNotV, dIf, List.map_cons, List.map_nil, List.length_cons, List.length_nil, Nat.sub_self, Nat.reduceAdd, Nat.reduceSub, List.replicate_zero, List.reduceReplicate, List.append_nil, List.cons_append, List.nil_append, List.getElem?_cons_succ, List.getElem?_cons_zero, Out.bind_ok, Out.to_ok, List.set_cons_zero, List.set_cons_succ, if_true, if_false, Bool.not_false, Bool.not_true, Bool.false_eq_true, Bool.true_eq_false, reduceIte, if_pos, bInt, oMod_pos (show (0 : Int) < 2147483647 by decide), oMod_pos (show (0 : Int) < 2147483629 by decide), oMul_sm (show Sm 2 2 by decide) hk, oMul_sm h2 hk, oAdd, oMul_sm h1 h4, oMul_sm (show Sm 17 69621 by decide) hk, oMul_sm h5 (show Sm 17 69621 by decide)]
  rfl

theorem ev_law_draw {cs ls : List Int} {a : Nat} {m : Int} {r : Sto} (h0 : cs ≠ []) (hl : ls.length = cs.length) (ha : Sm 60 a) (hm : 0 < m) (hs : Sm 100 m) :
    ∃ (x : Int) (ls' : List Int), 0 ≤ x ∧ x < m ∧ ls'.length = cs.length ∧ F__law_draw [.ptr 1, .int m] (stt cs ls a ++ r) = .ok (.int x) (stt cs ls' ((a + 1 : Nat) : Int) ++ r) := by
  have hc : 0 < cs.length := List.length_pos_iff.mpr h0
  have hc' : (0 : Int) < (cs.length : Int) := by omega
  have hi : a % cs.length < cs.length := Nat.mod_lt _ hc
  have hi' : a % cs.length < ls.length := by omega
  have e1 : (a : Int) % (cs.length : Int) = ((a % cs.length : Nat) : Int) := by omega
  have e2 : (a : Int) + 1 = ((a + 1 : Nat) : Int) := by omega
  by_cases hp : 0 < ls[a % cs.length]
  · refine ⟨ls[a % cs.length] % m, ls.set (a % cs.length) (ls[a % cs.length] / m), Int.emod_nonneg _ (by omega), Int.emod_lt_of_pos _ hm, by simpa using hl, ?_⟩
    simp only [R__law_draw, T__law_draw, dFn, tupIt_t, tupIt_shr, tupIt_cst, tupIt_cstR, lstIt_l, lstIt_f, lstIt_pls, sSeq, sSet, sNew, mkL, mkM, sApp, sExt, sSto, dOw2, dOw1, dOwR, dOwG2, dOwG1, ownV, sFrz, frzE, nLst, nCat, nLc, nList, nRep, mNew, pl_non, pl_bl, pl_int, pl_str, pl_tup, pl_lst, pl_fls, pl_dic, pl_ptr, pl_fr, pl_shP, pl_shr, pl_cst, pl_cstR, pl_plD, pl_plsD, sPar, sRet, sRetN, sIf, sNil, sExpr, evL, dCall, dCallF, dVar, dC, dOp1, dOp2, dTst, dTru, tru, dNotT, dAndT, dOrT, dAndV, dOrV, dNotV, dIf, List.map_cons, List.map_nil, List.length_cons, List.length_nil, Nat.sub_self, Nat.reduceAdd, Nat.reduceSub, List.replicate_zero, List.reduceReplicate, List.append_nil, List.cons_append, List.nil_append, List.getElem?_cons_succ, List.getElem?_cons_zero, Out.bind_ok, Out.to_ok, List.set_cons_zero, List.set_cons_succ, if_true, if_false, Bool.not_false, Bool.not_true, Bool.false_eq_true, Bool.true_eq_false, reduceIte, if_pos, sStore, x_at, oAdd, s_at, Option.map_some, bInt, x_cells, b_len, oMod_pos hc', e1, e2, x_lefts, x_left _ _ _ _ _ hi', oCmp, hp, decide_true, oFdiv_sm hm hs, s_left _ _ _ _ _ _ hi', oMod_pos hm]
  · have k1 : Sm 64 (a : Int) := ha.mono (by decide)
    have k2 : Sm 64 (40 + (a : Int)) := (((show Sm 60 40 by decide)).add ha).mono (by decide)
    have k3 : Sm 64 (7 + (a : Int)) := (((show Sm 60 7 by decide)).add ha).mono (by decide)
    refine ⟨(mixI (mixI cs[a % cs.length] a) (40 + a) * 2147483647 + mixI (mixI (mixI cs[a % cs.length] a) (40 + a)) (7 + a)) / 64 % m, ls, Int.emod_nonneg _ (by omega), Int.emod_lt_of_pos _ hm, hl, ?_⟩
    simp only [R__law_draw, T__law_draw, dFn, tupIt_t, tupIt_shr, tupIt_cst, tupIt_cstR, lstIt_l, lstIt_f, lstIt_pls, sSeq, sSet, sNew, mkL, mkM, sApp, sExt, sSto, dOw2, dOw1, dOwR, dOwG2, dOwG1, ownV, sFrz, frzE, nLst, nCat, nLc, nList, nRep, mNew, pl_non, pl_bl, pl_int, pl_str, pl_tup, pl_lst, pl_fls, pl_dic, pl_ptr, pl_fr, pl_shP, pl_shr, pl_cst, pl_cstR, pl_plD, pl_plsD, sPar, sRet, sRetN, sIf, sNil, sExpr, evL, dCall, dCallF, dVar, dC, dOp1, dOp2, dTst, dTru, tru, dNotT, dAndT, dOrT, dAndV, dOrV, dNotV, dIf, List.map_cons, List.map_nil, List.length_cons, List.length_nil, Nat.sub_self, Nat.reduceAdd, Nat.reduceSub, List.replicate_zero, List.reduceReplicate, List.append_nil, List.cons_append, List.nil_append, List.getElem?_cons_succ, List.getElem?_cons_zero, Out.bind_ok, Out.to_ok, List.set_cons_zero, List.set_cons_succ, if_true, if_false, Bool.not_false, Bool.not_true, Bool.false_eq_true, Bool.true_eq_false, reduceIte, if_pos, sStore, x_at, oAdd, s_at, Option.map_some, bInt, x_cells, b_len, oMod_pos hc', e1, e2, x_lefts, x_left _ _ _ _ _ hi', oCmp, hp, decide_false, x_cell _ _ _ hi, ev_law_mixed _ _ _ k1, ev_law_mixed _ _ _ k2, ev_law_mixed _ _ _ k3, oMul_sm (mixI_sm _ _) (show Sm 31 2147483647 by decide), oFdiv_sm (show (0 : Int) < 64 by decide) (show Sm 7 64 by decide), oMod_pos hm]
theorem drw {cs : List Int} {a : Nat} {st r : Sto} (d : Dr cs a st r) (m : Int) (hm : 0 < m := by decide) (hs : Sm 100 m := by decide) (ha : a < 2 ^ 60 := by omega) :
    ∃ (x : Int) (st' : Sto), 0 ≤ x ∧ x < m ∧ Dr cs (a + 1) st' r ∧ F__law_draw [.ptr 1, .int m] st = .ok (.int x) st' := by
  obtain ⟨h0, ls, hl, rfl⟩ := d
  obtain ⟨x, ls', h1, h2, h3, h4⟩ := ev_law_draw (r := r) h0 hl (show Sm 60 a by unfold Sm; simpa using ha) hm hs
  exact ⟨x, _, h1, h2, ⟨h0, ls', h3, rfl⟩, h4⟩

theorem toPys_cst : ∀ rows : List (List Int), toPys (rows.map cstR) = some (rows.map fun r => PyData.tuple (r.map PyData.int))
  | [] => rfl
  | r :: rs => by
    rw [List.map_cons, toPys, toPys_cst rs]
    simp only [cstR, toPy, toPys_ints, Option.map_some, List.map_cons]
def clamp9 (y : Int) : Int := if (if y < 900 then y else 900) > -900 then (if y < 900 then y else 900) else -900
theorem clamp9_b (y : Int) : -900 ≤ clamp9 y ∧ clamp9 y ≤ 900 := by
  unfold clamp9; split <;> split <;> omega
theorem cost_cell {cs : List Int} {a : Nat} {st r : Sto} (d : Dr cs a st r) (ha : a < 2 ^ 50) {way sg near far : Int} (hw : 0 ≤ way ∧ way < 5) (hs : sg = 1 ∨ sg = -1) (hn : -100 ≤ near ∧ near ≤ 100) (hf : -100 ≤ far ∧ far ≤ 100) (e1 e2 e5 e7 e10 e11 e12 e13 : Option D) (row : List D) (hr : row.length < 1000) :
    ∃ (c : Int) (st' : Sto) (e11' : Option D), -900 ≤ c ∧ c ≤ 900 ∧ Dr cs (a + 1) st' r ∧ B__law_costs_0 [some (.ptr 1), e1, e2, some (.int way), some (.int sg), e5, some (.int near), e7, some (.ol row), some (.int far), e10, e11, e12, e13] st =
      some (.nx [some (.ptr 1), e1, e2, some (.int way), some (.int sg), e5, some (.int near), e7, some (.ol (row ++ [.int c])), some (.int far), e10, e11', e12, e13], st') := by
  obtain ⟨x, st1, x0, x1, d1, q1⟩ := drw d 19
  have s1 : Sm 2 sg := by unfold Sm; omega
  have s2 : Sm 7 near := by unfold Sm; omega
  have s3 : Sm 7 far := by unfold Sm; omega
  have s4 := s1.mul s2
  have s5 := s4.mul s3
  have sa : Sm 7 (if far < 0 then -far else far) := by unfold Sm; split <;> omega
  have ol5 : ∀ (a b c d e : D) st, oLst [a, b, c, d, e] st = .ok (.lst [a, b, c, d, e]) st := fun _ _ _ _ _ _ => rfl
  have hz : row.length < sizeLine := by rw [sizeLine_eq]; omega
  have key : ∃ y : Int, oIx (.lst [.int (x - 9), .int (sg * near * far * far / 2), .int (sg * near * (if far < 0 then -far else far)), .int (near * far), .int 3]) (.int way) st1 = .ok (.int y) st1 := by
    have : way = 0 ∨ way = 1 ∨ way = 2 ∨ way = 3 ∨ way = 4 := by omega
    rcases this with rfl | rfl | rfl | rfl | rfl
    · exact ⟨_, rfl⟩
    · exact ⟨_, rfl⟩
    · exact ⟨_, rfl⟩
    · exact ⟨_, rfl⟩
    · exact ⟨_, rfl⟩
  obtain ⟨y, hy⟩ := key
  refine ⟨clamp9 y, st1, some (.lst [.int (x - 9), .int (sg * near * far * far / 2), .int (sg * near * (if far < 0 then -far else far)), .int (near * far), .int 3]), (clamp9_b y).1, (clamp9_b y).2, d1, ?_⟩
  simp only [B__law_costs_0, dFn, tupIt_t, tupIt_shr, tupIt_cst, tupIt_cstR, lstIt_l, lstIt_f, lstIt_pls, sSeq, sSet, sNew, mkL, mkM, sApp, sExt, sSto, dOw2, dOw1, dOwR, dOwG2, dOwG1, ownV, sFrz, frzE, nLst, nCat, nLc, nList, nRep, mNew, pl_non, pl_bl, pl_int, pl_str, pl_tup, pl_lst, pl_fls, pl_dic, pl_ptr, pl_fr, pl_shP, pl_shr, pl_cst, pl_cstR, pl_plD, pl_plsD, sPar, sRet, sRetN, sIf, sNil, sExpr, evL, dCall, dCallF, dVar, dC, dOp1, dOp2, dTst, dTru, tru, dNotT, dAndT, dOrT, dAndV, dOrV, dNotV, dIf, List.map_cons, List.map_nil, List.length_cons, List.length_nil, Nat.sub_self, Nat.reduceAdd, Nat.reduceSub, List.replicate_zero, List.reduceReplicate, List.append_nil, List.cons_append, List.nil_append, List.getElem?_cons_succ, List.getElem?_cons_zero, Out.bind_ok, Out.to_ok, List.set_cons_zero, List.set_cons_succ, if_true, if_false, Bool.not_false, Bool.not_true, Bool.false_eq_true, Bool.true_eq_false, reduceIte, if_pos, q1, oSub, oMul_sm s1 s2, oMul_sm s4 s3, oMul_sm s5 s3, oFdiv_sm (show (0 : Int) < 2 by decide) (show Sm 2 2 by decide), bAbs, oMul_sm s4 sa, oMul_sm s2 s3, ol5, oNeg, hy, bMin, bMax, hz]
  rfl
theorem cost_row {cs : List Int} {a : Nat} {st r : Sto} (d : Dr cs a st r) (ha : a < 2 ^ 49) {way sg near : Int} (hw : 0 ≤ way ∧ way < 5) (hs : sg = 1 ∨ sg = -1) (hn : -100 ≤ near ∧ near ≤ 100) {other : List (Int × Rat)} (h2 : Shr other) (e1 e7 e8 e9 e10 e11 e12 e13 : Option D) (found : List D) (hr : found.length < 1000) :
    ∃ (row : List Int) (st' : Sto) (e8' e9' e10' e11' : Option D), row.length = other.length ∧ (∀ c ∈ row, -900 ≤ c ∧ c ≤ 900) ∧ Dr cs (a + other.length) st' r ∧ B__law_costs_1 [some (.ptr 1), e1, some (shr other), some (.int way), some (.int sg), some (.ol found), some (.int near), e7, e8, e9, e10, e11, e12, e13] st =
      some (.nx [some (.ptr 1), e1, some (shr other), some (.int way), some (.int sg), some (.ol (found ++ [cstR row])), some (.int near), e7, e8', e9', e10', e11', e12, e13], st') := by
  have hf := h2.few
  obtain ⟨env', st', ⟨row, c9, c10, c11, rfl, hrl, hrb, dr⟩, hl⟩ := fLoop_inv (t := .tp [.nm 9, .nm 10]) (B := B__law_costs_0) (fun k env s => ∃ (row : List Int) (c9 c10 c11 : Option D), env = [some (.ptr 1), e1, some (shr other), some (.int way), some (.int sg), some (.ol found), some (.int near), e7, some (.ol (row.map .int)), c9, c10, c11, e12, e13] ∧ row.length = k ∧ (∀ c ∈ row, -900 ≤ c ∧ c ≤ 900) ∧ Dr cs (a + k) s r)
    (other.map shP) 0 [some (.ptr 1), e1, some (shr other), some (.int way), some (.int sg), some (.ol found), some (.int near), e7, some (.ol []), e9, e10, e11, e12, e13] st ⟨[], e9, e10, e11, rfl, rfl, by simp, d⟩ fun j dd hd env s ⟨row, c9, c10, c11, he, hrl, hrb, dr⟩ => by
      subst he
      have hj : j < other.length := by have := (List.getElem?_eq_some_iff.mp hd).1; simpa using this
      obtain ⟨p, hp, rfl⟩ := List.mem_map.mp (List.mem_of_getElem? hd)
      obtain ⟨c, s2, c11', b1, b2, d2, hb⟩ := cost_cell dr (by omega) hw hs hn (h2.num p hp) e1 (some (shr other)) (some (.ol found)) e7 (some (fr p.2)) c11 e12 e13 (row.map .int) (by simp; omega)
      refine ⟨_, _, s2, rfl, hb, row ++ [c], some (.int p.1), some (fr p.2), c11', by simp, by simp [hrl], fun x hx => ?_, by rw [show a + (0 + j + 1) = a + (0 + j) + 1 by omega]; exact d2⟩
      rcases List.mem_append.mp hx with hx | hx
      · exact hrb x hx
      · simp at hx; subst hx; exact ⟨b1, b2⟩
  rw [Nat.zero_add, List.length_map] at hrl dr
  refine ⟨row, st', some (.lst (row.map .int)), c9, c10, c11, hrl, hrb, dr, ?_⟩
  have ht : ∀ st, bTuple [.lst (row.map .int)] st = .ok (cstR row) st := fun _ => rfl
  have hz : found.length < sizeLine := by rw [sizeLine_eq]; omega
  simp only [B__law_costs_1, dFn, tupIt_t, tupIt_shr, tupIt_cst, tupIt_cstR, lstIt_l, lstIt_f, lstIt_pls, sSeq, sSet, sNew, mkL, mkM, sApp, sExt, sSto, dOw2, dOw1, dOwR, dOwG2, dOwG1, ownV, sFrz, frzE, nLst, nCat, nLc, nList, nRep, mNew, pl_non, pl_bl, pl_int, pl_str, pl_tup, pl_lst, pl_fls, pl_dic, pl_ptr, pl_fr, pl_shP, pl_shr, pl_cst, pl_cstR, pl_plD, pl_plsD, sPar, sRet, sRetN, sIf, sNil, sExpr, evL, dCall, dCallF, dVar, dC, dOp1, dOp2, dTst, dTru, tru, dNotT, dAndT, dOrT, dAndV, dOrV, dNotV, dIf, List.map_cons, List.map_nil, List.length_cons, List.length_nil, Nat.sub_self, Nat.reduceAdd, Nat.reduceSub, List.replicate_zero, List.reduceReplicate, List.append_nil, List.cons_append, List.nil_append, List.getElem?_cons_succ, List.getElem?_cons_zero, Out.bind_ok, Out.to_ok, List.set_cons_zero, List.set_cons_succ, if_true, if_false, Bool.not_false, Bool.not_true, Bool.false_eq_true, Bool.true_eq_false, reduceIte, if_pos, Nat.zero_le, sFor, dItT, hl, ht, hz]
theorem cst_set {n m : Nat} {rows : List (List Int)} (h : Cst n m rows) {i : Nat} {r : List Int} (hl : r.length = m) (hb : ∀ c ∈ r, -1000 ≤ c ∧ c ≤ 1000) : Cst n m (rows.set i r) := by
  refine ⟨by rw [List.length_set]; exact h.len, fun x hx => ?_, fun x hx => ?_⟩
  · rcases List.mem_or_eq_of_mem_set hx with hx | rfl
    · exact h.row x hx
    · exact hl
  · rcases List.mem_or_eq_of_mem_set hx with hx | rfl
    · exact h.sm x hx
    · exact hb
theorem ev_law_costs {cs : List Int} {a : Nat} {st r : Sto} (d : Dr cs a st r) (ha : a < 2 ^ 40) {one other : List (Int × Rat)} (h1 : Shr one) (h2 : Shr other) (hp : 0 < other.length) :
    ∃ (rows : List (List Int)) (st' : Sto) (a' : Nat), Cst one.length other.length rows ∧ a' ≤ a + 70 ∧ Dr cs a' st' r ∧ F__law_costs [.ptr 1, shr one, shr other] st = .ok (cst rows) st' := by
  have hf := h2.few
  have hf1 := h1.few
  obtain ⟨way, st1, w0, w1, d1, q1⟩ := drw d 5
  obtain ⟨y, st2, y0, y1, d2, q2⟩ := drw d1 2
  have ol2 : ∀ (a b : D) st, oLst [a, b] st = .ok (.lst [a, b]) st := fun _ _ _ => rfl
  have key : ∃ sg : Int, (sg = 1 ∨ sg = -1) ∧ oIx (.lst [.int 1, .int (-1)]) (.int y) st2 = .ok (.int sg) st2 := by
    have : y = 0 ∨ y = 1 := by omega
    rcases this with rfl | rfl
    · exact ⟨1, .inl rfl, rfl⟩
    · exact ⟨-1, .inr rfl, rfl⟩
  obtain ⟨sg, hsg, qs⟩ := key
  obtain ⟨env', st3, ⟨rows, b, c6, c7, c8, c9, c10, c11, rfl, hrl, hrr, hrb, hb, dr⟩, hl⟩ := fLoop_inv (t := .tp [.nm 6, .nm 7]) (B := B__law_costs_1) (fun k env s => ∃ (rows : List (List Int)) (b : Nat) (c6 c7 c8 c9 c10 c11 : Option D), env = [some (.ptr 1), some (shr one), some (shr other), some (.int way), some (.int sg), some (.ol (rows.map cstR)), c6, c7, c8, c9, c10, c11, none, none] ∧ rows.length = k ∧ (∀ r ∈ rows, r.length = other.length) ∧ (∀ r ∈ rows, ∀ c ∈ r, -900 ≤ c ∧ c ≤ 900) ∧ b ≤ a + 2 + 8 * k ∧ Dr cs b s r)
    (one.map shP) 0 [some (.ptr 1), some (shr one), some (shr other), some (.int way), some (.int sg), some (.ol []), none, none, none, none, none, none, none, none] st2 ⟨[], a + 2, none, none, none, none, none, none, rfl, rfl, by simp, by simp, by omega, d2⟩ fun j dd hd env s ⟨rows, b, c6, c7, c8, c9, c10, c11, he, hrl, hrr, hrb, hb, dr⟩ => by
      subst he
      have hj : j < one.length := by have := (List.getElem?_eq_some_iff.mp hd).1; simpa using this
      obtain ⟨p, hp, rfl⟩ := List.mem_map.mp (List.mem_of_getElem? hd)
      obtain ⟨row, s2, c8', c9', c10', c11', g1, g2, g3, hbd⟩ := cost_row dr (by omega) ⟨w0, w1⟩ hsg (h1.num p hp) h2 (some (shr one)) (some (fr p.2)) c8 c9 c10 c11 none none (rows.map cstR) (by simp; omega)
      refine ⟨_, _, s2, rfl, hbd, rows ++ [row], b + other.length, some (.int p.1), some (fr p.2), c8', c9', c10', c11', by simp, by simp [hrl], fun x hx => ?_, fun x hx => ?_, by omega, g3⟩
      · rcases List.mem_append.mp hx with hx | hx
        · exact hrr x hx
        · simp at hx; subst hx; exact g1
      · rcases List.mem_append.mp hx with hx | hx
        · exact hrb x hx
        · simp at hx; subst hx; exact g2
  rw [Nat.zero_add, List.length_map] at hrl hb
  have C : Cst one.length other.length rows := ⟨hrl, hrr, fun r hr c hc => by have := hrb r hr c hc; omega⟩
  have e0 : oLst [] st3 = .ok (.lst []) st3 := rfl
  have sh : SeqAt.shaped (.list (rows.map fun r => PyData.tuple (r.map PyData.int))) = true := by
    have h1 : PyData.canLayAll0 (rows.map fun r => PyData.tuple (r.map PyData.int)) = true := by
      clear hl C hrl hrr hrb
      induction rows with
      | nil => rfl
      | cons r rs ih => rw [List.map_cons, PyData.canLayAll0, ih, PyData.canLay0, can_ints]; rfl
    have h2 : PyData.depthAll (rows.map fun r => PyData.tuple (r.map PyData.int)) ≤ 1 := by
      clear hl C hrl hrr hrb h1
      induction rows with
      | nil => simp [PyData.depthAll]
      | cons r rs ih =>
        rw [List.map_cons, PyData.depthAll]
        have : (PyData.tuple (r.map PyData.int)).depth = 1 := by rw [PyData.depth, depth_ints]
        rw [this]; omega
    unfold SeqAt.shaped
    rw [PyData.canLay0, h1, PyData.depth, Bool.true_and]
    exact decide_eq_true (by omega)
  have ene : oEqO not (.lst (rows.map cstR)) (.lst []) st3 = .ok (.bl (!rows.isEmpty)) st3 := by
    have z : toPy (.lst (rows.map cstR)) = some (.list (rows.map fun r => PyData.tuple (r.map PyData.int))) := by simp only [toPy, toPys_cst rows, Option.map_some]
    have z2 : toPy (deref (.lst []) st3) = some (.list []) := rfl
    have z3 : SeqAt.shaped (.list []) = true := rfl
    unfold oEqO
    rw [z, z2]
    simp only [sh, z3, and_self, if_true]
    cases rows <;> rfl
  have bt : ∀ (rows : List (List Int)) st, bTuple [.lst (rows.map cstR)] st = .ok (cst rows) st := fun _ _ => rfl
  by_cases hw : way = 1
  · subst hw
    cases hem : rows.isEmpty with
    | true =>
      refine ⟨rows, st3, b, C, by omega, dr, ?_⟩
      simp only [R__law_costs, T__law_costs, dFn, tupIt_t, tupIt_shr, tupIt_cst, tupIt_cstR, lstIt_l, lstIt_f, lstIt_pls, sSeq, sSet, sNew, mkL, mkM, sApp, sExt, sSto, dOw2, dOw1, dOwR, dOwG2, dOwG1, ownV, sFrz, frzE, nLst, nCat, nLc, nList, nRep, mNew, pl_non, pl_bl, pl_int, pl_str, pl_tup, pl_lst, pl_fls, pl_dic, pl_ptr, pl_fr, pl_shP, pl_shr, pl_cst, pl_cstR, pl_plD, pl_plsD, sPar, sRet, sRetN, sIf, sNil, sExpr, evL, dCall, dCallF, dVar, dC, dOp1, dOp2, dTst, dTru, tru, dNotT, dAndT, dOrT, dAndV, dOrV, dNotV, dIf, List.map_cons, List.map_nil, List.length_cons, List.length_nil, Nat.sub_self, Nat.reduceAdd, Nat.reduceSub, List.replicate_zero, List.reduceReplicate, List.append_nil, List.cons_append, List.nil_append, List.getElem?_cons_succ, List.getElem?_cons_zero, Out.bind_ok, Out.to_ok, List.set_cons_zero, List.set_cons_succ, if_true, if_false, Bool.not_false, Bool.not_true, Bool.false_eq_true, Bool.true_eq_false, reduceIte, if_pos, sPar3, q1, ol2, oNeg, q2, qs, Nat.zero_le, sFor, dItT, hl, oEq_int, beq_self_eq_true, e0, ene, hem, bt]
    | false =>
      obtain ⟨z, st4, z0, z1, d4, q4⟩ := drw dr 2
      by_cases hz : z = 0
      · subst hz
        have hpos : 0 < rows.length := by cases rows with
          | nil => cases hem
          | cons => simp
        obtain ⟨at_, st5, a0, a1, d5, q5⟩ := drw d4 (rows.length : Int) (by omega) (by unfold Sm; omega) (by omega)
        obtain ⟨sp, st6, s0, s1, d6, q6⟩ := drw d5 (other.length : Int) (by omega) (by unfold Sm; omega) (by omega)
        obtain ⟨i, rfl⟩ := Int.eq_ofNat_of_zero_le a0
        obtain ⟨j, rfl⟩ := Int.eq_ofNat_of_zero_le s0
        have hi : i < rows.length := by omega
        have hj : j < other.length := by omega
        have hrow : (rows.getD i []).length = other.length := C.at_row (by omega)
        have ix : ∀ st, oIx (.lst (rows.map cstR)) (.int (i : Int)) st = .ok (cstR (rows.getD i [])) st := fun st => oIx_L (j := i) (by simp [hi]) rfl
        have lb : ∀ st, bLen [.lst (rows.map cstR)] st = .ok (.int rows.length) st := fun st => by simp [bLen, lenD]
        have lo : ∀ st, bLen [shr other] st = .ok (.int other.length) st := fun st => bLen_mapT _ _ _
        have c1 : ∀ xs : List D, xs.length = other.length → cutL xs none (some (j : Int)) = xs.take j := fun xs hx => by
          unfold cutL
          rw [HT.sIx_none, HT.sIx_nat, List.drop_zero, Nat.sub_zero, Nat.min_eq_left (by omega)]
        have c2 : ∀ xs : List D, xs.length = other.length → cutL xs (some ((j + 1 : Nat) : Int)) none = xs.drop (j + 1) := fun xs hx => by
          unfold cutL
          rw [HT.sIx_none, HT.sIx_nat, Nat.min_eq_left (by omega)]
          exact List.take_of_length_le (by simp)
        have hm : ((rows.getD i []).map D.int).length = other.length := by rw [List.length_map]; exact hrow
        have sl1 : ∀ st, oSl (cstR (rows.getD i [])) none (some (j : Int)) st = .ok (.tup (((rows.getD i []).map D.int).take j)) st := fun st => by
          show Out.ok (D.tup (cutL _ _ _)) st = _
          rw [c1 _ hm]
        have sl2 : ∀ st, oSl (cstR (rows.getD i [])) (some ((j : Int) + 1)) none st = .ok (.tup (((rows.getD i []).map D.int).drop (j + 1))) st := fun st => by
          show Out.ok (D.tup (cutL _ (some (((j + 1 : Nat)) : Int)) _)) st = _
          rw [c2 _ hm]
        have ot1 : ∀ (a : D) st, oTup [a] st = .ok (.tup [a]) st := fun _ _ => rfl
        have ad1 : ∀ st, oAdd (.tup (((rows.getD i []).map D.int).take j)) (.tup [.int ((rows.getD i []).getD j 0 + 7)]) st = .ok (.tup (((rows.getD i []).map D.int).take j ++ [.int ((rows.getD i []).getD j 0 + 7)])) st := fun st => by
          show (if _ then _ else _) = _
          rw [if_pos (by rw [sizeLine_eq, List.length_take, hm]; simp only [List.length_cons, List.length_nil]; omega)]
        have ad2 : ∀ st, oAdd (.tup (((rows.getD i []).map D.int).take j ++ [.int ((rows.getD i []).getD j 0 + 7)])) (.tup (((rows.getD i []).map D.int).drop (j + 1))) st = .ok (cstR ((rows.getD i []).set j ((rows.getD i []).getD j 0 + 7))) st := fun st => by
          show (if _ then _ else _) = _
          rw [if_pos (by rw [sizeLine_eq, List.length_append, List.length_take, List.length_drop, hm]; simp only [List.length_cons, List.length_nil]; omega)]
          congr 2
          rw [← List.map_take, ← List.map_drop, show [D.int ((rows.getD i []).getD j 0 + 7)] = [(rows.getD i []).getD j 0 + 7].map D.int from rfl, ← List.map_append, ← List.map_append]
          congr 1
          rw [List.set_eq_take_append_cons_drop, if_pos (by omega)]
          simp
        have ixn : ixN (rows.map cstR).length (i : Int) = some i := ixN_nat _ i (by simpa using hi)
        have add7 : ∀ (x : Int) st, oAdd (.int x) (.int 7) st = .ok (.int (x + 7)) st := fun _ _ => rfl
        have add1 : ∀ (x : Int) st, oAdd (.int x) (.int 1) st = .ok (.int (x + 1)) st := fun _ _ => rfl
        refine ⟨rows.set i ((rows.getD i []).set j ((rows.getD i []).getD j 0 + 7)), st6, b + 1 + 1 + 1, cst_set C (by rw [List.length_set]; exact hrow) (fun c hc => ?_), by omega, d6, ?_⟩
        · have hin : ∀ x ∈ rows.getD i [], -900 ≤ x ∧ x ≤ 900 := by
            rw [List.getD_eq_getElem?_getD, List.getElem?_eq_getElem hi]
            exact hrb _ (List.getElem_mem hi)
          rcases List.mem_or_eq_of_mem_set hc with hc | rfl
          · have := hin c hc; omega
          · have : (rows.getD i []).getD j 0 ∈ rows.getD i [] := by
              rw [List.getD_eq_getElem?_getD (l := rows.getD i []), List.getElem?_eq_getElem (by omega)]
              exact List.getElem_mem _
            have := hin _ this; omega
        · have ms : (rows.map cstR).set i (cstR ((rows.getD i []).set j ((rows.getD i []).getD j 0 + 7))) = (rows.set i ((rows.getD i []).set j ((rows.getD i []).getD j 0 + 7))).map cstR := by rw [List.map_set]
          simp only [R__law_costs, T__law_costs, dFn, tupIt_t, tupIt_shr, tupIt_cst, tupIt_cstR, lstIt_l, lstIt_f, lstIt_pls, sSeq, sSet, sNew, mkL, mkM, sApp, sExt, sSto, dOw2, dOw1, dOwR, dOwG2, dOwG1, ownV, sFrz, frzE, nLst, nCat, nLc, nList, nRep, mNew, pl_non, pl_bl, pl_int, pl_str, pl_tup, pl_lst, pl_fls, pl_dic, pl_ptr, pl_fr, pl_shP, pl_shr, pl_cst, pl_cstR, pl_plD, pl_plsD, sPar, sRet, sRetN, sIf, sNil, sExpr, evL, dCall, dCallF, dVar, dC, dOp1, dOp2, dTst, dTru, tru, dNotT, dAndT, dOrT, dAndV, dOrV, dNotV, dIf, List.map_cons, List.map_nil, List.length_cons, List.length_nil, Nat.sub_self, Nat.reduceAdd, Nat.reduceSub, List.replicate_zero, List.reduceReplicate, List.append_nil, List.cons_append, List.nil_append, List.getElem?_cons_succ, List.getElem?_cons_zero, Out.bind_ok, Out.to_ok, List.set_cons_zero, List.set_cons_succ, if_true, if_false, Bool.not_false, Bool.not_true, Bool.false_eq_true, Bool.true_eq_false, reduceIte, if_pos, sPar3, q1, ol2, oNeg, q2, qs, Nat.zero_le, sFor, dItT, hl, oEq_int, beq_self_eq_true, e0, ene, hem, q4, lb, q5, lo, q6, dSl, dNoP, dP, ix, sl1, sl2, oIx_row (r := rows.getD i []) (j := j) (by omega) rfl, add7, add1, ot1, ad1, ad2, ixn, ms, bt]
      · refine ⟨rows, st4, b + 1, C, by omega, d4, ?_⟩
        have hz' : (z == 0) = false := by simpa using hz
        simp only [R__law_costs, T__law_costs, dFn, tupIt_t, tupIt_shr, tupIt_cst, tupIt_cstR, lstIt_l, lstIt_f, lstIt_pls, sSeq, sSet, sNew, mkL, mkM, sApp, sExt, sSto, dOw2, dOw1, dOwR, dOwG2, dOwG1, ownV, sFrz, frzE, nLst, nCat, nLc, nList, nRep, mNew, pl_non, pl_bl, pl_int, pl_str, pl_tup, pl_lst, pl_fls, pl_dic, pl_ptr, pl_fr, pl_shP, pl_shr, pl_cst, pl_cstR, pl_plD, pl_plsD, sPar, sRet, sRetN, sIf, sNil, sExpr, evL, dCall, dCallF, dVar, dC, dOp1, dOp2, dTst, dTru, tru, dNotT, dAndT, dOrT, dAndV, dOrV, dNotV, dIf, List.map_cons, List.map_nil, List.length_cons, List.length_nil, Nat.sub_self, Nat.reduceAdd, Nat.reduceSub, List.replicate_zero, List.reduceReplicate, List.append_nil, List.cons_append, List.nil_append, List.getElem?_cons_succ, List.getElem?_cons_zero, Out.bind_ok, Out.to_ok, List.set_cons_zero, List.set_cons_succ, if_true, if_false, Bool.not_false, Bool.not_true, Bool.false_eq_true, Bool.true_eq_false, reduceIte, if_pos, sPar3, q1, ol2, oNeg, q2, qs, Nat.zero_le, sFor, dItT, hl, oEq_int, beq_self_eq_true, e0, ene, hem, q4, hz', bt]
  · have hw' : (way == 1) = false := by simpa using hw
    refine ⟨rows, st3, b, C, by omega, dr, ?_⟩
    simp only [R__law_costs, T__law_costs, dFn, tupIt_t, tupIt_shr, tupIt_cst, tupIt_cstR, lstIt_l, lstIt_f, lstIt_pls, sSeq, sSet, sNew, mkL, mkM, sApp, sExt, sSto, dOw2, dOw1, dOwR, dOwG2, dOwG1, ownV, sFrz, frzE, nLst, nCat, nLc, nList, nRep, mNew, pl_non, pl_bl, pl_int, pl_str, pl_tup, pl_lst, pl_fls, pl_dic, pl_ptr, pl_fr, pl_shP, pl_shr, pl_cst, pl_cstR, pl_plD, pl_plsD, sPar, sRet, sRetN, sIf, sNil, sExpr, evL, dCall, dCallF, dVar, dC, dOp1, dOp2, dTst, dTru, tru, dNotT, dAndT, dOrT, dAndV, dOrV, dNotV, dIf, List.map_cons, List.map_nil, List.length_cons, List.length_nil, Nat.sub_self, Nat.reduceAdd, Nat.reduceSub, List.replicate_zero, List.reduceReplicate, List.append_nil, List.cons_append, List.nil_append, List.getElem?_cons_succ, List.getElem?_cons_zero, Out.bind_ok, Out.to_ok, List.set_cons_zero, List.set_cons_succ, if_true, if_false, Bool.not_false, Bool.not_true, Bool.false_eq_true, Bool.true_eq_false, reduceIte, if_pos, sPar3, q1, ol2, oNeg, q2, qs, Nat.zero_le, sFor, dItT, hl, oEq_int, hw', bt]

theorem ev_is_integer_int (i : Int) (st : Sto) : F_is_integer [.int i] st = .ok (.bl true) st := rfl

theorem ev_is_number {i : Int} (h : -100 ≤ i ∧ i ≤ 100) (st : Sto) : F_is_number [.int i] st = .ok (.bl true) st := by
  have h1 : decide ((0 : Int) - 100 ≤ i) = true := by simp; omega
  have h2 : decide (i ≤ 100) = true := by simp; omega
  simp only [R_is_number, T_is_number, dFn, tupIt_t, tupIt_shr, tupIt_cst, tupIt_cstR, lstIt_l, lstIt_f, lstIt_pls, sSeq, sSet, sNew, mkL, mkM, sApp, sExt, sSto, dOw2, dOw1, dOwR, dOwG2, dOwG1, ownV, sFrz, frzE, nLst, nCat, nLc, nList, nRep, mNew, pl_non, pl_bl, pl_int, pl_str, pl_tup, pl_lst, pl_fls, pl_dic, pl_ptr, pl_fr, pl_shP, pl_shr, pl_cst, pl_cstR, pl_plD, pl_plsD, sPar, sRet, sRetN, sIf, sNil, sExpr, evL, dCall, dCallF, dVar, dC, dOp1, dOp2, dTst, dTru, tru, dNotT, dAndT, dOrT, dAndV, dOrV, dNotV, dIf, List.map_cons, List.map_nil, List.length_cons, List.length_nil, Nat.sub_self, Nat.reduceAdd, Nat.reduceSub, List.replicate_zero, List.reduceReplicate, List.append_nil, List.cons_append, List.nil_append, List.getElem?_cons_succ, List.getElem?_cons_zero, Out.bind_ok, Out.to_ok, List.set_cons_zero, List.set_cons_succ, if_true, if_false, Bool.not_false, Bool.not_true, Bool.false_eq_true, Bool.true_eq_false, reduceIte, if_pos, ev_is_integer_int, dChain, oSub, c_MOST_NUMBER, oCmp, h1, h2]

theorem common_loop (st : Sto) : ∀ (n x y : Nat), y < n → wLoop C_common_0 B_common_0 n [some (.int x), some (.int y)] st = some (.nx [some (.int (Nat.gcd x y)), some (.int 0)], st)
  | 0, x, y, h => by omega
  | n + 1, x, y, h => by
    rw [wLoop]
    cases y with
    | zero => simp [C_common_0, dTst, dOp2, dVar, dC, oNe_int, plainD]
    | succ y =>
      have e : ((x : Int) % ((y + 1 : Nat) : Int)) = ((x % (y + 1) : Nat) : Int) := by omega
      have hp : (0 : Int) < ((y + 1 : Nat) : Int) := by omega
      have hn : (((y + 1 : Nat) : Int) == 0) = false := by simp; omega
      have hc : C_common_0 [some (.int x), some (.int ((y + 1 : Nat) : Int))] st = .ok true st := by simp only [C_common_0, dFn, tupIt_t, tupIt_shr, tupIt_cst, tupIt_cstR, lstIt_l, lstIt_f, lstIt_pls, sSeq, sSet, sNew, mkL, mkM, sApp, sExt, sSto, dOw2, dOw1, dOwR, dOwG2, dOwG1, ownV, sFrz, frzE, nLst, nCat, nLc, nList, nRep, mNew, pl_non, pl_bl, pl_int, pl_str, pl_tup, pl_lst, pl_fls, pl_dic, pl_ptr, pl_fr, pl_shP, pl_shr, pl_cst, pl_cstR, pl_plD, pl_plsD, sPar, sRet, sRetN, sIf, sNil, sExpr, evL, dCall, dCallF, dVar, dC, dOp1, dOp2, dTst, dTru, tru, dNotT, dAndT, dOrT, dAndV, dOrV, dNotV, dIf, List.map_cons, List.map_nil, List.length_cons, List.length_nil, Nat.sub_self, Nat.reduceAdd, Nat.reduceSub, List.replicate_zero, List.reduceReplicate, List.append_nil, List.cons_append, List.nil_append, List.getElem?_cons_succ, List.getElem?_cons_zero, Out.bind_ok, Out.to_ok, List.set_cons_zero, List.set_cons_succ, if_true, if_false, Bool.not_false, Bool.not_true, Bool.false_eq_true, Bool.true_eq_false, reduceIte, if_pos, oNe_int, hn]
      have hb : B_common_0 [some (.int x), some (.int ((y + 1 : Nat) : Int))] st = some (.nx [some (.int ((y + 1 : Nat) : Int)), some (.int ((x % (y + 1) : Nat) : Int))], st) := by simp only [B_common_0, dFn, tupIt_t, tupIt_shr, tupIt_cst, tupIt_cstR, lstIt_l, lstIt_f, lstIt_pls, sSeq, sSet, sNew, mkL, mkM, sApp, sExt, sSto, dOw2, dOw1, dOwR, dOwG2, dOwG1, ownV, sFrz, frzE, nLst, nCat, nLc, nList, nRep, mNew, pl_non, pl_bl, pl_int, pl_str, pl_tup, pl_lst, pl_fls, pl_dic, pl_ptr, pl_fr, pl_shP, pl_shr, pl_cst, pl_cstR, pl_plD, pl_plsD, sPar, sRet, sRetN, sIf, sNil, sExpr, evL, dCall, dCallF, dVar, dC, dOp1, dOp2, dTst, dTru, tru, dNotT, dAndT, dOrT, dAndV, dOrV, dNotV, dIf, List.map_cons, List.map_nil, List.length_cons, List.length_nil, Nat.sub_self, Nat.reduceAdd, Nat.reduceSub, List.replicate_zero, List.reduceReplicate, List.append_nil, List.cons_append, List.nil_append, List.getElem?_cons_succ, List.getElem?_cons_zero, Out.bind_ok, Out.to_ok, List.set_cons_zero, List.set_cons_succ, if_true, if_false, Bool.not_false, Bool.not_true, Bool.false_eq_true, Bool.true_eq_false, reduceIte, if_pos, bInt, oMod_pos hp, e]
      simp only [hc, Out.to_ok, if_true, hb]
      have := Nat.mod_lt x (Nat.succ_pos y)
      rw [common_loop st n (y + 1) (x % (y + 1)) (Nat.lt_of_lt_of_le this (by omega))]
      rw [Nat.gcd_comm x, Nat.gcd_rec (y + 1) x, Nat.gcd_comm]
theorem ev_common (a b : Int) (st : Sto) : F_common [.int a, .int b] st = .ok (.int (Int.gcd a b)) st := by
  have ha : (if a < 0 then -a else a) = ((a.natAbs : Nat) : Int) := by split <;> omega
  have hb : (if b < 0 then -b else b) = ((b.natAbs : Nat) : Int) := by split <;> omega
  simp only [R_common, T_common, dFn, tupIt_t, tupIt_shr, tupIt_cst, tupIt_cstR, lstIt_l, lstIt_f, lstIt_pls, sSeq, sSet, sNew, mkL, mkM, sApp, sExt, sSto, dOw2, dOw1, dOwR, dOwG2, dOwG1, ownV, sFrz, frzE, nLst, nCat, nLc, nList, nRep, mNew, pl_non, pl_bl, pl_int, pl_str, pl_tup, pl_lst, pl_fls, pl_dic, pl_ptr, pl_fr, pl_shP, pl_shr, pl_cst, pl_cstR, pl_plD, pl_plsD, sPar, sRet, sRetN, sIf, sNil, sExpr, evL, dCall, dCallF, dVar, dC, dOp1, dOp2, dTst, dTru, tru, dNotT, dAndT, dOrT, dAndV, dOrV, dNotV, dIf, List.map_cons, List.map_nil, List.length_cons, List.length_nil, Nat.sub_self, Nat.reduceAdd, Nat.reduceSub, List.replicate_zero, List.reduceReplicate, List.append_nil, List.cons_append, List.nil_append, List.getElem?_cons_succ, List.getElem?_cons_zero, Out.bind_ok, Out.to_ok, List.set_cons_zero, List.set_cons_succ, if_true, if_false, Bool.not_false, Bool.not_true, Bool.false_eq_true, Bool.true_eq_false, reduceIte, if_pos, bAbs, ha, hb, sWhile, fuI]
  rw [common_loop st _ _ _ (by simp)]
  rfl

theorem ev_is_fraction {q : Rat} {st : Sto} : F_is_fraction [fr q] st = .ok (.bl true) st := by
  have hd : decide ((1 : Int) ≤ (q.den : Int)) = true := by have := den_pos q; simp; omega
  have hg : ((Int.gcd q.num q.den : Int) == 1) = true := by
    have := q.reduced
    simp only [Int.gcd, Int.natAbs_natCast]
    simp [Nat.Coprime] at this
    simp [this]
  have hc : lcGo (.nm 1) dYes E_is_fraction_0 (wipeE [some (fr q), none] [1]) [.int q.num, .int q.den] st [] = .ok [.bl true, .bl true] st := rfl
  have hb : bAll [.lst [.bl true, .bl true]] st = .ok (.bl true) st := rfl
  simp only [fr] at hc
  simp only [R_is_fraction, T_is_fraction, dFn, tupIt_t, tupIt_shr, tupIt_cst, tupIt_cstR, lstIt_l, lstIt_f, lstIt_pls, sSeq, sSet, sNew, mkL, mkM, sApp, sExt, sSto, dOw2, dOw1, dOwR, dOwG2, dOwG1, ownV, sFrz, frzE, nLst, nCat, nLc, nList, nRep, mNew, pl_non, pl_bl, pl_int, pl_str, pl_tup, pl_lst, pl_fls, pl_dic, pl_ptr, pl_fr, pl_shP, pl_shr, pl_cst, pl_cstR, pl_plD, pl_plsD, sPar, sRet, sRetN, sIf, sNil, sExpr, evL, dCall, dCallF, dVar, dC, dOp1, dOp2, dTst, dTru, tru, dNotT, dAndT, dOrT, dAndV, dOrV, dNotV, dIf, List.map_cons, List.map_nil, List.length_cons, List.length_nil, Nat.sub_self, Nat.reduceAdd, Nat.reduceSub, List.replicate_zero, List.reduceReplicate, List.append_nil, List.cons_append, List.nil_append, List.getElem?_cons_succ, List.getElem?_cons_zero, Out.bind_ok, Out.to_ok, List.set_cons_zero, List.set_cons_succ, if_true, if_false, Bool.not_false, Bool.not_true, Bool.false_eq_true, Bool.true_eq_false, reduceIte, if_pos, fr, oIsi, tyD, isi, decide_true, len2, oNe_int, dLc, dItT, beq_self_eq_true, hc, hb, ix0, ix1, oCmp, hd, ev_common, oEq_int, hg]

theorem ev_is_weight {q : Rat} (h : 0 < q.num) (st : Sto) : F_is_weight [fr q] st = .ok (.bl true) st := by
  simp only [R_is_weight, T_is_weight, dFn, tupIt_t, tupIt_shr, tupIt_cst, tupIt_cstR, lstIt_l, lstIt_f, lstIt_pls, sSeq, sSet, sNew, mkL, mkM, sApp, sExt, sSto, dOw2, dOw1, dOwR, dOwG2, dOwG1, ownV, sFrz, frzE, nLst, nCat, nLc, nList, nRep, mNew, pl_non, pl_bl, pl_int, pl_str, pl_tup, pl_lst, pl_fls, pl_dic, pl_ptr, pl_fr, pl_shP, pl_shr, pl_cst, pl_cstR, pl_plD, pl_plsD, sPar, sRet, sRetN, sIf, sNil, sExpr, evL, dCall, dCallF, dVar, dC, dOp1, dOp2, dTst, dTru, tru, dNotT, dAndT, dOrT, dAndV, dOrV, dNotV, dIf, List.map_cons, List.map_nil, List.length_cons, List.length_nil, Nat.sub_self, Nat.reduceAdd, Nat.reduceSub, List.replicate_zero, List.reduceReplicate, List.append_nil, List.cons_append, List.nil_append, List.getElem?_cons_succ, List.getElem?_cons_zero, Out.bind_ok, Out.to_ok, List.set_cons_zero, List.set_cons_succ, if_true, if_false, Bool.not_false, Bool.not_true, Bool.false_eq_true, Bool.true_eq_false, reduceIte, if_pos, ev_is_fraction, ix0_fr, oCmp, h, decide_true]

theorem share_body {p : Int × Rat} (h1 : -100 ≤ p.1 ∧ p.1 ≤ 100) (h2 : 0 < p.2.num) (a c d : Option D) (st : Sto) : B_is_share_0 [a, some (shP p), c, d] st = some (.nx [a, some (shP p), c, d], st) := by
  simp only [B_is_share_0, dFn, tupIt_t, tupIt_shr, tupIt_cst, tupIt_cstR, lstIt_l, lstIt_f, lstIt_pls, sSeq, sSet, sNew, mkL, mkM, sApp, sExt, sSto, dOw2, dOw1, dOwR, dOwG2, dOwG1, ownV, sFrz, frzE, nLst, nCat, nLc, nList, nRep, mNew, pl_non, pl_bl, pl_int, pl_str, pl_tup, pl_lst, pl_fls, pl_dic, pl_ptr, pl_fr, pl_shP, pl_shr, pl_cst, pl_cstR, pl_plD, pl_plsD, sPar, sRet, sRetN, sIf, sNil, sExpr, evL, dCall, dCallF, dVar, dC, dOp1, dOp2, dTst, dTru, tru, dNotT, dAndT, dOrT, dAndV, dOrV, dNotV, dIf, List.map_cons, List.map_nil, List.length_cons, List.length_nil, Nat.sub_self, Nat.reduceAdd, Nat.reduceSub, List.replicate_zero, List.reduceReplicate, List.append_nil, List.cons_append, List.nil_append, List.getElem?_cons_succ, List.getElem?_cons_zero, Out.bind_ok, Out.to_ok, List.set_cons_zero, List.set_cons_succ, if_true, if_false, Bool.not_false, Bool.not_true, Bool.false_eq_true, Bool.true_eq_false, reduceIte, if_pos, shP, oIsi, tyD, isi, decide_true, len2, oNe_int, beq_self_eq_true, ix0, ix1, ev_is_number h1, ev_is_weight h2]
theorem zip_up : ∀ (l : List (Int × Rat)), (l.Pairwise fun p q => p.1 < q.1) → ∀ d ∈ zipP (l.map shP) ((l.map shP).drop 1), ∃ p q : Int × Rat, p.1 < q.1 ∧ d = .tup [shP p, shP q]
  | [], _, d, h => by simp [zipP] at h
  | [p], _, d, h => by simp [zipP] at h
  | p :: q :: l, hp, d, h => by
    rw [List.pairwise_cons] at hp
    simp only [zipP, List.map_cons, List.drop_succ_cons, List.drop_zero, List.zip_cons_cons, List.mem_cons] at h
    rcases h with rfl | h
    · exact ⟨p, q, hp.1 q (by simp), rfl⟩
    · exact zip_up (q :: l) hp.2 d (by simpa [zipP] using h)
theorem cut_one (ds : List D) : cutL ds (some 1) none = ds.drop 1 := by
  unfold cutL
  rw [HT.sIx_none]
  have : HT.sIx ds.length 0 (some ((1 : Nat) : Int)) = min 1 ds.length := HT.sIx_nat _ _ _
  have e : HT.sIx ds.length 0 (some 1) = min 1 ds.length := this
  rw [e]
  cases ds with
  | nil => rfl
  | cons d ds => simp
theorem ev_is_share {l : List (Int × Rat)} (h : Shr l) (st : Sto) : F_is_share [shr l] st = .ok (.bl true) st := by
  have hlen : decide ((8 : Int) < (l.length : Int)) = false := by have := h.few; simp; omega
  obtain ⟨env', st', hi, hl⟩ := fLoop_inv (t := .nm 1) (B := B_is_share_0) (fun _ env s => ∃ x, env = [some (shr l), x, none, none] ∧ s = st) (l.map shP) 0 [some (shr l), none, none, none] st ⟨none, rfl, rfl⟩ fun j d hd env s ⟨x, he, hs⟩ => by
    subst he; subst hs
    obtain ⟨p, hp, rfl⟩ := List.mem_map.mp (List.mem_of_getElem? hd)
    exact ⟨_, _, _, rfl, share_body (h.num p hp) (h.pos p hp) _ _ _ _, some (shP p), rfl, rfl⟩
  obtain ⟨x, rfl, rfl⟩ := hi
  have hz : lcGo (.tp [.nm 2, .nm 3]) dYes E_is_share_0 (wipeE [some (shr l), x, none, none] [2, 3]) (zipP (l.map shP) ((l.map shP).drop 1)) st' [] = .ok ((zipP (l.map shP) ((l.map shP).drop 1)).map fun _ => .bl true) st' := by
    refine lcGo_map _ _ (fun d hd => ?_) (by rw [zipP_len, sizeLine_eq]; have := h.few; simp; omega)
    obtain ⟨p, q, hpq, rfl⟩ := zip_up l h.up d hd
    refine ⟨[some (shr l), x, some (shP p), some (shP q)], rfl, ?_⟩
    simp only [E_is_share_0, dFn, tupIt_t, tupIt_shr, tupIt_cst, tupIt_cstR, lstIt_l, lstIt_f, lstIt_pls, sSeq, sSet, sNew, mkL, mkM, sApp, sExt, sSto, dOw2, dOw1, dOwR, dOwG2, dOwG1, ownV, sFrz, frzE, nLst, nCat, nLc, nList, nRep, mNew, pl_non, pl_bl, pl_int, pl_str, pl_tup, pl_lst, pl_fls, pl_dic, pl_ptr, pl_fr, pl_shP, pl_shr, pl_cst, pl_cstR, pl_plD, pl_plsD, sPar, sRet, sRetN, sIf, sNil, sExpr, evL, dCall, dCallF, dVar, dC, dOp1, dOp2, dTst, dTru, tru, dNotT, dAndT, dOrT, dAndV, dOrV, dNotV, dIf, List.map_cons, List.map_nil, List.length_cons, List.length_nil, Nat.sub_self, Nat.reduceAdd, Nat.reduceSub, List.replicate_zero, List.reduceReplicate, List.append_nil, List.cons_append, List.nil_append, List.getElem?_cons_succ, List.getElem?_cons_zero, Out.bind_ok, Out.to_ok, List.set_cons_zero, List.set_cons_succ, if_true, if_false, Bool.not_false, Bool.not_true, Bool.false_eq_true, Bool.true_eq_false, reduceIte, if_pos, shP, ix0, oLt, hpq, decide_true]
  have hb : bAll [.lst ((zipP (l.map shP) ((l.map shP).drop 1)).map fun _ => .bl true)] st' = .ok (.bl true) st' := bAll_true (by simp)
  unfold shr at *
  simp only [R_is_share, T_is_share, dFn, tupIt_t, tupIt_shr, tupIt_cst, tupIt_cstR, lstIt_l, lstIt_f, lstIt_pls, sSeq, sSet, sNew, mkL, mkM, sApp, sExt, sSto, dOw2, dOw1, dOwR, dOwG2, dOwG1, ownV, sFrz, frzE, nLst, nCat, nLc, nList, nRep, mNew, pl_non, pl_bl, pl_int, pl_str, pl_tup, pl_lst, pl_fls, pl_dic, pl_ptr, pl_fr, pl_shP, pl_shr, pl_cst, pl_cstR, pl_plD, pl_plsD, sPar, sRet, sRetN, sIf, sNil, sExpr, evL, dCall, dCallF, dVar, dC, dOp1, dOp2, dTst, dTru, tru, dNotT, dAndT, dOrT, dAndV, dOrV, dNotV, dIf, List.map_cons, List.map_nil, List.length_cons, List.length_nil, Nat.sub_self, Nat.reduceAdd, Nat.reduceSub, List.replicate_zero, List.reduceReplicate, List.append_nil, List.cons_append, List.nil_append, List.getElem?_cons_succ, List.getElem?_cons_zero, Out.bind_ok, Out.to_ok, List.set_cons_zero, List.set_cons_succ, if_true, if_false, Bool.not_false, Bool.not_true, Bool.false_eq_true, Bool.true_eq_false, reduceIte, if_pos, oIsi, tyD, isi, decide_true, bLen_mapT, c_MOST_PAIRS, oCmp, hlen, sFor, dItT, hl, dLc, dItZ, dSl, dP, dNoP, oSl, cut_one, zipIt, hz, hb]

theorem ev_need_share {l : List (Int × Rat)} (h : Shr l) (st : Sto) : F_need_share [shr l] st = .ok (shr l) st := by
  simp only [R_need_share, T_need_share, dFn, tupIt_t, tupIt_shr, tupIt_cst, tupIt_cstR, lstIt_l, lstIt_f, lstIt_pls, sSeq, sSet, sNew, mkL, mkM, sApp, sExt, sSto, dOw2, dOw1, dOwR, dOwG2, dOwG1, ownV, sFrz, frzE, nLst, nCat, nLc, nList, nRep, mNew, pl_non, pl_bl, pl_int, pl_str, pl_tup, pl_lst, pl_fls, pl_dic, pl_ptr, pl_fr, pl_shP, pl_shr, pl_cst, pl_cstR, pl_plD, pl_plsD, sPar, sRet, sRetN, sIf, sNil, sExpr, evL, dCall, dCallF, dVar, dC, dOp1, dOp2, dTst, dTru, tru, dNotT, dAndT, dOrT, dAndV, dOrV, dNotV, dIf, List.map_cons, List.map_nil, List.length_cons, List.length_nil, Nat.sub_self, Nat.reduceAdd, Nat.reduceSub, List.replicate_zero, List.reduceReplicate, List.append_nil, List.cons_append, List.nil_append, List.getElem?_cons_succ, List.getElem?_cons_zero, Out.bind_ok, Out.to_ok, List.set_cons_zero, List.set_cons_succ, if_true, if_false, Bool.not_false, Bool.not_true, Bool.false_eq_true, Bool.true_eq_false, reduceIte, if_pos, ev_is_share h]

theorem ev_is_cost {i : Int} (h : -1000 ≤ i ∧ i ≤ 1000) (st : Sto) : F_is_cost [.int i] st = .ok (.bl true) st := by
  have h1 : decide ((0 : Int) - 1000 ≤ i) = true := by simp; omega
  have h2 : decide (i ≤ 1000) = true := by simp; omega
  simp only [R_is_cost, T_is_cost, dFn, tupIt_t, tupIt_shr, tupIt_cst, tupIt_cstR, lstIt_l, lstIt_f, lstIt_pls, sSeq, sSet, sNew, mkL, mkM, sApp, sExt, sSto, dOw2, dOw1, dOwR, dOwG2, dOwG1, ownV, sFrz, frzE, nLst, nCat, nLc, nList, nRep, mNew, pl_non, pl_bl, pl_int, pl_str, pl_tup, pl_lst, pl_fls, pl_dic, pl_ptr, pl_fr, pl_shP, pl_shr, pl_cst, pl_cstR, pl_plD, pl_plsD, sPar, sRet, sRetN, sIf, sNil, sExpr, evL, dCall, dCallF, dVar, dC, dOp1, dOp2, dTst, dTru, tru, dNotT, dAndT, dOrT, dAndV, dOrV, dNotV, dIf, List.map_cons, List.map_nil, List.length_cons, List.length_nil, Nat.sub_self, Nat.reduceAdd, Nat.reduceSub, List.replicate_zero, List.reduceReplicate, List.append_nil, List.cons_append, List.nil_append, List.getElem?_cons_succ, List.getElem?_cons_zero, Out.bind_ok, Out.to_ok, List.set_cons_zero, List.set_cons_succ, if_true, if_false, Bool.not_false, Bool.not_true, Bool.false_eq_true, Bool.true_eq_false, reduceIte, if_pos, ev_is_integer_int, dChain, oSub, c_MOST_COST, oCmp, h1, h2]

theorem ev_are_costs {one other : List (Int × Rat)} {rows : List (List Int)} (h : Cst one.length other.length rows) (hn : one.length ≤ 8) (hm : other.length ≤ 8) (st : Sto) : F_are_costs [shr one, shr other, cst rows] st = .ok (.bl true) st := by
  have hl := h.len
  have a1 : lcGo (.nm 3) dYes E_are_costs_0 (wipeE [some (shr one), some (shr other), some (cst rows), none, none] [3]) (rows.map cstR) st [] = .ok ((rows.map cstR).map fun _ => .bl true) st := by
    refine lcGo_map _ _ (fun d hd => ?_) (by rw [sizeLine_eq]; simp; omega)
    obtain ⟨r, hr, rfl⟩ := List.mem_map.mp hd
    refine ⟨_, rfl, ?_⟩
    have e := h.row r hr
    simp only [E_are_costs_0, wipeE, dFn, tupIt_t, tupIt_shr, tupIt_cst, tupIt_cstR, lstIt_l, lstIt_f, lstIt_pls, sSeq, sSet, sNew, mkL, mkM, sApp, sExt, sSto, dOw2, dOw1, dOwR, dOwG2, dOwG1, ownV, sFrz, frzE, nLst, nCat, nLc, nList, nRep, mNew, pl_non, pl_bl, pl_int, pl_str, pl_tup, pl_lst, pl_fls, pl_dic, pl_ptr, pl_fr, pl_shP, pl_shr, pl_cst, pl_cstR, pl_plD, pl_plsD, sPar, sRet, sRetN, sIf, sNil, sExpr, evL, dCall, dCallF, dVar, dC, dOp1, dOp2, dTst, dTru, tru, dNotT, dAndT, dOrT, dAndV, dOrV, dNotV, dIf, List.map_cons, List.map_nil, List.length_cons, List.length_nil, Nat.sub_self, Nat.reduceAdd, Nat.reduceSub, List.replicate_zero, List.reduceReplicate, List.append_nil, List.cons_append, List.nil_append, List.getElem?_cons_succ, List.getElem?_cons_zero, Out.bind_ok, Out.to_ok, List.set_cons_zero, List.set_cons_succ, if_true, if_false, Bool.not_false, Bool.not_true, Bool.false_eq_true, Bool.true_eq_false, reduceIte, if_pos, cstR, shr, oIsi, tyD, isi, decide_true, bLen_mapT, oEq_int, e, beq_self_eq_true]
  have a2 : lcGo (.nm 3) dYes E_are_costs_2 (wipeE [some (shr one), some (shr other), some (cst rows), none, none] [3]) (rows.map cstR) st [] = .ok ((rows.map cstR).map fun _ => .bl true) st := by
    refine lcGo_map _ _ (fun d hd => ?_) (by rw [sizeLine_eq]; simp; omega)
    obtain ⟨r, hr, rfl⟩ := List.mem_map.mp hd
    refine ⟨_, rfl, ?_⟩
    have e := h.row r hr
    have a3 : lcGo (.nm 4) dYes E_are_costs_1 (wipeE [some (shr one), some (shr other), some (cst rows), some (cstR r), none] [4]) (r.map .int) st [] = .ok ((r.map D.int).map fun _ => .bl true) st := by
      refine lcGo_map _ _ (fun d hd => ?_) (by rw [sizeLine_eq]; simp; omega)
      obtain ⟨c, hc, rfl⟩ := List.mem_map.mp hd
      refine ⟨_, rfl, ?_⟩
      simp only [E_are_costs_1, wipeE, dFn, tupIt_t, tupIt_shr, tupIt_cst, tupIt_cstR, lstIt_l, lstIt_f, lstIt_pls, sSeq, sSet, sNew, mkL, mkM, sApp, sExt, sSto, dOw2, dOw1, dOwR, dOwG2, dOwG1, ownV, sFrz, frzE, nLst, nCat, nLc, nList, nRep, mNew, pl_non, pl_bl, pl_int, pl_str, pl_tup, pl_lst, pl_fls, pl_dic, pl_ptr, pl_fr, pl_shP, pl_shr, pl_cst, pl_cstR, pl_plD, pl_plsD, sPar, sRet, sRetN, sIf, sNil, sExpr, evL, dCall, dCallF, dVar, dC, dOp1, dOp2, dTst, dTru, tru, dNotT, dAndT, dOrT, dAndV, dOrV, dNotV, dIf, List.map_cons, List.map_nil, List.length_cons, List.length_nil, Nat.sub_self, Nat.reduceAdd, Nat.reduceSub, List.replicate_zero, List.reduceReplicate, List.append_nil, List.cons_append, List.nil_append, List.getElem?_cons_succ, List.getElem?_cons_zero, Out.bind_ok, Out.to_ok, List.set_cons_zero, List.set_cons_succ, if_true, if_false, Bool.not_false, Bool.not_true, Bool.false_eq_true, Bool.true_eq_false, reduceIte, if_pos, ev_is_cost (h.sm r hr c hc)]
    have b3 : bAll [.lst ((r.map D.int).map fun _ => .bl true)] st = .ok (.bl true) st := bAll_true (by simp)
    unfold cstR at a3 ⊢
    simp only [E_are_costs_2, wipeE, dFn, tupIt_t, tupIt_shr, tupIt_cst, tupIt_cstR, lstIt_l, lstIt_f, lstIt_pls, sSeq, sSet, sNew, mkL, mkM, sApp, sExt, sSto, dOw2, dOw1, dOwR, dOwG2, dOwG1, ownV, sFrz, frzE, nLst, nCat, nLc, nList, nRep, mNew, pl_non, pl_bl, pl_int, pl_str, pl_tup, pl_lst, pl_fls, pl_dic, pl_ptr, pl_fr, pl_shP, pl_shr, pl_cst, pl_cstR, pl_plD, pl_plsD, sPar, sRet, sRetN, sIf, sNil, sExpr, evL, dCall, dCallF, dVar, dC, dOp1, dOp2, dTst, dTru, tru, dNotT, dAndT, dOrT, dAndV, dOrV, dNotV, dIf, List.map_cons, List.map_nil, List.length_cons, List.length_nil, Nat.sub_self, Nat.reduceAdd, Nat.reduceSub, List.replicate_zero, List.reduceReplicate, List.append_nil, List.cons_append, List.nil_append, List.getElem?_cons_succ, List.getElem?_cons_zero, Out.bind_ok, Out.to_ok, List.set_cons_zero, List.set_cons_succ, if_true, if_false, Bool.not_false, Bool.not_true, Bool.false_eq_true, Bool.true_eq_false, reduceIte, if_pos, dLc, dItT] at a3 ⊢
    simp only [a3, b3, dFn, tupIt_t, tupIt_shr, tupIt_cst, tupIt_cstR, lstIt_l, lstIt_f, lstIt_pls, sSeq, sSet, sNew, mkL, mkM, sApp, sExt, sSto, dOw2, dOw1, dOwR, dOwG2, dOwG1, ownV, sFrz, frzE, nLst, nCat, nLc, nList, nRep, mNew, pl_non, pl_bl, pl_int, pl_str, pl_tup, pl_lst, pl_fls, pl_dic, pl_ptr, pl_fr, pl_shP, pl_shr, pl_cst, pl_cstR, pl_plD, pl_plsD, sPar, sRet, sRetN, sIf, sNil, sExpr, evL, dCall, dCallF, dVar, dC, dOp1, dOp2, dTst, dTru, tru, dNotT, dAndT, dOrT, dAndV, dOrV, dNotV, dIf, List.map_cons, List.map_nil, List.length_cons, List.length_nil, Nat.sub_self, Nat.reduceAdd, Nat.reduceSub, List.replicate_zero, List.reduceReplicate, List.append_nil, List.cons_append, List.nil_append, List.getElem?_cons_succ, List.getElem?_cons_zero, Out.bind_ok, Out.to_ok, List.set_cons_zero, List.set_cons_succ, if_true, if_false, Bool.not_false, Bool.not_true, Bool.false_eq_true, Bool.true_eq_false, reduceIte, if_pos]
  have b : bAll [.lst ((rows.map cstR).map fun _ => .bl true)] st = .ok (.bl true) st := bAll_true (by simp)
  unfold cst shr at *
  simp only [R_are_costs, T_are_costs, dFn, tupIt_t, tupIt_shr, tupIt_cst, tupIt_cstR, lstIt_l, lstIt_f, lstIt_pls, sSeq, sSet, sNew, mkL, mkM, sApp, sExt, sSto, dOw2, dOw1, dOwR, dOwG2, dOwG1, ownV, sFrz, frzE, nLst, nCat, nLc, nList, nRep, mNew, pl_non, pl_bl, pl_int, pl_str, pl_tup, pl_lst, pl_fls, pl_dic, pl_ptr, pl_fr, pl_shP, pl_shr, pl_cst, pl_cstR, pl_plD, pl_plsD, sPar, sRet, sRetN, sIf, sNil, sExpr, evL, dCall, dCallF, dVar, dC, dOp1, dOp2, dTst, dTru, tru, dNotT, dAndT, dOrT, dAndV, dOrV, dNotV, dIf, List.map_cons, List.map_nil, List.length_cons, List.length_nil, Nat.sub_self, Nat.reduceAdd, Nat.reduceSub, List.replicate_zero, List.reduceReplicate, List.append_nil, List.cons_append, List.nil_append, List.getElem?_cons_succ, List.getElem?_cons_zero, Out.bind_ok, Out.to_ok, List.set_cons_zero, List.set_cons_succ, if_true, if_false, Bool.not_false, Bool.not_true, Bool.false_eq_true, Bool.true_eq_false, reduceIte, if_pos, oIsi, tyD, isi, decide_true, bLen_mapT, oNe_int, hl, beq_self_eq_true, dLc, dItT, a1, a2, b]

theorem ev_need_question {one other : List (Int × Rat)} {rows : List (List Int)} (h1 : Shr one) (h2 : Shr other) (h : Cst one.length other.length rows) (st : Sto) : F_need_question [shr one, shr other, cst rows] st = .ok .non st := by
  simp only [R_need_question, T_need_question, dFn, tupIt_t, tupIt_shr, tupIt_cst, tupIt_cstR, lstIt_l, lstIt_f, lstIt_pls, sSeq, sSet, sNew, mkL, mkM, sApp, sExt, sSto, dOw2, dOw1, dOwR, dOwG2, dOwG1, ownV, sFrz, frzE, nLst, nCat, nLc, nList, nRep, mNew, pl_non, pl_bl, pl_int, pl_str, pl_tup, pl_lst, pl_fls, pl_dic, pl_ptr, pl_fr, pl_shP, pl_shr, pl_cst, pl_cstR, pl_plD, pl_plsD, sPar, sRet, sRetN, sIf, sNil, sExpr, evL, dCall, dCallF, dVar, dC, dOp1, dOp2, dTst, dTru, tru, dNotT, dAndT, dOrT, dAndV, dOrV, dNotV, dIf, List.map_cons, List.map_nil, List.length_cons, List.length_nil, Nat.sub_self, Nat.reduceAdd, Nat.reduceSub, List.replicate_zero, List.reduceReplicate, List.append_nil, List.cons_append, List.nil_append, List.getElem?_cons_succ, List.getElem?_cons_zero, Out.bind_ok, Out.to_ok, List.set_cons_zero, List.set_cons_succ, if_true, if_false, Bool.not_false, Bool.not_true, Bool.false_eq_true, Bool.true_eq_false, reduceIte, if_pos, ev_need_share h1, ev_need_share h2, ev_are_costs h h1.few h2.few]

theorem ev_places_in (one other : List (Int × Rat)) (h1 : one.length ≤ 8) (h2 : other.length ≤ 8) (st : Sto) : F_places_in [shr one, shr other] st = .ok (.lst ((plc one.length other.length).map plD)) st := by
  have r1 : dRng1 [.int ((one.length : Int) - 1)] st = .ok (rngL 0 (one.length - 1)) st := by
    rw [dRng1_ok (by omega) (by omega)]
    congr 2; omega
  have r2 : dRng1 [.int ((other.length : Int) - 2)] st = .ok (rngL 0 (other.length - 2)) st := by
    rw [dRng1_ok (by omega) (by omega)]
    congr 2; omega
  obtain ⟨env', st', ⟨x, rfl, rfl⟩, hl⟩ := fLoop_inv (t := .nm 3) (B := B_places_in_0) (fun k env s => ∃ x, env = [some (shr one), some (shr other), some (.ol (((List.range k).flatMap fun r => (List.range (other.length - 2)).map fun s => (r, s)).map plD)), x, none] ∧ s = st)
    (rngL 0 (one.length - 1)) 0 [some (shr one), some (shr other), some (.ol []), none, none] st ⟨none, rfl, rfl⟩ fun j d hd env s ⟨x, he, hs⟩ => by
      subst he; subst hs
      obtain ⟨hj, rfl⟩ := rngL_get hd
      refine ⟨_, _, _, rfl, ?_, some (.int (0 + (j : Int))), rfl, rfl⟩
      have hc : ∀ u, lcGo (.nm 4) dYes E_places_in_0 (wipeE [some (shr one), some (shr other), some (.ol u), some (.int (0 + (j : Int))), none] [4]) (rngL 0 (other.length - 2)) s [] = .ok (((List.range (other.length - 2)).map fun s => (j, s)).map plD) s := fun u => by
        refine lcGo_enc (fun i : Nat => D.int (0 + (i : Int))) plD (fun s => (j, s)) (List.range (other.length - 2)) (fun i _ => ⟨_, rfl, ?_⟩) (by rw [sizeLine_eq]; simp; omega)
        simp only [E_places_in_0, wipeE, dFn, tupIt_t, tupIt_shr, tupIt_cst, tupIt_cstR, lstIt_l, lstIt_f, lstIt_pls, sSeq, sSet, sNew, mkL, mkM, sApp, sExt, sSto, dOw2, dOw1, dOwR, dOwG2, dOwG1, ownV, sFrz, frzE, nLst, nCat, nLc, nList, nRep, mNew, pl_non, pl_bl, pl_int, pl_str, pl_tup, pl_lst, pl_fls, pl_dic, pl_ptr, pl_fr, pl_shP, pl_shr, pl_cst, pl_cstR, pl_plD, pl_plsD, sPar, sRet, sRetN, sIf, sNil, sExpr, evL, dCall, dCallF, dVar, dC, dOp1, dOp2, dTst, dTru, tru, dNotT, dAndT, dOrT, dAndV, dOrV, dNotV, dIf, List.map_cons, List.map_nil, List.length_cons, List.length_nil, Nat.sub_self, Nat.reduceAdd, Nat.reduceSub, List.replicate_zero, List.reduceReplicate, List.append_nil, List.cons_append, List.nil_append, List.getElem?_cons_succ, List.getElem?_cons_zero, Out.bind_ok, Out.to_ok, List.set_cons_zero, List.set_cons_succ, if_true, if_false, Bool.not_false, Bool.not_true, Bool.false_eq_true, Bool.true_eq_false, reduceIte, if_pos, oTup2, Int.zero_add, plD]
      have hbig : ∀ k, k ≤ 8 → ((((List.range k).flatMap fun r => (List.range (other.length - 2)).map fun s => (r, s)).map plD).length ≤ 64) := fun k hk => by
        simp only [List.length_map, List.length_flatMap, List.length_range]
        simp only [List.map_const', List.sum_replicate_nat]
        have : k * (other.length - 2) ≤ 8 * 8 := Nat.mul_le_mul hk (by omega)
        simpa using this
      have z : (((List.range (0 + j)).flatMap fun r => (List.range (other.length - 2)).map fun s => (r, s)).map plD).length + (((List.range (other.length - 2)).map fun s => (j, s)).map plD).length ≤ sizeLine := by
        have := hbig (0 + j) (by omega); rw [sizeLine_eq]; simp only [List.length_map, List.length_range] at this ⊢; omega
      unfold shr at *
      simp only [B_places_in_0, dFn, tupIt_t, tupIt_shr, tupIt_cst, tupIt_cstR, lstIt_l, lstIt_f, lstIt_pls, sSeq, sSet, sNew, mkL, mkM, sApp, sExt, sSto, dOw2, dOw1, dOwR, dOwG2, dOwG1, ownV, sFrz, frzE, nLst, nCat, nLc, nList, nRep, mNew, pl_non, pl_bl, pl_int, pl_str, pl_tup, pl_lst, pl_fls, pl_dic, pl_ptr, pl_fr, pl_shP, pl_shr, pl_cst, pl_cstR, pl_plD, pl_plsD, sPar, sRet, sRetN, sIf, sNil, sExpr, evL, dCall, dCallF, dVar, dC, dOp1, dOp2, dTst, dTru, tru, dNotT, dAndT, dOrT, dAndV, dOrV, dNotV, dIf, List.map_cons, List.map_nil, List.length_cons, List.length_nil, Nat.sub_self, Nat.reduceAdd, Nat.reduceSub, List.replicate_zero, List.reduceReplicate, List.append_nil, List.cons_append, List.nil_append, List.getElem?_cons_succ, List.getElem?_cons_zero, Out.bind_ok, Out.to_ok, List.set_cons_zero, List.set_cons_succ, if_true, if_false, Bool.not_false, Bool.not_true, Bool.false_eq_true, Bool.true_eq_false, reduceIte, if_pos, dLc, dItR1, bLen_mapT, oSub, r2, hc, oAdd.vieS, z]
      rw [List.range_succ, List.flatMap_append, List.map_append]
      simp
  rw [rngL_len, Nat.zero_add] at hl
  unfold shr at *
  simp only [R_places_in, T_places_in, dFn, tupIt_t, tupIt_shr, tupIt_cst, tupIt_cstR, lstIt_l, lstIt_f, lstIt_pls, sSeq, sSet, sNew, mkL, mkM, sApp, sExt, sSto, dOw2, dOw1, dOwR, dOwG2, dOwG1, ownV, sFrz, frzE, nLst, nCat, nLc, nList, nRep, mNew, pl_non, pl_bl, pl_int, pl_str, pl_tup, pl_lst, pl_fls, pl_dic, pl_ptr, pl_fr, pl_shP, pl_shr, pl_cst, pl_cstR, pl_plD, pl_plsD, sPar, sRet, sRetN, sIf, sNil, sExpr, evL, dCall, dCallF, dVar, dC, dOp1, dOp2, dTst, dTru, tru, dNotT, dAndT, dOrT, dAndV, dOrV, dNotV, dIf, List.map_cons, List.map_nil, List.length_cons, List.length_nil, Nat.sub_self, Nat.reduceAdd, Nat.reduceSub, List.replicate_zero, List.reduceReplicate, List.append_nil, List.cons_append, List.nil_append, List.getElem?_cons_succ, List.getElem?_cons_zero, Out.bind_ok, Out.to_ok, List.set_cons_zero, List.set_cons_succ, if_true, if_false, Bool.not_false, Bool.not_true, Bool.false_eq_true, Bool.true_eq_false, reduceIte, if_pos, Nat.zero_le, sFor, dItR1, bLen_mapT, oSub, r1, hl]
  rfl

theorem ev_bend_at {n : Nat} {other : List (Int × Rat)} {rows : List (List Int)} (h2 : Shr other) (h : Cst n other.length rows) {p : Nat × Nat} (hp : p.1 + 1 < n ∧ p.2 + 2 < other.length) (st : Sto) : F_bend_at [shr other, cst rows, plD p] st = .ok (.int (bnd other rows p.1 p.2)) st := by
  obtain ⟨r, s⟩ := p
  obtain ⟨hr, hs⟩ := hp
  simp only at hr hs
  have hl := h.len
  have c1 : ∀ k : Nat, k < other.length → ∀ st, E_bend_at_0 [some (shr other), some (cst rows), some (plD (r, s)), some (.int r), some (.int s), none, none, some (.int k)] st = .ok (.int (rise rows r k)) st := fun k hk st => by
    simp only [E_bend_at_0, dFn, tupIt_t, tupIt_shr, tupIt_cst, tupIt_cstR, lstIt_l, lstIt_f, lstIt_pls, sSeq, sSet, sNew, mkL, mkM, sApp, sExt, sSto, dOw2, dOw1, dOwR, dOwG2, dOwG1, ownV, sFrz, frzE, nLst, nCat, nLc, nList, nRep, mNew, pl_non, pl_bl, pl_int, pl_str, pl_tup, pl_lst, pl_fls, pl_dic, pl_ptr, pl_fr, pl_shP, pl_shr, pl_cst, pl_cstR, pl_plD, pl_plsD, sPar, sRet, sRetN, sIf, sNil, sExpr, evL, dCall, dCallF, dVar, dC, dOp1, dOp2, dTst, dTru, tru, dNotT, dAndT, dOrT, dAndV, dOrV, dNotV, dIf, List.map_cons, List.map_nil, List.length_cons, List.length_nil, Nat.sub_self, Nat.reduceAdd, Nat.reduceSub, List.replicate_zero, List.reduceReplicate, List.append_nil, List.cons_append, List.nil_append, List.getElem?_cons_succ, List.getElem?_cons_zero, Out.bind_ok, Out.to_ok, List.set_cons_zero, List.set_cons_succ, if_true, if_false, Bool.not_false, Bool.not_true, Bool.false_eq_true, Bool.true_eq_false, reduceIte, if_pos, oAdd, oIx_cst (rows := rows) (j := r + 1) (by omega) (show (r : Int) + 1 = ((r + 1 : Nat) : Int) by omega), oIx_cst (rows := rows) (j := r) (by omega) rfl, oIx_row (r := rows.getD (r + 1) []) (j := k) (by rw [h.at_row hr]; exact hk) rfl, oIx_row (r := rows.getD r []) (j := k) (by rw [h.at_row (by omega)]; exact hk) rfl, oSub]
    rfl
  have ot3 : ∀ (a b c : D) st, oTup [a, b, c] st = .ok (.tup [a, b, c]) st := fun _ _ _ _ => rfl
  have e1 : (s : Int) + 1 = ((s + 1 : Nat) : Int) := by omega
  have e2 : (s : Int) + 2 = ((s + 2 : Nat) : Int) := by omega
  have hc : lcGo (.nm 7) dYes E_bend_at_0 (wipeE [some (shr other), some (cst rows), some (plD (r, s)), some (.int r), some (.int s), none, none, none] [7]) [.int s, .int ((s + 1 : Nat) : Int), .int ((s + 2 : Nat) : Int)] st [] = .ok [.int (rise rows r s), .int (rise rows r (s + 1)), .int (rise rows r (s + 2))] st := by
    have z : ([] : List D).length < sizeLine ∧ ([.int 0] : List D).length < sizeLine ∧ ([.int 0, .int 0] : List D).length < sizeLine := by rw [sizeLine_eq]; simp
    simp only [lcGo, wipeE, Pat.set, List.set_cons_succ, List.set_cons_zero, dYes, c1 s (by omega), c1 (s + 1) (by omega), c1 (s + 2) (by omega), List.length_nil, List.nil_append, List.length_cons, List.cons_append]
    rw [if_pos (by rw [sizeLine_eq]; decide), if_pos (by rw [sizeLine_eq]; decide), if_pos (by rw [sizeLine_eq]; decide)]
  have i0 : ∀ (a b c : D) st, oIx (.lst [a, b, c]) (.int 0) st = .ok a st := fun _ _ _ _ => rfl
  have i1 : ∀ (a b c : D) st, oIx (.lst [a, b, c]) (.int 1) st = .ok b st := fun _ _ _ _ => rfl
  have i2 : ∀ (a b c : D) st, oIx (.lst [a, b, c]) (.int 2) st = .ok c st := fun _ _ _ _ => rfl
  have b1 := h.at_sm (r + 1) s
  have b2 := h.at_sm (r + 1) (s + 1)
  have b3 := h.at_sm (r + 1) (s + 2)
  have b4 := h.at_sm r s
  have b5 := h.at_sm r (s + 1)
  have b6 := h.at_sm r (s + 2)
  have o1 := h2.om_sm s
  have o2 := h2.om_sm (s + 1)
  have o3 := h2.om_sm (s + 2)
  have s1 : Sm 13 (rise rows r (s + 1) - rise rows r s) := by unfold Sm rise; omega
  have s2 : Sm 13 (rise rows r (s + 2) - rise rows r (s + 1)) := by unfold Sm rise; omega
  have s3 : Sm 13 (om other (s + 2) - om other (s + 1)) := by unfold Sm; omega
  have s4 : Sm 13 (om other (s + 1) - om other s) := by unfold Sm; omega
  have px : ∀ k st, oIx (shP (other.getD k (0, 0))) (.int 0) st = .ok (.int (om other k)) st := fun k st => ix0 _ _ _
  simp only [plD] at hc
  simp only [R_bend_at, T_bend_at, dFn, tupIt_t, tupIt_shr, tupIt_cst, tupIt_cstR, lstIt_l, lstIt_f, lstIt_pls, sSeq, sSet, sNew, mkL, mkM, sApp, sExt, sSto, dOw2, dOw1, dOwR, dOwG2, dOwG1, ownV, sFrz, frzE, nLst, nCat, nLc, nList, nRep, mNew, pl_non, pl_bl, pl_int, pl_str, pl_tup, pl_lst, pl_fls, pl_dic, pl_ptr, pl_fr, pl_shP, pl_shr, pl_cst, pl_cstR, pl_plD, pl_plsD, sPar, sRet, sRetN, sIf, sNil, sExpr, evL, dCall, dCallF, dVar, dC, dOp1, dOp2, dTst, dTru, tru, dNotT, dAndT, dOrT, dAndV, dOrV, dNotV, dIf, List.map_cons, List.map_nil, List.length_cons, List.length_nil, Nat.sub_self, Nat.reduceAdd, Nat.reduceSub, List.replicate_zero, List.reduceReplicate, List.append_nil, List.cons_append, List.nil_append, List.getElem?_cons_succ, List.getElem?_cons_zero, Out.bind_ok, Out.to_ok, List.set_cons_zero, List.set_cons_succ, if_true, if_false, Bool.not_false, Bool.not_true, Bool.false_eq_true, Bool.true_eq_false, reduceIte, if_pos, sAsg, plD, Pat.set, Pat.sets, Option.bind_some, oAdd, ot3, e1, e2, dLc, dItT, hc, oIx_shr (o := other) (j := s) (by omega) rfl, oIx_shr (o := other) (j := s + 1) (by omega) rfl, oIx_shr (o := other) (j := s + 2) (by omega) rfl, px, oSub, i0, i1, i2, oMul_sm s1 s3, oMul_sm s2 s4]
  rfl

theorem ev_ups_in {one other : List (Int × Rat)} {rows : List (List Int)} (h1 : Shr one) (h2 : Shr other) (h : Cst one.length other.length rows) (st : Sto) : F_ups_in [shr one, shr other, cst rows] st = .ok (plsD (upsL one.length other rows)) st := by
  have hw : wipeE [some (shr one), some (shr other), some (cst rows), none] [3] = [some (shr one), some (shr other), some (cst rows), none] := rfl
  have hc := lcGo_filter (t := .nm 3) (ψ := Q_ups_in_0) (φ := E_ups_in_0) (env := [some (shr one), some (shr other), some (cst rows), none]) (st := st) id (onPl fun r s => decide (bnd other rows r s < 0)) ((plc one.length other.length).map plD) [] (fun d hd => by
    obtain ⟨p, hp, rfl⟩ := List.mem_map.mp hd
    refine ⟨_, rfl, ?_, fun _ => rfl⟩
    simp only [Q_ups_in_0, dFn, tupIt_t, tupIt_shr, tupIt_cst, tupIt_cstR, lstIt_l, lstIt_f, lstIt_pls, sSeq, sSet, sNew, mkL, mkM, sApp, sExt, sSto, dOw2, dOw1, dOwR, dOwG2, dOwG1, ownV, sFrz, frzE, nLst, nCat, nLc, nList, nRep, mNew, pl_non, pl_bl, pl_int, pl_str, pl_tup, pl_lst, pl_fls, pl_dic, pl_ptr, pl_fr, pl_shP, pl_shr, pl_cst, pl_cstR, pl_plD, pl_plsD, sPar, sRet, sRetN, sIf, sNil, sExpr, evL, dCall, dCallF, dVar, dC, dOp1, dOp2, dTst, dTru, tru, dNotT, dAndT, dOrT, dAndV, dOrV, dNotV, dIf, List.map_cons, List.map_nil, List.length_cons, List.length_nil, Nat.sub_self, Nat.reduceAdd, Nat.reduceSub, List.replicate_zero, List.reduceReplicate, List.append_nil, List.cons_append, List.nil_append, List.getElem?_cons_succ, List.getElem?_cons_zero, Out.bind_ok, Out.to_ok, List.set_cons_zero, List.set_cons_succ, if_true, if_false, Bool.not_false, Bool.not_true, Bool.false_eq_true, Bool.true_eq_false, reduceIte, if_pos, ev_bend_at h2 h (plc_mem hp), oLt]
    rfl) (by have := plc_len one.length other.length h1.few h2.few; rw [sizeLine_eq]; simp; omega)
  rw [filter_pl] at hc
  simp only [R_ups_in, T_ups_in, dFn, tupIt_t, tupIt_shr, tupIt_cst, tupIt_cstR, lstIt_l, lstIt_f, lstIt_pls, sSeq, sSet, sNew, mkL, mkM, sApp, sExt, sSto, dOw2, dOw1, dOwR, dOwG2, dOwG1, ownV, sFrz, frzE, nLst, nCat, nLc, nList, nRep, mNew, pl_non, pl_bl, pl_int, pl_str, pl_tup, pl_lst, pl_fls, pl_dic, pl_ptr, pl_fr, pl_shP, pl_shr, pl_cst, pl_cstR, pl_plD, pl_plsD, sPar, sRet, sRetN, sIf, sNil, sExpr, evL, dCall, dCallF, dVar, dC, dOp1, dOp2, dTst, dTru, tru, dNotT, dAndT, dOrT, dAndV, dOrV, dNotV, dIf, List.map_cons, List.map_nil, List.length_cons, List.length_nil, Nat.sub_self, Nat.reduceAdd, Nat.reduceSub, List.replicate_zero, List.reduceReplicate, List.append_nil, List.cons_append, List.nil_append, List.getElem?_cons_succ, List.getElem?_cons_zero, Out.bind_ok, Out.to_ok, List.set_cons_zero, List.set_cons_succ, if_true, if_false, Bool.not_false, Bool.not_true, Bool.false_eq_true, Bool.true_eq_false, reduceIte, if_pos, dLc, dItL, ev_places_in one other h1.few h2.few, hw, hc, List.map_id]
  rfl

theorem ev_downs_in {one other : List (Int × Rat)} {rows : List (List Int)} (h1 : Shr one) (h2 : Shr other) (h : Cst one.length other.length rows) (st : Sto) : F_downs_in [shr one, shr other, cst rows] st = .ok (plsD (dnsL one.length other rows)) st := by
  have hw : wipeE [some (shr one), some (shr other), some (cst rows), none] [3] = [some (shr one), some (shr other), some (cst rows), none] := rfl
  have hc := lcGo_filter (t := .nm 3) (ψ := Q_downs_in_0) (φ := E_downs_in_0) (env := [some (shr one), some (shr other), some (cst rows), none]) (st := st) id (onPl fun r s => decide (0 < bnd other rows r s)) ((plc one.length other.length).map plD) [] (fun d hd => by
    obtain ⟨p, hp, rfl⟩ := List.mem_map.mp hd
    refine ⟨_, rfl, ?_, fun _ => rfl⟩
    simp only [Q_downs_in_0, dFn, tupIt_t, tupIt_shr, tupIt_cst, tupIt_cstR, lstIt_l, lstIt_f, lstIt_pls, sSeq, sSet, sNew, mkL, mkM, sApp, sExt, sSto, dOw2, dOw1, dOwR, dOwG2, dOwG1, ownV, sFrz, frzE, nLst, nCat, nLc, nList, nRep, mNew, pl_non, pl_bl, pl_int, pl_str, pl_tup, pl_lst, pl_fls, pl_dic, pl_ptr, pl_fr, pl_shP, pl_shr, pl_cst, pl_cstR, pl_plD, pl_plsD, sPar, sRet, sRetN, sIf, sNil, sExpr, evL, dCall, dCallF, dVar, dC, dOp1, dOp2, dTst, dTru, tru, dNotT, dAndT, dOrT, dAndV, dOrV, dNotV, dIf, List.map_cons, List.map_nil, List.length_cons, List.length_nil, Nat.sub_self, Nat.reduceAdd, Nat.reduceSub, List.replicate_zero, List.reduceReplicate, List.append_nil, List.cons_append, List.nil_append, List.getElem?_cons_succ, List.getElem?_cons_zero, Out.bind_ok, Out.to_ok, List.set_cons_zero, List.set_cons_succ, if_true, if_false, Bool.not_false, Bool.not_true, Bool.false_eq_true, Bool.true_eq_false, reduceIte, if_pos, ev_bend_at h2 h (plc_mem hp), oCmp]
    rfl) (by have := plc_len one.length other.length h1.few h2.few; rw [sizeLine_eq]; simp; omega)
  rw [filter_pl] at hc
  simp only [R_downs_in, T_downs_in, dFn, tupIt_t, tupIt_shr, tupIt_cst, tupIt_cstR, lstIt_l, lstIt_f, lstIt_pls, sSeq, sSet, sNew, mkL, mkM, sApp, sExt, sSto, dOw2, dOw1, dOwR, dOwG2, dOwG1, ownV, sFrz, frzE, nLst, nCat, nLc, nList, nRep, mNew, pl_non, pl_bl, pl_int, pl_str, pl_tup, pl_lst, pl_fls, pl_dic, pl_ptr, pl_fr, pl_shP, pl_shr, pl_cst, pl_cstR, pl_plD, pl_plsD, sPar, sRet, sRetN, sIf, sNil, sExpr, evL, dCall, dCallF, dVar, dC, dOp1, dOp2, dTst, dTru, tru, dNotT, dAndT, dOrT, dAndV, dOrV, dNotV, dIf, List.map_cons, List.map_nil, List.length_cons, List.length_nil, Nat.sub_self, Nat.reduceAdd, Nat.reduceSub, List.replicate_zero, List.reduceReplicate, List.append_nil, List.cons_append, List.nil_append, List.getElem?_cons_succ, List.getElem?_cons_zero, Out.bind_ok, Out.to_ok, List.set_cons_zero, List.set_cons_succ, if_true, if_false, Bool.not_false, Bool.not_true, Bool.false_eq_true, Bool.true_eq_false, reduceIte, if_pos, dLc, dItL, ev_places_in one other h1.few h2.few, hw, hc, List.map_id]
  rfl

theorem ev_is_integer_ty {d : D} {t : Ty} {st : Sto} (hp : plainD d = true) (h : tyD d st = some t) : F_is_integer [d] st = .ok (.bl (decide (t = .int))) st := by
  cases t <;> simp only [R_is_integer, T_is_integer, dFn, tupIt_t, tupIt_shr, tupIt_cst, tupIt_cstR, lstIt_l, lstIt_f, lstIt_pls, sSeq, sSet, sNew, mkL, mkM, sApp, sExt, sSto, dOw2, dOw1, dOwR, dOwG2, dOwG1, ownV, sFrz, frzE, nLst, nCat, nLc, nList, nRep, mNew, pl_non, pl_bl, pl_int, pl_str, pl_tup, pl_lst, pl_fls, pl_dic, pl_ptr, pl_fr, pl_shP, pl_shr, pl_cst, pl_cstR, pl_plD, pl_plsD, sPar, sRet, sRetN, sIf, sNil, sExpr, evL, dCall, dCallF, dVar, dC, dOp1, dOp2, dTst, dTru, tru, dNotT, dAndT, dOrT, dAndV, dOrV, dNotV, dIf, List.map_cons, List.map_nil, List.length_cons, List.length_nil, Nat.sub_self, Nat.reduceAdd, Nat.reduceSub, List.replicate_zero, List.reduceReplicate, List.append_nil, List.cons_append, List.nil_append, List.getElem?_cons_succ, List.getElem?_cons_zero, Out.bind_ok, Out.to_ok, List.set_cons_zero, List.set_cons_succ, if_true, if_false, Bool.not_false, Bool.not_true, Bool.false_eq_true, Bool.true_eq_false, reduceIte, if_pos, hp, oIsi, h, isi] <;> rfl
theorem oEq_str (x y : Str) (st : Sto) : oEq (.str x) (.str y) st = .ok (.bl (x == y)) st := by
  show Out.ok (D.bl (decide (x = y))) st = _
  by_cases h : x = y
  · subst h; simp
  · simp [h]
def inP (l : List (Nat × Nat)) (a b : Int) : Bool := l.any fun p => decide ((p.1 : Int) = a ∧ (p.2 : Int) = b)
theorem ev_hold_one {one other : List (Int × Rat)} {rows : List (List Int)} (h1 : Shr one) (h2 : Shr other) (h : Cst one.length other.length rows) (w : Str) (hk : PyData.strOk w = true) (hw : (w == "mixed") = false) (st : Sto) :
    F_does_hold [shr one, shr other, cst rows, .tup [.str w]] st = .ok (.bl (((w == "up") || (upsL one.length other rows).isEmpty) && ((w == "down") || (dnsL one.length other rows).isEmpty))) st := by
  have hn : ∀ st, oLst [] st = .ok (.lst []) st := fun _ => rfl
  cases a : (w == "up") <;> cases b : (w == "down") <;> cases c : (upsL one.length other rows).isEmpty <;> cases d : (dnsL one.length other rows).isEmpty <;>
    simp only [R_does_hold, T_does_hold, dFn, tupIt_t, tupIt_shr, tupIt_cst, tupIt_cstR, lstIt_l, lstIt_f, lstIt_pls, sSeq, sSet, sNew, mkL, mkM, sApp, sExt, sSto, dOw2, dOw1, dOwR, dOwG2, dOwG1, ownV, sFrz, frzE, nLst, nCat, nLc, nList, nRep, mNew, pl_non, pl_bl, pl_int, pl_str, pl_tup, pl_lst, pl_fls, pl_dic, pl_ptr, pl_fr, pl_shP, pl_shr, pl_cst, pl_cstR, pl_plD, pl_plsD, sPar, sRet, sRetN, sIf, sNil, sExpr, evL, dCall, dCallF, dVar, dC, dOp1, dOp2, dTst, dTru, tru, dNotT, dAndT, dOrT, dAndV, dOrV, dNotV, dIf, List.map_cons, List.map_nil, List.length_cons, List.length_nil, Nat.sub_self, Nat.reduceAdd, Nat.reduceSub, List.replicate_zero, List.reduceReplicate, List.append_nil, List.cons_append, List.nil_append, List.getElem?_cons_succ, List.getElem?_cons_zero, Out.bind_ok, Out.to_ok, List.set_cons_zero, List.set_cons_succ, if_true, if_false, Bool.not_false, Bool.not_true, Bool.false_eq_true, Bool.true_eq_false, reduceIte, if_pos, ev_ups_in h1 h2 h, ev_downs_in h1 h2 h, ix0, c_MIXED, c_UP, c_DOWN, oEq_str, hw, a, b, c, d, hn, eq_nil, Bool.true_or, Bool.false_or, Bool.and_self, Bool.and_true, Bool.and_false, Bool.false_and]
theorem ev_hold_ints {one other : List (Int × Rat)} {rows : List (List Int)} (h1 : Shr one) (h2 : Shr other) (h : Cst one.length other.length rows) (a b c d : Int) (st : Sto) :
    F_does_hold [shr one, shr other, cst rows, .tup [.str "mixed", .int a, .int b, .int c, .int d]] st = .ok (.bl (inP (upsL one.length other rows) a b && inP (dnsL one.length other rows) c d)) st := by
  have hm : ("mixed" == ("mixed" : Str)) = true := beq_self_eq_true _
  have c1 : cutL [D.str "mixed", .int a, .int b, .int c, .int d] (some 1) none = [.int a, .int b, .int c, .int d] := rfl
  have c2 : cutL [D.str "mixed", .int a, .int b, .int c, .int d] (some 1) (some 3) = [.int a, .int b] := rfl
  have c3 : cutL [D.str "mixed", .int a, .int b, .int c, .int d] (some 3) none = [.int c, .int d] := rfl
  have hg : lcGo (.nm 6) dYes E_does_hold_0 (wipeE [some (shr one), some (shr other), some (cst rows), some (.tup [.str "mixed", .int a, .int b, .int c, .int d]), some (plsD (upsL one.length other rows)), some (plsD (dnsL one.length other rows)), none] [6]) [.int a, .int b, .int c, .int d] st [] = .ok [.bl true, .bl true, .bl true, .bl true] st := by
    simp only [lcGo, wipeE, Pat.set, List.set_cons_succ, List.set_cons_zero, dYes, E_does_hold_0, dFn, tupIt_t, tupIt_shr, tupIt_cst, tupIt_cstR, lstIt_l, lstIt_f, lstIt_pls, sSeq, sSet, sNew, mkL, mkM, sApp, sExt, sSto, dOw2, dOw1, dOwR, dOwG2, dOwG1, ownV, sFrz, frzE, nLst, nCat, nLc, nList, nRep, mNew, pl_non, pl_bl, pl_int, pl_str, pl_tup, pl_lst, pl_fls, pl_dic, pl_ptr, pl_fr, pl_shP, pl_shr, pl_cst, pl_cstR, pl_plD, pl_plsD, sPar, sRet, sRetN, sIf, sNil, sExpr, evL, dCall, dCallF, dVar, dC, dOp1, dOp2, dTst, dTru, tru, dNotT, dAndT, dOrT, dAndV, dOrV, dNotV, dIf, List.map_cons, List.map_nil, List.length_cons, List.length_nil, Nat.sub_self, Nat.reduceAdd, Nat.reduceSub, List.replicate_zero, List.reduceReplicate, List.append_nil, List.cons_append, List.nil_append, List.getElem?_cons_succ, List.getElem?_cons_zero, Out.bind_ok, Out.to_ok, List.set_cons_zero, List.set_cons_succ, if_true, if_false, Bool.not_false, Bool.not_true, Bool.false_eq_true, Bool.true_eq_false, reduceIte, if_pos, ev_is_integer_int]
    rw [if_pos (by rw [sizeLine_eq]; decide), if_pos (by rw [sizeLine_eq]; decide), if_pos (by rw [sizeLine_eq]; decide), if_pos (by rw [sizeLine_eq]; decide)]
  have hb : bAll [.lst [.bl true, .bl true, .bl true, .bl true]] st = .ok (.bl true) st := rfl
  have ia := in_pl a b (upsL one.length other rows) st
  have ib := in_pl c d (dnsL one.length other rows) st
  cases x : inP (upsL one.length other rows) a b <;> cases y : inP (dnsL one.length other rows) c d <;> (unfold inP at x y) <;> rw [x] at ia <;> rw [y] at ib <;>
    simp only [R_does_hold, T_does_hold, dFn, tupIt_t, tupIt_shr, tupIt_cst, tupIt_cstR, lstIt_l, lstIt_f, lstIt_pls, sSeq, sSet, sNew, mkL, mkM, sApp, sExt, sSto, dOw2, dOw1, dOwR, dOwG2, dOwG1, ownV, sFrz, frzE, nLst, nCat, nLc, nList, nRep, mNew, pl_non, pl_bl, pl_int, pl_str, pl_tup, pl_lst, pl_fls, pl_dic, pl_ptr, pl_fr, pl_shP, pl_shr, pl_cst, pl_cstR, pl_plD, pl_plsD, sPar, sRet, sRetN, sIf, sNil, sExpr, evL, dCall, dCallF, dVar, dC, dOp1, dOp2, dTst, dTru, tru, dNotT, dAndT, dOrT, dAndV, dOrV, dNotV, dIf, List.map_cons, List.map_nil, List.length_cons, List.length_nil, Nat.sub_self, Nat.reduceAdd, Nat.reduceSub, List.replicate_zero, List.reduceReplicate, List.append_nil, List.cons_append, List.nil_append, List.getElem?_cons_succ, List.getElem?_cons_zero, Out.bind_ok, Out.to_ok, List.set_cons_zero, List.set_cons_succ, if_true, if_false, Bool.not_false, Bool.not_true, Bool.false_eq_true, Bool.true_eq_false, reduceIte, if_pos, ev_ups_in h1 h2 h, ev_downs_in h1 h2 h, ix0, c_MIXED, oEq_str "mixed" "mixed", hm, dSl, dP, dNoP, oSl, c1, c2, c3, dLc, dItT, hg, hb, ia, ib, Bool.and_self, Bool.and_true, Bool.and_false]
theorem bAll_false {ds : List D} {bs : List Bool} {st : Sto} (h : ds = bs.map .bl) (hf : bs.all id = false) : bAll [.lst ds] st = .ok (.bl false) st := by
  have : ∀ bs : List Bool, toBls (bs.map .bl) = some bs := fun bs => by
    induction bs with
    | nil => rfl
    | cons b bs ih => rw [List.map_cons, toBls, ih]; rfl
  subst h
  simp [bAll, view, this, hf]
theorem ev_hold_odd {one other : List (Int × Rat)} {rows : List (List Int)} (h1 : Shr one) (h2 : Shr other) (h : Cst one.length other.length rows) (a b c d : D) (st : Sto) (pa : plainD a = true) (pb : plainD b = true) (pc : plainD c = true) (pd : plainD d = true) (ta tb tc td : Ty) (ha : tyD a st = some ta) (hb : tyD b st = some tb) (hc : tyD c st = some tc) (hd : tyD d st = some td)
    (hno : ¬ (ta = .int ∧ tb = .int ∧ tc = .int ∧ td = .int)) :
    F_does_hold [shr one, shr other, cst rows, .tup [.str "mixed", a, b, c, d]] st = .ok (.bl false) st := by
  have hm : ("mixed" == ("mixed" : Str)) = true := beq_self_eq_true _
  have c1 : cutL [D.str "mixed", a, b, c, d] (some 1) none = [a, b, c, d] := rfl
  have hg : lcGo (.nm 6) dYes E_does_hold_0 (wipeE [some (shr one), some (shr other), some (cst rows), some (.tup [.str "mixed", a, b, c, d]), some (plsD (upsL one.length other rows)), some (plsD (dnsL one.length other rows)), none] [6]) [a, b, c, d] st [] = .ok ([decide (ta = .int), decide (tb = .int), decide (tc = .int), decide (td = .int)].map .bl) st := by
    simp only [lcGo, wipeE, Pat.set, List.set_cons_succ, List.set_cons_zero, dYes, E_does_hold_0, dFn, tupIt_t, tupIt_shr, tupIt_cst, tupIt_cstR, lstIt_l, lstIt_f, lstIt_pls, sSeq, sSet, sNew, mkL, mkM, sApp, sExt, sSto, dOw2, dOw1, dOwR, dOwG2, dOwG1, ownV, sFrz, frzE, nLst, nCat, nLc, nList, nRep, mNew, pl_non, pl_bl, pl_int, pl_str, pl_tup, pl_lst, pl_fls, pl_dic, pl_ptr, pl_fr, pl_shP, pl_shr, pl_cst, pl_cstR, pl_plD, pl_plsD, sPar, sRet, sRetN, sIf, sNil, sExpr, evL, dCall, dCallF, dVar, dC, dOp1, dOp2, dTst, dTru, tru, dNotT, dAndT, dOrT, dAndV, dOrV, dNotV, dIf, List.map_cons, List.map_nil, List.length_cons, List.length_nil, Nat.sub_self, Nat.reduceAdd, Nat.reduceSub, List.replicate_zero, List.reduceReplicate, List.append_nil, List.cons_append, List.nil_append, List.getElem?_cons_succ, List.getElem?_cons_zero, Out.bind_ok, Out.to_ok, List.set_cons_zero, List.set_cons_succ, if_true, if_false, Bool.not_false, Bool.not_true, Bool.false_eq_true, Bool.true_eq_false, reduceIte, if_pos, pa, pb, pc, pd, ev_is_integer_ty pa ha, ev_is_integer_ty pb hb, ev_is_integer_ty pc hc, ev_is_integer_ty pd hd]
    rw [if_pos (by rw [sizeLine_eq]; decide), if_pos (by rw [sizeLine_eq]; decide), if_pos (by rw [sizeLine_eq]; decide), if_pos (by rw [sizeLine_eq]; decide)]
  have hb2 : bAll [.lst [.bl (decide (ta = .int)), .bl (decide (tb = .int)), .bl (decide (tc = .int)), .bl (decide (td = .int))]] st = .ok (.bl false) st := bAll_false (bs := [decide (ta = .int), decide (tb = .int), decide (tc = .int), decide (td = .int)]) rfl (by
    cases z : ([decide (ta = .int), decide (tb = .int), decide (tc = .int), decide (td = .int)].all id) with
    | false => rfl
    | true => simp at z; exact absurd z hno)
  simp only [R_does_hold, T_does_hold, dFn, tupIt_t, tupIt_shr, tupIt_cst, tupIt_cstR, lstIt_l, lstIt_f, lstIt_pls, sSeq, sSet, sNew, mkL, mkM, sApp, sExt, sSto, dOw2, dOw1, dOwR, dOwG2, dOwG1, ownV, sFrz, frzE, nLst, nCat, nLc, nList, nRep, mNew, pl_non, pl_bl, pl_int, pl_str, pl_tup, pl_lst, pl_fls, pl_dic, pl_ptr, pl_fr, pl_shP, pl_shr, pl_cst, pl_cstR, pl_plD, pl_plsD, sPar, sRet, sRetN, sIf, sNil, sExpr, evL, dCall, dCallF, dVar, dC, dOp1, dOp2, dTst, dTru, tru, dNotT, dAndT, dOrT, dAndV, dOrV, dNotV, dIf, List.map_cons, List.map_nil, List.length_cons, List.length_nil, Nat.sub_self, Nat.reduceAdd, Nat.reduceSub, List.replicate_zero, List.reduceReplicate, List.append_nil, List.cons_append, List.nil_append, List.getElem?_cons_succ, List.getElem?_cons_zero, Out.bind_ok, Out.to_ok, List.set_cons_zero, List.set_cons_succ, if_true, if_false, Bool.not_false, Bool.not_true, Bool.false_eq_true, Bool.true_eq_false, reduceIte, if_pos, ev_ups_in h1 h2 h, ev_downs_in h1 h2 h, ix0, c_MIXED, oEq_str "mixed" "mixed", hm, dSl, dP, dNoP, oSl, c1, dLc, dItT, hg, hb2]

def bp (x : D) : XV := ⟨"BadPaper", [("part", x)]⟩
section
variable {one other : List (Int × Rat)} {rows : List (List Int)} (h1 : Shr one) (h2 : Shr other) (h : Cst one.length other.length rows)
include h1 h2 h
theorem ck_nt {x : D} {t : Ty} {st : Sto} (hp : plainD x = true) (hx : tyD x st = some t) (ht : isi t .tuple = false) : F_check_kind [shr one, shr other, cst rows, x] st = .exc (bp (.str "form")) st := by
  simp only [R_check_kind, T_check_kind, dFn, tupIt_t, tupIt_shr, tupIt_cst, tupIt_cstR, lstIt_l, lstIt_f, lstIt_pls, sSeq, sSet, sNew, mkL, mkM, sApp, sExt, sSto, dOw2, dOw1, dOwR, dOwG2, dOwG1, ownV, sFrz, frzE, nLst, nCat, nLc, nList, nRep, mNew, pl_non, pl_bl, pl_int, pl_str, pl_tup, pl_lst, pl_fls, pl_dic, pl_ptr, pl_fr, pl_shP, pl_shr, pl_cst, pl_cstR, pl_plD, pl_plsD, sPar, sRet, sRetN, sIf, sNil, sExpr, evL, dCall, dCallF, dVar, dC, dOp1, dOp2, dTst, dTru, tru, dNotT, dAndT, dOrT, dAndV, dOrV, dNotV, dIf, List.map_cons, List.map_nil, List.length_cons, List.length_nil, Nat.sub_self, Nat.reduceAdd, Nat.reduceSub, List.replicate_zero, List.reduceReplicate, List.append_nil, List.cons_append, List.nil_append, List.getElem?_cons_succ, List.getElem?_cons_zero, Out.bind_ok, Out.to_ok, List.set_cons_zero, List.set_cons_succ, if_true, if_false, Bool.not_false, Bool.not_true, Bool.false_eq_true, Bool.true_eq_false, reduceIte, if_pos, hp, ev_need_question h1 h2 h, oIsi, hx, ht, sRaise]
  rfl
theorem ck_nil {st : Sto} : F_check_kind [shr one, shr other, cst rows, .tup []] st = .exc (bp (.str "form")) st := by
  have e : oEq (.tup []) (.tup []) st = .ok (.bl true) st := rfl
  have e2 : oTup [] st = .ok (.tup []) st := rfl
  simp only [R_check_kind, T_check_kind, dFn, tupIt_t, tupIt_shr, tupIt_cst, tupIt_cstR, lstIt_l, lstIt_f, lstIt_pls, sSeq, sSet, sNew, mkL, mkM, sApp, sExt, sSto, dOw2, dOw1, dOwR, dOwG2, dOwG1, ownV, sFrz, frzE, nLst, nCat, nLc, nList, nRep, mNew, pl_non, pl_bl, pl_int, pl_str, pl_tup, pl_lst, pl_fls, pl_dic, pl_ptr, pl_fr, pl_shP, pl_shr, pl_cst, pl_cstR, pl_plD, pl_plsD, sPar, sRet, sRetN, sIf, sNil, sExpr, evL, dCall, dCallF, dVar, dC, dOp1, dOp2, dTst, dTru, tru, dNotT, dAndT, dOrT, dAndV, dOrV, dNotV, dIf, List.map_cons, List.map_nil, List.length_cons, List.length_nil, Nat.sub_self, Nat.reduceAdd, Nat.reduceSub, List.replicate_zero, List.reduceReplicate, List.append_nil, List.cons_append, List.nil_append, List.getElem?_cons_succ, List.getElem?_cons_zero, Out.bind_ok, Out.to_ok, List.set_cons_zero, List.set_cons_succ, if_true, if_false, Bool.not_false, Bool.not_true, Bool.false_eq_true, Bool.true_eq_false, reduceIte, if_pos, ev_need_question h1 h2 h, oIsi, tyD, isi, decide_true, e2, e, sRaise]
  rfl
theorem ck_ns {x : D} {xs : List D} {t : Ty} {st : Sto} (hx : tyD x st = some t) (ht : isi t .str = false) (he : oEq (.tup (x :: xs)) (.tup []) st = .ok (.bl false) st) : F_check_kind [shr one, shr other, cst rows, .tup (x :: xs)] st = .exc (bp (.str "form")) st := by
  have e2 : oTup [] st = .ok (.tup []) st := rfl
  have e3 : tyD (.tup (x :: xs)) st = some .tuple := rfl
  have e4 : isi .tuple .tuple = true := rfl
  simp only [R_check_kind, T_check_kind, dFn, tupIt_t, tupIt_shr, tupIt_cst, tupIt_cstR, lstIt_l, lstIt_f, lstIt_pls, sSeq, sSet, sNew, mkL, mkM, sApp, sExt, sSto, dOw2, dOw1, dOwR, dOwG2, dOwG1, ownV, sFrz, frzE, nLst, nCat, nLc, nList, nRep, mNew, pl_non, pl_bl, pl_int, pl_str, pl_tup, pl_lst, pl_fls, pl_dic, pl_ptr, pl_fr, pl_shP, pl_shr, pl_cst, pl_cstR, pl_plD, pl_plsD, sPar, sRet, sRetN, sIf, sNil, sExpr, evL, dCall, dCallF, dVar, dC, dOp1, dOp2, dTst, dTru, tru, dNotT, dAndT, dOrT, dAndV, dOrV, dNotV, dIf, List.map_cons, List.map_nil, List.length_cons, List.length_nil, Nat.sub_self, Nat.reduceAdd, Nat.reduceSub, List.replicate_zero, List.reduceReplicate, List.append_nil, List.cons_append, List.nil_append, List.getElem?_cons_succ, List.getElem?_cons_zero, Out.bind_ok, Out.to_ok, List.set_cons_zero, List.set_cons_succ, if_true, if_false, Bool.not_false, Bool.not_true, Bool.false_eq_true, Bool.true_eq_false, reduceIte, if_pos, ev_need_question h1 h2 h, oIsi, e3, e4, e2, he, ix0, hx, ht, sRaise]
  rfl
theorem ck_sz {w : Str} {xs : List D} {st : Sto} (he : oEq (.tup (.str w :: xs)) (.tup []) st = .ok (.bl false) st) (hs : oNe ((valD k_SIZES v_SIZES w).getD .non) (.int ((xs.length + 1 : Nat) : Int)) st = .ok (.bl true) st) : F_check_kind [shr one, shr other, cst rows, .tup (.str w :: xs)] st = .exc (bp (.str "form")) st := by
  have e2 : oTup [] st = .ok (.tup []) st := rfl
  have e3 : tyD (.tup (.str w :: xs)) st = some .tuple := rfl
  have e4 : isi .tuple .tuple = true := rfl
  have e5 : bLen [.tup (.str w :: xs)] st = .ok (.int ((xs.length + 1 : Nat) : Int)) st := rfl
  simp only [R_check_kind, T_check_kind, dFn, tupIt_t, tupIt_shr, tupIt_cst, tupIt_cstR, lstIt_l, lstIt_f, lstIt_pls, sSeq, sSet, sNew, mkL, mkM, sApp, sExt, sSto, dOw2, dOw1, dOwR, dOwG2, dOwG1, ownV, sFrz, frzE, nLst, nCat, nLc, nList, nRep, mNew, pl_non, pl_bl, pl_int, pl_str, pl_tup, pl_lst, pl_fls, pl_dic, pl_ptr, pl_fr, pl_shP, pl_shr, pl_cst, pl_cstR, pl_plD, pl_plsD, sPar, sRet, sRetN, sIf, sNil, sExpr, evL, dCall, dCallF, dVar, dC, dOp1, dOp2, dTst, dTru, tru, dNotT, dAndT, dOrT, dAndV, dOrV, dNotV, dIf, List.map_cons, List.map_nil, List.length_cons, List.length_nil, Nat.sub_self, Nat.reduceAdd, Nat.reduceSub, List.replicate_zero, List.reduceReplicate, List.append_nil, List.cons_append, List.nil_append, List.getElem?_cons_succ, List.getElem?_cons_zero, Out.bind_ok, Out.to_ok, List.set_cons_zero, List.set_cons_succ, if_true, if_false, Bool.not_false, Bool.not_true, Bool.false_eq_true, Bool.true_eq_false, reduceIte, if_pos, ev_need_question h1 h2 h, oIsi, e3, e4, e2, he, ix0, tyD, isi, decide_true, oWGet, e5, hs, sRaise]
  rfl
theorem ck_go {w : Str} {xs : List D} {st : Sto} {b : Bool} (he : oEq (.tup (.str w :: xs)) (.tup []) st = .ok (.bl false) st) (hs : oNe ((valD k_SIZES v_SIZES w).getD .non) (.int ((xs.length + 1 : Nat) : Int)) st = .ok (.bl false) st)
    (hd : F_does_hold [shr one, shr other, cst rows, .tup (.str w :: xs)] st = .ok (.bl b) st) : F_check_kind [shr one, shr other, cst rows, .tup (.str w :: xs)] st = if b = true then .ok (.str w) st else .exc (bp (.str w)) st := by
  have e2 : oTup [] st = .ok (.tup []) st := rfl
  have e3 : tyD (.tup (.str w :: xs)) st = some .tuple := rfl
  have e4 : isi .tuple .tuple = true := rfl
  have e5 : bLen [.tup (.str w :: xs)] st = .ok (.int ((xs.length + 1 : Nat) : Int)) st := rfl
  cases b <;> simp only [R_check_kind, T_check_kind, dFn, tupIt_t, tupIt_shr, tupIt_cst, tupIt_cstR, lstIt_l, lstIt_f, lstIt_pls, sSeq, sSet, sNew, mkL, mkM, sApp, sExt, sSto, dOw2, dOw1, dOwR, dOwG2, dOwG1, ownV, sFrz, frzE, nLst, nCat, nLc, nList, nRep, mNew, pl_non, pl_bl, pl_int, pl_str, pl_tup, pl_lst, pl_fls, pl_dic, pl_ptr, pl_fr, pl_shP, pl_shr, pl_cst, pl_cstR, pl_plD, pl_plsD, sPar, sRet, sRetN, sIf, sNil, sExpr, evL, dCall, dCallF, dVar, dC, dOp1, dOp2, dTst, dTru, tru, dNotT, dAndT, dOrT, dAndV, dOrV, dNotV, dIf, List.map_cons, List.map_nil, List.length_cons, List.length_nil, Nat.sub_self, Nat.reduceAdd, Nat.reduceSub, List.replicate_zero, List.reduceReplicate, List.append_nil, List.cons_append, List.nil_append, List.getElem?_cons_succ, List.getElem?_cons_zero, Out.bind_ok, Out.to_ok, List.set_cons_zero, List.set_cons_succ, if_true, if_false, Bool.not_false, Bool.not_true, Bool.false_eq_true, Bool.true_eq_false, reduceIte, if_pos, ev_need_question h1 h2 h, oIsi, e3, e4, e2, he, ix0, tyD, isi, decide_true, oWGet, e5, hs, hd, sRaise] <;> rfl
end

theorem hd_ok {a b c d x : D} {st : Sto} (pa : plainD a = true) (pb : plainD b = true) (pc : plainD c = true) (pd : plainD d = true) (h : F_check_kind [a, b, c, d] st = .ok x st) : F__law_heard [a, b, c, d] st = .ok (.lst [x]) st := by
  have e : ∀ y st, oLst [y] st = .ok (.lst [y]) st := fun _ _ => rfl
  simp only [R__law_heard, T__law_heard, dFn, tupIt_t, tupIt_shr, tupIt_cst, tupIt_cstR, lstIt_l, lstIt_f, lstIt_pls, sSeq, sSet, sNew, mkL, mkM, sApp, sExt, sSto, dOw2, dOw1, dOwR, dOwG2, dOwG1, ownV, sFrz, frzE, nLst, nCat, nLc, nList, nRep, mNew, pl_non, pl_bl, pl_int, pl_str, pl_tup, pl_lst, pl_fls, pl_dic, pl_ptr, pl_fr, pl_shP, pl_shr, pl_cst, pl_cstR, pl_plD, pl_plsD, sPar, sRet, sRetN, sIf, sNil, sExpr, evL, dCall, dCallF, dVar, dC, dOp1, dOp2, dTst, dTru, tru, dNotT, dAndT, dOrT, dAndV, dOrV, dNotV, dIf, List.map_cons, List.map_nil, List.length_cons, List.length_nil, Nat.sub_self, Nat.reduceAdd, Nat.reduceSub, List.replicate_zero, List.reduceReplicate, List.append_nil, List.cons_append, List.nil_append, List.getElem?_cons_succ, List.getElem?_cons_zero, Out.bind_ok, Out.to_ok, List.set_cons_zero, List.set_cons_succ, if_true, if_false, Bool.not_false, Bool.not_true, Bool.false_eq_true, Bool.true_eq_false, reduceIte, if_pos, pa, pb, pc, pd, sTryR, B__law_heard_0, h, e]
theorem hd_ex {a b c d x : D} {st : Sto} (pa : plainD a = true) (pb : plainD b = true) (pc : plainD c = true) (pd : plainD d = true) (h : F_check_kind [a, b, c, d] st = .exc (bp x) st) : F__law_heard [a, b, c, d] st = .ok x st := by
  have e : catT t_BadPaper "BadPaper" = some true := rfl
  have e2 : xF "BadPaper" "part" (bp x) st = .ok x st := rfl
  simp only [R__law_heard, T__law_heard, dFn, tupIt_t, tupIt_shr, tupIt_cst, tupIt_cstR, lstIt_l, lstIt_f, lstIt_pls, sSeq, sSet, sNew, mkL, mkM, sApp, sExt, sSto, dOw2, dOw1, dOwR, dOwG2, dOwG1, ownV, sFrz, frzE, nLst, nCat, nLc, nList, nRep, mNew, pl_non, pl_bl, pl_int, pl_str, pl_tup, pl_lst, pl_fls, pl_dic, pl_ptr, pl_fr, pl_shP, pl_shr, pl_cst, pl_cstR, pl_plD, pl_plsD, sPar, sRet, sRetN, sIf, sNil, sExpr, evL, dCall, dCallF, dVar, dC, dOp1, dOp2, dTst, dTru, tru, dNotT, dAndT, dOrT, dAndV, dOrV, dNotV, dIf, List.map_cons, List.map_nil, List.length_cons, List.length_nil, Nat.sub_self, Nat.reduceAdd, Nat.reduceSub, List.replicate_zero, List.reduceReplicate, List.append_nil, List.cons_append, List.nil_append, List.getElem?_cons_succ, List.getElem?_cons_zero, Out.bind_ok, Out.to_ok, List.set_cons_zero, List.set_cons_succ, if_true, if_false, Bool.not_false, Bool.not_true, Bool.false_eq_true, Bool.true_eq_false, reduceIte, if_pos, pa, pb, pc, pd, sTryR, B__law_heard_0, h, Out.bind_exc, Out.to, bp, e] at e2 ⊢
  simp only [e2]
  rfl

theorem law_ratio_loop (st : Sto) (u v : Option D) : ∀ (n x y : Nat), y < n → wLoop C__law_ratio_0 B__law_ratio_0 n [u, v, some (.int x), some (.int y)] st = some (.nx [u, v, some (.int (Nat.gcd x y)), some (.int 0)], st)
  | 0, x, y, h => by omega
  | n + 1, x, y, h => by
    rw [wLoop]
    cases y with
    | zero => simp [C__law_ratio_0, dTst, dOp2, dVar, dC, oNe_int, plainD]
    | succ y =>
      have e : ((x : Int) % ((y + 1 : Nat) : Int)) = ((x % (y + 1) : Nat) : Int) := by omega
      have hp : (0 : Int) < ((y + 1 : Nat) : Int) := by omega
      have hn : (((y + 1 : Nat) : Int) == 0) = false := by simp; omega
      have hc : C__law_ratio_0 [u, v, some (.int x), some (.int ((y + 1 : Nat) : Int))] st = .ok true st := by simp only [C__law_ratio_0, dFn, tupIt_t, tupIt_shr, tupIt_cst, tupIt_cstR, lstIt_l, lstIt_f, lstIt_pls, sSeq, sSet, sNew, mkL, mkM, sApp, sExt, sSto, dOw2, dOw1, dOwR, dOwG2, dOwG1, ownV, sFrz, frzE, nLst, nCat, nLc, nList, nRep, mNew, pl_non, pl_bl, pl_int, pl_str, pl_tup, pl_lst, pl_fls, pl_dic, pl_ptr, pl_fr, pl_shP, pl_shr, pl_cst, pl_cstR, pl_plD, pl_plsD, sPar, sRet, sRetN, sIf, sNil, sExpr, evL, dCall, dCallF, dVar, dC, dOp1, dOp2, dTst, dTru, tru, dNotT, dAndT, dOrT, dAndV, dOrV, dNotV, dIf, List.map_cons, List.map_nil, List.length_cons, List.length_nil, Nat.sub_self, Nat.reduceAdd, Nat.reduceSub, List.replicate_zero, List.reduceReplicate, List.append_nil, List.cons_append, List.nil_append, List.getElem?_cons_succ, List.getElem?_cons_zero, Out.bind_ok, Out.to_ok, List.set_cons_zero, List.set_cons_succ, if_true, if_false, Bool.not_false, Bool.not_true, Bool.false_eq_true, Bool.true_eq_false, reduceIte, if_pos, oNe_int, hn]
      have hb : B__law_ratio_0 [u, v, some (.int x), some (.int ((y + 1 : Nat) : Int))] st = some (.nx [u, v, some (.int ((y + 1 : Nat) : Int)), some (.int ((x % (y + 1) : Nat) : Int))], st) := by simp only [B__law_ratio_0, dFn, tupIt_t, tupIt_shr, tupIt_cst, tupIt_cstR, lstIt_l, lstIt_f, lstIt_pls, sSeq, sSet, sNew, mkL, mkM, sApp, sExt, sSto, dOw2, dOw1, dOwR, dOwG2, dOwG1, ownV, sFrz, frzE, nLst, nCat, nLc, nList, nRep, mNew, pl_non, pl_bl, pl_int, pl_str, pl_tup, pl_lst, pl_fls, pl_dic, pl_ptr, pl_fr, pl_shP, pl_shr, pl_cst, pl_cstR, pl_plD, pl_plsD, sPar, sRet, sRetN, sIf, sNil, sExpr, evL, dCall, dCallF, dVar, dC, dOp1, dOp2, dTst, dTru, tru, dNotT, dAndT, dOrT, dAndV, dOrV, dNotV, dIf, List.map_cons, List.map_nil, List.length_cons, List.length_nil, Nat.sub_self, Nat.reduceAdd, Nat.reduceSub, List.replicate_zero, List.reduceReplicate, List.append_nil, List.cons_append, List.nil_append, List.getElem?_cons_succ, List.getElem?_cons_zero, Out.bind_ok, Out.to_ok, List.set_cons_zero, List.set_cons_succ, if_true, if_false, Bool.not_false, Bool.not_true, Bool.false_eq_true, Bool.true_eq_false, reduceIte, if_pos, bInt, oMod_pos hp, e]
      simp only [hc, Out.to_ok, if_true, hb]
      have := Nat.mod_lt x (Nat.succ_pos y)
      rw [law_ratio_loop st u v n (y + 1) (x % (y + 1)) (Nat.lt_of_lt_of_le this (by omega))]
      rw [Nat.gcd_comm x, Nat.gcd_rec (y + 1) x, Nat.gcd_comm]
theorem ev_law_ratio {n : Nat} (t b : Int) (st : Sto) (h : 0 < b) (hs : Sm n b) (hn : n < 9000 := by decide) : F__law_ratio [.int t, .int b] st = .ok (fr (Rat.divInt t b)) st := by
  have ha : (if t < 0 then -t else t) = ((t.natAbs : Nat) : Int) := by split <;> omega
  obtain ⟨m, rfl⟩ : ∃ m : Nat, b = m := ⟨b.toNat, by omega⟩
  simp only [R__law_ratio, T__law_ratio, dFn, tupIt_t, tupIt_shr, tupIt_cst, tupIt_cstR, lstIt_l, lstIt_f, lstIt_pls, sSeq, sSet, sNew, mkL, mkM, sApp, sExt, sSto, dOw2, dOw1, dOwR, dOwG2, dOwG1, ownV, sFrz, frzE, nLst, nCat, nLc, nList, nRep, mNew, pl_non, pl_bl, pl_int, pl_str, pl_tup, pl_lst, pl_fls, pl_dic, pl_ptr, pl_fr, pl_shP, pl_shr, pl_cst, pl_cstR, pl_plD, pl_plsD, sPar, sRet, sRetN, sIf, sNil, sExpr, evL, dCall, dCallF, dVar, dC, dOp1, dOp2, dTst, dTru, tru, dNotT, dAndT, dOrT, dAndV, dOrV, dNotV, dIf, List.map_cons, List.map_nil, List.length_cons, List.length_nil, Nat.sub_self, Nat.reduceAdd, Nat.reduceSub, List.replicate_zero, List.reduceReplicate, List.append_nil, List.cons_append, List.nil_append, List.getElem?_cons_succ, List.getElem?_cons_zero, Out.bind_ok, Out.to_ok, List.set_cons_zero, List.set_cons_succ, if_true, if_false, Bool.not_false, Bool.not_true, Bool.false_eq_true, Bool.true_eq_false, reduceIte, if_pos, bAbs, ha, sWhile, fuI]
  rw [law_ratio_loop st _ _ _ _ _ (by simp)]
  have e : (Nat.gcd t.natAbs m : Int) = (Int.gcd t m : Int) := rfl
  simp only [dFn, tupIt_t, tupIt_shr, tupIt_cst, tupIt_cstR, lstIt_l, lstIt_f, lstIt_pls, sSeq, sSet, sNew, mkL, mkM, sApp, sExt, sSto, dOw2, dOw1, dOwR, dOwG2, dOwG1, ownV, sFrz, frzE, nLst, nCat, nLc, nList, nRep, mNew, pl_non, pl_bl, pl_int, pl_str, pl_tup, pl_lst, pl_fls, pl_dic, pl_ptr, pl_fr, pl_shP, pl_shr, pl_cst, pl_cstR, pl_plD, pl_plsD, sPar, sRet, sRetN, sIf, sNil, sExpr, evL, dCall, dCallF, dVar, dC, dOp1, dOp2, dTst, dTru, tru, dNotT, dAndT, dOrT, dAndV, dOrV, dNotV, dIf, List.map_cons, List.map_nil, List.length_cons, List.length_nil, Nat.sub_self, Nat.reduceAdd, Nat.reduceSub, List.replicate_zero, List.reduceReplicate, List.append_nil, List.cons_append, List.nil_append, List.getElem?_cons_succ, List.getElem?_cons_zero, Out.bind_ok, Out.to_ok, List.set_cons_zero, List.set_cons_succ, if_true, if_false, Bool.not_false, Bool.not_true, Bool.false_eq_true, Bool.true_eq_false, reduceIte, if_pos, e, oFdiv_sm (gcd_pos' h) (gcd_sm (t := t) h hs) hn, oTup2]
  rw [fr_divInt t m h]

theorem ev_law_heft {cs : List Int} {a : Nat} {st r : Sto} (d : Dr cs a st r) (ha : a < 2 ^ 50) : ∃ (q : Rat) (st' : Sto), 0 < q.num ∧ SmQ 4 q ∧ Dr cs (a + 2) st' r ∧ F__law_heft [.ptr 1] st = .ok (fr q) st' := by
  obtain ⟨x, st1, x0, x1, d1, e1⟩ := drw d 6
  obtain ⟨y, st2, y0, y1, d2, e2⟩ := drw d1 4
  have hb : 0 < 1 + y := by omega
  have s1 : Sm 4 (1 + y) := by unfold Sm; omega
  have s2 : Sm 4 (1 + x) := by unfold Sm; omega
  refine ⟨Rat.divInt (1 + x) (1 + y), st2, ?_, SmQ.divInt s2 s1 (by omega), d2, ?_⟩
  · rw [Rat.num_divInt, Int.sign_eq_one_of_pos hb, Int.one_mul]
    exact Int.ediv_pos_of_pos_of_dvd (by omega) (by omega) (Int.gcd_dvd_right ..)
  · simp only [R__law_heft, T__law_heft, dFn, tupIt_t, tupIt_shr, tupIt_cst, tupIt_cstR, lstIt_l, lstIt_f, lstIt_pls, sSeq, sSet, sNew, mkL, mkM, sApp, sExt, sSto, dOw2, dOw1, dOwR, dOwG2, dOwG1, ownV, sFrz, frzE, nLst, nCat, nLc, nList, nRep, mNew, pl_non, pl_bl, pl_int, pl_str, pl_tup, pl_lst, pl_fls, pl_dic, pl_ptr, pl_fr, pl_shP, pl_shr, pl_cst, pl_cstR, pl_plD, pl_plsD, sPar, sRet, sRetN, sIf, sNil, sExpr, evL, dCall, dCallF, dVar, dC, dOp1, dOp2, dTst, dTru, tru, dNotT, dAndT, dOrT, dAndV, dOrV, dNotV, dIf, List.map_cons, List.map_nil, List.length_cons, List.length_nil, Nat.sub_self, Nat.reduceAdd, Nat.reduceSub, List.replicate_zero, List.reduceReplicate, List.append_nil, List.cons_append, List.nil_append, List.getElem?_cons_succ, List.getElem?_cons_zero, Out.bind_ok, Out.to_ok, List.set_cons_zero, List.set_cons_succ, if_true, if_false, Bool.not_false, Bool.not_true, Bool.false_eq_true, Bool.true_eq_false, reduceIte, if_pos, e1, e2, oAdd, ev_law_ratio _ _ _ hb s1]

theorem toIntK_inl : ∀ is : List Int, toIntK (is.map Sum.inl) = some is
  | [] => rfl
  | i :: is => by simp only [List.map_cons, toIntK, toIntK_inl is, Option.map_some]
theorem putKs_inl (is : List Int) (x : Int) : putKs (is.map (Sum.inl : Int → Key)) (.inl x) = (if x ∈ is then is else is ++ [x]).map Sum.inl := by
  unfold putKs
  by_cases h : x ∈ is
  · have : (Sum.inl x : Key) ∈ is.map Sum.inl := List.mem_map.mpr ⟨x, h, rfl⟩
    rw [if_pos this, if_pos h]
  · have : ¬ (Sum.inl x : Key) ∈ is.map Sum.inl := fun z => by
      obtain ⟨y, hy, e⟩ := List.mem_map.mp z
      cases e; exact h hy
    rw [if_neg this, if_neg h, List.map_append]; rfl
theorem ev_law_marks {cs : List Int} {a : Nat} {st r : Sto} (d : Dr cs a st r) (ha : a < 2 ^ 50) (many most : Nat) (hm : 0 < many) (hm2 : many ≤ 20) (hs : most ≤ 50) :
    ∃ (is : List Int) (st' : Sto) (a' : Nat), is.Pairwise (· < ·) ∧ (∀ i ∈ is, -(most : Int) ≤ i ∧ i ≤ most) ∧ 0 < is.length ∧ is.length ≤ many ∧ a' ≤ a + 1 + many ∧ Dr cs a' st' r ∧
      F__law_marks [.ptr 1, .int many, .int most] st = .ok (.lst (is.map .int)) st' := by
  obtain ⟨x, st1, x0, x1, d1, e1⟩ := drw d many (by omega) (by unfold Sm; omega)
  have hrng : dRng1 [.int (1 + x)] st1 = .ok (rngL 0 (1 + x).toNat) st1 := dRng1_ok (by omega) (by omega)
  obtain ⟨env', st', ⟨y, is, ds, rfl, nd, hin, hlen, hpos, dr, hdl⟩, he⟩ := fLoop_inv (t := .nm 4) (B := B__law_marks_0) (fun k env s => ∃ (y : Option D) (is : List Int) (ds : List D), env = [some (.ptr 1), some (.int many), some (.int most), some (.od (is.map .inl) ds), y] ∧ is.Nodup ∧ (∀ i ∈ is, -(most : Int) ≤ i ∧ i ≤ most) ∧ is.length ≤ k ∧ (0 < k → 0 < is.length) ∧
      Dr cs (a + 1 + k) s r ∧ ds.length = is.length) (rngL 0 (1 + x).toNat) 0 [some (.ptr 1), some (.int many), some (.int most), some (.od [] []), none] st1
    ⟨none, [], [], rfl, by simp, by simp, by simp, by simp, d1, rfl⟩ fun j dd hd env s ⟨y, is, ds, he, nd, hin, hlen, hpos, dr, hdl⟩ => by
      subst he
      have hj := (rngL_get hd).1
      obtain ⟨w, s2, w0, w1, d2, e2⟩ := drw dr (2 * most + 1) (by omega) (by unfold Sm; omega) (by omega)
      refine ⟨_, _, s2, rfl, ?_, some dd, (if (w - most) ∈ is then is else is ++ [w - most]), putDs (is.map (Sum.inl : Int → Key)) ds (Sum.inl (w - most)) (.bl true), rfl, ?_, ?_, ?_, ?_, d2, ?_⟩
      · have hz : ((is.map (Sum.inl : Int → Key)).length < sizeLine) := by rw [sizeLine_eq]; simp; omega
        simp only [B__law_marks_0, dFn, tupIt_t, tupIt_shr, tupIt_cst, tupIt_cstR, lstIt_l, lstIt_f, lstIt_pls, sSeq, sSet, sNew, mkL, mkM, sApp, sExt, sSto, dOw2, dOw1, dOwR, dOwG2, dOwG1, ownV, sFrz, frzE, nLst, nCat, nLc, nList, nRep, mNew, pl_non, pl_bl, pl_int, pl_str, pl_tup, pl_lst, pl_fls, pl_dic, pl_ptr, pl_fr, pl_shP, pl_shr, pl_cst, pl_cstR, pl_plD, pl_plsD, sPar, sRet, sRetN, sIf, sNil, sExpr, evL, dCall, dCallF, dVar, dC, dOp1, dOp2, dTst, dTru, tru, dNotT, dAndT, dOrT, dAndV, dOrV, dNotV, dIf, List.map_cons, List.map_nil, List.length_cons, List.length_nil, Nat.sub_self, Nat.reduceAdd, Nat.reduceSub, List.replicate_zero, List.reduceReplicate, List.append_nil, List.cons_append, List.nil_append, List.getElem?_cons_succ, List.getElem?_cons_zero, Out.bind_ok, Out.to_ok, List.set_cons_zero, List.set_cons_succ, if_true, if_false, Bool.not_false, Bool.not_true, Bool.false_eq_true, Bool.true_eq_false, reduceIte, if_pos, oMul_sm (show Sm 2 2 by decide) (show Sm 6 (most : Int) by unfold Sm; omega), oAdd, e2, oSub, dKey, hz, putKs_inl]
      · split
        · exact nd
        · rename_i hn
          rw [List.nodup_append]
          exact ⟨nd, by simp, fun p hp q hq => by simp at hq; subst hq; intro z; subst z; exact hn hp⟩
      · intro i hi
        split at hi
        · exact hin i hi
        · rcases List.mem_append.mp hi with hi | hi
          · exact hin i hi
          · simp at hi; omega
      · split
        · omega
        · simp; omega
      · intro _
        split
        · rename_i hmem
          exact List.length_pos_of_mem hmem
        · simp
      · have q := (putDs_len (is.map (Sum.inl : Int → Key)) ds (Sum.inl (w - most)) (.bl true) (by simpa using hdl.symm)).symm
        rw [putKs_inl, List.length_map] at q
        exact q
  have hL : (rngL 0 (1 + x).toNat).length = (1 + x).toNat := by simp [rngL]
  rw [hL] at hlen hpos dr
  have hperm := isrt_perm is
  refine ⟨isrt is, st', a + 1 + (0 + (1 + x).toNat), ?_, fun i hi => hin i (hperm.mem_iff.mp hi), by rw [hperm.length_eq]; exact hpos (by omega), by rw [hperm.length_eq]; omega, by omega, dr, ?_⟩
  · have h1 := isrt_up is
    have h2 : (isrt is).Nodup := hperm.nodup_iff.mpr nd
    refine (h1.and h2).imp fun ⟨p, q⟩ => by omega
  · have hsrt : bSorted [.dic (is.map .inl) ds] st' = .ok (.lst ((isrt is).map .int)) st' := by
      simp only [bSorted, dicV, Option.bind_some, toIntK_inl]
      rw [if_pos (by omega)]
    simp only [R__law_marks, T__law_marks, dFn, tupIt_t, tupIt_shr, tupIt_cst, tupIt_cstR, lstIt_l, lstIt_f, lstIt_pls, sSeq, sSet, sNew, mkL, mkM, sApp, sExt, sSto, dOw2, dOw1, dOwR, dOwG2, dOwG1, ownV, sFrz, frzE, nLst, nCat, nLc, nList, nRep, mNew, pl_non, pl_bl, pl_int, pl_str, pl_tup, pl_lst, pl_fls, pl_dic, pl_ptr, pl_fr, pl_shP, pl_shr, pl_cst, pl_cstR, pl_plD, pl_plsD, sPar, sRet, sRetN, sIf, sNil, sExpr, evL, dCall, dCallF, dVar, dC, dOp1, dOp2, dTst, dTru, tru, dNotT, dAndT, dOrT, dAndV, dOrV, dNotV, dIf, List.map_cons, List.map_nil, List.length_cons, List.length_nil, Nat.sub_self, Nat.reduceAdd, Nat.reduceSub, List.replicate_zero, List.reduceReplicate, List.append_nil, List.cons_append, List.nil_append, List.getElem?_cons_succ, List.getElem?_cons_zero, Out.bind_ok, Out.to_ok, List.set_cons_zero, List.set_cons_succ, if_true, if_false, Bool.not_false, Bool.not_true, Bool.false_eq_true, Bool.true_eq_false, reduceIte, if_pos, sFor, dItR1, e1, oAdd, hrng, he, hsrt]

theorem share_go {cs : List Int} {r : Sto} (x y : Option D) : ∀ (is : List Int) (a : Nat) (st : Sto) (acc : List (Int × Rat)), Dr cs a st r → a + 2 * is.length < 2 ^ 40 → acc.length + is.length < 1000 →
    ∃ (l : List (Int × Rat)) (st' : Sto), l.map (·.1) = is ∧ (∀ p ∈ l, 0 < p.2.num ∧ SmQ 4 p.2) ∧ Dr cs (a + 2 * is.length) st' r ∧ lcGo (.nm 2) dYes E__law_share_0 [some (.ptr 1), x, y] (is.map .int) st (acc.map shP) = .ok ((acc ++ l).map shP) st'
  | [], a, st, acc, d, _, _ => ⟨[], st, rfl, by simp, d, by simp [lcGo]⟩
  | i :: is, a, st, acc, d, ha, hl => by
    simp only [List.length_cons] at ha hl
    obtain ⟨q, st1, hq, sq, d1, e1⟩ := ev_law_heft d (by omega)
    obtain ⟨l, st', h1, h2, h3, h4⟩ := share_go x y is (a + 2) st1 (acc ++ [(i, q)]) d1 (by omega) (by simp; omega)
    refine ⟨(i, q) :: l, st', by simp [h1], fun p hp => ?_, by rw [List.length_cons, show a + 2 * (is.length + 1) = a + 2 + 2 * is.length by omega]; exact h3, ?_⟩
    · rcases List.mem_cons.mp hp with rfl | hp
      · exact ⟨hq, sq⟩
      · exact h2 p hp
    · have hz : (acc.map shP).length < sizeLine := by rw [sizeLine_eq]; simp; omega
      have he : E__law_share_0 [some (.ptr 1), x, some (.int i)] st = .ok (shP (i, q)) st1 := by
        simp only [E__law_share_0, dFn, tupIt_t, tupIt_shr, tupIt_cst, tupIt_cstR, lstIt_l, lstIt_f, lstIt_pls, sSeq, sSet, sNew, mkL, mkM, sApp, sExt, sSto, dOw2, dOw1, dOwR, dOwG2, dOwG1, ownV, sFrz, frzE, nLst, nCat, nLc, nList, nRep, mNew, pl_non, pl_bl, pl_int, pl_str, pl_tup, pl_lst, pl_fls, pl_dic, pl_ptr, pl_fr, pl_shP, pl_shr, pl_cst, pl_cstR, pl_plD, pl_plsD, sPar, sRet, sRetN, sIf, sNil, sExpr, evL, dCall, dCallF, dVar, dC, dOp1, dOp2, dTst, dTru, tru, dNotT, dAndT, dOrT, dAndV, dOrV, dNotV, dIf, List.map_cons, List.map_nil, List.length_cons, List.length_nil, Nat.sub_self, Nat.reduceAdd, Nat.reduceSub, List.replicate_zero, List.reduceReplicate, List.append_nil, List.cons_append, List.nil_append, List.getElem?_cons_succ, List.getElem?_cons_zero, Out.bind_ok, Out.to_ok, List.set_cons_zero, List.set_cons_succ, if_true, if_false, Bool.not_false, Bool.not_true, Bool.false_eq_true, Bool.true_eq_false, reduceIte, if_pos, e1, oTup2]; rfl
      rw [List.map_cons, lcGo]
      simp only [Pat.set, List.set_cons_succ, List.set_cons_zero, dYes, he, hz, if_true]
      have e2 : acc.map shP ++ [shP (i, q)] = (acc ++ [(i, q)]).map shP := by simp
      rw [e2, h4]
      simp
theorem ev_law_share {cs : List Int} {a : Nat} {st r : Sto} (d : Dr cs a st r) (ha : a < 2 ^ 30) (many : Nat) (hm : 0 < many) (hm2 : many ≤ 8) :
    ∃ (l : List (Int × Rat)) (st' : Sto) (a' : Nat), Shr l ∧ (∀ p ∈ l, -9 ≤ p.1 ∧ p.1 ≤ 9 ∧ SmQ 4 p.2) ∧ 0 < l.length ∧ l.length ≤ many ∧ a' ≤ a + 1 + 3 * many ∧ Dr cs a' st' r ∧ F__law_share [.ptr 1, .int many] st = .ok (shr l) st' := by
  obtain ⟨is, st1, a1, up, hin, h0, hl, ha1, d1, e1⟩ := ev_law_marks d (by omega) many 9 hm (by omega) (by omega)
  obtain ⟨l, st2, m1, m2, d2, e2⟩ := share_go (some (.int many)) none is a1 st1 [] d1 (by omega) (by simp; omega)
  have ll : l.length = is.length := by rw [← m1, List.length_map]
  refine ⟨l, st2, a1 + 2 * is.length, ⟨?_, fun p hp => ?_, fun p hp => (m2 p hp).1, by omega⟩, fun p hp => ?_, by omega, by omega, by omega, d2, ?_⟩
  · rw [← m1, List.pairwise_map] at up; exact up
  · have := hin p.1 (m1 ▸ List.mem_map.mpr ⟨p, hp, rfl⟩); omega
  · have := hin p.1 (m1 ▸ List.mem_map.mpr ⟨p, hp, rfl⟩); exact ⟨by omega, by omega, (m2 p hp).2⟩
  · have hw : wipeE [some (D.ptr 1), some (.int many), none] [2] = [some (.ptr 1), some (.int many), none] := rfl
    have ht : bTuple [.lst (l.map shP)] st2 = .ok (shr l) st2 := rfl
    simp only [List.map_nil, List.nil_append] at e2
    have e1' : F__law_marks [.ptr 1, .int many, .int 9] st = .ok (.lst (is.map .int)) st1 := e1
    simp only [R__law_share, T__law_share, dFn, tupIt_t, tupIt_shr, tupIt_cst, tupIt_cstR, lstIt_l, lstIt_f, lstIt_pls, sSeq, sSet, sNew, mkL, mkM, sApp, sExt, sSto, dOw2, dOw1, dOwR, dOwG2, dOwG1, ownV, sFrz, frzE, nLst, nCat, nLc, nList, nRep, mNew, pl_non, pl_bl, pl_int, pl_str, pl_tup, pl_lst, pl_fls, pl_dic, pl_ptr, pl_fr, pl_shP, pl_shr, pl_cst, pl_cstR, pl_plD, pl_plsD, sPar, sRet, sRetN, sIf, sNil, sExpr, evL, dCall, dCallF, dVar, dC, dOp1, dOp2, dTst, dTru, tru, dNotT, dAndT, dOrT, dAndV, dOrV, dNotV, dIf, List.map_cons, List.map_nil, List.length_cons, List.length_nil, Nat.sub_self, Nat.reduceAdd, Nat.reduceSub, List.replicate_zero, List.reduceReplicate, List.append_nil, List.cons_append, List.nil_append, List.getElem?_cons_succ, List.getElem?_cons_zero, Out.bind_ok, Out.to_ok, List.set_cons_zero, List.set_cons_succ, if_true, if_false, Bool.not_false, Bool.not_true, Bool.false_eq_true, Bool.true_eq_false, reduceIte, if_pos, dLc, dItL, e1', hw, e2, ht]

def kindW (ups dns : List (Nat × Nat)) : Str := if ups.isEmpty = true then (if dns.isEmpty = true then "straight" else "down") else if dns.isEmpty = true then "up" else "mixed"
theorem ev_kind_in {one other : List (Int × Rat)} {rows : List (List Int)} (h1 : Shr one) (h2 : Shr other) (h : Cst one.length other.length rows) (st : Sto) : F_kind_in [shr one, shr other, cst rows] st = .ok (.str (kindW (upsL one.length other rows) (dnsL one.length other rows))) st := by
  have hn : ∀ st, oLst [] st = .ok (.lst []) st := fun _ => rfl
  cases a : (upsL one.length other rows).isEmpty <;> cases b : (dnsL one.length other rows).isEmpty <;>
    simp only [R_kind_in, T_kind_in, dFn, tupIt_t, tupIt_shr, tupIt_cst, tupIt_cstR, lstIt_l, lstIt_f, lstIt_pls, sSeq, sSet, sNew, mkL, mkM, sApp, sExt, sSto, dOw2, dOw1, dOwR, dOwG2, dOwG1, ownV, sFrz, frzE, nLst, nCat, nLc, nList, nRep, mNew, pl_non, pl_bl, pl_int, pl_str, pl_tup, pl_lst, pl_fls, pl_dic, pl_ptr, pl_fr, pl_shP, pl_shr, pl_cst, pl_cstR, pl_plD, pl_plsD, sPar, sRet, sRetN, sIf, sNil, sExpr, evL, dCall, dCallF, dVar, dC, dOp1, dOp2, dTst, dTru, tru, dNotT, dAndT, dOrT, dAndV, dOrV, dNotV, dIf, List.map_cons, List.map_nil, List.length_cons, List.length_nil, Nat.sub_self, Nat.reduceAdd, Nat.reduceSub, List.replicate_zero, List.reduceReplicate, List.append_nil, List.cons_append, List.nil_append, List.getElem?_cons_succ, List.getElem?_cons_zero, Out.bind_ok, Out.to_ok, List.set_cons_zero, List.set_cons_succ, if_true, if_false, Bool.not_false, Bool.not_true, Bool.false_eq_true, Bool.true_eq_false, reduceIte, if_pos, ev_ups_in h1 h2 h, ev_downs_in h1 h2 h, hn, eq_nil, a, b, c_STRAIGHT, c_DOWN, c_UP, c_MIXED, kindW]

/-- the told paper -/
def kpD : List (Nat × Nat) → List (Nat × Nat) → D
  | [], [] => .tup [.str "straight"]
  | [], _ :: _ => .tup [.str "down"]
  | _ :: _, [] => .tup [.str "up"]
  | u :: _, d :: _ => .tup [.str "mixed", .int u.1, .int u.2, .int d.1, .int d.2]
theorem ev_kind_paper {one other : List (Int × Rat)} {rows : List (List Int)} (h1 : Shr one) (h2 : Shr other) (h : Cst one.length other.length rows) (st : Sto) : F_kind_paper [shr one, shr other, cst rows] st = .ok (kpD (upsL one.length other rows) (dnsL one.length other rows)) st := by
  have ixp : ∀ u us st, oIx (plsD (u :: us)) (.int 0) st = .ok (plD u) st := fun u us st => oIx_L (j := 0) rfl rfl
  have sq : ∀ u st, seqD (plD u) st = some [.int u.1, .int u.2] := fun _ _ => rfl
  have ot : ∀ (a b c d e : D) st, oTup [a, b, c, d, e] st = .ok (.tup [a, b, c, d, e]) st := fun _ _ _ _ _ _ => rfl
  have ot1 : ∀ (a : D) st, oTup [a] st = .ok (.tup [a]) st := fun _ _ => rfl
  have e1 : (("straight" : Str) == "mixed") = false := by decide +kernel
  have e2 : (("down" : Str) == "mixed") = false := by decide +kernel
  have e3 : (("up" : Str) == "mixed") = false := by decide +kernel
  have e4 : (("mixed" : Str) == "mixed") = true := by decide +kernel
  cases a : upsL one.length other rows with
  | nil =>
    cases b : dnsL one.length other rows with
    | nil => simp only [R_kind_paper, T_kind_paper, dFn, tupIt_t, tupIt_shr, tupIt_cst, tupIt_cstR, lstIt_l, lstIt_f, lstIt_pls, sSeq, sSet, sNew, mkL, mkM, sApp, sExt, sSto, dOw2, dOw1, dOwR, dOwG2, dOwG1, ownV, sFrz, frzE, nLst, nCat, nLc, nList, nRep, mNew, pl_non, pl_bl, pl_int, pl_str, pl_tup, pl_lst, pl_fls, pl_dic, pl_ptr, pl_fr, pl_shP, pl_shr, pl_cst, pl_cstR, pl_plD, pl_plsD, sPar, sRet, sRetN, sIf, sNil, sExpr, evL, dCall, dCallF, dVar, dC, dOp1, dOp2, dTst, dTru, tru, dNotT, dAndT, dOrT, dAndV, dOrV, dNotV, dIf, List.map_cons, List.map_nil, List.length_cons, List.length_nil, Nat.sub_self, Nat.reduceAdd, Nat.reduceSub, List.replicate_zero, List.reduceReplicate, List.append_nil, List.cons_append, List.nil_append, List.getElem?_cons_succ, List.getElem?_cons_zero, Out.bind_ok, Out.to_ok, List.set_cons_zero, List.set_cons_succ, if_true, if_false, Bool.not_false, Bool.not_true, Bool.false_eq_true, Bool.true_eq_false, reduceIte, if_pos, ev_need_question h1 h2 h, ev_kind_in h1 h2 h, a, b, kindW, List.isEmpty_nil, c_MIXED, oEq_str "straight" "mixed", e1, ot1, kpD]
    | cons d ds => simp only [R_kind_paper, T_kind_paper, dFn, tupIt_t, tupIt_shr, tupIt_cst, tupIt_cstR, lstIt_l, lstIt_f, lstIt_pls, sSeq, sSet, sNew, mkL, mkM, sApp, sExt, sSto, dOw2, dOw1, dOwR, dOwG2, dOwG1, ownV, sFrz, frzE, nLst, nCat, nLc, nList, nRep, mNew, pl_non, pl_bl, pl_int, pl_str, pl_tup, pl_lst, pl_fls, pl_dic, pl_ptr, pl_fr, pl_shP, pl_shr, pl_cst, pl_cstR, pl_plD, pl_plsD, sPar, sRet, sRetN, sIf, sNil, sExpr, evL, dCall, dCallF, dVar, dC, dOp1, dOp2, dTst, dTru, tru, dNotT, dAndT, dOrT, dAndV, dOrV, dNotV, dIf, List.map_cons, List.map_nil, List.length_cons, List.length_nil, Nat.sub_self, Nat.reduceAdd, Nat.reduceSub, List.replicate_zero, List.reduceReplicate, List.append_nil, List.cons_append, List.nil_append, List.getElem?_cons_succ, List.getElem?_cons_zero, Out.bind_ok, Out.to_ok, List.set_cons_zero, List.set_cons_succ, if_true, if_false, Bool.not_false, Bool.not_true, Bool.false_eq_true, Bool.true_eq_false, reduceIte, if_pos, ev_need_question h1 h2 h, ev_kind_in h1 h2 h, a, b, kindW, List.isEmpty_nil, List.isEmpty_cons, c_MIXED, oEq_str "down" "mixed", e2, ot1, kpD]
  | cons u us =>
    cases b : dnsL one.length other rows with
    | nil => simp only [R_kind_paper, T_kind_paper, dFn, tupIt_t, tupIt_shr, tupIt_cst, tupIt_cstR, lstIt_l, lstIt_f, lstIt_pls, sSeq, sSet, sNew, mkL, mkM, sApp, sExt, sSto, dOw2, dOw1, dOwR, dOwG2, dOwG1, ownV, sFrz, frzE, nLst, nCat, nLc, nList, nRep, mNew, pl_non, pl_bl, pl_int, pl_str, pl_tup, pl_lst, pl_fls, pl_dic, pl_ptr, pl_fr, pl_shP, pl_shr, pl_cst, pl_cstR, pl_plD, pl_plsD, sPar, sRet, sRetN, sIf, sNil, sExpr, evL, dCall, dCallF, dVar, dC, dOp1, dOp2, dTst, dTru, tru, dNotT, dAndT, dOrT, dAndV, dOrV, dNotV, dIf, List.map_cons, List.map_nil, List.length_cons, List.length_nil, Nat.sub_self, Nat.reduceAdd, Nat.reduceSub, List.replicate_zero, List.reduceReplicate, List.append_nil, List.cons_append, List.nil_append, List.getElem?_cons_succ, List.getElem?_cons_zero, Out.bind_ok, Out.to_ok, List.set_cons_zero, List.set_cons_succ, if_true, if_false, Bool.not_false, Bool.not_true, Bool.false_eq_true, Bool.true_eq_false, reduceIte, if_pos, ev_need_question h1 h2 h, ev_kind_in h1 h2 h, a, b, kindW, List.isEmpty_nil, List.isEmpty_cons, c_MIXED, oEq_str "up" "mixed", e3, ot1, kpD]
    | cons d ds => simp only [R_kind_paper, T_kind_paper, dFn, tupIt_t, tupIt_shr, tupIt_cst, tupIt_cstR, lstIt_l, lstIt_f, lstIt_pls, sSeq, sSet, sNew, mkL, mkM, sApp, sExt, sSto, dOw2, dOw1, dOwR, dOwG2, dOwG1, ownV, sFrz, frzE, nLst, nCat, nLc, nList, nRep, mNew, pl_non, pl_bl, pl_int, pl_str, pl_tup, pl_lst, pl_fls, pl_dic, pl_ptr, pl_fr, pl_shP, pl_shr, pl_cst, pl_cstR, pl_plD, pl_plsD, sPar, sRet, sRetN, sIf, sNil, sExpr, evL, dCall, dCallF, dVar, dC, dOp1, dOp2, dTst, dTru, tru, dNotT, dAndT, dOrT, dAndV, dOrV, dNotV, dIf, List.map_cons, List.map_nil, List.length_cons, List.length_nil, Nat.sub_self, Nat.reduceAdd, Nat.reduceSub, List.replicate_zero, List.reduceReplicate, List.append_nil, List.cons_append, List.nil_append, List.getElem?_cons_succ, List.getElem?_cons_zero, Out.bind_ok, Out.to_ok, List.set_cons_zero, List.set_cons_succ, if_true, if_false, Bool.not_false, Bool.not_true, Bool.false_eq_true, Bool.true_eq_false, reduceIte, if_pos, ev_need_question h1 h2 h, ev_kind_in h1 h2 h, ev_ups_in h1 h2 h, ev_downs_in h1 h2 h, a, b, kindW, List.isEmpty_cons, c_MIXED, oEq_str "mixed" "mixed", e4, dTupW, lCons, lStar, lNil, ixp, sq, ot, kpD]

def stepB (o : List (Int × Rat)) (rows : List (List Int)) (r : Nat) (s : List (Nat × Nat) × List (Nat × Nat)) (k : Nat) : List (Nat × Nat) × List (Nat × Nat) :=
  (if bnd o rows r k < 0 then s.1 ++ [(r, k)] else s.1, if 0 < bnd o rows r k then s.2 ++ [(r, k)] else s.2)
theorem stepB_fold (o : List (Int × Rat)) (rows : List (List Int)) (r : Nat) : ∀ (ks : List Nat) (s : List (Nat × Nat) × List (Nat × Nat)), ks.foldl (stepB o rows r) s = (s.1 ++ (ks.map fun k => (r, k)).filter (fun p => decide (bnd o rows p.1 p.2 < 0)), s.2 ++ (ks.map fun k => (r, k)).filter (fun p => decide (0 < bnd o rows p.1 p.2)))
  | [], s => by simp
  | k :: ks, s => by
    rw [List.foldl_cons, stepB_fold o rows r ks]
    simp only [stepB, List.map_cons, List.filter_cons]
    by_cases h1 : bnd o rows r k < 0 <;> by_cases h2 : 0 < bnd o rows r k <;> simp [h1, h2]
theorem rows_fold (o : List (Int × Rat)) (rows : List (List Int)) (ms : List Nat) : ∀ (rs : List Nat) (s : List (Nat × Nat) × List (Nat × Nat)), rs.foldl (fun s r => ms.foldl (stepB o rows r) s) s = (s.1 ++ (rs.flatMap fun r => ms.map fun k => (r, k)).filter (fun p => decide (bnd o rows p.1 p.2 < 0)), s.2 ++ (rs.flatMap fun r => ms.map fun k => (r, k)).filter (fun p => decide (0 < bnd o rows p.1 p.2)))
  | [], s => by simp
  | r :: rs, s => by
    rw [List.foldl_cons, rows_fold o rows ms rs, stepB_fold]
    simp only [List.flatMap_cons, List.filter_append, List.append_assoc]
theorem len_fold (o : List (Int × Rat)) (rows : List (List Int)) (r : Nat) (s : List (Nat × Nat) × List (Nat × Nat)) (k : Nat) : (stepB o rows r s k).1.length ≤ s.1.length + 1 ∧ (stepB o rows r s k).2.length ≤ s.2.length + 1 := by
  unfold stepB
  constructor <;> dsimp only <;> split <;> simp
def bendE (a c5 c6 c7 c8 c9 : Option D) (other : List (Int × Rat)) (rows : List (List Int)) (S : List (Nat × Nat) × List (Nat × Nat)) : En := [a, some (shr other), some (cst rows), some (.ol (S.1.map plD)), some (.ol (S.2.map plD)), c5, c6, c7, c8, c9]
theorem bend_body {n : Nat} {other : List (Int × Rat)} {rows : List (List Int)} (h2 : Shr other) (h : Cst n other.length rows) {r s : Nat} (hr : r + 1 < n) (hs : s + 2 < other.length) (a c7 c8 c9 : Option D) (st : Sto) (S : List (Nat × Nat) × List (Nat × Nat)) (hl : S.1.length < 1000 ∧ S.2.length < 1000) :
    ∃ c7' c8' c9', B__law_bends_0 (bendE a (some (.int (r : Int))) (some (.int (s : Int))) c7 c8 c9 other rows S) st = some (.nx (bendE a (some (.int (r : Int))) (some (.int (s : Int))) c7' c8' c9' other rows (stepB other rows r S s)), st) := by
  have c1 : ∀ k : Nat, k < other.length → ∀ c3 c4 c7 c8, E__law_bends_0 [a, some (shr other), some (cst rows), c3, c4, some (.int (r : Int)), some (.int (s : Int)), c7, c8, some (.int (k : Int))] st = .ok (.int (rise rows r k)) st := fun k hk c3 c4 c7 c8 => by
    have hl := h.len
    simp only [E__law_bends_0, dFn, tupIt_t, tupIt_shr, tupIt_cst, tupIt_cstR, lstIt_l, lstIt_f, lstIt_pls, sSeq, sSet, sNew, mkL, mkM, sApp, sExt, sSto, dOw2, dOw1, dOwR, dOwG2, dOwG1, ownV, sFrz, frzE, nLst, nCat, nLc, nList, nRep, mNew, pl_non, pl_bl, pl_int, pl_str, pl_tup, pl_lst, pl_fls, pl_dic, pl_ptr, pl_fr, pl_shP, pl_shr, pl_cst, pl_cstR, pl_plD, pl_plsD, sPar, sRet, sRetN, sIf, sNil, sExpr, evL, dCall, dCallF, dVar, dC, dOp1, dOp2, dTst, dTru, tru, dNotT, dAndT, dOrT, dAndV, dOrV, dNotV, dIf, List.map_cons, List.map_nil, List.length_cons, List.length_nil, Nat.sub_self, Nat.reduceAdd, Nat.reduceSub, List.replicate_zero, List.reduceReplicate, List.append_nil, List.cons_append, List.nil_append, List.getElem?_cons_succ, List.getElem?_cons_zero, Out.bind_ok, Out.to_ok, List.set_cons_zero, List.set_cons_succ, if_true, if_false, Bool.not_false, Bool.not_true, Bool.false_eq_true, Bool.true_eq_false, reduceIte, if_pos, oAdd, oIx_cst (rows := rows) (j := r + 1) (by omega) (show (r : Int) + 1 = ((r + 1 : Nat) : Int) by omega), oIx_cst (rows := rows) (j := r) (by omega) rfl, oIx_row (r := rows.getD (r + 1) []) (j := k) (by rw [h.at_row hr]; exact hk) rfl, oIx_row (r := rows.getD r []) (j := k) (by rw [h.at_row (by omega)]; exact hk) rfl, oSub]
    rfl
  have ot3 : ∀ (a b c : D) st, oTup [a, b, c] st = .ok (.tup [a, b, c]) st := fun _ _ _ _ => rfl
  have e1 : (s : Int) + 1 = ((s + 1 : Nat) : Int) := by omega
  have e2 : (s : Int) + 2 = ((s + 2 : Nat) : Int) := by omega
  have hc : ∀ c3 c4 c7 c8 c9, lcGo (.nm 9) dYes E__law_bends_0 (wipeE [a, some (shr other), some (cst rows), c3, c4, some (.int (r : Int)), some (.int (s : Int)), c7, c8, c9] [9]) [.int s, .int ((s + 1 : Nat) : Int), .int ((s + 2 : Nat) : Int)] st [] = .ok [.int (rise rows r s), .int (rise rows r (s + 1)), .int (rise rows r (s + 2))] st := fun c3 c4 c7 c8 c9 => by
    simp only [lcGo, wipeE, Pat.set, List.set_cons_succ, List.set_cons_zero, dYes, c1 s (by omega), c1 (s + 1) (by omega), c1 (s + 2) (by omega), List.length_nil, List.nil_append, List.length_cons, List.cons_append]
    rw [if_pos (by rw [sizeLine_eq]; decide), if_pos (by rw [sizeLine_eq]; decide), if_pos (by rw [sizeLine_eq]; decide)]
  have i0 : ∀ (a b c : D) st, oIx (.lst [a, b, c]) (.int 0) st = .ok a st := fun _ _ _ _ => rfl
  have i1 : ∀ (a b c : D) st, oIx (.lst [a, b, c]) (.int 1) st = .ok b st := fun _ _ _ _ => rfl
  have i2 : ∀ (a b c : D) st, oIx (.lst [a, b, c]) (.int 2) st = .ok c st := fun _ _ _ _ => rfl
  have b1 := h.at_sm (r + 1) s
  have b2 := h.at_sm (r + 1) (s + 1)
  have b3 := h.at_sm (r + 1) (s + 2)
  have b4 := h.at_sm r s
  have b5 := h.at_sm r (s + 1)
  have b6 := h.at_sm r (s + 2)
  have o1 := h2.om_sm s
  have o2 := h2.om_sm (s + 1)
  have o3 := h2.om_sm (s + 2)
  have s1 : Sm 13 (rise rows r (s + 1) - rise rows r s) := by unfold Sm rise; omega
  have s2 : Sm 13 (rise rows r (s + 2) - rise rows r (s + 1)) := by unfold Sm rise; omega
  have s3 : Sm 13 (om other (s + 2) - om other (s + 1)) := by unfold Sm; omega
  have s4 : Sm 13 (om other (s + 1) - om other s) := by unfold Sm; omega
  have px : ∀ k st, oIx (shP (other.getD k (0, 0))) (.int 0) st = .ok (.int (om other k)) st := fun k st => ix0 _ _ _
  have z1 : (S.1.map plD).length < sizeLine := by rw [sizeLine_eq]; simp; omega
  have z2 : (S.2.map plD).length < sizeLine := by rw [sizeLine_eq]; simp; omega
  have k1 : (bnd other rows r s < 0) ↔ (rise rows r (s + 1) - rise rows r s) * (om other (s + 2) - om other (s + 1)) < (rise rows r (s + 2) - rise rows r (s + 1)) * (om other (s + 1) - om other s) := by unfold bnd; omega
  have k2 : (0 < bnd other rows r s) ↔ (rise rows r (s + 2) - rise rows r (s + 1)) * (om other (s + 1) - om other s) < (rise rows r (s + 1) - rise rows r s) * (om other (s + 2) - om other (s + 1)) := by unfold bnd; omega
  refine ⟨some (.lst [.int (rise rows r s), .int (rise rows r (s + 1)), .int (rise rows r (s + 2))]), some (.int ((rise rows r (s + 1) - rise rows r s) * (om other (s + 2) - om other (s + 1)))), some (.int ((rise rows r (s + 2) - rise rows r (s + 1)) * (om other (s + 1) - om other s))), ?_⟩
  unfold bendE stepB
  by_cases g1 : bnd other rows r s < 0 <;> by_cases g2 : 0 < bnd other rows r s
  · omega
  all_goals
    have g1' := g1; have g2' := g2
    rw [k1] at g1'; rw [k2] at g2'
    simp only [B__law_bends_0, dFn, tupIt_t, tupIt_shr, tupIt_cst, tupIt_cstR, lstIt_l, lstIt_f, lstIt_pls, sSeq, sSet, sNew, mkL, mkM, sApp, sExt, sSto, dOw2, dOw1, dOwR, dOwG2, dOwG1, ownV, sFrz, frzE, nLst, nCat, nLc, nList, nRep, mNew, pl_non, pl_bl, pl_int, pl_str, pl_tup, pl_lst, pl_fls, pl_dic, pl_ptr, pl_fr, pl_shP, pl_shr, pl_cst, pl_cstR, pl_plD, pl_plsD, sPar, sRet, sRetN, sIf, sNil, sExpr, evL, dCall, dCallF, dVar, dC, dOp1, dOp2, dTst, dTru, tru, dNotT, dAndT, dOrT, dAndV, dOrV, dNotV, dIf, List.map_cons, List.map_nil, List.length_cons, List.length_nil, Nat.sub_self, Nat.reduceAdd, Nat.reduceSub, List.replicate_zero, List.reduceReplicate, List.append_nil, List.cons_append, List.nil_append, List.getElem?_cons_succ, List.getElem?_cons_zero, Out.bind_ok, Out.to_ok, List.set_cons_zero, List.set_cons_succ, if_true, if_false, Bool.not_false, Bool.not_true, Bool.false_eq_true, Bool.true_eq_false, reduceIte, if_pos, oAdd, ot3, e1, e2, dLc, dItT, hc, oIx_shr (o := other) (j := s) (by omega) rfl, oIx_shr (o := other) (j := s + 1) (by omega) rfl, oIx_shr (o := other) (j := s + 2) (by omega) rfl, px, oSub, i0, i1, i2, oMul_sm s1 s3, oMul_sm s2 s4, oLt, oCmp, g1', g2', g1, g2, decide_true, decide_false, oTup2, z1, z2, List.map_append, plD]
theorem stepB_len (o : List (Int × Rat)) (rows : List (List Int)) (r : Nat) (s : List (Nat × Nat) × List (Nat × Nat)) (ks : List Nat) : (ks.foldl (stepB o rows r) s).1.length ≤ s.1.length + ks.length ∧ (ks.foldl (stepB o rows r) s).2.length ≤ s.2.length + ks.length := by
  rw [stepB_fold]
  constructor
  · have := List.length_filter_le (fun p => decide (bnd o rows p.1 p.2 < 0)) (ks.map fun k => (r, k))
    simp only [List.length_append, List.length_map] at *; omega
  · have := List.length_filter_le (fun p => decide (0 < bnd o rows p.1 p.2)) (ks.map fun k => (r, k))
    simp only [List.length_append, List.length_map] at *; omega
theorem bend_inner {n : Nat} {other : List (Int × Rat)} {rows : List (List Int)} (h2 : Shr other) (h : Cst n other.length rows) {r : Nat} (hr : r + 1 < n) (a c6 c7 c8 c9 : Option D) (st : Sto) (S : List (Nat × Nat) × List (Nat × Nat)) (hl : S.1.length ≤ 8 * r ∧ S.2.length ≤ 8 * r) (hn : n ≤ 8) :
    ∃ c6' c7' c8' c9', B__law_bends_1 (bendE a (some (.int (r : Int))) c6 c7 c8 c9 other rows S) st = some (.nx (bendE a (some (.int (r : Int))) c6' c7' c8' c9' other rows ((List.range (other.length - 2)).foldl (stepB other rows r) S)), st) := by
  have hf := h2.few
  obtain ⟨env', ⟨⟨c6', c7', c8', c9', rfl⟩, _⟩, hl2⟩ := fLoop_foldI (t := .nm 6) (B := B__law_bends_0) (st := st) (fun k : Nat => D.int (0 + (k : Int))) (fun j (s : (List (Nat × Nat) × List (Nat × Nat))) env => (∃ c6 c7 c8 c9, env = bendE a (some (.int (r : Int))) c6 c7 c8 c9 other rows s) ∧ (s.1.length ≤ 8 * r + j ∧ s.2.length ≤ 8 * r + j)) (stepB other rows r) (List.range (other.length - 2)) 0
    (fun j k hk s env ⟨⟨c6, c7, c8, c9, he⟩, hz⟩ => by
      subst he
      have hj : j < other.length - 2 := by have := (List.getElem?_eq_some_iff.mp hk).1; simpa using this
      have : k = j := by rw [List.getElem?_range hj] at hk; exact (Option.some.inj hk).symm
      subst this
      obtain ⟨d7, d8, d9, hb⟩ := bend_body h2 h hr (s := k) (by omega) a c7 c8 c9 st s (by omega)
      have := len_fold other rows r s k
      exact ⟨_, _, rfl, by rw [Int.zero_add]; exact hb, ⟨_, d7, d8, d9, rfl⟩, by omega⟩) S _ ⟨⟨c6, c7, c8, c9, rfl⟩, by omega⟩
  refine ⟨c6', c7', c8', c9', ?_⟩
  have r2 : dRng1 [.int ((other.length : Int) - 2)] st = .ok (rngL 0 (other.length - 2)) st := by
    rw [dRng1_ok (by omega) (by omega)]
    congr 2; omega
  have hL : ∀ st, bLen [shr other] st = .ok (.int other.length) st := fun st => bLen_mapT _ _ _
  simp only [rngL, bendE] at hl2 r2 ⊢
  simp only [B__law_bends_1, sFor, dItR1, dFn, tupIt_t, tupIt_shr, tupIt_cst, tupIt_cstR, lstIt_l, lstIt_f, lstIt_pls, sSeq, sSet, sNew, mkL, mkM, sApp, sExt, sSto, dOw2, dOw1, dOwR, dOwG2, dOwG1, ownV, sFrz, frzE, nLst, nCat, nLc, nList, nRep, mNew, pl_non, pl_bl, pl_int, pl_str, pl_tup, pl_lst, pl_fls, pl_dic, pl_ptr, pl_fr, pl_shP, pl_shr, pl_cst, pl_cstR, pl_plD, pl_plsD, sPar, sRet, sRetN, sIf, sNil, sExpr, evL, dCall, dCallF, dVar, dC, dOp1, dOp2, dTst, dTru, tru, dNotT, dAndT, dOrT, dAndV, dOrV, dNotV, dIf, List.map_cons, List.map_nil, List.length_cons, List.length_nil, Nat.sub_self, Nat.reduceAdd, Nat.reduceSub, List.replicate_zero, List.reduceReplicate, List.append_nil, List.cons_append, List.nil_append, List.getElem?_cons_succ, List.getElem?_cons_zero, Out.bind_ok, Out.to_ok, List.set_cons_zero, List.set_cons_succ, if_true, if_false, Bool.not_false, Bool.not_true, Bool.false_eq_true, Bool.true_eq_false, reduceIte, if_pos, hL, oSub, r2, hl2]
theorem ev_law_bends {one other : List (Int × Rat)} {rows : List (List Int)} (h1 : Shr one) (h2 : Shr other) (h : Cst one.length other.length rows) (st : Sto) : F__law_bends [shr one, shr other, cst rows] st = .ok (.tup [plsD (upsL one.length other rows), plsD (dnsL one.length other rows)]) st := by
  have hf := h2.few
  have hf1 := h1.few
  obtain ⟨env', ⟨⟨c5', c6', c7', c8', c9', rfl⟩, _⟩, hl2⟩ := fLoop_foldI (t := .nm 5) (B := B__law_bends_1) (st := st) (fun k : Nat => D.int (0 + (k : Int))) (fun j (s : (List (Nat × Nat) × List (Nat × Nat))) env => (∃ c5 c6 c7 c8 c9, env = bendE (some (shr one)) c5 c6 c7 c8 c9 other rows s) ∧ (s.1.length ≤ 8 * j ∧ s.2.length ≤ 8 * j)) (fun s r => (List.range (other.length - 2)).foldl (stepB other rows r) s) (List.range (one.length - 1)) 0
    (fun j k hk s env ⟨⟨c5, c6, c7, c8, c9, he⟩, hz⟩ => by
      subst he
      have hj : j < one.length - 1 := by have := (List.getElem?_eq_some_iff.mp hk).1; simpa using this
      have : k = j := by rw [List.getElem?_range hj] at hk; exact (Option.some.inj hk).symm
      subst this
      obtain ⟨d6, d7, d8, d9, hb⟩ := bend_inner h2 h (r := k) (by omega) (some (shr one)) c6 c7 c8 c9 st s (by omega) hf1
      have := stepB_len other rows k s (List.range (other.length - 2))
      simp only [List.length_range] at this
      exact ⟨_, _, rfl, by rw [Int.zero_add]; exact hb, ⟨_, d6, d7, d8, d9, rfl⟩, by omega⟩) ([], []) (bendE (some (shr one)) none none none none none other rows ([], [])) ⟨⟨none, none, none, none, none, rfl⟩, by simp⟩
  have r1 : dRng1 [.int ((one.length : Int) - 1)] st = .ok (rngL 0 (one.length - 1)) st := by
    rw [dRng1_ok (by omega) (by omega)]
    congr 2; omega
  have hL : ∀ st, bLen [shr one] st = .ok (.int one.length) st := fun st => bLen_mapT _ _ _
  rw [rows_fold] at hl2
  simp only [rngL, bendE, List.map_nil, List.nil_append] at hl2 r1
  simp only [R__law_bends, T__law_bends, sFor, dItR1, dFn, tupIt_t, tupIt_shr, tupIt_cst, tupIt_cstR, lstIt_l, lstIt_f, lstIt_pls, sSeq, sSet, sNew, mkL, mkM, sApp, sExt, sSto, dOw2, dOw1, dOwR, dOwG2, dOwG1, ownV, sFrz, frzE, nLst, nCat, nLc, nList, nRep, mNew, pl_non, pl_bl, pl_int, pl_str, pl_tup, pl_lst, pl_fls, pl_dic, pl_ptr, pl_fr, pl_shP, pl_shr, pl_cst, pl_cstR, pl_plD, pl_plsD, sPar, sRet, sRetN, sIf, sNil, sExpr, evL, dCall, dCallF, dVar, dC, dOp1, dOp2, dTst, dTru, tru, dNotT, dAndT, dOrT, dAndV, dOrV, dNotV, dIf, List.map_cons, List.map_nil, List.length_cons, List.length_nil, Nat.sub_self, Nat.reduceAdd, Nat.reduceSub, List.replicate_zero, List.reduceReplicate, List.append_nil, List.cons_append, List.nil_append, List.getElem?_cons_succ, List.getElem?_cons_zero, Out.bind_ok, Out.to_ok, List.set_cons_zero, List.set_cons_succ, if_true, if_false, Bool.not_false, Bool.not_true, Bool.false_eq_true, Bool.true_eq_false, reduceIte, if_pos, hL, oSub, r1, Nat.zero_le, hl2, oTup2]
  rfl

theorem ev_isint {i : Int} {st : Sto} : F__law_is_int [.int i, .int 0, .int 99] st = .ok (.bl (decide (0 ≤ i) && decide (i ≤ 99))) st := by
  by_cases h : (0 : Int) ≤ i <;> by_cases h' : i ≤ 99 <;> simp only [R__law_is_int, T__law_is_int, dFn, tupIt_t, tupIt_shr, tupIt_cst, tupIt_cstR, lstIt_l, lstIt_f, lstIt_pls, sSeq, sSet, sNew, mkL, mkM, sApp, sExt, sSto, dOw2, dOw1, dOwR, dOwG2, dOwG1, ownV, sFrz, frzE, nLst, nCat, nLc, nList, nRep, mNew, pl_non, pl_bl, pl_int, pl_str, pl_tup, pl_lst, pl_fls, pl_dic, pl_ptr, pl_fr, pl_shP, pl_shr, pl_cst, pl_cstR, pl_plD, pl_plsD, sPar, sRet, sRetN, sIf, sNil, sExpr, evL, dCall, dCallF, dVar, dC, dOp1, dOp2, dTst, dTru, tru, dNotT, dAndT, dOrT, dAndV, dOrV, dNotV, dIf, List.map_cons, List.map_nil, List.length_cons, List.length_nil, Nat.sub_self, Nat.reduceAdd, Nat.reduceSub, List.replicate_zero, List.reduceReplicate, List.append_nil, List.cons_append, List.nil_append, List.getElem?_cons_succ, List.getElem?_cons_zero, Out.bind_ok, Out.to_ok, List.set_cons_zero, List.set_cons_succ, if_true, if_false, Bool.not_false, Bool.not_true, Bool.false_eq_true, Bool.true_eq_false, reduceIte, if_pos, oIsi, tyD, isi, decide_true, dChain, oCmp, h, h', decide_false, Bool.and_self, Bool.and_true, Bool.and_false, Bool.false_and] <;> rfl
theorem ev_isint_no {d : D} {t : Ty} {st : Sto} (hp : plainD d = true) (h : tyD d st = some t) (ht : isi t .int = false ∨ t = .bool) : F__law_is_int [d, .int 0, .int 99] st = .ok (.bl false) st := by
  rcases ht with ht | ht
  · simp only [R__law_is_int, T__law_is_int, dFn, tupIt_t, tupIt_shr, tupIt_cst, tupIt_cstR, lstIt_l, lstIt_f, lstIt_pls, sSeq, sSet, sNew, mkL, mkM, sApp, sExt, sSto, dOw2, dOw1, dOwR, dOwG2, dOwG1, ownV, sFrz, frzE, nLst, nCat, nLc, nList, nRep, mNew, pl_non, pl_bl, pl_int, pl_str, pl_tup, pl_lst, pl_fls, pl_dic, pl_ptr, pl_fr, pl_shP, pl_shr, pl_cst, pl_cstR, pl_plD, pl_plsD, sPar, sRet, sRetN, sIf, sNil, sExpr, evL, dCall, dCallF, dVar, dC, dOp1, dOp2, dTst, dTru, tru, dNotT, dAndT, dOrT, dAndV, dOrV, dNotV, dIf, List.map_cons, List.map_nil, List.length_cons, List.length_nil, Nat.sub_self, Nat.reduceAdd, Nat.reduceSub, List.replicate_zero, List.reduceReplicate, List.append_nil, List.cons_append, List.nil_append, List.getElem?_cons_succ, List.getElem?_cons_zero, Out.bind_ok, Out.to_ok, List.set_cons_zero, List.set_cons_succ, if_true, if_false, Bool.not_false, Bool.not_true, Bool.false_eq_true, Bool.true_eq_false, reduceIte, if_pos, hp, oIsi, h, ht]
  · subst ht
    have e1 : isi .bool .int = true := rfl
    have e2 : isi .bool .bool = true := rfl
    simp only [R__law_is_int, T__law_is_int, dFn, tupIt_t, tupIt_shr, tupIt_cst, tupIt_cstR, lstIt_l, lstIt_f, lstIt_pls, sSeq, sSet, sNew, mkL, mkM, sApp, sExt, sSto, dOw2, dOw1, dOwR, dOwG2, dOwG1, ownV, sFrz, frzE, nLst, nCat, nLc, nList, nRep, mNew, pl_non, pl_bl, pl_int, pl_str, pl_tup, pl_lst, pl_fls, pl_dic, pl_ptr, pl_fr, pl_shP, pl_shr, pl_cst, pl_cstR, pl_plD, pl_plsD, sPar, sRet, sRetN, sIf, sNil, sExpr, evL, dCall, dCallF, dVar, dC, dOp1, dOp2, dTst, dTru, tru, dNotT, dAndT, dOrT, dAndV, dOrV, dNotV, dIf, List.map_cons, List.map_nil, List.length_cons, List.length_nil, Nat.sub_self, Nat.reduceAdd, Nat.reduceSub, List.replicate_zero, List.reduceReplicate, List.append_nil, List.cons_append, List.nil_append, List.getElem?_cons_succ, List.getElem?_cons_zero, Out.bind_ok, Out.to_ok, List.set_cons_zero, List.set_cons_succ, if_true, if_false, Bool.not_false, Bool.not_true, Bool.false_eq_true, Bool.true_eq_false, reduceIte, if_pos, hp, oIsi, h, e1, e2]

theorem ne_ones (n : Nat) (hn : n ≤ 4) (st : Sto) : oNe (.lst (List.replicate n (.int 1))) (.lst []) st = .ok (.bl (decide (n ≠ 0))) st := by
  match n, hn with
  | 0, _ => rfl
  | 1, _ => rfl
  | 2, _ => rfl
  | 3, _ => rfl
  | 4, _ => rfl
theorem in_small {l : List (Nat × Nat)} {n m : Nat} (hl : ∀ p ∈ l, p.1 < n ∧ p.2 < m) (hn : n ≤ 99) (hm : m ≤ 99) {a b : Int} (hb : ¬ (0 ≤ a ∧ a ≤ 99 ∧ 0 ≤ b ∧ b ≤ 99)) : inP l a b = false := by
  unfold inP
  rw [List.any_eq_false]
  intro p hp
  have := hl p hp
  simp only [decide_eq_true_eq, not_and]
  intro x y; omega
def wds : List D := [.tup [.str "down", .int 1], .tup [.str "up", .int 1], .tup [.str "straight", .int 1], .tup [.str "mixed", .int 5]]
def ninB (w : Str) (n : Int) : Option Bool := match toPys wds with
  | some ds => if SeqAt.shaped (.tuple [.str w, .int n]) = true ∧ SeqAt.shaped (.list ds) = true then some (!ds.any fun z => PyData.eqv z (.tuple [.str w, .int n])) else none
  | none => none
theorem nin_of {w : Str} {n : Int} {b : Bool} (h : ninB w n = some b) (st : Sto) : oNotIn (.tup [.str w, .int n]) (.tup wds) st = .ok (.bl b) st := by
  unfold ninB at h
  split at h
  · rename_i ds hd
    split at h
    · rename_i hs
      have h1 : toPy (deref (.tup wds) st) = some (.tuple ds) := by simp only [deref, toPy, hd, Option.map_some]
      have h2 : toPy (deref (.tup [.str w, .int n]) st) = some (.tuple [.str w, .int n]) := rfl
      have h3 : dicV (.tup wds) st = none := rfl
      unfold oNotIn
      simp only [h3, h1, h2, Option.bind_some, inIt, hs, and_self, if_true]
      rw [Option.some.inj h]
    · cases h
  · cases h
section
variable {one other : List (Int × Rat)} {rows : List (List Int)} (h1 : Shr one) (h2 : Shr other) (h : Cst one.length other.length rows)
theorem due_nt {x : D} {t : Ty} {st : Sto} (hp : plainD x = true) (hx : tyD x st = some t) (ht : isi t .tuple = false) : F__law_due [shr one, shr other, cst rows, x] st = .ok (.str "form") st := by
  simp only [R__law_due, T__law_due, dFn, tupIt_t, tupIt_shr, tupIt_cst, tupIt_cstR, lstIt_l, lstIt_f, lstIt_pls, sSeq, sSet, sNew, mkL, mkM, sApp, sExt, sSto, dOw2, dOw1, dOwR, dOwG2, dOwG1, ownV, sFrz, frzE, nLst, nCat, nLc, nList, nRep, mNew, pl_non, pl_bl, pl_int, pl_str, pl_tup, pl_lst, pl_fls, pl_dic, pl_ptr, pl_fr, pl_shP, pl_shr, pl_cst, pl_cstR, pl_plD, pl_plsD, sPar, sRet, sRetN, sIf, sNil, sExpr, evL, dCall, dCallF, dVar, dC, dOp1, dOp2, dTst, dTru, tru, dNotT, dAndT, dOrT, dAndV, dOrV, dNotV, dIf, List.map_cons, List.map_nil, List.length_cons, List.length_nil, Nat.sub_self, Nat.reduceAdd, Nat.reduceSub, List.replicate_zero, List.reduceReplicate, List.append_nil, List.cons_append, List.nil_append, List.getElem?_cons_succ, List.getElem?_cons_zero, Out.bind_ok, Out.to_ok, List.set_cons_zero, List.set_cons_succ, if_true, if_false, Bool.not_false, Bool.not_true, Bool.false_eq_true, Bool.true_eq_false, reduceIte, if_pos, hp, oIsi, hx, ht]
theorem due_nil {st : Sto} : F__law_due [shr one, shr other, cst rows, .tup []] st = .ok (.str "form") st := by
  have e : oEq (.tup []) (.tup []) st = .ok (.bl true) st := rfl
  have e2 : oTup [] st = .ok (.tup []) st := rfl
  simp only [R__law_due, T__law_due, dFn, tupIt_t, tupIt_shr, tupIt_cst, tupIt_cstR, lstIt_l, lstIt_f, lstIt_pls, sSeq, sSet, sNew, mkL, mkM, sApp, sExt, sSto, dOw2, dOw1, dOwR, dOwG2, dOwG1, ownV, sFrz, frzE, nLst, nCat, nLc, nList, nRep, mNew, pl_non, pl_bl, pl_int, pl_str, pl_tup, pl_lst, pl_fls, pl_dic, pl_ptr, pl_fr, pl_shP, pl_shr, pl_cst, pl_cstR, pl_plD, pl_plsD, sPar, sRet, sRetN, sIf, sNil, sExpr, evL, dCall, dCallF, dVar, dC, dOp1, dOp2, dTst, dTru, tru, dNotT, dAndT, dOrT, dAndV, dOrV, dNotV, dIf, List.map_cons, List.map_nil, List.length_cons, List.length_nil, Nat.sub_self, Nat.reduceAdd, Nat.reduceSub, List.replicate_zero, List.reduceReplicate, List.append_nil, List.cons_append, List.nil_append, List.getElem?_cons_succ, List.getElem?_cons_zero, Out.bind_ok, Out.to_ok, List.set_cons_zero, List.set_cons_succ, if_true, if_false, Bool.not_false, Bool.not_true, Bool.false_eq_true, Bool.true_eq_false, reduceIte, if_pos, oIsi, tyD, isi, decide_true, e2, e]
theorem due_ns {x : D} {xs : List D} {t : Ty} {st : Sto} (hx : tyD x st = some t) (ht : isi t .str = false) (he : oEq (.tup (x :: xs)) (.tup []) st = .ok (.bl false) st) : F__law_due [shr one, shr other, cst rows, .tup (x :: xs)] st = .ok (.str "form") st := by
  have e2 : oTup [] st = .ok (.tup []) st := rfl
  have e3 : tyD (.tup (x :: xs)) st = some .tuple := rfl
  have e4 : isi .tuple .tuple = true := rfl
  simp only [R__law_due, T__law_due, dFn, tupIt_t, tupIt_shr, tupIt_cst, tupIt_cstR, lstIt_l, lstIt_f, lstIt_pls, sSeq, sSet, sNew, mkL, mkM, sApp, sExt, sSto, dOw2, dOw1, dOwR, dOwG2, dOwG1, ownV, sFrz, frzE, nLst, nCat, nLc, nList, nRep, mNew, pl_non, pl_bl, pl_int, pl_str, pl_tup, pl_lst, pl_fls, pl_dic, pl_ptr, pl_fr, pl_shP, pl_shr, pl_cst, pl_cstR, pl_plD, pl_plsD, sPar, sRet, sRetN, sIf, sNil, sExpr, evL, dCall, dCallF, dVar, dC, dOp1, dOp2, dTst, dTru, tru, dNotT, dAndT, dOrT, dAndV, dOrV, dNotV, dIf, List.map_cons, List.map_nil, List.length_cons, List.length_nil, Nat.sub_self, Nat.reduceAdd, Nat.reduceSub, List.replicate_zero, List.reduceReplicate, List.append_nil, List.cons_append, List.nil_append, List.getElem?_cons_succ, List.getElem?_cons_zero, Out.bind_ok, Out.to_ok, List.set_cons_zero, List.set_cons_succ, if_true, if_false, Bool.not_false, Bool.not_true, Bool.false_eq_true, Bool.true_eq_false, reduceIte, if_pos, oIsi, e3, e4, e2, he, ix0, hx, ht]
theorem due_sz {w : Str} {xs : List D} {n : Nat} {st : Sto} (hl : xs.length + 1 = n) (he : oEq (.tup (.str w :: xs)) (.tup []) st = .ok (.bl false) st) (hn : ninB w n = some true) : F__law_due [shr one, shr other, cst rows, .tup (.str w :: xs)] st = .ok (.str "form") st := by
  have e2 : oTup [] st = .ok (.tup []) st := rfl
  have e3 : tyD (.tup (.str w :: xs)) st = some .tuple := rfl
  have e4 : isi .tuple .tuple = true := rfl
  have e5 : bLen [.tup (.str w :: xs)] st = .ok (.int n) st := by rw [← hl]; rfl
  have e6 : ∀ a b c d st, oTup [a, b, c, d] st = .ok (.tup [a, b, c, d]) st := fun _ _ _ _ _ => rfl
  have q := nin_of hn st
  unfold wds at q
  simp only [R__law_due, T__law_due, dFn, tupIt_t, tupIt_shr, tupIt_cst, tupIt_cstR, lstIt_l, lstIt_f, lstIt_pls, sSeq, sSet, sNew, mkL, mkM, sApp, sExt, sSto, dOw2, dOw1, dOwR, dOwG2, dOwG1, ownV, sFrz, frzE, nLst, nCat, nLc, nList, nRep, mNew, pl_non, pl_bl, pl_int, pl_str, pl_tup, pl_lst, pl_fls, pl_dic, pl_ptr, pl_fr, pl_shP, pl_shr, pl_cst, pl_cstR, pl_plD, pl_plsD, sPar, sRet, sRetN, sIf, sNil, sExpr, evL, dCall, dCallF, dVar, dC, dOp1, dOp2, dTst, dTru, tru, dNotT, dAndT, dOrT, dAndV, dOrV, dNotV, dIf, List.map_cons, List.map_nil, List.length_cons, List.length_nil, Nat.sub_self, Nat.reduceAdd, Nat.reduceSub, List.replicate_zero, List.reduceReplicate, List.append_nil, List.cons_append, List.nil_append, List.getElem?_cons_succ, List.getElem?_cons_zero, Out.bind_ok, Out.to_ok, List.set_cons_zero, List.set_cons_succ, if_true, if_false, Bool.not_false, Bool.not_true, Bool.false_eq_true, Bool.true_eq_false, reduceIte, if_pos, oIsi, e3, e4, e2, he, ix0, tyD, isi, decide_true, e5, oTup2, e6, q]
include h1 h2 h
theorem due_one {w : Str} {st : Sto} (hk : PyData.strOk w = true) (he : oEq (.tup [.str w]) (.tup []) st = .ok (.bl false) st) (hn : ninB w 1 = some false) (hw : (w == "mixed") = false) :
    F__law_due [shr one, shr other, cst rows, .tup [.str w]] st = .ok (if (((w == "up") || (upsL one.length other rows).isEmpty) && ((w == "down") || (dnsL one.length other rows).isEmpty)) = true then .lst [.str w] else .str w) st := by
  have e2 : oTup [] st = .ok (.tup []) st := rfl
  have e3 : tyD (.tup [.str w]) st = some .tuple := rfl
  have e4 : isi .tuple .tuple = true := rfl
  have e5 : bLen [.tup [.str w]] st = .ok (.int 1) st := rfl
  have e6 : ∀ a b c d st, oTup [a, b, c, d] st = .ok (.tup [a, b, c, d]) st := fun _ _ _ _ _ => rfl
  have e7 : oLst [] st = .ok (.lst []) st := rfl
  have e8 : oLst [.str w] st = .ok (.lst [.str w]) st := rfl
  have q := nin_of hn st
  unfold wds at q
  have n1 : ∀ v : Str, oNe (.str w) (.str v) st = .ok (.bl (!(w == v))) st := fun v => by
    show Out.ok (D.bl (!decide (w = v))) st = _
    by_cases h : w = v
    · subst h; simp
    · simp [h]
  have n2 := n1 "up"
  have n3 := n1 "down"
  cases a : (w == "up") <;> cases b : (w == "down") <;> cases c : (upsL one.length other rows).isEmpty <;> cases d : (dnsL one.length other rows).isEmpty <;>
    simp only [R__law_due, T__law_due, dFn, tupIt_t, tupIt_shr, tupIt_cst, tupIt_cstR, lstIt_l, lstIt_f, lstIt_pls, sSeq, sSet, sNew, mkL, mkM, sApp, sExt, sSto, dOw2, dOw1, dOwR, dOwG2, dOwG1, ownV, sFrz, frzE, nLst, nCat, nLc, nList, nRep, mNew, pl_non, pl_bl, pl_int, pl_str, pl_tup, pl_lst, pl_fls, pl_dic, pl_ptr, pl_fr, pl_shP, pl_shr, pl_cst, pl_cstR, pl_plD, pl_plsD, sPar, sRet, sRetN, sIf, sNil, sExpr, evL, dCall, dCallF, dVar, dC, dOp1, dOp2, dTst, dTru, tru, dNotT, dAndT, dOrT, dAndV, dOrV, dNotV, dIf, List.map_cons, List.map_nil, List.length_cons, List.length_nil, Nat.sub_self, Nat.reduceAdd, Nat.reduceSub, List.replicate_zero, List.reduceReplicate, List.append_nil, List.cons_append, List.nil_append, List.getElem?_cons_succ, List.getElem?_cons_zero, Out.bind_ok, Out.to_ok, List.set_cons_zero, List.set_cons_succ, if_true, if_false, Bool.not_false, Bool.not_true, Bool.false_eq_true, Bool.true_eq_false, reduceIte, if_pos, oIsi, e3, e4, e2, he, ix0, tyD, isi, decide_true, e5, oTup2, e6, q, ev_law_bends h1 h2 h, sAsg, Pat.set, Pat.sets, Option.bind_some, oEq_str, hw, n2, n3, a, b, c, d, e7, ne_nil, e8, Bool.true_or, Bool.false_or, Bool.and_self, Bool.and_true, Bool.and_false, Bool.false_and]
theorem ups_small : ∀ p ∈ upsL one.length other rows, p.1 < 8 ∧ p.2 < 8 := fun p hp => by
  have := plc_mem (List.mem_filter.mp hp).1
  have := h1.few
  have := h2.few
  omega
theorem dns_small : ∀ p ∈ dnsL one.length other rows, p.1 < 8 ∧ p.2 < 8 := fun p hp => by
  have := plc_mem (List.mem_filter.mp hp).1
  have := h1.few
  have := h2.few
  omega
theorem due_q {x1 x2 x3 x4 : D} {b1 b2 b3 b4 : Bool} {st : Sto} {c4 c5 : Option D} (p1 : plainD x1 = true) (p2 : plainD x2 = true) (p3 : plainD x3 = true) (p4 : plainD x4 = true) (i1 : F__law_is_int [x1, .int 0, .int 99] st = .ok (.bl b1) st) (i2 : F__law_is_int [x2, .int 0, .int 99] st = .ok (.bl b2) st) (i3 : F__law_is_int [x3, .int 0, .int 99] st = .ok (.bl b3) st) (i4 : F__law_is_int [x4, .int 0, .int 99] st = .ok (.bl b4) st) :
    ∃ n : Nat, lcGo (.nm 6) Q__law_due_0 E__law_due_0 (wipeE [some (shr one), some (shr other), some (cst rows), some (.tup [.str "mixed", x1, x2, x3, x4]), c4, c5, none] [6]) [x1, x2, x3, x4] st [] = .ok (List.replicate n (.int 1)) st ∧ (n = 0 ↔ (b1 && b2 && b3 && b4) = true) ∧ n ≤ 4 := by
  have q : ∀ x b, plainD x = true → F__law_is_int [x, .int 0, .int 99] st = .ok (.bl b) st → Q__law_due_0 [some (shr one), some (shr other), some (cst rows), some (.tup [.str "mixed", x1, x2, x3, x4]), c4, c5, some x] st = .ok (!b) st := fun x b hp hi => by
    simp only [Q__law_due_0, dFn, tupIt_t, tupIt_shr, tupIt_cst, tupIt_cstR, lstIt_l, lstIt_f, lstIt_pls, sSeq, sSet, sNew, mkL, mkM, sApp, sExt, sSto, dOw2, dOw1, dOwR, dOwG2, dOwG1, ownV, sFrz, frzE, nLst, nCat, nLc, nList, nRep, mNew, pl_non, pl_bl, pl_int, pl_str, pl_tup, pl_lst, pl_fls, pl_dic, pl_ptr, pl_fr, pl_shP, pl_shr, pl_cst, pl_cstR, pl_plD, pl_plsD, sPar, sRet, sRetN, sIf, sNil, sExpr, evL, dCall, dCallF, dVar, dC, dOp1, dOp2, dTst, dTru, tru, dNotT, dAndT, dOrT, dAndV, dOrV, dNotV, dIf, List.map_cons, List.map_nil, List.length_cons, List.length_nil, Nat.sub_self, Nat.reduceAdd, Nat.reduceSub, List.replicate_zero, List.reduceReplicate, List.append_nil, List.cons_append, List.nil_append, List.getElem?_cons_succ, List.getElem?_cons_zero, Out.bind_ok, Out.to_ok, List.set_cons_zero, List.set_cons_succ, if_true, if_false, Bool.not_false, Bool.not_true, Bool.false_eq_true, Bool.true_eq_false, reduceIte, if_pos, hp, hi]
  have e : ∀ env : En, E__law_due_0 env st = .ok (.int 1) st := fun _ => rfl
  have w : ∀ k, k < 5 → k < sizeLine := fun k hk => by rw [sizeLine_eq]; omega
  refine ⟨[b1, b2, b3, b4].count false, ?_, ?_, ?_⟩
  · cases b1 <;> cases b2 <;> cases b3 <;> cases b4 <;>
      simp only [lcGo, wipeE, Pat.set, List.set_cons_succ, List.set_cons_zero, q x1 _ p1 i1, q x2 _ p2 i2, q x3 _ p3 i3, q x4 _ p4 i4, e, Bool.not_true, Bool.not_false, List.length_nil, List.length_cons, List.nil_append, List.cons_append, Nat.reduceAdd, w 0 (by decide), w 1 (by decide), w 2 (by decide), w 3 (by decide), if_true] <;> rfl
  · cases b1 <;> cases b2 <;> cases b3 <;> cases b4 <;> simp
  · have := List.count_le_length (a := false) (l := [b1, b2, b3, b4]); simpa using this
theorem due_mixed {x1 x2 x3 x4 : D} {b1 b2 b3 b4 : Bool} {st : Sto} (p1 : plainD x1 = true) (p2 : plainD x2 = true) (p3 : plainD x3 = true) (p4 : plainD x4 = true) (i1 : F__law_is_int [x1, .int 0, .int 99] st = .ok (.bl b1) st) (i2 : F__law_is_int [x2, .int 0, .int 99] st = .ok (.bl b2) st) (i3 : F__law_is_int [x3, .int 0, .int 99] st = .ok (.bl b3) st) (i4 : F__law_is_int [x4, .int 0, .int 99] st = .ok (.bl b4) st)
    (he : oEq (.tup [.str "mixed", x1, x2, x3, x4]) (.tup []) st = .ok (.bl false) st) {u v : Bool} (hin : (b1 && b2 && b3 && b4) = true → oIn (.tup [x1, x2]) (plsD (upsL one.length other rows)) st = .ok (.bl u) st ∧ oIn (.tup [x3, x4]) (plsD (dnsL one.length other rows)) st = .ok (.bl v) st) :
    F__law_due [shr one, shr other, cst rows, .tup [.str "mixed", x1, x2, x3, x4]] st = .ok (if (b1 && b2 && b3 && b4 && u && v) = true then .lst [.str "mixed"] else .str "mixed") st := by
  have e2 : oTup [] st = .ok (.tup []) st := rfl
  have e3 : tyD (.tup [.str "mixed", x1, x2, x3, x4]) st = some .tuple := rfl
  have e4 : isi .tuple .tuple = true := rfl
  have e5 : bLen [.tup [.str "mixed", x1, x2, x3, x4]] st = .ok (.int 5) st := rfl
  have e6 : ∀ a b c d st, oTup [a, b, c, d] st = .ok (.tup [a, b, c, d]) st := fun _ _ _ _ _ => rfl
  have e7 : oLst [] st = .ok (.lst []) st := rfl
  have e8 : oLst [.str "mixed"] st = .ok (.lst [.str "mixed"]) st := rfl
  have hm : ("mixed" == ("mixed" : Str)) = true := beq_self_eq_true _
  have c1 : cutL [D.str "mixed", x1, x2, x3, x4] (some 1) none = [x1, x2, x3, x4] := rfl
  have c2 : cutL [D.str "mixed", x1, x2, x3, x4] (some 1) (some 3) = [x1, x2] := rfl
  have c3 : cutL [D.str "mixed", x1, x2, x3, x4] (some 3) none = [x3, x4] := rfl
  have q := nin_of (w := "mixed") (n := 5) (b := false) (by decide +kernel) st
  unfold wds at q
  obtain ⟨n, g1, g2, g3⟩ := due_q h1 h2 h (c4 := some (plsD (upsL one.length other rows))) (c5 := some (plsD (dnsL one.length other rows))) p1 p2 p3 p4 i1 i2 i3 i4
  cases hb : (b1 && b2 && b3 && b4) with
  | false =>
    have : n ≠ 0 := fun z => by rw [g2.mp z] at hb; cases hb
    simp only [R__law_due, T__law_due, dFn, tupIt_t, tupIt_shr, tupIt_cst, tupIt_cstR, lstIt_l, lstIt_f, lstIt_pls, sSeq, sSet, sNew, mkL, mkM, sApp, sExt, sSto, dOw2, dOw1, dOwR, dOwG2, dOwG1, ownV, sFrz, frzE, nLst, nCat, nLc, nList, nRep, mNew, pl_non, pl_bl, pl_int, pl_str, pl_tup, pl_lst, pl_fls, pl_dic, pl_ptr, pl_fr, pl_shP, pl_shr, pl_cst, pl_cstR, pl_plD, pl_plsD, sPar, sRet, sRetN, sIf, sNil, sExpr, evL, dCall, dCallF, dVar, dC, dOp1, dOp2, dTst, dTru, tru, dNotT, dAndT, dOrT, dAndV, dOrV, dNotV, dIf, List.map_cons, List.map_nil, List.length_cons, List.length_nil, Nat.sub_self, Nat.reduceAdd, Nat.reduceSub, List.replicate_zero, List.reduceReplicate, List.append_nil, List.cons_append, List.nil_append, List.getElem?_cons_succ, List.getElem?_cons_zero, Out.bind_ok, Out.to_ok, List.set_cons_zero, List.set_cons_succ, if_true, if_false, Bool.not_false, Bool.not_true, Bool.false_eq_true, Bool.true_eq_false, reduceIte, if_pos, oIsi, e3, e4, e2, he, ix0, tyD, isi, decide_true, e5, oTup2, e6, q, ev_law_bends h1 h2 h, sAsg, Pat.set, Pat.sets, Option.bind_some, oEq_str "mixed" "mixed", hm, dLc, dItT, dSl, dP, dNoP, oSl, c1, g1, e7, ne_ones n g3, ne_eq, this, not_false_eq_true, Bool.false_and]
  | true =>
    obtain rfl : n = 0 := g2.mpr hb
    rw [List.replicate_zero] at g1
    have e9 : oNe (.lst []) (.lst []) st = .ok (.bl false) st := rfl
    obtain ⟨k1, k2⟩ := hin hb
    cases u <;> cases v <;>
    simp only [R__law_due, T__law_due, dFn, tupIt_t, tupIt_shr, tupIt_cst, tupIt_cstR, lstIt_l, lstIt_f, lstIt_pls, sSeq, sSet, sNew, mkL, mkM, sApp, sExt, sSto, dOw2, dOw1, dOwR, dOwG2, dOwG1, ownV, sFrz, frzE, nLst, nCat, nLc, nList, nRep, mNew, pl_non, pl_bl, pl_int, pl_str, pl_tup, pl_lst, pl_fls, pl_dic, pl_ptr, pl_fr, pl_shP, pl_shr, pl_cst, pl_cstR, pl_plD, pl_plsD, sPar, sRet, sRetN, sIf, sNil, sExpr, evL, dCall, dCallF, dVar, dC, dOp1, dOp2, dTst, dTru, tru, dNotT, dAndT, dOrT, dAndV, dOrV, dNotV, dIf, List.map_cons, List.map_nil, List.length_cons, List.length_nil, Nat.sub_self, Nat.reduceAdd, Nat.reduceSub, List.replicate_zero, List.reduceReplicate, List.append_nil, List.cons_append, List.nil_append, List.getElem?_cons_succ, List.getElem?_cons_zero, Out.bind_ok, Out.to_ok, List.set_cons_zero, List.set_cons_succ, if_true, if_false, Bool.not_false, Bool.not_true, Bool.false_eq_true, Bool.true_eq_false, reduceIte, if_pos, oIsi, e3, e4, e2, he, ix0, tyD, isi, decide_true, e5, oTup2, e6, q, ev_law_bends h1 h2 h, sAsg, Pat.set, Pat.sets, Option.bind_some, oEq_str "mixed" "mixed", hm, dLc, dItT, dSl, dP, dNoP, oSl, c1, c2, c3, g1, e7, e9, k1, k2, e8, Bool.true_and, Bool.and_true, Bool.and_false]
end

theorem toPy_plain {x : D} {y : PyData} (h : toPy x = some y) : plainD x = true := by
  cases x <;> first | rfl | (simp [toPy] at h)
theorem toPy_deref {x : D} {y : PyData} (h : toPy x = some y) (st : Sto) : deref x st = x := by
  cases x <;> first | rfl | (simp [toPy] at h)
theorem repr_of {x : D} {y : PyData} (h : toPy x = some y) (hs : shwOk y = true) (st : Sto) : bRepr [x] st = .ok (.str y.shown) st := by
  have e : bRepr [x] st = (match toPy (deref x st) with
    | some y => if shwOk y = true then Out.ok (D.str y.shown) st else Out.bad
    | none => Out.bad) := rfl
  rw [e, toPy_deref h, h]
  simp only [hs, if_true]
/-- small data, as it stands in a paper -/
structure SmP (y : PyData) : Prop where
  sh : y.showable = true
  nd : y.hasDict = false
  dp : y.depth ≤ 1
  lf : y.leavesShort 64 = true
  wt : y.weight ≤ 120
  cl : y.canLay0 = true
theorem smP_int {i : Int} (h : i.natAbs < 10 ^ 12) : SmP (.int i) := by
  have hl : i.natAbs.log2 < 41 := by
    by_cases z : i.natAbs = 0
    · rw [z]; decide
    · exact (Nat.log2_lt z).mpr (Nat.lt_of_lt_of_le h (by decide))
  refine ⟨?_, rfl, Nat.zero_le _, ?_, ?_, rfl⟩
  · simp only [PyData.showable, decide_eq_true_eq]; omega
  · simp only [PyData.leavesShort, decide_eq_true_eq]; have := PyData.shown_int_le h; omega
  · simp only [PyData.weight]; split <;> omega
theorem smP_by {y : PyData} (h : (y.showable && !y.hasDict && decide (y.depth ≤ 1) && y.leavesShort 64 && decide (y.weight ≤ 120) && y.canLay0) = true) : SmP y := by
  simp only [Bool.and_eq_true, Bool.not_eq_true', decide_eq_true_eq] at h
  exact ⟨h.1.1.1.1.1, h.1.1.1.1.2, h.1.1.1.2, h.1.1.2, h.1.2, h.2⟩
theorem smAll : ∀ {ys : List PyData}, (∀ y ∈ ys, SmP y) → PyData.showableAll ys = true ∧ PyData.hasDictAll ys = false ∧ PyData.depthAll ys ≤ 1 ∧ PyData.leavesShortAll 64 ys = true ∧ PyData.weightAll ys ≤ 121 * ys.length ∧ PyData.canLayAll0 ys = true
  | [], _ => by simp [PyData.showableAll, PyData.hasDictAll, PyData.depthAll, PyData.leavesShortAll, PyData.weightAll, PyData.canLayAll0]
  | y :: ys, h => by
    obtain ⟨a, b, c, d, e, f⟩ := smAll fun z hz => h z (List.mem_cons_of_mem _ hz)
    have s := h y (List.mem_cons_self ..)
    refine ⟨?_, ?_, ?_, ?_, ?_, ?_⟩
    · rw [PyData.showableAll, s.sh, a]; rfl
    · rw [PyData.hasDictAll, s.nd, b]; rfl
    · rw [PyData.depthAll]; have := s.dp; omega
    · rw [PyData.leavesShortAll, s.lf, d]; rfl
    · rw [PyData.weightAll, List.length_cons]; have := s.wt; omega
    · rw [PyData.canLayAll0, s.cl, f]; rfl
theorem okTup {ys : List PyData} (h : ∀ y ∈ ys, SmP y) (hl : ys.length ≤ 8) : shwOk (.tuple ys) = true ∧ SeqAt.shaped (.tuple ys) = true := by
  obtain ⟨a, b, c, d, e, f⟩ := smAll h
  have hs := PyData.shown_le 64 (by decide) (.tuple ys) (by rw [PyData.leavesShort]; exact d)
  rw [PyData.weight] at hs
  constructor
  · unfold shwOk
    rw [PyData.showable, PyData.hasDict, a, b, PyData.depth]
    simp only [Bool.not_false, Bool.true_and, Bool.and_eq_true, decide_eq_true_eq]
    refine ⟨by omega, by rw [sizeLine_eq]; omega⟩
  · unfold SeqAt.shaped
    rw [PyData.canLay0, f, PyData.depth, Bool.true_and]
    exact decide_eq_true (by omega)
theorem okLst {ys : List PyData} (h : ∀ y ∈ ys, SmP y) (hl : ys.length ≤ 8) : shwOk (.list ys) = true := by
  obtain ⟨a, b, c, d, e, f⟩ := smAll h
  have hs := PyData.shown_le 64 (by decide) (.list ys) (by rw [PyData.leavesShort]; exact d)
  rw [PyData.weight] at hs
  unfold shwOk
  rw [PyData.showable, PyData.hasDict, a, b, PyData.depth]
  simp only [Bool.not_false, Bool.true_and, Bool.and_eq_true, decide_eq_true_eq]
  refine ⟨by omega, by rw [sizeLine_eq]; omega⟩
theorem he_of {x : D} {xs : List D} {y : PyData} (h : toPy (.tup (x :: xs)) = some y) (hs : SeqAt.shaped y = true) (st : Sto) : oEq (.tup (x :: xs)) (.tup []) st = .ok (.bl false) st := by
  have h5 : twoS (.tup (x :: xs)) (.tup []) = none := rfl
  have h1 : toPy (deref (.tup (x :: xs)) st) = some y := h
  have h2 : toPy (deref (.tup []) st) = some (.tuple []) := rfl
  have h3 : SeqAt.shaped (.tuple []) = true := rfl
  unfold oEq
  rw [h5, h1, h2]
  simp only [hs, h3, and_self, if_true]
  simp only [toPy] at h
  obtain ⟨ys, e1, rfl⟩ := Option.map_eq_some_iff.mp h
  simp only [toPys] at e1
  split at e1
  · cases e1; rfl
  · cases e1
def szB (w : Str) (n : Int) : Option Bool := match valD k_SIZES v_SIZES w with
  | some (.int k) => some (!(k == n))
  | none => some true
  | _ => none
theorem sz_of {w : Str} {n : Int} {b : Bool} (h : szB w n = some b) (st : Sto) : oNe ((valD k_SIZES v_SIZES w).getD .non) (.int n) st = .ok (.bl b) st := by
  unfold szB at h
  split at h
  · rename_i k e; rw [e]; cases h; rfl
  · rename_i e; rw [e]; cases h; rfl
  · cases h
def wsL : List Str := ["form", "mixed", "down", "up", "straight"]
def Zs (z : D) : Prop := ∃ w ∈ wsL, z = .str w ∨ z = .lst [.str w]
theorem zs_repr {z : D} (h : Zs z) (st : Sto) : ∃ k, bRepr [.lst [z, z]] st = .ok (.str k) st := by
  obtain ⟨w, hw, h⟩ := h
  have a1 : wsL.all (fun w => shwOk (.list [.str w, .str w])) = true := by decide +kernel
  have a2 : wsL.all (fun w => shwOk (.list [.list [.str w], .list [.str w]])) = true := by decide +kernel
  rcases h with rfl | rfl
  · exact ⟨_, repr_of (y := .list [.str w, .str w]) rfl (List.all_eq_true.mp a1 w hw) st⟩
  · exact ⟨_, repr_of (y := .list [.list [.str w], .list [.str w]]) rfl (List.all_eq_true.mp a2 w hw) st⟩
section
variable {one other : List (Int × Rat)} {rows : List (List Int)}
/-- a thing of which program and law tell the same -/
def Good (one other : List (Int × Rat)) (rows : List (List Int)) (x : D) : Prop := (∃ y, toPy x = some y ∧ shwOk y = true) ∧ ∃ z, Zs z ∧ ∀ st, F__law_heard [shr one, shr other, cst rows, x] st = .ok z st ∧ F__law_due [shr one, shr other, cst rows, x] st = .ok z st
variable (h1 : Shr one) (h2 : Shr other) (h : Cst one.length other.length rows)
include h1 h2 h
theorem g_form {x : D} {y : PyData} (hy : toPy x = some y) (hs : shwOk y = true) (hc : ∀ st, F_check_kind [shr one, shr other, cst rows, x] st = .exc (bp (.str "form")) st) (hd : ∀ st, F__law_due [shr one, shr other, cst rows, x] st = .ok (.str "form") st) : Good one other rows x :=
  ⟨⟨y, hy, hs⟩, .str "form", ⟨"form", by decide +kernel, .inl rfl⟩, fun st => ⟨hd_ex rfl rfl rfl (toPy_plain hy) (hc st), hd st⟩⟩
theorem g_nt {x : D} {y : PyData} {t : Ty} (hy : toPy x = some y) (hs : shwOk y = true) (hx : ∀ st, tyD x st = some t) (ht : isi t .tuple = false) : Good one other rows x :=
  g_form h1 h2 h hy hs (fun st => ck_nt h1 h2 h (toPy_plain hy) (hx st) ht) (fun st => due_nt (toPy_plain hy) (hx st) ht)
theorem g_nil : Good one other rows (.tup []) :=
  g_form h1 h2 h (y := .tuple []) rfl (by decide +kernel) (fun st => ck_nil h1 h2 h) (fun st => due_nil)
theorem g_ns {x : D} {xs : List D} {y : PyData} {t : Ty} (hy : toPy (.tup (x :: xs)) = some y) (hs : shwOk y = true) (hp : SeqAt.shaped y = true) (hx : ∀ st, tyD x st = some t) (ht : isi t .str = false) : Good one other rows (.tup (x :: xs)) :=
  g_form h1 h2 h hy hs (fun st => ck_ns h1 h2 h (hx st) ht (he_of hy hp st)) (fun st => due_ns (hx st) ht (he_of hy hp st))
theorem g_sz {w : Str} {xs : List D} {ys : List PyData} {n : Nat} (hn : xs.length + 1 = n) (hy : toPys xs = some ys) (hsm : ∀ y ∈ PyData.str w :: ys, SmP y) (hl : n ≤ 8) (a : szB w n = some true) (b : ninB w n = some true) : Good one other rows (.tup (.str w :: xs)) := by
  have e : toPy (.tup (.str w :: xs)) = some (.tuple (.str w :: ys)) := by simp only [toPy, toPys, hy, Option.map_some]
  have len : ∀ {xs : List D} {ys : List PyData}, toPys xs = some ys → ys.length = xs.length := by
    intro xs
    induction xs with
    | nil => intro ys h; simp only [toPys] at h; cases h; rfl
    | cons x xs ih =>
      intro ys h
      simp only [toPys] at h
      split at h
      · rename_i p q
        cases h; rw [List.length_cons, List.length_cons, ih q]
      · cases h
  obtain ⟨o1, o2⟩ := okTup hsm (by rw [List.length_cons, len hy]; omega)
  subst hn
  exact g_form h1 h2 h e o1 (fun st => ck_sz h1 h2 h (he_of e o2 st) (sz_of a st)) (fun st => due_sz rfl (he_of e o2 st) b)
theorem g_one {w : Str} (hw : w ∈ (["down", "up", "straight"] : List Str)) : Good one other rows (.tup [.str w]) := by
  have a1 : (["down", "up", "straight"] : List Str).all (fun w => shwOk (.tuple [.str w]) && (SeqAt.shaped (.tuple [.str w]) && (decide (szB w 1 = some false) && (decide (ninB w 1 = some false) && ((!(w == "mixed")) && (PyData.strOk w && decide (w ∈ wsL))))))) = true := by decide +kernel
  have q := List.all_eq_true.mp a1 w hw
  simp only [Bool.and_eq_true, decide_eq_true_eq, Bool.not_eq_true'] at q
  obtain ⟨q1, q2, q3, q4, q5, q6, q7⟩ := q
  have e : toPy (.tup [.str w]) = some (.tuple [.str w]) := rfl
  refine ⟨⟨_, e, q1⟩, (if (((w == "up") || (upsL one.length other rows).isEmpty) && ((w == "down") || (dnsL one.length other rows).isEmpty)) = true then .lst [.str w] else .str w), ⟨w, q7, by split <;> simp⟩, fun st => ?_⟩
  have hd := ck_go h1 h2 h (xs := []) (st := st) (he_of e q2 st) (sz_of q3 st) (ev_hold_one h1 h2 h w q6 q5 st)
  refine ⟨?_, due_one h1 h2 h q6 (he_of e q2 st) q4 q5⟩
  by_cases c : (((w == "up") || (upsL one.length other rows).isEmpty) && ((w == "down") || (dnsL one.length other rows).isEmpty)) = true
  · rw [if_pos c] at hd ⊢; exact hd_ok rfl rfl rfl rfl hd
  · rw [if_neg c] at hd ⊢; exact hd_ex rfl rfl rfl rfl hd
omit h1 h2 h in
theorem m_of {x1 x2 x3 x4 : D} {y1 y2 y3 y4 : PyData} (e1 : toPy x1 = some y1) (e2 : toPy x2 = some y2) (e3 : toPy x3 = some y3) (e4 : toPy x4 = some y4) (s1 : SmP y1) (s2 : SmP y2) (s3 : SmP y3) (s4 : SmP y4) :
    toPy (.tup [.str "mixed", x1, x2, x3, x4]) = some (.tuple [.str "mixed", y1, y2, y3, y4]) ∧ shwOk (.tuple [.str "mixed", y1, y2, y3, y4]) = true ∧ SeqAt.shaped (.tuple [.str "mixed", y1, y2, y3, y4]) = true := by
  have sm : SmP (.str "mixed") := smP_by (by decide +kernel)
  obtain ⟨o1, o2⟩ := okTup (ys := [.str "mixed", y1, y2, y3, y4]) (fun y hy => by
    simp only [List.mem_cons, List.not_mem_nil, or_false] at hy
    rcases hy with rfl | rfl | rfl | rfl | rfl <;> assumption) (by simp)
  exact ⟨by simp only [toPy, toPys, e1, e2, e3, e4, Option.map_some], o1, o2⟩
theorem g_ints {a b c d : Int} (ha : a.natAbs < 10 ^ 12 ∨ SmP (.int a)) (hb : b.natAbs < 10 ^ 12 ∨ SmP (.int b)) (hc : c.natAbs < 10 ^ 12 ∨ SmP (.int c)) (hd : d.natAbs < 10 ^ 12 ∨ SmP (.int d)) : Good one other rows (.tup [.str "mixed", .int a, .int b, .int c, .int d]) := by
  obtain ⟨e, o1, o2⟩ := m_of (x1 := .int a) (x2 := .int b) (x3 := .int c) (x4 := .int d) rfl rfl rfl rfl (ha.elim smP_int id) (hb.elim smP_int id) (hc.elim smP_int id) (hd.elim smP_int id)
  have sz : szB "mixed" 5 = some false := by decide +kernel
  refine ⟨⟨_, e, o1⟩, (if (inP (upsL one.length other rows) a b && inP (dnsL one.length other rows) c d) = true then .lst [.str "mixed"] else .str "mixed"), ⟨"mixed", by decide +kernel, by split <;> simp⟩, fun st => ⟨?_, ?_⟩⟩
  · have hd := ck_go h1 h2 h (w := "mixed") (xs := [.int a, .int b, .int c, .int d]) (st := st) (he_of e o2 st) (sz_of sz st) (ev_hold_ints h1 h2 h a b c d st)
    by_cases q : (inP (upsL one.length other rows) a b && inP (dnsL one.length other rows) c d) = true
    · rw [if_pos q] at hd ⊢; exact hd_ok rfl rfl rfl rfl hd
    · rw [if_neg q] at hd ⊢; exact hd_ex rfl rfl rfl rfl hd
  · rw [due_mixed h1 h2 h (x1 := .int a) (x2 := .int b) (x3 := .int c) (x4 := .int d) (u := inP (upsL one.length other rows) a b) (v := inP (dnsL one.length other rows) c d) rfl rfl rfl rfl ev_isint ev_isint ev_isint ev_isint (he_of e o2 st) (fun _ => ⟨in_pl a b _ st, in_pl c d _ st⟩)]
    congr 1
    have z : ((decide (0 ≤ a) && decide (a ≤ 99)) && (decide (0 ≤ b) && decide (b ≤ 99)) && (decide (0 ≤ c) && decide (c ≤ 99)) && (decide (0 ≤ d) && decide (d ≤ 99)) && inP (upsL one.length other rows) a b && inP (dnsL one.length other rows) c d) = (inP (upsL one.length other rows) a b && inP (dnsL one.length other rows) c d) := by
      by_cases p : 0 ≤ a ∧ a ≤ 99 ∧ 0 ≤ b ∧ b ≤ 99
      · by_cases p' : 0 ≤ c ∧ c ≤ 99 ∧ 0 ≤ d ∧ d ≤ 99
        · simp [p.1, p.2.1, p.2.2.1, p.2.2.2, p'.1, p'.2.1, p'.2.2.1, p'.2.2.2]
        · rw [in_small (dns_small h1 h2 h) (by decide) (by decide) p']; simp
      · rw [in_small (ups_small h1 h2 h) (by decide) (by decide) p]; simp
    rw [z]
theorem g_odd {x1 x2 x3 x4 : D} {y1 y2 y3 y4 : PyData} {t1 t2 t3 t4 : Ty} (e1 : toPy x1 = some y1) (e2 : toPy x2 = some y2) (e3 : toPy x3 = some y3) (e4 : toPy x4 = some y4) (s1 : SmP y1) (s2 : SmP y2) (s3 : SmP y3) (s4 : SmP y4)
    (k1 : ∀ st, tyD x1 st = some t1) (k2 : ∀ st, tyD x2 st = some t2) (k3 : ∀ st, tyD x3 st = some t3) (k4 : ∀ st, tyD x4 st = some t4)
    {b1 b2 b3 b4 : Bool} (i1 : ∀ st, F__law_is_int [x1, .int 0, .int 99] st = .ok (.bl b1) st) (i2 : ∀ st, F__law_is_int [x2, .int 0, .int 99] st = .ok (.bl b2) st) (i3 : ∀ st, F__law_is_int [x3, .int 0, .int 99] st = .ok (.bl b3) st) (i4 : ∀ st, F__law_is_int [x4, .int 0, .int 99] st = .ok (.bl b4) st)
    (hno : ¬ (t1 = .int ∧ t2 = .int ∧ t3 = .int ∧ t4 = .int)) (hb : (b1 && b2 && b3 && b4) = false) : Good one other rows (.tup [.str "mixed", x1, x2, x3, x4]) := by
  obtain ⟨e, o1, o2⟩ := m_of e1 e2 e3 e4 s1 s2 s3 s4
  have sz : szB "mixed" 5 = some false := by decide +kernel
  refine ⟨⟨_, e, o1⟩, .str "mixed", ⟨"mixed", by decide +kernel, .inl rfl⟩, fun st => ⟨?_, ?_⟩⟩
  · have hd := ck_go h1 h2 h (w := "mixed") (xs := [x1, x2, x3, x4]) (st := st) (he_of e o2 st) (sz_of sz st) (ev_hold_odd h1 h2 h x1 x2 x3 x4 st (toPy_plain e1) (toPy_plain e2) (toPy_plain e3) (toPy_plain e4) t1 t2 t3 t4 (k1 st) (k2 st) (k3 st) (k4 st) hno)
    rw [if_neg (by simp)] at hd
    exact hd_ex rfl rfl rfl rfl hd
  · rw [due_mixed h1 h2 h (u := false) (v := false) (toPy_plain e1) (toPy_plain e2) (toPy_plain e3) (toPy_plain e4) (i1 st) (i2 st) (i3 st) (i4 st) (he_of e o2 st) (fun z => by rw [hb] at z; cases z), hb]
    rfl
/-- an odd thing at one of the four places -/
theorem g_put {a b c d : Int} (ha : a.natAbs < 10 ^ 12) (hb : b.natAbs < 10 ^ 12) (hc : c.natAbs < 10 ^ 12) (hd : d.natAbs < 10 ^ 12) {o : D} (ho : (∃ j : Int, o = .int j ∧ SmP (.int j)) ∨ ∃ y t, toPy o = some y ∧ SmP y ∧ (∀ st, tyD o st = some t) ∧ t ≠ .int ∧ ∀ st, F__law_is_int [o, .int 0, .int 99] st = .ok (.bl false) st) :
    Good one other rows (.tup [.str "mixed", o, .int b, .int c, .int d]) ∧ Good one other rows (.tup [.str "mixed", .int a, o, .int c, .int d]) ∧ Good one other rows (.tup [.str "mixed", .int a, .int b, o, .int d]) ∧ Good one other rows (.tup [.str "mixed", .int a, .int b, .int c, o]) := by
  rcases ho with ⟨j, rfl, hj⟩ | ⟨y, t, e, s, k, nt, i⟩
  · exact ⟨g_ints h1 h2 h (.inr hj) (.inl hb) (.inl hc) (.inl hd), g_ints h1 h2 h (.inl ha) (.inr hj) (.inl hc) (.inl hd), g_ints h1 h2 h (.inl ha) (.inl hb) (.inr hj) (.inl hd), g_ints h1 h2 h (.inl ha) (.inl hb) (.inl hc) (.inr hj)⟩
  · have ki : ∀ (x : Int) (st : Sto), tyD (.int x) st = some .int := fun _ _ => rfl
    exact ⟨g_odd h1 h2 h e rfl rfl rfl s (smP_int hb) (smP_int hc) (smP_int hd) k (ki b) (ki c) (ki d) i (fun _ => ev_isint) (fun _ => ev_isint) (fun _ => ev_isint) (fun z => nt z.1) (by simp),
      g_odd h1 h2 h rfl e rfl rfl (smP_int ha) s (smP_int hc) (smP_int hd) (ki a) k (ki c) (ki d) (fun _ => ev_isint) i (fun _ => ev_isint) (fun _ => ev_isint) (fun z => nt z.2.1) (by simp),
      g_odd h1 h2 h rfl rfl e rfl (smP_int ha) (smP_int hb) s (smP_int hd) (ki a) (ki b) k (ki d) (fun _ => ev_isint) (fun _ => ev_isint) i (fun _ => ev_isint) (fun z => nt z.2.2.1) (by simp),
      g_odd h1 h2 h rfl rfl rfl e (smP_int ha) (smP_int hb) (smP_int hc) s (ki a) (ki b) (ki c) k (fun _ => ev_isint) (fun _ => ev_isint) (fun _ => ev_isint) i (fun z => nt z.2.2.2) (by simp)⟩
/-- the first things, but for those near the told paper -/
def base1 : List D := [.non, .tup [], .int 5, .str "down", .tup [.str "Down"], .tup [.non], .tup [.lst [.str "down"]]]
def base2 : List D := [.tup [.str "down"], .tup [.str "up"], .tup [.str "straight"], .tup [.str "mixed"], .tup [.str "down", .int 0], .tup [.str "mixed", .int 0, .int 0, .int 0], .tup [.str "", .int 0]]
theorem base_good : ∀ x ∈ base1 ++ base2, Good one other rows x := by
  have sw : ∀ w : Str, w ∈ (["Down", "down", "up", "straight", "mixed", ""] : List Str) → SmP (.str w) := fun w hw => by
    have a1 : (["Down", "down", "up", "straight", "mixed", ""] : List Str).all (fun w => ((PyData.str w).showable && !(PyData.str w).hasDict && decide ((PyData.str w).depth ≤ 1) && (PyData.str w).leavesShort 64 && decide ((PyData.str w).weight ≤ 120) && (PyData.str w).canLay0)) = true := by decide +kernel
    exact smP_by (List.all_eq_true.mp a1 w hw)
  have s0 : SmP (.int 0) := smP_int (by decide)
  intro x hx
  simp only [base1, base2, List.cons_append, List.nil_append, List.mem_cons, List.not_mem_nil, or_false] at hx
  rcases hx with rfl | rfl | rfl | rfl | rfl | rfl | rfl | rfl | rfl | rfl | rfl | rfl | rfl | rfl
  · exact g_nt h1 h2 h (y := .none) rfl (by decide +kernel) (fun _ => rfl) rfl
  · exact g_nil h1 h2 h
  · exact g_nt h1 h2 h (y := .int 5) rfl (by decide +kernel) (fun _ => rfl) rfl
  · exact g_nt h1 h2 h (y := .str "down") rfl (by decide +kernel) (fun _ => rfl) rfl
  · exact g_sz h1 h2 h (n := 1) rfl rfl (fun y hy => by simp at hy; subst hy; exact sw _ (by decide +kernel)) (by decide) (by decide +kernel) (by decide +kernel)
  · exact g_ns h1 h2 h (y := .tuple [.none]) rfl (by decide +kernel) (by decide +kernel) (t := .none) (fun _ => rfl) rfl
  · exact g_ns h1 h2 h (y := .tuple [.list [.str "down"]]) rfl (by decide +kernel) (by decide +kernel) (t := .list) (fun _ => rfl) rfl
  · exact g_one h1 h2 h (by decide +kernel)
  · exact g_one h1 h2 h (by decide +kernel)
  · exact g_one h1 h2 h (by decide +kernel)
  · exact g_sz h1 h2 h (n := 1) rfl rfl (fun y hy => by simp at hy; subst hy; exact sw _ (by decide +kernel)) (by decide) (by decide +kernel) (by decide +kernel)
  · exact g_sz h1 h2 h (n := 2) (ys := [.int 0]) rfl rfl (fun y hy => by simp at hy; rcases hy with rfl | rfl; exact sw _ (by decide +kernel); exact s0) (by decide) (by decide +kernel) (by decide +kernel)
  · exact g_sz h1 h2 h (n := 4) (ys := [.int 0, .int 0, .int 0]) rfl rfl (fun y hy => by simp at hy; rcases hy with rfl | rfl; exact sw _ (by decide +kernel); exact s0) (by decide) (by decide +kernel) (by decide +kernel)
  · exact g_sz h1 h2 h (n := 2) (ys := [.int 0]) rfl rfl (fun y hy => by simp at hy; rcases hy with rfl | rfl; exact sw _ (by decide +kernel); exact s0) (by decide) (by decide +kernel) (by decide +kernel)
/-- eight drawn papers -/
theorem bent_draws {cs : List Int} {a : Nat} {st r : Sto} (d : Dr cs a st r) (ha : a < 2 ^ 40) (sheet : D) (n m : Nat) (hn : 0 < n ∧ n ≤ 8) (hm : 0 < m ∧ m ≤ 8) (th : List D) (hth : ∀ x ∈ th, Good one other rows x) (hl : th.length ≤ 20) :
    ∃ (th' : List D) (st' : Sto) (c7 c8 : Option D), (∀ x ∈ th', Good one other rows x) ∧ th'.length ≤ 28 ∧ Dr cs (a + 32) st' r ∧ fLoop (.nm 7) B__law_bent_0 (rngL 0 8) [some (.ptr 1), some (shr one), some (shr other), some sheet, some (.ol th), some (.int n), some (.int m), none, none, none, none] st =
      some (.nx [some (.ptr 1), some (shr one), some (shr other), some sheet, some (.ol th'), some (.int n), some (.int m), c7, c8, none, none], st') := by
  obtain ⟨env', st', ⟨th', c7, c8, rfl, g1, g2, dr⟩, he⟩ := fLoop_inv (t := .nm 7) (B := B__law_bent_0) (fun k env s => ∃ (th : List D) (c7 c8 : Option D), env = [some (.ptr 1), some (shr one), some (shr other), some sheet, some (.ol th), some (.int n), some (.int m), c7, c8, none, none] ∧ (∀ x ∈ th, Good one other rows x) ∧ th.length ≤ 20 + k ∧ Dr cs (a + 4 * k) s r)
    (rngL 0 8) 0 [some (.ptr 1), some (shr one), some (shr other), some sheet, some (.ol th), some (.int n), some (.int m), none, none, none, none] st ⟨th, none, none, rfl, hth, by omega, d⟩ fun j dd hd env s ⟨th, c7, c8, he, g1, g2, dr⟩ => by
      subst he
      have hj := (rngL_get hd).1
      obtain ⟨x1, s1, a1, b1, d1, q1⟩ := drw dr (n : Int) (by omega) (by unfold Sm; omega) (by omega)
      obtain ⟨x2, s2, a2, b2, d2, q2⟩ := drw d1 (m : Int) (by omega) (by unfold Sm; omega) (by omega)
      obtain ⟨x3, s3, a3, b3, d3, q3⟩ := drw d2 (n : Int) (by omega) (by unfold Sm; omega) (by omega)
      obtain ⟨x4, s4, a4, b4, d4, q4⟩ := drw d3 (m : Int) (by omega) (by unfold Sm; omega) (by omega)
      have ot4 : ∀ (a b c d : D) st, oTup [a, b, c, d] st = .ok (.tup [a, b, c, d]) st := fun _ _ _ _ _ => rfl
      have ot1 : ∀ (a : D) st, oTup [a] st = .ok (.tup [a]) st := fun _ _ => rfl
      have ad : ∀ (a b c d : D) st, oAdd (.tup [.str "mixed"]) (.tup [a, b, c, d]) st = .ok (.tup [.str "mixed", a, b, c, d]) st := fun _ _ _ _ _ => rfl
      have hz : th.length < sizeLine := by rw [sizeLine_eq]; omega
      refine ⟨_, _, s4, rfl, ?_, th ++ [.tup [.str "mixed", .int x1, .int x2, .int x3, .int x4]], some dd, some (.tup [.int x1, .int x2, .int x3, .int x4]), rfl, fun x hx => ?_, by simp; omega, by rw [show a + 4 * (0 + j + 1) = a + 4 * (0 + j) + 1 + 1 + 1 + 1 by omega]; exact d4⟩
      · simp only [B__law_bent_0, dFn, tupIt_t, tupIt_shr, tupIt_cst, tupIt_cstR, lstIt_l, lstIt_f, lstIt_pls, sSeq, sSet, sNew, mkL, mkM, sApp, sExt, sSto, dOw2, dOw1, dOwR, dOwG2, dOwG1, ownV, sFrz, frzE, nLst, nCat, nLc, nList, nRep, mNew, pl_non, pl_bl, pl_int, pl_str, pl_tup, pl_lst, pl_fls, pl_dic, pl_ptr, pl_fr, pl_shP, pl_shr, pl_cst, pl_cstR, pl_plD, pl_plsD, sPar, sRet, sRetN, sIf, sNil, sExpr, evL, dCall, dCallF, dVar, dC, dOp1, dOp2, dTst, dTru, tru, dNotT, dAndT, dOrT, dAndV, dOrV, dNotV, dIf, List.map_cons, List.map_nil, List.length_cons, List.length_nil, Nat.sub_self, Nat.reduceAdd, Nat.reduceSub, List.replicate_zero, List.reduceReplicate, List.append_nil, List.cons_append, List.nil_append, List.getElem?_cons_succ, List.getElem?_cons_zero, Out.bind_ok, Out.to_ok, List.set_cons_zero, List.set_cons_succ, if_true, if_false, Bool.not_false, Bool.not_true, Bool.false_eq_true, Bool.true_eq_false, reduceIte, if_pos, q1, q2, q3, q4, ot4, ot1, ad, hz]
      · rcases List.mem_append.mp hx with hx | hx
        · exact g1 x hx
        · simp at hx; subst hx
          exact g_ints h1 h2 h (.inl (by omega)) (.inl (by omega)) (.inl (by omega)) (.inl (by omega))
  exact ⟨th', st', c7, c8, g1, by simpa [rngL] using g2, by simpa [rngL] using dr, he⟩
omit h1 h2 h in
theorem max1 (n : Nat) (st : Sto) (hn : 0 < n) : bMax [.int 1, .int (n : Int)] st = .ok (.int (n : Int)) st := by
  show Out.ok (D.int (if (n : Int) > 1 then (n : Int) else 1)) st = _
  congr 2
  split <;> omega
theorem ev_bent_one {cs : List Int} {a : Nat} {st r : Sto} (d : Dr cs a st r) (ha : a < 2 ^ 40) (hp : 0 < one.length) (hq : 0 < other.length) {w : Str} (hw : w ∈ (["down", "up", "straight"] : List Str)) :
    ∃ (th : List D) (st' : Sto) (a' : Nat), (∀ x ∈ th, Good one other rows x) ∧ a' ≤ a + 40 ∧ Dr cs a' st' r ∧ F__law_bent [.ptr 1, shr one, shr other, .tup [.str w]] st = .ok (.lst th) st' := by
  have hf := h2.few
  have hf1 := h1.few
  have sw : SmP (.str w) := by
    have a1 : (["down", "up", "straight"] : List Str).all (fun w => ((PyData.str w).showable && !(PyData.str w).hasDict && decide ((PyData.str w).depth ≤ 1) && (PyData.str w).leavesShort 64 && decide ((PyData.str w).weight ≤ 120) && (PyData.str w).canLay0)) = true := by decide +kernel
    exact smP_by (List.all_eq_true.mp a1 w hw)
  have q : (!(w == "mixed") && (decide (szB w 2 = some true) && decide (ninB w 2 = some true))) = true := by
    have a1 : (["down", "up", "straight"] : List Str).all (fun w => (!(w == "mixed") && (decide (szB w 2 = some true) && decide (ninB w 2 = some true)))) = true := by decide +kernel
    exact List.all_eq_true.mp a1 w hw
  simp only [Bool.and_eq_true, Bool.not_eq_true', decide_eq_true_eq] at q
  have hth : ∀ x ∈ ([.tup [.str w], .lst [.str w], .tup [], .tup [.str w, .int 0]] : List D) ++ (base1 ++ base2), Good one other rows x := fun x hx => by
    rcases List.mem_append.mp hx with hx | hx
    · simp only [List.mem_cons, List.not_mem_nil, or_false] at hx
      rcases hx with rfl | rfl | rfl | rfl
      · exact g_one h1 h2 h hw
      · exact g_nt h1 h2 h (y := .list [.str w]) rfl (okLst (fun y hy => by simp at hy; subst hy; exact sw) (by simp)) (t := .list) (fun _ => rfl) rfl
      · exact g_nil h1 h2 h
      · exact g_sz h1 h2 h (n := 2) (ys := [.int 0]) rfl rfl (fun y hy => by simp at hy; rcases hy with rfl | rfl; exact sw; exact smP_int (by decide)) (by decide) q.2.1 q.2.2
    · exact base_good h1 h2 h x hx
  obtain ⟨th', st', c7, c8, g1, g2, d1, he⟩ := bent_draws h1 h2 h d ha (.tup [.str w]) one.length other.length ⟨hp, hf1⟩ ⟨hq, hf⟩ _ hth (by simp [base1, base2])
  refine ⟨th', st', a + 32, g1, by omega, d1, ?_⟩
  have t0 : oTup [] st = .ok (.tup []) st := rfl
  have t1 : ∀ a, oTup [a] st = .ok (.tup [a]) st := fun _ => rfl
  have t4 : ∀ a b c d, oTup [a, b, c, d] st = .ok (.tup [a, b, c, d]) st := fun _ _ _ _ => rfl
  have l1 : ∀ a, oLst [a] st = .ok (.lst [a]) st := fun _ => rfl
  have b1 : bList [.tup [.str w]] st = .ok (.lst [.str w]) st := rfl
  have s1 : oSl (.tup [.str w]) none (some (-1)) st = .ok (.tup []) st := rfl
  have ad : oAdd (.tup [.str w]) (.tup [.int 0]) st = .ok (.tup [.str w, .int 0]) st := rfl
  have l7 : ∀ a b c d e f g, oLst [a, b, c, d, e, f, g] st = .ok (.lst [a, b, c, d, e, f, g]) st := fun _ _ _ _ _ _ _ => rfl
  have w11 : (11 : Nat) ≤ sizeLine := by rw [sizeLine_eq]; decide
  have w18 : (18 : Nat) ≤ sizeLine := by rw [sizeLine_eq]; decide
  have r8 : dRng1 [.int 8] st = .ok (rngL 0 8) st := rfl
  have e1 : ∀ st, bLen [shr one] st = .ok (.int one.length) st := fun st => bLen_mapT _ _ _
  have e2 : ∀ st, bLen [shr other] st = .ok (.int other.length) st := fun st => bLen_mapT _ _ _
  simp only [base1, base2, List.cons_append, List.nil_append] at he
  simp only [R__law_bent, T__law_bent, dFn, tupIt_t, tupIt_shr, tupIt_cst, tupIt_cstR, lstIt_l, lstIt_f, lstIt_pls, sSeq, sSet, sNew, mkL, mkM, sApp, sExt, sSto, dOw2, dOw1, dOwR, dOwG2, dOwG1, ownV, sFrz, frzE, nLst, nCat, nLc, nList, nRep, mNew, pl_non, pl_bl, pl_int, pl_str, pl_tup, pl_lst, pl_fls, pl_dic, pl_ptr, pl_fr, pl_shP, pl_shr, pl_cst, pl_cstR, pl_plD, pl_plsD, sPar, sRet, sRetN, sIf, sNil, sExpr, evL, dCall, dCallF, dVar, dC, dOp1, dOp2, dTst, dTru, tru, dNotT, dAndT, dOrT, dAndV, dOrV, dNotV, dIf, List.map_cons, List.map_nil, List.length_cons, List.length_nil, Nat.sub_self, Nat.reduceAdd, Nat.reduceSub, List.replicate_zero, List.reduceReplicate, List.append_nil, List.cons_append, List.nil_append, List.getElem?_cons_succ, List.getElem?_cons_zero, Out.bind_ok, Out.to_ok, List.set_cons_zero, List.set_cons_succ, if_true, if_false, Bool.not_false, Bool.not_true, Bool.false_eq_true, Bool.true_eq_false, reduceIte, if_pos, b1, dSl, dNoP, dP, oNeg, s1, t0, t1, oTup2, t4, l1, ad, w11, oAdd.vieS, l7, w18, e1, e2, max1 _ _ hp, max1 _ _ hq, sFor, dItR1, r8, he, ix0, oEq_str, q.1]
def oddsL (v : Int) : List D := [.int (v + 1), .int (v - 1), .int (-1), .non, .bl true, .bl false, .str "0", .tup [.int 0], .int (10 ^ 30)]
omit h1 h2 h in
theorem odds_ok {v : Int} (hv : v.natAbs < 1000) : ∀ o ∈ oddsL v, (∃ j : Int, o = .int j ∧ SmP (.int j)) ∨ ∃ y t, toPy o = some y ∧ SmP y ∧ (∀ st, tyD o st = some t) ∧ t ≠ .int ∧ ∀ st, F__law_is_int [o, .int 0, .int 99] st = .ok (.bl false) st := by
  intro o ho
  simp only [oddsL, List.mem_cons, List.not_mem_nil, or_false] at ho
  rcases ho with rfl | rfl | rfl | rfl | rfl | rfl | rfl | rfl | rfl
  · exact .inl ⟨_, rfl, smP_int (by omega)⟩
  · exact .inl ⟨_, rfl, smP_int (by omega)⟩
  · exact .inl ⟨_, rfl, smP_int (by decide)⟩
  · exact .inr ⟨.none, .none, rfl, smP_by (by decide +kernel), fun _ => rfl, (by decide), fun _ => ev_isint_no rfl rfl (.inl rfl)⟩
  · exact .inr ⟨.bool true, .bool, rfl, smP_by (by decide +kernel), fun _ => rfl, (by decide), fun _ => ev_isint_no rfl rfl (.inr rfl)⟩
  · exact .inr ⟨.bool false, .bool, rfl, smP_by (by decide +kernel), fun _ => rfl, (by decide), fun _ => ev_isint_no rfl rfl (.inr rfl)⟩
  · exact .inr ⟨.str "0", .str, rfl, smP_by (by decide +kernel), fun _ => rfl, (by decide), fun _ => ev_isint_no rfl rfl (.inl rfl)⟩
  · exact .inr ⟨.tuple [.int 0], .tuple, rfl, smP_by (by decide +kernel), fun _ => rfl, (by decide), fun _ => ev_isint_no rfl rfl (.inl rfl)⟩
  · exact .inl ⟨_, rfl, smP_by (by decide +kernel)⟩
/-- papers with one thing otherwise, at the place k -/
theorem bent_odds {st : Sto} (sheet : List D) (k : Nat) (hk : k < sheet.length) (hks : sheet.length ≤ 8) (c1 c2 c5 c6 c7 c8 : Option D) (os th : List D) (hp : ∀ o ∈ os, plainD o = true) (hg : ∀ o ∈ os, Good one other rows (.tup (sheet.set k o))) (hth : ∀ x ∈ th, Good one other rows x) (hl : th.length + os.length ≤ 100) :
    ∃ (th' : List D) (c10 : Option D), (∀ x ∈ th', Good one other rows x) ∧ th'.length ≤ 100 ∧ fLoop (.nm 10) B__law_bent_1 os [some (.ptr 1), c1, c2, some (.tup sheet), some (.ol th), c5, c6, c7, c8, some (.int (k : Int)), none] st =
      some (.nx [some (.ptr 1), c1, c2, some (.tup sheet), some (.ol th'), c5, c6, c7, c8, some (.int (k : Int)), c10], st) := by
  obtain ⟨env', st', ⟨th', c10, rfl, g1, g2, rfl⟩, he⟩ := fLoop_inv (t := .nm 10) (B := B__law_bent_1) (fun j env s => ∃ (th' : List D) (c10 : Option D), env = [some (.ptr 1), c1, c2, some (.tup sheet), some (.ol th'), c5, c6, c7, c8, some (.int (k : Int)), c10] ∧ (∀ x ∈ th', Good one other rows x) ∧ th'.length = th.length + j ∧ s = st)
    os 0 [some (.ptr 1), c1, c2, some (.tup sheet), some (.ol th), c5, c6, c7, c8, some (.int (k : Int)), none] st ⟨th, none, rfl, hth, rfl, rfl⟩ fun j o hd env s ⟨th', c10, he, g1, g2, hs⟩ => by
      subst he; subst hs
      have hj := (List.getElem?_eq_some_iff.mp hd).1
      have ho := List.mem_of_getElem? hd
      have cA : cutL sheet none (some (k : Int)) = sheet.take k := by
        unfold cutL
        rw [HT.sIx_none, HT.sIx_nat, List.drop_zero, Nat.sub_zero, Nat.min_eq_left (by omega)]
      have cB : cutL sheet (some ((k + 1 : Nat) : Int)) none = sheet.drop (k + 1) := by
        unfold cutL
        rw [HT.sIx_none, HT.sIx_nat, Nat.min_eq_left (by omega)]
        exact List.take_of_length_le (by simp)
      have sl1 : oSl (.tup sheet) none (some (k : Int)) s = .ok (.tup (sheet.take k)) s := by
        show Out.ok (D.tup (cutL _ _ _)) s = _
        rw [cA]
      have sl2 : oSl (.tup sheet) (some ((k : Int) + 1)) none s = .ok (.tup (sheet.drop (k + 1))) s := by
        show Out.ok (D.tup (cutL _ (some (((k + 1 : Nat)) : Int)) _)) s = _
        rw [cB]
      have ot1 : oTup [o] s = .ok (.tup [o]) s := rfl
      have ad1 : oAdd (.tup (sheet.take k)) (.tup [o]) s = .ok (.tup (sheet.take k ++ [o])) s := by
        show (if _ then _ else _) = _
        rw [if_pos (by rw [sizeLine_eq, List.length_take]; simp only [List.length_cons, List.length_nil]; omega)]
      have ad2 : oAdd (.tup (sheet.take k ++ [o])) (.tup (sheet.drop (k + 1))) s = .ok (.tup (sheet.set k o)) s := by
        show (if _ then _ else _) = _
        rw [if_pos (by rw [sizeLine_eq, List.length_append, List.length_take, List.length_drop]; simp only [List.length_cons, List.length_nil]; omega)]
        congr 2
        rw [List.set_eq_take_append_cons_drop, if_pos hk]
        simp
      have add1 : ∀ (x : Int), oAdd (.int x) (.int 1) s = .ok (.int (x + 1)) s := fun _ => rfl
      have hz : th'.length < sizeLine := by rw [sizeLine_eq]; omega
      refine ⟨_, _, s, rfl, ?_, th' ++ [.tup (sheet.set k o)], some o, rfl, fun x hx => ?_, by simp; omega, rfl⟩
      · simp only [B__law_bent_1, dFn, tupIt_t, tupIt_shr, tupIt_cst, tupIt_cstR, lstIt_l, lstIt_f, lstIt_pls, sSeq, sSet, sNew, mkL, mkM, sApp, sExt, sSto, dOw2, dOw1, dOwR, dOwG2, dOwG1, ownV, sFrz, frzE, nLst, nCat, nLc, nList, nRep, mNew, pl_non, pl_bl, pl_int, pl_str, pl_tup, pl_lst, pl_fls, pl_dic, pl_ptr, pl_fr, pl_shP, pl_shr, pl_cst, pl_cstR, pl_plD, pl_plsD, sPar, sRet, sRetN, sIf, sNil, sExpr, evL, dCall, dCallF, dVar, dC, dOp1, dOp2, dTst, dTru, tru, dNotT, dAndT, dOrT, dAndV, dOrV, dNotV, dIf, List.map_cons, List.map_nil, List.length_cons, List.length_nil, Nat.sub_self, Nat.reduceAdd, Nat.reduceSub, List.replicate_zero, List.reduceReplicate, List.append_nil, List.cons_append, List.nil_append, List.getElem?_cons_succ, List.getElem?_cons_zero, Out.bind_ok, Out.to_ok, List.set_cons_zero, List.set_cons_succ, if_true, if_false, Bool.not_false, Bool.not_true, Bool.false_eq_true, Bool.true_eq_false, reduceIte, if_pos, hp o ho, dSl, dNoP, dP, sl1, ot1, ad1, add1, sl2, ad2, hz]
      · rcases List.mem_append.mp hx with hx | hx
        · exact g1 x hx
        · simp at hx; subst hx; exact hg o ho
  exact ⟨th', c10, g1, by omega, he⟩
theorem ev_bent_mixed {cs : List Int} {a : Nat} {st r : Sto} (d : Dr cs a st r) (ha : a < 2 ^ 40) (hp : 0 < one.length) (hq : 0 < other.length) {x1 x2 x3 x4 : Int} (k1 : x1.natAbs < 900) (k2 : x2.natAbs < 900) (k3 : x3.natAbs < 900) (k4 : x4.natAbs < 900) :
    ∃ (th : List D) (st' : Sto) (a' : Nat), (∀ x ∈ th, Good one other rows x) ∧ a' ≤ a + 40 ∧ Dr cs a' st' r ∧ F__law_bent [.ptr 1, shr one, shr other, .tup [.str "mixed", .int x1, .int x2, .int x3, .int x4]] st = .ok (.lst th) st' := by
  have hf := h2.few
  have hf1 := h1.few
  have sm : SmP (.str "mixed") := smP_by (by decide +kernel)
  have m1 : SmP (.int x1) := smP_int (by omega)
  have m2 : SmP (.int x2) := smP_int (by omega)
  have m3 : SmP (.int x3) := smP_int (by omega)
  have m4 : SmP (.int x4) := smP_int (by omega)
  have m0 : SmP (.int 0) := smP_int (by decide)
  have hth : ∀ x ∈ ([.tup [.str "mixed", .int x1, .int x2, .int x3, .int x4], .lst [.str "mixed", .int x1, .int x2, .int x3, .int x4], .tup [.str "mixed", .int x1, .int x2, .int x3], .tup [.str "mixed", .int x1, .int x2, .int x3, .int x4, .int 0]] : List D) ++ (base1 ++ base2), Good one other rows x := fun x hx => by
    rcases List.mem_append.mp hx with hx | hx
    · simp only [List.mem_cons, List.not_mem_nil, or_false] at hx
      rcases hx with rfl | rfl | rfl | rfl
      · exact g_ints h1 h2 h (.inr m1) (.inr m2) (.inr m3) (.inr m4)
      · exact g_nt h1 h2 h (y := .list [.str "mixed", .int x1, .int x2, .int x3, .int x4]) rfl (okLst (fun y hy => by simp only [List.mem_cons, List.not_mem_nil, or_false] at hy; rcases hy with rfl | rfl | rfl | rfl | rfl <;> assumption) (by simp)) (t := .list) (fun _ => rfl) rfl
      · exact g_sz h1 h2 h (n := 4) (ys := [.int x1, .int x2, .int x3]) rfl rfl (fun y hy => by simp only [List.mem_cons, List.not_mem_nil, or_false] at hy; rcases hy with rfl | rfl | rfl | rfl <;> assumption) (by decide) (by decide +kernel) (by decide +kernel)
      · exact g_sz h1 h2 h (n := 6) (ys := [.int x1, .int x2, .int x3, .int x4, .int 0]) rfl rfl (fun y hy => by simp only [List.mem_cons, List.not_mem_nil, or_false] at hy; rcases hy with rfl | rfl | rfl | rfl | rfl | rfl <;> assumption) (by decide) (by decide +kernel) (by decide +kernel)
    · exact base_good h1 h2 h x hx
  obtain ⟨th', st', c7, c8, g1, g2, d1, he⟩ := bent_draws h1 h2 h d ha (.tup [.str "mixed", .int x1, .int x2, .int x3, .int x4]) one.length other.length ⟨hp, hf1⟩ ⟨hq, hf⟩ _ hth (by simp [base1, base2])
  obtain ⟨at_, st2, a0, a1, d2, q2⟩ := drw d1 4
  obtain ⟨k, rfl⟩ := Int.eq_ofNat_of_zero_le a0
  have hk : k < 4 := by omega
  have key : ∃ v : Int, v.natAbs < 1000 ∧ (∀ st, oIx (.tup [.str "mixed", .int x1, .int x2, .int x3, .int x4]) (.int (1 + (k : Int))) st = .ok (.int v) st) ∧ ∀ o ∈ oddsL v, Good one other rows (.tup ([.str "mixed", .int x1, .int x2, .int x3, .int x4].set (k + 1) o)) := by
    have gp := fun (v : Int) (hv : v.natAbs < 1000) (o : D) (ho : o ∈ oddsL v) => g_put h1 h2 h (a := x1) (b := x2) (c := x3) (d := x4) (by omega) (by omega) (by omega) (by omega) (odds_ok hv o ho)
    have : k = 0 ∨ k = 1 ∨ k = 2 ∨ k = 3 := by omega
    rcases this with rfl | rfl | rfl | rfl
    · exact ⟨x1, by omega, fun _ => rfl, fun o ho => (gp x1 (by omega) o ho).1⟩
    · exact ⟨x2, by omega, fun _ => rfl, fun o ho => (gp x2 (by omega) o ho).2.1⟩
    · exact ⟨x3, by omega, fun _ => rfl, fun o ho => (gp x3 (by omega) o ho).2.2.1⟩
    · exact ⟨x4, by omega, fun _ => rfl, fun o ho => (gp x4 (by omega) o ho).2.2.2⟩
  obtain ⟨v, hv, ixv, gv⟩ := key
  obtain ⟨th2, c10, p1, p2, he2⟩ := bent_odds h1 h2 h (st := st2) [.str "mixed", .int x1, .int x2, .int x3, .int x4] (k + 1) (by simp; omega) (by simp) (some (shr one)) (some (shr other)) (some (.int one.length)) (some (.int other.length)) c7 c8 (oddsL v) th' (fun o ho => by
    simp only [oddsL, List.mem_cons, List.not_mem_nil, or_false] at ho
    rcases ho with rfl | rfl | rfl | rfl | rfl | rfl | rfl | rfl | rfl <;> rfl) gv g1 (by simp [oddsL]; omega)
  refine ⟨th2 ++ [.tup [.str "mixed", .int x3, .int x4, .int x1, .int x2]], st2, a + 32 + 1, fun x hx => ?_, by omega, d2, ?_⟩
  · rcases List.mem_append.mp hx with hx | hx
    · exact p1 x hx
    · simp at hx; subst hx; exact g_ints h1 h2 h (.inr m3) (.inr m4) (.inr m1) (.inr m2)
  · have t0 : oTup [] st = .ok (.tup []) st := rfl
    have t1 : ∀ a st, oTup [a] st = .ok (.tup [a]) st := fun _ _ => rfl
    have t4 : ∀ a b c d, oTup [a, b, c, d] st = .ok (.tup [a, b, c, d]) st := fun _ _ _ _ => rfl
    have t9 : ∀ a b c d e f g h i st, oTup [a, b, c, d, e, f, g, h, i] st = .ok (.tup [a, b, c, d, e, f, g, h, i]) st := fun _ _ _ _ _ _ _ _ _ _ => rfl
    have l1 : ∀ a, oLst [a] st = .ok (.lst [a]) st := fun _ => rfl
    have b1 : bList [.tup [.str "mixed", .int x1, .int x2, .int x3, .int x4]] st = .ok (.lst [.str "mixed", .int x1, .int x2, .int x3, .int x4]) st := rfl
    have s1 : oSl (.tup [.str "mixed", .int x1, .int x2, .int x3, .int x4]) none (some (-1)) st = .ok (.tup [.str "mixed", .int x1, .int x2, .int x3]) st := rfl
    have s3 : ∀ st, oSl (.tup [.str "mixed", .int x1, .int x2, .int x3, .int x4]) (some 3) none st = .ok (.tup [.int x3, .int x4]) st := fun _ => rfl
    have s4 : ∀ st, oSl (.tup [.str "mixed", .int x1, .int x2, .int x3, .int x4]) (some 1) (some 3) st = .ok (.tup [.int x1, .int x2]) st := fun _ => rfl
    have ad : oAdd (.tup [.str "mixed", .int x1, .int x2, .int x3, .int x4]) (.tup [.int 0]) st = .ok (.tup [.str "mixed", .int x1, .int x2, .int x3, .int x4, .int 0]) st := rfl
    have ad3 : ∀ st, oAdd (.tup [.str "mixed"]) (.tup [.int x3, .int x4]) st = .ok (.tup [.str "mixed", .int x3, .int x4]) st := fun _ => rfl
    have ad4 : ∀ st, oAdd (.tup [.str "mixed", .int x3, .int x4]) (.tup [.int x1, .int x2]) st = .ok (.tup [.str "mixed", .int x3, .int x4, .int x1, .int x2]) st := fun _ => rfl
    have adi : ∀ (x y : Int) st, oAdd (.int x) (.int y) st = .ok (.int (x + y)) st := fun _ _ _ => rfl
    have l7 : ∀ a b c d e f g, oLst [a, b, c, d, e, f, g] st = .ok (.lst [a, b, c, d, e, f, g]) st := fun _ _ _ _ _ _ _ => rfl
    have w11 : (11 : Nat) ≤ sizeLine := by rw [sizeLine_eq]; decide
    have w18 : (18 : Nat) ≤ sizeLine := by rw [sizeLine_eq]; decide
    have r8 : dRng1 [.int 8] st = .ok (rngL 0 8) st := rfl
    have e1 : ∀ st, bLen [shr one] st = .ok (.int one.length) st := fun st => bLen_mapT _ _ _
    have e2 : ∀ st, bLen [shr other] st = .ok (.int other.length) st := fun st => bLen_mapT _ _ _
    have hm : (("mixed" : Str) == "mixed") = true := beq_self_eq_true _
    have p30 : ∀ st, oPow (.int 10) (.int 30) st = .ok (.int (10 ^ 30)) st := fun _ => rfl
    have hz : th2.length < sizeLine := by rw [sizeLine_eq]; omega
    have ek : ((k + 1 : Nat) : Int) = 1 + (k : Int) := by omega
    rw [ek] at he2
    simp only [base1, base2, oddsL, List.cons_append, List.nil_append] at he he2
    simp only [R__law_bent, T__law_bent, dFn, tupIt_t, tupIt_shr, tupIt_cst, tupIt_cstR, lstIt_l, lstIt_f, lstIt_pls, sSeq, sSet, sNew, mkL, mkM, sApp, sExt, sSto, dOw2, dOw1, dOwR, dOwG2, dOwG1, ownV, sFrz, frzE, nLst, nCat, nLc, nList, nRep, mNew, pl_non, pl_bl, pl_int, pl_str, pl_tup, pl_lst, pl_fls, pl_dic, pl_ptr, pl_fr, pl_shP, pl_shr, pl_cst, pl_cstR, pl_plD, pl_plsD, sPar, sRet, sRetN, sIf, sNil, sExpr, evL, dCall, dCallF, dVar, dC, dOp1, dOp2, dTst, dTru, tru, dNotT, dAndT, dOrT, dAndV, dOrV, dNotV, dIf, List.map_cons, List.map_nil, List.length_cons, List.length_nil, Nat.sub_self, Nat.reduceAdd, Nat.reduceSub, List.replicate_zero, List.reduceReplicate, List.append_nil, List.cons_append, List.nil_append, List.getElem?_cons_succ, List.getElem?_cons_zero, Out.bind_ok, Out.to_ok, List.set_cons_zero, List.set_cons_succ, if_true, if_false, Bool.not_false, Bool.not_true, Bool.false_eq_true, Bool.true_eq_false, reduceIte, if_pos, b1, dSl, dNoP, dP, oNeg, s1, t0, t1, oTup2, t4, l1, ad, w11, oAdd.vieS, l7, w18, e1, e2, max1 _ _ hp, max1 _ _ hq, sFor, dItR1, r8, he, ix0, oEq_str, hm, q2, adi, ixv, oSub, p30, t9, dItT, he2, s3, s4, ad3, ad4, hz]
theorem ev_law_bent {cs : List Int} {a : Nat} {st r : Sto} (d : Dr cs a st r) (ha : a < 2 ^ 40) (hp : 0 < one.length) (hq : 0 < other.length) :
    ∃ (th : List D) (st' : Sto) (a' : Nat), (∀ x ∈ th, Good one other rows x) ∧ a' ≤ a + 40 ∧ Dr cs a' st' r ∧ F__law_bent [.ptr 1, shr one, shr other, kpD (upsL one.length other rows) (dnsL one.length other rows)] st = .ok (.lst th) st' := by
  cases eu : upsL one.length other rows with
  | nil =>
    cases en : dnsL one.length other rows with
    | nil => exact ev_bent_one h1 h2 h d ha hp hq (by decide +kernel)
    | cons n ns => exact ev_bent_one h1 h2 h d ha hp hq (by decide +kernel)
  | cons u us =>
    cases en : dnsL one.length other rows with
    | nil => exact ev_bent_one h1 h2 h d ha hp hq (by decide +kernel)
    | cons n ns =>
      have hu := ups_small h1 h2 h u (by rw [eu]; exact List.mem_cons_self ..)
      have hn := dns_small h1 h2 h n (by rw [en]; exact List.mem_cons_self ..)
      exact ev_bent_mixed h1 h2 h d ha hp hq (by omega) (by omega) (by omega) (by omega)
theorem h_ints {a b c d : Int} (ha : a.natAbs < 10 ^ 12) (hb : b.natAbs < 10 ^ 12) (hc : c.natAbs < 10 ^ 12) (hd : d.natAbs < 10 ^ 12) (st : Sto) : F__law_heard [shr one, shr other, cst rows, .tup [.str "mixed", .int a, .int b, .int c, .int d]] st = .ok (if (inP (upsL one.length other rows) a b && inP (dnsL one.length other rows) c d) = true then .lst [.str "mixed"] else .str "mixed") st := by
  obtain ⟨e, o1, o2⟩ := m_of (x1 := .int a) (x2 := .int b) (x3 := .int c) (x4 := .int d) rfl rfl rfl rfl (smP_int ha) (smP_int hb) (smP_int hc) (smP_int hd)
  have sz : szB "mixed" 5 = some false := by decide +kernel
  have hd := ck_go h1 h2 h (w := "mixed") (xs := [.int a, .int b, .int c, .int d]) (st := st) (he_of e o2 st) (sz_of sz st) (ev_hold_ints h1 h2 h a b c d st)
  by_cases q : (inP (upsL one.length other rows) a b && inP (dnsL one.length other rows) c d) = true
  · rw [if_pos q] at hd ⊢; exact hd_ok rfl rfl rfl rfl hd
  · rw [if_neg q] at hd ⊢; exact hd_ex rfl rfl rfl rfl hd
theorem h_one {w : Str} (hw : w ∈ (["down", "up", "straight"] : List Str)) (st : Sto) : F__law_heard [shr one, shr other, cst rows, .tup [.str w]] st = .ok (if (((w == "up") || (upsL one.length other rows).isEmpty) && ((w == "down") || (dnsL one.length other rows).isEmpty)) = true then .lst [.str w] else .str w) st := by
  have a1 : (["down", "up", "straight"] : List Str).all (fun w => SeqAt.shaped (.tuple [.str w]) && (decide (szB w 1 = some false) && ((!(w == "mixed")) && PyData.strOk w))) = true := by decide +kernel
  have q := List.all_eq_true.mp a1 w hw
  simp only [Bool.and_eq_true, decide_eq_true_eq, Bool.not_eq_true'] at q
  obtain ⟨q2, q3, q5, q6⟩ := q
  have e : toPy (.tup [.str w]) = some (.tuple [.str w]) := rfl
  have hd := ck_go h1 h2 h (xs := []) (st := st) (he_of e q2 st) (sz_of q3 st) (ev_hold_one h1 h2 h w q6 q5 st)
  by_cases c : (((w == "up") || (upsL one.length other rows).isEmpty) && ((w == "down") || (dnsL one.length other rows).isEmpty)) = true
  · rw [if_pos c] at hd ⊢; exact hd_ok rfl rfl rfl rfl hd
  · rw [if_neg c] at hd ⊢; exact hd_ex rfl rfl rfl rfl hd
theorem h_true {a c d : Int} (ha : a.natAbs < 10 ^ 12) (hc : c.natAbs < 10 ^ 12) (hd : d.natAbs < 10 ^ 12) (st : Sto) : F__law_heard [shr one, shr other, cst rows, .tup [.str "mixed", .int a, .bl true, .int c, .int d]] st = .ok (.str "mixed") st := by
  obtain ⟨e, o1, o2⟩ := m_of (x1 := .int a) (x2 := .bl true) (x3 := .int c) (x4 := .int d) rfl rfl rfl rfl (smP_int ha) (smP_by (y := .bool true) (by decide +kernel)) (smP_int hc) (smP_int hd)
  have sz : szB "mixed" 5 = some false := by decide +kernel
  have hd := ck_go h1 h2 h (w := "mixed") (xs := [.int a, .bl true, .int c, .int d]) (st := st) (he_of e o2 st) (sz_of sz st) (ev_hold_odd h1 h2 h (.int a) (.bl true) (.int c) (.int d) st rfl rfl rfl rfl .int .bool .int .int rfl rfl rfl rfl (by simp))
  rw [if_neg (by simp)] at hd
  exact hd_ex rfl rfl rfl rfl hd
/-- one thing is asked -/
theorem law_thing {x : D} (g : Good one other rows x) (c0 c1 c2 c7 c8 c9 c10 c11 c12 : Option D) (st : Sto) : ∃ c7' c8' c9', B_law_0 [c0, c1, c2, some (shr one), some (shr other), some (cst rows), some x, c7, c8, c9, c10, c11, c12] st = some (.nx [c0, c1, c2, some (shr one), some (shr other), some (cst rows), some x, c7', c8', c9', c10, c11, c12], st) := by
  obtain ⟨⟨y, hy, hs⟩, z, hz, hst⟩ := g
  obtain ⟨k, hk⟩ := zs_repr hz st
  have e1 := repr_of hy hs st
  have px := toPy_plain hy
  have pz : plainD z = true := by obtain ⟨w, _, h⟩ := hz; rcases h with rfl | rfl <;> rfl
  have ol2 : oLst [z, z] st = .ok (.lst [z, z]) st := rfl
  have ne : ∀ k : Str, oNe (.str k) (.str k) st = .ok (.bl false) st := fun k => by
    show Out.ok (D.bl (!decide (k = k))) st = _
    simp
  obtain ⟨e2, e3⟩ := hst st
  exact ⟨some (.str y.shown), some z, some (.lst [z, z]), by simp only [B_law_0, dFn, tupIt_t, tupIt_shr, tupIt_cst, tupIt_cstR, lstIt_l, lstIt_f, lstIt_pls, sSeq, sSet, sNew, mkL, mkM, sApp, sExt, sSto, dOw2, dOw1, dOwR, dOwG2, dOwG1, ownV, sFrz, frzE, nLst, nCat, nLc, nList, nRep, mNew, pl_non, pl_bl, pl_int, pl_str, pl_tup, pl_lst, pl_fls, pl_dic, pl_ptr, pl_fr, pl_shP, pl_shr, pl_cst, pl_cstR, pl_plD, pl_plsD, sPar, sRet, sRetN, sIf, sNil, sExpr, evL, dCall, dCallF, dVar, dC, dOp1, dOp2, dTst, dTru, tru, dNotT, dAndT, dOrT, dAndV, dOrV, dNotV, dIf, List.map_cons, List.map_nil, List.length_cons, List.length_nil, Nat.sub_self, Nat.reduceAdd, Nat.reduceSub, List.replicate_zero, List.reduceReplicate, List.append_nil, List.cons_append, List.nil_append, List.getElem?_cons_succ, List.getElem?_cons_zero, Out.bind_ok, Out.to_ok, List.set_cons_zero, List.set_cons_succ, if_true, if_false, Bool.not_false, Bool.not_true, Bool.false_eq_true, Bool.true_eq_false, reduceIte, if_pos, px, pz, e1, e2, e3, ol2, hk, ne]⟩
theorem law_things (c0 c1 c2 c10 c11 c12 : Option D) (st : Sto) : ∀ (th : List D), (∀ x ∈ th, Good one other rows x) → ∀ c6 c7 c8 c9, ∃ c6' c7' c8' c9', fLoop (.nm 6) B_law_0 th [c0, c1, c2, some (shr one), some (shr other), some (cst rows), c6, c7, c8, c9, c10, c11, c12] st = some (.nx [c0, c1, c2, some (shr one), some (shr other), some (cst rows), c6', c7', c8', c9', c10, c11, c12], st)
  | [], _, c6, c7, c8, c9 => ⟨c6, c7, c8, c9, by rw [fLoop]⟩
  | x :: th, hg, c6, c7, c8, c9 => by
    obtain ⟨d7, d8, d9, e⟩ := law_thing h1 h2 h (hg x (List.mem_cons_self ..)) c0 c1 c2 c7 c8 c9 c10 c11 c12 st
    obtain ⟨e6, e7, e8, e9, q⟩ := law_things c0 c1 c2 c10 c11 c12 st th (fun y hy => hg y (List.mem_cons_of_mem _ hy)) (some x) d7 d8 d9
    refine ⟨e6, e7, e8, e9, ?_⟩
    rw [fLoop]
    simp only [Pat.set, List.set_cons_succ, List.set_cons_zero, e, q]
end
theorem law_turn {cs : List Int} {a : Nat} {st r : Sto} (d : Dr cs a st r) (ha : a < 2 ^ 29) (c0 c2 c3 c4 c5 c6 c7 c8 c9 c10 c11 c12 : Option D) :
    ∃ (a' : Nat) (st' : Sto) (c3' c4' c5' c6' c7' c8' c9' : Option D), a' ≤ a + 200 ∧ Dr cs a' st' r ∧ B_law_1 [c0, some (.ptr 1), c2, c3, c4, c5, c6, c7, c8, c9, c10, c11, c12] st = some (.nx [c0, some (.ptr 1), c2, c3', c4', c5', c6', c7', c8', c9', c10, c11, c12], st') := by
  obtain ⟨one, st1, a1, h1, _, p1, _, b1, d1, q1⟩ := ev_law_share d (by omega) 4 (by decide) (by decide)
  obtain ⟨other, st2, a2, h2, _, p2, _, b2, d2, q2⟩ := ev_law_share d1 (by omega) 6 (by decide) (by decide)
  obtain ⟨rows, st3, a3, h, b3, d3, q3⟩ := ev_law_costs d2 (by omega) h1 h2 p2
  obtain ⟨th, st4, a4, hg, b4, d4, q4⟩ := ev_law_bent h1 h2 h d3 (by omega) p1 p2
  obtain ⟨c6', c7', c8', c9', q5⟩ := law_things h1 h2 h c0 (some (.ptr 1)) c2 c10 c11 c12 st4 th hg c6 c7 c8 c9
  refine ⟨a4, st4, some (shr one), some (shr other), some (cst rows), c6', c7', c8', c9', by omega, d4, ?_⟩
  have q1' : F__law_share [.ptr 1, .int 4] st = .ok (shr one) st1 := q1
  have q2' : F__law_share [.ptr 1, .int 6] st1 = .ok (shr other) st2 := q2
  have pk : plainD (kpD (upsL one.length other rows) (dnsL one.length other rows)) = true := by unfold kpD; split <;> rfl
  simp only [B_law_1, sAsg, dFn, tupIt_t, tupIt_shr, tupIt_cst, tupIt_cstR, lstIt_l, lstIt_f, lstIt_pls, sSeq, sSet, sNew, mkL, mkM, sApp, sExt, sSto, dOw2, dOw1, dOwR, dOwG2, dOwG1, ownV, sFrz, frzE, nLst, nCat, nLc, nList, nRep, mNew, pl_non, pl_bl, pl_int, pl_str, pl_tup, pl_lst, pl_fls, pl_dic, pl_ptr, pl_fr, pl_shP, pl_shr, pl_cst, pl_cstR, pl_plD, pl_plsD, sPar, sRet, sRetN, sIf, sNil, sExpr, evL, dCall, dCallF, dVar, dC, dOp1, dOp2, dTst, dTru, tru, dNotT, dAndT, dOrT, dAndV, dOrV, dNotV, dIf, List.map_cons, List.map_nil, List.length_cons, List.length_nil, Nat.sub_self, Nat.reduceAdd, Nat.reduceSub, List.replicate_zero, List.reduceReplicate, List.append_nil, List.cons_append, List.nil_append, List.getElem?_cons_succ, List.getElem?_cons_zero, Out.bind_ok, Out.to_ok, List.set_cons_zero, List.set_cons_succ, if_true, if_false, Bool.not_false, Bool.not_true, Bool.false_eq_true, Bool.true_eq_false, reduceIte, if_pos, q1', q2', oTup2, Pat.set, Pat.sets, Option.bind_some, q3, ev_kind_paper h1 h2 h, sFor, dItL, q4, q5]
def hfC : Rat := ⟨1, 2, by decide, by decide⟩
def qtC : Rat := ⟨1, 4, by decide, by decide⟩
def oneC : List (Int × Rat) := [(0, hfC), (1, hfC)]
def othC : List (Int × Rat) := [(-2, qtC), (0, qtC), (1, qtC), (3, qtC)]
def mixC : List (List Int) := [[0, 0, 0, 0], [0, 3, 3, 7]]
def linC : List (List Int) := [[0, 0, 0, 0], [0, 2, 3, 5]]
theorem shr_one : Shr oneC := ⟨by simp [oneC], fun p hp => by simp [oneC] at hp; rcases hp with rfl | rfl <;> decide, fun p hp => by simp [oneC] at hp; rcases hp with rfl | rfl <;> decide, by decide⟩
theorem shr_oth : Shr othC := ⟨by simp [othC], fun p hp => by simp [othC] at hp; rcases hp with rfl | rfl | rfl | rfl <;> decide, fun p hp => by simp [othC] at hp; rcases hp with rfl | rfl | rfl | rfl <;> decide, by decide⟩
theorem cst_mix : Cst oneC.length othC.length mixC := ⟨rfl, fun r hr => by simp [mixC] at hr; rcases hr with rfl | rfl <;> rfl, fun r hr c hc => by simp [mixC] at hr; rcases hr with rfl | rfl <;> simp at hc <;> omega⟩
theorem cst_lin : Cst oneC.length othC.length linC := ⟨rfl, fun r hr => by simp [linC] at hr; rcases hr with rfl | rfl <;> rfl, fun r hr c hc => by simp [linC] at hr; rcases hr with rfl | rfl <;> simp at hc <;> omega⟩
theorem up_mix : upsL oneC.length othC mixC = [(0, 1)] := by decide +kernel
theorem dn_mix : dnsL oneC.length othC mixC = [(0, 0)] := by decide +kernel
theorem up_lin : upsL oneC.length othC linC = [] := by decide +kernel
theorem dn_lin : dnsL oneC.length othC linC = [] := by decide +kernel
def dueC : List D := [.lst [.str "mixed"], .str "mixed", .str "up", .str "mixed", .lst [.str "up"], .lst [.str "down"], .lst [.str "straight"]]
theorem due_eq (st : Sto) : oEq (.lst dueC) (.lst dueC) st = .ok (.bl true) st := by
  have h5 : twoS (.lst dueC) (.lst dueC) = none := rfl
  have h1 : toPy (deref (.lst dueC) st) = some (.list [.list [.str "mixed"], .str "mixed", .str "up", .str "mixed", .list [.str "up"], .list [.str "down"], .list [.str "straight"]]) := rfl
  have h3 : SeqAt.shaped (.list [.list [.str "mixed"], .str "mixed", .str "up", .str "mixed", .list [.str "up"], .list [.str "down"], .list [.str "straight"]]) = true := by decide +kernel
  have h4 : PyData.eqv (.list [.list [.str "mixed"], .str "mixed", .str "up", .str "mixed", .list [.str "up"], .list [.str "down"], .list [.str "straight"]]) (.list [.list [.str "mixed"], .str "mixed", .str "up", .str "mixed", .list [.str "up"], .list [.str "down"], .list [.str "straight"]]) = true := by decide +kernel
  unfold oEq
  rw [h5, h1]
  simp only [h3, h4, and_self, if_true]
section
variable (st' : Sto)
theorem kk1 : F__law_heard [shr oneC, shr othC, cst mixC, .tup [.str "mixed", .int 0, .int 1, .int 0, .int 0]] st' = .ok (.lst [.str "mixed"]) st' := by
  have z : (inP [(0, 1)] 0 1 && inP [(0, 0)] 0 0) = true := by decide
  rw [h_ints shr_one shr_oth cst_mix (by decide) (by decide) (by decide) (by decide), up_mix, dn_mix, if_pos z]
theorem kk2 : F__law_heard [shr oneC, shr othC, cst mixC, .tup [.str "mixed", .int 0, .int 0, .int 0, .int 1]] st' = .ok (.str "mixed") st' := by
  have z : ¬ (inP [(0, 1)] 0 0 && inP [(0, 0)] 0 1) = true := by decide
  rw [h_ints shr_one shr_oth cst_mix (by decide) (by decide) (by decide) (by decide), up_mix, dn_mix, if_neg z]
theorem kk3 : F__law_heard [shr oneC, shr othC, cst mixC, .tup [.str "up"]] st' = .ok (.str "up") st' := by
  have u0 : (("up" : Str) == "down") = false := by decide +kernel
  have u1 : (("up" : Str) == "up") = true := by decide +kernel
  rw [h_one shr_one shr_oth cst_mix (by decide +kernel), up_mix, dn_mix, u0, u1, if_neg (by decide)]
theorem kkl (w : Str) (hw : w ∈ (["down", "up", "straight"] : List Str)) : F__law_heard [shr oneC, shr othC, cst linC, .tup [.str w]] st' = .ok (.lst [.str w]) st' := by
  rw [h_one shr_one shr_oth cst_lin hw, up_lin, dn_lin]; simp
end
theorem law_last (c0 c2 c3 c4 c5 c6 c7 c8 c9 : Option D) (st' : Sto) : ∃ e, (sSeq (sAsg (.tp [.nm 3, .nm 4]) (dCall oTup [dCall oTup [dCall oTup [dC (.int 0), dCall oTup [dC (.int 1), dC (.int 2)]], dCall oTup [dC (.int 1), dCall oTup [dC (.int 1), dC (.int 2)]]], dCall oTup [dCall oTup [dOp1 oNeg (dC (.int 2)), dCall oTup [dC (.int 1), dC (.int 4)]], dCall oTup [dC (.int 0), dCall oTup [dC (.int 1), dC (.int 4)]], dCall oTup [dC (.int 1), dCall oTup [dC (.int 1), dC (.int 4)]], dCall oTup [dC (.int 3), dCall oTup [dC (.int 1), dC (.int 4)]]]])) (sSeq (sAsg (.tp [.nm 10, .nm 11]) (dCall oTup [dCall oTup [dCall oTup [dC (.int 0), dC (.int 0), dC (.int 0), dC (.int 0)], dCall oTup [dC (.int 0), dC (.int 3), dC (.int 3), dC (.int 7)]], dCall oTup [dCall oTup [dC (.int 0), dC (.int 0), dC (.int 0), dC (.int 0)], dCall oTup [dC (.int 0), dC (.int 2), dC (.int 3), dC (.int 5)]]])) (sSeq (sSet 9 (dLc (dItT (dCall oTup [dCall oTup [dC (.str "mixed"), dC (.int 0), dC (.int 1), dC (.int 0), dC (.int 0)], dCall oTup [dC (.str "mixed"), dC (.int 0), dC (.int 0), dC (.int 0), dC (.int 1)], dCall oTup [dC (.str "up")]])) (.nm 12) (dYes) (E_law_0) [12])) (sSeq (sSet 9 (dOp2 oAdd (dVar 9) (dCall oLst [dCallF 4 F__law_heard [dVar 3, dVar 4, dVar 10, dCall oTup [dC (.str "mixed"), dC (.int 0), dC (.bl true), dC (.int 0), dC (.int 0)]], dCallF 4 F__law_heard [dVar 3, dVar 4, dVar 11, dCall oTup [dC (.str "up")]]]))) (sSeq (sSet 9 (dOp2 oAdd (dVar 9) (dCall oLst [dCallF 4 F__law_heard [dVar 3, dVar 4, dVar 11, dCall oTup [dC (.str "down")]], dCallF 4 F__law_heard [dVar 3, dVar 4, dVar 11, dCall oTup [dC (.str "straight")]]]))) (sRet (dOp2 oEq (dVar 9) (dCall oLst [dCall oLst [dC (.str "mixed")], dC (.str "mixed"), dC (.str "up"), dC (.str "mixed"), dCall oLst [dC (.str "up")], dCall oLst [dC (.str "down")], dCall oLst [dC (.str "straight")]])))))))) [c0, some (.ptr 1), c2, c3, c4, c5, c6, c7, c8, c9, none, none, none] st' = some (.rt (.bl true), e) ∧ e = st' := by
  refine ⟨st', ?_, rfl⟩
  have t1 : ∀ a, oTup [a] st' = .ok (.tup [a]) st' := fun _ => rfl
  have t3 : ∀ a b c, oTup [a, b, c] st' = .ok (.tup [a, b, c]) st' := fun _ _ _ => rfl
  have t4 : ∀ a b c d, oTup [a, b, c, d] st' = .ok (.tup [a, b, c, d]) st' := fun _ _ _ _ => rfl
  have t5 : ∀ a b c d e, oTup [a, b, c, d, e] st' = .ok (.tup [a, b, c, d, e]) st' := fun _ _ _ _ _ => rfl
  have l1 : ∀ a, oLst [a] st' = .ok (.lst [a]) st' := fun _ => rfl
  have l2 : ∀ a b, oLst [a, b] st' = .ok (.lst [a, b]) st' := fun _ _ => rfl
  have l7 : ∀ a b c d e f g, oLst [a, b, c, d, e, f, g] st' = .ok (.lst [a, b, c, d, e, f, g]) st' := fun _ _ _ _ _ _ _ => rfl
  have eo : D.tup [.tup [.int 0, .tup [.int 1, .int 2]], .tup [.int 1, .tup [.int 1, .int 2]]] = shr oneC := rfl
  have et : D.tup [.tup [.int (-2), .tup [.int 1, .int 4]], .tup [.int 0, .tup [.int 1, .int 4]], .tup [.int 1, .tup [.int 1, .int 4]], .tup [.int 3, .tup [.int 1, .int 4]]] = shr othC := rfl
  have em : D.tup [.tup [.int 0, .int 0, .int 0, .int 0], .tup [.int 0, .int 3, .int 3, .int 7]] = cst mixC := rfl
  have el : D.tup [.tup [.int 0, .int 0, .int 0, .int 0], .tup [.int 0, .int 2, .int 3, .int 5]] = cst linC := rfl
  have k1 := kk1 st'
  have k2 := kk2 st'
  have k3 := kk3 st'
  have k4 : F__law_heard [shr oneC, shr othC, cst mixC, .tup [.str "mixed", .int 0, .bl true, .int 0, .int 0]] st' = .ok (.str "mixed") st' := h_true shr_one shr_oth cst_mix (by decide) (by decide) (by decide) st'
  have kl := kkl st'
  have k5 := kl "up" (by decide +kernel)
  have k6 := kl "down" (by decide +kernel)
  have k7 := kl "straight" (by decide +kernel)
  have lc : ∀ c2 c5 c6 c7 c8 c9, lcGo (.nm 12) dYes E_law_0 (wipeE [c0, some (.ptr 1), c2, some (shr oneC), some (shr othC), c5, c6, c7, c8, c9, some (cst mixC), some (cst linC), none] [12]) [.tup [.str "mixed", .int 0, .int 1, .int 0, .int 0], .tup [.str "mixed", .int 0, .int 0, .int 0, .int 1], .tup [.str "up"]] st' [] = .ok [.lst [.str "mixed"], .str "mixed", .str "up"] st' := fun c2 c5 c6 c7 c8 c9 => by
    have w : ∀ k, k < 5 → k < sizeLine := fun k hk => by rw [sizeLine_eq]; omega
    simp only [lcGo, wipeE, Pat.set, List.set_cons_succ, List.set_cons_zero, dYes, E_law_0, dFn, tupIt_t, tupIt_shr, tupIt_cst, tupIt_cstR, lstIt_l, lstIt_f, lstIt_pls, sSeq, sSet, sNew, mkL, mkM, sApp, sExt, sSto, dOw2, dOw1, dOwR, dOwG2, dOwG1, ownV, sFrz, frzE, nLst, nCat, nLc, nList, nRep, mNew, pl_non, pl_bl, pl_int, pl_str, pl_tup, pl_lst, pl_fls, pl_dic, pl_ptr, pl_fr, pl_shP, pl_shr, pl_cst, pl_cstR, pl_plD, pl_plsD, sPar, sRet, sRetN, sIf, sNil, sExpr, evL, dCall, dCallF, dVar, dC, dOp1, dOp2, dTst, dTru, tru, dNotT, dAndT, dOrT, dAndV, dOrV, dNotV, dIf, List.map_cons, List.map_nil, List.length_cons, List.length_nil, Nat.sub_self, Nat.reduceAdd, Nat.reduceSub, List.replicate_zero, List.reduceReplicate, List.append_nil, List.cons_append, List.nil_append, List.getElem?_cons_succ, List.getElem?_cons_zero, Out.bind_ok, Out.to_ok, List.set_cons_zero, List.set_cons_succ, if_true, if_false, Bool.not_false, Bool.not_true, Bool.false_eq_true, Bool.true_eq_false, reduceIte, if_pos, k1, k2, k3, w 0 (by decide), w 1 (by decide), w 2 (by decide)]
  have a1 : ∀ a b c d e, oAdd (.lst [a, b, c]) (.lst [d, e]) st' = .ok (.lst [a, b, c, d, e]) st' := fun _ _ _ _ _ => rfl
  have a2 : ∀ a b c d e f g, oAdd (.lst [a, b, c, d, e]) (.lst [f, g]) st' = .ok (.lst [a, b, c, d, e, f, g]) st' := fun _ _ _ _ _ _ _ => rfl
  have dq := due_eq st'
  unfold dueC at dq
  simp only [dFn, tupIt_t, tupIt_shr, tupIt_cst, tupIt_cstR, lstIt_l, lstIt_f, lstIt_pls, sSeq, sSet, sNew, mkL, mkM, sApp, sExt, sSto, dOw2, dOw1, dOwR, dOwG2, dOwG1, ownV, sFrz, frzE, nLst, nCat, nLc, nList, nRep, mNew, pl_non, pl_bl, pl_int, pl_str, pl_tup, pl_lst, pl_fls, pl_dic, pl_ptr, pl_fr, pl_shP, pl_shr, pl_cst, pl_cstR, pl_plD, pl_plsD, sPar, sRet, sRetN, sIf, sNil, sExpr, evL, dCall, dCallF, dVar, dC, dOp1, dOp2, dTst, dTru, tru, dNotT, dAndT, dOrT, dAndV, dOrV, dNotV, dIf, List.map_cons, List.map_nil, List.length_cons, List.length_nil, Nat.sub_self, Nat.reduceAdd, Nat.reduceSub, List.replicate_zero, List.reduceReplicate, List.append_nil, List.cons_append, List.nil_append, List.getElem?_cons_succ, List.getElem?_cons_zero, Out.bind_ok, Out.to_ok, List.set_cons_zero, List.set_cons_succ, if_true, if_false, Bool.not_false, Bool.not_true, Bool.false_eq_true, Bool.true_eq_false, reduceIte, if_pos, sAsg, oNeg, t1, oTup2, t3, t4, t5, eo, et, em, el, Pat.set, Pat.sets, Option.bind_some, dLc, dItT, lc, k4, k5, k6, k7, l1, l2, a1, a2, l7, dq]
theorem T_law_eq : T_law = sSeq (sSet 1 (dCallF 1 F__law_begin [dVar 0])) (sSeq (sFor (dItR1 [dOp2 oAdd (dC (.int 8)) (dCall bMin [dCall bLen [dVar 0], dC (.int 9)])]) (.nm 2) (B_law_1)) (sSeq (sAsg (.tp [.nm 3, .nm 4]) (dCall oTup [dCall oTup [dCall oTup [dC (.int 0), dCall oTup [dC (.int 1), dC (.int 2)]], dCall oTup [dC (.int 1), dCall oTup [dC (.int 1), dC (.int 2)]]], dCall oTup [dCall oTup [dOp1 oNeg (dC (.int 2)), dCall oTup [dC (.int 1), dC (.int 4)]], dCall oTup [dC (.int 0), dCall oTup [dC (.int 1), dC (.int 4)]], dCall oTup [dC (.int 1), dCall oTup [dC (.int 1), dC (.int 4)]], dCall oTup [dC (.int 3), dCall oTup [dC (.int 1), dC (.int 4)]]]])) (sSeq (sAsg (.tp [.nm 10, .nm 11]) (dCall oTup [dCall oTup [dCall oTup [dC (.int 0), dC (.int 0), dC (.int 0), dC (.int 0)], dCall oTup [dC (.int 0), dC (.int 3), dC (.int 3), dC (.int 7)]], dCall oTup [dCall oTup [dC (.int 0), dC (.int 0), dC (.int 0), dC (.int 0)], dCall oTup [dC (.int 0), dC (.int 2), dC (.int 3), dC (.int 5)]]])) (sSeq (sSet 9 (dLc (dItT (dCall oTup [dCall oTup [dC (.str "mixed"), dC (.int 0), dC (.int 1), dC (.int 0), dC (.int 0)], dCall oTup [dC (.str "mixed"), dC (.int 0), dC (.int 0), dC (.int 0), dC (.int 1)], dCall oTup [dC (.str "up")]])) (.nm 12) (dYes) (E_law_0) [12])) (sSeq (sSet 9 (dOp2 oAdd (dVar 9) (dCall oLst [dCallF 4 F__law_heard [dVar 3, dVar 4, dVar 10, dCall oTup [dC (.str "mixed"), dC (.int 0), dC (.bl true), dC (.int 0), dC (.int 0)]], dCallF 4 F__law_heard [dVar 3, dVar 4, dVar 11, dCall oTup [dC (.str "up")]]]))) (sSeq (sSet 9 (dOp2 oAdd (dVar 9) (dCall oLst [dCallF 4 F__law_heard [dVar 3, dVar 4, dVar 11, dCall oTup [dC (.str "down")]], dCallF 4 F__law_heard [dVar 3, dVar 4, dVar 11, dCall oTup [dC (.str "straight")]]]))) (sRet (dOp2 oEq (dVar 9) (dCall oLst [dCall oLst [dC (.str "mixed")], dC (.str "mixed"), dC (.str "up"), dC (.str "mixed"), dCall oLst [dC (.str "up")], dCall oLst [dC (.str "down")], dCall oLst [dC (.str "straight")]]))))))))) := rfl
theorem lt_m (n : Nat) (st0 : Sto) : ∃ m : Nat, m ≤ 9 ∧ bMin [.int (n : Int), .int 9] st0 = .ok (.int (m : Int)) st0 := by
  have e : bMin [.int (n : Int), .int 9] st0 = .ok (.int (if (9 : Int) < (n : Int) then 9 else (n : Int))) st0 := rfl
  by_cases h : (9 : Int) < (n : Int)
  · exact ⟨9, by omega, by rw [e, if_pos h]; rfl⟩
  · exact ⟨n, by omega, by rw [e, if_neg h]⟩
theorem lt_r (n : Nat) (h : n ≤ 9) (st0 : Sto) : dRng1 [.int (8 + (n : Int))] st0 = .ok (rngL 0 (8 + n)) st0 := by
  rw [dRng1_ok (by omega) (by omega), show (8 + (n : Int)).toNat = 8 + n by omega]
theorem lt_t {ns cs : List Int} {n : Nat} (hn : n ≤ 9) {st0 : Sto} (d0 : Dr cs 0 st0 []) : ∃ (st' : Sto) (c2 c3 c4 c5 c6 c7 c8 c9 : Option D), fLoop (.nm 2) B_law_1 (rngL 0 (8 + n)) [some (.fls (ns.map .int)), some (.ptr 1), none, none, none, none, none, none, none, none, none, none, none] st0 = some (.nx [some (.fls (ns.map .int)), some (.ptr 1), c2, c3, c4, c5, c6, c7, c8, c9, none, none, none], st') := by
  obtain ⟨env', st', ⟨a, c2, c3, c4, c5, c6, c7, c8, c9, rfl, ha, dr⟩, he⟩ := fLoop_inv (t := .nm 2) (B := B_law_1) (fun k env s => ∃ (a : Nat) (c2 c3 c4 c5 c6 c7 c8 c9 : Option D), env = [some (.fls (ns.map .int)), some (.ptr 1), c2, c3, c4, c5, c6, c7, c8, c9, none, none, none] ∧ a ≤ 200 * k ∧ Dr cs a s [])
    (rngL 0 (8 + n)) 0 [some (.fls (ns.map .int)), some (.ptr 1), none, none, none, none, none, none, none, none, none, none, none] st0 ⟨0, none, none, none, none, none, none, none, none, rfl, by omega, d0⟩ fun j d hd env s ⟨a, c2, c3, c4, c5, c6, c7, c8, c9, he, ha, dr⟩ => by
      subst he
      have hj := (rngL_get hd).1
      obtain ⟨a', s', c3', c4', c5', c6', c7', c8', c9', g1, g2, g3⟩ := law_turn dr (by omega) (some (.fls (ns.map .int))) (some d) c3 c4 c5 c6 c7 c8 c9 none none none
      exact ⟨_, _, s', rfl, g3, a', some d, c3', c4', c5', c6', c7', c8', c9', rfl, by omega, g2⟩
  exact ⟨st', c2, c3, c4, c5, c6, c7, c8, c9, he⟩
theorem lt_e1 {ns : List Int} {st0 : Sto} (q0 : F__law_begin [.fls (ns.map .int)] [] = .ok (.ptr 1) st0) : (sSet 1 (dCallF 1 F__law_begin [dVar 0])) [some (.fls (ns.map .int)), none, none, none, none, none, none, none, none, none, none, none, none] [] = some (.nx [some (.fls (ns.map .int)), some (.ptr 1), none, none, none, none, none, none, none, none, none, none, none], st0) := by
  simp only [dFn, tupIt_t, tupIt_shr, tupIt_cst, tupIt_cstR, lstIt_l, lstIt_f, lstIt_pls, sSeq, sSet, sNew, mkL, mkM, sApp, sExt, sSto, dOw2, dOw1, dOwR, dOwG2, dOwG1, ownV, sFrz, frzE, nLst, nCat, nLc, nList, nRep, mNew, pl_non, pl_bl, pl_int, pl_str, pl_tup, pl_lst, pl_fls, pl_dic, pl_ptr, pl_fr, pl_shP, pl_shr, pl_cst, pl_cstR, pl_plD, pl_plsD, sPar, sRet, sRetN, sIf, sNil, sExpr, evL, dCall, dCallF, dVar, dC, dOp1, dOp2, dTst, dTru, tru, dNotT, dAndT, dOrT, dAndV, dOrV, dNotV, dIf, List.map_cons, List.map_nil, List.length_cons, List.length_nil, Nat.sub_self, Nat.reduceAdd, Nat.reduceSub, List.replicate_zero, List.reduceReplicate, List.append_nil, List.cons_append, List.nil_append, List.getElem?_cons_succ, List.getElem?_cons_zero, Out.bind_ok, Out.to_ok, List.set_cons_zero, List.set_cons_succ, if_true, if_false, Bool.not_false, Bool.not_true, Bool.false_eq_true, Bool.true_eq_false, reduceIte, if_pos, q0]
theorem lt_e2 {ns : List Int} {n : Nat} {st0 e : Sto} {c2 c3 c4 c5 c6 c7 c8 c9 : Option D} (hb : bLen [.fls (ns.map .int)] st0 = .ok (.int ns.length) st0) (qm : bMin [.int ns.length, .int 9] st0 = .ok (.int (n : Int)) st0) (hr : dRng1 [.int (8 + (n : Int))] st0 = .ok (rngL 0 (8 + n)) st0) (he : fLoop (.nm 2) B_law_1 (rngL 0 (8 + n)) [some (.fls (ns.map .int)), some (.ptr 1), none, none, none, none, none, none, none, none, none, none, none] st0 = some (.nx [some (.fls (ns.map .int)), some (.ptr 1), c2, c3, c4, c5, c6, c7, c8, c9, none, none, none], e)) : (sFor (dItR1 [dOp2 oAdd (dC (.int 8)) (dCall bMin [dCall bLen [dVar 0], dC (.int 9)])]) (.nm 2) (B_law_1)) [some (.fls (ns.map .int)), some (.ptr 1), none, none, none, none, none, none, none, none, none, none, none] st0 = some (.nx [some (.fls (ns.map .int)), some (.ptr 1), c2, c3, c4, c5, c6, c7, c8, c9, none, none, none], e) := by
  have adi : ∀ (x y : Int) st, oAdd (.int x) (.int y) st = .ok (.int (x + y)) st := fun _ _ _ => rfl
  refine for_of ?_ he
  simp only [dFn, tupIt_t, tupIt_shr, tupIt_cst, tupIt_cstR, lstIt_l, lstIt_f, lstIt_pls, sSeq, sSet, sNew, mkL, mkM, sApp, sExt, sSto, dOw2, dOw1, dOwR, dOwG2, dOwG1, ownV, sFrz, frzE, nLst, nCat, nLc, nList, nRep, mNew, pl_non, pl_bl, pl_int, pl_str, pl_tup, pl_lst, pl_fls, pl_dic, pl_ptr, pl_fr, pl_shP, pl_shr, pl_cst, pl_cstR, pl_plD, pl_plsD, sPar, sRet, sRetN, sIf, sNil, sExpr, evL, dCall, dCallF, dVar, dC, dOp1, dOp2, dTst, dTru, tru, dNotT, dAndT, dOrT, dAndV, dOrV, dNotV, dIf, List.map_cons, List.map_nil, List.length_cons, List.length_nil, Nat.sub_self, Nat.reduceAdd, Nat.reduceSub, List.replicate_zero, List.reduceReplicate, List.append_nil, List.cons_append, List.nil_append, List.getElem?_cons_succ, List.getElem?_cons_zero, Out.bind_ok, Out.to_ok, List.set_cons_zero, List.set_cons_succ, if_true, if_false, Bool.not_false, Bool.not_true, Bool.false_eq_true, Bool.true_eq_false, reduceIte, if_pos, hb, qm, adi, hr, dItR1]
theorem law_true (ns : List Int) (hl : ns.length ≤ 63) : ∃ st, F_law [.fls (ns.map .int)] [] = .ok (.bl true) st := by
  obtain ⟨cs, st0, d0, q0⟩ := ev_law_begin ns hl
  have hb : bLen [.fls (ns.map .int)] st0 = .ok (.int ns.length) st0 := by simp [bLen, lenD]
  obtain ⟨n, hn, qm⟩ := lt_m ns.length st0
  have hr := lt_r n hn st0
  obtain ⟨st', c2, c3, c4, c5, c6, c7, c8, c9, he⟩ := lt_t (ns := ns) hn d0
  obtain ⟨e, hlast, rfl⟩ := law_last (some (.fls (ns.map .int))) c2 c3 c4 c5 c6 c7 c8 c9 st'
  have adi : ∀ (x y : Int) st, oAdd (.int x) (.int y) st = .ok (.int (x + y)) st := fun _ _ _ => rfl
  refine ⟨e, ?_⟩
  show dFn 13 T_law _ _ = _
  rw [T_law_eq]
  have e1 := lt_e1 q0
  have e2 := lt_e2 hb qm hr he
  have e0 : List.map some [D.fls (ns.map .int)] ++ List.replicate (13 - List.length [D.fls (ns.map .int)]) none = [some (.fls (ns.map .int)), none, none, none, none, none, none, none, none, none, none, none, none] := rfl
  refine fn_rt ?_
  rw [e0, seq_nx e1, seq_nx e2, hlast]

/-! what the top has written -/
theorem top_mk {w : World} {K : Frag} {h : Heap} {mg : Str → Option Value} (X : K.In h) (G : h.Ns mainGlobals mg)
    {f0 : Addr} {od0 an0 : Option Addr} {sl0 : Array (Option Value)} {oc0 kV0 dc0 pm0 cd0 ct0 : Value} (a0 : PySem.W.nsIn K mainGlobals "_law_begin" = some (some (.ref f0))) (l0 : K.lookup f0 = some ⟨oc0, od0, .func (PySem.W.fnOf "_law_begin" "_law_begin" (defArgs s__law_begin) (defBody s__law_begin) (defScope s__law_begin) .none kV0 dc0 pm0 an0 cd0 ct0), sl0⟩) (c0 : PySem.W.codeIn K cd0 "_law_begin" = true) (k0 : PySem.W.keepIn K (.ref f0) = true)
    {f1 : Addr} {od1 an1 : Option Addr} {sl1 : Array (Option Value)} {oc1 kV1 dc1 pm1 cd1 ct1 : Value} (a1 : PySem.W.nsIn K mainGlobals "_law_mixed" = some (some (.ref f1))) (l1 : K.lookup f1 = some ⟨oc1, od1, .func (PySem.W.fnOf "_law_mixed" "_law_mixed" (defArgs s__law_mixed) (defBody s__law_mixed) (defScope s__law_mixed) .none kV1 dc1 pm1 an1 cd1 ct1), sl1⟩) (c1 : PySem.W.codeIn K cd1 "_law_mixed" = true) (k1 : PySem.W.keepIn K (.ref f1) = true)
    {f2 : Addr} {od2 an2 : Option Addr} {sl2 : Array (Option Value)} {oc2 kV2 dc2 pm2 cd2 ct2 : Value} (a2 : PySem.W.nsIn K mainGlobals "_law_draw" = some (some (.ref f2))) (l2 : K.lookup f2 = some ⟨oc2, od2, .func (PySem.W.fnOf "_law_draw" "_law_draw" (defArgs s__law_draw) (defBody s__law_draw) (defScope s__law_draw) .none kV2 dc2 pm2 an2 cd2 ct2), sl2⟩) (c2 : PySem.W.codeIn K cd2 "_law_draw" = true) (k2 : PySem.W.keepIn K (.ref f2) = true)
    {f3 : Addr} {od3 an3 : Option Addr} {sl3 : Array (Option Value)} {oc3 kV3 dc3 pm3 cd3 ct3 : Value} (a3 : PySem.W.nsIn K mainGlobals "_law_costs" = some (some (.ref f3))) (l3 : K.lookup f3 = some ⟨oc3, od3, .func (PySem.W.fnOf "_law_costs" "_law_costs" (defArgs s__law_costs) (defBody s__law_costs) (defScope s__law_costs) .none kV3 dc3 pm3 an3 cd3 ct3), sl3⟩) (c3 : PySem.W.codeIn K cd3 "_law_costs" = true) (k3 : PySem.W.keepIn K (.ref f3) = true)
    {f4 : Addr} {od4 an4 : Option Addr} {sl4 : Array (Option Value)} {oc4 kV4 dc4 pm4 cd4 ct4 : Value} (a4 : PySem.W.nsIn K mainGlobals "_law_bent" = some (some (.ref f4))) (l4 : K.lookup f4 = some ⟨oc4, od4, .func (PySem.W.fnOf "_law_bent" "_law_bent" (defArgs s__law_bent) (defBody s__law_bent) (defScope s__law_bent) .none kV4 dc4 pm4 an4 cd4 ct4), sl4⟩) (c4 : PySem.W.codeIn K cd4 "_law_bent" = true) (k4 : PySem.W.keepIn K (.ref f4) = true)
    {f5 : Addr} {od5 an5 : Option Addr} {sl5 : Array (Option Value)} {oc5 kV5 dc5 pm5 cd5 ct5 : Value} (a5 : PySem.W.nsIn K mainGlobals "is_integer" = some (some (.ref f5))) (l5 : K.lookup f5 = some ⟨oc5, od5, .func (PySem.W.fnOf "is_integer" "is_integer" (defArgs s_is_integer) (defBody s_is_integer) (defScope s_is_integer) .none kV5 dc5 pm5 an5 cd5 ct5), sl5⟩) (c5 : PySem.W.codeIn K cd5 "is_integer" = true) (k5 : PySem.W.keepIn K (.ref f5) = true)
    {f6 : Addr} {od6 an6 : Option Addr} {sl6 : Array (Option Value)} {oc6 kV6 dc6 pm6 cd6 ct6 : Value} (a6 : PySem.W.nsIn K mainGlobals "is_number" = some (some (.ref f6))) (l6 : K.lookup f6 = some ⟨oc6, od6, .func (PySem.W.fnOf "is_number" "is_number" (defArgs s_is_number) (defBody s_is_number) (defScope s_is_number) .none kV6 dc6 pm6 an6 cd6 ct6), sl6⟩) (c6 : PySem.W.codeIn K cd6 "is_number" = true) (k6 : PySem.W.keepIn K (.ref f6) = true)
    {f7 : Addr} {od7 an7 : Option Addr} {sl7 : Array (Option Value)} {oc7 kV7 dc7 pm7 cd7 ct7 : Value} (a7 : PySem.W.nsIn K mainGlobals "common" = some (some (.ref f7))) (l7 : K.lookup f7 = some ⟨oc7, od7, .func (PySem.W.fnOf "common" "common" (defArgs s_common) (defBody s_common) (defScope s_common) .none kV7 dc7 pm7 an7 cd7 ct7), sl7⟩) (c7 : PySem.W.codeIn K cd7 "common" = true) (k7 : PySem.W.keepIn K (.ref f7) = true)
    {f8 : Addr} {od8 an8 : Option Addr} {sl8 : Array (Option Value)} {oc8 kV8 dc8 pm8 cd8 ct8 : Value} (a8 : PySem.W.nsIn K mainGlobals "is_fraction" = some (some (.ref f8))) (l8 : K.lookup f8 = some ⟨oc8, od8, .func (PySem.W.fnOf "is_fraction" "is_fraction" (defArgs s_is_fraction) (defBody s_is_fraction) (defScope s_is_fraction) .none kV8 dc8 pm8 an8 cd8 ct8), sl8⟩) (c8 : PySem.W.codeIn K cd8 "is_fraction" = true) (k8 : PySem.W.keepIn K (.ref f8) = true)
    {f9 : Addr} {od9 an9 : Option Addr} {sl9 : Array (Option Value)} {oc9 kV9 dc9 pm9 cd9 ct9 : Value} (a9 : PySem.W.nsIn K mainGlobals "is_weight" = some (some (.ref f9))) (l9 : K.lookup f9 = some ⟨oc9, od9, .func (PySem.W.fnOf "is_weight" "is_weight" (defArgs s_is_weight) (defBody s_is_weight) (defScope s_is_weight) .none kV9 dc9 pm9 an9 cd9 ct9), sl9⟩) (c9 : PySem.W.codeIn K cd9 "is_weight" = true) (k9 : PySem.W.keepIn K (.ref f9) = true)
    {f10 : Addr} {od10 an10 : Option Addr} {sl10 : Array (Option Value)} {oc10 kV10 dc10 pm10 cd10 ct10 : Value} (a10 : PySem.W.nsIn K mainGlobals "is_share" = some (some (.ref f10))) (l10 : K.lookup f10 = some ⟨oc10, od10, .func (PySem.W.fnOf "is_share" "is_share" (defArgs s_is_share) (defBody s_is_share) (defScope s_is_share) .none kV10 dc10 pm10 an10 cd10 ct10), sl10⟩) (c10 : PySem.W.codeIn K cd10 "is_share" = true) (k10 : PySem.W.keepIn K (.ref f10) = true)
    {f11 : Addr} {od11 an11 : Option Addr} {sl11 : Array (Option Value)} {oc11 kV11 dc11 pm11 cd11 ct11 : Value} (a11 : PySem.W.nsIn K mainGlobals "need_share" = some (some (.ref f11))) (l11 : K.lookup f11 = some ⟨oc11, od11, .func (PySem.W.fnOf "need_share" "need_share" (defArgs s_need_share) (defBody s_need_share) (defScope s_need_share) .none kV11 dc11 pm11 an11 cd11 ct11), sl11⟩) (c11 : PySem.W.codeIn K cd11 "need_share" = true) (k11 : PySem.W.keepIn K (.ref f11) = true)
    {f12 : Addr} {od12 an12 : Option Addr} {sl12 : Array (Option Value)} {oc12 kV12 dc12 pm12 cd12 ct12 : Value} (a12 : PySem.W.nsIn K mainGlobals "is_cost" = some (some (.ref f12))) (l12 : K.lookup f12 = some ⟨oc12, od12, .func (PySem.W.fnOf "is_cost" "is_cost" (defArgs s_is_cost) (defBody s_is_cost) (defScope s_is_cost) .none kV12 dc12 pm12 an12 cd12 ct12), sl12⟩) (c12 : PySem.W.codeIn K cd12 "is_cost" = true) (k12 : PySem.W.keepIn K (.ref f12) = true)
    {f13 : Addr} {od13 an13 : Option Addr} {sl13 : Array (Option Value)} {oc13 kV13 dc13 pm13 cd13 ct13 : Value} (a13 : PySem.W.nsIn K mainGlobals "are_costs" = some (some (.ref f13))) (l13 : K.lookup f13 = some ⟨oc13, od13, .func (PySem.W.fnOf "are_costs" "are_costs" (defArgs s_are_costs) (defBody s_are_costs) (defScope s_are_costs) .none kV13 dc13 pm13 an13 cd13 ct13), sl13⟩) (c13 : PySem.W.codeIn K cd13 "are_costs" = true) (k13 : PySem.W.keepIn K (.ref f13) = true)
    {f14 : Addr} {od14 an14 : Option Addr} {sl14 : Array (Option Value)} {oc14 kV14 dc14 pm14 cd14 ct14 : Value} (a14 : PySem.W.nsIn K mainGlobals "need_question" = some (some (.ref f14))) (l14 : K.lookup f14 = some ⟨oc14, od14, .func (PySem.W.fnOf "need_question" "need_question" (defArgs s_need_question) (defBody s_need_question) (defScope s_need_question) .none kV14 dc14 pm14 an14 cd14 ct14), sl14⟩) (c14 : PySem.W.codeIn K cd14 "need_question" = true) (k14 : PySem.W.keepIn K (.ref f14) = true)
    {f15 : Addr} {od15 an15 : Option Addr} {sl15 : Array (Option Value)} {oc15 kV15 dc15 pm15 cd15 ct15 : Value} (a15 : PySem.W.nsIn K mainGlobals "places_in" = some (some (.ref f15))) (l15 : K.lookup f15 = some ⟨oc15, od15, .func (PySem.W.fnOf "places_in" "places_in" (defArgs s_places_in) (defBody s_places_in) (defScope s_places_in) .none kV15 dc15 pm15 an15 cd15 ct15), sl15⟩) (c15 : PySem.W.codeIn K cd15 "places_in" = true) (k15 : PySem.W.keepIn K (.ref f15) = true)
    {f16 : Addr} {od16 an16 : Option Addr} {sl16 : Array (Option Value)} {oc16 kV16 dc16 pm16 cd16 ct16 : Value} (a16 : PySem.W.nsIn K mainGlobals "bend_at" = some (some (.ref f16))) (l16 : K.lookup f16 = some ⟨oc16, od16, .func (PySem.W.fnOf "bend_at" "bend_at" (defArgs s_bend_at) (defBody s_bend_at) (defScope s_bend_at) .none kV16 dc16 pm16 an16 cd16 ct16), sl16⟩) (c16 : PySem.W.codeIn K cd16 "bend_at" = true) (k16 : PySem.W.keepIn K (.ref f16) = true)
    {f17 : Addr} {od17 an17 : Option Addr} {sl17 : Array (Option Value)} {oc17 kV17 dc17 pm17 cd17 ct17 : Value} (a17 : PySem.W.nsIn K mainGlobals "ups_in" = some (some (.ref f17))) (l17 : K.lookup f17 = some ⟨oc17, od17, .func (PySem.W.fnOf "ups_in" "ups_in" (defArgs s_ups_in) (defBody s_ups_in) (defScope s_ups_in) .none kV17 dc17 pm17 an17 cd17 ct17), sl17⟩) (c17 : PySem.W.codeIn K cd17 "ups_in" = true) (k17 : PySem.W.keepIn K (.ref f17) = true)
    {f18 : Addr} {od18 an18 : Option Addr} {sl18 : Array (Option Value)} {oc18 kV18 dc18 pm18 cd18 ct18 : Value} (a18 : PySem.W.nsIn K mainGlobals "downs_in" = some (some (.ref f18))) (l18 : K.lookup f18 = some ⟨oc18, od18, .func (PySem.W.fnOf "downs_in" "downs_in" (defArgs s_downs_in) (defBody s_downs_in) (defScope s_downs_in) .none kV18 dc18 pm18 an18 cd18 ct18), sl18⟩) (c18 : PySem.W.codeIn K cd18 "downs_in" = true) (k18 : PySem.W.keepIn K (.ref f18) = true)
    {f19 : Addr} {od19 an19 : Option Addr} {sl19 : Array (Option Value)} {oc19 kV19 dc19 pm19 cd19 ct19 : Value} (a19 : PySem.W.nsIn K mainGlobals "does_hold" = some (some (.ref f19))) (l19 : K.lookup f19 = some ⟨oc19, od19, .func (PySem.W.fnOf "does_hold" "does_hold" (defArgs s_does_hold) (defBody s_does_hold) (defScope s_does_hold) .none kV19 dc19 pm19 an19 cd19 ct19), sl19⟩) (c19 : PySem.W.codeIn K cd19 "does_hold" = true) (k19 : PySem.W.keepIn K (.ref f19) = true)
    {f20 : Addr} {od20 an20 : Option Addr} {sl20 : Array (Option Value)} {oc20 kV20 dc20 pm20 cd20 ct20 : Value} (a20 : PySem.W.nsIn K mainGlobals "check_kind" = some (some (.ref f20))) (l20 : K.lookup f20 = some ⟨oc20, od20, .func (PySem.W.fnOf "check_kind" "check_kind" (defArgs s_check_kind) (defBody s_check_kind) (defScope s_check_kind) .none kV20 dc20 pm20 an20 cd20 ct20), sl20⟩) (c20 : PySem.W.codeIn K cd20 "check_kind" = true) (k20 : PySem.W.keepIn K (.ref f20) = true)
    {f21 : Addr} {od21 an21 : Option Addr} {sl21 : Array (Option Value)} {oc21 kV21 dc21 pm21 cd21 ct21 : Value} (a21 : PySem.W.nsIn K mainGlobals "_law_heard" = some (some (.ref f21))) (l21 : K.lookup f21 = some ⟨oc21, od21, .func (PySem.W.fnOf "_law_heard" "_law_heard" (defArgs s__law_heard) (defBody s__law_heard) (defScope s__law_heard) .none kV21 dc21 pm21 an21 cd21 ct21), sl21⟩) (c21 : PySem.W.codeIn K cd21 "_law_heard" = true) (k21 : PySem.W.keepIn K (.ref f21) = true)
    {f22 : Addr} {od22 an22 : Option Addr} {sl22 : Array (Option Value)} {oc22 kV22 dc22 pm22 cd22 ct22 : Value} (a22 : PySem.W.nsIn K mainGlobals "_law_ratio" = some (some (.ref f22))) (l22 : K.lookup f22 = some ⟨oc22, od22, .func (PySem.W.fnOf "_law_ratio" "_law_ratio" (defArgs s__law_ratio) (defBody s__law_ratio) (defScope s__law_ratio) .none kV22 dc22 pm22 an22 cd22 ct22), sl22⟩) (c22 : PySem.W.codeIn K cd22 "_law_ratio" = true) (k22 : PySem.W.keepIn K (.ref f22) = true)
    {f23 : Addr} {od23 an23 : Option Addr} {sl23 : Array (Option Value)} {oc23 kV23 dc23 pm23 cd23 ct23 : Value} (a23 : PySem.W.nsIn K mainGlobals "_law_heft" = some (some (.ref f23))) (l23 : K.lookup f23 = some ⟨oc23, od23, .func (PySem.W.fnOf "_law_heft" "_law_heft" (defArgs s__law_heft) (defBody s__law_heft) (defScope s__law_heft) .none kV23 dc23 pm23 an23 cd23 ct23), sl23⟩) (c23 : PySem.W.codeIn K cd23 "_law_heft" = true) (k23 : PySem.W.keepIn K (.ref f23) = true)
    {f24 : Addr} {od24 an24 : Option Addr} {sl24 : Array (Option Value)} {oc24 kV24 dc24 pm24 cd24 ct24 : Value} (a24 : PySem.W.nsIn K mainGlobals "_law_marks" = some (some (.ref f24))) (l24 : K.lookup f24 = some ⟨oc24, od24, .func (PySem.W.fnOf "_law_marks" "_law_marks" (defArgs s__law_marks) (defBody s__law_marks) (defScope s__law_marks) .none kV24 dc24 pm24 an24 cd24 ct24), sl24⟩) (c24 : PySem.W.codeIn K cd24 "_law_marks" = true) (k24 : PySem.W.keepIn K (.ref f24) = true)
    {f25 : Addr} {od25 an25 : Option Addr} {sl25 : Array (Option Value)} {oc25 kV25 dc25 pm25 cd25 ct25 : Value} (a25 : PySem.W.nsIn K mainGlobals "_law_share" = some (some (.ref f25))) (l25 : K.lookup f25 = some ⟨oc25, od25, .func (PySem.W.fnOf "_law_share" "_law_share" (defArgs s__law_share) (defBody s__law_share) (defScope s__law_share) .none kV25 dc25 pm25 an25 cd25 ct25), sl25⟩) (c25 : PySem.W.codeIn K cd25 "_law_share" = true) (k25 : PySem.W.keepIn K (.ref f25) = true)
    {f26 : Addr} {od26 an26 : Option Addr} {sl26 : Array (Option Value)} {oc26 kV26 dc26 pm26 cd26 ct26 : Value} (a26 : PySem.W.nsIn K mainGlobals "kind_in" = some (some (.ref f26))) (l26 : K.lookup f26 = some ⟨oc26, od26, .func (PySem.W.fnOf "kind_in" "kind_in" (defArgs s_kind_in) (defBody s_kind_in) (defScope s_kind_in) .none kV26 dc26 pm26 an26 cd26 ct26), sl26⟩) (c26 : PySem.W.codeIn K cd26 "kind_in" = true) (k26 : PySem.W.keepIn K (.ref f26) = true)
    {f27 : Addr} {od27 an27 : Option Addr} {sl27 : Array (Option Value)} {oc27 kV27 dc27 pm27 cd27 ct27 : Value} (a27 : PySem.W.nsIn K mainGlobals "kind_paper" = some (some (.ref f27))) (l27 : K.lookup f27 = some ⟨oc27, od27, .func (PySem.W.fnOf "kind_paper" "kind_paper" (defArgs s_kind_paper) (defBody s_kind_paper) (defScope s_kind_paper) .none kV27 dc27 pm27 an27 cd27 ct27), sl27⟩) (c27 : PySem.W.codeIn K cd27 "kind_paper" = true) (k27 : PySem.W.keepIn K (.ref f27) = true)
    {f28 : Addr} {od28 an28 : Option Addr} {sl28 : Array (Option Value)} {oc28 kV28 dc28 pm28 cd28 ct28 : Value} (a28 : PySem.W.nsIn K mainGlobals "_law_bends" = some (some (.ref f28))) (l28 : K.lookup f28 = some ⟨oc28, od28, .func (PySem.W.fnOf "_law_bends" "_law_bends" (defArgs s__law_bends) (defBody s__law_bends) (defScope s__law_bends) .none kV28 dc28 pm28 an28 cd28 ct28), sl28⟩) (c28 : PySem.W.codeIn K cd28 "_law_bends" = true) (k28 : PySem.W.keepIn K (.ref f28) = true)
    {f29 : Addr} {od29 an29 : Option Addr} {sl29 : Array (Option Value)} {oc29 kV29 dc29 pm29 cd29 ct29 : Value} (a29 : PySem.W.nsIn K mainGlobals "_law_is_int" = some (some (.ref f29))) (l29 : K.lookup f29 = some ⟨oc29, od29, .func (PySem.W.fnOf "_law_is_int" "_law_is_int" (defArgs s__law_is_int) (defBody s__law_is_int) (defScope s__law_is_int) .none kV29 dc29 pm29 an29 cd29 ct29), sl29⟩) (c29 : PySem.W.codeIn K cd29 "_law_is_int" = true) (k29 : PySem.W.keepIn K (.ref f29) = true)
    {f30 : Addr} {od30 an30 : Option Addr} {sl30 : Array (Option Value)} {oc30 kV30 dc30 pm30 cd30 ct30 : Value} (a30 : PySem.W.nsIn K mainGlobals "_law_due" = some (some (.ref f30))) (l30 : K.lookup f30 = some ⟨oc30, od30, .func (PySem.W.fnOf "_law_due" "_law_due" (defArgs s__law_due) (defBody s__law_due) (defScope s__law_due) .none kV30 dc30 pm30 an30 cd30 ct30), sl30⟩) (c30 : PySem.W.codeIn K cd30 "_law_due" = true) (k30 : PySem.W.keepIn K (.ref f30) = true)
    {f31 : Addr} {od31 an31 : Option Addr} {sl31 : Array (Option Value)} {oc31 kV31 dc31 pm31 cd31 ct31 : Value} (a31 : PySem.W.nsIn K mainGlobals "law" = some (some (.ref f31))) (l31 : K.lookup f31 = some ⟨oc31, od31, .func (PySem.W.fnOf "law" "law" (defArgs s_law) (defBody s_law) (defScope s_law) .none kV31 dc31 pm31 an31 cd31 ct31), sl31⟩) (c31 : PySem.W.codeIn K cd31 "law" = true) (k31 : PySem.W.keepIn K (.ref f31) = true)
    (z_abs : PySem.W.nsIn K mainGlobals "abs" = some none)
    (z_all : PySem.W.nsIn K mainGlobals "all" = some none)
    (z_bool : PySem.W.nsIn K mainGlobals "bool" = some none)
    (z_int : PySem.W.nsIn K mainGlobals "int" = some none)
    (z_isinstance : PySem.W.nsIn K mainGlobals "isinstance" = some none)
    (z_len : PySem.W.nsIn K mainGlobals "len" = some none)
    (z_list : PySem.W.nsIn K mainGlobals "list" = some none)
    (z_max : PySem.W.nsIn K mainGlobals "max" = some none)
    (z_min : PySem.W.nsIn K mainGlobals "min" = some none)
    (z_range : PySem.W.nsIn K mainGlobals "range" = some none)
    (z_repr : PySem.W.nsIn K mainGlobals "repr" = some none)
    (z_sorted : PySem.W.nsIn K mainGlobals "sorted" = some none)
    (z_str : PySem.W.nsIn K mainGlobals "str" = some none)
    (z_tuple : PySem.W.nsIn K mainGlobals "tuple" = some none)
    (z_zip : PySem.W.nsIn K mainGlobals "zip" = some none)
    {tk0 : Tok} (ka0 : PySem.W.nsIn K mainGlobals "DOWN" = some (some (.str "down" tk0)))
    {tk1 : Tok} (ka1 : PySem.W.nsIn K mainGlobals "MIXED" = some (some (.str "mixed" tk1)))
    {tk2 : Tok} (ka2 : PySem.W.nsIn K mainGlobals "MOST_COST" = some (some (.int 1000 tk2)))
    {tk3 : Tok} (ka3 : PySem.W.nsIn K mainGlobals "MOST_NUMBER" = some (some (.int 100 tk3)))
    {tk4 : Tok} (ka4 : PySem.W.nsIn K mainGlobals "MOST_PAIRS" = some (some (.int 8 tk4)))
    {tk5 : Tok} (ka5 : PySem.W.nsIn K mainGlobals "STRAIGHT" = some (some (.str "straight" tk5)))
    {tk6 : Tok} (ka6 : PySem.W.nsIn K mainGlobals "UP" = some (some (.str "up" tk6)))
    {wq0 : Addr} {wn0 : Nat} {wt0_0 wu0_0 wt0_1 wu0_1 wt0_2 wu0_2 wt0_3 wu0_3 : Tok} (wa0 : PySem.W.nsIn K mainGlobals "SIZES" = some (some (.ref wq0))) (wl0 : K.lookup wq0 = some ⟨.type "dict", none, .dict #[⟨PyData.keyHash w.params "down", .str "down" wt0_0, .int 1 wu0_0⟩, ⟨PyData.keyHash w.params "up", .str "up" wt0_1, .int 1 wu0_1⟩, ⟨PyData.keyHash w.params "straight", .str "straight" wt0_2, .int 1 wu0_2⟩, ⟨PyData.keyHash w.params "mixed", .str "mixed" wt0_3, .int 5 wu0_3⟩] wn0, #[]⟩) (wz0 : (wq0 == sysModules) = false)
    {C_BadPaper : Addr} (xa_BadPaper : PySem.W.nsIn K mainGlobals "BadPaper" = some (some (.ref C_BadPaper)))
    {B_BadPaper I_BadPaper N_BadPaper : Addr} {nm_BadPaper q_BadPaper : Str} {bs_BadPaper bm_BadPaper sub_BadPaper : List Value} {sn_BadPaper : List Str} {ab_BadPaper : Bool} {col_BadPaper : Option Bool} {dd_BadPaper : Option Addr} {ka_BadPaper kb_BadPaper kc_BadPaper kd_BadPaper ke_BadPaper : Option Value} {oc_BadPaper kV_BadPaper dc_BadPaper pm_BadPaper cd_BadPaper ct_BadPaper : Value} {od_BadPaper an_BadPaper : Option Addr} {os_BadPaper : Array (Option Value)}
    (xb_BadPaper : PySem.W.nsIn K mainGlobals "StepError" = some (some (.ref B_BadPaper))) (xc_BadPaper : K.lookup C_BadPaper = some (excClassObj nm_BadPaper q_BadPaper C_BadPaper N_BadPaper bs_BadPaper bm_BadPaper true sn_BadPaper sub_BadPaper ab_BadPaper col_BadPaper dd_BadPaper ka_BadPaper kb_BadPaper kc_BadPaper kd_BadPaper ke_BadPaper "ValueError.__new__")) (xd_BadPaper : PySem.HandSPX.refsVE bm_BadPaper = true) (xe_BadPaper : PySem.W.findIn K (.ref C_BadPaper) "__setattr__" = some (some (.builtin "object.__setattr__")))
    (xf_BadPaper : PySem.W.subIn K (.ref C_BadPaper) (.type "BaseException") = some true) (xg_BadPaper : PySem.W.typeIn K (.ref C_BadPaper) = some (.type "type")) (xh_BadPaper : PySem.W.keepIn K (.ref C_BadPaper) = true) (xi_BadPaper : xfB K C_BadPaper = true) (xj_BadPaper : PySem.W.findIn K (.ref C_BadPaper) "part" = some none) (xk_BadPaper : PySem.W.findIn K (.ref C_BadPaper) "__init__" = some (some (.ref I_BadPaper))) (xl_BadPaper : PySem.W.typeIn K (.ref I_BadPaper) = some (.type "function"))
    (xm_BadPaper : K.lookup I_BadPaper = some ⟨oc_BadPaper, od_BadPaper, .func (PySem.W.fnOf "__init__" "BadPaper.__init__" (defArgs si_BadPaper) (defBody si_BadPaper) (defScope si_BadPaper) .none kV_BadPaper dc_BadPaper pm_BadPaper an_BadPaper cd_BadPaper ct_BadPaper), os_BadPaper⟩) (xn_BadPaper : PySem.W.codeIn K cd_BadPaper "BadPaper.__init__" = true) (xo_BadPaper : PySem.W.keepIn K (.ref I_BadPaper) = true)
    (xp_BadPaper : PySem.W.specialIn K (.ref B_BadPaper) "__getattribute__" = some (some (.builtin "type.__getattribute__"))) (xq_BadPaper : PySem.W.readsIn K B_BadPaper (.type "type") = true) (xr_BadPaper : PySem.W.findCls K (.ref B_BadPaper) (.type "type") "__init__" = some (.val (.builtin "ValueError.__init__")))
    (xz_BadPaper_BadPaper : PySem.W.exmOne K (.ref C_BadPaper) (.ref C_BadPaper) = some true) : Top w ⟨K, mg⟩ :=
  ⟨def_mk (ps := ["script"]) X G (fun _ _ _ _ _ _ us hl => match us, hl with | [_], _ => rfl) a0 l0 c0 k0,
   def_mk (ps := ["cell", "k"]) X G (fun _ _ _ _ _ _ us hl => match us, hl with | [_, _], _ => rfl) a1 l1 c1 k1,
   def_mk (ps := ["state", "many"]) X G (fun _ _ _ _ _ _ us hl => match us, hl with | [_, _], _ => rfl) a2 l2 c2 k2,
   def_mk (ps := ["state", "one", "other"]) X G (fun _ _ _ _ _ _ us hl => match us, hl with | [_, _, _], _ => rfl) a3 l3 c3 k3,
   def_mk (ps := ["state", "one", "other", "sheet"]) X G (fun _ _ _ _ _ _ us hl => match us, hl with | [_, _, _, _], _ => rfl) a4 l4 c4 k4,
   def_mk (ps := ["thing"]) X G (fun _ _ _ _ _ _ us hl => match us, hl with | [_], _ => rfl) a5 l5 c5 k5,
   def_mk (ps := ["thing"]) X G (fun _ _ _ _ _ _ us hl => match us, hl with | [_], _ => rfl) a6 l6 c6 k6,
   def_mk (ps := ["one", "other"]) X G (fun _ _ _ _ _ _ us hl => match us, hl with | [_, _], _ => rfl) a7 l7 c7 k7,
   def_mk (ps := ["thing"]) X G (fun _ _ _ _ _ _ us hl => match us, hl with | [_], _ => rfl) a8 l8 c8 k8,
   def_mk (ps := ["thing"]) X G (fun _ _ _ _ _ _ us hl => match us, hl with | [_], _ => rfl) a9 l9 c9 k9,
   def_mk (ps := ["thing"]) X G (fun _ _ _ _ _ _ us hl => match us, hl with | [_], _ => rfl) a10 l10 c10 k10,
   def_mk (ps := ["thing"]) X G (fun _ _ _ _ _ _ us hl => match us, hl with | [_], _ => rfl) a11 l11 c11 k11,
   def_mk (ps := ["thing"]) X G (fun _ _ _ _ _ _ us hl => match us, hl with | [_], _ => rfl) a12 l12 c12 k12,
   def_mk (ps := ["one", "other", "thing"]) X G (fun _ _ _ _ _ _ us hl => match us, hl with | [_, _, _], _ => rfl) a13 l13 c13 k13,
   def_mk (ps := ["one", "other", "costs"]) X G (fun _ _ _ _ _ _ us hl => match us, hl with | [_, _, _], _ => rfl) a14 l14 c14 k14,
   def_mk (ps := ["one", "other"]) X G (fun _ _ _ _ _ _ us hl => match us, hl with | [_, _], _ => rfl) a15 l15 c15 k15,
   def_mk (ps := ["other", "costs", "place"]) X G (fun _ _ _ _ _ _ us hl => match us, hl with | [_, _, _], _ => rfl) a16 l16 c16 k16,
   def_mk (ps := ["one", "other", "costs"]) X G (fun _ _ _ _ _ _ us hl => match us, hl with | [_, _, _], _ => rfl) a17 l17 c17 k17,
   def_mk (ps := ["one", "other", "costs"]) X G (fun _ _ _ _ _ _ us hl => match us, hl with | [_, _, _], _ => rfl) a18 l18 c18 k18,
   def_mk (ps := ["one", "other", "costs", "paper"]) X G (fun _ _ _ _ _ _ us hl => match us, hl with | [_, _, _, _], _ => rfl) a19 l19 c19 k19,
   def_mk (ps := ["one", "other", "costs", "paper"]) X G (fun _ _ _ _ _ _ us hl => match us, hl with | [_, _, _, _], _ => rfl) a20 l20 c20 k20,
   def_mk (ps := ["one", "other", "costs_so", "sheet"]) X G (fun _ _ _ _ _ _ us hl => match us, hl with | [_, _, _, _], _ => rfl) a21 l21 c21 k21,
   def_mk (ps := ["top", "bottom"]) X G (fun _ _ _ _ _ _ us hl => match us, hl with | [_, _], _ => rfl) a22 l22 c22 k22,
   def_mk (ps := ["state"]) X G (fun _ _ _ _ _ _ us hl => match us, hl with | [_], _ => rfl) a23 l23 c23 k23,
   def_mk (ps := ["state", "many", "most"]) X G (fun _ _ _ _ _ _ us hl => match us, hl with | [_, _, _], _ => rfl) a24 l24 c24 k24,
   def_mk (ps := ["state", "many"]) X G (fun _ _ _ _ _ _ us hl => match us, hl with | [_, _], _ => rfl) a25 l25 c25 k25,
   def_mk (ps := ["one", "other", "costs"]) X G (fun _ _ _ _ _ _ us hl => match us, hl with | [_, _, _], _ => rfl) a26 l26 c26 k26,
   def_mk (ps := ["one", "other", "costs"]) X G (fun _ _ _ _ _ _ us hl => match us, hl with | [_, _, _], _ => rfl) a27 l27 c27 k27,
   def_mk (ps := ["one", "other", "costs_so"]) X G (fun _ _ _ _ _ _ us hl => match us, hl with | [_, _, _], _ => rfl) a28 l28 c28 k28,
   def_mk (ps := ["thing", "least", "most"]) X G (fun _ _ _ _ _ _ us hl => match us, hl with | [_, _, _], _ => rfl) a29 l29 c29 k29,
   def_mk (ps := ["one", "other", "costs_so", "sheet"]) X G (fun _ _ _ _ _ _ us hl => match us, hl with | [_, _, _, _], _ => rfl) a30 l30 c30 k30,
   def_mk (ps := ["script"]) X G (fun _ _ _ _ _ _ us hl => match us, hl with | [_], _ => rfl) a31 l31 c31 k31,
   PySem.W.mg_none_of X G z_abs,
   PySem.W.mg_none_of X G z_all,
   PySem.W.mg_none_of X G z_bool,
   PySem.W.mg_none_of X G z_int,
   PySem.W.mg_none_of X G z_isinstance,
   PySem.W.mg_none_of X G z_len,
   PySem.W.mg_none_of X G z_list,
   PySem.W.mg_none_of X G z_max,
   PySem.W.mg_none_of X G z_min,
   PySem.W.mg_none_of X G z_range,
   PySem.W.mg_none_of X G z_repr,
   PySem.W.mg_none_of X G z_sorted,
   PySem.W.mg_none_of X G z_str,
   PySem.W.mg_none_of X G z_tuple,
   PySem.W.mg_none_of X G z_zip,
   ⟨_, .str "down", PySem.W.mg_of X G ka0, ⟨_, rfl⟩, fun p => .str _⟩,
   ⟨_, .str "mixed", PySem.W.mg_of X G ka1, ⟨_, rfl⟩, fun p => .str _⟩,
   ⟨_, .int 1000, PySem.W.mg_of X G ka2, ⟨_, rfl⟩, fun p => .int _⟩,
   ⟨_, .int 100, PySem.W.mg_of X G ka3, ⟨_, rfl⟩, fun p => .int _⟩,
   ⟨_, .int 8, PySem.W.mg_of X G ka4, ⟨_, rfl⟩, fun p => .int _⟩,
   ⟨_, .str "straight", PySem.W.mg_of X G ka5, ⟨_, rfl⟩, fun p => .str _⟩,
   ⟨_, .str "up", PySem.W.mg_of X G ka6, ⟨_, rfl⟩, fun p => .str _⟩,
   ⟨wq0, _, _, [.int 1, .int 1, .int 1, .int 5], PySem.W.mg_of X G wa0, wl0, ⟨⟨_, _, rfl, rfl⟩, ⟨⟨_, _, rfl, rfl⟩, ⟨⟨_, _, rfl, rfl⟩, ⟨⟨_, _, rfl, rfl⟩, trivial⟩⟩⟩⟩, wz0, fun p => .cons (.int _) (.cons (.int _) (.cons (.int _) (.cons (.int _) (.nil)))), .cons ⟨⟨_, rfl⟩, ⟨_, rfl⟩⟩ (.cons ⟨⟨_, rfl⟩, ⟨_, rfl⟩⟩ (.cons ⟨⟨_, rfl⟩, ⟨_, rfl⟩⟩ (.cons ⟨⟨_, rfl⟩, ⟨_, rfl⟩⟩ (.nil)))), rfl⟩,
   clsF_mk (ps := ["self", "part"]) X G (fun _ _ _ _ _ _ us hl => match us, hl with | [_, _], _ => rfl) xa_BadPaper xb_BadPaper xc_BadPaper xd_BadPaper xe_BadPaper xf_BadPaper xg_BadPaper xh_BadPaper xi_BadPaper xj_BadPaper xk_BadPaper xl_BadPaper xm_BadPaper xn_BadPaper xo_BadPaper xp_BadPaper xq_BadPaper xr_BadPaper,
   ⟨_, PySem.W.mg_of X G xa_BadPaper, fun c b h => by
    simp only [t_BadPaper, catT] at h
    split at h
    · rename_i e; cases h; rw [e]; exact ⟨_, PySem.W.mg_of X G xa_BadPaper, xz_BadPaper_BadPaper⟩
    exact nomatch h⟩⟩
theorem end_mk {P : Program} {w : World} {K : Frag} {h : Heap} {mg : Str → Option Value} {fa : Addr} (X : K.In h) (G : h.Ns mainGlobals mg) (hfa : mg "law" = some (.ref fa))
    {f0 : Addr} {od0 an0 : Option Addr} {sl0 : Array (Option Value)} {oc0 kV0 dc0 pm0 cd0 ct0 : Value} (a0 : PySem.W.nsIn K mainGlobals "_law_begin" = some (some (.ref f0))) (l0 : K.lookup f0 = some ⟨oc0, od0, .func (PySem.W.fnOf "_law_begin" "_law_begin" (defArgs s__law_begin) (defBody s__law_begin) (defScope s__law_begin) .none kV0 dc0 pm0 an0 cd0 ct0), sl0⟩) (c0 : PySem.W.codeIn K cd0 "_law_begin" = true) (k0 : PySem.W.keepIn K (.ref f0) = true)
    {f1 : Addr} {od1 an1 : Option Addr} {sl1 : Array (Option Value)} {oc1 kV1 dc1 pm1 cd1 ct1 : Value} (a1 : PySem.W.nsIn K mainGlobals "_law_mixed" = some (some (.ref f1))) (l1 : K.lookup f1 = some ⟨oc1, od1, .func (PySem.W.fnOf "_law_mixed" "_law_mixed" (defArgs s__law_mixed) (defBody s__law_mixed) (defScope s__law_mixed) .none kV1 dc1 pm1 an1 cd1 ct1), sl1⟩) (c1 : PySem.W.codeIn K cd1 "_law_mixed" = true) (k1 : PySem.W.keepIn K (.ref f1) = true)
    {f2 : Addr} {od2 an2 : Option Addr} {sl2 : Array (Option Value)} {oc2 kV2 dc2 pm2 cd2 ct2 : Value} (a2 : PySem.W.nsIn K mainGlobals "_law_draw" = some (some (.ref f2))) (l2 : K.lookup f2 = some ⟨oc2, od2, .func (PySem.W.fnOf "_law_draw" "_law_draw" (defArgs s__law_draw) (defBody s__law_draw) (defScope s__law_draw) .none kV2 dc2 pm2 an2 cd2 ct2), sl2⟩) (c2 : PySem.W.codeIn K cd2 "_law_draw" = true) (k2 : PySem.W.keepIn K (.ref f2) = true)
    {f3 : Addr} {od3 an3 : Option Addr} {sl3 : Array (Option Value)} {oc3 kV3 dc3 pm3 cd3 ct3 : Value} (a3 : PySem.W.nsIn K mainGlobals "_law_costs" = some (some (.ref f3))) (l3 : K.lookup f3 = some ⟨oc3, od3, .func (PySem.W.fnOf "_law_costs" "_law_costs" (defArgs s__law_costs) (defBody s__law_costs) (defScope s__law_costs) .none kV3 dc3 pm3 an3 cd3 ct3), sl3⟩) (c3 : PySem.W.codeIn K cd3 "_law_costs" = true) (k3 : PySem.W.keepIn K (.ref f3) = true)
    {f4 : Addr} {od4 an4 : Option Addr} {sl4 : Array (Option Value)} {oc4 kV4 dc4 pm4 cd4 ct4 : Value} (a4 : PySem.W.nsIn K mainGlobals "_law_bent" = some (some (.ref f4))) (l4 : K.lookup f4 = some ⟨oc4, od4, .func (PySem.W.fnOf "_law_bent" "_law_bent" (defArgs s__law_bent) (defBody s__law_bent) (defScope s__law_bent) .none kV4 dc4 pm4 an4 cd4 ct4), sl4⟩) (c4 : PySem.W.codeIn K cd4 "_law_bent" = true) (k4 : PySem.W.keepIn K (.ref f4) = true)
    {f5 : Addr} {od5 an5 : Option Addr} {sl5 : Array (Option Value)} {oc5 kV5 dc5 pm5 cd5 ct5 : Value} (a5 : PySem.W.nsIn K mainGlobals "is_integer" = some (some (.ref f5))) (l5 : K.lookup f5 = some ⟨oc5, od5, .func (PySem.W.fnOf "is_integer" "is_integer" (defArgs s_is_integer) (defBody s_is_integer) (defScope s_is_integer) .none kV5 dc5 pm5 an5 cd5 ct5), sl5⟩) (c5 : PySem.W.codeIn K cd5 "is_integer" = true) (k5 : PySem.W.keepIn K (.ref f5) = true)
    {f6 : Addr} {od6 an6 : Option Addr} {sl6 : Array (Option Value)} {oc6 kV6 dc6 pm6 cd6 ct6 : Value} (a6 : PySem.W.nsIn K mainGlobals "is_number" = some (some (.ref f6))) (l6 : K.lookup f6 = some ⟨oc6, od6, .func (PySem.W.fnOf "is_number" "is_number" (defArgs s_is_number) (defBody s_is_number) (defScope s_is_number) .none kV6 dc6 pm6 an6 cd6 ct6), sl6⟩) (c6 : PySem.W.codeIn K cd6 "is_number" = true) (k6 : PySem.W.keepIn K (.ref f6) = true)
    {f7 : Addr} {od7 an7 : Option Addr} {sl7 : Array (Option Value)} {oc7 kV7 dc7 pm7 cd7 ct7 : Value} (a7 : PySem.W.nsIn K mainGlobals "common" = some (some (.ref f7))) (l7 : K.lookup f7 = some ⟨oc7, od7, .func (PySem.W.fnOf "common" "common" (defArgs s_common) (defBody s_common) (defScope s_common) .none kV7 dc7 pm7 an7 cd7 ct7), sl7⟩) (c7 : PySem.W.codeIn K cd7 "common" = true) (k7 : PySem.W.keepIn K (.ref f7) = true)
    {f8 : Addr} {od8 an8 : Option Addr} {sl8 : Array (Option Value)} {oc8 kV8 dc8 pm8 cd8 ct8 : Value} (a8 : PySem.W.nsIn K mainGlobals "is_fraction" = some (some (.ref f8))) (l8 : K.lookup f8 = some ⟨oc8, od8, .func (PySem.W.fnOf "is_fraction" "is_fraction" (defArgs s_is_fraction) (defBody s_is_fraction) (defScope s_is_fraction) .none kV8 dc8 pm8 an8 cd8 ct8), sl8⟩) (c8 : PySem.W.codeIn K cd8 "is_fraction" = true) (k8 : PySem.W.keepIn K (.ref f8) = true)
    {f9 : Addr} {od9 an9 : Option Addr} {sl9 : Array (Option Value)} {oc9 kV9 dc9 pm9 cd9 ct9 : Value} (a9 : PySem.W.nsIn K mainGlobals "is_weight" = some (some (.ref f9))) (l9 : K.lookup f9 = some ⟨oc9, od9, .func (PySem.W.fnOf "is_weight" "is_weight" (defArgs s_is_weight) (defBody s_is_weight) (defScope s_is_weight) .none kV9 dc9 pm9 an9 cd9 ct9), sl9⟩) (c9 : PySem.W.codeIn K cd9 "is_weight" = true) (k9 : PySem.W.keepIn K (.ref f9) = true)
    {f10 : Addr} {od10 an10 : Option Addr} {sl10 : Array (Option Value)} {oc10 kV10 dc10 pm10 cd10 ct10 : Value} (a10 : PySem.W.nsIn K mainGlobals "is_share" = some (some (.ref f10))) (l10 : K.lookup f10 = some ⟨oc10, od10, .func (PySem.W.fnOf "is_share" "is_share" (defArgs s_is_share) (defBody s_is_share) (defScope s_is_share) .none kV10 dc10 pm10 an10 cd10 ct10), sl10⟩) (c10 : PySem.W.codeIn K cd10 "is_share" = true) (k10 : PySem.W.keepIn K (.ref f10) = true)
    {f11 : Addr} {od11 an11 : Option Addr} {sl11 : Array (Option Value)} {oc11 kV11 dc11 pm11 cd11 ct11 : Value} (a11 : PySem.W.nsIn K mainGlobals "need_share" = some (some (.ref f11))) (l11 : K.lookup f11 = some ⟨oc11, od11, .func (PySem.W.fnOf "need_share" "need_share" (defArgs s_need_share) (defBody s_need_share) (defScope s_need_share) .none kV11 dc11 pm11 an11 cd11 ct11), sl11⟩) (c11 : PySem.W.codeIn K cd11 "need_share" = true) (k11 : PySem.W.keepIn K (.ref f11) = true)
    {f12 : Addr} {od12 an12 : Option Addr} {sl12 : Array (Option Value)} {oc12 kV12 dc12 pm12 cd12 ct12 : Value} (a12 : PySem.W.nsIn K mainGlobals "is_cost" = some (some (.ref f12))) (l12 : K.lookup f12 = some ⟨oc12, od12, .func (PySem.W.fnOf "is_cost" "is_cost" (defArgs s_is_cost) (defBody s_is_cost) (defScope s_is_cost) .none kV12 dc12 pm12 an12 cd12 ct12), sl12⟩) (c12 : PySem.W.codeIn K cd12 "is_cost" = true) (k12 : PySem.W.keepIn K (.ref f12) = true)
    {f13 : Addr} {od13 an13 : Option Addr} {sl13 : Array (Option Value)} {oc13 kV13 dc13 pm13 cd13 ct13 : Value} (a13 : PySem.W.nsIn K mainGlobals "are_costs" = some (some (.ref f13))) (l13 : K.lookup f13 = some ⟨oc13, od13, .func (PySem.W.fnOf "are_costs" "are_costs" (defArgs s_are_costs) (defBody s_are_costs) (defScope s_are_costs) .none kV13 dc13 pm13 an13 cd13 ct13), sl13⟩) (c13 : PySem.W.codeIn K cd13 "are_costs" = true) (k13 : PySem.W.keepIn K (.ref f13) = true)
    {f14 : Addr} {od14 an14 : Option Addr} {sl14 : Array (Option Value)} {oc14 kV14 dc14 pm14 cd14 ct14 : Value} (a14 : PySem.W.nsIn K mainGlobals "need_question" = some (some (.ref f14))) (l14 : K.lookup f14 = some ⟨oc14, od14, .func (PySem.W.fnOf "need_question" "need_question" (defArgs s_need_question) (defBody s_need_question) (defScope s_need_question) .none kV14 dc14 pm14 an14 cd14 ct14), sl14⟩) (c14 : PySem.W.codeIn K cd14 "need_question" = true) (k14 : PySem.W.keepIn K (.ref f14) = true)
    {f15 : Addr} {od15 an15 : Option Addr} {sl15 : Array (Option Value)} {oc15 kV15 dc15 pm15 cd15 ct15 : Value} (a15 : PySem.W.nsIn K mainGlobals "places_in" = some (some (.ref f15))) (l15 : K.lookup f15 = some ⟨oc15, od15, .func (PySem.W.fnOf "places_in" "places_in" (defArgs s_places_in) (defBody s_places_in) (defScope s_places_in) .none kV15 dc15 pm15 an15 cd15 ct15), sl15⟩) (c15 : PySem.W.codeIn K cd15 "places_in" = true) (k15 : PySem.W.keepIn K (.ref f15) = true)
    {f16 : Addr} {od16 an16 : Option Addr} {sl16 : Array (Option Value)} {oc16 kV16 dc16 pm16 cd16 ct16 : Value} (a16 : PySem.W.nsIn K mainGlobals "bend_at" = some (some (.ref f16))) (l16 : K.lookup f16 = some ⟨oc16, od16, .func (PySem.W.fnOf "bend_at" "bend_at" (defArgs s_bend_at) (defBody s_bend_at) (defScope s_bend_at) .none kV16 dc16 pm16 an16 cd16 ct16), sl16⟩) (c16 : PySem.W.codeIn K cd16 "bend_at" = true) (k16 : PySem.W.keepIn K (.ref f16) = true)
    {f17 : Addr} {od17 an17 : Option Addr} {sl17 : Array (Option Value)} {oc17 kV17 dc17 pm17 cd17 ct17 : Value} (a17 : PySem.W.nsIn K mainGlobals "ups_in" = some (some (.ref f17))) (l17 : K.lookup f17 = some ⟨oc17, od17, .func (PySem.W.fnOf "ups_in" "ups_in" (defArgs s_ups_in) (defBody s_ups_in) (defScope s_ups_in) .none kV17 dc17 pm17 an17 cd17 ct17), sl17⟩) (c17 : PySem.W.codeIn K cd17 "ups_in" = true) (k17 : PySem.W.keepIn K (.ref f17) = true)
    {f18 : Addr} {od18 an18 : Option Addr} {sl18 : Array (Option Value)} {oc18 kV18 dc18 pm18 cd18 ct18 : Value} (a18 : PySem.W.nsIn K mainGlobals "downs_in" = some (some (.ref f18))) (l18 : K.lookup f18 = some ⟨oc18, od18, .func (PySem.W.fnOf "downs_in" "downs_in" (defArgs s_downs_in) (defBody s_downs_in) (defScope s_downs_in) .none kV18 dc18 pm18 an18 cd18 ct18), sl18⟩) (c18 : PySem.W.codeIn K cd18 "downs_in" = true) (k18 : PySem.W.keepIn K (.ref f18) = true)
    {f19 : Addr} {od19 an19 : Option Addr} {sl19 : Array (Option Value)} {oc19 kV19 dc19 pm19 cd19 ct19 : Value} (a19 : PySem.W.nsIn K mainGlobals "does_hold" = some (some (.ref f19))) (l19 : K.lookup f19 = some ⟨oc19, od19, .func (PySem.W.fnOf "does_hold" "does_hold" (defArgs s_does_hold) (defBody s_does_hold) (defScope s_does_hold) .none kV19 dc19 pm19 an19 cd19 ct19), sl19⟩) (c19 : PySem.W.codeIn K cd19 "does_hold" = true) (k19 : PySem.W.keepIn K (.ref f19) = true)
    {f20 : Addr} {od20 an20 : Option Addr} {sl20 : Array (Option Value)} {oc20 kV20 dc20 pm20 cd20 ct20 : Value} (a20 : PySem.W.nsIn K mainGlobals "check_kind" = some (some (.ref f20))) (l20 : K.lookup f20 = some ⟨oc20, od20, .func (PySem.W.fnOf "check_kind" "check_kind" (defArgs s_check_kind) (defBody s_check_kind) (defScope s_check_kind) .none kV20 dc20 pm20 an20 cd20 ct20), sl20⟩) (c20 : PySem.W.codeIn K cd20 "check_kind" = true) (k20 : PySem.W.keepIn K (.ref f20) = true)
    {f21 : Addr} {od21 an21 : Option Addr} {sl21 : Array (Option Value)} {oc21 kV21 dc21 pm21 cd21 ct21 : Value} (a21 : PySem.W.nsIn K mainGlobals "_law_heard" = some (some (.ref f21))) (l21 : K.lookup f21 = some ⟨oc21, od21, .func (PySem.W.fnOf "_law_heard" "_law_heard" (defArgs s__law_heard) (defBody s__law_heard) (defScope s__law_heard) .none kV21 dc21 pm21 an21 cd21 ct21), sl21⟩) (c21 : PySem.W.codeIn K cd21 "_law_heard" = true) (k21 : PySem.W.keepIn K (.ref f21) = true)
    {f22 : Addr} {od22 an22 : Option Addr} {sl22 : Array (Option Value)} {oc22 kV22 dc22 pm22 cd22 ct22 : Value} (a22 : PySem.W.nsIn K mainGlobals "_law_ratio" = some (some (.ref f22))) (l22 : K.lookup f22 = some ⟨oc22, od22, .func (PySem.W.fnOf "_law_ratio" "_law_ratio" (defArgs s__law_ratio) (defBody s__law_ratio) (defScope s__law_ratio) .none kV22 dc22 pm22 an22 cd22 ct22), sl22⟩) (c22 : PySem.W.codeIn K cd22 "_law_ratio" = true) (k22 : PySem.W.keepIn K (.ref f22) = true)
    {f23 : Addr} {od23 an23 : Option Addr} {sl23 : Array (Option Value)} {oc23 kV23 dc23 pm23 cd23 ct23 : Value} (a23 : PySem.W.nsIn K mainGlobals "_law_heft" = some (some (.ref f23))) (l23 : K.lookup f23 = some ⟨oc23, od23, .func (PySem.W.fnOf "_law_heft" "_law_heft" (defArgs s__law_heft) (defBody s__law_heft) (defScope s__law_heft) .none kV23 dc23 pm23 an23 cd23 ct23), sl23⟩) (c23 : PySem.W.codeIn K cd23 "_law_heft" = true) (k23 : PySem.W.keepIn K (.ref f23) = true)
    {f24 : Addr} {od24 an24 : Option Addr} {sl24 : Array (Option Value)} {oc24 kV24 dc24 pm24 cd24 ct24 : Value} (a24 : PySem.W.nsIn K mainGlobals "_law_marks" = some (some (.ref f24))) (l24 : K.lookup f24 = some ⟨oc24, od24, .func (PySem.W.fnOf "_law_marks" "_law_marks" (defArgs s__law_marks) (defBody s__law_marks) (defScope s__law_marks) .none kV24 dc24 pm24 an24 cd24 ct24), sl24⟩) (c24 : PySem.W.codeIn K cd24 "_law_marks" = true) (k24 : PySem.W.keepIn K (.ref f24) = true)
    {f25 : Addr} {od25 an25 : Option Addr} {sl25 : Array (Option Value)} {oc25 kV25 dc25 pm25 cd25 ct25 : Value} (a25 : PySem.W.nsIn K mainGlobals "_law_share" = some (some (.ref f25))) (l25 : K.lookup f25 = some ⟨oc25, od25, .func (PySem.W.fnOf "_law_share" "_law_share" (defArgs s__law_share) (defBody s__law_share) (defScope s__law_share) .none kV25 dc25 pm25 an25 cd25 ct25), sl25⟩) (c25 : PySem.W.codeIn K cd25 "_law_share" = true) (k25 : PySem.W.keepIn K (.ref f25) = true)
    {f26 : Addr} {od26 an26 : Option Addr} {sl26 : Array (Option Value)} {oc26 kV26 dc26 pm26 cd26 ct26 : Value} (a26 : PySem.W.nsIn K mainGlobals "kind_in" = some (some (.ref f26))) (l26 : K.lookup f26 = some ⟨oc26, od26, .func (PySem.W.fnOf "kind_in" "kind_in" (defArgs s_kind_in) (defBody s_kind_in) (defScope s_kind_in) .none kV26 dc26 pm26 an26 cd26 ct26), sl26⟩) (c26 : PySem.W.codeIn K cd26 "kind_in" = true) (k26 : PySem.W.keepIn K (.ref f26) = true)
    {f27 : Addr} {od27 an27 : Option Addr} {sl27 : Array (Option Value)} {oc27 kV27 dc27 pm27 cd27 ct27 : Value} (a27 : PySem.W.nsIn K mainGlobals "kind_paper" = some (some (.ref f27))) (l27 : K.lookup f27 = some ⟨oc27, od27, .func (PySem.W.fnOf "kind_paper" "kind_paper" (defArgs s_kind_paper) (defBody s_kind_paper) (defScope s_kind_paper) .none kV27 dc27 pm27 an27 cd27 ct27), sl27⟩) (c27 : PySem.W.codeIn K cd27 "kind_paper" = true) (k27 : PySem.W.keepIn K (.ref f27) = true)
    {f28 : Addr} {od28 an28 : Option Addr} {sl28 : Array (Option Value)} {oc28 kV28 dc28 pm28 cd28 ct28 : Value} (a28 : PySem.W.nsIn K mainGlobals "_law_bends" = some (some (.ref f28))) (l28 : K.lookup f28 = some ⟨oc28, od28, .func (PySem.W.fnOf "_law_bends" "_law_bends" (defArgs s__law_bends) (defBody s__law_bends) (defScope s__law_bends) .none kV28 dc28 pm28 an28 cd28 ct28), sl28⟩) (c28 : PySem.W.codeIn K cd28 "_law_bends" = true) (k28 : PySem.W.keepIn K (.ref f28) = true)
    {f29 : Addr} {od29 an29 : Option Addr} {sl29 : Array (Option Value)} {oc29 kV29 dc29 pm29 cd29 ct29 : Value} (a29 : PySem.W.nsIn K mainGlobals "_law_is_int" = some (some (.ref f29))) (l29 : K.lookup f29 = some ⟨oc29, od29, .func (PySem.W.fnOf "_law_is_int" "_law_is_int" (defArgs s__law_is_int) (defBody s__law_is_int) (defScope s__law_is_int) .none kV29 dc29 pm29 an29 cd29 ct29), sl29⟩) (c29 : PySem.W.codeIn K cd29 "_law_is_int" = true) (k29 : PySem.W.keepIn K (.ref f29) = true)
    {f30 : Addr} {od30 an30 : Option Addr} {sl30 : Array (Option Value)} {oc30 kV30 dc30 pm30 cd30 ct30 : Value} (a30 : PySem.W.nsIn K mainGlobals "_law_due" = some (some (.ref f30))) (l30 : K.lookup f30 = some ⟨oc30, od30, .func (PySem.W.fnOf "_law_due" "_law_due" (defArgs s__law_due) (defBody s__law_due) (defScope s__law_due) .none kV30 dc30 pm30 an30 cd30 ct30), sl30⟩) (c30 : PySem.W.codeIn K cd30 "_law_due" = true) (k30 : PySem.W.keepIn K (.ref f30) = true)
    {f31 : Addr} {od31 an31 : Option Addr} {sl31 : Array (Option Value)} {oc31 kV31 dc31 pm31 cd31 ct31 : Value} (a31 : PySem.W.nsIn K mainGlobals "law" = some (some (.ref f31))) (l31 : K.lookup f31 = some ⟨oc31, od31, .func (PySem.W.fnOf "law" "law" (defArgs s_law) (defBody s_law) (defScope s_law) .none kV31 dc31 pm31 an31 cd31 ct31), sl31⟩) (c31 : PySem.W.codeIn K cd31 "law" = true) (k31 : PySem.W.keepIn K (.ref f31) = true)
    (z_abs : PySem.W.nsIn K mainGlobals "abs" = some none)
    (z_all : PySem.W.nsIn K mainGlobals "all" = some none)
    (z_bool : PySem.W.nsIn K mainGlobals "bool" = some none)
    (z_int : PySem.W.nsIn K mainGlobals "int" = some none)
    (z_isinstance : PySem.W.nsIn K mainGlobals "isinstance" = some none)
    (z_len : PySem.W.nsIn K mainGlobals "len" = some none)
    (z_list : PySem.W.nsIn K mainGlobals "list" = some none)
    (z_max : PySem.W.nsIn K mainGlobals "max" = some none)
    (z_min : PySem.W.nsIn K mainGlobals "min" = some none)
    (z_range : PySem.W.nsIn K mainGlobals "range" = some none)
    (z_repr : PySem.W.nsIn K mainGlobals "repr" = some none)
    (z_sorted : PySem.W.nsIn K mainGlobals "sorted" = some none)
    (z_str : PySem.W.nsIn K mainGlobals "str" = some none)
    (z_tuple : PySem.W.nsIn K mainGlobals "tuple" = some none)
    (z_zip : PySem.W.nsIn K mainGlobals "zip" = some none)
    {tk0 : Tok} (ka0 : PySem.W.nsIn K mainGlobals "DOWN" = some (some (.str "down" tk0)))
    {tk1 : Tok} (ka1 : PySem.W.nsIn K mainGlobals "MIXED" = some (some (.str "mixed" tk1)))
    {tk2 : Tok} (ka2 : PySem.W.nsIn K mainGlobals "MOST_COST" = some (some (.int 1000 tk2)))
    {tk3 : Tok} (ka3 : PySem.W.nsIn K mainGlobals "MOST_NUMBER" = some (some (.int 100 tk3)))
    {tk4 : Tok} (ka4 : PySem.W.nsIn K mainGlobals "MOST_PAIRS" = some (some (.int 8 tk4)))
    {tk5 : Tok} (ka5 : PySem.W.nsIn K mainGlobals "STRAIGHT" = some (some (.str "straight" tk5)))
    {tk6 : Tok} (ka6 : PySem.W.nsIn K mainGlobals "UP" = some (some (.str "up" tk6)))
    {wq0 : Addr} {wn0 : Nat} {wt0_0 wu0_0 wt0_1 wu0_1 wt0_2 wu0_2 wt0_3 wu0_3 : Tok} (wa0 : PySem.W.nsIn K mainGlobals "SIZES" = some (some (.ref wq0))) (wl0 : K.lookup wq0 = some ⟨.type "dict", none, .dict #[⟨PyData.keyHash w.params "down", .str "down" wt0_0, .int 1 wu0_0⟩, ⟨PyData.keyHash w.params "up", .str "up" wt0_1, .int 1 wu0_1⟩, ⟨PyData.keyHash w.params "straight", .str "straight" wt0_2, .int 1 wu0_2⟩, ⟨PyData.keyHash w.params "mixed", .str "mixed" wt0_3, .int 5 wu0_3⟩] wn0, #[]⟩) (wz0 : (wq0 == sysModules) = false)
    {C_BadPaper : Addr} (xa_BadPaper : PySem.W.nsIn K mainGlobals "BadPaper" = some (some (.ref C_BadPaper)))
    {B_BadPaper I_BadPaper N_BadPaper : Addr} {nm_BadPaper q_BadPaper : Str} {bs_BadPaper bm_BadPaper sub_BadPaper : List Value} {sn_BadPaper : List Str} {ab_BadPaper : Bool} {col_BadPaper : Option Bool} {dd_BadPaper : Option Addr} {ka_BadPaper kb_BadPaper kc_BadPaper kd_BadPaper ke_BadPaper : Option Value} {oc_BadPaper kV_BadPaper dc_BadPaper pm_BadPaper cd_BadPaper ct_BadPaper : Value} {od_BadPaper an_BadPaper : Option Addr} {os_BadPaper : Array (Option Value)}
    (xb_BadPaper : PySem.W.nsIn K mainGlobals "StepError" = some (some (.ref B_BadPaper))) (xc_BadPaper : K.lookup C_BadPaper = some (excClassObj nm_BadPaper q_BadPaper C_BadPaper N_BadPaper bs_BadPaper bm_BadPaper true sn_BadPaper sub_BadPaper ab_BadPaper col_BadPaper dd_BadPaper ka_BadPaper kb_BadPaper kc_BadPaper kd_BadPaper ke_BadPaper "ValueError.__new__")) (xd_BadPaper : PySem.HandSPX.refsVE bm_BadPaper = true) (xe_BadPaper : PySem.W.findIn K (.ref C_BadPaper) "__setattr__" = some (some (.builtin "object.__setattr__")))
    (xf_BadPaper : PySem.W.subIn K (.ref C_BadPaper) (.type "BaseException") = some true) (xg_BadPaper : PySem.W.typeIn K (.ref C_BadPaper) = some (.type "type")) (xh_BadPaper : PySem.W.keepIn K (.ref C_BadPaper) = true) (xi_BadPaper : xfB K C_BadPaper = true) (xj_BadPaper : PySem.W.findIn K (.ref C_BadPaper) "part" = some none) (xk_BadPaper : PySem.W.findIn K (.ref C_BadPaper) "__init__" = some (some (.ref I_BadPaper))) (xl_BadPaper : PySem.W.typeIn K (.ref I_BadPaper) = some (.type "function"))
    (xm_BadPaper : K.lookup I_BadPaper = some ⟨oc_BadPaper, od_BadPaper, .func (PySem.W.fnOf "__init__" "BadPaper.__init__" (defArgs si_BadPaper) (defBody si_BadPaper) (defScope si_BadPaper) .none kV_BadPaper dc_BadPaper pm_BadPaper an_BadPaper cd_BadPaper ct_BadPaper), os_BadPaper⟩) (xn_BadPaper : PySem.W.codeIn K cd_BadPaper "BadPaper.__init__" = true) (xo_BadPaper : PySem.W.keepIn K (.ref I_BadPaper) = true)
    (xp_BadPaper : PySem.W.specialIn K (.ref B_BadPaper) "__getattribute__" = some (some (.builtin "type.__getattribute__"))) (xq_BadPaper : PySem.W.readsIn K B_BadPaper (.type "type") = true) (xr_BadPaper : PySem.W.findCls K (.ref B_BadPaper) (.type "type") "__init__" = some (.val (.builtin "ValueError.__init__")))
    (xz_BadPaper_BadPaper : PySem.W.exmOne K (.ref C_BadPaper) (.ref C_BadPaper) = some true) :
    ∃ fd : FuncData, (∀ (s : Shared) (v : Value), BindsTo s fd ⟨[v], []⟩ [("script", v)]) ∧ ∀ base : Heap, K.In base → base.Ns mainGlobals mg → FnG P w K mg base 9 fa fd ["script"] (spLaw K) := by
  have T : Top w ⟨K, mg⟩ := top_mk X G a0 l0 c0 k0 a1 l1 c1 k1 a2 l2 c2 k2 a3 l3 c3 k3 a4 l4 c4 k4 a5 l5 c5 k5 a6 l6 c6 k6 a7 l7 c7 k7 a8 l8 c8 k8 a9 l9 c9 k9 a10 l10 c10 k10 a11 l11 c11 k11 a12 l12 c12 k12 a13 l13 c13 k13 a14 l14 c14 k14 a15 l15 c15 k15 a16 l16 c16 k16 a17 l17 c17 k17 a18 l18 c18 k18 a19 l19 c19 k19 a20 l20 c20 k20 a21 l21 c21 k21 a22 l22 c22 k22 a23 l23 c23 k23 a24 l24 c24 k24 a25 l25 c25 k25 a26 l26 c26 k26 a27 l27 c27 k27 a28 l28 c28 k28 a29 l29 c29 k29 a30 l30 c30 k30 a31 l31 c31 k31 z_abs z_all z_bool z_int z_isinstance z_len z_list z_max z_min z_range z_repr z_sorted z_str z_tuple z_zip ka0 ka1 ka2 ka3 ka4 ka5 ka6 wa0 wl0 wz0 xa_BadPaper xb_BadPaper xc_BadPaper xd_BadPaper xe_BadPaper xf_BadPaper xg_BadPaper xh_BadPaper xi_BadPaper xj_BadPaper xk_BadPaper xl_BadPaper xm_BadPaper xn_BadPaper xo_BadPaper xp_BadPaper xq_BadPaper xr_BadPaper xz_BadPaper_BadPaper
  obtain ⟨f, fd, F, hm, hb⟩ := T.d_law.ex
  obtain rfl : f = fa := by
    have e : some (Value.ref f) = some (Value.ref fa) := hm.symm.trans hfa
    injection e with e; injection e
  exact ⟨fd, fun s v => .of_eq (hb [v] rfl), fun base _ _ => law_of (G := ⟨K, mg⟩) (fn_den F sc_law fun X W o ⟨cdv, A, outer, s, H, E, e⟩ => b_law T X W o ⟨f, cdv, A, outer, s, H, E, e⟩) law_true⟩

end K10
open PySem PySem.W PyProof.Rows
set_option maxHeartbeats 0 in
theorem PySem.Challenge.cw_curtainsteps_k10_kind_papers_judged_holds : PySem.Challenge.rw_curtainsteps_k10_kind_papers_judged.Holds := by
  w_on; o_law; k_head; (case hw => w_witness2)
  k_fill
  refine DL.walkG (l := PySem.Challenge.rw_curtainsteps_k10_kind_papers_judged) (n := 63) (k := 9) (x := "script") (sp := fun w => DL.spLaw _) rfl (by decide) rfl ⟨rfl, by decide, by decide⟩ (fun w h Y => PySem.W.kIn_of Y) ?F (fun _ _ a ns hl hO hS => ⟨a, ns, rfl, hl, hO, hS, fun _ => rfl⟩)
  case F =>
    intro w mg fa h KX G hmg
    refine' K10.end_mk KX G hmg ?a0 ?l0 ?c0 ?k0 ?a1 ?l1 ?c1 ?k1 ?a2 ?l2 ?c2 ?k2 ?a3 ?l3 ?c3 ?k3 ?a4 ?l4 ?c4 ?k4 ?a5 ?l5 ?c5 ?k5 ?a6 ?l6 ?c6 ?k6 ?a7 ?l7 ?c7 ?k7 ?a8 ?l8 ?c8 ?k8 ?a9 ?l9 ?c9 ?k9 ?a10 ?l10 ?c10 ?k10 ?a11 ?l11 ?c11 ?k11 ?a12 ?l12 ?c12 ?k12 ?a13 ?l13 ?c13 ?k13 ?a14 ?l14 ?c14 ?k14 ?a15 ?l15 ?c15 ?k15 ?a16 ?l16 ?c16 ?k16 ?a17 ?l17 ?c17 ?k17 ?a18 ?l18 ?c18 ?k18 ?a19 ?l19 ?c19 ?k19 ?a20 ?l20 ?c20 ?k20 ?a21 ?l21 ?c21 ?k21 ?a22 ?l22 ?c22 ?k22 ?a23 ?l23 ?c23 ?k23 ?a24 ?l24 ?c24 ?k24 ?a25 ?l25 ?c25 ?k25 ?a26 ?l26 ?c26 ?k26 ?a27 ?l27 ?c27 ?k27 ?a28 ?l28 ?c28 ?k28 ?a29 ?l29 ?c29 ?k29 ?a30 ?l30 ?c30 ?k30 ?a31 ?l31 ?c31 ?k31 ?z_abs ?z_all ?z_bool ?z_int ?z_isinstance ?z_len ?z_list ?z_max ?z_min ?z_range ?z_repr ?z_sorted ?z_str ?z_tuple ?z_zip ?ka0 ?ka1 ?ka2 ?ka3 ?ka4 ?ka5 ?ka6 ?wa0 ?wl0 ?wz0 ?xa_BadPaper ?xb_BadPaper ?xc_BadPaper ?xd_BadPaper ?xe_BadPaper ?xf_BadPaper ?xg_BadPaper ?xh_BadPaper ?xi_BadPaper ?xj_BadPaper ?xk_BadPaper ?xl_BadPaper ?xm_BadPaper ?xn_BadPaper ?xo_BadPaper ?xp_BadPaper ?xq_BadPaper ?xr_BadPaper ?xz_BadPaper_BadPaper
    (case a0 => k_is); (case l0 => k_is); (case c0 => k_is); (case k0 => k_is); (case a1 => k_is); (case l1 => k_is); (case c1 => k_is); (case k1 => k_is); (case a2 => k_is); (case l2 => k_is); (case c2 => k_is); (case k2 => k_is); (case a3 => k_is); (case l3 => k_is); (case c3 => k_is); (case k3 => k_is); (case a4 => k_is); (case l4 => k_is); (case c4 => k_is); (case k4 => k_is); (case a5 => k_is); (case l5 => k_is); (case c5 => k_is); (case k5 => k_is); (case a6 => k_is); (case l6 => k_is); (case c6 => k_is); (case k6 => k_is); (case a7 => k_is); (case l7 => k_is); (case c7 => k_is); (case k7 => k_is); (case a8 => k_is); (case l8 => k_is); (case c8 => k_is); (case k8 => k_is); (case a9 => k_is); (case l9 => k_is); (case c9 => k_is); (case k9 => k_is); (case a10 => k_is); (case l10 => k_is); (case c10 => k_is); (case k10 => k_is); (case a11 => k_is); (case l11 => k_is); (case c11 => k_is); (case k11 => k_is); (case a12 => k_is); (case l12 => k_is); (case c12 => k_is); (case k12 => k_is); (case a13 => k_is); (case l13 => k_is); (case c13 => k_is); (case k13 => k_is); (case a14 => k_is); (case l14 => k_is); (case c14 => k_is); (case k14 => k_is); (case a15 => k_is); (case l15 => k_is); (case c15 => k_is); (case k15 => k_is); (case a16 => k_is); (case l16 => k_is); (case c16 => k_is); (case k16 => k_is); (case a17 => k_is); (case l17 => k_is); (case c17 => k_is); (case k17 => k_is); (case a18 => k_is); (case l18 => k_is); (case c18 => k_is); (case k18 => k_is); (case a19 => k_is); (case l19 => k_is); (case c19 => k_is); (case k19 => k_is); (case a20 => k_is); (case l20 => k_is); (case c20 => k_is); (case k20 => k_is); (case a21 => k_is); (case l21 => k_is); (case c21 => k_is); (case k21 => k_is); (case a22 => k_is); (case l22 => k_is); (case c22 => k_is); (case k22 => k_is); (case a23 => k_is); (case l23 => k_is); (case c23 => k_is); (case k23 => k_is); (case a24 => k_is); (case l24 => k_is); (case c24 => k_is); (case k24 => k_is); (case a25 => k_is); (case l25 => k_is); (case c25 => k_is); (case k25 => k_is); (case a26 => k_is); (case l26 => k_is); (case c26 => k_is); (case k26 => k_is); (case a27 => k_is); (case l27 => k_is); (case c27 => k_is); (case k27 => k_is); (case a28 => k_is); (case l28 => k_is); (case c28 => k_is); (case k28 => k_is); (case a29 => k_is); (case l29 => k_is); (case c29 => k_is); (case k29 => k_is); (case a30 => k_is); (case l30 => k_is); (case c30 => k_is); (case k30 => k_is); (case a31 => k_is); (case l31 => k_is); (case c31 => k_is); (case k31 => k_is); (case z_abs => k_is); (case z_all => k_is); (case z_bool => k_is); (case z_int => k_is); (case z_isinstance => k_is); (case z_len => k_is); (case z_list => k_is); (case z_max => k_is); (case z_min => k_is); (case z_range => k_is); (case z_repr => k_is); (case z_sorted => k_is); (case z_str => k_is); (case z_tuple => k_is); (case z_zip => k_is); (case ka0 => k_is); (case ka1 => k_is); (case ka2 => k_is); (case ka3 => k_is); (case ka4 => k_is); (case ka5 => k_is); (case ka6 => k_is); (case wa0 => k_is); (case wl0 => k_is); (case wz0 => decide +kernel); (case xa_BadPaper => k_is); (case xb_BadPaper => k_is); (case xc_BadPaper => k_is); (case xd_BadPaper => decide +kernel); (case xe_BadPaper => k_is); (case xf_BadPaper => k_is); (case xg_BadPaper => k_is); (case xh_BadPaper => k_is); (case xi_BadPaper => kernel_rfl); (case xj_BadPaper => k_is); (case xk_BadPaper => k_is); (case xl_BadPaper => k_is); (case xm_BadPaper => k_is); (case xn_BadPaper => k_is); (case xo_BadPaper => k_is); (case xp_BadPaper => k_is); (case xq_BadPaper => k_is); (case xr_BadPaper => k_is); (case xz_BadPaper_BadPaper => kernel_rfl)
