import PyProof.Rows.All
import Wide.All
import OpenK.AllK
import Wide.FinOn
import HandS.ForMost
import HandS.ForExc
import HandS.TupAny
import HandS.TupMul
import HandS.Deep
import HandS.IsInst
import HandS.Walk
import HandS.Zip
import HandS.SetFor
import PyProof.Rows.SortStr
import PyProof.Rows.SortShellAny
import HandS.Strs
import HandS.Style
import PyProof.NeKinds
import HandS.FStr
import HandS.RaiseMore
import HandS.Defaults
import HandS.MakeKwOnly
import PyProof.Draws
import PyProof.EnumMake
import PyProof.Rows.ListMulArg
import KE.GoesMore
import HandS.Iter
import HandS.Star
import HandS.SetKeys
import HandS.More
import PyProof.AutoSeq1
import HandS.GenList
import HandS.SetBool
import PySem.Challenge.RW_tidyrules_k17_patterns_told
set_option Elab.async false
set_option linter.all false
set_option maxRecDepth 100000
set_option maxHeartbeats 4000000
/-! Td: readings as functions over data (PyData) and a store of objects that change. -/
namespace Td
open PySem L2

/-- the store's object l, as a datum -/
abbrev rf (l : Nat) : PyData := .dict [(.int (l : Int), .none)]

/-- frozen heap F, what others hold and change P, addresses of the store μ, its size n -/
structure Gd where
  K : PySem.W.Frag
  F : Hp
  P : Hp
  μ : Nat → Addr
  n : Nat

mutual
inductive Dq (g : Gd) : V → PyData → Prop
  | non : Dq g .non .none
  | bl (b : Bool) : Dq g (.bl b) (.bool b)
  | int (i : Int) : Dq g (.int i) (.int i)
  | str (x : Str) : Dq g (.str x) (.str x)
  | lst {a : Addr} {xs : List V} {ds : List PyData} : SqL g.K g.F a xs → DqA g xs ds → Dq g (.ref a) (.list ds)
  | tup {a : Addr} {xs : List V} {ds : List PyData} : SqT g.K g.F a xs → DqA g xs ds → Dq g (.ref a) (.tuple ds)
  | ref {l : Nat} : l < g.n → Dq g (.ref (g.μ l)) (rf l)
inductive DqA (g : Gd) : List V → List PyData → Prop
  | nil : DqA g [] []
  | cons {v : V} {vs : List V} {d : PyData} {ds : List PyData} : Dq g v d → DqA g vs ds → DqA g (v :: vs) (d :: ds)
end

/-- what stands in the store -/
inductive Ob where
  | lst (xs : List PyData)
  | dK (kvs : List (Key × PyData))
  | ins (c : Str) (fs : List (Str × PyData))
  | dead

abbrev Ws := List Ob

/-- the class of the name c stands at C -/
def ClsAt (K : PySem.W.Frag) (c : Str) (C : Addr) : Prop := PySem.W.nsIn K mainGlobals c = some (some (.ref C))
/-- pairs of a key and a value -/
def KvR {κ : Type} (g : Gd) : List (κ × V) → List (κ × PyData) → Prop := Paired fun p q => p.1 = q.1 ∧ Dq g p.2 q.2

def ObR (g : Gd) (H : Hp) (a : Addr) : Ob → Prop
  | .lst ds => g.F a = none ∧ ∃ xs, H a = some (.lst xs) ∧ DqA g xs ds
  | .dK kvs => g.F a = none ∧ ∃ ks, H a = some (.dK ks) ∧ KvR g ks kvs
  | .ins c fs => g.F a = none ∧ ∃ dx gs, (∃ C, ClsAt g.K c C ∧ H a = some (.ins C dx gs)) ∧ H dx = some (.own a) ∧ g.F dx = none ∧ KvR g gs fs
  | .dead => ∃ o, H a = some o

structure Rp (g : Gd) (H : Hp) (w : Ws) : Prop where
  fro : ∀ a o, g.F a = some o → H a = some o
  len : g.n = w.length
  cell : ∀ l ob, w[l]? = some ob → ObR g H (g.μ l) ob
  inj : ∀ l m, l < g.n → m < g.n → g.μ l = g.μ m → l = m
  pin : ∀ a o, g.P a = some o → H a = some o ∧ g.F a = none ∧ ∀ l, l < g.n → g.μ l ≠ a

/-- the ground grows -/
structure Xt0 (g g' : Gd) : Prop where
  k : g'.K = g.K
  ex : ∀ a o, g.F a = some o → g'.F a = some o
  at_ : ∀ l, l < g.n → g'.μ l = g.μ l
  le : g.n ≤ g'.n
structure Xt (g g' : Gd) : Prop extends Xt0 g g' where
  p : g'.P = g.P
instance {g g' : Gd} : Coe (Xt g g') (Xt0 g g') := ⟨Xt.toXt0⟩

theorem Xt.refl (g : Gd) : Xt g g := ⟨⟨rfl, fun _ _ h => h, fun _ _ => rfl, Nat.le_refl _⟩, rfl⟩
theorem Xt0.trans {g g1 g2 : Gd} (a : Xt0 g g1) (b : Xt0 g1 g2) : Xt0 g g2 :=
  ⟨b.k.trans a.k, fun x o h => b.ex x o (a.ex x o h), fun l h => (b.at_ l (Nat.lt_of_lt_of_le h a.le)).trans (a.at_ l h), Nat.le_trans a.le b.le⟩
theorem Xt.trans {g g1 g2 : Gd} (a : Xt g g1) (b : Xt g1 g2) : Xt g g2 := ⟨a.toXt0.trans b.toXt0, b.p.trans a.p⟩

theorem Xt0.rd {g g' : Gd} (x : Xt0 g g') {a : Addr} {u : HO} (h : Rd g.F a u) : Rd g'.F a u := by
  rcases h with h | ⟨o, h⟩
  · exact .inl (x.ex _ _ h)
  · exact .inr ⟨o, x.ex _ _ h⟩
theorem Xt0.sqL {g g' : Gd} (x : Xt0 g g') {a : Addr} {xs : List V} (h : SqL g.K g.F a xs) : SqL g'.K g'.F a xs := by
  rw [x.k]
  rcases h with h | h
  · exact .inl (x.rd h)
  · exact .inr h
theorem Xt0.sqT {g g' : Gd} (x : Xt0 g g') {a : Addr} {xs : List V} (h : SqT g.K g.F a xs) : SqT g'.K g'.F a xs := by
  rw [x.k]
  rcases h with h | h
  · exact .inl (x.rd h)
  · exact .inr h

mutual
theorem Dq.mono {g g' : Gd} (x : Xt0 g g') : ∀ (d : PyData) (v : V), Dq g v d → Dq g' v d
  | .none, _, h => by cases h; exact .non
  | .bool _, _, h => by cases h; exact .bl _
  | .int _, _, h => by cases h; exact .int _
  | .str _, _, h => by cases h; exact .str _
  | .list ds, _, h => by
    cases h with
    | lst a b => exact .lst (x.sqL a) (DqA.mono x ds _ b)
  | .tuple ds, _, h => by
    cases h with
    | tup a b => exact .tup (x.sqT a) (DqA.mono x ds _ b)
  | .dict _, _, h => by
    cases h with
    | ref hl =>
      rw [← x.at_ _ hl]
      exact .ref (Nat.lt_of_lt_of_le hl x.le)
theorem DqA.mono {g g' : Gd} (x : Xt0 g g') : ∀ (ds : List PyData) (vs : List V), DqA g vs ds → DqA g' vs ds
  | [], _, h => by cases h; exact .nil
  | d :: ds, _, h => by
    cases h with
    | cons a b => exact .cons (Dq.mono x d _ a) (DqA.mono x ds _ b)
end

theorem KvR.mono {κ : Type} {g g' : Gd} (x : Xt0 g g') : ∀ {ks : List (κ × V)} {kvs : List (κ × PyData)}, KvR g ks kvs → KvR g' ks kvs
  | _, _, .nil => .nil
  | _, _, .cons h t => .cons ⟨h.1, h.2.mono x _ _⟩ (KvR.mono x t)

theorem DqA.length {g : Gd} : ∀ {vs : List V} {ds : List PyData}, DqA g vs ds → vs.length = ds.length
  | _, _, .nil => rfl
  | _, _, .cons _ t => congrArg (· + 1) (DqA.length t)
theorem DqA.get {g : Gd} : ∀ {vs : List V} {ds : List PyData} {i : Nat} {d : PyData}, DqA g vs ds → ds[i]? = some d → ∃ v, vs[i]? = some v ∧ Dq g v d
  | _, _, _, _, .nil, e => by simp at e
  | _, _, 0, _, .cons h _, e => by simp at e; subst e; exact ⟨_, rfl, h⟩
  | _, _, i + 1, d, .cons _ t, e => by
    obtain ⟨v, h1, h2⟩ := DqA.get (i := i) (d := d) t (by simpa using e)
    exact ⟨v, by simpa using h1, h2⟩
theorem DqA.append {g : Gd} : ∀ {vs us : List V} {ds es : List PyData}, DqA g vs ds → DqA g us es → DqA g (vs ++ us) (ds ++ es)
  | _, _, _, _, .nil, s => s
  | _, _, _, _, .cons r t, s => .cons r (DqA.append t s)
theorem DqA.take {g : Gd} : ∀ {vs : List V} {ds : List PyData} (n : Nat), DqA g vs ds → DqA g (vs.take n) (ds.take n)
  | _, _, 0, _ => .nil
  | _, _, _ + 1, .nil => .nil
  | _, _, n + 1, .cons r t => .cons r (DqA.take n t)
theorem DqA.drop {g : Gd} : ∀ {vs : List V} {ds : List PyData} (n : Nat), DqA g vs ds → DqA g (vs.drop n) (ds.drop n)
  | _, _, 0, r => r
  | _, _, _ + 1, .nil => .nil
  | _, _, n + 1, .cons _ t => DqA.drop n t
theorem DqA.reverse {g : Gd} : ∀ {vs : List V} {ds : List PyData}, DqA g vs ds → DqA g vs.reverse ds.reverse
  | _, _, .nil => .nil
  | _, _, .cons r t => by
    rw [List.reverse_cons, List.reverse_cons]
    exact (DqA.reverse t).append (.cons r .nil)

/-- a frozen object more -/
def Gd.put (g : Gd) (p : Addr) (o : HO) : Gd := { g with F := upd g.F p o }
theorem Rp.fnone {g : Gd} {H : Hp} {w : Ws} (r : Rp g H w) {p : Addr} (h : H p = none) : g.F p = none := by
  cases e : g.F p with
  | none => rfl
  | some o => rw [r.fro p o e] at h; cases h
theorem Xt.put {g : Gd} {p : Addr} {o : HO} (h : g.F p = none) : Xt g (g.put p o) :=
  ⟨⟨rfl, fun a u e => by show upd g.F p o a = _; rw [upd_ne (ne_of_none e h)]; exact e, fun _ _ => rfl, Nat.le_refl _⟩, rfl⟩
theorem ObR.there {g : Gd} {H : Hp} {a : Addr} {ob : Ob} (h : ObR g H a ob) : ∃ o, H a = some o := by
  cases ob with
  | lst ds => obtain ⟨_, xs, h, _⟩ := h; exact ⟨_, h⟩
  | dK ds => obtain ⟨_, xs, h, _⟩ := h; exact ⟨_, h⟩
  | ins C fs => obtain ⟨_, dx, gs, ⟨_, _, h⟩, _⟩ := h; exact ⟨_, h⟩
  | dead => exact h
/-- an object at another address does not matter -/
theorem ObR.new {g g' : Gd} {H H' : Hp} {a : Addr} {ob : Ob} (x : Xt0 g g') (h : ObR g H a ob) (hf : ∀ b, (H b).isSome = true → g'.F b = g.F b ∧ H' b = H b) : ObR g' H' a ob := by
  have q : ∀ {b : Addr} {o : HO}, H b = some o → g'.F b = g.F b ∧ H' b = some o := fun {b o} e => by
    have z := hf b (by rw [e]; rfl)
    exact ⟨z.1, z.2.trans e⟩
  cases ob with
  | lst ds =>
    obtain ⟨hn, xs, h, d⟩ := h
    exact ⟨(q h).1.trans hn, xs, (q h).2, d.mono x _ _⟩
  | dK kvs =>
    obtain ⟨hn, ks, h, d⟩ := h
    exact ⟨(q h).1.trans hn, ks, (q h).2, d.mono x⟩
  | ins C fs =>
    obtain ⟨hn, dx, gs, ⟨C', hC, h⟩, hd, hn2, d⟩ := h
    exact ⟨(q h).1.trans hn, dx, gs, ⟨C', by rw [x.k]; exact hC, (q h).2⟩, (q hd).2, (q hd).1.trans hn2, d.mono x⟩
  | dead =>
    obtain ⟨o, h⟩ := h
    exact ⟨o, (q h).2⟩
theorem Rp.put {g : Gd} {H : Hp} {w : Ws} (r : Rp g H w) {p : Addr} {o : HO} (h : H p = none) : Rp (g.put p o) (upd H p o) w where
  fro := fun a u e => by
    by_cases q : a = p
    · subst q
      have e' : upd g.F a o a = some u := e
      rw [upd_same] at e' ⊢
      exact e'
    · have e' : upd g.F p o a = some u := e
      rw [upd_ne q] at e' ⊢
      exact r.fro a u e'
  len := r.len
  cell := fun l ob e => (r.cell l ob e).new (Xt.put (r.fnone h)).toXt0 fun b hb => by
    have nb : b ≠ p := fun z => by subst z; rw [h] at hb; cases hb
    exact ⟨upd_ne nb, upd_ne nb⟩
  inj := r.inj
  pin := fun a u e => by
    obtain ⟨h1, h2, h3⟩ := r.pin a u e
    have na : a ≠ p := fun z => by subst z; rw [h] at h1; cases h1
    exact ⟨by rw [upd_ne na]; exact h1, (upd_ne na).trans h2, h3⟩

/-! ### outcomes -/
inductive Oc (α : Type) where
  | ok (a : α) (w : Ws)
  | ex (c : Value) (fs : List (Str × PyData)) (w : Ws)
  | no
def Oc.bind {α β : Type} (x : Oc α) (f : α → Ws → Oc β) : Oc β :=
  match x with
  | .ok a w => f a w
  | .ex c fs w => .ex c fs w
  | .no => .no
abbrev Ev := List (Option PyData)
abbrev FE := Ev → Ws → Oc PyData
abbrev FT := Ev → Ws → Oc Bool
abbrev FA := Ev → Ws → Oc (List PyData)
inductive Os where
  | nx (ρ : Ev) (w : Ws)
  | rt (d : PyData) (w : Ws)
  | bk (ρ : Ev) (w : Ws)
  | ct (ρ : Ev) (w : Ws)
  | ex (ρ : Ev) (c : Value) (fs : List (Str × PyData)) (w : Ws)
  | no
abbrev FS := Ev → Ws → Os

/-- the frame's names -/
structure EnR (g : Gd) (σ : St) (ρ : Ev) : Prop where
  len : σ.length = ρ.length
  at_ : ∀ (i : Nat) (d : PyData), ρ[i]? = some (some d) → ∃ v, σ[i]? = some (some v) ∧ Dq g v d
theorem EnR.mono {g g' : Gd} (x : Xt0 g g') {σ : St} {ρ : Ev} (e : EnR g σ ρ) : EnR g' σ ρ :=
  ⟨e.len, fun i d h => let ⟨v, a, b⟩ := e.at_ i d h; ⟨v, a, b.mono x _ _⟩⟩
theorem EnR.set {g : Gd} {σ : St} {ρ : Ev} (e : EnR g σ ρ) {v : V} {d : PyData} (i : Nat) (h : Dq g v d) : EnR g (σ.set i (some v)) (ρ.set i (some d)) := by
  refine ⟨by rw [List.length_set, List.length_set]; exact e.len, fun j c hj => ?_⟩
  rw [List.getElem?_set] at hj ⊢
  by_cases q : i = j
  · subst q
    rw [if_pos rfl] at hj ⊢
    by_cases z : i < ρ.length
    · rw [if_pos z] at hj
      rw [if_pos (by rw [e.len]; exact z)]
      have := Option.some.inj (Option.some.inj hj)
      subst this
      exact ⟨v, rfl, h⟩
    · rw [if_neg z] at hj
      cases hj
  · rw [if_neg q] at hj ⊢
    exact e.at_ j c hj

/-- what is wanted of an exception: the fields of its own dict -/
def XdR (g : Gd) (H : Hp) (fs : List (Str × PyData)) : Option Addr → Prop
  | none => fs = []
  | some d => g.F d = none ∧ (∀ l, l < g.n → g.μ l ≠ d) ∧ ∃ gs, H d = some (.xd gs) ∧ KvR g gs fs

def oX {α β : Type} (W : WX) (σ : St) (R : Gd → β → α → Prop) (g : Gd) (Q : β → Hp → Prop) : Oc α → Prop
  | .ok d w => ∀ v H g', Xt g g' → Rp g' H w → R g' v d → Q v H
  | .ex c fs w => ∀ dd H g', Xt g g' → Rp g' H w → XdR g' H fs dd → W c dd σ H
  | .no => False
def lX {α β : Type} (K : PySem.W.Frag) (W : WX) (R : Gd → β → α → Prop) (f : Ev → Ws → Oc α) : St → Hp → (β → Hp → Prop) → Prop := fun σ H Q =>
  ∃ g ρ w, g.K = K ∧ Rp g H w ∧ EnR g σ ρ ∧ oX W σ R g Q (f ρ w)
abbrev lE (K : PySem.W.Frag) (W : WX) (f : FE) : TE := lX K W Dq f
abbrev lT (K : PySem.W.Frag) (W : WX) (f : FT) : TT := lX K W (fun _ (b c : Bool) => b = c) f
abbrev lA (K : PySem.W.Frag) (W : WX) (f : FA) : TA := lX K W DqA f

/-- the ground has grown: the wish stays -/
theorem oX.mono {α β : Type} {W : WX} {σ : St} {R : Gd → β → α → Prop} {g g' : Gd} {Q : β → Hp → Prop} (x : Xt g g') : ∀ {o : Oc α}, oX W σ R g Q o → oX W σ R g' Q o
  | .ok _ _, h => fun v H g2 y r q => h v H g2 (x.trans y) r q
  | .ex _ _ _, h => fun d H g2 y r q => h d H g2 (x.trans y) r q
  | .no, h => h

/-- a part first -/
theorem lX_bind {α β γ δ : Type} {W : WX} {R : Gd → β → α → Prop} {S : Gd → δ → γ → Prop} {f : Ev → Ws → Oc α} {k : α → Ws → Oc γ} {σ : St} {H : Hp} {g : Gd} {ρ : Ev} {w : Ws} {Q : δ → Hp → Prop} {T : β → Hp → Prop}
    {K : PySem.W.Frag} (hK : g.K = K) (r : Rp g H w) (e : EnR g σ ρ) (h : oX W σ S g Q ((f ρ w).bind k))
    (hT : ∀ v H1 g1 d w1, Xt g g1 → Rp g1 H1 w1 → EnR g1 σ ρ → R g1 v d → oX W σ S g1 Q (k d w1) → T v H1) : lX K W R f σ H T := by
  refine ⟨g, ρ, w, hK, r, e, ?_⟩
  cases q : f ρ w with
  | ok d w1 =>
    rw [q] at h
    exact fun v H1 g1 x r1 z => hT v H1 g1 d w1 x r1 (e.mono x) z (oX.mono x h)
  | ex c fs w1 =>
    rw [q] at h
    exact h
  | no =>
    rw [q] at h
    exact h

/-! ### weaker readings -/
theorem pe_imp {X : Cx} {e : Expr} {t t' : TE} (h : PE X e t) (i : ∀ σ H Q, t' σ H Q → t σ H Q) : PE X e t' := ⟨fun pins s σ H Q I q => h.run pins s σ H Q I (i σ H Q q)⟩
theorem pt_imp {X : Cx} {e : Expr} {t t' : TT} (h : PT X e t) (i : ∀ σ H Q, t' σ H Q → t σ H Q) : PT X e t' := ⟨fun pins s σ H Q I q => h.run pins s σ H Q I (i σ H Q q)⟩
theorem pw_imp {X : Cx} {e : Expr} {t t' : TT} (h : PW X e t) (i : ∀ σ H Q, t' σ H Q → t σ H Q) : PW X e t' := ⟨fun wh pins s σ H Q I q => h.run wh pins s σ H Q I (i σ H Q q)⟩
theorem pa_imp {X : Cx} {e : List Expr} {t t' : TA} (h : PA X e t) (i : ∀ σ H Q, t' σ H Q → t σ H Q) : PA X e t' := ⟨fun p pins s σ H Q I q => h.run p pins s σ H Q I (i σ H Q q)⟩
theorem ps_imp {X : Cx} {e : Stmt} {t t' : TS} (h : PS X e t) (i : ∀ D σ H, t' D σ H → t D σ H) : PS X e t' := ⟨fun pins s σ H D I q => h.run pins s σ H D I (i D σ H q)⟩
theorem pss_imp {X : Cx} {e : List Stmt} {t t' : TS} (h : PSs X e t) (i : ∀ D σ H, t' D σ H → t D σ H) : PSs X e t' := ⟨fun pins s σ H D I q => h.run pins s σ H D I (i D σ H q)⟩

end Td

set_option Elab.async false
set_option linter.all false
set_option maxRecDepth 100000
set_option maxHeartbeats 4000000
namespace Td
open PySem L2
abbrev PF (X : Cx) (W : WX) (e : Expr) (f : FE) : Prop := PE X e (lE X.K W f)
abbrev PTf (X : Cx) (W : WX) (e : Expr) (f : FT) : Prop := PT X e (lT X.K W f)
abbrev PWf (X : Cx) (W : WX) (e : Expr) (f : FT) : Prop := PW X e (lT X.K W f)
abbrev PAf (X : Cx) (W : WX) (es : List Expr) (f : FA) : Prop := PA X es (lA X.K W f)

section
variable {X : Cx} {W : WX}
/-! ### names, constants -/
def eV (i : Nat) : FE := fun ρ w => match ρ[i]? with
  | some (some d) => .ok d w
  | _ => .no
def eC (d : PyData) : FE := fun _ w => .ok d w
theorem lE_c {K : PySem.W.Frag} {v : V} {d : PyData} (h : ∀ g : Gd, Dq g v d) : ∀ σ H Q, lE K W (eC d) σ H Q → tC v σ H Q := fun σ H Q ⟨g, ρ, w, hK, r, e, q⟩ => q v H g (Xt.refl g) r (h g)
theorem pf_var (i : Nat) {x : Str} {pos : Pos} (hN : X.N[i]? = some x := by rfl) (hv : Vis X.env.scope x := by first | exact Or.inl rfl | exact Or.inr (Or.inl rfl) | exact Or.inr (Or.inr rfl)) (hd : (x == ("__debug__" : Str)) = false := by decide)
    (hcd : (x == ("__classdict__" : Str)) = false := by decide) : PF X W (.Name x pos) (eV i) := by
  refine pe_imp (pv i hN hv hd hcd) fun σ H Q ⟨g, ρ, w, hK, r, e, q⟩ => ?_
  unfold eV at q
  split at q
  · rename_i d hd'
    obtain ⟨v, hv', dv⟩ := e.at_ i d hd'
    exact ⟨v, hv', q v H g (Xt.refl g) r dv⟩
  · exact q.elim
theorem pf_int {i j pos} : PF X W (.Constant (.int i) j pos) (eC (.int i)) := pe_imp pe_int (lE_c fun _ => .int i)
theorem pf_bl {b j pos} : PF X W (.Constant (.bool b) j pos) (eC (.bool b)) := pe_imp pe_bl (lE_c fun _ => .bl b)
theorem pf_non {j pos} : PF X W (.Constant .none j pos) (eC .none) := pe_imp pe_non (lE_c fun _ => .non)
theorem pf_str {x j pos} : PF X W (.Constant (.str x) j pos) (eC (.str x)) := pe_imp pe_str (lE_c fun _ => .str _)
theorem pf_gint {x : Str} {i : Int} {t : Tok} {pos : Pos} (hg : Gl X x) (hm : X.mg x = some (.int i t)) (hd : (x == ("__debug__" : Str)) = false := by decide) : PF X W (.Name x pos) (eC (.int i)) := pe_imp (pe_glob hg hm (v := .int i) ⟨_, rfl⟩ hd) (lE_c fun _ => .int i)
theorem pf_gstr {x : Str} {z : Str} {t : Tok} {pos : Pos} (hg : Gl X x) (hm : X.mg x = some (.str z t)) (hd : (x == ("__debug__" : Str)) = false := by decide) : PF X W (.Name x pos) (eC (.str z)) := pe_imp (pe_glob hg hm (v := .str z) ⟨_, rfl⟩ hd) (lE_c fun _ => .str z)

/-! ### argument lists, displays -/
def aN : FA := fun _ w => .ok [] w
def aC (f : FE) (fr : FA) : FA := fun ρ w => (f ρ w).bind fun d w1 => (fr ρ w1).bind fun ds w2 => .ok (d :: ds) w2
theorem paf_nil : PAf X W [] aN := pa_imp pa_nil fun σ H Q ⟨g, ρ, w, hK, r, e, q⟩ => q [] H g (Xt.refl g) r .nil
theorem paf_cons {e : Expr} {es : List Expr} {f : FE} {fr : FA} (ha : PF X W e f) (hr : PAf X W es fr) (hs : starEach (e :: es) X.env = (false, eval e X.env) :: starEach es X.env := by rfl) : PAf X W (e :: es) (aC f fr) := by
  refine pa_imp (pa_cons ha hr hs) fun σ H Q ⟨g, ρ, w, hK, r, e, q⟩ => ?_
  refine lX_bind hK r e q fun v H1 g1 d w1 x r1 e1 dv z => ?_
  refine lX_bind (x.k.trans hK) r1 e1 z fun vs H2 g2 ds w2 x2 r2 e2 dvs z2 => ?_
  exact z2 _ H2 g2 (Xt.refl _) r2 (.cons (dv.mono x2 _ _) dvs)
def szOk (n : Nat) : Bool := decide (n ≤ sizeLine)
/-- only where a test holds -/
def Oc.on {α : Type} (b : Bool) (x : Oc α) : Oc α := cond b x .no
theorem oX.on {α β : Type} {σ : St} {R : Gd → β → α → Prop} {g : Gd} {Q : β → Hp → Prop} {b : Bool} {x : Oc α} (h : oX W σ R g Q (Oc.on b x)) : b = true ∧ oX W σ R g Q x := by
  cases b with
  | true => exact ⟨rfl, h⟩
  | false => exact h.elim
def eTup (fa : FA) : FE := fun ρ w => (fa ρ w).bind fun ds w1 => Oc.on (szOk ds.length) (.ok (.tuple ds) w1)
def eLst (fa : FA) : FE := fun ρ w => (fa ρ w).bind fun ds w1 => Oc.on (szOk ds.length) (.ok (.list ds) w1)
theorem newT {g : Gd} {H : Hp} {w : Ws} {vs : List V} {ds : List PyData} (r : Rp g H w) {p : Addr} (hp : H p = none) (d : DqA g vs ds) : Dq (g.put p (.tup vs)) (.ref p) (.tuple ds) :=
  .tup (SqT.of upd_same) (d.mono (Xt.put (r.fnone hp)).toXt0 _ _)
theorem newL {g : Gd} {H : Hp} {w : Ws} {vs : List V} {ds : List PyData} (r : Rp g H w) {p : Addr} (hp : H p = none) (d : DqA g vs ds) : Dq (g.put p (.lst vs)) (.ref p) (.list ds) :=
  .lst (SqL.of upd_same) (d.mono (Xt.put (r.fnone hp)).toXt0 _ _)
theorem pf_tup {es : List Expr} {fa : FA} {x1} {pos : Pos} (h : PAf X W es fa) : PF X W (.Tuple es x1 pos) (eTup fa) := by
  refine pe_imp (pe_tup h) fun σ H Q ⟨g, ρ, w, hK, r, e, q⟩ => ?_
  refine lX_bind hK r e q fun vs H1 g1 ds w1 x r1 e1 d z => ?_
  obtain ⟨hb, z⟩ := z.on
  refine ⟨by rw [d.length]; exact of_decide_eq_true hb, fun p hp => ?_⟩
  exact z _ _ _ (Xt.put (r1.fnone hp)) (r1.put hp) (newT r1 hp d)
theorem pf_lst {es : List Expr} {fa : FA} {pos : Pos} (h : PAf X W es fa) : PF X W (.List es pos) (eLst fa) := by
  refine pe_imp (pe_lst h) fun σ H Q ⟨g, ρ, w, hK, r, e, q⟩ => ?_
  refine lX_bind hK r e q fun vs H1 g1 ds w1 x r1 e1 d z => ?_
  obtain ⟨hb, z⟩ := z.on
  refine ⟨by rw [d.length]; exact of_decide_eq_true hb, fun p hp => ?_⟩
  exact z _ _ _ (Xt.put (r1.fnone hp)) (r1.put hp) (newL r1 hp d)

/-! ### data to Dp -/
mutual
theorem Dq.dp {g : Gd} {H : Hp} (hf : ∀ a o, g.F a = some o → H a = some o) : ∀ (d : PyData) (v : V), d.canLay0 = true → Dq g v d → Dp g.K H v d
  | .none, _, _, h => by cases h; exact .non
  | .bool _, _, _, h => by cases h; exact .bl _
  | .int _, _, _, h => by cases h; exact .int _
  | .str _, _, _, h => by cases h; exact .str _
  | .list ds, _, c, h => by
    cases h with
    | lst a b => exact .lst (by rcases a with (a | ⟨o, a⟩) | a; exact .inl (.inl (hf _ _ a)); exact .inl (.inr ⟨o, hf _ _ a⟩); exact .inr a) (DqA.dp hf ds _ (by simpa [PyData.canLay0] using c) b)
  | .tuple ds, _, c, h => by
    cases h with
    | tup a b => exact .tup (by rcases a with (a | ⟨o, a⟩) | a; exact .inl (.inl (hf _ _ a)); exact .inl (.inr ⟨o, hf _ _ a⟩); exact .inr a) (DqA.dp hf ds _ (by simpa [PyData.canLay0] using c) b)
  | .dict _, _, c, h => by simp [PyData.canLay0] at c
theorem DqA.dp {g : Gd} {H : Hp} (hf : ∀ a o, g.F a = some o → H a = some o) : ∀ (ds : List PyData) (vs : List V), PyData.canLayAll0 ds = true → DqA g vs ds → DpAll g.K H vs ds
  | [], _, _, h => by cases h; exact .nil
  | d :: ds, _, c, h => by
    have c' : d.canLay0 = true ∧ PyData.canLayAll0 ds = true := by simpa [PyData.canLayAll0] using c
    cases h with
    | cons a b => exact .cons (Dq.dp hf d _ c'.1 a) (DqA.dp hf ds _ c'.2 b)
end
theorem Rp.sqL {g : Gd} {H : Hp} {w : Ws} (r : Rp g H w) {a : Addr} {xs : List V} (h : SqL g.K g.F a xs) : SqL g.K H a xs := by
  rcases h with (a | ⟨o, a⟩) | a
  · exact .inl (.inl (r.fro _ _ a))
  · exact .inl (.inr ⟨o, r.fro _ _ a⟩)
  · exact .inr a
theorem Rp.sqT {g : Gd} {H : Hp} {w : Ws} (r : Rp g H w) {a : Addr} {xs : List V} (h : SqT g.K g.F a xs) : SqT g.K H a xs := by
  rcases h with (a | ⟨o, a⟩) | a
  · exact .inl (.inl (r.fro _ _ a))
  · exact .inl (.inr ⟨o, r.fro _ _ a⟩)
  · exact .inr a

/-! ### operations on data -/
def rD2 (K : PySem.W.Frag) (f : Ws → PyData → PyData → Option PyData) : R2 := fun x y H Q =>
  ∃ g w d e z, g.K = K ∧ Rp g H w ∧ Dq g x d ∧ Dq g y e ∧ f w d e = some z ∧ ∀ v H' g', Xt g g' → Rp g' H' w → Dq g' v z → Q v H'
def Oc.of {α : Type} (o : Option α) (w : Ws) : Oc α := match o with
  | some a => .ok a w
  | none => .no
def eB (f : Ws → PyData → PyData → Option PyData) (fa fb : FE) : FE := fun ρ w => (fa ρ w).bind fun d w1 => (fb ρ w1).bind fun e w2 => Oc.of (f w2 d e) w2
theorem tOp_of {f : Ws → PyData → PyData → Option PyData} {fa fb : FE} {K : PySem.W.Frag} : ∀ σ H Q, lE K W (eB f fa fb) σ H Q → tOp (rD2 K f) (lE K W fa) (lE K W fb) σ H Q := fun σ H Q ⟨g, ρ, w, hK, r, e, q⟩ => by
  refine lX_bind hK r e q fun v H1 g1 d w1 x r1 e1 dv z => ?_
  refine lX_bind (x.k.trans hK) r1 e1 z fun u H2 g2 c w2 x2 r2 e2 du z2 => ?_
  cases hz : f w2 d c with
  | none => rw [hz] at z2; exact z2.elim
  | some y =>
    rw [hz] at z2
    exact ⟨g2, w2, d, c, y, x2.k.trans (x.k.trans hK), r2, dv.mono x2 _ _, du, hz, fun v' H' g' x' r' d' => z2 v' H' g' x' r' d'⟩
theorem pf_bin {op : Operator} {f : Ws → PyData → PyData → Option PyData} {a b : Expr} {fa fb : FE} {pos : Pos} (ho : OpR X (binaryOp op) (rD2 X.K f)) (ha : PF X W a fa) (hb : PF X W b fb) : PF X W (.BinOp a op b pos) (eB f fa fb) :=
  pe_imp (pe_op ho ha hb) tOp_of
theorem pf_cmp {op : CmpOp} {f : Ws → PyData → PyData → Option PyData} {a b : Expr} {fa fb : FE} {pos : Pos} (ho : OpR X (compareOp op) (rD2 X.K f)) (ha : PF X W a fa) (hb : PF X W b fb) (hm : behindInMarks op b = false := by first | exact nomark _ | rfl) : PF X W (.Compare a [op] [b] pos) (eB f fa fb) :=
  pe_imp (pe_cmpR ho ha hb hm) tOp_of
/-- a test whose value is True or False -/
def tB' (f : FE) : FT := fun ρ w => (f ρ w).bind fun d w1 => match d with
  | .bool b => .ok b w1
  | _ => .no
theorem tTest_of {f : FE} {K : PySem.W.Frag} {t : TE} (ht : ∀ σ H Q, lE K W f σ H Q → t σ H Q) : ∀ σ H Q, lT K W (tB' f) σ H Q → t σ H (fun z H3 => ∃ k, z = V.bl k ∧ Q k H3) := fun σ H Q ⟨g, ρ, w, hK, r, e, q⟩ => by
  refine ht σ H _ (lX_bind hK r e q fun v H1 g1 d w1 x r1 e1 dv z => ?_)
  cases dv with
  | bl b => exact ⟨b, rfl, z b H1 g1 (Xt.refl _) r1 rfl⟩
  | non => exact z.elim
  | int => exact z.elim
  | str => exact z.elim
  | lst => exact z.elim
  | tup => exact z.elim
  | ref => exact z.elim
theorem ptf_cmp {op : CmpOp} {f : Ws → PyData → PyData → Option PyData} {a b : Expr} {fa fb : FE} {pos : Pos} (ho : OpR X (compareOp op) (rD2 X.K f)) (ha : PF X W a fa) (hb : PF X W b fb) (hm : behindInMarks op b = false := by first | exact nomark _ | rfl) : PTf X W (.Compare a [op] [b] pos) (tB' (eB f fa fb)) :=
  pt_imp (pt_cmpR ho ha hb hm) (tTest_of tOp_of)
/-- a op b op' c -/
def eCh (f f' : Ws → PyData → PyData → Option PyData) (fa fb fc : FE) : FE := fun ρ w => (fa ρ w).bind fun d w1 => (fb ρ w1).bind fun e w2 => match f w2 d e with
  | some (.bool true) => (fc ρ w2).bind fun c w3 => Oc.of (f' w3 e c) w3
  | some (.bool false) => .ok (.bool false) w2
  | _ => .no
theorem tChain_of {f f' : Ws → PyData → PyData → Option PyData} {fa fb fc : FE} {K : PySem.W.Frag} : ∀ σ H Q, lE K W (eCh f f' fa fb fc) σ H Q → tChain (rD2 K f) (rD2 K f') (lE K W fa) (lE K W fb) (lE K W fc) σ H Q := fun σ H Q ⟨g, ρ, w, hK, r, e, q⟩ => by
  refine lX_bind hK r e q fun v H1 g1 d w1 x r1 e1 dv z => ?_
  refine lX_bind (x.k.trans hK) r1 e1 z fun u H2 g2 c w2 x2 r2 e2 du z2 => ?_
  have hK2 := x2.k.trans (x.k.trans hK)
  split at z2
  · rename_i hz
    refine ⟨g2, w2, d, c, _, hK2, r2, dv.mono x2 _ _, du, hz, fun v' H' g' x' r' d' => ?_⟩
    cases d'
    refine ⟨true, rfl, ?_⟩
    rw [if_pos rfl]
    refine lX_bind (x'.k.trans hK2) r' (e2.mono x') (oX.mono x' z2) fun u3 H3 g3 c3 w3 x3 r3 e3 d3 z3 => ?_
    cases hz3 : f' w3 c c3 with
    | none => rw [hz3] at z3; exact z3.elim
    | some y =>
      rw [hz3] at z3
      exact ⟨g3, w3, c, c3, y, x3.k.trans (x'.k.trans hK2), r3, du.mono (x'.trans x3) _ _, d3, hz3, fun v' H' g' x' r' d' => z3 v' H' g' x' r' d'⟩
  · rename_i hz
    refine ⟨g2, w2, d, c, _, hK2, r2, dv.mono x2 _ _, du, hz, fun v' H' g' x' r' d' => ?_⟩
    cases d'
    refine ⟨false, rfl, ?_⟩
    rw [if_neg Bool.false_ne_true]
    exact z2 _ _ _ x' r' (.bl _)
  · exact z2.elim
theorem pf_chain {op op' : CmpOp} {f f' : Ws → PyData → PyData → Option PyData} {a b c : Expr} {fa fb fc : FE} {pos : Pos} (ho : OpR X (compareOp op) (rD2 X.K f)) (ho' : OpR X (compareOp op') (rD2 X.K f')) (ha : PF X W a fa) (hb : PF X W b fb) (hc : PF X W c fc)
    (hm : lastMarks [op, op'] [b, c] = false := by with_unfolding_all rfl) : PF X W (.Compare a [op, op'] [b, c] pos) (eCh f f' fa fb fc) := pe_imp (pe_chain ho ho' ha hb hc hm) tChain_of
theorem ptf_chain {op op' : CmpOp} {f f' : Ws → PyData → PyData → Option PyData} {a b c : Expr} {fa fb fc : FE} {pos : Pos} (ho : OpR X (compareOp op) (rD2 X.K f)) (ho' : OpR X (compareOp op') (rD2 X.K f')) (ha : PF X W a fa) (hb : PF X W b fb) (hc : PF X W c fc)
    (hm : lastMarks [op, op'] [b, c] = false := by with_unfolding_all rfl) : PTf X W (.Compare a [op, op'] [b, c] pos) (tB' (eCh f f' fa fb fc)) := pt_imp (pt_chain ho ho' ha hb hc hm) (tTest_of tChain_of)

/-! ### and, or, not, if .. else -/
def tAn (t u : FT) : FT := fun ρ w => (t ρ w).bind fun b w1 => cond b (u ρ w1) (.ok false w1)
def tOr' (t u : FT) : FT := fun ρ w => (t ρ w).bind fun b w1 => cond b (.ok true w1) (u ρ w1)
def tNo (t : FT) : FT := fun ρ w => (t ρ w).bind fun b w1 => .ok (!b) w1
theorem pwf_and1 {a : Expr} {pos : Pos} {t : FT} (ha : PTf X W a t) : PWf X W (.BoolOp .And [a] pos) t := pw_and1 ha
theorem pwf_or1 {a : Expr} {pos : Pos} {t : FT} (ha : PTf X W a t) : PWf X W (.BoolOp .Or [a] pos) t := pw_or1 ha
theorem pwf_and {a b : Expr} {rest : List Expr} {pos : Pos} {t u : FT} (ha : PTf X W a t) (hb : PWf X W (.BoolOp .And (b :: rest) pos) u) : PWf X W (.BoolOp .And (a :: b :: rest) pos) (tAn t u) := by
  refine pw_imp (pw_and ha hb) fun σ H Q ⟨g, ρ, w, hK, r, e, q⟩ => ?_
  refine lX_bind hK r e q fun v H1 g1 d w1 x r1 e1 dv z => ?_
  subst dv
  cases v with
  | true => exact iteT ⟨g1, ρ, w1, x.k.trans hK, r1, e1, z⟩
  | false => exact iteF (z _ _ _ (Xt.refl _) r1 rfl)
theorem pwf_or {a b : Expr} {rest : List Expr} {pos : Pos} {t u : FT} (ha : PTf X W a t) (hb : PWf X W (.BoolOp .Or (b :: rest) pos) u) : PWf X W (.BoolOp .Or (a :: b :: rest) pos) (tOr' t u) := by
  refine pw_imp (pw_or ha hb) fun σ H Q ⟨g, ρ, w, hK, r, e, q⟩ => ?_
  refine lX_bind hK r e q fun v H1 g1 d w1 x r1 e1 dv z => ?_
  subst dv
  cases v with
  | true => exact iteT (z _ _ _ (Xt.refl _) r1 rfl)
  | false => exact iteF ⟨g1, ρ, w1, x.k.trans hK, r1, e1, z⟩
theorem ptf_w {e : Expr} {t : FT} (h : PWf X W e t) : PTf X W e t := h.pt
theorem ptf_not {a : Expr} {pos : Pos} {t : FT} (ha : PTf X W a t) : PTf X W (.UnaryOp .Not a pos) (tNo t) := by
  refine pt_imp (pt_not ha) fun σ H Q ⟨g, ρ, w, hK, r, e, q⟩ => ?_
  refine lX_bind hK r e q fun v H1 g1 d w1 x r1 e1 dv z => ?_
  subst dv
  exact z _ _ _ (Xt.refl _) r1 rfl
/-- as values: all but the last are True or False -/
def eAn (f k : FE) : FE := fun ρ w => (f ρ w).bind fun d w1 => match d with
  | .bool true => k ρ w1
  | .bool false => .ok (.bool false) w1
  | _ => .no
def eOr (f k : FE) : FE := fun ρ w => (f ρ w).bind fun d w1 => match d with
  | .bool true => .ok (.bool true) w1
  | .bool false => k ρ w1
  | _ => .no
def eNo (f : FE) : FE := fun ρ w => (f ρ w).bind fun d w1 => match d with
  | .bool b => .ok (.bool (!b)) w1
  | _ => .no
theorem pf_one {op a pos} {f : FE} (h : PF X W a f) : PF X W (.BoolOp op [a] pos) f := pe_one h
theorem pf_and {a b : Expr} {rest : List Expr} {pos : Pos} {f k : FE} (ha : PF X W a f) (hb : PF X W (.BoolOp .And (b :: rest) pos) k) : PF X W (.BoolOp .And (a :: b :: rest) pos) (eAn f k) := by
  refine pe_imp (pe_and ha hb) fun σ H Q ⟨g, ρ, w, hK, r, e, q⟩ => ?_
  refine lX_bind hK r e q fun v H1 g1 d w1 x r1 e1 dv z => ?_
  cases dv with
  | bl b =>
    refine ⟨b, rfl, ?_⟩
    cases b with
    | true => exact iteT ⟨g1, ρ, w1, x.k.trans hK, r1, e1, z⟩
    | false => exact iteF (z _ _ _ (Xt.refl _) r1 (.bl _))
  | _ => exact z.elim
theorem pf_or {a b : Expr} {rest : List Expr} {pos : Pos} {f k : FE} (ha : PF X W a f) (hb : PF X W (.BoolOp .Or (b :: rest) pos) k) : PF X W (.BoolOp .Or (a :: b :: rest) pos) (eOr f k) := by
  refine pe_imp (pe_or ha hb) fun σ H Q ⟨g, ρ, w, hK, r, e, q⟩ => ?_
  refine lX_bind hK r e q fun v H1 g1 d w1 x r1 e1 dv z => ?_
  cases dv with
  | bl b =>
    refine ⟨b, rfl, ?_⟩
    cases b with
    | true => exact iteT (z _ _ _ (Xt.refl _) r1 (.bl _))
    | false => exact iteF ⟨g1, ρ, w1, x.k.trans hK, r1, e1, z⟩
  | _ => exact z.elim
theorem pf_not {a : Expr} {pos : Pos} {f : FE} (ha : PF X W a f) : PF X W (.UnaryOp .Not a pos) (eNo f) := by
  refine pe_imp (pe_not ha) fun σ H Q ⟨g, ρ, w, hK, r, e, q⟩ => ?_
  refine lX_bind hK r e q fun v H1 g1 d w1 x r1 e1 dv z => ?_
  cases dv with
  | bl b => exact ⟨b, rfl, z _ _ _ (Xt.refl _) r1 (.bl _)⟩
  | _ => exact z.elim
def eIf (t : FT) (f k : FE) : FE := fun ρ w => (t ρ w).bind fun b w1 => cond b (f ρ w1) (k ρ w1)
theorem pf_ifx {c a b : Expr} {pos : Pos} {t : FT} {f k : FE} (hc : PTf X W c t) (ha : PF X W a f) (hb : PF X W b k) : PF X W (.IfExp c a b pos) (eIf t f k) := by
  refine pe_imp (pe_ifExp hc ha hb) fun σ H Q ⟨g, ρ, w, hK, r, e, q⟩ => ?_
  refine lX_bind hK r e q fun v H1 g1 d w1 x r1 e1 dv z => ?_
  subst dv
  cases v with
  | true => exact iteT ⟨g1, ρ, w1, x.k.trans hK, r1, e1, z⟩
  | false => exact iteF ⟨g1, ρ, w1, x.k.trans hK, r1, e1, z⟩

/-! ### what stands in the store -/
def lstOf (w : Ws) : PyData → Option (List PyData)
  | .list ds => some ds
  | .dict [(.int l, .none)] => match w[l.toNat]? with
    | some (.lst xs) => some xs
    | _ => none
  | _ => none
def dkOf (w : Ws) : PyData → Option (List (Key × PyData))
  | .dict [(.int l, .none)] => match w[l.toNat]? with
    | some (.dK xs) => some xs
    | _ => none
  | _ => none
theorem lstOf_ok {g : Gd} {H : Hp} {w : Ws} (r : Rp g H w) {v : V} {d : PyData} (h : Dq g v d) {ds : List PyData} (e : lstOf w d = some ds) : ∃ a xs, v = .ref a ∧ SqL g.K H a xs ∧ DqA g xs ds := by
  cases h with
  | lst a da => cases e; exact ⟨_, _, rfl, r.sqL a, da⟩
  | @ref l hl =>
    simp only [lstOf, Int.toNat_natCast] at e
    split at e
    · rename_i xs hx
      cases e
      obtain ⟨_, ys, hy, dy⟩ := r.cell _ _ hx
      exact ⟨_, ys, rfl, SqL.of hy, dy⟩
    · cases e
  | _ => cases e
theorem dkOf_ok {g : Gd} {H : Hp} {w : Ws} (r : Rp g H w) {v : V} {d : PyData} (h : Dq g v d) {ds : List (Key × PyData)} (e : dkOf w d = some ds) : ∃ l xs, v = .ref (g.μ l) ∧ d = rf l ∧ w[l]? = some (.dK ds) ∧ g.F (g.μ l) = none ∧ H (g.μ l) = some (.dK xs) ∧ KvR g xs ds := by
  cases h with
  | @ref l hl =>
    simp only [dkOf, Int.toNat_natCast] at e
    split at e
    · rename_i xs hx
      cases e
      obtain ⟨hn, ys, hy, dy⟩ := r.cell _ _ hx
      exact ⟨l, ys, rfl, rfl, hx, hn, hy, dy⟩
    · cases e
  | _ => cases e

/-! ### truth -/
def truD : PyData → Ws → Option Bool
  | .none, _ => some false
  | .bool b, _ => some b
  | .int i, _ => some (i != 0)
  | .str y, _ => if szOk y.length then some ((y.length : Int) != 0) else none
  | .list xs, _ => some (!xs.isEmpty)
  | .tuple xs, _ => some (!xs.isEmpty)
  | .dict [(.int l, .none)], w => match w[l.toNat]? with
    | some (.lst xs) => some (!xs.isEmpty)
    | some (.dK xs) => some (!xs.isEmpty)
    | _ => none
  | .dict _, _ => none
def tTr (f : FE) : FT := fun ρ w => (f ρ w).bind fun d w1 => Oc.of (truD d w1) w1
theorem DqA.isEmpty {g : Gd} {xs : List V} {ds : List PyData} (h : DqA g xs ds) : ds.isEmpty = xs.isEmpty := by cases h <;> rfl
theorem KvR.isEmpty {κ : Type} {g : Gd} {xs : List (κ × V)} {ds : List (κ × PyData)} (h : KvR g xs ds) : ds.isEmpty = xs.isEmpty := by cases h <;> rfl
theorem truD_ok {g : Gd} {H : Hp} {w : Ws} (r : Rp g H w) {v : V} {d : PyData} (h : Dq g v d) {b : Bool} (e : truD d w = some b) : TruV g.K v H b := by
  cases h with
  | non => exact (Option.some.inj e).symm
  | bl => exact (Option.some.inj e).symm
  | int => exact (Option.some.inj e).symm
  | str =>
    simp only [truD] at e
    split at e
    · rename_i hz
      exact ⟨of_decide_eq_true hz, (Option.some.inj e).symm⟩
    · cases e
  | lst a da => exact .inl ⟨_, r.sqL a, by rw [← da.isEmpty]; exact (Option.some.inj e).symm⟩
  | tup a da => exact .inr (.inl ⟨_, r.sqT a, by rw [← da.isEmpty]; exact (Option.some.inj e).symm⟩)
  | @ref l hl =>
    simp only [truD, Int.toNat_natCast] at e
    split at e
    · rename_i xs hx
      obtain ⟨_, ys, hy, dy⟩ := r.cell _ _ hx
      exact .inl ⟨_, SqL.of hy, by rw [← dy.isEmpty]; exact (Option.some.inj e).symm⟩
    · rename_i xs hx
      obtain ⟨_, ys, hy, dy⟩ := r.cell _ _ hx
      exact .inr (.inr ⟨_, hy, by rw [← dy.isEmpty]; exact (Option.some.inj e).symm⟩)
    · cases e
theorem ptf_tru {a : Expr} {f : FE} (ha : PF X W a f) (he : ∀ whole, isTrue a X.env whole = (do let v ← whole; standAt a.pos; holding [v] (truthy v)) := by intro _; rfl) : PTf X W a (tTr f) := by
  refine pt_imp (pt_truth ha he) fun σ H Q ⟨g, ρ, w, hK, r, e, q⟩ => ?_
  refine lX_bind hK r e q fun v H1 g1 d w1 x r1 e1 dv z => ?_
  cases hz : truD d w1 with
  | none => rw [hz] at z; exact z.elim
  | some b =>
    rw [hz] at z
    refine ⟨b, ?_, z _ _ _ (Xt.refl _) r1 rfl⟩
    rw [← hK, ← x.k]
    exact truD_ok r1 dv hz
end
end Td

set_option Elab.async false
set_option linter.all false
set_option maxRecDepth 100000
set_option maxHeartbeats 4000000
namespace Td
open PySem L2
section
variable {X : Cx} {W : WX}
/-! ### lists that stand anywhere: + -/
theorem cat_lists {pins : List (Addr × Obj)} {s : Shared} {σ : St} {H : Hp} {a b : Addr} {xs ys : List V} {Q : VK} (I : Inv X pins σ H s) (ha : SqL X.K H a xs) (hb : SqL X.K H b ys) (hz : xs.length + ys.length ≤ sizeLine)
    (q : ∀ p, H p = none → Q (.ref p) (upd H p (.lst (xs ++ ys)))) : wpAny (model X.prog X.w) X.A (binaryOp .Add (.ref a) (.ref b)) (EP X pins σ Q) X.xe s := by
  obtain ⟨us, r1, ⟨⟨c1, d1, t1, s1⟩, n1, g1, hc1, hd1, ht1⟩, z1⟩ := I.list ha
  obtain ⟨vs, r2, ⟨⟨c2, d2, t2, s2⟩, n2, g2, hc2, hd2, ht2⟩, z2⟩ := I.list hb
  simp only at hc1 hd1 ht1 hc2 hd2 ht2
  subst hc1 hd1 ht1 hc2 hd2 ht2
  have l1 := r1.length
  have l2 := r2.length
  have hs : us.toArray.size + vs.toArray.size ≤ sizeLine := by rw [List.size_toArray, List.size_toArray, ← l1, ← l2]; exact hz
  refine PySem.concat_meets ⟨_, g1, rfl⟩ ⟨_, g2, rfl⟩ PySem.noFill_list_add PySem.seq_list_add PySem.F.slot_list_add PySem.F.entry_list_add (PySem.F.args_list_add_2 _ _)
    (PyProof.Rows.list_addW a b us.toArray vs.toArray n1 n2 none none s1 s2 hs) ⟨g1, g2, ?_⟩
  have ea : us.toArray ++ vs.toArray = (us ++ vs).toArray := by simp
  rw [ea]
  exact ⟨.ref _, _, I.lnew (t' := s.toks) (r1.append r2) (by rw [List.length_append]; exact hz), rfl, q _ I.fresh⟩

/-! ### + -/
def b01 (b : Bool) : Int := if b = true then (1 : Int) else 0
def addD (w : Ws) : PyData → PyData → Option PyData
  | .int i, .int j => some (.int (i + j))
  | .bool b, .int j => some (.int (b01 b + j))
  | .str a, .str b => if szOk (a.length + b.length) then some (.str (a ++ b)) else none
  | .tuple a, .tuple b => if szOk (a.length + b.length) then some (.tuple (a ++ b)) else none
  | d, e => match lstOf w d, lstOf w e with
    | some a, some b => if szOk (a.length + b.length) then some (.list (a ++ b)) else none
    | _, _ => none
theorem add_lst {pins : List (Addr × Obj)} {s : Shared} {σ : St} {H : Hp} {x y : V} {v u : Value} {Q : VK} {g : Gd} {w : Ws} {d e z : PyData} (I : Inv X pins σ H s) (rx : RelV x v) (ry : RelV y u) (hK : g.K = X.K) (r : Rp g H w) (dx : Dq g x d) (dy : Dq g y e)
    (hz : (match lstOf w d, lstOf w e with
    | some a, some b => if szOk (a.length + b.length) then some (PyData.list (a ++ b)) else none
    | _, _ => none) = some z) (q : ∀ v H' g', Xt g g' → Rp g' H' w → Dq g' v z → Q v H') : wpAny (model X.prog X.w) X.A (binaryOp .Add v u) (EP X pins σ Q) X.xe s := by
  split at hz
  · rename_i a b ha hb
    split at hz
    · rename_i hs
      cases hz
      obtain ⟨p1, xs, rfl, s1, d1⟩ := lstOf_ok r dx ha
      obtain ⟨p2, ys, rfl, s2, d2⟩ := lstOf_ok r dy hb
      cases rx
      cases ry
      refine cat_lists I (by rw [← hK]; exact s1) (by rw [← hK]; exact s2) (by rw [d1.length, d2.length]; exact of_decide_eq_true hs) fun p hp => ?_
      exact q _ _ _ (Xt.put (r.fnone hp)) (r.put hp) (newL r hp (d1.append d2))
    · cases hz
  · cases hz
theorem op_addD : OpR X (binaryOp .Add) (rD2 X.K addD) := by
  intro pins s σ H x y v u Q I rx ry ⟨g, w, d, e, z, hK, r, dx, dy, hz, q⟩
  unfold addD at hz
  split at hz
  · cases hz; cases dx; cases dy
    exact op_add pins s σ H _ _ v u Q I rx ry ⟨_, _, rfl, rfl, q _ H g (Xt.refl g) r (.int _)⟩
  · cases hz; cases dx; cases dy
    cases rx
    obtain ⟨t, rfl⟩ := ry
    exact PySem.IntBool.add_bool_int ⟨.int _, H, I.tok _, ⟨_, rfl⟩, q _ H g (Xt.refl g) r (.int _)⟩
  · cases dx; cases dy
    split at hz
    · rename_i hs
      cases hz
      exact op_add_str pins s σ H _ _ v u Q I rx ry ⟨_, _, rfl, rfl, of_decide_eq_true hs, q _ H g (Xt.refl g) r (.str _)⟩
    · cases hz
  · cases dx
    cases dy
    rename_i a1 b1 s1 d1 a2 b2 s2 d2
    split at hz
    · rename_i hs
      cases hz
      refine op_catA pins s σ H _ _ v u Q I rx ry ⟨_, _, _, _, rfl, rfl, by rw [← hK]; exact r.sqT s1, by rw [← hK]; exact r.sqT s2, by rw [d1.length, d2.length]; exact of_decide_eq_true hs, fun e0 => ?_, fun _ e0 => ?_, fun _ _ p hp => ?_⟩
      · subst e0
        cases d1
        exact q _ H g (Xt.refl g) r (.tup s2 d2)
      · subst e0
        cases d2
        rw [List.append_nil] at q
        exact q _ H g (Xt.refl g) r (.tup s1 d1)
      · exact q _ _ _ (Xt.put (r.fnone hp)) (r.put hp) (newT r hp (d1.append d2))
    · cases hz
  · exact add_lst I rx ry hK r dx dy hz q

/-! ### ints -/
def intD (c : Int → Int → Bool) (f : Int → Int → Int) (_ : Ws) : PyData → PyData → Option PyData
  | .int i, .int j => if c i j then some (.int (f i j)) else none
  | _, _ => none
theorem op_intD {fn : Value → Value → Sem Value} {c : Int → Int → Bool} {C : Int → Int → Prop} {f : Int → Int → Int} (h : OpR X fn (rI C fun i j => .int (f i j))) (hc : ∀ i j, c i j = true → C i j) : OpR X fn (rD2 X.K (intD c f)) := by
  intro pins s σ H x y v u Q I rx ry ⟨g, w, d, e, z, hK, r, dx, dy, hz, q⟩
  unfold intD at hz
  split at hz
  · cases dx; cases dy
    split at hz
    · rename_i hs
      cases hz
      exact h pins s σ H _ _ v u Q I rx ry ⟨_, _, rfl, rfl, hc _ _ hs, q _ H g (Xt.refl g) r (.int _)⟩
    · cases hz
  · cases hz
def cY : Int → Int → Bool := fun _ _ => true
def subD (_ : Ws) : PyData → PyData → Option PyData
  | .int i, .int j => some (.int (i - j))
  | .bool b, .int j => some (.int (b01 b - j))
  | _, _ => none
theorem op_subD : OpR X (binaryOp .Sub) (rD2 X.K subD) := by
  intro pins s σ H x y v u Q I rx ry ⟨g, w, d, e, z, hK, r, dx, dy, hz, q⟩
  unfold subD at hz
  split at hz
  · cases hz; cases dx; cases dy
    exact op_sub pins s σ H _ _ v u Q I rx ry ⟨_, _, rfl, rfl, q _ H g (Xt.refl g) r (.int _)⟩
  · cases hz; cases dx; cases dy
    cases rx
    obtain ⟨t, rfl⟩ := ry
    exact PySem.IntBool.sub_bool_int ⟨.int _, H, I.tok _, ⟨_, rfl⟩, q _ H g (Xt.refl g) r (.int _)⟩
  · cases hz
def cDv : Int → Int → Bool := fun _ j => decide (j ≠ 0) && decide (j.natAbs < 1073741824)
abbrev fdvD := intD cDv Int.fdiv
theorem op_fdvD : OpR X (binaryOp .FloorDiv) (rD2 X.K fdvD) := op_intD op_fdivN fun i j h => show _ ∧ _ from by
  unfold cDv at h
  rw [Bool.and_eq_true] at h
  exact ⟨of_decide_eq_true h.1, of_decide_eq_true h.2⟩
def cNz : Int → Int → Bool := fun _ j => decide (j ≠ 0)
abbrev modD := intD cNz Int.fmod
theorem op_modD : OpR X (binaryOp .Mod) (rD2 X.K modD) := op_intD op_modN fun i j h => show j ≠ 0 from by unfold cNz at h; exact of_decide_eq_true h
def cPw : Int → Int → Bool := fun i j => decide (0 ≤ j) && decide (j ≤ 1000000) && decide (i.natAbs < 2 ^ 64)
abbrev powD := intD cPw (fun i j => i ^ j.toNat)
theorem op_powD : OpR X (binaryOp .Pow) (rD2 X.K powD) := op_intD op_pow fun i j h => show _ ∧ _ ∧ _ from by
  unfold cPw at h
  rw [Bool.and_eq_true, Bool.and_eq_true] at h
  exact ⟨of_decide_eq_true h.1.1, of_decide_eq_true h.1.2, of_decide_eq_true h.2⟩

/-! ### * -/
def cMl (i j : Int) : Bool := decide (i.natAbs < 2 ^ 64) || decide (j.natAbs < 2 ^ 64)
def cMs (n : Nat) (k : Int) : Bool := decide (2 ≤ k ∧ k ≤ 10000 ∧ 1 ≤ n ∧ n ≤ 1000)
def cMt (n : Nat) (k : Int) : Bool := decide (2 ≤ k ∧ k ≤ 1000 ∧ 1 ≤ n ∧ n ≤ 1000)
def mulD (_ : Ws) : PyData → PyData → Option PyData
  | .int i, .int j => if cMl i j then some (.int (i * j)) else none
  | .str a, .int k => if cMs a.length k then some (.str (PySem.Txt.mul a k)) else none
  | .tuple a, .int k => if cMt a.length k then some (.tuple (List.replicate k.toNat a).flatten) else none
  | _, _ => none
theorem DqA.rep {g : Gd} {vs : List V} {ds : List PyData} (h : DqA g vs ds) : ∀ n, DqA g (List.replicate n vs).flatten (List.replicate n ds).flatten
  | 0 => .nil
  | n + 1 => by
    rw [List.replicate_succ, List.replicate_succ, List.flatten_cons, List.flatten_cons]
    exact h.append (DqA.rep h n)
theorem op_mulD : OpR X (binaryOp .Mult) (rD2 X.K mulD) := by
  intro pins s σ H x y v u Q I rx ry ⟨g, w, d, e, z, hK, r, dx, dy, hz, q⟩
  unfold mulD at hz
  split at hz
  · cases dx; cases dy
    split at hz
    · rename_i hs
      cases hz
      exact op_mul pins s σ H _ _ v u Q I rx ry ⟨_, _, rfl, rfl, (show _ ∨ _ from by
        unfold cMl at hs
        rw [Bool.or_eq_true] at hs
        rcases hs with hs | hs
        · have := of_decide_eq_true hs; exact Or.inl ⟨by omega, by omega⟩
        · have := of_decide_eq_true hs; exact Or.inr ⟨by omega, by omega⟩), q _ H g (Xt.refl g) r (.int _)⟩
    · cases hz
  · cases dx; cases dy
    split at hz
    · rename_i a k hs
      cases hz
      obtain ⟨t, rfl⟩ := rx
      obtain ⟨t2, rfl⟩ := ry
      obtain ⟨h1, h2, h3, h4⟩ := of_decide_eq_true hs
      have hb : a.length * k.toNat ≤ 1000 * 10000 := Nat.mul_le_mul h4 (by omega)
      refine PySem.SB.mul ⟨?_, fun _ _ => ?_, fun _ _ => ?_⟩ fun t' tk => ⟨.str _, H, I.tok _, ⟨_, rfl⟩, q _ H g (Xt.refl g) r (.str _)⟩
      · rw [decide_eq_false (by omega), decide_eq_false (by omega)]; rfl
      · have : (1000 : Int) ≤ (2 ^ 63 - 1) / k := by
          refine (Int.le_ediv_iff_mul_le (by omega)).mpr ?_
          omega
        omega
      · show decide (_ > sizeLine) = false
        refine decide_eq_false ?_
        rw [sizeLine_eq]
        omega
    · cases hz
  · cases dx; cases dy
    rename_i a1 b1 s1 d1
    split at hz
    · rename_i hs
      cases hz
      obtain ⟨h1, h2, h3, h4⟩ := of_decide_eq_true hs
      rw [← d1.length] at h3 h4
      refine op_repT pins s σ H _ _ v u Q I rx ry ⟨_, _, _, rfl, rfl, by rw [← hK]; exact r.sqT s1, fun e0 => ?_, h1, h2, h4, fun p hp => ?_⟩
      · rw [e0] at h3; cases h3
      · exact q _ _ _ (Xt.put (r.fnone hp)) (r.put hp) (newT r hp (d1.rep _))
    · cases hz
  · cases hz

/-! ### one-place -/
def rD1 (K : PySem.W.Frag) (f : Ws → PyData → Option PyData) : V → Hp → VK → Prop := fun x H Q =>
  ∃ g w d z, g.K = K ∧ Rp g H w ∧ Dq g x d ∧ f w d = some z ∧ ∀ v H' g', Xt g g' → Rp g' H' w → Dq g' v z → Q v H'
def eU (f : Ws → PyData → Option PyData) (fa : FE) : FE := fun ρ w => (fa ρ w).bind fun d w1 => Oc.of (f w1 d) w1
theorem pf_un {op : UnaryOp} {f : Ws → PyData → Option PyData} {a : Expr} {fa : FE} {pos : Pos} (ho : UnR X (unaryOp op) (rD1 X.K f)) (ha : PF X W a fa) : PF X W (.UnaryOp op a pos) (eU f fa) := by
  refine pe_imp (pe_un ho ha) fun σ H Q ⟨g, ρ, w, hK, r, e, q⟩ => ?_
  refine lX_bind hK r e q fun v H1 g1 d w1 x r1 e1 dv z => ?_
  cases hz : f w1 d with
  | none => rw [hz] at z; exact z.elim
  | some y =>
    rw [hz] at z
    exact ⟨g1, w1, d, y, x.k.trans hK, r1, dv, hz, z⟩
def negD (_ : Ws) : PyData → Option PyData
  | .int i => some (.int (-i))
  | _ => none
theorem un_negD : UnR X (unaryOp .USub) (rD1 X.K negD) := by
  intro pins s σ H x v Q I rx ⟨g, w, d, z, hK, r, dx, hz, q⟩
  unfold negD at hz
  split at hz
  · cases hz; cases dx
    exact un_neg pins s σ H _ v Q I rx ⟨_, rfl, q _ H g (Xt.refl g) r (.int _)⟩
  · cases hz

/-! ### comparisons -/
def strLt (a b : Str) : Bool := decide (a.cps.toList < b.cps.toList)
def cmpD (fi : Int → Int → Bool) (fs : Str → Str → Bool) (_ : Ws) : PyData → PyData → Option PyData
  | .int i, .int j => some (.bool (fi i j))
  | .str a, .str b => some (.bool (fs a b))
  | _, _ => none
theorem op_cmpD {fn : Value → Value → Sem Value} {fi : Int → Int → Bool} {fs : Str → Str → Bool} (h : OpR X fn (rI0 fun i j => .bl (fi i j))) (h2 : OpR X fn (fun x y H Q => ∃ i j, x = .str i ∧ y = .str j ∧ Q (.bl (fs i j)) H)) : OpR X fn (rD2 X.K (cmpD fi fs)) := by
  intro pins s σ H x y v u Q I rx ry ⟨g, w, d, e, z, hK, r, dx, dy, hz, q⟩
  unfold cmpD at hz
  split at hz
  · cases hz; cases dx; cases dy
    exact h pins s σ H _ _ v u Q I rx ry ⟨_, _, rfl, rfl, q _ H g (Xt.refl g) r (.bl _)⟩
  · cases hz; cases dx; cases dy
    exact h2 pins s σ H _ _ v u Q I rx ry ⟨_, _, rfl, rfl, q _ H g (Xt.refl g) r (.bl _)⟩
  · cases hz
abbrev ltD := cmpD (fun i j => decide (i < j)) (fun a b => strLt a b)
abbrev leD := cmpD (fun i j => decide (i ≤ j)) (fun a b => !strLt b a)
abbrev gtD := cmpD (fun i j => decide (j < i)) (fun a b => strLt b a)
abbrev geD := cmpD (fun i j => decide (j ≤ i)) (fun a b => !strLt a b)
theorem op_ltD : OpR X (compareOp .Lt) (rD2 X.K ltD) := op_cmpD op_lt op_lt_str
theorem op_leD : OpR X (compareOp .LtE) (rD2 X.K leD) := op_cmpD op_le op_le_str
theorem op_gtD : OpR X (compareOp .Gt) (rD2 X.K gtD) := op_cmpD op_gt op_gt_str
theorem op_geD : OpR X (compareOp .GtE) (rD2 X.K geD) := op_cmpD op_ge op_ge_str
/-- == of data -/

def strsE (d e : PyData) (f : Bool → Bool) : Option PyData := match d, e with
  | .str a, .str b => some (.bool (f (a.cps.toList == b.cps.toList)))
  | _, _ => none
def eqD (_ : Ws) (d e : PyData) : Option PyData := if SeqAt.shaped d && SeqAt.shaped e then some (.bool (PyData.eqv d e)) else strsE d e id
def neD (_ : Ws) (d e : PyData) : Option PyData := if SeqAt.shaped d && SeqAt.shaped e then some (.bool (!PyData.eqv d e)) else strsE d e not
theorem shaped_lay {d : PyData} (h : SeqAt.shaped d = true) : d.canLay0 = true := SeqAt.canLay_of_shaped h
theorem op_eqD' (hu : X.A.units + 64 < cLine) : OpR X (compareOp .Eq) (rD2 X.K eqD) := by
  intro pins s σ H x y v u Q I rx ry ⟨g, w, d, e, z, hK, r, dx, dy, hz, q⟩
  unfold eqD at hz
  split at hz
  · rename_i hs
    cases hz
    rw [Bool.and_eq_true] at hs
    exact op_eqD hu pins s σ H x y v u Q I rx ry ⟨d, e, hK ▸ dx.dp r.fro _ _ (shaped_lay hs.1), hK ▸ dy.dp r.fro _ _ (shaped_lay hs.2), hs.1, hs.2, q _ H g (Xt.refl g) r (.bl _)⟩
  · unfold strsE at hz
    split at hz
    · cases dx; cases dy; cases hz
      obtain ⟨t, rfl⟩ := rx
      obtain ⟨t', rfl⟩ := ry
      exact PySem.P.eq_str ⟨.bl _, H, I, rfl, q _ H g (Xt.refl g) r (.bl _)⟩
    · cases hz
theorem op_neD' (hu : X.A.units + 64 < cLine) : OpR X (compareOp .NotEq) (rD2 X.K neD) := by
  intro pins s σ H x y v u Q I rx ry ⟨g, w, d, e, z, hK, r, dx, dy, hz, q⟩
  unfold neD at hz
  split at hz
  · rename_i hs
    cases hz
    rw [Bool.and_eq_true] at hs
    exact op_neD hu pins s σ H x y v u Q I rx ry ⟨d, e, hK ▸ dx.dp r.fro _ _ (shaped_lay hs.1), hK ▸ dy.dp r.fro _ _ (shaped_lay hs.2), hs.1, hs.2, q _ H g (Xt.refl g) r (.bl _)⟩
  · unfold strsE at hz
    split at hz
    · cases dx; cases dy; cases hz
      obtain ⟨t, rfl⟩ := rx
      obtain ⟨t', rfl⟩ := ry
      exact PySem.P.ne_str ⟨.bl _, H, I, rfl, q _ H g (Xt.refl g) r (.bl _)⟩
    · cases hz
end
end Td

set_option Elab.async false
set_option linter.all false
set_option maxRecDepth 100000
set_option maxHeartbeats 4000000
namespace Td
open PySem L2
section
variable {X : Cx} {W : WX}
/-! ### in, not in -/
def strIn (a b : Str) : Bool := match a.cps.toList with
  | [c] => decide (c ∈ b.cps.toList)
  | _ => !(Builtin.Str.occurrences b a 0 b.length 1).isEmpty
def isIn (w : Ws) : PyData → PyData → Option Bool
  | .str a, .str b => some (strIn a b)
  | d, .tuple ds => if SeqAt.shaped d && SeqAt.shaped (.tuple ds) then some (ds.any fun z => PyData.eqv z d) else none
  | d, e => match lstOf w e with
    | some ds => if SeqAt.shaped d && SeqAt.shaped (.list ds) then some (ds.any fun z => PyData.eqv z d) else none
    | none => none
def inD (w : Ws) (d e : PyData) : Option PyData := (isIn w d e).map .bool
def niD (w : Ws) (d e : PyData) : Option PyData := (isIn w d e).map fun b => .bool (!b)
theorem str_one {a : Str} {c : Nat} (h : a.cps.toList = [c]) : a = ⟨#[c]⟩ := by
  obtain ⟨cps⟩ := a
  have : cps = #[c] := by
    have h' : cps.toList = [c] := h
    rw [← Array.toList_inj]; exact h'
  rw [this]
theorem op_inX (hu : X.A.units + 65 < cLine) : OpR X (compareOp .In) (rD2 X.K inD) := by
  intro pins s σ H x y v u Q I rx ry ⟨g, w, d, e, z, hK, r, dx, dy, hz, q⟩
  obtain ⟨b, hb, rfl⟩ := Option.map_eq_some_iff.mp hz
  clear hz
  have q := q _ H g (Xt.refl g) r (.bl b)
  unfold isIn at hb
  split at hb
  · cases dx; cases dy
    cases hb
    unfold strIn at q
    split at q
    · rename_i c hc
      rw [str_one hc] at rx
      exact op_in_sign pins s σ H _ _ v u Q I rx ry ⟨c, _, rfl, rfl, q⟩
    · exact op_in_str pins s σ H _ _ v u Q I rx ry ⟨_, _, rfl, rfl, q⟩
  · split at hb
    · rename_i hs
      cases hb
      rw [Bool.and_eq_true] at hs
      obtain ⟨as, r1⟩ := Dp.reads I _ _ v (hK ▸ dx.dp r.fro _ _ (shaped_lay hs.1)) rx
      obtain ⟨bs, r2⟩ := Dp.reads I _ _ u (hK ▸ dy.dp r.fro _ _ (shaped_lay hs.2)) ry
      exact SeqAt.in_tuple_reads r2 r1 (SeqAt.canLay_of_shaped hs.2) (SeqAt.canLay_of_shaped hs.1) (PyProof.Rows.room_in_shaped hs.1 hu) ⟨.bl _, H, I, rfl, q⟩
    · cases hb
  · split at hb
    · rename_i ds hl
      split at hb
      · rename_i hs
        cases hb
        rw [Bool.and_eq_true] at hs
        obtain ⟨a, xs, rfl, sq, da⟩ := lstOf_ok r dy hl
        have lay : PyData.canLayAll0 ds = true := by simpa [PyData.canLay0] using shaped_lay hs.2
        exact op_inD hu pins s σ H _ _ v u Q I rx ry ⟨d, ds, hK ▸ dx.dp r.fro _ _ (shaped_lay hs.1), hK ▸ .lst sq (da.dp r.fro _ _ lay), hs.1, hs.2, q⟩
      · cases hb
    · cases hb
theorem op_niX (hu : X.A.units + 65 < cLine) : OpR X (compareOp .NotIn) (rD2 X.K niD) := by
  intro pins s σ H x y v u Q I rx ry ⟨g, w, d, e, z, hK, r, dx, dy, hz, q⟩
  obtain ⟨b, hb, rfl⟩ := Option.map_eq_some_iff.mp hz
  clear hz
  have q := q _ H g (Xt.refl g) r (.bl (!b))
  unfold isIn at hb
  split at hb
  · cases dx; cases dy
    cases hb
    unfold strIn at q
    split at q
    · rename_i c hc
      rw [str_one hc] at rx
      exact op_notIn_sign pins s σ H _ _ v u Q I rx ry ⟨c, _, rfl, rfl, q⟩
    · exact op_notIn_str pins s σ H _ _ v u Q I rx ry ⟨_, _, rfl, rfl, q⟩
  · split at hb
    · rename_i hs
      cases hb
      rw [Bool.and_eq_true] at hs
      obtain ⟨as, r1⟩ := Dp.reads I _ _ v (hK ▸ dx.dp r.fro _ _ (shaped_lay hs.1)) rx
      obtain ⟨bs, r2⟩ := Dp.reads I _ _ u (hK ▸ dy.dp r.fro _ _ (shaped_lay hs.2)) ry
      exact SeqAt.notIn_tuple_reads r2 r1 (SeqAt.canLay_of_shaped hs.2) (SeqAt.canLay_of_shaped hs.1) (PyProof.Rows.room_in_shaped hs.1 hu) ⟨.bl _, H, I, rfl, q⟩
    · cases hb
  · split at hb
    · rename_i ds hl
      split at hb
      · rename_i hs
        cases hb
        rw [Bool.and_eq_true] at hs
        obtain ⟨a, xs, rfl, sq, da⟩ := lstOf_ok r dy hl
        have lay : PyData.canLayAll0 ds = true := by simpa [PyData.canLay0] using shaped_lay hs.2
        exact op_notInD hu pins s σ H _ _ v u Q I rx ry ⟨d, ds, hK ▸ dx.dp r.fro _ _ (shaped_lay hs.1), hK ▸ .lst sq (da.dp r.fro _ _ lay), hs.1, hs.2, q⟩
      · cases hb
    · cases hb

/-! ### xs[i] -/
def ixD (w : Ws) : PyData → PyData → Option PyData
  | .str z, .int i => if szOk z.length then (atI z.cps.toList i).map fun c => .str ⟨#[c]⟩ else none
  | .tuple ds, .int i => atI ds i
  | d, .int i => match lstOf w d with
    | some ds => atI ds i
    | none => none
  | _, _ => none
theorem DqA.atI {g : Gd} {vs : List V} {ds : List PyData} (h : DqA g vs ds) {i : Int} {d : PyData} (e : L2.atI ds i = some d) : ∃ v, L2.atI vs i = some v ∧ Dq g v d := by
  unfold L2.atI at e ⊢
  rw [h.length]
  cases hx : ixN ds.length i with
  | none => rw [hx] at e; cases e
  | some j =>
    rw [hx] at e
    exact h.get e
theorem ix_D : IxR X (rD2 X.K ixD) := by
  intro vl sl pins s σ H x y v u Q I rx ry ⟨g, w, d, e, z, hK, r, dx, dy, hz, q⟩ hsb
  unfold ixD at hz
  split at hz
  · cases dx; cases dy
    split at hz
    · rename_i hs
      obtain ⟨c, hc, rfl⟩ := Option.map_eq_some_iff.mp hz
      exact ix_seq vl sl pins s σ H _ _ v u Q I rx ry (.inr (.inr ⟨_, _, c, rfl, rfl, of_decide_eq_true hs, hc, q _ H g (Xt.refl g) r (.str _)⟩)) hsb
    · cases hz
  · cases dx; cases dy
    rename_i a1 b1 s1 d1
    obtain ⟨v1, hv, dv⟩ := d1.atI hz
    exact ix_seq vl sl pins s σ H _ _ v u Q I rx ry (.inr (.inl ⟨_, _, _, v1, rfl, rfl, hK ▸ r.sqT s1, hv, q _ H g (Xt.refl g) r dv⟩)) hsb
  · cases dy
    split at hz
    · rename_i ds hl
      obtain ⟨a, xs, rfl, sq, da⟩ := lstOf_ok r dx hl
      obtain ⟨v1, hv, dv⟩ := da.atI hz
      exact ix_seq vl sl pins s σ H _ _ v u Q I rx ry (.inl ⟨_, _, _, v1, rfl, rfl, hK ▸ sq, hv, q _ H g (Xt.refl g) r dv⟩) hsb
    · cases hz
  · cases hz
theorem pf_ix {a b : Expr} {fa fb : FE} {pos : Pos} (ha : PF X W a fa) (hb : PF X W b fb) (hs : PlainIx b := by exact fun _ _ => rfl) : PF X W (.Subscript a b pos) (eB ixD fa fb) := pe_imp (pe_ix ix_D ha hb hs) tOp_of

/-! ### xs[lo:hi] -/
abbrev FO := Ev → Ws → Oc (Option Int)
abbrev lO (K : PySem.W.Frag) (W : WX) (f : FO) : TO := lX K W (fun _ (b c : Option Int) => b = c) f
theorem po_imp {o : Option Expr} {t t' : TO} (h : PO X o t) (i : ∀ σ H Q, t' σ H Q → t σ H Q) : PO X o t' := ⟨fun pins s σ H Q I q => h.run pins s σ H Q I (i σ H Q q)⟩
def oN : FO := fun _ w => .ok none w
def oS (f : FE) : FO := fun ρ w => (f ρ w).bind fun d w1 => match d with
  | .int i => .ok (some i) w1
  | _ => .no
theorem pof_none : PO X none (lO X.K W oN) := po_imp po_none fun σ H Q ⟨g, ρ, w, hK, r, e, q⟩ => q _ H g (Xt.refl g) r rfl
theorem pof_some {e : Expr} {f : FE} (h : PF X W e f) : PO X (some e) (lO X.K W (oS f)) := by
  refine po_imp (po_some h) fun σ H Q ⟨g, ρ, w, hK, r, e, q⟩ => ?_
  refine lX_bind hK r e q fun v H1 g1 d w1 x r1 e1 dv z => ?_
  cases dv with
  | int i => exact ⟨i, rfl, z _ _ _ (Xt.refl _) r1 rfl⟩
  | _ => exact z.elim
def cutL {α : Type} (xs : List α) (lo hi : Option Int) : List α := (xs.drop (HT.sIx xs.length 0 lo)).take (HT.sIx xs.length xs.length hi - HT.sIx xs.length 0 lo)
def cutD (w : Ws) (d : PyData) (lo hi : Option Int) : Option PyData := match d with
  | .str z => if szOk z.length then some (.str (cutS z lo hi)) else none
  | .tuple ds => some (.tuple (cutL ds lo hi))
  | d => match lstOf w d with
    | some ds => some (.list (cutL ds lo hi))
    | none => none
theorem DqA.cut {g : Gd} {vs : List V} {ds : List PyData} (h : DqA g vs ds) (lo hi : Option Int) : DqA g (cutV vs lo hi) (cutL ds lo hi) := by
  unfold cutV cutL
  rw [h.length]
  exact (h.drop _).take _
def rCut (K : PySem.W.Frag) : V → Option Int → Option Int → Hp → VK → Prop := fun x lo hi H Q => ∃ g w d z, g.K = K ∧ Rp g H w ∧ Dq g x d ∧ cutD w d lo hi = some z ∧ ∀ v H' g', Xt g g' → Rp g' H' w → Dq g' v z → Q v H'
theorem sl_D : SlR X (rCut X.K) := by
  intro pins s σ H x v vl vu lo hi sl Q I rx hs pl pu ⟨g, w, d, z, hK, r, dx, hz, q⟩
  unfold cutD at hz
  split at hz
  · cases dx
    split at hz
    · rename_i hs'
      cases hz
      exact sl_str pins s σ H _ v vl vu lo hi sl Q I rx hs pl pu ⟨_, rfl, of_decide_eq_true hs', q _ H g (Xt.refl g) r (.str _)⟩
    · cases hz
  · cases dx
    cases hz
    rename_i a1 b1 s1 d1
    refine sl_tupA pins s σ H _ v vl vu lo hi sl Q I rx hs pl pu ⟨_, _, rfl, hK ▸ r.sqT s1, fun hw => ?_, fun _ p hp => ?_⟩
    · refine q _ H g (Xt.refl g) r (.tup s1 ?_)
      rw [d1.length] at hw
      unfold cutL
      rw [hw.1, hw.2, List.drop_zero, Nat.sub_zero, List.take_length]
      exact d1
    · exact q _ _ _ (Xt.put (r.fnone hp)) (r.put hp) (newT r hp (d1.cut lo hi))
  · split at hz
    · rename_i ds hl
      cases hz
      obtain ⟨a, xs, rfl, sq, da⟩ := lstOf_ok r dx hl
      exact sl_list pins s σ H _ v vl vu lo hi sl Q I rx hs pl pu ⟨_, _, rfl, hK ▸ sq, fun p hp => q _ _ _ (Xt.put (r.fnone hp)) (r.put hp) (newL r hp (da.cut lo hi))⟩
    · cases hz
def eSl (f : FE) (fl fh : FO) : FE := fun ρ w => (f ρ w).bind fun d w1 => (fl ρ w1).bind fun l w2 => (fh ρ w2).bind fun h w3 => Oc.of (cutD w3 d l h) w3
theorem pf_slice {e : Expr} {lo hi : Option Expr} {p2 pos : Pos} {f : FE} {fl fh : FO} (he : PF X W e f) (hl : PO X lo (lO X.K W fl)) (hh : PO X hi (lO X.K W fh)) : PF X W (.Subscript e (.Slice lo hi none p2) pos) (eSl f fl fh) := by
  refine pe_imp (pe_slice sl_D he hl hh) fun σ H Q ⟨g, ρ, w, hK, r, e, q⟩ => ?_
  refine lX_bind hK r e q fun v H1 g1 d w1 x r1 e1 dv z => ?_
  refine lX_bind (x.k.trans hK) r1 e1 z fun l H2 g2 l' w2 x2 r2 e2 hl2 z2 => ?_
  refine lX_bind (x2.k.trans (x.k.trans hK)) r2 e2 z2 fun h H3 g3 h' w3 x3 r3 e3 hh3 z3 => ?_
  subst hl2 hh3
  cases hz : cutD w3 d l h with
  | none => rw [hz] at z3; exact z3.elim
  | some y =>
    rw [hz] at z3
    exact ⟨g3, w3, d, y, x3.k.trans (x2.k.trans (x.k.trans hK)), r3, dv.mono (x2.trans x3) _ _, hz, z3⟩

/-! ### calls of what is built in -/
def rDN (K : PySem.W.Frag) (f : Ws → List PyData → Option PyData) : List V → Hp → VK → Prop := fun vs H Q =>
  ∃ g w ds z, g.K = K ∧ Rp g H w ∧ DqA g vs ds ∧ f w ds = some z ∧ ∀ v H' g', Xt g g' → Rp g' H' w → Dq g' v z → Q v H'
def eCb (f : Ws → List PyData → Option PyData) (fa : FA) : FE := fun ρ w => (fa ρ w).bind fun ds w1 => Oc.of (f w1 ds) w1
theorem tCB_of {f : Ws → List PyData → Option PyData} {fa : FA} {K : PySem.W.Frag} : ∀ σ H Q, lE K W (eCb f fa) σ H Q → tCB (rDN K f) (lA K W fa) σ H Q := fun σ H Q ⟨g, ρ, w, hK, r, e, q⟩ => by
  refine lX_bind hK r e q fun v H1 g1 d w1 x r1 e1 dv z => ?_
  cases hz : f w1 d with
  | none => rw [hz] at z; exact z.elim
  | some y =>
    rw [hz] at z
    exact ⟨g1, w1, d, y, x.k.trans hK, r1, dv, hz, z⟩
theorem pf_callB {f : Ws → List PyData → Option PyData} {id : String} {x : Str} {e : Expr} {es : List Expr} {fa : FA} {p pos : Pos} (hc : CallR X (.builtin id) (rDN X.K f)) (hg : Gl X x) (hm : X.mg x = none) (hv : bootBuiltins x = some (.builtin id)) (ha : PAf X W (e :: es) fa)
    (hn : x ≠ "__name__" := by decide) (hdb : (x == ("__debug__" : Str)) = false := by decide) (hs : starEach (e :: es) X.env = (false, eval e X.env) :: starEach es X.env := by rfl) (hpl : (backTo pos (starEach es X.env)).any (·.1) = false := by rfl) :
    PF X W (.Call (.Name x p) (e :: es) [] pos) (eCb f fa) := pe_imp (pe_callB hc hg hm hv ha hn hdb hs hpl) tCB_of
theorem pf_callTy {f : Ws → List PyData → Option PyData} {id : String} {x : Str} {e : Expr} {es : List Expr} {fa : FA} {p pos : Pos} (hc : CallR X (.type id) (rDN X.K f)) (hg : Gl X x) (hm : X.mg x = none) (hv : bootBuiltins x = some (.type id)) (ha : PAf X W (e :: es) fa)
    (hn : x ≠ "__name__" := by decide) (hdb : (x == ("__debug__" : Str)) = false := by decide) (hs : starEach (e :: es) X.env = (false, eval e X.env) :: starEach es X.env := by rfl) (hpl : (backTo pos (starEach es X.env)).any (·.1) = false := by rfl) :
    PF X W (.Call (.Name x p) (e :: es) [] pos) (eCb f fa) := pe_imp (pe_callTy hc hg hm hv ha hn hdb hs hpl) tCB_of

def lenD (w : Ws) : List PyData → Option PyData
  | [.str z] => if szOk z.length then some (.int z.length) else none
  | [.tuple ds] => some (.int ds.length)
  | [d] => (lstOf w d).map fun ds => .int ds.length
  | _ => none
theorem call_lenX : CallR X (.builtin "len") (rDN X.K lenD) := by
  intro pins s σ H xs us Q I rv ⟨g, w, ds, z, hK, r, dx, hz, q⟩
  unfold lenD at hz
  split at hz
  · cases dx with
    | cons d0 dn =>
      cases dn; cases d0
      split at hz
      · rename_i hs
        cases hz
        exact call_len pins s σ H _ us Q I rv ⟨_, _, rfl, ⟨of_decide_eq_true hs, rfl⟩, q _ H g (Xt.refl g) r (.int _)⟩
      · cases hz
  · cases dx with
    | cons d0 dn =>
      cases dn
      cases d0 with
      | tup s1 d1 =>
        cases hz
        exact call_len pins s σ H _ us Q I rv ⟨_, _, rfl, .inr ⟨_, hK ▸ r.sqT s1, rfl⟩, by rw [d1.length]; exact q _ H g (Xt.refl g) r (.int _)⟩
  · cases dx with
    | cons d0 dn =>
      cases dn
      obtain ⟨l, hl, rfl⟩ := Option.map_eq_some_iff.mp hz
      obtain ⟨a, xs, rfl, sq, da⟩ := lstOf_ok r d0 hl
      exact call_len pins s σ H _ us Q I rv ⟨_, _, rfl, .inl ⟨_, hK ▸ sq, rfl⟩, by rw [da.length]; exact q _ H g (Xt.refl g) r (.int _)⟩
  · cases hz
/-- all, any of a list of True, False -/
def boolsOf : List PyData → Option (List Bool)
  | [] => some []
  | .bool b :: r => (boolsOf r).map (b :: ·)
  | _ :: _ => none
theorem boolsOf_ok {g : Gd} : ∀ {vs : List V} {ds : List PyData} {bs : List Bool}, DqA g vs ds → boolsOf ds = some bs → vs = bs.map V.bl
  | _, _, _, .nil, e => by cases e; rfl
  | _, _, _, .cons h t, e => by
    cases h with
    | bl b =>
      obtain ⟨bs, hb, rfl⟩ := Option.map_eq_some_iff.mp e
      rw [boolsOf_ok t hb]
      rfl
    | _ => cases e
def qD (f : List Bool → Bool) (w : Ws) : List PyData → Option PyData
  | [d] => ((lstOf w d).bind boolsOf).map fun bs => .bool (f bs)
  | _ => none
abbrev allD := qD (fun bs => bs.all id)
abbrev anyD := qD (fun bs => bs.any id)
theorem call_qX {fn : Value} {f : List Bool → Bool} (h : CallR X fn (fun vs H Q => ∃ (a : Addr) (bs : List Bool), vs = [V.ref a] ∧ SqL X.K H a (bs.map V.bl) ∧ Q (.bl (f bs)) H)) : CallR X fn (rDN X.K (qD f)) := by
  intro pins s σ H xs us Q I rv ⟨g, w, ds, z, hK, r, dx, hz, q⟩
  unfold qD at hz
  split at hz
  · cases dx with
    | cons d0 dn =>
      cases dn
      obtain ⟨bs, hb, rfl⟩ := Option.map_eq_some_iff.mp hz
      obtain ⟨l, hl, hb⟩ := Option.bind_eq_some_iff.mp hb
      obtain ⟨a, xs, rfl, sq, da⟩ := lstOf_ok r d0 hl
      have e := boolsOf_ok da hb
      subst e
      exact h pins s σ H _ us Q I rv ⟨a, bs, rfl, hK ▸ sq, q _ H g (Xt.refl g) r (.bl _)⟩
  · cases hz
theorem call_allX (hc : X.calm = true) : CallR X (.builtin "all") (rDN X.K allD) := call_qX (cr_all hc)
theorem call_anyX (hc : X.calm = true) : CallR X (.builtin "any") (rDN X.K anyD) := call_qX (cr_any hc)
/-- list(x), tuple(x) -/
def listD (w : Ws) : List PyData → Option PyData
  | [.tuple ds] => some (.list ds)
  | [d] => (lstOf w d).map fun ds => .list ds
  | _ => none
theorem call_listX : CallR X (.type "list") (rDN X.K listD) := by
  intro pins s σ H xs us Q I rv ⟨g, w, ds, z, hK, r, dx, hz, q⟩
  unfold listD at hz
  split at hz
  · cases dx with
    | cons d0 dn =>
      cases dn
      cases d0 with
      | tup s1 d1 =>
        cases hz
        exact call_list_of pins s σ H _ us Q I rv ⟨_, _, rfl, .inr (hK ▸ r.sqT s1), fun p hp => q _ _ _ (Xt.put (r.fnone hp)) (r.put hp) (newL r hp d1)⟩
  · cases dx with
    | cons d0 dn =>
      cases dn
      obtain ⟨l, hl, rfl⟩ := Option.map_eq_some_iff.mp hz
      obtain ⟨a, xs, rfl, sq, da⟩ := lstOf_ok r d0 hl
      exact call_list_of pins s σ H _ us Q I rv ⟨_, _, rfl, .inl (hK ▸ sq), fun p hp => q _ _ _ (Xt.put (r.fnone hp)) (r.put hp) (newL r hp da)⟩
  · cases hz
def tupleD (w : Ws) : List PyData → Option PyData
  | [.tuple ds] => some (.tuple ds)
  | [d] => (lstOf w d).map fun ds => .tuple ds
  | _ => none
theorem call_tupleX : CallR X (.type "tuple") (rDN X.K tupleD) := by
  intro pins s σ H xs us Q I rv ⟨g, w, ds, z, hK, r, dx, hz, q⟩
  unfold tupleD at hz
  split at hz
  · cases dx with
    | cons d0 dn =>
      cases dn
      cases d0 with
      | tup s1 d1 =>
        cases hz
        exact call_tuple_of pins s σ H _ us Q I rv ⟨_, _, rfl, .inr ⟨hK ▸ r.sqT s1, q _ H g (Xt.refl g) r (.tup s1 d1)⟩⟩
  · cases dx with
    | cons d0 dn =>
      cases dn
      obtain ⟨l, hl, rfl⟩ := Option.map_eq_some_iff.mp hz
      obtain ⟨a, xs, rfl, sq, da⟩ := lstOf_ok r d0 hl
      exact call_tuple_of pins s σ H _ us Q I rv ⟨_, _, rfl, .inl ⟨hK ▸ sq, fun p hp => q _ _ _ (Xt.put (r.fnone hp)) (r.put hp) (newT r hp da)⟩⟩
  · cases hz
/-- int(n), str(n) -/
def toInt (_ : Ws) : List PyData → Option PyData
  | [.int i] => some (.int i)
  | [.bool b] => some (.int (if b = true then 1 else 0))
  | _ => none
theorem call_intX : CallR X (.type "int") (rDN X.K toInt) := by
  intro pins s σ H xs us Q I rv ⟨g, w, ds, z, hK, r, dx, hz, q⟩
  unfold toInt at hz
  split at hz
  · cases dx with
    | cons d0 dn =>
      cases dn; cases d0; cases hz
      exact call_int1 pins s σ H _ us Q I rv (.inl ⟨_, rfl, q _ H g (Xt.refl g) r (.int _)⟩)
  · cases dx with
    | cons d0 dn =>
      cases dn; cases d0; cases hz
      exact call_int1 pins s σ H _ us Q I rv (.inr ⟨_, rfl, q _ H g (Xt.refl g) r (.int _)⟩)
  · cases hz
def toStr (_ : Ws) : List PyData → Option PyData
  | [.int i] => if decide (i.natAbs.log2 < 1920) then some (.str (toString i)) else none
  | [.bool b] => some (.str (if b then "True" else "False"))
  | _ => none
theorem call_strX : CallR X (.type "str") (rDN X.K toStr) := by
  intro pins s σ H xs us Q I rv ⟨g, w, ds, z, hK, r, dx, hz, q⟩
  unfold toStr at hz
  split at hz
  · cases dx with
    | cons d0 dn =>
      cases dn; cases d0
      split at hz
      · rename_i hs
        cases hz
        exact call_str_int pins s σ H _ us Q I rv ⟨_, rfl, of_decide_eq_true hs, q _ H g (Xt.refl g) r (.str _)⟩
      · cases hz
  · cases dx with
    | cons d0 dn =>
      cases dn; cases d0
      cases hz
      obtain ⟨u, rfl, rb⟩ := vals1 rv
      cases rb
      exact PySem.P.str_of_bool ⟨.str _, H, I.tok _, ⟨_, rfl⟩, q _ H g (Xt.refl g) r (.str _)⟩
  · cases hz
/-- isinstance(x, T), T built in -/
def tyD (w : Ws) : PyData → Option String
  | .none => some "NoneType"
  | .bool _ => some "bool"
  | .int _ => some "int"
  | .str _ => some "str"
  | .list _ => some "list"
  | .tuple _ => some "tuple"
  | d => match dkOf w d with
    | some _ => some "dict"
    | none => (lstOf w d).map fun _ => "list"
theorem tyD_ok {g : Gd} {H : Hp} {w : Ws} (r : Rp g H w) {v : V} {d : PyData} (h : Dq g v d) {T : String} (e : tyD w d = some T) : TyX g.K H v (.type T) := by
  cases h with
  | non => cases e; exact .base (.non)
  | bl => cases e; exact .base (.bl _)
  | int => cases e; exact .base (.int _)
  | str => cases e; exact .base (.str _)
  | lst a da =>
    cases e
    rcases r.sqL a with (h | ⟨o, h⟩) | ⟨o, _, _, h, hc, _⟩
    · exact .base (.lst h)
    · exact .base (.frz h)
    · exact .kList h hc
  | tup a da =>
    cases e
    rcases r.sqT a with (h | ⟨o, h⟩) | ⟨o, _, _, h, hc, _⟩
    · exact .base (.tup h)
    · exact .fTuple h
    · exact .kTuple h hc
  | @ref l hl =>
    unfold tyD at e
    split at e <;> (try (rename_i hq; cases hq; done))
    split at e
    · rename_i ks hk
      cases e
      obtain ⟨l', xs, e1, _, _, _, hH, _⟩ := dkOf_ok r (.ref hl) hk
      rw [e1]
      exact .base (.dK hH)
    · obtain ⟨l2, hl2, rfl⟩ := Option.map_eq_some_iff.mp e
      obtain ⟨a, xs, e1, sq, da⟩ := lstOf_ok r (.ref hl) hl2
      rw [e1]
      rcases sq with (h | ⟨o, h⟩) | ⟨o, _, _, h, hc, _⟩
      · exact .base (.lst h)
      · exact .base (.frz h)
      · exact .kList h hc
def eIsi (T : String) (fa : FE) : FE := fun ρ w => (fa ρ w).bind fun d w1 => match (tyD w1 d).bind fun t => kitB t T with
  | some b => .ok (.bool b) w1
  | none => .no
theorem pf_isi {T : String} {x : Str} {a : Expr} {fa : FE} {p p2 pos : Pos} (ha : PF X W a fa) (hg : Gl X "isinstance") (hm : X.mg "isinstance" = none) (hgT : Gl X x) (hmT : X.mg x = none) (hv : bootBuiltins x = some (.type T)) (hn : x ≠ "__name__" := by decide) (hd : (x == ("__debug__" : Str)) = false := by decide)
    (hs1 : starEach [a, .Name x p2] X.env = (false, eval a X.env) :: starEach [.Name x p2] X.env := by rfl) (hs2 : starEach [.Name x p2] X.env = (false, eval (.Name x p2) X.env) :: starEach [] X.env := by rfl) (hpl : (backTo pos (starEach [.Name x p2] X.env)).any (·.1) = false := by rfl) :
    PF X W (.Call (.Name "isinstance" p) [a, .Name x p2] [] pos) (eIsi T fa) := by
  refine pe_imp (pe_callB call_isi hg hm (by decide +kernel) (pa_cons ha (pa_cons (pe_bltn (v := .ty T) hgT hmT hv rfl hn hd) pa_nil hs2) hs1) (by decide) (by decide) hs1 hpl) fun σ H Q ⟨g, ρ, w, hK, r, e, q⟩ => ?_
  refine lX_bind hK r e q fun v H1 g1 d w1 y r1 e1 dv z => ?_
  split at z
  · rename_i b hb
    obtain ⟨t, ht, hk⟩ := Option.bind_eq_some_iff.mp hb
    exact ⟨v, .ty T, .type t, .type T, b, rfl, .ty T, hK ▸ y.k ▸ tyD_ok r1 dv ht, kit_ty hk, z _ _ _ (Xt.refl _) r1 (.bl _)⟩
  · exact z.elim
end
end Td

set_option Elab.async false
set_option linter.all false
set_option maxRecDepth 100000
set_option maxHeartbeats 4000000
namespace Td
open PySem L2
/-! ### statements -/
def oSt (W : WX) (g : Gd) (D : Ends) : Os → Prop
  | .nx ρ w => ∀ σ H g', Xt g g' → Rp g' H w → EnR g' σ ρ → D.nx σ H
  | .rt d w => ∀ v H g', Xt g g' → Rp g' H w → Dq g' v d → D.rt v H
  | .bk ρ w => ∀ σ H g', Xt g g' → Rp g' H w → EnR g' σ ρ → D.bk σ H
  | .ct ρ w => ∀ σ H g', Xt g g' → Rp g' H w → EnR g' σ ρ → D.ct σ H
  | .ex ρ c fs w => ∀ dd σ H g', Xt g g' → Rp g' H w → EnR g' σ ρ → XdR g' H fs dd → W c dd σ H
  | .no => False
def lS (K : PySem.W.Frag) (W : WX) (f : FS) : TS := fun D σ H => ∃ g ρ w, g.K = K ∧ Rp g H w ∧ EnR g σ ρ ∧ oSt W g D (f ρ w)
abbrev PSf (X : Cx) (W : WX) (st : Stmt) (f : FS) : Prop := PS X st (lS X.K W f)
abbrev PSsf (X : Cx) (W : WX) (st : List Stmt) (f : FS) : Prop := PSs X st (lS X.K W f)
theorem oSt.mono {W : WX} {g g' : Gd} {D : Ends} (x : Xt g g') : ∀ {o : Os}, oSt W g D o → oSt W g' D o
  | .nx _ _, h => fun σ H g2 y r e => h σ H g2 (x.trans y) r e
  | .rt _ _, h => fun σ H g2 y r e => h σ H g2 (x.trans y) r e
  | .bk _ _, h => fun σ H g2 y r e => h σ H g2 (x.trans y) r e
  | .ct _ _, h => fun σ H g2 y r e => h σ H g2 (x.trans y) r e
  | .ex _ _ _ _, h => fun d σ H g2 y r e q => h d σ H g2 (x.trans y) r e q
  | .no, h => h
/-- an expression first -/
def Oc.thenS {α : Type} (x : Oc α) (ρ : Ev) (k : α → Ws → Os) : Os := match x with
  | .ok a w => k a w
  | .ex c fs w => .ex ρ c fs w
  | .no => .no
theorem lX_then {α β : Type} {W : WX} {R : Gd → β → α → Prop} {f : Ev → Ws → Oc α} {k : α → Ws → Os} {σ : St} {H : Hp} {g : Gd} {ρ : Ev} {w : Ws} {D : Ends} {T : β → Hp → Prop}
    {K : PySem.W.Frag} (hK : g.K = K) (r : Rp g H w) (e : EnR g σ ρ) (h : oSt W g D ((f ρ w).thenS ρ k))
    (hT : ∀ v H1 g1 d w1, Xt g g1 → Rp g1 H1 w1 → EnR g1 σ ρ → R g1 v d → oSt W g1 D (k d w1) → T v H1) : lX K W R f σ H T := by
  refine ⟨g, ρ, w, hK, r, e, ?_⟩
  cases q : f ρ w with
  | ok d w1 =>
    rw [q] at h
    exact fun v H1 g1 x r1 z => hT v H1 g1 d w1 x r1 (e.mono x) z (oSt.mono x h)
  | ex c fs w1 =>
    rw [q] at h
    exact fun dd H1 g1 x r1 z => h dd σ H1 g1 x r1 (e.mono x) z
  | no =>
    rw [q] at h
    exact h
section
variable {X : Cx} {W : WX}
def sNil : FS := fun ρ w => .nx ρ w
def sSeq (f k : FS) : FS := fun ρ w => match f ρ w with
  | .nx ρ1 w1 => k ρ1 w1
  | o => o
theorem pssf_nil : PSsf X W [] sNil := pss_imp pss_nil fun D σ H ⟨g, ρ, w, hK, r, e, q⟩ => q σ H g (Xt.refl g) r e
theorem pssf_cons {st : Stmt} {rest : List Stmt} {f k : FS} (h1 : PSf X W st f) (h2 : PSsf X W rest k) : PSsf X W (st :: rest) (sSeq f k) := by
  refine pss_imp (pss_cons h1 h2) fun D σ H ⟨g, ρ, w, hK, r, e, q⟩ => ?_
  refine ⟨g, ρ, w, hK, r, e, ?_⟩
  unfold sSeq at q
  cases z : f ρ w with
  | nx ρ1 w1 =>
    rw [z] at q
    exact fun σ' H' g' x r' e' => ⟨g', ρ1, w1, x.k.trans hK, r', e', oSt.mono x q⟩
  | rt d w1 => rw [z] at q; exact q
  | bk ρ1 w1 => rw [z] at q; exact q
  | ct ρ1 w1 => rw [z] at q; exact q
  | ex ρ1 c fs w1 => rw [z] at q; exact q
  | no => rw [z] at q; exact q
theorem pssf_one {st : Stmt} {f : FS} (h1 : PSf X W st f) : PSsf X W [st] f := pss_one h1
def sRet (f : FE) : FS := fun ρ w => (f ρ w).thenS ρ fun d w1 => .rt d w1
theorem psf_ret {e : Expr} {pos : Pos} {f : FE} (he : PF X W e f) : PSf X W (.Return (some e) pos) (sRet f) := by
  refine ps_imp (ps_ret he) fun D σ H ⟨g, ρ, w, hK, r, e, q⟩ => ?_
  exact lX_then hK r e q fun v H1 g1 d w1 x r1 e1 dv z => z v H1 g1 (Xt.refl _) r1 dv
def sExp (f : FE) : FS := fun ρ w => (f ρ w).thenS ρ fun _ w1 => .nx ρ w1
theorem psf_expr {e : Expr} {pos : Pos} {f : FE} (he : PF X W e f) (hs : swapsWith e none pos.line X.env = pure false := by rfl) : PSf X W (.Expr e pos) (sExp f) := by
  refine ps_imp (ps_expr he hs) fun D σ H ⟨g, ρ, w, hK, r, e, q⟩ => ?_
  exact lX_then hK r e q fun v H1 g1 d w1 x r1 e1 dv z => z σ H1 g1 (Xt.refl _) r1 e1
def sPass : FS := fun ρ w => .nx ρ w
theorem psf_pass {pos : Pos} : PSf X W (.Pass pos) sPass := ps_imp ps_pass fun D σ H ⟨g, ρ, w, hK, r, e, q⟩ => q σ H g (Xt.refl g) r e
def sBrk : FS := fun ρ w => .bk ρ w
theorem psf_break {pos : Pos} : PSf X W (.Break pos) sBrk := ps_imp ps_break fun D σ H ⟨g, ρ, w, hK, r, e, q⟩ => q σ H g (Xt.refl g) r e
def sCnt : FS := fun ρ w => .ct ρ w
theorem psf_continue {pos : Pos} : PSf X W (.Continue pos) sCnt := ps_imp ps_continue fun D σ H ⟨g, ρ, w, hK, r, e, q⟩ => q σ H g (Xt.refl g) r e
def sIf (t : FT) (f k : FS) : FS := fun ρ w => (t ρ w).thenS ρ fun b w1 => cond b (f ρ w1) (k ρ w1)
theorem psf_if {c : Expr} {a b : List Stmt} {pos : Pos} {t : FT} {f k : FS} (hc : PTf X W c t) (ha : PSsf X W a f) (hb : PSsf X W b k) : PSf X W (.If c a b pos) (sIf t f k) := by
  refine ps_imp (ps_if hc ha hb) fun D σ H ⟨g, ρ, w, hK, r, e, q⟩ => ?_
  refine lX_then hK r e q fun v H1 g1 d w1 x r1 e1 dv z => ?_
  subst dv
  cases v with
  | true => exact iteT ⟨g1, ρ, w1, x.k.trans hK, r1, e1, z⟩
  | false => exact iteF ⟨g1, ρ, w1, x.k.trans hK, r1, e1, z⟩

/-! ### targets -/
abbrev FG := PyData → Ev → Ws → Oc Ev
def Sm (is : List Nat) (σ σ' : St) : Prop := σ'.length = σ.length ∧ ∀ j, j ∉ is → σ'[j]? = σ[j]?
theorem Sm.refl (is : List Nat) (σ : St) : Sm is σ σ := ⟨rfl, fun _ _ => rfl⟩
theorem Sm.trans {is js : List Nat} {σ σ1 σ2 : St} (a : Sm is σ σ1) (b : Sm js σ1 σ2) : Sm (is ++ js) σ σ2 :=
  ⟨b.1.trans a.1, fun j h => (b.2 j fun z => h (List.mem_append_right _ z)).trans (a.2 j fun z => h (List.mem_append_left _ z))⟩
def lG (K : PySem.W.Frag) (is : List Nat) (f : FG) : TG := fun v σ H Q => ∃ g ρ w d, g.K = K ∧ Rp g H w ∧ EnR g σ ρ ∧ Dq g v d ∧ match f d ρ w with
  | .ok ρ' w' => ∀ σ' H' g', Xt g g' → Rp g' H' w' → EnR g' σ' ρ' → Sm is σ σ' → Q σ' H'
  | _ => False
theorem pg_imp {e : Expr} {t t' : TG} (h : PG X e t) (i : ∀ v σ H Q, t' v σ H Q → t v σ H Q) : PG X e t' := ⟨fun pins s σ H v u Q I r q => h.run pins s σ H v u Q I r (i v σ H Q q)⟩
abbrev PGf (X : Cx) (is : List Nat) (tg : Expr) (f : FG) : Prop := PG X tg (lG X.K is f)
def gN (i : Nat) : FG := fun d ρ w => .ok (ρ.set i (some d)) w
theorem pgf_name {i : Nat} {x : Str} {pos : Pos} (hN : X.N.Nodup) (hi : X.N[i]? = some x) (hx : Loc X.env.scope x) (hf : X.fn x = true ∨ X.env.scope.names.lookup x = some .local := by first | exact .inl rfl | exact .inr rfl) : PGf X [i] (.Name x pos) (gN i) := by
  refine pg_imp (pg_name hN hi hx hf) fun v σ H Q ⟨g, ρ, w, d, hK, r, e, dv, q⟩ => ?_
  refine q _ H g (Xt.refl g) r (e.set i dv) ⟨List.length_set, fun j hj => ?_⟩
  rw [List.getElem?_set_ne]
  exact fun z => hj (by rw [z]; exact List.mem_singleton.mpr rfl)
/-- a, b = .. : a tuple taken apart -/
abbrev FGs := List PyData → Ev → Ws → Oc Ev
def lGs (K : PySem.W.Frag) (is : List Nat) (f : FGs) : TGs := fun vs σ H Q => ∃ g ρ w ds, g.K = K ∧ Rp g H w ∧ EnR g σ ρ ∧ DqA g vs ds ∧ match f ds ρ w with
  | .ok ρ' w' => ∀ σ' H' g', Xt g g' → Rp g' H' w' → EnR g' σ' ρ' → Sm is σ σ' → Q σ' H'
  | _ => False
def gZ : FGs := fun ds ρ w => match ds with
  | [] => .ok ρ w
  | _ => .no
def gC (f : FG) (k : FGs) : FGs := fun ds ρ w => match ds with
  | d :: r => (f d ρ w).bind fun ρ1 w1 => k r ρ1 w1
  | [] => .no
def gT (n : Nat) (f : FGs) : FG := fun d ρ w => match d with
  | .tuple ds => if ds.length = n then f ds ρ w else .no
  | _ => .no
theorem pgs_imp {e : List Expr} {t t' : TGs} (h : PGs X e t) (i : ∀ v σ H Q, t' v σ H Q → t v σ H Q) : PGs X e t' := ⟨fun pins s σ H v u Q I r q => h.run pins s σ H v u Q I r (i v σ H Q q)⟩

theorem pgsf_nil : PGs X [] (lGs X.K [] gZ) := by
  refine pgs_imp pgs_nil fun vs σ H Q ⟨g, ρ, w, ds, hK, r, e, dv, q⟩ => ?_
  cases dv with
  | nil => exact ⟨rfl, q σ H g (Xt.refl g) r e (Sm.refl _ _)⟩
  | cons a b => exact q.elim
theorem pgsf_cons {e : Expr} {es : List Expr} {is js : List Nat} {f : FG} {k : FGs} (h1 : PGf X is e f) (h2 : PGs X es (lGs X.K js k))
    (hs : List.map (fun x => x.snd) (assignEach (e :: es) X.env) = assign e X.env :: List.map (fun x => x.snd) (assignEach es X.env) := by rfl) : PGs X (e :: es) (lGs X.K (is ++ js) (gC f k)) := by
  refine pgs_imp (pgs_cons h1 h2 hs) fun vs σ H Q ⟨g, ρ, w, ds, hK, r, e, dv, q⟩ => ?_
  cases dv with
  | nil => exact q.elim
  | @cons v vs d ds a b =>
    refine ⟨v, vs, rfl, g, ρ, w, d, hK, r, e, a, ?_⟩
    simp only [gC] at q
    cases z : f d ρ w with
    | ok ρ1 w1 =>
      rw [z] at q
      refine fun σ' H' g' x r' e' sm => ⟨g', ρ1, w1, ds, x.k.trans hK, r', e', b.mono x _ _, ?_⟩
      have q : (match k ds ρ1 w1 with
        | .ok ρ' w' => ∀ σ' H' g', Xt g g' → Rp g' H' w' → EnR g' σ' ρ' → Sm (is ++ js) σ σ' → Q σ' H'
        | _ => False) := q
      split at q
      · exact fun σ2 H2 g2 x2 r2 e2 sm2 => q σ2 H2 g2 (x.trans x2) r2 e2 (sm.trans sm2)
      · exact q.elim
    | ex c fs w1 => rw [z] at q; exact q.elim
    | no => rw [z] at q; exact q.elim
theorem pgf_tup {es : List Expr} {k n : Nat} {pos : Pos} {is : List Nat} {f : FGs} (hc : X.calm = true) (h : PGs X es (lGs X.K is f)) (hl : (assignEach es X.env).length = n := by rfl) (hf : List.findIdx? (fun x => x.fst) (assignEach es X.env) = none := by rfl) : PGf X is (.Tuple es k pos) (gT n f) := by
  refine pg_imp (pg_tup hc h hl hf) fun v σ H Q ⟨g, ρ, w, d, hK, r, e, dv, q⟩ => ?_
  unfold gT at q
  cases dv with
  | @tup a xs ds sq da =>
    by_cases hn : ds.length = n
    · simp only [if_pos hn] at q
      exact ⟨_, _, rfl, hK ▸ r.sqT sq, by rw [da.length]; exact hn, g, ρ, w, _, hK, r, e, da, q⟩
    · simp only [if_neg hn] at q
  | _ => exact q.elim
/-! ### assignments -/
def sAsg (f : FE) (gt : FG) : FS := fun ρ w => (f ρ w).thenS ρ fun d w1 => match gt d ρ w1 with
  | .ok ρ' w' => .nx ρ' w'
  | _ => .no
theorem asg_of {f : FE} {gt : FG} {is : List Nat} {K : PySem.W.Frag} : ∀ D σ H, lS K W (sAsg f gt) D σ H → tAsg (lE K W f) (lG K is gt) D σ H := fun D σ H ⟨g, ρ, w, hK, r, e, q⟩ => by
  refine lX_then hK r e q fun v H1 g1 d w1 x r1 e1 dv z => ?_
  refine ⟨g1, ρ, w1, d, x.k.trans hK, r1, e1, dv, ?_⟩
  cases y : gt d ρ w1 with
  | ok ρ' w' =>
    rw [y] at z
    exact fun σ' H' g' x' r' e' _ => z σ' H' g' x' r' e'
  | ex c fs w2 => rw [y] at z; exact z.elim
  | no => rw [y] at z; exact z.elim
theorem psf_asg {tg e : Expr} {pos : Pos} {f : FE} {gt : FG} {is : List Nat} (he : PF X W e f) (hg : PGf X is tg gt) (hs : swapsWithSole [tg] e pos.line X.env = pure false := by rfl) (hw : swappedStores [tg] e X.env = pure none := by rfl) (h1 : (assignEach [tg] X.env).map (·.2) = [assign tg X.env] := by rfl) : PSf X W (.Assign [tg] e pos) (sAsg f gt) :=
  ps_imp (ps_asg he hg hs hw h1) asg_of
theorem psf_set {i : Nat} {x : Str} {e : Expr} {pos' pos : Pos} {f : FE} (hN : X.N.Nodup) (hi : X.N[i]? = some x) (hx : Loc X.env.scope x) (he : PF X W e f) (hs : swapsWith e (some (.Name x pos')) pos.line X.env = pure false := by rfl) (hf : X.fn x = true ∨ X.env.scope.names.lookup x = some .local := by first | exact .inl rfl | exact .inr rfl) :
    PSf X W (.Assign [.Name x pos'] e pos) (sAsg f (gN i)) := by
  refine ps_imp (ps_set hN hi hx he hs hf) fun D σ H ⟨g, ρ, w, hK, r, e, q⟩ => ?_
  exact lX_then hK r e q fun v H1 g1 d w1 x r1 e1 dv z => z _ H1 g1 (Xt.refl _) r1 (e1.set i dv)
/-- a, b = e1, e2 -/
def sPar (i j : Nat) (fa : FA) : FS := fun ρ w => (fa ρ w).thenS ρ fun ds w1 => match ds with
  | [a, b] => .nx ((ρ.set i (some a)).set j (some b)) w1
  | _ => .no
theorem par_of {i j : Nat} {fa : FA} {K : PySem.W.Frag} : ∀ D σ H, lS K W (sPar i j fa) D σ H → tPar i j (lA K W fa) D σ H := fun D σ H ⟨g, ρ, w, hK, r, e, q⟩ => by
  refine lX_then hK r e q fun v H1 g1 d w1 x r1 e1 dv z => ?_
  split at z
  · cases dv with
    | cons d0 dn =>
      cases dn with
      | cons d1 dn =>
        cases dn
        exact ⟨_, _, rfl, z _ H1 g1 (Xt.refl _) r1 ((e1.set i d0).set j d1)⟩
  · exact z.elim

/-! ### what is walked -/
structure WkD (J : It) (g : Gd) (ds : List PyData) : Prop where
  stop : ∀ g' H w, Xt0 g g' → Rp g' H w → J.stop ds.length H
  go : ∀ g' H w i, Xt0 g g' → Rp g' H w → i < ds.length → J.go i H
  yld : ∀ g' H w i x H2, Xt0 g g' → Rp g' H w → i < ds.length → J.yld i H x H2 → ∃ g2 d, ds[i]? = some d ∧ Xt g' g2 ∧ Rp g2 H2 w ∧ Dq g2 x d
theorem WkD.mono {J : It} {g g' : Gd} {ds : List PyData} (k : WkD J g ds) (x : Xt0 g g') : WkD J g' ds :=
  ⟨fun a b c y r => k.stop a b c (x.trans y) r, fun a b c i y r h => k.go a b c i (x.trans y) r h, fun a b c i v d y r h z => k.yld a b c i v d (x.trans y) r h z⟩
def lI (K : PySem.W.Frag) (W : WX) (f : FA) : TI := lX K W (fun g J ds => WkD J g ds) f
theorem pi_imp {tg e : Expr} {t t' : TI} (h : PI X tg e t) (i : ∀ σ H R, t' σ H R → t σ H R) : PI X tg e t' := ⟨fun pins s σ H R I q => h.run pins s σ H R I (i σ H R q)⟩
abbrev PIf (X : Cx) (W : WX) (tg e : Expr) (f : FA) : Prop := PI X tg e (lI X.K W f)
theorem wk_list {g : Gd} {a : Addr} {xs : List V} {ds : List PyData} (h : SqL g.K g.F a xs) (d : DqA g xs ds) : WkD (Itl g.K a) g ds where
  stop := fun g' H w x r => ⟨xs, x.k ▸ r.sqL (x.sqL h), by rw [d.length]; exact Nat.le_refl _⟩
  go := fun g' H w i x r hi => by
    have hi' : i < xs.length := by rw [d.length]; exact hi
    exact ⟨xs, xs[i], x.k ▸ r.sqL (x.sqL h), List.getElem?_eq_getElem hi'⟩
  yld := fun g' H w i v H2 x r hi y => by
    obtain ⟨e, y⟩ := y
    subst e
    have hv := y xs (x.k ▸ r.sqL (x.sqL h))
    obtain ⟨v', h1, h2⟩ := d.get (List.getElem?_eq_getElem hi)
    rw [hv] at h1
    cases h1
    exact ⟨g', ds[i], List.getElem?_eq_getElem hi, Xt.refl _, r, h2.mono x _ _⟩
theorem wk_tup {g : Gd} {a : Addr} {xs : List V} {ds : List PyData} (h : SqT g.K g.F a xs) (d : DqA g xs ds) : WkD (Itt g.K a) g ds where
  stop := fun g' H w x r => ⟨xs, x.k ▸ r.sqT (x.sqT h), by rw [d.length]; exact Nat.le_refl _⟩
  go := fun g' H w i x r hi => by
    have hi' : i < xs.length := by rw [d.length]; exact hi
    exact ⟨xs, xs[i], x.k ▸ r.sqT (x.sqT h), List.getElem?_eq_getElem hi'⟩
  yld := fun g' H w i v H2 x r hi y => by
    obtain ⟨e, y⟩ := y
    subst e
    have hv := y xs (x.k ▸ r.sqT (x.sqT h))
    obtain ⟨v', h1, h2⟩ := d.get (List.getElem?_eq_getElem hi)
    rw [hv] at h1
    cases h1
    exact ⟨g', ds[i], List.getElem?_eq_getElem hi, Xt.refl _, r, h2.mono x _ _⟩
def chD (z : Str) : List PyData := z.cps.toList.map fun c => .str ⟨#[c]⟩
theorem wk_str {g : Gd} {z : Str} : WkD (Its z) g (chD z) where
  stop := fun g' H w x r => by show z.cps.size ≤ _; simp [chD]
  go := fun g' H w i x r hi => by show i < z.cps.size; simpa [chD] using hi
  yld := fun g' H w i v H2 x r hi y => by
    obtain ⟨e, c, hc, rfl⟩ := y
    subst e
    exact ⟨g', .str ⟨#[c]⟩, by simp [chD, hc], Xt.refl _, r, .str _⟩
theorem walk_zipT {K : PySem.W.Frag} {a b : Addr} {xs ys : List V} : Walk (RZ.ItzT K a b) (min xs.length ys.length) (fun H => SqT K H a xs ∧ SqT K H b ys) (YPair (fun i => xs[i]?) (fun i => ys[i]?)) where
  goes := fun i H hi g => ⟨xs, ys, xs[i]'(by omega), ys[i]'(by omega), g.1, g.2, List.getElem?_eq_getElem (by omega), List.getElem?_eq_getElem (by omega)⟩
  stops := fun H g => ⟨xs, ys, g.1, g.2, by omega⟩
  yields := fun i H x H' hi g y => by
    obtain ⟨T, u, v, e, hT, e2, h1, h2⟩ := y
    exact ⟨T, u, v, e, hT, e2, h1 xs g.1, h2 ys g.2⟩
/-- for x in e: a list, a tuple, a text -/
def itD : PyData → Option (List PyData)
  | .list ds => some ds
  | .tuple ds => some ds
  | .str z => some (chD z)
  | _ => none
def iE (f : FE) : FA := fun ρ w => (f ρ w).bind fun d w1 => Oc.of (itD d) w1
def iAny (K : PySem.W.Frag) (te : TE) : TI := fun σ H R => te σ H fun x H1 => (∃ a xs, x = .ref a ∧ SqL K H1 a xs ∧ R (Itl K a) H1) ∨ (∃ a xs, x = .ref a ∧ SqT K H1 a xs ∧ R (Itt K a) H1) ∨ ∃ z, x = .str z ∧ R (Its z) H1
theorem pi_any {tg e : Expr} {te : TE} (he : PE X e te) : PI X tg e (iAny X.K te) := by
  refine ⟨fun pins s σ H R I h => thn (he.run pins s σ H _ I h) fun v s1 ⟨y, H1, I1, r1, q⟩ => ?_⟩
  rcases q with ⟨a, xs, rfl, sq, q⟩ | ⟨a, xs, rfl, sq, q⟩ | ⟨z, rfl, q⟩
  · cases r1
    obtain ⟨its, _, pl, _⟩ := I1.list sq
    exact wpAny_pyIter_list pl.isList (pi_one (tk := s1.toks) I1 _ (turn_list a _) ⟨_, Heap.get?_push_size _ rfl, rfl, rfl⟩ q)
  · cases r1
    obtain ⟨its, _, pl, _⟩ := I1.tuple sq
    exact wpAny_pyIter_tuple pl (pi_one (tk := s1.toks) I1 _ (turn_tuple a _) ⟨_, Heap.get?_push_size _ rfl, rfl, rfl⟩ q)
  · obtain ⟨t, rfl⟩ := r1
    cases hq : z.cps.all fun c => c < 128 with
    | false => exact wpAny_pyIter_wide hq (pi_one (tk := s1.toks) I1 _ (turn_str _ z t "str_iterator" (Or.inr rfl)) ⟨_, Heap.get?_push_size _ rfl, rfl, rfl⟩ q)
    | true => exact wpAny_pyIter_ascii hq (pi_one (tk := s1.toks) I1 _ (turn_str _ z t "str_ascii_iterator" (Or.inl rfl)) ⟨_, Heap.get?_push_size _ rfl, rfl, rfl⟩ q)
theorem pif_any {tg e : Expr} {f : FE} (he : PF X W e f) : PIf X W tg e (iE f) := by
  refine pi_imp (pi_any he) fun σ H R ⟨g, ρ, w, hK, r, e, q⟩ => ?_
  refine lX_bind hK r e q fun v H1 g1 d w1 x r1 e1 dv z => ?_
  have hK1 := x.k.trans hK
  cases dv with
  | lst sq da => exact .inl ⟨_, _, rfl, hK1 ▸ r1.sqL sq, hK1 ▸ z _ H1 g1 (Xt.refl _) r1 (wk_list sq da)⟩
  | tup sq da => exact .inr (.inl ⟨_, _, rfl, hK1 ▸ r1.sqT sq, hK1 ▸ z _ H1 g1 (Xt.refl _) r1 (wk_tup sq da)⟩)
  | str y => exact .inr (.inr ⟨_, rfl, z _ H1 g1 (Xt.refl _) r1 wk_str⟩)
  | _ => exact z.elim
/-- range(n), range(a, b) -/
def rgD (lo hi : Int) : List PyData := (List.range (hi - lo).toNat).map fun i => .int (lo + (i : Nat))
theorem wk_rng {g : Gd} {lo hi : Int} : WkD (Itr lo (hi - lo).toNat) g (rgD lo hi) where
  stop := fun g' H w x r => by show (hi - lo).toNat ≤ _; simp [rgD]
  go := fun g' H w i x r hi' => by show i < (hi - lo).toNat; simpa [rgD] using hi'
  yld := fun g' H w i v H2 x r hi' y => by
    obtain ⟨e, rfl⟩ := y
    subst e
    have hi2 : i < (hi - lo).toNat := by simpa [rgD] using hi'
    exact ⟨g', .int (lo + (i : Nat)), by simp [rgD, hi2], Xt.refl _, r, .int _⟩
def c62 (i : Int) : Bool := decide (i.natAbs < 2 ^ 61)
def iR1 (fa : FA) : FA := fun ρ w => (fa ρ w).bind fun ds w1 => match ds with
  | [.int j] => Oc.on (c62 j) (.ok (rgD 0 j) w1)
  | _ => .no
def iR2 (fa : FA) : FA := fun ρ w => (fa ρ w).bind fun ds w1 => match ds with
  | [.int i, .int j] => Oc.on (c62 i && c62 j) (.ok (rgD i j) w1)
  | _ => .no
theorem pif_range1 {tg a : Expr} {fa : FA} {p pos : Pos} (hg : Gl X "range") (hm : X.mg "range" = none) (ha : PAf X W [a] fa) (hs : starEach [a] X.env = [(false, eval a X.env)] := by rfl) : PIf X W tg (.Call (.Name "range" p) [a] [] pos) (iR1 fa) := by
  refine pi_imp (pi_range1 hg hm ha hs) fun σ H R ⟨g, ρ, w, hK, r, e, q⟩ => ?_
  refine lX_bind hK r e q fun v H1 g1 d w1 x r1 e1 dv z => ?_
  split at z
  · cases dv with
    | cons d0 dn =>
      cases dn; cases d0
      obtain ⟨hb, z⟩ := z.on
      have hb := of_decide_eq_true hb
      refine ⟨_, rfl, by omega, by omega, ?_⟩
      have := z _ H1 g1 (Xt.refl _) r1 (wk_rng (lo := 0))
      rw [Int.sub_zero] at this
      exact this
  · exact z.elim
theorem pif_range2 {tg a b : Expr} {fa : FA} {p pos : Pos} (hg : Gl X "range") (hm : X.mg "range" = none) (ha : PAf X W [a, b] fa) (hs : starEach [a, b] X.env = [(false, eval a X.env), (false, eval b X.env)] := by rfl) (hs2 : starEach [b] X.env = [(false, eval b X.env)] := by rfl) : PIf X W tg (.Call (.Name "range" p) [a, b] [] pos) (iR2 fa) := by
  refine pi_imp (pi_range2 hg hm ha hs hs2) fun σ H R ⟨g, ρ, w, hK, r, e, q⟩ => ?_
  refine lX_bind hK r e q fun v H1 g1 d w1 x r1 e1 dv z => ?_
  split at z
  · cases dv with
    | cons d0 dn =>
      cases d0
      cases dn with
      | cons d1 dn =>
        cases dn; cases d1
        obtain ⟨hb, z⟩ := z.on
        rw [Bool.and_eq_true] at hb
        have h1 := of_decide_eq_true hb.1
        have h2 := of_decide_eq_true hb.2
        exact ⟨_, _, rfl, ⟨by omega, by omega, by omega, by omega⟩, z _ H1 g1 (Xt.refl _) r1 wk_rng⟩
  · exact z.elim
/-- zip(xs, ys): two lists, two tuples -/
def zipD : List PyData → List PyData → List PyData
  | a :: as, b :: bs => .tuple [a, b] :: zipD as bs
  | _, _ => []
theorem zipD_len : ∀ (as bs : List PyData), (zipD as bs).length = min as.length bs.length
  | [], _ => by simp [zipD]
  | _ :: _, [] => by simp [zipD]
  | _ :: as, _ :: bs => by simp [zipD, zipD_len as bs]
theorem zipD_get : ∀ {as bs : List PyData} {i : Nat} {a b : PyData}, as[i]? = some a → bs[i]? = some b → (zipD as bs)[i]? = some (.tuple [a, b])
  | [], _, _, _, _, h, _ => by simp at h
  | _ :: _, [], _, _, _, _, h => by simp at h
  | _ :: _, _ :: _, 0, _, _, h1, h2 => by simp at h1 h2; simp [zipD, h1, h2]
  | _ :: as, _ :: bs, i + 1, a, b, h1, h2 => by
    simp only [List.getElem?_cons_succ, zipD] at h1 h2 ⊢
    exact zipD_get h1 h2
theorem wk_pair {J : It} {g : Gd} {xs ys : List V} {as bs : List PyData} {G : Hp → Prop} (k : Walk J (min xs.length ys.length) G (YPair (fun i => xs[i]?) (fun i => ys[i]?))) (hG : ∀ g' H w, Xt0 g g' → Rp g' H w → G H) (da : DqA g xs as) (db : DqA g ys bs) : WkD J g (zipD as bs) where
  stop := fun g' H w x r => by
    rw [zipD_len, ← da.length, ← db.length]
    exact k.stops H (hG g' H w x r)
  go := fun g' H w i x r hi => k.goes i H (by rw [zipD_len, ← da.length, ← db.length] at hi; exact hi) (hG g' H w x r)
  yld := fun g' H w i v H2 x r hi y => by
    rw [zipD_len] at hi
    obtain ⟨T, a, b, rfl, hT, rfl, ha, hb⟩ := k.yields i H v H2 (by rw [da.length, db.length]; exact hi) (hG g' H w x r) y
    have ha' := List.getElem?_eq_getElem (show i < as.length by omega)
    have hb' := List.getElem?_eq_getElem (show i < bs.length by omega)
    obtain ⟨a', h1, h2⟩ := da.get ha'
    obtain ⟨b', h3, h4⟩ := db.get hb'
    have ha : xs[i]? = some a := ha
    have hb : ys[i]? = some b := hb
    rw [ha] at h1
    rw [hb] at h3
    cases h1
    cases h3
    exact ⟨g'.put T (.tup [a, b]), _, zipD_get ha' hb', Xt.put (r.fnone hT), r.put hT, newT r hT (.cons (h2.mono x _ _) (.cons (h4.mono x _ _) .nil))⟩
def iZ (fa : FA) : FA := fun ρ w => (fa ρ w).bind fun ds w1 => match ds with
  | [.list as, .list bs] => .ok (zipD as bs) w1
  | [.tuple as, .tuple bs] => .ok (zipD as bs) w1
  | _ => .no
theorem pif_zip {a b : Expr} {fa : FA} {p pos tpos : Pos} {elts : List Expr} {kk : Nat} (hg : Gl X "zip") (hm : X.mg "zip" = none) (ha : PAf X W [a, b] fa) (hs : starEach [a, b] X.env = (false, eval a X.env) :: starEach [b] X.env := by rfl) (hpl : (backTo pos (starEach [b] X.env)).any (·.1) = false := by rfl) :
    PIf X W (.Tuple elts kk tpos) (.Call (.Name "zip" p) [a, b] [] pos) (iZ fa) := by
  refine pi_imp (RZ.pi_zipA hg hm ha hs hpl) fun σ H R ⟨g, ρ, w, hK, r, e, q⟩ => ?_
  refine lX_bind hK r e q fun v H1 g1 d w1 x r1 e1 dv z => ?_
  have hK1 := x.k.trans hK
  split at z
  · cases dv with
    | cons d0 dn =>
      cases dn with
      | cons d1 dn =>
        cases dn
        cases d0 with
        | lst s0 a0 =>
          cases d1 with
          | lst s1 a1 =>
            refine ⟨_, _, _, _, rfl, .inl ⟨hK1 ▸ r1.sqL s0, hK1 ▸ r1.sqL s1, hK1 ▸ z _ H1 g1 (Xt.refl _) r1 (wk_pair (walk_zip rfl) (fun g' H w x r => ?_) a0 a1)⟩⟩
            exact ⟨x.k ▸ r.sqL (x.sqL s0), x.k ▸ r.sqL (x.sqL s1)⟩
  · cases dv with
    | cons d0 dn =>
      cases dn with
      | cons d1 dn =>
        cases dn
        cases d0 with
        | tup s0 a0 =>
          cases d1 with
          | tup s1 a1 =>
            refine ⟨_, _, _, _, rfl, .inr ⟨hK1 ▸ r1.sqT s0, hK1 ▸ r1.sqT s1, hK1 ▸ z _ H1 g1 (Xt.refl _) r1 (wk_pair walk_zipT (fun g' H w x r => ?_) a0 a1)⟩⟩
            exact ⟨x.k ▸ r.sqT (x.sqT s0), x.k ▸ r.sqT (x.sqT s1)⟩
  · exact z.elim

/-! ### for -/
def forL (gt : FG) (body : FS) : List PyData → Ev → Ws → Os
  | [], ρ, w => .nx ρ w
  | d :: ds, ρ, w => match gt d ρ w with
    | .ok ρ1 w1 => match body ρ1 w1 with
      | .nx ρ2 w2 => forL gt body ds ρ2 w2
      | .ct ρ2 w2 => forL gt body ds ρ2 w2
      | .bk ρ2 w2 => .nx ρ2 w2
      | o => o
    | _ => .no
def sFor (fi : FA) (gt : FG) (body : FS) : FS := fun ρ w => (fi ρ w).thenS ρ fun ds w1 => forL gt body ds ρ w1
theorem psf_for {tg iter : Expr} {body : List Stmt} {pos : Pos} {fi : FA} {gt : FG} {is : List Nat} {fb : FS} (hp : PassesOwn (model X.prog X.w) X.A X.env X.xe) (hc : X.calm = true) (hi : PIf X W tg iter fi) (hg : PGf X is tg gt) (hb : PSsf X W body fb)
    (hs : ∀ x, foldedSetIterable iter X.env x = pure x := by intro _; rfl) : PSf X W (.For tg iter body [] pos) (sFor fi gt fb) := by
  refine ps_imp (ps_for hp hc hi hg hb hs) fun D σ H ⟨g, ρ, w, hK, r, e, q⟩ => ?_
  refine lX_then hK r e q fun J H1 g1 ds w1 x r1 e1 wk z => ?_
  refine ⟨fun i m σ' H' => m = ds.length - i ∧ i ≤ ds.length ∧ ∃ g' ρ' w', Xt g1 g' ∧ Rp g' H' w' ∧ EnR g' σ' ρ' ∧ oSt W g' D (forL gt fb (ds.drop i) ρ' w'), ⟨ds.length, by simp, Nat.zero_le _, g1, ρ, w1, Xt.refl _, r1, e1, z⟩, ?_⟩
  rintro i m σ' H' ⟨rfl, hi, g', ρ', w', x', r', e', z'⟩
  by_cases hlt : i < ds.length
  · refine .inr ⟨wk.go g' H' w' i x'.toXt0 r' hlt, fun σ2 H2 => i + 1 ≤ ds.length ∧ ∃ g2 ρ2 w2, Xt g1 g2 ∧ Rp g2 H2 w2 ∧ EnR g2 σ2 ρ2 ∧ oSt W g2 D (forL gt fb (ds.drop (i + 1)) ρ2 w2), fun σ2 H2 n => ⟨ds.length - (i + 1), by omega, rfl, n⟩, fun v H2 y => ?_⟩
    obtain ⟨g2, d, hd, x2, r2, dv⟩ := wk.yld g' H' w' i v H2 x'.toXt0 r' hlt y
    have ed : ds.drop i = d :: ds.drop (i + 1) := by
      rw [List.drop_eq_getElem_cons hlt]
      rw [List.getElem?_eq_getElem hlt] at hd
      rw [Option.some.inj hd]
    rw [ed, forL] at z'
    refine ⟨g2, ρ', w', d, x2.k.trans (x'.k.trans (x.k.trans hK)), r2, e'.mono x2, dv, ?_⟩
    cases hgt : gt d ρ' w' with
    | ok ρ1 w1' =>
      rw [hgt] at z'
      refine fun σ3 H3 g3 x3 r3 e3 _ => ⟨g3, ρ1, w1', x3.k.trans (x2.k.trans (x'.k.trans (x.k.trans hK))), r3, e3, ?_⟩
      have z' := oSt.mono (x2.trans x3) z'
      have up : Xt g1 g3 := x'.trans (x2.trans x3)
      simp only at z'
      cases hb' : fb ρ1 w1' with
      | nx ρ2 w2 =>
        rw [hb'] at z'
        exact fun σ4 H4 g4 x4 r4 e4 => ⟨hlt, g4, ρ2, w2, up.trans x4, r4, e4, oSt.mono x4 z'⟩
      | ct ρ2 w2 =>
        rw [hb'] at z'
        exact fun σ4 H4 g4 x4 r4 e4 => ⟨hlt, g4, ρ2, w2, up.trans x4, r4, e4, oSt.mono x4 z'⟩
      | bk ρ2 w2 => rw [hb'] at z'; exact z'
      | rt d w2 => rw [hb'] at z'; exact z'
      | ex ρ2 c fs w2 => rw [hb'] at z'; exact z'
      | no => rw [hb'] at z'; exact z'
    | ex c fs w2 => rw [hgt] at z'; exact z'.elim
    | no => rw [hgt] at z'; exact z'.elim
  · have ei : i = ds.length := by omega
    subst ei
    rw [List.drop_length, forL] at z'
    exact .inl ⟨wk.stop g' H' w' x'.toXt0 r', z' σ' H' g' (Xt.refl _) r' e'⟩
end
end Td

set_option Elab.async false
set_option linter.all false
set_option maxRecDepth 100000
set_option maxHeartbeats 4000000
namespace Td
open PySem L2
/-! ### comprehensions -/
def wipeE (ρ : Ev) : List Nat → Ev
  | [] => ρ
  | v :: vs => (wipeE ρ vs).set v none
theorem wipeE_len (ρ : Ev) : ∀ vs, (wipeE ρ vs).length = ρ.length
  | [] => rfl
  | v :: vs => by unfold wipeE; rw [List.length_set, wipeE_len ρ vs]
theorem wipe_get (σ : St) (j : Nat) : ∀ vs, j ∉ vs → (wipe σ vs)[j]? = σ[j]?
  | [], _ => rfl
  | v :: vs, h => by
    unfold wipe
    rw [List.getElem?_set_ne (fun e => h (by rw [e]; exact List.mem_cons_self))]
    exact wipe_get σ j vs fun z => h (List.mem_cons_of_mem _ z)
theorem wipe_at (σ : St) (j : Nat) : ∀ vs, j ∈ vs → j < σ.length → (wipe σ vs)[j]? = some none
  | v :: vs, h, hl => by
    unfold wipe
    by_cases e : v = j
    · subst e
      rw [List.getElem?_set_self (by rw [wipe_length]; exact hl)]
    · rw [List.getElem?_set_ne e]
      rcases List.mem_cons.mp h with z | z
      · exact absurd z.symm e
      · exact wipe_at σ j vs z hl
theorem EnR.wipe {g : Gd} {σ : St} {ρ : Ev} (e : EnR g σ ρ) : ∀ vs, EnR g (wipe σ vs) (wipeE ρ vs)
  | [] => e
  | v :: vs => by
    have h := EnR.wipe e vs
    refine ⟨by unfold L2.wipe wipeE; rw [List.length_set, List.length_set]; exact h.len, fun j c hj => ?_⟩
    unfold wipeE at hj
    by_cases q : v = j
    · subst q
      by_cases z : v < (wipeE ρ vs).length
      · rw [List.getElem?_set_self z] at hj; cases hj
      · rw [List.getElem?_eq_none (by rw [List.length_set]; omega)] at hj; cases hj
    · rw [List.getElem?_set_ne q] at hj
      unfold L2.wipe
      rw [List.getElem?_set_ne q]
      exact h.at_ j c hj
theorem wipe_of_sm {is vs : List Nat} {σ σ' : St} (h : Sm is (wipe σ vs) σ') (hs : ∀ i ∈ is, i ∈ vs) : wipe σ' vs = wipe σ vs := by
  have hl : σ'.length = σ.length := h.1.trans (wipe_length σ vs)
  refine List.ext_getElem? fun j => ?_
  by_cases hj : j ∈ vs
  · by_cases hb : j < σ.length
    · rw [wipe_at σ' j vs hj (by omega), wipe_at σ j vs hj hb]
    · rw [List.getElem?_eq_none (by rw [wipe_length]; omega), List.getElem?_eq_none (by rw [wipe_length]; omega)]
  · rw [wipe_get σ' j vs hj, h.2 j fun z => hj (hs j z)]
def lcL (gt : FG) (tt : FT) (fe : FE) (ρ : Ev) : List PyData → Ws → List PyData → Oc (List PyData)
  | [], w, acc => .ok acc w
  | d :: ds, w, acc => match gt d ρ w with
    | .ok ρ1 w1 => match tt ρ1 w1 with
      | .ok true w2 => match fe ρ1 w2 with
        | .ok y w3 => if acc.length < sizeLine then lcL gt tt fe ρ ds w3 (acc ++ [y]) else .no
        | _ => .no
      | .ok false w2 => lcL gt tt fe ρ ds w2 acc
      | _ => .no
    | _ => .no
def eLc (fi : FA) (gt : FG) (tt : FT) (fe : FE) (vs : List Nat) : FE := fun ρ w => (fi ρ w).bind fun ds w1 => (lcL gt tt fe (wipeE ρ vs) ds w1 []).bind fun acc w2 => .ok (.list acc) w2
def W0 : WX := fun _ _ _ _ => False
def Gd.pn (g : Gd) (P : Hp) : Gd := { g with P := P }
theorem Gd.pn_xt (g : Gd) (P : Hp) : Xt0 g (g.pn P) := ⟨rfl, fun _ _ h => h, fun _ _ => rfl, Nat.le_refl _⟩
theorem Gd.pn_xt' (g : Gd) (P : Hp) : Xt0 (g.pn P) g := ⟨rfl, fun _ _ h => h, fun _ _ => rfl, Nat.le_refl _⟩
theorem tests_imp {X : Cx} {e : List Expr} {t t' : TT} (h : PTs X e t) (i : ∀ σ H Q, t' σ H Q → t σ H Q) : PTs X e t' := ⟨fun pins s σ H Q I q => h.run pins s σ H Q I (i σ H Q q)⟩
def tYs : FT := fun _ w => .ok true w
section
variable {X : Cx} {W : WX}
theorem ptsf_nil : PTs X [] (lT X.K W tYs) := tests_imp pts_nil fun σ H Q ⟨g, ρ, w, hK, r, e, q⟩ => q true H g (Xt.refl g) r rfl
theorem ptsf_one {e : Expr} {t : FT} (h : PTf X W e t) : PTs X [e] (lT X.K W t) := pts_one h
/-- the new list at D, which others hold -/
theorem pin_new {g : Gd} {H : Hp} {w : Ws} (r : Rp g H w) {D : Addr} (hD : H D = none) (o : HO) : Rp (g.pn (upd g.P D o)) (upd H D o) w where
  fro := fun a u e => by
    have e : g.F a = some u := e
    rw [upd_ne (ne_of_none e (r.fnone hD))]
    exact r.fro a u e
  len := r.len
  cell := fun l ob e => (r.cell l ob e).new (g.pn_xt _) fun b hb => by
    have nb : b ≠ D := fun z => by subst z; rw [hD] at hb; cases hb
    exact ⟨rfl, upd_ne nb⟩
  inj := r.inj
  pin := fun a u e => by
    have e : upd g.P D o a = some u := e
    by_cases q : a = D
    · subst q
      rw [upd_same] at e ⊢
      refine ⟨e, r.fnone hD, fun l hl z => ?_⟩
      have hlw : l < w.length := by rw [← r.len]; exact hl
      obtain ⟨o', ho⟩ := (r.cell l _ (List.getElem?_eq_getElem hlw)).there
      have z : g.μ l = a := z
      rw [z, hD] at ho
      cases ho
    · rw [upd_ne q] at e ⊢
      exact r.pin a u e
/-- it grows -/
theorem pin_set {g : Gd} {H : Hp} {w : Ws} {P : Hp} {D : Addr} {o o' : HO} (r : Rp g H w) (hP : g.P = upd P D o) (hno : ∀ a, o ≠ .own a) : Rp (g.pn (upd P D o')) (upd H D o') w := by
  obtain ⟨h1, h2, h3⟩ := r.pin D o (by rw [hP]; exact upd_same)
  refine ⟨fun a u e => ?_, r.len, fun l ob e => ?_, r.inj, fun a u e => ?_⟩
  · have e : g.F a = some u := e
    rw [upd_ne (ne_of_none e h2)]
    exact r.fro a u e
  · have hl : l < g.n := by rw [r.len]; exact (List.getElem?_eq_some_iff.mp e).1
    have nD := h3 l hl
    have c := r.cell l ob e
    cases ob with
    | lst ds =>
      obtain ⟨hn, xs, h, d⟩ := c
      exact ⟨hn, xs, (upd_ne nD).trans h, d.mono (g.pn_xt _) _ _⟩
    | dK kvs =>
      obtain ⟨hn, ks, h, d⟩ := c
      exact ⟨hn, ks, (upd_ne nD).trans h, d.mono (g.pn_xt _)⟩
    | ins C fs =>
      obtain ⟨hn, dx, gs, ⟨C', hC, h⟩, hd, hn2, d⟩ := c
      have nx : dx ≠ D := fun z => by rw [z, h1] at hd; exact hno _ (Option.some.inj hd)
      exact ⟨hn, dx, gs, ⟨C', hC, (upd_ne nD).trans h⟩, (upd_ne nx).trans hd, hn2, d.mono (g.pn_xt _)⟩
    | dead =>
      obtain ⟨o2, h⟩ := c
      exact ⟨o2, (upd_ne nD).trans h⟩
  · have e : upd P D o' a = some u := e
    by_cases q : a = D
    · subst q
      rw [upd_same] at e ⊢
      exact ⟨e, h2, h3⟩
    · rw [upd_ne q] at e ⊢
      exact r.pin a u (by rw [hP, upd_ne q]; exact e)
/-- it is given out -/
theorem pin_out {g : Gd} {H : Hp} {w : Ws} {P : Hp} {D : Addr} {o : HO} (r : Rp g H w) (hP : g.P = upd P D o) (hno : ∀ a, o ≠ .own a) (hD : P D = none) : Rp { g with P := P, F := upd g.F D o } H w := by
  obtain ⟨h1, h2, h3⟩ := r.pin D o (by rw [hP]; exact upd_same)
  have x : Xt0 g { g with P := P, F := upd g.F D o } := ⟨rfl, fun a u e => (upd_ne (ne_of_none e h2)).trans e, fun _ _ => rfl, Nat.le_refl _⟩
  refine ⟨fun a u e => ?_, r.len, fun l ob e => ?_, r.inj, fun a u e => ?_⟩
  · have e : upd g.F D o a = some u := e
    by_cases q : a = D
    · subst q
      rw [upd_same] at e
      exact h1.trans e
    · rw [upd_ne q] at e
      exact r.fro a u e
  · have hl : l < g.n := by rw [r.len]; exact (List.getElem?_eq_some_iff.mp e).1
    have nD := h3 l hl
    have c := r.cell l ob e
    cases ob with
    | lst ds =>
      obtain ⟨hn, xs, h, d⟩ := c
      exact ⟨(upd_ne nD).trans hn, xs, h, d.mono x _ _⟩
    | dK kvs =>
      obtain ⟨hn, ks, h, d⟩ := c
      exact ⟨(upd_ne nD).trans hn, ks, h, d.mono x⟩
    | ins C fs =>
      obtain ⟨hn, dx, gs, ⟨C', hC, h⟩, hd, hn2, d⟩ := c
      have nx : dx ≠ D := fun z => by rw [z, h1] at hd; exact hno _ (Option.some.inj hd)
      exact ⟨(upd_ne nD).trans hn, dx, gs, ⟨C', hC, h⟩, hd, (upd_ne nx).trans hn2, d.mono x⟩
    | dead =>
      obtain ⟨o2, h⟩ := c
      exact ⟨o2, h⟩
  · have e : P a = some u := e
    have na : a ≠ D := fun z => by rw [z, hD] at e; cases e
    obtain ⟨q1, q2, q3⟩ := r.pin a u (by rw [hP, upd_ne na]; exact e)
    exact ⟨q1, (upd_ne na).trans q2, q3⟩
theorem lc_of {fi : FA} {gt : FG} {tt : FT} {fe : FE} {vs is : List Nat} {K : PySem.W.Frag} (hs : ∀ i ∈ is, i ∈ vs) : ∀ σ H Q, lE K W (eLc fi gt tt fe vs) σ H Q → tLc (lI K W fi) (lG K is gt) (lT K W0 tt) (lE K W0 fe) vs σ H Q := fun σ H Q ⟨g, ρ, w, hK, r, e, q⟩ => by
  refine lX_bind hK r e q fun J H1 g1 ds w1 x r1 e1 wk z => ?_
  intro D hD
  have hK1 := x.k.trans hK
  have pD : g1.P D = none := by
    cases h : g1.P D with
    | none => rfl
    | some o => rw [(r1.pin D o h).1] at hD; cases hD
  have r0 := pin_new r1 hD (.lst [])
  refine ⟨fun i m H' => m = ds.length - i ∧ i ≤ ds.length ∧ ∃ g' w' acc dacc, Xt0 g1 g' ∧ g'.P = upd g1.P D (.lst acc) ∧ Rp g' H' w' ∧ DqA g' acc dacc ∧ lcL gt tt fe (wipeE ρ vs) (ds.drop i) w' dacc = lcL gt tt fe (wipeE ρ vs) ds w1 [],
    ⟨ds.length, by simp, Nat.zero_le _, _, w1, [], [], g1.pn_xt _, rfl, r0, .nil, rfl⟩, ?_⟩
  rintro i m H' ⟨rfl, hi, g', w', acc, dacc, x', hP, r', da, z'⟩
  by_cases hlt : i < ds.length
  · refine .inr ⟨wk.go g' H' w' i x' r' hlt, fun H2 => i + 1 ≤ ds.length ∧ ∃ g' w' acc dacc, Xt0 g1 g' ∧ g'.P = upd g1.P D (.lst acc) ∧ Rp g' H2 w' ∧ DqA g' acc dacc ∧ lcL gt tt fe (wipeE ρ vs) (ds.drop (i + 1)) w' dacc = lcL gt tt fe (wipeE ρ vs) ds w1 [],
      fun H2 n => ⟨ds.length - (i + 1), by omega, rfl, n⟩, fun v H2 y => ?_⟩
    obtain ⟨g2, d, hd, x2, r2, dv⟩ := wk.yld g' H' w' i v H2 x' r' hlt y
    have ed : ds.drop i = d :: ds.drop (i + 1) := by
      rw [List.drop_eq_getElem_cons hlt]
      rw [List.getElem?_eq_getElem hlt] at hd
      rw [Option.some.inj hd]
    rw [ed, lcL] at z'
    rw [← z'] at z
    refine ⟨g2, wipeE ρ vs, w', d, x2.k.trans (x'.k.trans hK1), r2, (e1.mono (x'.trans x2.toXt0)).wipe vs, dv, ?_⟩
    cases hgt : gt d (wipeE ρ vs) w' with
    | ok ρ1 w1' =>
      rw [hgt] at z z'
      refine fun σ3 H3 g3 x3 r3 e3 sm => ⟨wipe_of_sm sm hs, g3, ρ1, w1', x3.k.trans (x2.k.trans (x'.k.trans hK1)), r3, e3, ?_⟩
      simp only at z z'
      cases htt : tt ρ1 w1' with
      | ok b w2 =>
        rw [htt] at z z'
        intro b' H4 g4 x4 r4 eb
        subst eb
        have P4 : g4.P = upd g1.P D (.lst acc) := x4.p.trans (x3.p.trans (x2.p.trans hP))
        have y4 : Xt0 g1 g4 := x'.trans (x2.toXt0.trans (x3.toXt0.trans x4.toXt0))
        have da4 : DqA g4 acc dacc := da.mono (x2.toXt0.trans (x3.toXt0.trans x4.toXt0)) _ _
        cases b' with
        | false => exact iteF ⟨hlt, g4, w2, acc, dacc, y4, P4, r4, da4, z'⟩
        | true =>
          refine iteT ⟨g4, ρ1, w2, y4.k.trans hK1, r4, e3.mono x4.toXt0, ?_⟩
          simp only at z z'
          cases hfe : fe ρ1 w2 with
          | ok d5 w3 =>
            rw [hfe] at z z'
            intro v5 H5 g5 x5 r5 dv5
            simp only at z z'
            have P5 : g5.P = upd g1.P D (.lst acc) := x5.p.trans P4
            by_cases hsz : dacc.length < sizeLine
            · rw [if_pos hsz] at z'
              have pD5 := r5.pin D (.lst acc) (by rw [P5]; exact upd_same)
              refine ⟨acc, pD5.1, by rw [da.length]; exact hsz, hlt, g5.pn (upd g1.P D (.lst (acc ++ [v5]))), w3, acc ++ [v5], dacc ++ [d5], (y4.trans x5.toXt0).trans (g5.pn_xt _), rfl, pin_set r5 P5 (fun a z => nomatch z), ?_, z'⟩
              exact (da4.mono (x5.toXt0.trans (g5.pn_xt _)) _ _).append (.cons (dv5.mono (g5.pn_xt _) _ _) .nil)
            · rw [if_neg hsz] at z
              exact z.elim
          | ex c fs w3 => rw [hfe] at z; exact z.elim
          | no => rw [hfe] at z; exact z.elim
      | ex c fs w2 => rw [htt] at z; exact z.elim
      | no => rw [htt] at z; exact z.elim
    | ex c fs w2 => rw [hgt] at z; exact z.elim
    | no => rw [hgt] at z; exact z.elim
  · have ei : i = ds.length := by omega
    subst ei
    rw [List.drop_length, lcL] at z'
    rw [← z'] at z
    refine .inl ⟨wk.stop g' H' w' x' r', ?_⟩
    have pD' := r'.pin D (.lst acc) (by rw [hP]; exact upd_same)
    have xo : Xt0 g' { g' with P := g1.P, F := upd g'.F D (.lst acc) } := ⟨rfl, fun a u e => (upd_ne (ne_of_none e pD'.2.1)).trans e, fun _ _ => rfl, Nat.le_refl _⟩
    exact z _ H' { g' with P := g1.P, F := upd g'.F D (.lst acc) } ⟨x'.trans xo, rfl⟩ (pin_out r' hP (fun a z => nomatch z) pD) (.lst (SqL.of upd_same) (da.mono xo _ _))
theorem pf_lc {elt tg iter : Expr} {ifs : List Expr} {scope : Scope} {own : List (Str × Nat)} {pos : Pos} {fi : FA} {gt : FG} {tt : FT} {fe : FE} {is : List Nat} (hc : X.calm = true) (hN : X.N.Nodup) (hi : PIf X W tg iter fi) (ok : BlkOk X.N X.env.scope scope own)
    (hg : ∀ (s : Shared) (H : Hp) (C : Addr) (cl : List (Str × Addr)) (fp : List Addr), PGf (X.blk s H scope (compEnvC scope cl C X.env) fp) is tg gt)
    (ht : ∀ (s : Shared) (H : Hp) (C : Addr) (cl : List (Str × Addr)) (fp : List Addr), PTs (X.blk s H scope (compEnvC scope cl C X.env) fp) ifs (lT X.K W0 tt))
    (he : ∀ (s : Shared) (H : Hp) (C : Addr) (cl : List (Str × Addr)) (fp : List Addr), PF (X.blk s H scope (compEnvC scope cl C X.env) fp) W0 elt fe)
    (hs : ∀ x, foldedSetIterable iter X.env x = pure x := by intro _; rfl) (his : ∀ i ∈ is, i ∈ own.map (·.2) := by decide) :
    PF X W (.ListComp elt [⟨tg, iter, ifs, 0⟩] scope pos) (eLc fi gt tt fe (own.map (·.2))) := pe_imp (pe_lc hc hN hi ok hg ht he hs) (lc_of his)
theorem psf_setLc {i : Nat} {y : Str} {py : Pos} {elt tg iter : Expr} {ifs : List Expr} {scope : Scope} {own : List (Str × Nat)} {pos spos : Pos} {fi : FA} {gt : FG} {tt : FT} {fe : FE} {is : List Nat} (hc : X.calm = true) (hN : X.N.Nodup) (hy : X.N[i]? = some y) (hyl : X.env.scope.names.lookup y = some .local)
    (hsw : swapsWith (.ListComp elt [⟨tg, iter, ifs, 0⟩] scope pos) (some (.Name y py)) spos.line X.env = pure true) (hi : PIf X W tg iter fi) (ok : BlkOk X.N X.env.scope scope own)
    (hg : ∀ (s : Shared) (H : Hp) (C : Addr) (cl : List (Str × Addr)) (fp : List Addr), PGf (X.blk s H scope (compEnvC scope cl C X.env) fp) is tg gt)
    (ht : ∀ (s : Shared) (H : Hp) (C : Addr) (cl : List (Str × Addr)) (fp : List Addr), PTs (X.blk s H scope (compEnvC scope cl C X.env) fp) ifs (lT X.K W0 tt))
    (he : ∀ (s : Shared) (H : Hp) (C : Addr) (cl : List (Str × Addr)) (fp : List Addr), PF (X.blk s H scope (compEnvC scope cl C X.env) fp) W0 elt fe)
    (hs : ∀ x, foldedSetIterable iter X.env x = pure x := by intro _; rfl) (his : ∀ i ∈ is, i ∈ own.map (·.2) := by decide) :
    PSf X W (.Assign [.Name y py] (.ListComp elt [⟨tg, iter, ifs, 0⟩] scope pos) spos) (sAsg (eLc fi gt tt fe (own.map (·.2))) (gN i)) := by
  refine ps_imp (ps_setLc (g := lG X.K is gt) (tt := lT X.K W0 tt) (te := lE X.K W0 fe) hc hN hy hyl hsw hi ok hg ht he hs) fun D σ H q => ?_
  obtain ⟨g, ρ, w, hK, r, e, q⟩ := q
  refine lc_of (W := W) his σ H _ ?_
  exact lX_then hK r e q fun v H1 g1 d w1 x r1 e1 dv z => z _ H1 g1 (Xt.refl _) r1 (e1.set i dv)
end
end Td

set_option Elab.async false
set_option linter.all false
set_option maxRecDepth 100000
set_option maxHeartbeats 4000000
namespace Td
open PySem L2
/-! ### dicts of the store -/
def valD (kvs : List (Key × PyData)) (k : Key) : Option PyData := (kvs.find? fun kv => decide (kv.1 = k)).map (·.2)
def putD (kvs : List (Key × PyData)) (k : Key) (v : PyData) : List (Key × PyData) :=
  if (kvs.any fun kv => decide (kv.1 = k)) = true then kvs.map (fun kv => if kv.1 = k then (kv.1, v) else kv) else kvs ++ [(k, v)]
def mergeD (kvs more : List (Key × PyData)) : List (Key × PyData) := more.foldl (fun acc kv => putD acc kv.1 kv.2) kvs
def keyD : PyData → Option Key
  | .int i => some (.inl i)
  | .str x => some (.inr x)
  | _ => none
theorem keyD_ok {g : Gd} {v : V} {d : PyData} (h : Dq g v d) {k : Key} (e : keyD d = some k) : v = kV k := by
  cases h <;> cases e <;> rfl
theorem KvR.val {g : Gd} : ∀ {ks : List (Key × V)} {kvs : List (Key × PyData)} {k : Key} {d : PyData}, KvR g ks kvs → valD kvs k = some d → ∃ v, valV ks k = some v ∧ Dq g v d
  | _, _, _, _, .nil, e => by simp [valD] at e
  | p :: ks, q :: kvs, k, d, .cons h t, e => by
    have hk : p.1 = q.1 := h.1
    by_cases z : q.1 = k
    · have e' : some q.2 = some d := by simpa [valD, List.find?_cons, z] using e
      cases e'
      exact ⟨p.2, valV_pos (hk.trans z), h.2⟩
    · have e' : valD kvs k = some d := by simpa [valD, List.find?_cons, z] using e
      obtain ⟨v, h1, h2⟩ := KvR.val t e'
      exact ⟨v, by rw [valV_neg (by rw [hk]; exact z)]; exact h1, h2⟩
theorem KvR.any {g : Gd} {k : Key} : ∀ {ks : List (Key × V)} {kvs : List (Key × PyData)}, KvR g ks kvs → (ks.any fun kv => decide (kv.1 = k)) = kvs.any fun kv => decide (kv.1 = k)
  | _, _, .nil => rfl
  | _, _, .cons h t => by rw [List.any_cons, List.any_cons, h.1, KvR.any t]
theorem KvR.map_set {g : Gd} {k : Key} {v : V} {d : PyData} (hd : Dq g v d) : ∀ {ks : List (Key × V)} {kvs : List (Key × PyData)}, KvR g ks kvs → KvR g (ks.map (fun kv => if kv.1 = k then (kv.1, v) else kv)) (kvs.map (fun kv => if kv.1 = k then (kv.1, d) else kv))
  | _, _, .nil => .nil
  | p :: ks, q :: kvs, .cons h t => by
    refine .cons ?_ (KvR.map_set hd t)
    have hk : p.1 = q.1 := h.1
    dsimp only
    by_cases z : q.1 = k
    · rw [if_pos (hk.trans z), if_pos z]; exact ⟨hk, hd⟩
    · rw [if_neg (by rw [hk]; exact z), if_neg z]; exact h
theorem KvR.append {g : Gd} {κ : Type} : ∀ {ks ls : List (κ × V)} {kvs lvs : List (κ × PyData)}, KvR g ks kvs → KvR g ls lvs → KvR g (ks ++ ls) (kvs ++ lvs)
  | _, _, _, _, .nil, s => s
  | _, _, _, _, .cons h t, s => .cons h (KvR.append t s)
theorem KvR.length {g : Gd} {κ : Type} {ks : List (κ × V)} {kvs : List (κ × PyData)} (h : KvR g ks kvs) : ks.length = kvs.length := Paired.length h
theorem KvR.put {g : Gd} {k : Key} {v : V} {d : PyData} {ks : List (Key × V)} {kvs : List (Key × PyData)} (h : KvR g ks kvs) (hd : Dq g v d) : KvR g (putK ks k v) (putD kvs k d) := by
  unfold putK putD
  rw [h.any]
  split
  · exact h.map_set hd
  · exact h.append (.cons ⟨rfl, hd⟩ .nil)
theorem KvR.merge {g : Gd} : ∀ {more : List (Key × V)} {mores : List (Key × PyData)} {ks : List (Key × V)} {kvs : List (Key × PyData)}, KvR g more mores → KvR g ks kvs → KvR g (mergeK ks more) (mergeD kvs mores)
  | _, _, _, _, .nil, s => s
  | p :: _, q :: _, _, _, .cons h t, s => by
    unfold mergeK mergeD
    rw [List.foldl_cons, List.foldl_cons]
    have hk : p.1 = q.1 := h.1
    rw [hk]
    exact KvR.merge t (s.put h.2)
section
variable {X : Cx} {W : WX}
def eDg (fa fb : FE) : FE := fun ρ w => (fa ρ w).bind fun d w1 => (fb ρ w1).bind fun e w2 => Oc.of ((dkOf w2 d).bind fun kvs => (keyD e).bind fun k => valD kvs k) w2
theorem pf_dget {o i : Expr} {pos : Pos} {fa fb : FE} (hu : X.A.units + 1 < cLine) (ho : PF X W o fa) (hi : PF X W i fb) (hs : NoSl i := by exact fun _ _ => rfl) : PF X W (.Subscript o i pos) (eDg fa fb) := by
  refine pe_imp (pe_dget hu ho hi hs) fun σ H Q ⟨g, ρ, w, hK, r, e, q⟩ => ?_
  refine lX_bind hK r e q fun v H1 g1 d w1 x r1 e1 dv z => ?_
  refine lX_bind (x.k.trans hK) r1 e1 z fun u H2 g2 c w2 x2 r2 e2 du z2 => ?_
  cases hz : (dkOf w2 d).bind fun kvs => (keyD c).bind fun k => valD kvs k with
  | none => rw [hz] at z2; exact z2.elim
  | some y =>
    rw [hz] at z2
    obtain ⟨kvs, h1, hz⟩ := Option.bind_eq_some_iff.mp hz
    obtain ⟨k, h2, h3⟩ := Option.bind_eq_some_iff.mp hz
    obtain ⟨l, xs, rfl, _, _, _, hH, kv⟩ := dkOf_ok r2 (dv.mono x2.toXt0 _ _) h1
    obtain ⟨v', h4, h5⟩ := kv.val h3
    have ek := keyD_ok du h2
    subst ek
    refine ⟨_, v', rfl, ?_, z2 _ H2 g2 (Xt.refl _) r2 h5⟩
    rw [← h4]
    exact DGet.k hH
/-- the store's cell l is written -/
theorem Rp.write {g : Gd} {H : Hp} {w : Ws} (r : Rp g H w) {l : Nat} {ob ob' : Ob} {o : HO} (hl : w[l]? = some ob) (hn : g.F (g.μ l) = none) (hno : ∀ a b, H (g.μ l) = some b → b ≠ .own a) (ho : ObR g (upd H (g.μ l) o) (g.μ l) ob') : Rp g (upd H (g.μ l) o) (w.set l ob') := by
  have hlt : l < g.n := by rw [r.len]; exact (List.getElem?_eq_some_iff.mp hl).1
  obtain ⟨o0, h0⟩ := (r.cell l ob hl).there
  refine ⟨fun a u e => ?_, by rw [List.length_set]; exact r.len, fun m ob2 e => ?_, r.inj, fun a u e => ?_⟩
  · rw [upd_ne (ne_of_none e hn)]
    exact r.fro a u e
  · by_cases q : l = m
    · subst q
      rw [List.getElem?_set_self (by rw [← r.len]; exact hlt)] at e
      cases e
      exact ho
    · rw [List.getElem?_set_ne q] at e
      have hm : m < g.n := by rw [r.len]; exact (List.getElem?_eq_some_iff.mp e).1
      have nm : g.μ m ≠ g.μ l := fun z => q (r.inj m l hm hlt z).symm
      have c := r.cell m ob2 e
      cases ob2 with
      | lst ds =>
        obtain ⟨hn, xs, h, d⟩ := c
        exact ⟨hn, xs, (upd_ne nm).trans h, d⟩
      | dK kvs =>
        obtain ⟨hn, ks, h, d⟩ := c
        exact ⟨hn, ks, (upd_ne nm).trans h, d⟩
      | ins C fs =>
        obtain ⟨hn, dx, gs, ⟨C', hC, h⟩, hd, hn2, d⟩ := c
        have nx : dx ≠ g.μ l := fun z => by rw [z] at hd; exact hno _ _ hd rfl
        exact ⟨hn, dx, gs, ⟨C', hC, (upd_ne nm).trans h⟩, (upd_ne nx).trans hd, hn2, d⟩
      | dead =>
        obtain ⟨o2, h⟩ := c
        exact ⟨o2, (upd_ne nm).trans h⟩
  · obtain ⟨q1, q2, q3⟩ := r.pin a u e
    exact ⟨(upd_ne (fun z => q3 l hlt z.symm)).trans q1, q2, q3⟩
/-- d[k] = v -/
def locOf : PyData → Option Nat
  | .dict [(.int l, .none)] => some l.toNat
  | _ => none
def sDp (fa fb fv : FE) : FS := fun ρ w => (fv ρ w).thenS ρ fun v w1 => (fa ρ w1).thenS ρ fun d w2 => (fb ρ w2).thenS ρ fun e w3 =>
  match dkOf w3 d, keyD e, locOf d with
  | some kvs, some k, some l => if kvs.length < sizeLine then .nx ρ (w3.set l (.dK (putD kvs k v))) else .no
  | _, _, _ => .no
theorem psf_dput {o i value : Expr} {pos pos' : Pos} {fa fb fv : FE} (hu : X.A.units + 1 < cLine) (ho : PF X W o fa) (hi : PF X W i fb) (hv : PF X W value fv) (hs : swapsWith value (some (.Subscript o i pos')) pos.line X.env = pure false := by rfl) : PSf X W (.Assign [.Subscript o i pos'] value pos) (sDp fa fb fv) := by
  refine ps_imp (ps_dput hu ho hi hv hs) fun D σ H ⟨g, ρ, w, hK, r, e, q⟩ => ?_
  refine lX_then hK r e q fun v H1 g1 dv w1 x r1 e1 hv' z => ?_
  refine lX_then (x.k.trans hK) r1 e1 z fun a H2 g2 d w2 x2 r2 e2 hd z2 => ?_
  refine lX_then (x2.k.trans (x.k.trans hK)) r2 e2 z2 fun u H3 g3 c w3 x3 r3 e3 hc z3 => ?_
  split at z3
  · rename_i kvs k l h1 h2 h3
    split at z3
    · rename_i hsz
      obtain ⟨l', xs, rfl, hd', hw, hn, hH, kv⟩ := dkOf_ok r3 (hd.mono x3.toXt0 _ _) h1
      have el : l = l' := by rw [hd'] at h3; simp [locOf] at h3; exact h3.symm
      subst el
      have ek := keyD_ok hc h2
      subst ek
      have kv2 := kv.put (k := k) (hv'.mono (x2.toXt0.trans x3.toXt0) _ _)
      refine ⟨_, _, rfl, DPut.k hH (by rw [kv.length]; exact hsz), ?_⟩
      refine z3 σ _ g3 (Xt.refl _) (r3.write hw hn (fun a b hb z => ?_) ⟨hn, _, upd_same, kv2⟩) e3
      rw [hH] at hb
      cases hb
      cases z
    · exact z3.elim
  · exact z3.elim
end
end Td

set_option Elab.async false
set_option linter.all false
set_option maxRecDepth 100000
set_option maxHeartbeats 4000000
namespace Td
open PySem L2
theorem lX_w0 {α β : Type} {K : PySem.W.Frag} {W : WX} {R : Gd → β → α → Prop} {f : Ev → Ws → Oc α} : ∀ σ H Q, lX K W0 R f σ H Q → lX K W R f σ H Q := fun σ H Q ⟨g, ρ, w, hK, r, e, q⟩ => by
  refine ⟨g, ρ, w, hK, r, e, ?_⟩
  cases z : f ρ w with
  | ok d w1 => rw [z] at q; exact q
  | ex c fs w1 =>
    rw [z] at q
    intro dd H1 g1 x r1 y
    exact (q dd H1 g1 x r1 y).elim
  | no => rw [z] at q; exact q.elim
theorem pf_w0 {X : Cx} {W : WX} {e : Expr} {f : FE} (h : PF X W e f) : PF X W0 e f := pe_imp h lX_w0
/-- what others hold goes into the store -/
theorem pin_alloc {g : Gd} {H : Hp} {w : Ws} {P : Hp} {D : Addr} {o o' : HO} {ob : Ob} (r : Rp g H w) (hP : g.P = upd P D o) (hno : ∀ a, o ≠ .own a) (hD : P D = none)
    (ho : ObR { g with P := P, μ := fun l => if l = g.n then D else g.μ l, n := g.n + 1 } (upd H D o') D ob) :
    Rp { g with P := P, μ := fun l => if l = g.n then D else g.μ l, n := g.n + 1 } (upd H D o') (w ++ [ob]) := by
  obtain ⟨h1, h2, h3⟩ := r.pin D o (by rw [hP]; exact upd_same)
  have x : Xt0 g { g with P := P, μ := fun l => if l = g.n then D else g.μ l, n := g.n + 1 } := ⟨rfl, fun a u e => e, fun l hl => if_neg (by omega), Nat.le_succ _⟩
  refine ⟨fun a u e => ?_, ?_, fun l ob2 e => ?_, fun l m hl hm e => ?_, fun a u e => ?_⟩
  · rw [upd_ne (ne_of_none e h2)]
    exact r.fro a u e
  · show g.n + 1 = _
    rw [List.length_append, r.len]
    rfl
  · by_cases q : l = g.n
    · subst q
      rw [List.getElem?_append_right (by rw [r.len]; exact Nat.le_refl _), r.len, Nat.sub_self] at e
      cases e
      show ObR _ _ (if g.n = g.n then D else g.μ g.n) ob
      rw [if_pos rfl]
      exact ho
    · have hl : l < w.length := by
        have := (List.getElem?_eq_some_iff.mp e).1
        rw [List.length_append, List.length_singleton] at this
        rw [← r.len] at this ⊢
        omega
      rw [List.getElem?_append_left hl] at e
      have c := r.cell l ob2 e
      have nD := h3 l (by rw [r.len]; exact hl)
      show ObR _ _ (if l = g.n then D else g.μ l) ob2
      rw [if_neg q]
      cases ob2 with
      | lst ds =>
        obtain ⟨hn, xs, h, d⟩ := c
        exact ⟨hn, xs, (upd_ne nD).trans h, d.mono x _ _⟩
      | dK kvs =>
        obtain ⟨hn, ks, h, d⟩ := c
        exact ⟨hn, ks, (upd_ne nD).trans h, d.mono x⟩
      | ins C fs =>
        obtain ⟨hn, dx, gs, ⟨C', hC, h⟩, hd, hn2, d⟩ := c
        have nx : dx ≠ D := fun z => by rw [z, h1] at hd; exact hno _ (Option.some.inj hd)
        exact ⟨hn, dx, gs, ⟨C', hC, (upd_ne nD).trans h⟩, (upd_ne nx).trans hd, hn2, d.mono x⟩
      | dead =>
        obtain ⟨o2, h⟩ := c
        exact ⟨o2, (upd_ne nD).trans h⟩
  · have hl : l < g.n + 1 := hl
    have hm : m < g.n + 1 := hm
    have e : (if l = g.n then D else g.μ l) = (if m = g.n then D else g.μ m) := e
    by_cases q1 : l = g.n
    · by_cases q2 : m = g.n
      · rw [q1, q2]
      · rw [if_pos q1, if_neg q2] at e
        exact absurd e.symm (h3 m (by omega))
    · by_cases q2 : m = g.n
      · rw [if_neg q1, if_pos q2] at e
        exact absurd e (h3 l (by omega))
      · rw [if_neg q1, if_neg q2] at e
        exact r.inj l m (by omega) (by omega) e
  · have e : P a = some u := e
    have na : a ≠ D := fun z => by rw [z, hD] at e; cases e
    obtain ⟨q1, q2, q3⟩ := r.pin a u (by rw [hP, upd_ne na]; exact e)
    refine ⟨(upd_ne na).trans q1, q2, fun l hl z => ?_⟩
    have hl : l < g.n + 1 := hl
    have z : (if l = g.n then D else g.μ l) = a := z
    by_cases q : l = g.n
    · rw [if_pos q] at z
      exact na z.symm
    · rw [if_neg q] at z
      exact q3 l (by omega) z
theorem alloc_xt {g : Gd} {P : Hp} {D : Addr} : Xt0 g { g with P := P, μ := fun l => if l = g.n then D else g.μ l, n := g.n + 1 } := ⟨rfl, fun a u e => e, fun l hl => if_neg (by omega), Nat.le_succ _⟩
theorem alloc_ref {g : Gd} {P : Hp} {D : Addr} : Dq { g with P := P, μ := fun l => if l = g.n then D else g.μ l, n := g.n + 1 } (.ref D) (rf g.n) := by
  have h : Dq { g with P := P, μ := fun l => if l = g.n then D else g.μ l, n := g.n + 1 } (.ref ((fun l => if l = g.n then D else g.μ l) g.n)) (rf g.n) := .ref (Nat.lt_succ_self _)
  simpa using h
/-! ### {k: v, ..} -/
def pairsF : List (FE × FE) → Ev → Ws → Oc (List (PyData × PyData))
  | [], _, w => .ok [] w
  | (fk, fv) :: r, ρ, w => (fk ρ w).bind fun k w1 => (fv ρ w1).bind fun v w2 => (pairsF r ρ w2).bind fun ps w3 => .ok ((k, v) :: ps) w3
def PrR (g : Gd) : List (V × V) → List (PyData × PyData) → Prop := Paired fun p q => Dq g p.1 q.1 ∧ Dq g p.2 q.2
theorem PrR.mono {g g' : Gd} (x : Xt0 g g') : ∀ {ps : List (V × V)} {qs : List (PyData × PyData)}, PrR g ps qs → PrR g' ps qs
  | _, _, .nil => .nil
  | _, _, .cons h t => .cons ⟨h.1.mono x _ _, h.2.mono x _ _⟩ (PrR.mono x t)
theorem pairs_of {K : PySem.W.Frag} {W : WX} : ∀ (fps : List (FE × FE)) σ H Q, lX K W PrR (pairsF fps) σ H Q → tPairs (fps.map fun p => (lE K W p.1, lE K W p.2)) σ H Q
  | [], σ, H, Q, ⟨g, ρ, w, hK, r, e, q⟩ => q [] H g (Xt.refl g) r .nil
  | (fk, fv) :: rest, σ, H, Q, ⟨g, ρ, w, hK, r, e, q⟩ => by
    refine lX_bind hK r e q fun k H1 g1 dk w1 x1 r1 e1 hk z1 => ?_
    refine lX_bind (x1.k.trans hK) r1 e1 z1 fun v H2 g2 dv w2 x2 r2 e2 hv z2 => ?_
    refine pairs_of rest σ H2 _ ?_
    refine lX_bind (x2.k.trans (x1.k.trans hK)) r2 e2 z2 fun ps H3 g3 dps w3 x3 r3 e3 hps z3 => ?_
    exact z3 _ H3 g3 (Xt.refl _) r3 (.cons ⟨hk.mono (x2.toXt0.trans x3.toXt0) _ _, hv.mono x3.toXt0 _ _⟩ hps)
def keysOf : List (PyData × PyData) → Option (List (Key × PyData))
  | [] => some []
  | (k, v) :: r => match keyD k, keysOf r with
    | some k, some kvs => some ((k, v) :: kvs)
    | _, _ => none
theorem keysOf_ok {g : Gd} : ∀ {ps : List (V × V)} {qs : List (PyData × PyData)} {kvs : List (Key × PyData)}, PrR g ps qs → keysOf qs = some kvs → ∃ ks : List (Key × V), ps = ks.map (fun kv => (kV kv.1, kv.2)) ∧ KvR g ks kvs
  | _, _, _, .nil, e => by cases e; exact ⟨[], rfl, .nil⟩
  | (a, b) :: _, (c, d) :: _, _, .cons h t, e => by
    unfold keysOf at e
    split at e
    · rename_i k kvs h1 h2
      cases e
      obtain ⟨ks, rfl, hk⟩ := keysOf_ok t h2
      have ek := keyD_ok h.1 h1
      have ek : a = kV k := ek
      subst ek
      exact ⟨(k, b) :: ks, rfl, .cons ⟨rfl, h.2⟩ hk⟩
    · cases e
def eDisp (fps : List (FE × FE)) : FE := fun ρ w => match pairsF fps ρ w with
  | .ok ps w1 => match keysOf ps with
    | some kvs => if kvs.length ≤ 15 then .ok (rf w1.length) (w1 ++ [.dK (mergeD [] kvs)]) else .no
    | none => .no
  | _ => .no
theorem pf_disp {X : Cx} {W : WX} {pos : Pos} {keys : List (Option Expr)} {values : List Expr} {fps : List (FE × FE)} (h : PPs X pos keys values (fps.map fun p => (lE X.K W0 p.1, lE X.K W0 p.2))) (hall : keys.all (·.isSome) = true := by rfl) (hl : keys.length = values.length := by rfl) (h0 : keys ≠ [] := by exact fun z => by cases z)
    (h15 : keys.length ≤ 15 := by decide) : PF X W (.Dict keys values pos) (eDisp fps) := by
  refine pe_imp (pe_disp h hall hl h0 h15) fun σ H Q ⟨g, ρ, w, hK, r, e, q⟩ => ?_
  intro p hp
  have pP : g.P p = none := by
    cases h : g.P p with
    | none => rfl
    | some o => rw [(r.pin p o h).1] at hp; cases hp
  have r0 := pin_new r hp (.dK [])
  refine pairs_of fps σ _ _ ⟨g.pn (upd g.P p (.dK [])), ρ, w, hK, r0, e.mono (g.pn_xt _), ?_⟩
  unfold eDisp at q
  cases hz : pairsF fps ρ w with
  | ok ps w1 =>
    rw [hz] at q
    intro vs H1 g1 x r1 hps
    simp only at q
    split at q
    · rename_i kvs hk
      split at q
      · rename_i hlen
        obtain ⟨ks, rfl, kv⟩ := keysOf_ok hps hk
        have hP1 : g1.P = upd g.P p (.dK []) := x.p
        refine ⟨(r1.pin p _ (by rw [hP1]; exact upd_same)).1, ks, rfl, by rw [kv.length]; exact hlen, ?_⟩
        have hn := (r1.pin p _ (by rw [hP1]; exact upd_same)).2.1
        have ra := pin_alloc (o' := .dK (mergeK [] ks)) (ob := .dK (mergeD [] kvs)) r1 hP1 (fun a z => nomatch z) pP ⟨hn, _, upd_same, (KvR.merge kv .nil).mono alloc_xt⟩
        refine q _ _ _ ⟨((g.pn_xt _).trans x.toXt0).trans alloc_xt, rfl⟩ ra ?_
        rw [← r1.len]
        exact alloc_ref
      · exact q.elim
    · exact q.elim
  | ex c fs w1 => rw [hz] at q; exact q.elim
  | no => rw [hz] at q; exact q.elim
theorem ppsf_nil {X : Cx} {pos : Pos} : PPs X pos [] [] (([] : List (FE × FE)).map fun p => (lE X.K W0 p.1, lE X.K W0 p.2)) := pps_nil
theorem ppsf_cons {X : Cx} {pos : Pos} {k v : Expr} {ks : List (Option Expr)} {vs : List Expr} {fk fv : FE} {fps : List (FE × FE)} (hk : PF X W0 k fk) (hv : PF X W0 v fv) (hr : PPs X pos ks vs (fps.map fun p => (lE X.K W0 p.1, lE X.K W0 p.2))) :
    PPs X pos (some k :: ks) (v :: vs) (((fk, fv) :: fps).map fun p => (lE X.K W0 p.1, lE X.K W0 p.2)) := pps_cons hk hv hr

/-! ### repr -/
section
variable {X : Cx} {W : WX}
def reprD (_ : Ws) : List PyData → Option PyData
  | [d] => if SeqAt.shaped d && d.showable && szOk d.shown.length then some (.str d.shown) else none
  | _ => none
theorem call_reprX (hg : X.A.guards = some []) (hu : X.A.units + 70 < cLine) : CallR X (.builtin "repr") (rDN X.K reprD) := by
  intro pins s σ H xs us Q I rv ⟨g, w, ds, z, hK, r, dx, hz, q⟩
  unfold reprD at hz
  split at hz
  · rename_i d
    split at hz
    · rename_i hs
      cases hz
      rw [Bool.and_eq_true, Bool.and_eq_true] at hs
      obtain ⟨⟨h1, h2⟩, h3⟩ := hs
      have h3 := of_decide_eq_true h3
      cases dx with
      | cons d0 dn =>
        cases dn
        cases rv with
        | cons rv0 rvn =>
          cases rvn
          have fin : ∀ t tk, EP X pins σ Q (.str d.shown t) { s with toks := tk } := fun t tk => ⟨.str d.shown, H, I.tok tk, ⟨t, rfl⟩, q _ H g (Xt.refl g) r (.str _)⟩
          cases d0 with
          | non => cases rv0; exact PySem.P.repr_of_none (fin _ _)
          | bl b => cases rv0; exact PySem.P.repr_of_bool (fin _ _)
          | int i =>
            obtain ⟨t, rfl⟩ := rv0
            exact PySem.P.repr_of_int (by simpa [PyData.showable] using h2) (fin _ _)
          | str y =>
            obtain ⟨t, rfl⟩ := rv0
            exact PySem.P.repr_of_str (fin _ _) h3
          | lst sq da =>
            obtain ⟨as, rd⟩ := Dp.reads I _ _ _ (hK ▸ (Dq.lst sq da).dp r.fro _ _ (shaped_lay h1)) rv0
            cases rv0
            have hdep : PyData.depth _ ≤ 64 := of_decide_eq_true ((Bool.and_eq_true _ _).mp h1).2
            refine repr_of_reads' rd h2 (PyData.noDict_hsm (PyData.hasDict_of_canLay _ (shaped_lay h1))) hg (by omega) (fun _ _ e => e) (fun h' u tk hk => ?_) h3
            exact ⟨.str _, H, I.kept hk, ⟨u, rfl⟩, q _ H g (Xt.refl g) r (.str _)⟩
          | tup sq da =>
            obtain ⟨as, rd⟩ := Dp.reads I _ _ _ (hK ▸ (Dq.tup sq da).dp r.fro _ _ (shaped_lay h1)) rv0
            cases rv0
            have hdep : PyData.depth _ ≤ 64 := of_decide_eq_true ((Bool.and_eq_true _ _).mp h1).2
            refine repr_of_reads' rd h2 (PyData.noDict_hsm (PyData.hasDict_of_canLay _ (shaped_lay h1))) hg (by omega) (fun _ _ e => e) (fun h' u tk hk => ?_) h3
            exact ⟨.str _, H, I.kept hk, ⟨u, rfl⟩, q _ H g (Xt.refl g) r (.str _)⟩
          | ref hl =>
            have := shaped_lay h1
            simp [PyData.canLay0] at this
    · cases hz
  · cases hz
end
end Td

set_option Elab.async false
set_option linter.all false
set_option maxRecDepth 100000
set_option maxHeartbeats 4000000
namespace Td
open PySem L2 PySem.Spec PyProof.Rows
/-! ### what leaves a call: objects that nobody sees any more are dropped -/
mutual
def bnd (n : Nat) : PyData → Bool
  | .list xs => bndA n xs
  | .tuple xs => bndA n xs
  | .dict kvs => bndK n kvs
  | _ => true
def bndA (n : Nat) : List PyData → Bool
  | [] => true
  | x :: xs => bnd n x && bndA n xs
def bndK (n : Nat) : List (PyData × PyData) → Bool
  | [(.int l, .none)] => decide (l < n)
  | _ => false
end
def bndO (n : Nat) : Ob → Bool
  | .lst xs => bndA n xs
  | .dK kvs => bndA n (kvs.map (·.2))
  | .ins _ fs => bndA n (fs.map (·.2))
  | .dead => true
def Gd.cut (g : Gd) (n : Nat) : Gd := { g with n := n }
mutual
theorem Dq.cut {g : Gd} {n : Nat} : ∀ (d : PyData) (v : V), bnd n d = true → Dq g v d → Dq (g.cut n) v d
  | .none, _, _, h => by cases h; exact .non
  | .bool _, _, _, h => by cases h; exact .bl _
  | .int _, _, _, h => by cases h; exact .int _
  | .str _, _, _, h => by cases h; exact .str _
  | .list ds, _, c, h => by
    cases h with
    | lst a b => exact .lst a (DqA.cutA ds _ (by simpa [bnd] using c) b)
  | .tuple ds, _, c, h => by
    cases h with
    | tup a b => exact .tup a (DqA.cutA ds _ (by simpa [bnd] using c) b)
  | .dict _, _, c, h => by
    cases h with
    | @ref l hl =>
      have : l < n := by simpa [bnd, bndK] using c
      exact Dq.ref (g := g.cut n) this
theorem DqA.cutA {g : Gd} {n : Nat} : ∀ (ds : List PyData) (vs : List V), bndA n ds = true → DqA g vs ds → DqA (g.cut n) vs ds
  | [], _, _, h => by cases h; exact .nil
  | d :: ds, _, c, h => by
    have c' : bnd n d = true ∧ bndA n ds = true := by simpa [bndA] using c
    cases h with
    | cons a b => exact .cons (Dq.cut d _ c'.1 a) (DqA.cutA ds _ c'.2 b)
end
theorem KvR.cut {κ : Type} {g : Gd} {n : Nat} : ∀ {ks : List (κ × V)} {kvs : List (κ × PyData)}, bndA n (kvs.map (·.2)) = true → KvR g ks kvs → KvR (g.cut n) ks kvs
  | _, _, _, .nil => .nil
  | _, _, c, .cons h t => by
    have c' := c
    simp only [List.map_cons, bndA, Bool.and_eq_true] at c'
    exact .cons ⟨h.1, h.2.cut _ _ c'.1⟩ (KvR.cut c'.2 t)
theorem ObR.cut {g : Gd} {n : Nat} {H : Hp} {a : Addr} {ob : Ob} (c : bndO n ob = true) (h : ObR g H a ob) : ObR (g.cut n) H a ob := by
  cases ob with
  | lst ds =>
    obtain ⟨hn, xs, h, d⟩ := h
    exact ⟨hn, xs, h, d.cutA _ _ c⟩
  | dK kvs =>
    obtain ⟨hn, ks, h, d⟩ := h
    exact ⟨hn, ks, h, d.cut c⟩
  | ins C fs =>
    obtain ⟨hn, dx, gs, h, hd, hn2, d⟩ := h
    exact ⟨hn, dx, gs, h, hd, hn2, d.cut c⟩
  | dead => exact h
theorem Rp.cut {g : Gd} {H : Hp} {w : Ws} {n : Nat} (r : Rp g H w) (hn : n ≤ w.length) (c : (w.take n).all (bndO n) = true) : Rp (g.cut n) H (w.take n) where
  fro := r.fro
  len := by show n = _; rw [List.length_take]; omega
  cell := fun l ob e => by
    have hl : l < n := by
      have := (List.getElem?_eq_some_iff.mp e).1
      rw [List.length_take] at this
      omega
    have e' := e
    rw [List.getElem?_take_of_lt hl] at e
    exact (r.cell l ob e).cut (List.all_eq_true.mp c ob (List.mem_of_getElem? e'))
  inj := fun l m hl hm e => r.inj l m (by rw [r.len]; exact Nat.lt_of_lt_of_le hl hn) (by rw [r.len]; exact Nat.lt_of_lt_of_le hm hn) e
  pin := fun a u e => let ⟨h1, h2, h3⟩ := r.pin a u e; ⟨h1, h2, fun l hl => h3 l (by rw [r.len]; exact Nat.lt_of_lt_of_le hl hn)⟩
abbrev FF := List PyData → Ws → Oc PyData
def trimW (n : Nat) (w : Ws) : Bool := decide (n ≤ w.length) && (w.take n).all (bndO n)
def leave (n : Nat) : Os → Oc PyData
  | .nx _ w => if trimW n w then .ok .none (w.take n) else .ok .none w
  | .rt d w => if trimW n w && bnd n d then .ok d (w.take n) else .ok d w
  | .ex _ c fs w => if trimW n w && bndA n (fs.map (·.2)) then .ex c fs (w.take n) else .ex c fs w
  | _ => .no
def startE (m : Nat) (ds : List PyData) : Ev := ds.map some ++ List.replicate (m - ds.length) none
def defF (m : Nat) (n : Nat) (bf : FS) : FF := fun ds w => if ds.length = n then leave w.length (bf (startE m ds) w) else .no

/-! ### what a def promises -/
def oF (g : Gd) (Q : VK) (E : XK) : Oc PyData → Prop
  | .ok d w => ∀ v H g', Xt g g' → Rp g' H w → Dq g' v d → Q v H
  | .ex c fs w => ∀ dd H g', Xt g g' → Rp g' H w → XdR g' H fs dd → E c dd H
  | .no => False
def spF (K : PySem.W.Frag) (n : Nat) (gf : FF) : Sp := fun vs H Q E => ∃ g w ds, g.K = K ∧ Rp g H w ∧ DqA g vs ds ∧ vs.length = n ∧ oF g Q E (gf ds w)
structure FnG (P : Program) (w : World) (K : PySem.W.Frag) (mg : Str → Option Value) (base : Heap) (k : Nat) (f : Addr) (fd : FuncData) (ps : List Str) (gf : FF) : Prop where
  run : ∀ (A : Around) (outer : List Env) (s : Shared) (H : Hp) (args : Args) (us : List Value) (vs : List V) (Q : VK) (E : XK), Room k A → A.guards = some [] → Env0 P w K mg base A outer s H → BindsTo s fd args (ps.zip us) → Vals vs us → spF K ps.length gf vs H Q E →
    codeAny (model P w) A (.call (.ref f) args) (CR (CX P w) outer P w H s Q E) s
theorem FnG.mono {P : Program} {w : World} {K : PySem.W.Frag} {mg : Str → Option Value} {base : Heap} {j k : Nat} {f : Addr} {fd : FuncData} {ps : List Str} {gf : FF} (F : FnG P w K mg base j f fd ps gf) (h : j ≤ k) : FnG P w K mg base k f fd ps gf :=
  ⟨fun A outer s H args us vs Q E hr => F.run A outer s H args us vs Q E (hr.mono h)⟩
theorem FnG.eq {P : Program} {w : World} {K : PySem.W.Frag} {mg : Str → Option Value} {base : Heap} {k : Nat} {f : Addr} {fd : FuncData} {ps : List Str} {gf gf' : FF} (F : FnG P w K mg base k f fd ps gf) (h : ∀ ds w, gf' ds w = .no ∨ gf ds w = gf' ds w) : FnG P w K mg base k f fd ps gf' :=
  ⟨fun A outer s H args us vs Q E hr hg e0 hb hv ⟨g, w', ds, hK, r, da, hl, q⟩ => F.run A outer s H args us vs Q E hr hg e0 hb hv ⟨g, w', ds, hK, r, da, hl, by
    rcases h ds w' with h | h
    · rw [h] at q; exact q.elim
    · rw [h]; exact q⟩⟩
theorem EnR.begin {g : Gd} {N : List Str} {vs : List V} {ds : List PyData} (h : DqA g vs ds) : EnR g (L2.start N vs) (startE N.length ds) := by
  refine ⟨by unfold L2.start startE; simp [h.length], fun i d e => ?_⟩
  unfold startE at e
  unfold L2.start
  by_cases hi : i < ds.length
  · rw [List.getElem?_append_left (by simpa using hi), List.getElem?_map] at e
    obtain ⟨d', h1, h2⟩ := Option.map_eq_some_iff.mp e
    cases h2
    obtain ⟨v, h3, h4⟩ := h.get h1
    exact ⟨v, by rw [List.getElem?_append_left (by simpa [h.length] using hi), List.getElem?_map, h3]; rfl, h4⟩
  · rw [List.getElem?_append_right (by simpa using hi), List.getElem?_replicate] at e
    split at e <;> cases e
theorem XdR.cut {g : Gd} {n : Nat} {H : Hp} {fs : List (Str × PyData)} {dd : Option Addr} (hn : n ≤ g.n) (c : bndA n (fs.map (·.2)) = true) (h : XdR g H fs dd) : XdR (g.cut n) H fs dd := by
  cases dd with
  | none => exact h
  | some d =>
    obtain ⟨h1, h2, gs, h3, h4⟩ := h
    exact ⟨h1, fun l hl => h2 l (Nat.lt_of_lt_of_le hl hn), gs, h3, h4.cut c⟩
theorem Xt.cut {g g' : Gd} (x : Xt g g') : Xt g (g'.cut g.n) := ⟨⟨x.k, x.ex, x.at_, Nat.le_refl _⟩, x.p⟩
section
variable {P : Program} {w : World} {K : PySem.W.Frag} {mg : Str → Option Value} {base : Heap}
theorem leave_ok {g : Gd} {Q : VK} {E : XK} {H : Hp} {ws : Ws} (r : Rp g H ws) {o : Os} (h : oF g Q E (leave ws.length o)) : oSt (fun c d _ H => E c d H) g { nx := fun _ H' => Q .non H', rt := Q } o := by
  have hn := r.len
  cases o with
  | nx ρ w' =>
    intro σ H' g' x r' e'
    simp only [leave] at h
    split at h
    · rename_i ht
      rw [trimW, Bool.and_eq_true] at ht
      have := h .non H' (g'.cut g.n) x.cut (by rw [hn]; exact r'.cut (of_decide_eq_true ht.1) ht.2) .non
      exact this
    · exact h .non H' g' x r' .non
  | rt d w' =>
    intro v H' g' x r' dv
    simp only [leave] at h
    split at h
    · rename_i ht
      rw [trimW, Bool.and_eq_true, Bool.and_eq_true] at ht
      exact h v H' (g'.cut g.n) x.cut (by rw [hn]; exact r'.cut (of_decide_eq_true ht.1.1) ht.1.2) (by rw [hn]; exact dv.cut _ _ ht.2)
    · exact h v H' g' x r' dv
  | ex ρ c fs w' =>
    intro dd σ H' g' x r' e' xd
    simp only [leave] at h
    split at h
    · rename_i ht
      rw [trimW, Bool.and_eq_true, Bool.and_eq_true] at ht
      exact h dd H' (g'.cut g.n) x.cut (by rw [hn]; exact r'.cut (of_decide_eq_true ht.1.1) ht.1.2) (by rw [hn]; exact xd.cut (by rw [← hn]; exact x.le) ht.2)
    · exact h dd H' g' x r' xd
  | bk ρ w' => exact h.elim
  | ct ρ w' => exact h.elim
  | no => exact h.elim
/-- THE RULE for a def, by its body -/
theorem fnG_of {x qual : Str} {st : Stmt} {f : Addr} {fd : FuncData} {N ps : List Str} {k : Nat} {bf : FS} (F : Fun K x qual st f fd) (S : FnScope N ps (defScope st))
    (hbody : ∀ (cdv : Value) (A : Around) (outer : List Env) (s : Shared) (H : Hp) (E : XK), Room k (A.deeper (envOfC qual (defScope st) s.heap.objs.size f cdv)) → A.guards = some [] →
      PSsf (cxOf (CX P w) P w K mg base N qual (defScope st) f cdv A outer s H E) (fun c d _ H => E c d H) (defBody st) bf) : FnG P w K mg base (k + 1) f fd ps (defF N.length ps.length bf) := by
  obtain ⟨oc, od, kV, doc, pm, an, cdv, ct, osl, rfl, lk, hcd⟩ := F.ex
  refine ⟨fun A outer s H args us vs Q E hr hg e0 hb hv hsp => ?_⟩
  obtain ⟨g, ws, ds, hK, r, da, hl, q⟩ := hsp
  have inK : K.In s.heap := e0.mod.kin.keeps fun b ob z => (e0.bs b ob z).1
  have noLim : s.heap.NoLimit := e0.mod.nolimit.keeps fun b ob z => (e0.bs b ob z).1
  have kinds : ∀ y ∈ ps.zip us, (defScope st).names.lookup y.1 = some .local ∨ ((defScope st).names.lookup y.1 = some .cell ∧ ((cellsFrom (s.heap.objs.size + 1) (defScope st).names []).lookup y.1).isSome = true) := by
    rintro ⟨nm, vl⟩ hy
    rcases S.par nm (List.of_mem_zip hy).1 with z | z
    · exact Or.inl z
    · exact Or.inr ⟨z, PySem.W.cellsFrom_some _ _ _ (Or.inl z)⟩
  refine codeAny_call_function hr.depth (inK _ _ lk) rfl S.co S.gen rfl (PySem.W.codeRec_of inK hcd) (hb _ _ _ _ ?_)
  refine wpAny_newFunctionEnv_cells S.kind kinds ?_
  rintro env rfl s1 nw
  refine ⟨noLim.keeps nw.toInCall.keep, codeAny_func ?_⟩
  have body := hbody cdv A outer s H E (hr.deeper _) hg
  have J0 : Inv (cxOf (CX P w) P w K mg base N qual (defScope st) f cdv A outer s H E) [] (L2.start N vs) H s1 := inv_start S hr.hd e0 hl hv nw
  have want : lS K (fun c d _ H => E c d H) bf { nx := fun _ H' => Q .non H', rt := Q } (L2.start N vs) H := by
    refine ⟨g, startE N.length ds, ws, hK, r, EnR.begin da, leave_ok r ?_⟩
    have hd : ds.length = ps.length := by rw [← da.length]; exact hl
    rw [defF, if_pos hd] at q
    exact q
  refine wpAny_mono (body.run [] s1 _ H _ J0 want) ?_ fun _ _ z => z
  intro fl s' hs
  cases fl with
  | brk => exact hs.elim fun _ z => z.elim fun _ z => z.2.elim
  | cont => exact hs.elim fun _ z => z.elim fun _ z => z.2.elim
  | next =>
    obtain ⟨_, H', J, z⟩ := hs
    exact ⟨.non, H', J.os, J.bare, J.base, J.hok, rfl, z⟩
  | ret u =>
    obtain ⟨v, _, H', J, rv, z⟩ := hs
    exact ⟨v, H', J.os, J.bare, J.base, J.hok, rv, z⟩
end
end Td

set_option Elab.async false
set_option linter.all false
set_option maxRecDepth 100000
set_option maxHeartbeats 4000000
namespace Td
open PySem L2 PySem.Spec PyProof.Rows
section
variable {X : Cx} {W : WX} {k : Nat} {f : Addr} {fd : FuncData} {ps : List Str} {gf : FF} {ds : List Value} {dvs : List V} {des : List PyData}
/-- the callee runs -/
theorem run_G {pins : List (Addr × Obj)} {σ : L2.St} {H : Hp} {s : Shared} {Q : VK} {us : List Value} {vs : List V} (F : FnG X.prog X.w X.K X.mg X.base k f fd ps gf) (hr : Room k X.A) (hgu : X.A.guards = some []) (hb : Binds X.K fd ps ds) (hd : Vals dvs ds) (tk : Takes X W)
    (I : Inv X pins σ H s) (r : Vals vs us) (h : spF X.K ps.length gf (vs ++ dvs) H Q (fun c d H' => W c d σ H')) : wpAny (model X.prog X.w) X.A (call (.ref f) us) (EP X pins σ Q) X.xe s := by
  have all : Vals (vs ++ dvs) (us ++ ds) := r.append hd
  have many : (us ++ ds).length = ps.length := by
    obtain ⟨_, _, _, _, _, _, hl, _⟩ := h
    rw [← all.length]
    exact hl
  refine wpAny_call (codeAny_mono (F.run X.A X.stack s H ⟨us, []⟩ _ _ Q _ hr hgu I.env0 (hb s us I.kIn many) all h) ?_)
  intro res s' hq
  match res, hq with
  | .error e, hq => exact tk e s' (XE.of_call I (fun _ _ _ z => z) hq)
  | .ok (.ret u), hq => exact I.after hq
def eCall (gf : FF) (des : List PyData) (fa : FA) : FE := fun ρ w => (fa ρ w).bind fun as w1 => gf (as ++ des) w1
theorem call_want {σ : L2.St} {H : Hp} {Q : VK} {fa : FA} {K : PySem.W.Frag} {n : Nat} (hdd : ∀ g : Gd, DqA g dvs des) (hlen : ∀ as : List PyData, (as ++ des).length = n ∨ ∀ w, gf (as ++ des) w = .no) (h : lE K W (eCall gf des fa) σ H Q) :
    lA K W fa σ H fun vs H1 => spF K n gf (vs ++ dvs) H1 Q (fun c d H' => W c d σ H') := by
  obtain ⟨g, ρ, w, hK, r, e, q⟩ := h
  refine lX_bind hK r e q fun vs H1 g1 as w1 x r1 e1 dv z => ?_
  have dal : DqA g1 (vs ++ dvs) (as ++ des) := dv.append (hdd g1)
  refine ⟨g1, w1, as ++ des, x.k.trans hK, r1, dal, ?_, ?_⟩
  · rw [dal.length]
    rcases hlen as with h | h
    · exact h
    · rw [h] at z; exact z.elim
  · cases hz : gf (as ++ des) w1 with
    | ok d w2 => rw [hz] at z; exact z
    | ex c fs w2 => rw [hz] at z; exact z
    | no => rw [hz] at z; exact z
/-- f(a, ..), the defaults dvs behind -/
theorem pf_callD {x : Str} {p pos : Pos} {e : Expr} {es : List Expr} {fa : FA} (F : FnG X.prog X.w X.K X.mg X.base k f fd ps gf) (hr : Room k X.A) (hgu : X.A.guards = some []) (hg : Gl X x) (hm : X.mg x = some (.ref f)) (hk : PySem.W.keepIn X.K (.ref f) = true) (hb : Binds X.K fd ps ds) (hd : Vals dvs ds) (hdd : ∀ g : Gd, DqA g dvs des)
    (hlen : ∀ as : List PyData, (as ++ des).length = ps.length ∨ ∀ w, gf (as ++ des) w = .no) (tk : Takes X W) (ha : PAf X W (e :: es) fa) (hdb : (x == ("__debug__" : Str)) = false := by decide) (he : starEach (e :: es) X.env = (false, eval e X.env) :: starEach es X.env := by rfl) (hpl : (backTo pos (starEach es X.env)).any (·.1) = false := by rfl) :
    PF X W (.Call (.Name x p) (e :: es) [] pos) (eCall gf des fa) := by
  refine ⟨fun pins s σ H Q I h => ?_⟩
  have want := call_want hdd hlen h
  refine wpAny_Call_Name_kw (ld_glob I hg hm ?_ hdb)
  refine PySem.W.callWith_K (h₀ := X.base) I.ok.mod.kin hk ?_ he hpl
  exact thn (ha.run pos pins s σ H _ I want) fun us s1 ⟨vs, H1, I1, rv, q⟩ => ⟨I1.kIn, run_G F hr hgu hb hd tk I1 rv q⟩
theorem pf_call {x : Str} {p pos : Pos} {e : Expr} {es : List Expr} {fa : FA} {m : Nat} {bf : FS} (F : FnG X.prog X.w X.K X.mg X.base k f fd ps (defF m ps.length bf)) (hr : Room k X.A) (hgu : X.A.guards = some []) (hg : Gl X x) (hm : X.mg x = some (.ref f)) (hk : PySem.W.keepIn X.K (.ref f) = true) (hb : Binds X.K fd ps [])
    (tk : Takes X W) (ha : PAf X W (e :: es) fa) (hdb : (x == ("__debug__" : Str)) = false := by decide) (he : starEach (e :: es) X.env = (false, eval e X.env) :: starEach es X.env := by rfl) (hpl : (backTo pos (starEach es X.env)).any (·.1) = false := by rfl) :
    PF X W (.Call (.Name x p) (e :: es) [] pos) (eCall (defF m ps.length bf) [] fa) :=
  pf_callD F hr hgu hg hm hk hb .nil (fun _ => .nil) (fun as => by
    by_cases h : (as ++ []).length = ps.length
    · exact Or.inl h
    · exact Or.inr fun w => if_neg h) tk ha hdb he hpl
theorem pf_call0 {x : Str} {p pos : Pos} {m : Nat} {bf : FS} (F : FnG X.prog X.w X.K X.mg X.base k f fd ps (defF m ps.length bf)) (hr : Room k X.A) (hgu : X.A.guards = some []) (hg : Gl X x) (hm : X.mg x = some (.ref f)) (hk : PySem.W.keepIn X.K (.ref f) = true) (hb : Binds X.K fd ps [])
    (tk : Takes X W) (hdb : (x == ("__debug__" : Str)) = false := by decide) :
    PF X W (.Call (.Name x p) [] [] pos) (eCall (defF m ps.length bf) [] aN) := by
  refine ⟨fun pins s σ H Q I h => ?_⟩
  have want := call_want (dvs := []) (des := []) (n := ps.length) (fun _ => .nil) (fun as => by
    by_cases h : (as ++ []).length = ps.length
    · exact Or.inl h
    · exact Or.inr fun w => if_neg h) h
  refine wpAny_Call_Name_kw (ld_glob I hg hm ?_ hdb)
  obtain ⟨g, ρ, w, hK, r, e, q⟩ := want
  exact PySem.W.callWith_K0 I.kIn hk (run_G (us := []) (vs := []) F hr hgu hb .nil tk I .nil (q [] H g (Xt.refl g) r .nil))
end
end Td

set_option Elab.async false
set_option linter.all false
set_option maxRecDepth 100000
set_option maxHeartbeats 4000000
namespace Td
open PySem L2 PySem.Spec PyProof.Rows
/-! ### the law's own call -/
def intsD (ns : List Int) : PyData := .list (ns.map .int)
theorem dqa_ints {g : Gd} : ∀ ns : List Int, DqA g (ns.map V.int) (ns.map PyData.int)
  | [] => .nil
  | n :: ns => .cons (.int n) (dqa_ints ns)
/-- the abstract heap at the law's entry: the script, as it stands, if it is none of the module's own -/
def H00 (K : PySem.W.Frag) (a : Addr) (o : Obj) (ns : List Int) : Hp := fun b => if b = a ∧ K.lookup a = none then some (.frz o (.lst (ns.map V.int))) else none
theorem H00_some {K : PySem.W.Frag} {a b : Addr} {o : Obj} {ns : List Int} {u : HO} (h : H00 K a o ns b = some u) : b = a ∧ K.lookup a = none ∧ u = .frz o (.lst (ns.map V.int)) := by
  unfold H00 at h
  split at h
  · rename_i c
    exact ⟨c.1, c.2, (Option.some.inj h).symm⟩
  · cases h
theorem lawG {P : Program} {w : World} {K : PySem.W.Frag} {mg mb : Str → Option Value} {k : Nat} {fa a : Addr} {fd : FuncData} {x : Str} {gf : FF} {s1 : Shared} {vs : List Value} {ns : List Int} {wf : Ws}
    (inK : K.In s1.heap) (nsG : s1.heap.Ns mainGlobals mg) (nsB : s1.heap.Ns builtinsNs mb) (boot : ∀ y : Str, y ≠ "__name__" → mb y = bootBuiltins y) (lim : s1.heap.NoLimit) (noGen : s1.gens = #[])
    (at_a : s1.heap.get? a = some { cls := .type "list", data := .seq vs.toArray }) (hi : IntsAre vs ns) (hl : ns.length ≤ sizeLine) (hr : Room k callerA)
    (F : ∀ base : Heap, K.In base → base.Ns mainGlobals mg → FnG P w K mg base k fa fd [x] gf) (hbind : ∀ (s : Shared) (u : Value), BindsTo s fd ⟨[u], []⟩ [(x, u)])
    (hv : gf [intsD ns] [] = .ok (.bool true) wf) :
    codeAny (model P w) callerA (.call (.ref fa) ⟨[.ref a], []⟩) (fun r s' => r = .ok (.ret (.bool true)) ∧ OldK s1.heap s'.heap ∧ s'.os = s1.os ∧ AllBare s'.gens) s1 := by
  obtain ⟨ob, hob⟩ : ∃ ob : Obj, ob = { cls := .type "list", data := .seq vs.toArray } := ⟨_, rfl⟩
  rw [← hob] at at_a
  obtain ⟨H, hH⟩ : ∃ H, H = H00 K a ob ns := ⟨_, rfl⟩
  have rv : Vals (ns.map V.int) vs := vals_ints hi
  have who : ∀ {b u}, H b = some u → b = a ∧ K.lookup a = none ∧ u = .frz ob (.lst (ns.map V.int)) := fun h => H00_some (hH ▸ h)
  have sq : SqL K H a (ns.map V.int) := by
    cases q : K.lookup a with
    | none => exact .inl (.inr ⟨ob, by rw [hH, H00, if_pos ⟨rfl, q⟩]⟩)
    | some o =>
      have z := (inK a o q).symm.trans at_a
      cases z
      subst hob
      exact .inr ⟨_, vs.toArray, _, q, rfl, rfl, rfl, by rw [List.size_toArray, hi.length]; exact hl, by simpa using rv⟩
  have hok : HOk P w H s1.heap := fun b u h => by
    obtain ⟨rfl, _, rfl⟩ := who h
    refine ⟨at_a, by rw [List.length_map]; exact hl, vs, 0, rv, at_a.trans ?_⟩
    rw [hob]
  have clear : ∀ {b o}, s1.heap.get? b = some o → (∀ its n, o.data ≠ .seq its n) → H b = none := fun {b o} h nd => by
    cases q : H b with
    | none => rfl
    | some u =>
      obtain ⟨rfl, _, _⟩ := who q
      have z := h.symm.trans at_a
      cases z
      exact absurd (by rw [hob]) (nd vs.toArray _)
  have nsH : ∀ {b m}, s1.heap.Ns b m → (hidT s1.heap H).Ns b m := fun {b m} ⟨o, es, ep, h1, h2, h3⟩ => ⟨o, es, ep, hidT_get h1 (clear h1 fun _ _ z => by rw [h2] at z; cases z), h2, h3⟩
  have inH : K.In (hidT s1.heap H) := fun b o h => by
    refine hidT_get (inK b o h) ?_
    cases q : H b with
    | none => rfl
    | some u =>
      obtain ⟨rfl, z, _⟩ := who q
      rw [z] at h
      cases h
  obtain ⟨mc, l1, l2⟩ := lim
  have e0 : Env0 P w K mg (hidT s1.heap H) callerA [] s1 H := {
    frames := rfl
    mod := ⟨inH, nsH nsG, ⟨mb, nsH nsB, boot⟩, ⟨mc, nsH l1, l2⟩⟩
    bs := fun b o h => of_hidT h
    bsz := Nat.le_of_eq (hidT_size _ _)
    funs := trivial
    frf := fun b h => nomatch h
    hok := hok
    bare := .of_eq noGen }
  have want : spF K 1 gf [.ref a] H (fun v _ => v = .bl true) fun _ _ _ => False := by
    refine ⟨⟨K, H, fun _ => none, fun _ => 0, 0⟩, [], [intsD ns], rfl, ⟨fun _ _ z => z, rfl, fun l ob e => by simp at e, fun l m hl _ _ => absurd hl (Nat.not_lt_zero _), fun a o z => by cases z⟩, .cons (.lst sq (dqa_ints ns)) .nil, rfl, ?_⟩
    rw [hv]
    intro v H' g' _ _ dv
    cases dv
    rfl
  refine codeAny_mono ((F _ inH (nsH nsG)).run callerA [] s1 H ⟨[.ref a], []⟩ [.ref a] [.ref a] _ _ hr rfl e0 (hbind s1 (.ref a)) (.cons rfl .nil) want) ?_
  intro res s' hq
  match res, hq with
  | .error e, hq =>
    obtain ⟨_, _, _, _, _, _, _, _, _, _, _, _, z⟩ := hq
    exact z.elim
  | .ok (.ret u), hq =>
    obtain ⟨v, H', os, bare, un, hok', rr, rfl⟩ := hq
    cases rr
    refine ⟨rfl, OldK.of_keep fun b o h => ?_, os, bare⟩
    cases q : H b with
    | none => exact un.keep b o h q (fun z => nomatch z) (fun z => nomatch z)
    | some u =>
      obtain ⟨rfl, _, rfl⟩ := who q
      have h2 := (hok' _ _ (un.frzs _ _ _ q)).1
      rw [at_a] at h
      cases h
      exact h2
/-- the goal that k_head leaves -/
theorem walkG {l : PySem.W.OpenLaw} {n k : Nat} {q : Program} {loose : List Str} {XP : (Str → Option Value) → Heap → Prop} {YP : World → Heap → Prop} {d : DefRec} {K : Params → PySem.W.Frag} {gf : FF} {x : Str}
    (hn : l.most = some n) (hn2 : n ≤ sizeLine) (hdf : d.params.defaults = []) (hr : Room k callerA) (hY : ∀ (w : World) (h : Heap), YP w h → (K w.params).In h)
    (F : ∀ (w : World) (mg : Str → Option Value) (fa : Addr) (h : Heap), (K w.params).In h → h.Ns mainGlobals mg → mg d.name = some (.ref fa) →
      ∃ fd : FuncData, (∀ (s : Shared) (u : Value), BindsTo s fd ⟨[u], []⟩ [(x, u)]) ∧ ∀ base : Heap, (K w.params).In base → base.Ns mainGlobals mg → FnG l.prog w (K w.params) mg base k fa fd [x] gf)
    (hv : ∀ ns : List Int, ns.length ≤ n → ∃ wf, gf [intsD ns] [] = .ok (.bool true) wf) :
    PySem.W.WalkO q loose XP YP l.row.toRowW d [] (fun f vs => PySem.call f vs) := by
  refine Att.attach_call hn hdf fun w s0 s1 mg mb fa o pm cd doc a vs ns G Y ho hd hcd hmg hobj hints hlen hg => ?_
  obtain ⟨fd, hb, hF⟩ := F w mg fa _ (hY w _ Y) G.T.g hmg
  obtain ⟨wf, hwf⟩ := hv ns hlen
  exact lawG (hY w _ Y) G.T.g G.T.b G.T.builtins G.T.nolimit hg hobj hints (Nat.le_trans hlen hn2) hr hF hb hwf
end Td

set_option Elab.async false
set_option linter.all false
set_option maxRecDepth 100000
set_option maxHeartbeats 4000000
namespace Td
open PySem L2 PySem.Spec PyProof.Rows
theorem hu1 {k : Nat} {A : Around} (hr : Room k A) : A.units + 1 < cLine := by have := hr.un; omega
theorem hu64 {k : Nat} {A : Around} (hr : Room k A) : A.units + 64 < cLine := by have := hr.un; omega
theorem hu65 {k : Nat} {A : Around} (hr : Room k A) : A.units + 65 < cLine := by have := hr.un; omega
theorem hu70 {k : Nat} {A : Around} (hr : Room k A) : A.units + 70 < cLine := by have := hr.un; omega
theorem takesW0 {X : Cx} : Takes X W0 := fun _ _ x => by
  obtain ⟨_, _, _, _, _, _, _, _, _, _, _, _, _, _, _, _, z⟩ := x
  exact z.elim
/-- a def of the text, where it stands -/
structure DefAt (K : PySem.W.Frag) (mg : Str → Option Value) (x : Str) (st : Stmt) (ps : List Str) where
  f : Addr
  fd : FuncData
  fn : Fun K x x st f fd
  at_ : mg x = some (.ref f)
  bd : Binds K fd ps []
structure Gx (P : Program) (w : World) (K : PySem.W.Frag) (mg : Str → Option Value) (base : Heap) (k : Nat) {x : Str} {st : Stmt} {ps : List Str} (D : DefAt K mg x st ps) (gf : FF) : Prop where
  fn : FnG P w K mg base k D.f D.fd ps gf
  len : ∀ as w, as.length ≠ ps.length → gf as w = .no
section
variable {X : Cx} {W : WX} {k : Nat} {ps : List Str} {gf : FF} {x : Str} {st : Stmt} {p pos : Pos}
theorem pf_callR {D : DefAt X.K X.mg x st ps} {e : Expr} {es : List Expr} {fa : FA} (G : Gx X.prog X.w X.K X.mg X.base k D gf) (hr : Room k X.A) (hgu : X.A.guards = some []) (hgl : Gl X x) (tk : Takes X W) (ha : PAf X W (e :: es) fa)
    (hdb : (x == ("__debug__" : Str)) = false := by decide) (he : starEach (e :: es) X.env = (false, eval e X.env) :: starEach es X.env := by rfl) (hpl : (backTo pos (starEach es X.env)).any (·.1) = false := by rfl) :
    PF X W (.Call (.Name x p) (e :: es) [] pos) (eCall gf [] fa) :=
  pf_callD G.fn hr hgu hgl D.at_ D.fn.kp D.bd .nil (fun _ => .nil) (fun as => by
    by_cases h : (as ++ []).length = ps.length
    · exact Or.inl h
    · exact Or.inr fun w => G.len _ w h) tk ha hdb he hpl
theorem pf_callR0 {D : DefAt X.K X.mg x st ps} (G : Gx X.prog X.w X.K X.mg X.base k D gf) (hr : Room k X.A) (hgu : X.A.guards = some []) (hgl : Gl X x) (tk : Takes X W)
    (hdb : (x == ("__debug__" : Str)) = false := by decide) : PF X W (.Call (.Name x p) [] [] pos) (eCall gf [] aN) := by
  refine ⟨fun pins s σ H Q I h => ?_⟩
  have want := call_want (dvs := []) (des := []) (n := ps.length) (fun _ => .nil) (fun as => by
    by_cases h : (as ++ []).length = ps.length
    · exact Or.inl h
    · exact Or.inr fun w => G.len _ w h) h
  refine wpAny_Call_Name_kw (ld_glob I hgl D.at_ ?_ hdb)
  obtain ⟨g, ρ, w, hK, r, e, q⟩ := want
  exact PySem.W.callWith_K0 I.kIn D.fn.kp (run_G (us := []) (vs := []) G.fn hr hgu D.bd .nil tk I .nil (q [] H g (Xt.refl g) r .nil))
/-- a, b = e1, e2 -/
theorem psf_par {i j : Nat} {x y : Str} {a b : Expr} {fa : FA} {px py pt : Pos} {kt k2 : Nat} {pt2 : Pos} (hc : X.calm = true) (hN : X.N.Nodup) (hi : X.N[i]? = some x) (hj : X.N[j]? = some y) (hij : i ≠ j) (hx : X.env.scope.names.lookup x = some .local) (hy : X.env.scope.names.lookup y = some .local)
    (ha : PAf X W [a, b] fa) (hw : swappedStores [.Tuple [.Name x px, .Name y py] kt pt] (.Tuple [a, b] k2 pt2) X.env = pure (some [x, y])) (hs : swapsWithSole [.Tuple [.Name x px, .Name y py] kt pt] (.Tuple [a, b] k2 pt2) pos.line X.env = pure false := by rfl) :
    PSf X W (.Assign [.Tuple [.Name x px, .Name y py] kt pt] (.Tuple [a, b] k2 pt2) pos) (sPar i j fa) := ps_imp (ps_par hc hN hi hj hij hx hy ha hw hs) par_of
/-- s.upper() -/
def upD (_ : Ws) : PyData → Option PyData
  | .str a => if decide (a.length ≤ 5592405) then some (.str (Txt.upper a)) else none
  | _ => none
theorem pf_upper {o : Expr} {fo : FE} {apos : Pos} (ho : PF X W o fo) (hbase : attributeBase o "upper" X.env (eval o X.env) = eval o X.env := by rfl) (hline : (apos.endLine == pos.line) = true := by rfl) :
    PF X W (.Call (.Attribute o "upper" apos) [] [] pos) (eU upD fo) := by
  refine pe_imp (pe_upper ho hbase hline) fun σ H Q ⟨g, ρ, w, hK, r, e, q⟩ => ?_
  refine lX_bind hK r e q fun v H1 g1 d w1 x r1 e1 dv z => ?_
  cases dv with
  | str a =>
    simp only [upD] at z
    split at z
    · rename_i hs
      exact ⟨⟨_, rfl⟩, _, rfl, rfl, of_decide_eq_true hs, z _ H1 g1 (Xt.refl _) r1 (.str _)⟩
    · exact z.elim
  | _ => exact z.elim
end
section
variable {P : Program} {w : World} {K : PySem.W.Frag} {mg : Str → Option Value} {base : Heap}
/-- a def by its body -/
theorem gx_of {x : Str} {st : Stmt} {N ps : List Str} {k : Nat} {bf : FS} (D : DefAt K mg x st ps) (S : FnScope N ps (defScope st))
    (hbody : ∀ (cdv : Value) (A : Around) (outer : List Env) (s : Shared) (H : Hp) (E : XK), Room k (A.deeper (envOfC x (defScope st) s.heap.objs.size D.f cdv)) → A.guards = some [] →
      PSsf (cxOf (CX P w) P w K mg base N x (defScope st) D.f cdv A outer s H E) (fun c d _ H => E c d H) (defBody st) bf) : Gx P w K mg base (k + 1) D (defF N.length ps.length bf) :=
  ⟨fnG_of D.fn S hbody, fun as w h => if_neg h⟩
theorem Gx.mono {x : Str} {st : Stmt} {ps : List Str} {j k : Nat} {D : DefAt K mg x st ps} {gf : FF} (G : Gx P w K mg base j D gf) (h : j ≤ k) : Gx P w K mg base k D gf := ⟨G.fn.mono h, G.len⟩
theorem gx_no {x : Str} {st : Stmt} {ps : List Str} {k : Nat} (D : DefAt K mg x st ps) : Gx P w K mg base k D (fun _ _ => .no) :=
  ⟨⟨fun A outer s H args us vs Q E hr hg e0 hb hv ⟨g, w', ds, hK, r, da, hl, q⟩ => q.elim⟩, fun _ _ _ => rfl⟩
theorem tkX {x : Str} {st : Stmt} {N : List Str} {f : Addr} {cdv : Value} {A : Around} {outer : List Env} {s : Shared} {H : Hp} {E : XK} : Takes (cxOf (CX P w) P w K mg base N x (defScope st) f cdv A outer s H E) (fun c d _ H => E c d H) := takes_of rfl rfl rfl rfl
theorem poX {x : Str} {st : Stmt} {N : List Str} {f : Addr} {cdv : Value} {A : Around} {outer : List Env} {s : Shared} {H : Hp} {E : XK} : PassesOwn (model P w) (cxOf (CX P w) P w K mg base N x (defScope st) f cdv A outer s H E).A (cxOf (CX P w) P w K mg base N x (defScope st) f cdv A outer s H E).env (cxOf (CX P w) P w K mg base N x (defScope st) f cdv A outer s H E).xe := passes_of rfl
def defAt_mk {h : Heap} {x : Str} {st : Stmt} {ps : List Str} {f : Addr} {oc : Value} {od an : Option Addr} {osl : Array (Option Value)} {kV doc pm cdv ct : Value} (X : K.In h) (G : h.Ns mainGlobals mg) (a : PySem.W.nsIn K mainGlobals x = some (some (.ref f)))
    (l : K.lookup f = some ⟨oc, od, .func (PySem.W.fnOf x x (defArgs st) (defBody st) (defScope st) .none kV doc pm an cdv ct), osl⟩) (c : PySem.W.codeIn K cdv x = true) (k : PySem.W.keepIn K (.ref f) = true)
    (hb : ∀ (kV doc pm : Value) (an : Option Addr) (cdv ct : Value) (us : List Value), us.length = ps.length → bindArgs (PySem.W.fnOf x x (defArgs st) (defBody st) (defScope st) .none kV doc pm an cdv ct) ⟨us, []⟩ = pure (ps.zip us)) : DefAt K mg x st ps :=
  ⟨f, _, fun_mk l c k, PySem.W.mg_of X G a, (fun_mk l c k).binds hb⟩
end
end Td

set_option Elab.async false
set_option linter.all false
set_option maxRecDepth 100000
set_option maxHeartbeats 4000000
namespace Td
open PySem L2 PyProof.Rows
/-! ### texts: rising, each once -/
def leS (a b : Str) : Bool := !(PySem.Spec.ltCps b.cps.toList a.cps.toList)
def putS (x : Str) : List Str → List Str
  | [] => [x]
  | y :: l => cond (leS x y) (x :: y :: l) (y :: putS x l)
def srtS (xs : List Str) : List Str := xs.foldr putS []
def addS (L : List Str) (x : Str) : List Str := cond (decide (x ∈ L)) L (L ++ [x])
def ddS (xs : List Str) : List Str := xs.foldl addS []
theorem leS_iff {a b : Str} : leS a b = true ↔ a.cps.toList ≤ b.cps.toList := by
  unfold leS
  rw [ltCps_eq, Bool.not_eq_true', decide_eq_false_iff_not]
  exact Iff.rfl
theorem leS_tot (a b : Str) : leS a b = true ∨ leS b a = true := by
  rw [leS_iff, leS_iff]
  exact List.le_total ..
theorem leS_tr {a b c : Str} (h1 : leS a b = true) (h2 : leS b c = true) : leS a c = true := by
  rw [leS_iff] at *
  exact List.le_trans h1 h2
theorem leS_anti {a b : Str} (h1 : leS a b = true) (h2 : leS b a = true) : a = b := by
  rw [leS_iff] at *
  have e := List.le_antisymm h1 h2
  obtain ⟨⟨x⟩⟩ := a
  obtain ⟨⟨y⟩⟩ := b
  cases e
  rfl
theorem putS_perm (x : Str) : ∀ l, (putS x l).Perm (x :: l)
  | [] => List.Perm.refl _
  | y :: l => by
    unfold putS
    cases leS x y with
    | true => exact List.Perm.refl _
    | false => exact ((putS_perm x l).cons y).trans (List.Perm.swap x y l)
theorem putS_srt (x : Str) : ∀ l, l.Pairwise (leS · · = true) → (putS x l).Pairwise (leS · · = true)
  | [], _ => List.pairwise_singleton ..
  | y :: l, h => by
    obtain ⟨h1, h2⟩ := List.pairwise_cons.mp h
    unfold putS
    cases c : leS x y with
    | true =>
      refine List.pairwise_cons.mpr ⟨fun z hz => ?_, h⟩
      rcases List.mem_cons.mp hz with rfl | hz
      · exact c
      · exact leS_tr c (h1 z hz)
    | false =>
      refine List.pairwise_cons.mpr ⟨fun z hz => ?_, putS_srt x l h2⟩
      rcases List.mem_cons.mp ((putS_perm x l).mem_iff.mp hz) with rfl | hz
      · rcases leS_tot z y with q | q
        · rw [c] at q; cases q
        · exact q
      · exact h1 z hz
theorem srtS_perm : ∀ l, (srtS l).Perm l
  | [] => List.Perm.refl _
  | x :: l => (putS_perm x (srtS l)).trans ((srtS_perm l).cons x)
theorem srtS_srt : ∀ l, (srtS l).Pairwise (leS · · = true)
  | [] => List.Pairwise.nil
  | x :: l => putS_srt x _ (srtS_srt l)
theorem pw_of_risingS : ∀ (p : Str) (l : List Str), risingS p l = true → (p :: l).Pairwise (leS · · = true)
  | p, [], _ => List.pairwise_singleton ..
  | p, x :: r, h => by
    have h' : (!PySem.Spec.ltCps x.cps.toList p.cps.toList && risingS x r) = true := h
    rw [Bool.and_eq_true] at h'
    have ih := pw_of_risingS x r h'.2
    refine List.pairwise_cons.mpr ⟨fun z hz => ?_, ih⟩
    rcases List.mem_cons.mp hz with rfl | hz
    · exact h'.1
    · exact leS_tr h'.1 ((List.pairwise_cons.mp ih).1 z hz)
theorem srtS_one {ys xs : List Str} (hp : ys.Perm xs) (hs : sortedS ys = true) : ys = srtS xs := by
  have h1 : ys.Pairwise (leS · · = true) := by
    cases ys with
    | nil => exact List.Pairwise.nil
    | cons p l => exact pw_of_risingS p l hs
  exact List.Perm.eq_of_pairwise (fun a b _ _ => leS_anti) h1 (srtS_srt xs) (hp.trans (srtS_perm xs).symm)
theorem ddS_snoc (xs : List Str) (x : Str) : ddS (xs ++ [x]) = addS (ddS xs) x := by
  unfold ddS
  rw [List.foldl_append]
  rfl
theorem addS_len (L : List Str) (x : Str) : (addS L x).length ≤ L.length + 1 := by
  unfold addS
  cases decide (x ∈ L) with
  | true => exact Nat.le_succ _
  | false => rw [cond_false, List.length_append]; exact Nat.le_refl _
/-! ### the set of texts in the heap -/
def keyT (e : Int × Value) : Str := strOf e.2
def Tx1 (w : World) (e : Int × Value) : Prop := ∃ k u, e = (hashStr w k, Value.str k u)
structure TxS (w : World) (h : Heap) (a : Addr) (L : List Str) : Prop where
  ex : ∃ o es ep t, h.get? a = some o ∧ o.ExactSet ∧ o.data = .set es ep t ∧ (∀ e ∈ es.toList, Tx1 w e) ∧ (es.toList.map keyT).Perm L ∧ L.Nodup ∧ es.size < scanBound ∧ t.fits es.size = true ∧ Ris t.place.toList ∧ (w.params.followText "set-order" = true ∨ t.led = true)
theorem TxS.at {w : World} {h h' : Heap} {a : Addr} {L : List Str} (R : TxS w h a L) (k : ∀ o, h.get? a = some o → h'.get? a = some o) : TxS w h' a L := by
  obtain ⟨o, es, ep, t, ho, r⟩ := R.ex
  exact ⟨⟨o, es, ep, t, k o ho, r⟩⟩
theorem TxS.new {w : World} {h : Heap} {a : Addr} (ho : h.get? a = some { cls := .type "set", dict := none, data := .set #[] 0 (.fresh 0 0 (!w.params.followText "set-order")) }) : TxS w h a [] :=
  ⟨⟨_, #[], 0, _, ho, ⟨rfl, rfl, rfl⟩, rfl, (fun e he => by simp at he), .nil, .nil, (by decide), (by rfl), List.Pairwise.nil, by
    show _ ∨ (!w.params.followText "set-order") = true
    cases w.params.followText "set-order"
    · exact .inr rfl
    · exact .inl rfl⟩⟩
section
variable {P : Program} {w : World} {A : Around} {E : Value → Shared → Prop} {s : Shared} {a : Addr} {L : List Str}
theorem tx1_key {e : Int × Value} (g : Tx1 w e) (k : Str) : (PySem.strKind P w).is k e.2 = true ↔ keyT e = k := by
  obtain ⟨k0, u, rfl⟩ := g
  show Value.isStrOf k (.str k0 u) = true ↔ k0 = k
  simp [Value.isStrOf]
theorem tx1_elems {l : List (Int × Value)} (g : ∀ e ∈ l, Tx1 w e) : ElemsOf (PySem.strKind P w) l := fun e he => by
  obtain ⟨k, u, rfl⟩ := g e he
  exact ⟨⟨k, strKind_is P w k u, rfl⟩, rfl⟩
theorem tx_tail {g : Bool → Sem Unit} (hg : ∀ (b : Bool) (s₁ : Shared) (Q' : Unit → Shared → Prop), Q' () s₁ → wpAny (model P w) A (g b) Q' E s₁)
    {o : Obj} {es : Array (Int × Value)} {ep : Nat} {t : SetTable} (ho : s.heap.get? a = some o) (hex : o.ExactSet) (hd : o.data = .set es ep t)
    {es1 : Array (Int × Value)} {t2 : SetTable} (g1 : ∀ e ∈ es1.toList, Tx1 w e) (p1 : (es1.toList.map keyT).Perm L) (nd : L.Nodup)
    (hb1 : es1.size < scanBound) (hf2 : t2.fits es1.size = true) (hr : Ris t2.place.toList) (hl : w.params.followText "set-order" = true ∨ t2.led = true) {wasDummy : Bool} {R : Option Bool → Shared → Prop}
    (hR : ∀ h', Heap.SameBut a s.heap h' → TxS w h' a L → R (some true) { s with heap := h' }) :
    wpAny (model P w) A (do
        storeSet a es1 t2
        if (!wasDummy && t2.tooFull) = true then do
            g (relayAll t2 es1 (SetTable.grown es1.size)).2.2
            storeSet a (relayAll t2 es1 (SetTable.grown es1.size)).1 (relayAll t2 es1 (SetTable.grown es1.size)).2.1
            pure (some true)
          else pure (some true)) R E s := by
  refine wpAny_bind (wpAny_storeSet_of ho hd ?_ (fits_of_scanBound hb1))
  have ho1 := store_at (es' := es1) (t' := t2) ho hd
  have sb1 := Heap.SameBut.update s.heap a (Obj.putSet es1 t2)
  split
  · obtain ⟨Z, hZ⟩ : ∃ Z, Z = relayAll t2 es1 (SetTable.grown es1.size) := ⟨_, rfl⟩
    have pm : Z.1.toList.Perm es1.toList := hZ ▸ relayAll_perm t2 es1 (SetTable.grown es1.size)
    have hf3 : Z.2.1.fits Z.1.size = true := hZ ▸ relayAll_fits t2 es1 (SetTable.grown es1.size)
    have hr3 : Ris Z.2.1.place.toList := hZ ▸ relayAll_ris t2 es1 (SetTable.grown es1.size)
    have hl3 : Z.2.1.led = t2.led := hZ ▸ relayAll_led t2 es1 (SetTable.grown es1.size)
    rw [← hZ]
    have hsz : Z.1.size = es1.size := by rw [← Array.length_toList, pm.length_eq, Array.length_toList]
    have hb2 : Z.1.size < scanBound := by rw [hsz]; exact hb1
    refine wpAny_bind (hg _ _ _ (wpAny_bind (wpAny_storeSet_of ho1 rfl ?_ (fits_of_scanBound hb2))))
    have ho2 := store_at (es' := Z.1) (t' := Z.2.1) ho1 rfl
    refine wpAny_pure (hR _ (sb1.trans (Heap.SameBut.update _ a _)) ⟨⟨_, Z.1, _, Z.2.1, ho2, hex, rfl, fun e he => g1 e (pm.mem_iff.mp he), (pm.map keyT).trans p1, nd, hb2, hf3, hr3, ?_⟩⟩)
    exact hl.imp id fun z => by rw [hl3]; exact z
  · exact wpAny_pure (hR _ sb1 ⟨⟨_, es1, _, t2, ho1, hex, rfl, g1, p1, nd, hb1, hf2, hr, hl⟩⟩)
theorem tx_add {k : Str} {u : Tok} {Q : Bool → Shared → Prop} (R : TxS w s.heap a L) (room : L.length + 1 < scanBound)
    (hQ : ∀ b h', Heap.SameBut a s.heap h' → TxS w h' a (addS L k) → Q b { s with heap := h' }) : wpAny (model P w) A (setAddHashed a (.str k u) ((PySem.strKind P w).hash k)) Q E s := by
  obtain ⟨o, es, ep, t, ho, hex, hd, g, pL, nd, hb, hf, hr, hl⟩ := R.ex
  have hkey : (PySem.strKind P w).is k (.str k u) = true := strKind_is P w k u
  have hsc : (Value.str k u).scannable = true := rfl
  have hel : ElemsOf (PySem.strKind P w) es.toList := tx1_elems g
  have hesL : es.size = L.length := by rw [← pL.length_eq, List.length_map, Array.length_toList]
  unfold setAddHashed setAddHashedIn
  refine wpAny_holding (wpAny_bind (wpAny_setState_of ho hd hf ?_))
  dsimp only
  rw [byScan_of hsc hb hel]
  simp only [↓reduceIte]
  unfold setAddByScan
  refine wpAny_bind (wpAny_bind (wpAny_rule (wpAny_bind (wpAny_setScan_of hkey ho hd hf hel ?_))))
  cases hfi : List.findIdx? (fun e => (PySem.strKind P w).is k e.2) es.toList with
  | some j =>
    dsimp only
    obtain ⟨hj, pj, _⟩ := List.findIdx?_eq_some_iff_getElem.mp hfi
    have hk : k ∈ L := pL.mem_iff.mp (List.mem_map.mpr ⟨_, List.getElem_mem hj, (tx1_key (g _ (List.getElem_mem hj)) k).mp pj⟩)
    have e : addS L k = L := by unfold addS; rw [decide_eq_true hk]; rfl
    exact wpAny_pure (wpAny_pure (hQ _ s.heap (Heap.SameBut.refl a s.heap) (by rw [e]; exact R)))
  | none =>
    dsimp only
    have hk : k ∉ L := fun z => by
      obtain ⟨e, he, q⟩ := List.mem_map.mp (pL.mem_iff.mpr z)
      have c := List.findIdx?_eq_none_iff.mp hfi e he
      rw [(tx1_key (P := P) (g e he) k).mpr q] at c
      cases c
    have eA : addS L k = L ++ [k] := by unfold addS; rw [decide_eq_false hk]; rfl
    have ndA : (L ++ [k]).Nodup := (List.perm_append_singleton k L).nodup_iff.mpr (List.nodup_cons.mpr ⟨hk, nd⟩)
    obtain ⟨Z, hZ⟩ : ∃ Z, Z = layNew t es ((PySem.strKind P w).hash k) (.str k u) := ⟨_, rfl⟩
    have pm : Z.1.toList.Perm (es.push ((PySem.strKind P w).hash k, .str k u)).toList := hZ ▸ layNew_perm t es ((PySem.strKind P w).hash k) (.str k u)
    have hf1 : Z.2.1.fits Z.1.size = true := hZ ▸ layNew_fits t es ((PySem.strKind P w).hash k) (.str k u)
    have hr1 : Ris Z.2.1.place.toList := hZ ▸ layNew_ris t es ((PySem.strKind P w).hash k) (.str k u) hr
    have hl1 : Z.2.1.led = t.led := hZ ▸ layNew_led t es ((PySem.strKind P w).hash k) (.str k u)
    rw [← hZ]
    obtain ⟨es1, t1, wasD, gave⟩ := Z
    dsimp only at pm hf1 hr1 hl1 ⊢
    rw [Array.toList_push] at pm
    have g1 : ∀ e ∈ es1.toList, Tx1 w e := fun e he => by
      rcases List.mem_append.mp (pm.mem_iff.mp he) with z | z
      · exact g e z
      · exact ⟨k, u, List.mem_singleton.mp z⟩
    have p1 : (es1.toList.map keyT).Perm (L ++ [k]) := by
      have q := pm.map keyT
      rw [List.map_append] at q
      exact q.trans (pL.append_right _)
    have hsz : es1.size = L.length + 1 := by rw [← Array.length_toList, pm.length_eq, List.length_append, Array.length_toList, hesL]; rfl
    have hb1 : es1.size < scanBound := by rw [hsz]; exact room
    have hled : w.params.followText "set-order" = true ∨ t1.led = true := hl.imp id fun z => by rw [hl1]; exact z
    have fin : ∀ h', Heap.SameBut a s.heap h' → TxS w h' a (L ++ [k]) → Q true { s with heap := h' } := fun h' sb r => hQ true h' sb (by rw [eA]; exact r)
    have hgw : ∀ (b : Bool) (s₁ : Shared) (Q' : Unit → Shared → Prop), Q' () s₁ → wpAny (model P w) A (match b with | true => rule "set.scan.the-table-gave-way" | false => pure ()) Q' E s₁ :=
      fun b s₁ Q' q => by cases b <;> first | exact wpAny_pure q | exact wpAny_rule q
    refine wpAny_bind (hgw _ _ _ ?_)
    split
    · refine wpAny_bind ?_
      rw [hashByValue_scannable 8 hsc]
      refine wpAny_pure ?_
      refine tx_tail ?_ ho hex hd g1 p1 ndA hb1 ?_ ?_ ?_ ?_
      · intro b s₁ Q' q; cases b <;> first | exact wpAny_pure q | exact wpAny_rule q
      · first | (split <;> first | exact hf1 | exact SetTable.fits_plain_off hf1) | exact hf1
      · first | (split <;> exact hr1) | exact hr1
      · first | (split <;> exact hled) | exact hled
      · intro h' sb r; dsimp only; exact wpAny_pure (fin h' sb r)
    · refine wpAny_bind (wpAny_pure ?_)
      simp only [↓reduceIte]
      refine tx_tail ?_ ho hex hd g1 p1 ndA hb1 hf1 hr1 hled ?_
      · intro b s₁ Q' q; cases b <;> first | exact wpAny_pure q | exact wpAny_rule q
      · intro h' sb r; dsimp only; exact wpAny_pure (fin h' sb r)
theorem ddS_take {xs : List Str} {i : Nat} {x : Str} (h : xs[i]? = some x) : ddS (xs.take (i + 1)) = addS (ddS (xs.take i)) x := by
  rw [List.take_add_one, h]
  exact ddS_snoc _ _
theorem ddS_len : ∀ (xs : List Str) (i : Nat), i ≤ xs.length → (ddS (xs.take i)).length ≤ i
  | xs, 0, _ => by rw [List.take_zero]; exact Nat.le_refl _
  | xs, i + 1, h => by
    rw [ddS_take (List.getElem?_eq_getElem (by omega : i < xs.length))]
    exact Nat.le_trans (addS_len _ _) (Nat.succ_le_succ (ddS_len xs i (by omega)))
/-- the adds, one by one -/
theorem tx_loop {I : Addr} {fp wr : List Addr} {G : Array GenState → Array GenState → Prop} {n : Nat} {Pv : Nat → Value → Prop} {St : Nat → Shared → Prop} {R : Result → Shared → Prop}
    (W : WalksS P w A.in1 I fp wr G n Pv St) (S : Addr) (hSf : S ∉ fp) (xs : List Str) (hn : n = xs.length) (hb : xs.length + 1 < scanBound) (hval : ∀ i v, Pv i v → ∃ k t, xs[i]? = some k ∧ v = .str k t) :
    ∀ (k i : Nat) (s : Shared), n - i = k → i ≤ n → St i s → TxS w s.heap S (ddS (xs.take i)) →
      (∀ s', Moved (S :: wr) G s s' → TxS w s'.heap S (ddS xs) → R (.ok (.ret .none)) s') →
      codeAny (model P w) A (.builtin "set.update.loop" ⟨[.ref S, .ref I], []⟩) R s := by
  have hSw : S ∉ wr := fun h => hSf (W.sub _ h)
  have hsub : ∀ b ∈ wr, b ∈ S :: wr := fun b hb => List.mem_cons_of_mem _ hb
  intro k
  induction k with
  | zero =>
    intro i s hk' hi hst hS hR
    have hin : i = n := by omega
    subst hin
    refine codeAny_builtin F.entry_set_update_loop ?_
    rw [Around.under_plainId F.plain_set_update_loop _]
    show wpAny _ A.in1 (pyNext (.ref I) >>= _) _ _ s
    refine wpAny_bind (W.done s _ _ hst fun s' hm => ?_)
    show wpAny _ A.in1 (ret Value.none) _ _ s'
    rw [List.take_of_length_le (by omega)] at hS
    exact wpAny_pure (hR s' (hm.mono hsub) (hS.at fun o e => hm.heap S o hSw e))
  | succ k ih =>
    intro i s hk' hi hst hS hR
    have hlt : i < n := by omega
    refine codeAny_builtin F.entry_set_update_loop ?_
    rw [Around.under_plainId F.plain_set_update_loop _]
    show wpAny _ A.in1 (pyNext (.ref I) >>= _) _ _ s
    refine wpAny_bind (W.item i s _ _ hlt hst fun v s' hP hst' hm => ?_)
    obtain ⟨z, t, hz, rfl⟩ := hval i v hP
    have hS' : TxS w s'.heap S (ddS (xs.take i)) := hS.at fun o e => hm.heap S o hSw e
    show wpAny _ A.in1 (holding [Value.str z t] (setAdd S (.str z t)) >>= _) _ _ s'
    refine wpAny_bind (wpAny_holding ?_)
    unfold setAdd
    refine wpAny_holding (wpAny_bind ((PySem.strKind P w).pyHash (k := z) (strKind_is _ _ _ _) ?_))
    refine tx_add (s := { s' with toks := s'.toks + 1 }) hS' (by have := ddS_len xs i (by omega); omega) fun b h' hsb hS2 => ?_
    rw [← ddS_take hz] at hS2
    refine wpAny_pure ⟨plainId_quiet F.plain_set_update_loop _, ih (i + 1) _ (by omega) hlt (W.frame _ s' _ _ hst' (Nat.le_succ _) fun b hb o e => ?_) hS2 fun s'' hm'' hS'' => ?_⟩
    · rw [hsb.2 b (fun h : b = S => hSf (by rw [← h]; exact hb))]; exact e
    · refine hR s'' (Moved.trans W.gtrans ((hm.mono hsub).then_heap (Nat.le_succ _) fun b o hb e => ?_) hm'') hS''
      rw [hsb.2 b (fun h : b = S => hb (by rw [h]; exact List.mem_cons_self))]; exact e
/-- set(xs), xs a list of texts -/
theorem tx_call {l : Addr} {its : Array Value} {xs : List Str} {Q : Value → Shared → Prop} (hh : A.handled = none) (hl : s.heap.IsList l its) (hi : StrsAre its.toList xs) (hfew : xs.length + 1 < scanBound)
    (h : ∀ (h' : Heap) (tk : Nat), TxS w h' s.heap.objs.size (ddS xs) → (∀ b o, s.heap.get? b = some o → h'.get? b = some o) → Q (.ref s.heap.objs.size) { s with heap := h', toks := tk }) :
    wpAny (model P w) A (call (.type "set") [.ref l]) Q E s := by
  obtain ⟨N0, hN0⟩ : ∃ N0 : Obj, N0 = { cls := .type "set", dict := none, data := .set #[] 0 (.fresh 0 0 (!w.params.followText "set-order")) } := ⟨_, rfl⟩
  have hisz : its.size = xs.length := by rw [← StrsAre.len_eq hi, Array.length_toList]
  obtain ⟨c, tl, hmro⟩ := F.called_set.mro
  have hmade := F.called_set.made
  have hsub := F.called_set.sub
  refine wpAny_call (codeAny_of_tree ?_)
  show wpAny _ _ (callAny (.type "set") _) _ _ _
  refine wpAny_pure ⟨Code.quiet_builtin _ (by decide +kernel), codeAny_builtin F.entry_type_call ?_⟩
  rw [Around.under_plain (weight_type_call_type "set" [.ref l] []) rfl]
  have h1 := F.called_set.notType
  have h2 := F.called_set.canCreate
  have hct := F.typeCall_set_1 (.ref l)
  repeat (any_goals (first | assumption | wp_step))
  refine codeAny_mono (code_set_led1 (.ref l) (E := E) (Q₁ := fun obj s₁ => obj = .ref s.heap.objs.size ∧ s₁ = { s with heap := s.heap.push N0 }) ⟨rfl, by rw [hN0]⟩) fun r s₁ hr => ?_
  cases r with
  | error e => exact hr
  | ok fl =>
    cases fl with
    | ret obj =>
      obtain ⟨rfl, rfl⟩ := hr
      have hS : (s.heap.push N0).get? s.heap.objs.size = some N0 := Heap.get?_push_size _ (by rw [hN0]; rfl)
      have hT : Shared.TypeIs { s with heap := s.heap.push N0 } (.ref s.heap.objs.size) "set" := ⟨_, hS, by rw [hN0]⟩
      have hli := F.called_set.init.lookup
      have hbi := F.called_set.init.bind (.ref s.heap.objs.size)
      repeat (any_goals (first | assumption | wp_step))
      refine codeAny_mono (codeAny_call_builtin (R := wants (fun r s₂ => r = .none ∧ ∃ h' tk, s₂ = { s with heap := h', toks := tk } ∧ TxS w h' s.heap.objs.size (ddS xs) ∧
          (∀ b o, s.heap.get? b = some o → h'.get? b = some o)) E) F.called_set.init.plain F.entry_set_init (check_set_init_1 hT ?_)) fun r₂ s₂ hr₂ => ?_
      · obtain ⟨ol, hol, hcl, nl, hdl⟩ := hl
        obtain ⟨ocls, odict, odata, oslots⟩ := ol
        simp only at hcl hdl
        subst hcl; subst hdl
        have hol' : (s.heap.push N0).get? l = some { cls := .type "list", dict := odict, data := .seq its nl, slots := oslots } := Heap.get?_push_of_some _ hol
        have hsls := F.sub_list_set
        have hslf := F.sub_list_frozenset
        have hne : (Value.type "list" == Value.type "dict") = false := by decide
        have hl1 : (s.heap.push N0).IsList l its := ⟨_, hol', rfl, nl, rfl⟩
        have hlS : l < s.heap.objs.size := Heap.lt_size hol
        have hh3 : A.in1.in1.in1.handled = none := by simp [hh]
        have hneI : l ≠ (s.heap.push N0).objs.size := by
          rw [Heap.size_push]; exact Nat.ne_of_lt (Nat.lt_succ_of_lt hlS)
        have hSf : s.heap.objs.size ∉ [(s.heap.push N0).objs.size, l] := by
          rw [Heap.size_push]; simp only [List.mem_cons, List.mem_singleton, List.not_mem_nil, or_false, not_or]
          exact ⟨Nat.ne_of_lt (Nat.lt_succ_self _), Nat.ne_of_gt hlS⟩
        have hval : ∀ (i : Nat) (v : Value), its[i]? = some v → ∃ k t, xs[i]? = some k ∧ v = .str k t := fun i v hv => by
          have hv' : its.toList[i]? = some v := by rw [Array.getElem?_toList]; exact hv
          have hlt : i < xs.length := by rw [← hisz, ← Array.length_toList]; exact (List.getElem?_eq_some_iff.mp hv').1
          obtain ⟨t, e⟩ := SS.strs_at hi i v hv'
          refine ⟨xs[i], t, List.getElem?_eq_getElem hlt, ?_⟩
          rw [e, List.getD_eq_getElem?_getD, List.getElem?_eq_getElem hlt]
          rfl
        have hget : ((s.heap.push N0).push { cls := .type "list_iterator", data := .fields #[.ref l, .int 0 0] }).get? s.heap.objs.size = some N0 := Heap.get?_push_of_some _ hS
        have hb2' : ∀ b, b < s.heap.objs.size → b ≠ (s.heap.push N0).objs.size := fun b hb => by
          rw [Heap.size_push]; exact Nat.ne_of_lt (Nat.lt_succ_of_lt hb)
        subst hN0
        unfold Builtin.«set.__init__» noKeywords Builtin.Frozenset.updateFrom
        generalize hPI : pyIter = PI
        wp_walk
        subst hPI
        refine wpAny_pyIter_list hl1 ?_
        refine wpAny_bind (wpAny_runValue ?_)
        refine tx_loop ((Walks.list hh3 _ l hneI its).toS) s.heap.objs.size hSf xs hisz hfew hval (its.size - 0) 0 _ (by omega) (Nat.zero_le _)
          ⟨⟨_, Heap.get?_push_size _ rfl, rfl, rfl⟩, (hl1.push _)⟩ (TxS.new hget) ?_
        intro s' hm hS'
        obtain ⟨h', g2, d', tk', os'⟩ := s'
        have eg : g2 = s.gens := hm.gens
        have ed : d' = s.drawn := hm.drawn
        have eo : os' = s.os := hm.os
        subst eg; subst ed; subst eo
        show wpAny _ _ _ _ _ _
        refine wpAny_pure ?_
        show wpAny _ _ (ret Value.none) _ _ _
        refine wpAny_pure ⟨rfl, h', tk', rfl, hS', fun b o e => ?_⟩
        have hb := Heap.lt_size e
        have hb1 : b ≠ s.heap.objs.size := Nat.ne_of_lt hb
        have hb2 := hb2' b hb
        exact hm.heap b o (by simp only [List.mem_cons, List.mem_singleton, List.not_mem_nil, or_false, not_or]; exact ⟨hb1, hb2⟩) (Heap.get?_push_of_some _ (Heap.get?_push_of_some _ e))
      · cases r₂ with
        | error e => exact hr₂
        | ok fl₂ =>
          cases fl₂ with
          | ret r =>
            obtain ⟨rfl, h', tk, rfl, hS', hk'⟩ := hr₂
            repeat (any_goals (first | assumption | wp_step))
            exact h _ _ hS' hk'
          | _ => exact hr₂.elim
    | _ => exact hr.elim
/-- sorted(found) -/
theorem tx_sorted {Q : Value → Shared → Prop} (R : TxS w s.heap a L) (hh : A.handled = none)
    (hQ : ∀ s' p (out : Array Value) (c : Nat), (∀ b o, s.heap.get? b = some o → s'.heap.get? b = some o) → s'.gens = s.gens → s'.os = s.os → s.heap.objs.size ≤ p →
      s'.heap.get? p = some (seqObj "list" out c) → StrsAre out.toList (srtS L) → Q (.ref p) s') :
    wpAny (model P w) A (call (.builtin "sorted") [.ref a]) Q E s := by
  obtain ⟨o, es, ep, t, ho, hex, hd, g, pL, nd, hb, hf, hr, hl⟩ := R.ex
  refine Calls.call_function_entry kind_sorted plain_sorted entry_sorted (args_sorted1 _) ?_
  unfold Builtin.«sorted»
  refine wpAny_bind (m := checkCount "sorted" 1 1 _) (wpAny_pure ?_)
  refine wpAny_bind (collect_set (A := A.in1) hh ⟨o, ho, hex.1, hd⟩ hf hb hr hl fun s1 vs k1 hz g1 o1 pm => ?_)
  have hS : StrsAre vs (vs.map strOf) := strsAre_map vs fun v hv => by
    obtain ⟨e, he, q⟩ := List.mem_map.mp (pm.mem_iff.mp hv)
    obtain ⟨k, u, rfl⟩ := g e he
    exact ⟨k, u, q.symm⟩
  have pk : (vs.map strOf).Perm L := by
    have q := pm.map strOf
    rw [List.map_map] at q
    exact q.trans pL
  have hvl : vs.length ≤ sizeLine := by
    rw [pm.length_eq, List.length_map, Array.length_toList]
    exact fits_of_scanBound hb
  refine wpAny_bind (wpAny_newList ?_ hvl)
  have hoL : (s1.heap.push (seqObj "list" vs.toArray 0)).get? s1.heap.objs.size = some (seqObj "list" vs.toArray 0) := Heap.get?_push_size _ rfl
  refine wpAny_bind (wpAny_holding (wpAny_call_entry slot_list_sort ⟨_, hoL, rfl⟩ entry_list_sort (list_sort_treeKAny strKind_oneLt hoL hS.keysOf (fun v₁ v₂ rest e => keyKind_strs (by rw [← e]; exact hS)) hvl fun st' hp hs => ⟨_, rfl, ?_⟩) (args_list_sort _)))
  obtain ⟨ys, q1, q2, q3⟩ := sorted_out_str hS hp hs
  obtain ⟨c, hc⟩ := sortedHeap_at (vs := vs) (out := (arrOf st').map (·.2)) hoL
  rw [srtS_one (q2.trans pk) q3] at q1
  refine wpAny_pure ⟨_, rfl, hQ _ s1.heap.objs.size _ c (fun b u e => ?_) g1 o1 hz hc q1⟩
  have q := k1 b u e
  have hlt := Heap.lt_size q
  show (sortedHeap (s1.heap.push (seqObj "list" vs.toArray 0)) s1.heap.objs.size vs _).get? b = some u
  rw [sortedHeap_old (Nat.ne_of_lt hlt) (by rw [size_push']; exact Nat.lt_succ_of_lt hlt)]
  exact Heap.get?_push_of_some _ q
end
end Td

set_option Elab.async false
set_option linter.all false
set_option maxRecDepth 100000
set_option maxHeartbeats 4000000
namespace Td
open PySem L2 PySem.Spec PyProof.Rows
/-! ### t[::-1] -/
section
variable {prog : Program} {w : World} {A : Around} {E : Value → Shared → Prop} {s : Shared}
theorem rev_adjust (n : Nat) : Builtin.Slice.sliceAdjust none none (-1) (n : Int) = ((n : Int) - 1, -1) := by
  unfold Builtin.Slice.sliceAdjust
  simp
theorem rev_places (n : Nat) : Builtin.Slice.slicePlaces ((n : Int) - 1) (-1) (-1) = n := by
  unfold Builtin.Slice.slicePlaces
  simp
  omega
theorem rev_pick (xs : Array Value) : ((List.range xs.size).filterMap fun (k : Nat) => xs[((xs.size : Int) - 1 + (k : Int) * -1).toNat]?).toArray = xs.toList.reverse.toArray := by
  have e : (List.range xs.size).filterMap (fun (k : Nat) => xs[((xs.size : Int) - 1 + (k : Int) * -1).toNat]?) = ((List.range xs.size).map fun k => xs.size - 1 - k).filterMap (fun k => xs[k]?) := by
    rw [List.filterMap_map]
    have f : (fun (k : Nat) => xs[((xs.size : Int) - 1 + (k : Int) * -1).toNat]?) = (fun k => xs[k]?) ∘ fun k => xs.size - 1 - k := by
      funext k
      show xs[((xs.size : Int) - 1 + (k : Int) * -1).toNat]? = xs[xs.size - 1 - k]?
      have : ((xs.size : Int) - 1 + (k : Int) * -1).toNat = xs.size - 1 - k := by omega
      rw [this]
    rw [f]
  rw [e, PySem.W.krv_range, List.filterMap_reverse, PySem.W.krv_all]
theorem sliceApplied_rev {sl : Addr} {t : Tok} {n : Nat} {Q : Int × Int × Nat → Shared → Prop} (hs : s.heap.IsSliceOf sl .none .none (.int (-1) t)) (h : Q ((n : Int) - 1, -1, n) s) :
    wpAny (model prog w) A (Builtin.Slice.sliceApplied (.ref sl) (pure (n : Int))) Q E s := by
  obtain ⟨os, hos, hcs, hds⟩ := id hs
  unfold Builtin.Slice.sliceApplied Builtin.Slice.sliceFields
  refine wpAny_bind (wpAny_bind (wpAny_field hos hds (x := .none) rfl ?_))
  refine wpAny_bind (wpAny_field hos hds (x := .none) rfl ?_)
  refine wpAny_bind (wpAny_field hos hds (x := .int (-1) t) rfl (wpAny_pure ?_))
  refine wpAny_bind (HT.slicePart_ (.int (-1) t) ?_)
  show wpAny _ _ (if ((-1 : Int) == 0) = true then _ else _) _ _ s
  rw [if_neg (by decide)]
  refine wpAny_bind (HT.slicePart_ .none (wpAny_bind (HT.slicePart_ .none ?_)))
  refine wpAny_bind (wpAny_pure ?_)
  show wpAny _ _ (match Builtin.Slice.sliceAdjust none none (-1) (n : Int) with | (lo, hi) => pure (lo, (-1 : Int), Builtin.Slice.slicePlaces lo hi (-1))) _ _ s
  rw [rev_adjust]
  show wpAny _ _ (pure ((n : Int) - 1, (-1 : Int), Builtin.Slice.slicePlaces ((n : Int) - 1) (-1) (-1))) _ _ s
  rw [rev_places]
  exact wpAny_pure h
theorem getItem_tuple_rev {t sl : Addr} {items : Array Value} {tk : Tok} {Q : Value → Shared → Prop} (ht : IsTup s.heap t items) (hs : s.heap.IsSliceOf sl .none .none (.int (-1) tk))
    (h : Q (.ref s.heap.objs.size) { s with heap := s.heap.push { cls := .type "tuple", data := .seq items.toList.reverse.toArray } }) (hsz : items.size ≤ sizeLine) : wpAny (model prog w) A (getItem (.ref t) (.ref sl)) Q E s := by
  obtain ⟨os, hos, hcs, hds⟩ := id hs
  have hTs : s.TypeIs (.ref sl) "slice" := ⟨os, hos, hcs⟩
  have fits : sizeOk (.seq items.toList.reverse.toArray) := by
    show items.toList.reverse.toArray.size ≤ sizeLine
    rw [List.size_toArray, List.length_reverse, Array.length_toList]
    exact hsz
  unfold getItem
  try with_reducible refine wpAny_holding ?_
  first | refine wpAny_bind (wpAny_pure ?_) | skip
  refine wpAny_bind (wpAny_sequenceKey ht.typeIs (by decide) ?_)
  refine wpAny_bind (wpAny_callSpecial?_slot (name := Str.ofString "__getitem__") ht.typeIs PyProof.Rows.slot_tuple_getitem (wpAny_call_entry PyProof.Rows.slot_tuple_getitem ht.typeIs PyProof.Rows.entry_tuple_getitem ?_ (PyProof.Rows.args_tuple_getitem _ _)))
  show wpAny _ _ (Builtin.Tuple.tupleItemsOf (.ref t) >>= _) _ _ s
  refine wpAny_bind (tupleItemsOf_ ht ?_)
  refine wpAny_bind (wpAny_typeOf hTs ?_)
  rw [if_pos (by decide)]
  refine wpAny_bind (sliceApplied_rev hs ?_)
  have hno : ¬ (((((items.size : Nat) : Int) - 1) == 0 && (-1 : Int) == 1 && items.size == items.size) = true) := by simp
  show wpAny _ _ (if ((((items.size : Nat) : Int) - 1) == 0 && (-1 : Int) == 1 && items.size == items.size) = true then _ else _) _ _ s
  rw [if_neg hno, rev_pick]
  first
    | exact wpAny_bind (m := Builtin.Tuple.tupleExact _) (wpAny_newObj_type (wpAny_pure ⟨_, rfl, wpAny_pure h⟩) fits)
    | exact wpAny_bind (m := Builtin.Tuple.tupleExact _) (wpAny_newObj_type (wpAny_bind (wpAny_pure (wpAny_pure ⟨_, rfl, wpAny_pure h⟩))) fits)
    | exact wpAny_bind (wpAny_bind (m := Builtin.Tuple.tupleExact _) (wpAny_newObj_type (wpAny_pure (wpAny_pure ⟨_, rfl, wpAny_pure h⟩)) fits))
    | exact wpAny_bind (wpAny_bind (m := Builtin.Tuple.tupleExact _) (wpAny_newObj_type (wpAny_pure ⟨_, rfl, wpAny_pure h⟩) fits))
end
section
variable {X : Cx} {W : WX}
def revD (_ : Ws) : PyData → Option PyData
  | .tuple a => some (.tuple a.reverse)
  | _ => none
theorem pf_rev {o : Expr} {fo : FE} {k : Nat} {p2 p3 p4 pos : Pos} (ho : PF X W o fo) : PF X W (.Subscript o (.Slice none none (some (.UnaryOp .USub (.Constant (.int 1) k p3) p4)) p2) pos) (eU revD fo) := by
  refine ⟨fun pins s σ H Q I h => ?_⟩
  obtain ⟨g, ρ, w, hK, r, e, q⟩ := h
  have want : lE X.K W fo σ H fun x H1 => ∃ a xs, x = .ref a ∧ SqT X.K H1 a xs ∧ ∀ p, H1 p = none → Q (.ref p) (upd H1 p (.tup xs.reverse)) := by
    refine lX_bind hK r e q fun v H1 g1 d w1 x r1 e1 dv z => ?_
    cases dv with
    | tup sq da => exact ⟨_, _, rfl, (x.k.trans hK) ▸ r1.sqT sq, fun p hp => z _ _ _ (Xt.put (r1.fnone hp)) (r1.put hp) (newT r1 hp da.reverse)⟩
    | _ => exact z.elim
  refine Subscript_ (thn (ho.run pins s σ H _ I want) fun v s1 ⟨x, H1, I1, r1, a, xs, ex, hx, qq⟩ => ?_)
  subst ex
  cases r1
  have step : PO X (some (.UnaryOp .USub (.Constant (.int 1) k p3) p4)) (tPart (tUn (rU fun i => .int (-i)) (tC (.int 1)))) := po_some (pe_un un_neg pe_int)
  refine wpAny_Slice (thn (po_none.run pins s1 σ H1 (fun o H2 => o = none ∧ H2 = H1) I1 ⟨rfl, rfl⟩) fun vl s2 ⟨l, H2, I2, pl, el, e2⟩ => ?_)
  subst el e2
  refine thn (po_none.run pins s2 σ H2 (fun o H3 => o = none ∧ H3 = H2) I2 ⟨rfl, rfl⟩) fun vu s3 ⟨u, H3, I3, pu, eu, e3⟩ => ?_
  subst eu e3
  refine thn (step.run pins s3 σ H3 (fun o H4 => o = some (-1) ∧ H4 = H3) I3 ⟨1, rfl, -1, rfl, rfl, rfl⟩) fun vs s4 ⟨o, H4, I4, ps, eo, e4⟩ => ?_
  subst eo e4
  cases pl
  cases pu
  cases ps with
  | int i t =>
    obtain ⟨h5, hh5⟩ : ∃ h5 : Heap, h5 = s4.heap.push { cls := .type "slice", data := .fields #[.none, .none, .int (-1) t] } := ⟨_, rfl⟩
    have I5 : Inv X pins σ H4 { s4 with heap := s4.heap.push { cls := .type "slice", data := .fields #[.none, .none, .int (-1) t] } } := I4.kept (t' := s4.toks) fun b ob z => Heap.get?_push_of_some _ z
    obtain ⟨its, rv, ht, hz⟩ := I5.tuple hx
    have hlen := rv.length
    show wpAny (model X.prog X.w) X.A (subscriptTail o (.Slice none none (some (.UnaryOp .USub (.Constant (.int 1) k p3) p4)) p2) (.ref a) (.ref s4.heap.objs.size)) (EP X pins σ Q) X.xe { s4 with heap := s4.heap.push { cls := .type "slice", data := .fields #[.none, .none, .int (-1) t] } }
    refine tail_any (ops := [.ref a, .ref s4.heap.objs.size]) ht.typeIs PyProof.Rows.slot_tuple_getitem.lookup ?_ (by with_unfolding_all rfl)
    refine getItem_tuple_rev ht (Heap.IsSliceOf.new _ .none .none (.int (-1) t)) ?_ (by rw [List.size_toArray]; omega)
    refine ⟨.ref _, _, I5.laid (t' := s4.toks) (o := .tup xs.reverse) (fun b ob z => Heap.get?_push_of_some _ z) (Nat.le_refl _) ?_, rfl, qq _ (I5.hok.fresh (Nat.le_refl _))⟩
    exact ⟨by rw [List.length_reverse]; exact hz, _, rv.reverse, IsTup.new _ _⟩
def strsD : List PyData → Option (List Str)
  | [] => some []
  | .str x :: r => (strsD r).map (x :: ·)
  | _ => none
def sosD (w : Ws) : List PyData → Option PyData
  | [d] => match lstOf w d with
    | some ds => match strsD ds with
      | some xs => if decide (xs.length + 1 < scanBound) then some (.list ((srtS (ddS xs)).map .str)) else none
      | none => none
    | none => none
  | _ => none
theorem strsD_ok {g : Gd} : ∀ {vs : List V} {ds : List PyData} {xs : List Str}, DqA g vs ds → strsD ds = some xs → vs = xs.map V.str
  | _, _, _, .nil, h => by cases h; rfl
  | _, _, _, .cons d0 dr, h => by
    cases d0 with
    | str x =>
      simp only [strsD] at h
      cases e : strsD _ with
      | none => rw [e] at h; cases h
      | some ys =>
        rw [e] at h
        cases h
        rw [strsD_ok dr e]
        rfl
    | _ => simp [strsD] at h
theorem dqA_strs {g : Gd} : ∀ xs : List Str, DqA g (xs.map V.str) (xs.map PyData.str)
  | [] => .nil
  | x :: xs => .cons (.str x) (dqA_strs xs)
theorem inv_strs {pins : List (Addr × Obj)} {s2 s' : Shared} {σ : L2.St} {H1 : Hp} {p : Addr} {out : Array Value} {c : Nat} {ys : List Str} (I2 : Inv X pins σ H1 s2) (k : ∀ b o, s2.heap.get? b = some o → s'.heap.get? b = some o) (gg : s'.gens = s2.gens) (oo : s'.os = s2.os) (hp : s2.heap.objs.size ≤ p)
    (hg' : s'.heap.get? p = some (PyProof.Rows.seqObj "list" out c)) (hlen : (ys.map V.str).length ≤ sizeLine) (hi : PyProof.Rows.StrsAre out.toList ys) : Inv X pins σ (upd H1 p (.lst (ys.map V.str))) s' := by
  have J : Inv X pins σ (upd H1 p (.lst (ys.map V.str))) { s2 with heap := s'.heap, gens := s'.gens, drawn := s'.drawn, toks := s'.toks } :=
    I2.call (ch := []) (Un.laid k hp (I2.hok.fresh hp)) (I2.hok.laid k hp ⟨hlen, out.toList, c, vals_of_strs hi, hg'⟩) (by rw [gg]; exact I2.bare) (fun _ z => nomatch z)
  have e : s' = { s2 with heap := s'.heap, gens := s'.gens, drawn := s'.drawn, toks := s'.toks } := by
    cases s'
    cases s2
    cases oo
    rfl
  rw [e]
  exact J
theorem pf_sortset {e : Expr} {fa : FA} {p1 p2 pos pos2 : Pos} (hc : X.calm = true) (hg : Gl X "sorted") (hm : X.mg "sorted" = none) (hg2 : Gl X "set") (hm2 : X.mg "set" = none) (ha : PAf X W [e] fa)
    (na : starEach [e] X.env = (false, eval e X.env) :: starEach [] X.env := by rfl) : PF X W (.Call (.Name "sorted" p1) [.Call (.Name "set" p2) [e] [] pos2] [] pos) (eCb sosD fa) := by
  refine ⟨fun pins s σ H Q I h => ?_⟩
  obtain ⟨g, ρ, w, hK, r, e0, q⟩ := h
  have want : lA X.K W fa σ H fun vs H1 => ∃ a xs, vs = [.ref a] ∧ SqL X.K H1 a (xs.map V.str) ∧ xs.length + 1 < scanBound ∧ ∀ p, H1 p = none → Q (.ref p) (upd H1 p (.lst ((srtS (ddS xs)).map V.str))) := by
    refine lX_bind hK r e0 q fun v H1 g1 d w1 x r1 e1 dv z => ?_
    cases hz : sosD w1 d with
    | none => rw [hz] at z; exact z.elim
    | some y =>
      rw [hz] at z
      unfold sosD at hz
      split at hz
      · split at hz
        · rename_i ds hds
          split at hz
          · rename_i xs hxs
            split at hz
            · rename_i hs
              cases hz
              cases dv with
              | cons d0 dn =>
                cases dn
                obtain ⟨a, vs, rfl, sq, da⟩ := lstOf_ok r1 d0 hds
                have ev := strsD_ok da hxs
                subst ev
                exact ⟨a, xs, rfl, (x.k.trans hK) ▸ sq, of_decide_eq_true hs, fun p hp => z _ _ _ (Xt.put (r1.fnone hp)) (r1.put hp) (newL r1 hp (dqA_strs _))⟩
            · cases hz
          · cases hz
        · cases hz
      · cases hz
  refine Call_ (ld_blt I hg hm boot_sorted ?_)
  refine PyProof.Rows.callWith_builtin1 (PyProof.Rows.args_cons ?_ rfl) rfl rfl
  refine Call_ (ld_blt I hg2 hm2 boot_set ?_)
  refine PyProof.Rows.callWith_type1 (thn (ha.run pos2 pins s σ H _ I want) fun us s1 ⟨vs, H1, I1, r1, a, xs, ev, sq, hfew, qq⟩ => ?_) na rfl
  subst ev
  rw [Vals.ref1 r1]
  obtain ⟨its, rv, pl, hz⟩ := I1.list sq
  refine tx_call (I1.ok.hd hc) pl.isList (by simpa using strsAre_of rv) hfew fun h' tk hS hk => ?_
  have I2 : Inv X pins σ H1 { s1 with heap := h', toks := tk } := I1.kept hk
  refine PyProof.Rows.args_nil ?_
  refine tx_sorted (s := { s1 with heap := h', toks := tk }) hS (I2.ok.hd hc) fun s' p out c k gg oo hp hg' hi => ?_
  have hn : H1 p = none := I2.hok.fresh hp
  have hlen : ((srtS (ddS xs)).map V.str).length ≤ sizeLine := by
    have h1 := (srtS_perm (ddS xs)).length_eq
    have h2 := ddS_len xs xs.length (Nat.le_refl _)
    rw [List.take_length] at h2
    rw [List.length_map, h1]
    exact Nat.le_trans h2 (fits_of_scanBound (Nat.lt_of_succ_lt hfew))
  exact ⟨.ref p, _, inv_strs I2 k gg oo hp hg' hlen hi, rfl, qq p hn⟩
end
end Td

set_option Elab.async false
set_option linter.all false
set_option maxRecDepth 100000
set_option maxHeartbeats 4000000
namespace Td
open PySem L2
/-! ### what a reading comes to: a small logic -/
inductive wO {α : Type} (Q : α → Ws → Prop) : Oc α → Prop
  | mk {a : α} {w : Ws} (h : Q a w) : wO Q (.ok a w)
/-- N: goes on, R: returns -/
inductive wS (N : Ev → Ws → Prop) (R : PyData → Ws → Prop) : Os → Prop
  | nx {ρ : Ev} {w : Ws} (h : N ρ w) : wS N R (.nx ρ w)
  | rt {d : PyData} {w : Ws} (h : R d w) : wS N R (.rt d w)
theorem wO_ok {α : Type} {Q : α → Ws → Prop} {a : α} {w : Ws} : wO Q (.ok a w) = Q a w := propext ⟨fun h => by cases h; assumption, .mk⟩
theorem wO_xc {α : Type} {Q : α → Ws → Prop} {c : Value} {fs : List (Str × PyData)} {w : Ws} : wO Q (.ex c fs w) = False := propext ⟨fun h => (by cases h), False.elim⟩
theorem wO_no {α : Type} {Q : α → Ws → Prop} : wO Q .no = False := propext ⟨fun h => (by cases h), False.elim⟩
theorem wS_nx {N : Ev → Ws → Prop} {R : PyData → Ws → Prop} {ρ : Ev} {w : Ws} : wS N R (.nx ρ w) = N ρ w := propext ⟨fun h => by cases h; assumption, .nx⟩
theorem wS_rt {N : Ev → Ws → Prop} {R : PyData → Ws → Prop} {d : PyData} {w : Ws} : wS N R (.rt d w) = R d w := propext ⟨fun h => by cases h; assumption, .rt⟩
theorem wS_xc {N : Ev → Ws → Prop} {R : PyData → Ws → Prop} {ρ : Ev} {c : Value} {fs : List (Str × PyData)} {w : Ws} : wS N R (.ex ρ c fs w) = False := propext ⟨fun h => (by cases h), False.elim⟩
theorem wS_no {N : Ev → Ws → Prop} {R : PyData → Ws → Prop} : wS N R .no = False := propext ⟨fun h => (by cases h), False.elim⟩
theorem wO_bind {α β : Type} {Q : β → Ws → Prop} {x : Oc α} {f : α → Ws → Oc β} : wO Q (x.bind f) = wO (fun a w => wO Q (f a w)) x := by cases x <;> simp only [Oc.bind, wO_ok, wO_xc, wO_no]
theorem wO_mono {α : Type} {Q Q' : α → Ws → Prop} {x : Oc α} (h : wO Q x) (i : ∀ a w, Q a w → Q' a w) : wO Q' x := by
  cases h with
  | mk h => exact .mk (i _ _ h)
theorem wO_some {α : Type} {Q : α → Ws → Prop} {a : α} {w : Ws} : wO Q (Oc.of (some a) w) = Q a w := wO_ok
theorem wO_on {α : Type} {Q : α → Ws → Prop} {b : Bool} {x : Oc α} (hb : b = true) (h : wO Q x) : wO Q (Oc.on b x) := by subst hb; exact h
theorem wO_ex {α : Type} {Q : α → Ws → Prop} {x : Oc α} : wO Q x ↔ ∃ a w, x = .ok a w ∧ Q a w := by
  exact ⟨fun h => by cases h with | mk h => exact ⟨_, _, rfl, h⟩, fun ⟨_, _, e, q⟩ => by subst e; exact .mk q⟩
variable {Q : PyData → Ws → Prop} {QA : List PyData → Ws → Prop} {QT : Bool → Ws → Prop} {N : Ev → Ws → Prop} {R : PyData → Ws → Prop} {ρ : Ev} {w : Ws}
theorem wE_C {d : PyData} : wO Q (eC d ρ w) = Q d w := wO_ok
theorem wE_V {i : Nat} {d : PyData} (h : ρ[i]? = some (some d)) : wO Q (eV i ρ w) = Q d w := by unfold eV; rw [h]; exact wO_ok
theorem wE_B {f : Ws → PyData → PyData → Option PyData} {a b : FE} : wO Q (eB f a b ρ w) = wO (fun d w1 => wO (fun e w2 => wO Q (Oc.of (f w2 d e) w2)) (b ρ w1)) (a ρ w) := by simp only [eB, wO_bind]
theorem wE_U {f : Ws → PyData → Option PyData} {a : FE} : wO Q (eU f a ρ w) = wO (fun d w1 => wO Q (Oc.of (f w1 d) w1)) (a ρ w) := by simp only [eU, wO_bind]
theorem wE_Cb {f : Ws → List PyData → Option PyData} {a : FA} : wO Q (eCb f a ρ w) = wO (fun d w1 => wO Q (Oc.of (f w1 d) w1)) (a ρ w) := by simp only [eCb, wO_bind]
theorem wE_Call {f : FF} {ds : List PyData} {a : FA} : wO Q (eCall f ds a ρ w) = wO (fun as w1 => wO Q (f (as ++ ds) w1)) (a ρ w) := by simp only [eCall, wO_bind]
theorem wA_N : wO QA (aN ρ w) = QA [] w := wO_ok
theorem wA_C {f : FE} {k : FA} : wO QA (aC f k ρ w) = wO (fun d w1 => wO (fun ds w2 => QA (d :: ds) w2) (k ρ w1)) (f ρ w) := by simp only [aC, wO_bind, wO_ok]
theorem wE_Tup {a : FA} : wO Q (eTup a ρ w) = wO (fun ds w1 => wO Q (Oc.on (szOk ds.length) (.ok (.tuple ds) w1))) (a ρ w) := by simp only [eTup, wO_bind]
theorem wE_Lst {a : FA} : wO Q (eLst a ρ w) = wO (fun ds w1 => wO Q (Oc.on (szOk ds.length) (.ok (.list ds) w1))) (a ρ w) := by simp only [eLst, wO_bind]
theorem wE_Sl {f : FE} {l h : FO} : wO Q (eSl f l h ρ w) = wO (fun d w1 => wO (fun l w2 => wO (fun h w3 => wO Q (Oc.of (cutD w3 d l h) w3)) (h ρ w2)) (l ρ w1)) (f ρ w) := by simp only [eSl, wO_bind]
theorem wO_N {QO : Option Int → Ws → Prop} : wO QO (oN ρ w) = QO none w := wO_ok
theorem wO_S {QO : Option Int → Ws → Prop} {f : FE} : wO QO (oS f ρ w) = wO (fun d w1 => match d with | .int i => QO (some i) w1 | _ => False) (f ρ w) := by
  simp only [oS, wO_bind]
  congr 1
  funext d w1
  cases d <;> first | exact wO_ok | exact wO_no
theorem wT_B {f : FE} : wO QT (tB' f ρ w) = wO (fun d w1 => match d with | .bool b => QT b w1 | _ => False) (f ρ w) := by
  simp only [tB', wO_bind]
  congr 1
  funext d w1
  cases d <;> first | exact wO_ok | exact wO_no
theorem wT_An {t u : FT} : wO QT (tAn t u ρ w) = wO (fun b w1 => cond b (wO QT (u ρ w1)) (QT false w1)) (t ρ w) := by
  simp only [tAn, wO_bind]
  congr 1
  funext b w1
  cases b <;> first | exact wO_ok | rfl
theorem wT_Or {t u : FT} : wO QT (tOr' t u ρ w) = wO (fun b w1 => cond b (QT true w1) (wO QT (u ρ w1))) (t ρ w) := by
  simp only [tOr', wO_bind]
  congr 1
  funext b w1
  cases b <;> first | exact wO_ok | rfl
theorem wT_No {t : FT} : wO QT (tNo t ρ w) = wO (fun b w1 => QT (!b) w1) (t ρ w) := by simp only [tNo, wO_bind, wO_ok]
theorem wT_Tr {f : FE} : wO QT (tTr f ρ w) = wO (fun d w1 => wO QT (Oc.of (truD d w1) w1)) (f ρ w) := by simp only [tTr, wO_bind]
theorem wS_then {α : Type} {x : Oc α} {k : α → Ws → Os} : wS N R (x.thenS ρ k) = wO (fun a w1 => wS N R (k a w1)) x := by cases x <;> simp only [Oc.thenS, wO_ok, wO_xc, wO_no, wS_xc, wS_no]
theorem wS_Seq {f k : FS} (h : wS (fun ρ1 w1 => wS N R (k ρ1 w1)) R (f ρ w)) : wS N R (sSeq f k ρ w) := by
  unfold sSeq
  cases e : f ρ w with
  | nx ρ1 w1 => rw [e, wS_nx] at h; exact h
  | rt d w1 => rw [e, wS_rt] at h; exact .rt h
  | _ => rw [e] at h; cases h
theorem wS_Nil : wS N R (sNil ρ w) = N ρ w := wS_nx
theorem wS_Ret {f : FE} : wS N R (sRet f ρ w) = wO R (f ρ w) := by simp only [sRet, wS_then, wS_rt]
theorem wS_If {t : FT} {f k : FS} : wS N R (sIf t f k ρ w) = wO (fun b w1 => cond b (wS N R (f ρ w1)) (wS N R (k ρ w1))) (t ρ w) := by
  simp only [sIf, wS_then]
  congr 1
  funext b w1
  cases b <;> rfl
theorem wS_Asg {f : FE} {i : Nat} : wS N R (sAsg f (gN i) ρ w) = wO (fun d w1 => N (ρ.set i (some d)) w1) (f ρ w) := by simp only [sAsg, wS_then, gN, wS_nx]
theorem wS_mono {N' : Ev → Ws → Prop} {R' : PyData → Ws → Prop} {o : Os} (h : wS N R o) (i : ∀ ρ w, N ρ w → N' ρ w) (j : ∀ d w, R d w → R' d w) : wS N' R' o := by
  cases h with
  | nx h => exact .nx (i _ _ h)
  | rt h => exact .rt (j _ _ h)
theorem leave_ret {w' : Ws} {n : Nat} {d : PyData} (h : w'.length = n) : leave n (.rt d w') = .ok d w' := by
  subst h
  simp only [leave]
  split
  · rw [List.take_length]
  · rfl
theorem leave_end {w' : Ws} {n : Nat} {ρ : Ev} (h : w'.length = n) : leave n (.nx ρ w') = .ok .none w' := by
  subst h
  simp only [leave]
  split
  · rw [List.take_length]
  · rfl
theorem wF {m n : Nat} {b : FS} {ds : List PyData} (hn : ds.length = n) (h : wS (fun _ w1 => w1.length = w.length ∧ Q .none w1) (fun d w1 => w1.length = w.length ∧ Q d w1) (b (startE m ds) w)) : wO Q (defF m n b ds w) := by
  unfold defF
  rw [if_pos hn]
  cases e : b (startE m ds) w with
  | nx ρ1 w1 => rw [e, wS_nx] at h; rw [leave_end h.1]; exact .mk h.2
  | rt d w1 => rw [e, wS_rt] at h; rw [leave_ret h.1]; exact .mk h.2
  | _ => rw [e] at h; cases h
/-- a for loop, by what holds before each round -/
theorem wS_forL {gt : FG} {body : FS} (J : Nat → Ev → Ws → Prop) : ∀ (ds : List PyData) (i : Nat) (ρ : Ev) (w : Ws), J i ρ w →
    (∀ j d ρ w, ds[j]? = some d → J (i + j) ρ w → wO (fun ρ1 w1 => wS (J (i + j + 1)) R (body ρ1 w1)) (gt d ρ w)) →
    (∀ ρ w, J (i + ds.length) ρ w → N ρ w) → wS N R (forL gt body ds ρ w)
  | [], i, ρ, w, hJ, _, hN => by unfold forL; exact .nx (hN ρ w hJ)
  | d :: ds, i, ρ, w, hJ, hs, hN => by
    have h0 := hs 0 d ρ w rfl hJ
    unfold forL
    cases e : gt d ρ w with
    | ok ρ1 w1 =>
      rw [e, wO_ok] at h0
      have h0 : wS (J (i + 0 + 1)) R (body ρ1 w1) := h0
      have ih : ∀ ρ2 w2, J (i + 1) ρ2 w2 → wS N R (forL gt body ds ρ2 w2) := fun ρ2 w2 hj => wS_forL J ds (i + 1) ρ2 w2 hj
        (fun j d' ρ' w' hd hj' => by
          have := hs (j + 1) d' ρ' w' hd (by rw [show i + (j + 1) = i + 1 + j by omega]; exact hj')
          rw [show i + (j + 1) + 1 = i + 1 + j + 1 by omega] at this
          exact this)
        (fun ρ' w' hj' => hN ρ' w' (by rw [List.length_cons, show i + (ds.length + 1) = i + 1 + ds.length by omega]; exact hj'))
      cases e2 : body ρ1 w1 with
      | nx ρ2 w2 => rw [e2, wS_nx] at h0; simp only [e2]; exact ih ρ2 w2 h0
      | rt d w2 => rw [e2, wS_rt] at h0; simp only [e2]; exact .rt h0
      | _ => rw [e2] at h0; cases h0
    | _ => rw [e] at h0; cases h0
theorem wS_For {fi : FA} {gt : FG} {body : FS} : wS N R (sFor fi gt body ρ w) = wO (fun ds w1 => wS N R (forL gt body ds ρ w1)) (fi ρ w) := by simp only [sFor, wS_then]
theorem wA_E {f : FE} : wO QA (iE f ρ w) = wO (fun d w1 => wO QA (Oc.of (itD d) w1)) (f ρ w) := by simp only [iE, wO_bind]
theorem wE_Lc {fi : FA} {gt : FG} {tt : FT} {fe : FE} {vs : List Nat} : wO Q (eLc fi gt tt fe vs ρ w) = wO (fun ds w1 => wO (fun acc w2 => Q (.list acc) w2) (lcL gt tt fe (wipeE ρ vs) ds w1 [])) (fi ρ w) := by simp only [eLc, wO_bind, wO_ok]
/-- a comprehension, by what holds of what is gathered -/
theorem wA_lcL {gt : FG} {tt : FT} {fe : FE} (J : Nat → List PyData → Ws → Prop) : ∀ (ds : List PyData) (i : Nat) (w : Ws) (acc : List PyData), acc.length + ds.length ≤ sizeLine → J i acc w →
    (∀ j d acc w, ds[j]? = some d → J (i + j) acc w → wO (fun ρ1 w1 => wO (fun b w2 => cond b (wO (fun y w3 => J (i + j + 1) (acc ++ [y]) w3) (fe ρ1 w2)) (J (i + j + 1) acc w2)) (tt ρ1 w1)) (gt d ρ w)) →
    (∀ acc w, J (i + ds.length) acc w → QA acc w) → wO QA (lcL gt tt fe ρ ds w acc)
  | [], i, w, acc, _, hJ, _, hN => .mk (hN acc w hJ)
  | d :: ds, i, w, acc, hz, hJ, hs, hN => by
    have h0 := hs 0 d acc w rfl hJ
    have hz' : acc.length + (ds.length + 1) ≤ sizeLine := hz
    have ih : ∀ acc2 w2, acc2.length ≤ acc.length + 1 → J (i + 1) acc2 w2 → wO QA (lcL gt tt fe ρ ds w2 acc2) := fun acc2 w2 hl hj => wA_lcL J ds (i + 1) w2 acc2 (by omega) hj
      (fun j d' a' w' hd hj' => by
        have := hs (j + 1) d' a' w' hd (by rw [show i + (j + 1) = i + 1 + j by omega]; exact hj')
        rw [show i + (j + 1) + 1 = i + 1 + j + 1 by omega] at this
        exact this)
      (fun a' w' hj' => hN a' w' (by rw [List.length_cons, show i + (ds.length + 1) = i + 1 + ds.length by omega]; exact hj'))
    unfold lcL
    cases e : gt d ρ w with
    | ok ρ1 w1 =>
      rw [e, wO_ok] at h0
      have h0 : wO (fun b w2 => cond b (wO (fun y w3 => J (i + 1) (acc ++ [y]) w3) (fe ρ1 w2)) (J (i + 1) acc w2)) (tt ρ1 w1) := h0
      cases e2 : tt ρ1 w1 with
      | ok b w2 =>
        rw [e2, wO_ok] at h0
        cases b with
        | true =>
          have h0 : wO (fun y w3 => J (i + 1) (acc ++ [y]) w3) (fe ρ1 w2) := h0
          cases e3 : fe ρ1 w2 with
          | ok y w3 =>
            rw [e3, wO_ok] at h0
            simp only [e2, e3]
            rw [if_pos (by omega)]
            exact ih _ _ (by rw [List.length_append]; exact Nat.le_refl _) h0
          | _ => rw [e3] at h0; cases h0
        | false =>
          simp only [e2]
          exact ih _ _ (by omega) h0
      | _ => rw [e2] at h0; cases h0
    | _ => rw [e] at h0; cases h0
theorem wA_R1 {fa : FA} : wO QA (iR1 fa ρ w) = wO (fun ds w1 => match ds with | [.int j] => wO QA (Oc.on (c62 j) (.ok (rgD 0 j) w1)) | _ => False) (fa ρ w) := by
  simp only [iR1, wO_bind]
  congr 1
  funext ds w1
  match ds with
  | [] => exact wO_no
  | [.int j] => rfl
  | [.none] => exact wO_no
  | [.bool _] => exact wO_no
  | [.str _] => exact wO_no
  | [.list _] => exact wO_no
  | [.tuple _] => exact wO_no
  | [.dict _] => exact wO_no
  | a :: _ :: _ => cases a <;> exact wO_no
theorem rgD_len (n : Nat) : (rgD 0 (n : Int)).length = n := by simp [rgD]
theorem c62_of {n : Int} (h : n.natAbs < 1000000000) : c62 n = true := decide_eq_true (by omega)
end Td

set_option Elab.async false
set_option linter.all false
set_option maxRecDepth 100000
set_option maxHeartbeats 4000000
namespace Td
open PySem L2
/-! ### the store grows, a cell is given out -/
def Gd.al (g : Gd) (D : Addr) : Gd := { g with μ := fun l => if l = g.n then D else g.μ l, n := g.n + 1 }
theorem Gd.al_xt {g : Gd} {D : Addr} : Xt g (g.al D) := ⟨alloc_xt (P := g.P), rfl⟩
theorem Gd.al_ref {g : Gd} {D : Addr} : Dq (g.al D) (.ref D) (rf g.n) := alloc_ref (P := g.P)
theorem Rp.pnone {g : Gd} {H : Hp} {w : Ws} (r : Rp g H w) {D : Addr} (hD : H D = none) : g.P D = none := by
  cases h : g.P D with
  | none => rfl
  | some o => rw [(r.pin D o h).1] at hD; cases hD
theorem Rp.alloc {g : Gd} {H : Hp} {w : Ws} (r : Rp g H w) {D : Addr} {o : HO} {ob : Ob} (hD : H D = none) (hno : ∀ a, o ≠ .own a) (ho : ObR (g.al D) (upd H D o) D ob) : Rp (g.al D) (upd H D o) (w ++ [ob]) := by
  have z := pin_alloc (P := g.P) (o' := o) (ob := ob) (pin_new r hD o) rfl hno (r.pnone hD) (by rw [upd_upd]; exact ho)
  rw [upd_upd] at z
  exact z
/-- an object that is not tracked -/
theorem Rp.skip {g : Gd} {H : Hp} {w : Ws} (r : Rp g H w) {p : Addr} {o : HO} (h : H p = none) : Rp g (upd H p o) w where
  fro := fun a u e => by rw [upd_ne (ne_of_none e (r.fnone h))]; exact r.fro a u e
  len := r.len
  cell := fun l ob e => (r.cell l ob e).new (Xt.refl g).toXt0 fun b hb => by
    have nb : b ≠ p := fun z => by subst z; rw [h] at hb; cases hb
    exact ⟨rfl, upd_ne nb⟩
  inj := r.inj
  pin := fun a u e => by
    obtain ⟨h1, h2, h3⟩ := r.pin a u e
    have na : a ≠ p := fun z => by subst z; rw [h] at h1; cases h1
    exact ⟨by rw [upd_ne na]; exact h1, h2, h3⟩
def Gd.fz (g : Gd) (p : Addr) (o : HO) : Gd := { g with F := upd g.F p o }
theorem Rp.freeze {g : Gd} {H : Hp} {w : Ws} (r : Rp g H w) {l : Nat} {ds : List PyData} (hl : w[l]? = some (.lst ds)) :
    ∃ g', Xt g g' ∧ Rp g' H (w.set l .dead) ∧ Dq g' (.ref (g.μ l)) (.list ds) := by
  obtain ⟨hn, xs, hx, dx⟩ := r.cell l _ hl
  have hlt : l < g.n := by rw [r.len]; exact (List.getElem?_eq_some_iff.mp hl).1
  have X : Xt g (g.fz (g.μ l) (.lst xs)) := Xt.put hn
  refine ⟨_, X, ⟨fun a u e => ?_, by rw [List.length_set]; exact r.len, fun m ob e => ?_, r.inj, fun a u e => ?_⟩, .lst (SqL.of upd_same) (dx.mono X.toXt0 _ _)⟩
  · have e : upd g.F (g.μ l) (.lst xs) a = some u := e
    by_cases q : a = g.μ l
    · subst q; rw [upd_same] at e; exact hx.trans e
    · rw [upd_ne q] at e; exact r.fro a u e
  · by_cases q : l = m
    · subst q
      rw [List.getElem?_set_self (by rw [← r.len]; exact hlt)] at e
      cases e
      exact ⟨_, hx⟩
    · rw [List.getElem?_set_ne q] at e
      have hm : m < g.n := by rw [r.len]; exact (List.getElem?_eq_some_iff.mp e).1
      have nm : g.μ m ≠ g.μ l := fun z => q (r.inj m l hm hlt z).symm
      have c := r.cell m ob e
      cases ob with
      | lst es => obtain ⟨a, b, c, d⟩ := c; exact ⟨(upd_ne nm).trans a, b, c, d.mono X.toXt0 _ _⟩
      | dK es => obtain ⟨a, b, c, d⟩ := c; exact ⟨(upd_ne nm).trans a, b, c, d.mono X.toXt0⟩
      | ins k es =>
        obtain ⟨a, dx', gs, ⟨C', hC, h⟩, hd, hn2, d⟩ := c
        have nx : dx' ≠ g.μ l := fun z => by rw [z, hx] at hd; cases hd
        exact ⟨(upd_ne nm).trans a, dx', gs, ⟨C', hC, h⟩, hd, (upd_ne nx).trans hn2, d.mono X.toXt0⟩
      | dead => exact c
  · obtain ⟨q1, q2, q3⟩ := r.pin a u e
    exact ⟨q1, (upd_ne (fun z => q3 l hlt z.symm)).trans q2, q3⟩
/-- slot i: the list of the store is one of data from now on -/
def fzD (w : Ws) (d : PyData) : Option (PyData × Ws) := match locOf d with
  | some l => match w[l]? with
    | some (.lst ds) => some (.list ds, w.set l .dead)
    | _ => none
  | none => none
theorem locOf_ok {g : Gd} {v : V} {d : PyData} {l : Nat} (h : Dq g v d) (e : locOf d = some l) : v = .ref (g.μ l) ∧ d = rf l ∧ l < g.n := by
  cases h with
  | @ref m hm =>
    have : m = l := by simpa [locOf] using e
    subst this
    exact ⟨rfl, rfl, hm⟩
  | _ => cases e
theorem fzD_ok {g : Gd} {H : Hp} {w w' : Ws} {v : V} {d d' : PyData} (r : Rp g H w) (h : Dq g v d) (e : fzD w d = some (d', w')) : ∃ g', Xt g g' ∧ Rp g' H w' ∧ Dq g' v d' := by
  unfold fzD at e
  split at e
  · rename_i l hl
    split at e
    · rename_i ds hd
      cases e
      obtain ⟨rfl, rfl, _⟩ := locOf_ok h hl
      exact r.freeze hd
    · cases e
  · cases e
def sFz (i : Nat) : FS := fun ρ w => match ρ[i]? with
  | some (some d) => match fzD w d with
    | some (d', w') => .nx (ρ.set i (some d')) w'
    | none => .no
  | _ => .no
section
variable {X : Cx} {W : WX}
theorem sFz_nx {i : Nat} {ρ : Ev} {w : Ws} : sFz i ρ w = .no ∨ ∃ d d' w', ρ[i]? = some (some d) ∧ fzD w d = some (d', w') ∧ sFz i ρ w = .nx (ρ.set i (some d')) w' := by
  unfold sFz
  split
  · rename_i d hd
    split
    · rename_i d' w' hf
      exact .inr ⟨d, d', w', hd, hf, rfl⟩
    · exact .inl rfl
  · exact .inl rfl
theorem pssf_fz {i : Nat} {rest : List Stmt} {k : FS} (h : PSsf X W rest k) : PSsf X W rest (sSeq (sFz i) k) := by
  refine pss_imp h fun D σ H ⟨g, ρ, w, hK, r, e, q⟩ => ?_
  unfold sSeq at q
  rcases sFz_nx (i := i) (ρ := ρ) (w := w) with z | ⟨d, d', w', hd, hf, z⟩
  · rw [z] at q; exact q.elim
  · rw [z] at q
    obtain ⟨v, hv, dv⟩ := e.at_ i d hd
    obtain ⟨g', x, r', dv'⟩ := fzD_ok r dv hf
    refine ⟨g', _, _, x.k.trans hK, r', ?_, oSt.mono x q⟩
    have e' := (e.mono x.toXt0).set i dv'
    have es : σ.set i (some v) = σ := by
      refine List.ext_getElem? fun j => ?_
      by_cases hj : i = j
      · subst hj
        have hi : i < σ.length := (List.getElem?_eq_some_iff.mp hv).1
        rw [List.getElem?_set_self hi, hv]
      · rw [List.getElem?_set_ne hj]
    rw [es] at e'
    exact e'
/-- an expression whose list of the store is given out as data -/
def eFz (f : FE) : FE := fun ρ w => (f ρ w).bind fun d w1 => match fzD w1 d with
  | some (d', w') => .ok d' w'
  | none => .no
theorem pf_fz {e : Expr} {f : FE} (h : PF X W e f) : PF X W e (eFz f) := by
  refine pe_imp h fun σ H Q ⟨g, ρ, w, hK, r, e, q⟩ => ?_
  refine lX_bind hK r e q fun v H1 g1 d w1 x r1 e1 dv z => ?_
  split at z
  · rename_i d' w' hf
    obtain ⟨g', x', r', dv'⟩ := fzD_ok r1 dv hf
    exact z v H1 g' x' r' dv'
  · exact z.elim

/-! ### new lists of the store -/
def eLstS (fa : FA) : FE := fun ρ w => (fa ρ w).bind fun ds w1 => Oc.on (szOk ds.length) (.ok (rf w1.length) (w1 ++ [.lst ds]))
theorem newS {g : Gd} {H : Hp} {w : Ws} {vs : List V} {ds : List PyData} (r : Rp g H w) {p : Addr} (hp : H p = none) (d : DqA g vs ds) : Rp (g.al p) (upd H p (.lst vs)) (w ++ [.lst ds]) ∧ Dq (g.al p) (.ref p) (rf w.length) := by
  refine ⟨r.alloc hp (fun a z => nomatch z) ⟨r.fnone hp, vs, upd_same, d.mono Gd.al_xt.toXt0 _ _⟩, ?_⟩
  rw [← r.len]
  exact Gd.al_ref
theorem pf_lstS {es : List Expr} {fa : FA} {pos : Pos} (h : PAf X W es fa) : PF X W (.List es pos) (eLstS fa) := by
  refine pe_imp (pe_lst h) fun σ H Q ⟨g, ρ, w, hK, r, e, q⟩ => ?_
  refine lX_bind hK r e q fun vs H1 g1 ds w1 x r1 e1 d z => ?_
  obtain ⟨hb, z⟩ := z.on
  refine ⟨by rw [d.length]; exact of_decide_eq_true hb, fun p hp => ?_⟩
  obtain ⟨h1, h2⟩ := newS r1 hp d
  exact z _ _ _ Gd.al_xt h1 h2

/-! ### a list of the store is changed -/
def updL (w : Ws) (o : PyData) (k : List PyData → Option (PyData × List PyData)) : Option (PyData × Ws) := match locOf o with
  | some l => match w[l]? with
    | some (.lst xs) => match k xs with
      | some (d, ys) => some (d, w.set l (.lst ys))
      | none => none
    | _ => none
  | none => none
theorem updL_ok {g : Gd} {H : Hp} {w w' : Ws} {v : V} {o d : PyData} {k : List PyData → Option (PyData × List PyData)} (r : Rp g H w) (h : Dq g v o) (e : updL w o k = some (d, w')) :
    ∃ p xs ds ys, v = .ref p ∧ H p = some (.lst xs) ∧ DqA g xs ds ∧ k ds = some (d, ys) ∧ ∀ ys', DqA g ys' ys → Rp g (upd H p (.lst ys')) w' := by
  unfold updL at e
  split at e
  · rename_i l hl
    split at e
    · rename_i ds hd
      split at e
      · rename_i d' ys hk
        cases e
        obtain ⟨rfl, rfl, _⟩ := locOf_ok h hl
        obtain ⟨hn, xs, hx, dx⟩ := r.cell l _ hd
        refine ⟨_, xs, ds, ys, rfl, hx, dx, hk, fun ys' dy => r.write hd hn (fun a b hb z => ?_) ⟨hn, _, upd_same, dy⟩⟩
        rw [hx] at hb; cases hb; cases z
      · cases e
    · cases e
  · cases e
/-- a method of lists: what it gives, the list behind it -/
def MtL (X : Cx) (id : String) (r : List PyData → List PyData → Option (PyData × List PyData)) : Prop :=
  ∃ rr, MtM X id rr ∧ ∀ (g : Gd) (xs vs : List V) (ds as ys : List PyData) (d : PyData), DqA g xs ds → DqA g vs as → r ds as = some (d, ys) →
    ∃ v ys', Dq g v d ∧ DqA g ys' ys ∧ ∀ (H : Hp) (p : Addr) (Q : VK), H p = some (.lst xs) → Q v (upd H p (.lst ys')) → rr (.ref p) vs H Q
def eLm (r : List PyData → List PyData → Option (PyData × List PyData)) (fo : FE) (fa : FA) : FE := fun ρ w => (fo ρ w).bind fun o w1 => Oc.on (lstOf w1 o).isSome ((fa ρ w1).bind fun as w2 => match updL w2 o (fun xs => r xs as) with
  | some (d, w3) => .ok d w3
  | none => .no)
theorem pf_lm {id : String} {name : Str} {r : List PyData → List PyData → Option (PyData × List PyData)} {o e : Expr} {es : List Expr} {fo : FE} {fa : FA} {apos cpos : Pos} (slot : Slot "list" name id) (hty : typeOf (.builtin id) = pure (.type "method_descriptor")) (hm : MtL X id r) (ho : PF X W o fo) (ha : PAf X W (e :: es) fa)
    (hbase : attributeBase o name X.env (eval o X.env) = eval o X.env := by rfl) (hfew : ((backTo cpos (starEach (e :: es) X.env)).all (fun x => !x.1) && (backToKw cpos (keywordEach [] X.env)).all (fun x => x.1.isSome) && decide ((e :: es).length + ([] : List Keyword).length + (if ([] : List Keyword).isEmpty then 0 else 1) < 30)) = true := by rfl)
    (hline : (apos.endLine == cpos.line) = true := by rfl) (hs : starEach (e :: es) X.env = (false, eval e X.env) :: starEach es X.env := by rfl)
    (hplain : (backTo cpos (starEach es X.env)).any (·.1) = false := by rfl) :
    PF X W (.Call (.Attribute o name apos) (e :: es) [] cpos) (eLm r fo fa) := by
  obtain ⟨rr, hm, hr⟩ := hm
  refine pe_imp (pe_bm PySem.F.plainAttrs_list slot hty hm ho ha hbase hfew hline hs hplain) fun σ H Q ⟨g, ρ, w, hK, r, e, q⟩ => ?_
  refine lX_bind hK r e q fun v H1 g1 d w1 x r1 e1 dv z => ?_
  obtain ⟨hb, z⟩ := z.on
  obtain ⟨ds, hds⟩ := Option.isSome_iff_exists.mp hb
  obtain ⟨a, xs, rfl, sq, da⟩ := lstOf_ok r1 dv hds
  have hK1 := x.k.trans hK
  refine ⟨.inl ⟨rfl, xs, hK1 ▸ sq⟩, ?_⟩
  refine lX_bind hK1 r1 e1 z fun vs H2 g2 as w2 x2 r2 e2 dvs z2 => ?_
  split at z2
  · rename_i d' w3 hu
    obtain ⟨p, xs2, ds2, ys, ep, hp, dx2, hk, hw⟩ := updL_ok r2 (dv.mono x2.toXt0 _ _) hu
    obtain ⟨v', ys', dv', dy', hfin⟩ := hr g2 xs2 vs ds2 as ys d' dx2 dvs hk
    rw [ep]
    exact hfin H2 p Q hp (z2 _ _ g2 (Xt.refl _) (hw ys' dy') dv')
  · exact z2.elim
def eLm0 (r : List PyData → List PyData → Option (PyData × List PyData)) (fo : FE) : FE := fun ρ w => (fo ρ w).bind fun o w1 => match updL w1 o (fun xs => r xs []) with
  | some (d, w3) => .ok d w3
  | none => .no
theorem pf_lm0 {id : String} {name : Str} {r : List PyData → List PyData → Option (PyData × List PyData)} {o : Expr} {fo : FE} {apos cpos : Pos} (slot : Slot "list" name id) (hty : typeOf (.builtin id) = pure (.type "method_descriptor")) (hm : MtL X id r) (ho : PF X W o fo)
    (hbase : attributeBase o name X.env (eval o X.env) = eval o X.env := by rfl) (hline : (apos.endLine == cpos.line) = true := by rfl) :
    PF X W (.Call (.Attribute o name apos) [] [] cpos) (eLm0 r fo) := by
  obtain ⟨rr, hm, hr⟩ := hm
  refine pe_imp (pe_bm0 PySem.F.plainAttrs_list slot hty hm ho hbase hline) fun σ H Q ⟨g, ρ, w, hK, r, e, q⟩ => ?_
  refine lX_bind hK r e q fun v H1 g1 d w1 x r1 e1 dv z => ?_
  have hK1 := x.k.trans hK
  split at z
  · rename_i d' w3 hu
    obtain ⟨p, xs2, ds2, ys, rfl, hp, dx2, hk, hw⟩ := updL_ok r1 dv hu
    obtain ⟨v', ys', dv', dy', hfin⟩ := hr g1 xs2 [] ds2 [] ys d' dx2 .nil hk
    exact ⟨.inl ⟨rfl, xs2, hK1 ▸ SqL.of hp⟩, hfin H1 p Q hp (z _ _ g1 (Xt.refl _) (hw ys' dy') dv')⟩
  · exact z.elim
def apL : List PyData → List PyData → Option (PyData × List PyData)
  | xs, [d] => if xs.length < sizeLine then some (.none, xs ++ [d]) else none
  | _, _ => none
theorem mtL_append : MtL X "list.append" apL := by
  refine ⟨rAppend, mt_append, fun g xs vs ds as ys d dx da e => ?_⟩
  unfold apL at e
  split at e
  · split at e
    · rename_i hz
      cases e
      cases da with
      | cons h t =>
        cases t
        exact ⟨.non, _, .non, dx.append (.cons h .nil), fun H p Q hp q => ⟨p, xs, _, rfl, rfl, hp, by rw [dx.length]; exact hz, q⟩⟩
    · cases e
  · cases e
def ppL : List PyData → List PyData → Option (PyData × List PyData)
  | xs, [] => match xs[xs.length - 1]? with
    | some d => some (d, xs.dropLast)
    | none => none
  | _, _ => none
theorem DqA.dropLast {g : Gd} {vs : List V} {ds : List PyData} (h : DqA g vs ds) : DqA g vs.dropLast ds.dropLast := by
  rw [List.dropLast_eq_take, List.dropLast_eq_take, h.length]
  exact h.take _
theorem mtL_pop : MtL X "list.pop" ppL := by
  refine ⟨rPop, mt_pop, fun g xs vs ds as ys d dx da e => ?_⟩
  unfold ppL at e
  split at e
  · split at e
    · rename_i d' hd
      cases e
      cases da
      obtain ⟨v, hv, dv⟩ := dx.get hd
      rw [← dx.length] at hv
      exact ⟨v, _, dv, dx.dropLast, fun H p Q hp q => ⟨p, xs, _, rfl, rfl, hp, hv, q⟩⟩
    · cases e
  · cases e
def paL : List PyData → List PyData → Option (PyData × List PyData)
  | xs, [.int i] => if -(2 ^ 63) ≤ i ∧ i < 2 ^ 63 then match seqIndex? i xs.length with
      | some k => match xs[k]? with
        | some d => some (d, xs.eraseIdx k)
        | none => none
      | none => none
    else none
  | _, _ => none
theorem DqA.eraseIdx {g : Gd} : ∀ {vs : List V} {ds : List PyData} (k : Nat), DqA g vs ds → DqA g (vs.eraseIdx k) (ds.eraseIdx k)
  | _, _, _, .nil => .nil
  | _, _, 0, .cons _ t => t
  | _, _, k + 1, .cons h t => .cons h (DqA.eraseIdx k t)
theorem mtL_popAt : MtL X "list.pop" paL := by
  refine ⟨rPopAt, mt_popAt, fun g xs vs ds as ys d dx da e => ?_⟩
  unfold paL at e
  split at e
  · rename_i i
    split at e
    · rename_i hi
      split at e
      · rename_i k hk
        split at e
        · rename_i d' hd
          cases e
          cases da with
          | cons h t =>
            cases t; cases h
            obtain ⟨v, hv, dv⟩ := dx.get hd
            rw [← dx.length] at hk
            exact ⟨v, _, dv, dx.eraseIdx k, fun H p Q hp q => ⟨p, xs, i, k, v, rfl, rfl, hp, hi.1, hi.2, hk, hv, q⟩⟩
        · cases e
      · cases e
    · cases e
  · cases e

/-! ### xs[i] = v -/
theorem DqA.set {g : Gd} : ∀ {vs : List V} {ds : List PyData} (j : Nat) {v : V} {d : PyData}, DqA g vs ds → Dq g v d → DqA g (vs.set j v) (ds.set j d)
  | _, _, _, _, _, .nil, _ => .nil
  | _, _, 0, _, _, .cons _ t, h => .cons h t
  | _, _, j + 1, _, _, .cons a t, h => .cons a (DqA.set j t h)
def gIx (fo fi : FE) : FG := fun d ρ w => (fo ρ w).bind fun o w1 => (fi ρ w1).bind fun i w2 => match i with
  | .int k => match updL w2 o (fun xs => (ixN xs.length k).map fun j => (.none, xs.set j d)) with
    | some (_, w3) => .ok ρ w3
    | none => .no
  | _ => .no
theorem pgf_ix {o i : Expr} {pos : Pos} {fo fi : FE} (ho : PF X W0 o fo) (hi : PF X W0 i fi)
    (ha : ∀ v, assign (.Subscript o i pos) X.env v = (do let ov ← holding [v] (eval o X.env); let iv ← holding [v, ov] (eval i X.env); standAt pos; holding [v, ov, iv] (setItem ov iv v); release [v, ov, iv] []) := by intro _; rfl) : PGf X [] (.Subscript o i pos) (gIx fo fi) := by
  refine pg_imp (pg_sub ho hi set_list ha) fun v σ H Q ⟨g, ρ, w, d, hK, r, e, dv, q⟩ => ?_
  have q' : oX W0 σ (fun g' (_ : Unit) ρ' => EnR g' σ ρ') g (fun _ H' => Q σ H') (gIx fo fi d ρ w) := by
    cases hz : gIx fo fi d ρ w with
    | ok ρ' w' => rw [hz] at q; exact fun _ H' g' x r' e' => q σ H' g' x r' e' (Sm.refl _ _)
    | ex c fs w' => rw [hz] at q; exact q.elim
    | no => rw [hz] at q; exact q
  refine lX_bind hK r e q' fun vo H1 g1 o' w1 x r1 e1 dvo z => ?_
  refine lX_bind (x.k.trans hK) r1 e1 z fun vi H2 g2 i' w2 x2 r2 e2 dvi z2 => ?_
  split at z2
  · rename_i k
    split at z2
    · rename_i d' w3 hu
      obtain ⟨p, xs, ds, ys, rfl, hp, dx, hk, hw⟩ := updL_ok r2 (dvo.mono x2.toXt0 _ _) hu
      obtain ⟨j, hj, ej⟩ := Option.map_eq_some_iff.mp hk
      cases ej
      cases dvi
      have dv2 := dv.mono (x.toXt0.trans x2.toXt0) _ _
      refine ⟨p, xs, k, j, rfl, rfl, hp, by rw [dx.length]; exact hj, ?_⟩
      exact z2 () _ g2 (Xt.refl _) (hw _ (dx.set j dv2)) e2
    · exact z2.elim
  · exact z2.elim

/-! ### while -/
def whL (t : FT) (body : FS) : Nat → FS
  | 0 => fun _ _ => .no
  | n + 1 => fun ρ w => (t ρ w).thenS ρ fun b w1 => cond b (match body ρ w1 with
    | .nx ρ2 w2 => whL t body n ρ2 w2
    | .ct ρ2 w2 => whL t body n ρ2 w2
    | .bk ρ2 w2 => .nx ρ2 w2
    | o => o) (.nx ρ w1)
def sWh (t : FT) (body : FS) : FS := whL t body 1000000
theorem psf_while {c : Expr} {body : List Stmt} {pos : Pos} {t : FT} {fb : FS} (hp : PassesOwn (model X.prog X.w) X.A X.env X.xe) (hc : PTf X W c t) (hb : PSsf X W body fb) : PSf X W (.While c body [] pos) (sWh t fb) := by
  refine ps_imp (ps_while hp hc hb) fun D σ H ⟨g, ρ, w, hK, r, e, q⟩ => ?_
  refine ⟨fun m σ' H' => ∃ g' ρ' w', Xt g g' ∧ Rp g' H' w' ∧ EnR g' σ' ρ' ∧ oSt W g' D (whL t fb m ρ' w'), ⟨1000000, g, ρ, w, Xt.refl _, r, e, q⟩, ?_⟩
  rintro m σ' H' ⟨g', ρ', w', x', r', e', z'⟩
  cases m with
  | zero => exact z'.elim
  | succ m =>
    refine lX_then (x'.k.trans hK) r' e' z' fun v H1 g1 d w1 x r1 e1 dv z => ?_
    subst dv
    have up := x'.trans x
    cases v with
    | true =>
      refine iteT ⟨fun σ2 H2 => ∃ g2 ρ2 w2, Xt g g2 ∧ Rp g2 H2 w2 ∧ EnR g2 σ2 ρ2 ∧ oSt W g2 D (whL t fb m ρ2 w2), fun σ2 H2 n => ⟨m, Nat.lt_succ_self _, n⟩, g1, ρ', w1, up.k.trans hK, r1, e1, ?_⟩
      simp only [cond] at z
      cases hb' : fb ρ' w1 with
      | nx ρ2 w2 =>
        rw [hb'] at z
        exact fun σ4 H4 g4 x4 r4 e4 => ⟨g4, ρ2, w2, up.trans x4, r4, e4, oSt.mono x4 z⟩
      | ct ρ2 w2 =>
        rw [hb'] at z
        exact fun σ4 H4 g4 x4 r4 e4 => ⟨g4, ρ2, w2, up.trans x4, r4, e4, oSt.mono x4 z⟩
      | bk ρ2 w2 => rw [hb'] at z; exact z
      | rt d w2 => rw [hb'] at z; exact z
      | ex ρ2 c fs w2 => rw [hb'] at z; exact z
      | no => rw [hb'] at z; exact z
    | false => exact iteF (z _ _ _ (Xt.refl _) r1 e1)

/-! ### == [], != [] -/
def eqL (w : Ws) (d e : PyData) : Option PyData := match lstOf w d, lstOf w e with
  | some xs, some [] => some (.bool xs.isEmpty)
  | _, _ => none
def neL (w : Ws) (d e : PyData) : Option PyData := match lstOf w d, lstOf w e with
  | some xs, some [] => some (.bool (!xs.isEmpty))
  | _, _ => none
theorem op_eqL (hu : X.A.units + 64 < cLine) : OpR X (compareOp .Eq) (rD2 X.K eqL) := by
  intro pins s σ H x y v u Q I rx ry ⟨g, w, d, e, z, hK, r, dx, dy, hz, q⟩
  unfold eqL at hz
  split at hz
  · rename_i ds h1 h2
    cases hz
    obtain ⟨a, xs, rfl, sq, da⟩ := lstOf_ok r dx h1
    obtain ⟨b, ys, rfl, sq2, db⟩ := lstOf_ok r dy h2
    cases db; cases rx; cases ry
    obtain ⟨its, rv, pl, _⟩ := I.list (hK ▸ sq)
    obtain ⟨its2, rv2, pl2, _⟩ := I.list (hK ▸ sq2)
    have e2 : its2 = [] := by have := rv2.length; exact List.length_eq_zero_iff.mp this.symm
    subst e2
    have hl := rv.length
    have fin := q (.bl ds.isEmpty) H g (Xt.refl g) r (.bl _)
    cases its with
    | nil =>
      have e0 : ds = [] := by rw [da.length] at hl; exact List.length_eq_zero_iff.mp hl
      subst e0
      exact SeqAt.eq_listAt (e := fun _ => true) pl.isList pl2.isList rfl (by omega) (fun j h1 _ => absurd h1 (by simp)) ⟨.bl true, H, I, rfl, fin⟩
    | cons c cs =>
      have e0 : ds.isEmpty = false := by rw [da.length] at hl; cases ds with | nil => cases hl | cons => rfl
      rw [e0] at fin
      exact SeqAt.eq_list_lengthsAt pl.isList pl2.isList (by simp) (by omega) ⟨.bl false, H, I, rfl, fin⟩
  · cases hz
theorem op_neL (hu : X.A.units + 64 < cLine) : OpR X (compareOp .NotEq) (rD2 X.K neL) := by
  intro pins s σ H x y v u Q I rx ry ⟨g, w, d, e, z, hK, r, dx, dy, hz, q⟩
  unfold neL at hz
  split at hz
  · rename_i ds h1 h2
    cases hz
    obtain ⟨a, xs, rfl, sq, da⟩ := lstOf_ok r dx h1
    obtain ⟨b, ys, rfl, sq2, db⟩ := lstOf_ok r dy h2
    cases db; cases rx; cases ry
    obtain ⟨its, rv, pl, _⟩ := I.list (hK ▸ sq)
    obtain ⟨its2, rv2, pl2, _⟩ := I.list (hK ▸ sq2)
    have e2 : its2 = [] := by have := rv2.length; exact List.length_eq_zero_iff.mp this.symm
    subst e2
    have hl := rv.length
    have fin := q (.bl (!ds.isEmpty)) H g (Xt.refl g) r (.bl _)
    cases its with
    | nil =>
      have e0 : ds = [] := by rw [da.length] at hl; exact List.length_eq_zero_iff.mp hl
      subst e0
      exact SeqAt.RcNeAt.lists (e := fun _ => true) pl.isList pl2.isList rfl (by omega) (fun j h1 _ => absurd h1 (by simp)) X.prog X.w X.xe _ ⟨.bl false, H, I, rfl, fin⟩
    | cons c cs =>
      have e0 : ds.isEmpty = false := by rw [da.length] at hl; cases ds with | nil => cases hl | cons => rfl
      rw [e0] at fin
      exact SeqAt.RcNeAt.lists_lengths pl.isList pl2.isList (by simp) (by omega) X.prog X.w X.xe _ ⟨.bl true, H, I, rfl, fin⟩
  · cases hz
end
end Td

set_option Elab.async false
set_option linter.all false
set_option maxRecDepth 100000
set_option maxHeartbeats 4000000
namespace Td
open PySem L2 PySem.Spec PyProof.Rows
/-! ### instances of the store -/
def insOf (w : Ws) (o : PyData) (c : Str) : Option (List (Str × PyData)) := match locOf o with
  | some l => match w[l]? with
    | some (.ins c' fs) => if c' = c then some fs else none
    | _ => none
  | none => none
theorem insOf_ok {g : Gd} {H : Hp} {w : Ws} {v : V} {o : PyData} {c : Str} {fs : List (Str × PyData)} (r : Rp g H w) (h : Dq g v o) (e : insOf w o c = some fs) :
    ∃ l C dx gs, v = .ref (g.μ l) ∧ o = rf l ∧ w[l]? = some (.ins c fs) ∧ ClsAt g.K c C ∧ H (g.μ l) = some (.ins C dx gs) ∧ H dx = some (.own (g.μ l)) ∧ g.F (g.μ l) = none ∧ g.F dx = none ∧ KvR g gs fs := by
  unfold insOf at e
  split at e
  · rename_i l hl
    split at e
    · rename_i c' fs' hw
      split at e
      · rename_i hc
        cases e
        subst hc
        obtain ⟨rfl, rfl, _⟩ := locOf_ok h hl
        obtain ⟨hn, dx, gs, ⟨C, hC, h1⟩, hd, hn2, kv⟩ := r.cell l _ hw
        exact ⟨l, C, dx, gs, rfl, rfl, hw, hC, h1, hd, hn, hn2, kv⟩
      · cases e
    · cases e
  · cases e
theorem KvR.lookup {g : Gd} {f : Str} : ∀ {gs : List (Str × V)} {fs : List (Str × PyData)}, KvR g gs fs → (fs.lookup f = none → gs.lookup f = none) ∧ ∀ d, fs.lookup f = some d → ∃ v, gs.lookup f = some v ∧ Dq g v d
  | _, _, .nil => ⟨fun _ => rfl, fun d e => by cases e⟩
  | (a, v) :: gs, (b, d0) :: fs, .cons h t => by
    have hk : a = b := h.1
    subst hk
    obtain ⟨i1, i2⟩ := KvR.lookup (f := f) t
    by_cases q : (f == a) = true
    · have e1 : List.lookup f ((a, d0) :: fs) = some d0 := by rw [List.lookup_cons, q]
      have e2 : List.lookup f ((a, v) :: gs) = some v := by rw [List.lookup_cons, q]
      rw [e1, e2]
      refine ⟨fun z => (by cases z), fun d z => ?_⟩
      cases z
      exact ⟨v, rfl, h.2⟩
    · have q : (f == a) = false := by simpa using q
      have e1 : List.lookup f ((a, d0) :: fs) = List.lookup f fs := by rw [List.lookup_cons, q]
      have e2 : List.lookup f ((a, v) :: gs) = List.lookup f gs := by rw [List.lookup_cons, q]
      rw [e1, e2]
      exact ⟨i1, i2⟩
def putFD (f : Str) (v : PyData) : List (Str × PyData) → List (Str × PyData)
  | [] => [(f, v)]
  | (g, x) :: r => if g = f then (g, v) :: r else (g, x) :: putFD f v r
theorem KvR.putF {g : Gd} {f : Str} {v : V} {d : PyData} (hd : Dq g v d) : ∀ {gs : List (Str × V)} {fs : List (Str × PyData)}, KvR g gs fs → KvR g (L2.putF f v gs) (putFD f d fs)
  | _, _, .nil => .cons ⟨rfl, hd⟩ .nil
  | (a, u) :: gs, (b, d0) :: fs, .cons h t => by
    have hk : a = b := h.1
    subst hk
    unfold L2.putF putFD
    by_cases q : a = f
    · rw [if_pos q, if_pos q]; exact .cons ⟨rfl, hd⟩ t
    · rw [if_neg q, if_neg q]; exact .cons h (KvR.putF hd t)
/-- the fields of an instance are changed -/
def updI (w : Ws) (o : PyData) (c : Str) (k : List (Str × PyData) → Option (List (Str × PyData))) : Option Ws := match locOf o with
  | some l => match insOf w o c with
    | some fs => match k fs with
      | some fs' => some (w.set l (.ins c fs'))
      | none => none
    | none => none
  | none => none
theorem updI_ok {g : Gd} {H : Hp} {w w' : Ws} {v : V} {o : PyData} {c : Str} {k : List (Str × PyData) → Option (List (Str × PyData))} (r : Rp g H w) (h : Dq g v o) (e : updI w o c k = some w') :
    ∃ p C dx gs fs fs', v = .ref p ∧ ClsAt g.K c C ∧ H p = some (.ins C dx gs) ∧ KvR g gs fs ∧ k fs = some fs' ∧ ∀ gs', KvR g gs' fs' → Rp g (upd H p (.ins C dx gs')) w' := by
  unfold updI at e
  split at e
  · rename_i l hl
    split at e
    · rename_i fs hf
      split at e
      · rename_i fs' hk
        cases e
        obtain ⟨l', C, dx, gs, rfl, rfl, hw, hC, h1, hd, hn, hn2, kv⟩ := insOf_ok r h hf
        have el : l' = l := by simpa [locOf] using hl
        subst el
        refine ⟨_, C, dx, gs, fs, fs', rfl, hC, h1, kv, hk, fun gs' kv' => r.write hw hn (fun a b hb z => ?_) ⟨hn, dx, gs', ⟨C, hC, upd_same⟩, (upd_ne fun z => ?_).trans hd, hn2, kv'⟩⟩
        · rw [h1] at hb; cases hb; cases z
        · rw [z, h1] at hd; cases hd
      · cases e
    · cases e
  · cases e
/-- a class of the text, where it stands -/
structure ClsD (K : PySem.W.Frag) (mg : Str → Option Value) (c : Str) where
  C : Addr
  at_ : ClsAt K c C
  mg_ : mg c = some (.ref C)
  cls : Cls K C
theorem ClsAt.eq {K : PySem.W.Frag} {c : Str} {C C' : Addr} (a : ClsAt K c C) (b : ClsAt K c C') : C = C' := by
  have z := a.symm.trans b
  cases z
  rfl
section
variable {X : Cx} {W : WX} {c f : Str} {o e : Expr} {fo fe : FE} {pos : Pos}
def eFd (c f : Str) (fo : FE) : FE := fun ρ w => (fo ρ w).bind fun o w1 => Oc.of ((insOf w1 o c).bind fun fs => fs.lookup f) w1
theorem pf_fld (D : ClsD X.K X.mg c) (hn : NoAttr X.K D.C f) (ho : PF X W o fo) (hb : attributeBase o f X.env (eval o X.env) = eval o X.env := by rfl) : PF X W (.Attribute o f pos) (eFd c f fo) := by
  refine pe_imp (pe_fld ho hb) fun σ H Q ⟨g, ρ, w, hK, r, e, q⟩ => ?_
  refine lX_bind hK r e q fun v H1 g1 d w1 x r1 e1 dv z => ?_
  have hK1 := x.k.trans hK
  cases hz : (insOf w1 d c).bind fun fs => fs.lookup f with
  | none => rw [hz] at z; exact z.elim
  | some y =>
    rw [hz] at z
    obtain ⟨fs, h1, h2⟩ := Option.bind_eq_some_iff.mp hz
    obtain ⟨l, C, dx, gs, rfl, rfl, hw, hC, hH, hd, hn1, hn2, kv⟩ := insOf_ok r1 dv h1
    obtain ⟨u, hu, du⟩ := kv.lookup.2 y h2
    have eC : C = D.C := (hK1 ▸ hC : ClsAt X.K c C).eq D.at_
    subst eC
    exact ⟨_, _, dx, gs, u, rfl, hH, D.cls, hn, hu, z _ H1 g1 (Xt.refl _) r1 du⟩
/-- o.f = e -/
def sFd (c f : Str) (fo fv : FE) : FS := fun ρ w => (fv ρ w).thenS ρ fun v w1 => (fo ρ w1).thenS ρ fun o w2 => match updI w2 o c (fun fs => if fs.length < 1000 then some (putFD f v fs) else none) with
  | some w3 => .nx ρ w3
  | none => .no
theorem psf_fld {pos' : Pos} (D : ClsD X.K X.mg c) (hn : NoAttr X.K D.C f) (ho : PF X W o fo) (hv : PF X W e fe) (hs : swapsWith e (some (.Attribute o f pos')) pos.line X.env = pure false := by rfl) : PSf X W (.Assign [.Attribute o f pos'] e pos) (sFd c f fo fe) := by
  refine ps_imp (ps_fld ho hv hs) fun D' σ H ⟨g, ρ, w, hK, r, e, q⟩ => ?_
  refine lX_then hK r e q fun v H1 g1 d w1 x r1 e1 dv z => ?_
  refine lX_then (x.k.trans hK) r1 e1 z fun u H2 g2 o' w2 x2 r2 e2 du z2 => ?_
  split at z2
  · rename_i w3 hu
    obtain ⟨p, C, dx, gs, fs, fs', rfl, hC, hH, kv, hk, hw⟩ := updI_ok r2 du hu
    split at hk
    · rename_i hl
      cases hk
      have eC : C = D.C := ((x2.k.trans (x.k.trans hK)) ▸ hC : ClsAt X.K c C).eq D.at_
      subst eC
      have dv2 := dv.mono x2.toXt0 _ _
      exact ⟨p, _, dx, gs, rfl, hH, D.cls, hn, by rw [kv.length]; exact hl, z2 σ _ g2 (Xt.refl _) (hw _ (kv.putF dv2)) e2⟩
    · cases hk
  · exact z2.elim
/-- o.f += e, ints -/
def sFdA (c f : Str) (fo fv : FE) : FS := fun ρ w => (fo ρ w).thenS ρ fun o w1 => match (insOf w1 o c).bind (fun fs => fs.lookup f) with
  | some (.int i) => (fv ρ w1).thenS ρ fun d w2 => match d with
    | .int j => match updI w2 o c (fun fs => if fs.length < 1000 then some (putFD f (.int (i + j)) fs) else none) with
      | some w3 => .nx ρ w3
      | none => .no
    | _ => .no
  | _ => .no
theorem psf_fldA {tpos : Pos} (D : ClsD X.K X.mg c) (hn : NoAttr X.K D.C f) (ho : PF X W o fo) (hv : PF X W e fe) : PSf X W (.AugAssign (.Attribute o f tpos) .Add e pos) (sFdA c f fo fe) := by
  refine ps_imp (ps_fldaug ho hv in_add) fun D' σ H ⟨g, ρ, w, hK, r, e, q⟩ => ?_
  refine lX_then hK r e q fun v H1 g1 o' w1 x r1 e1 dv z => ?_
  have hK1 := x.k.trans hK
  split at z
  · rename_i i hz
    obtain ⟨fs, h1, h2⟩ := Option.bind_eq_some_iff.mp hz
    obtain ⟨l, C, dx, gs, rfl, rfl, hw, hC, hH, hd, hn1, hn2, kv⟩ := insOf_ok r1 dv h1
    obtain ⟨u, hu, du⟩ := kv.lookup.2 _ h2
    have eC : C = D.C := (hK1 ▸ hC : ClsAt X.K c C).eq D.at_
    subst eC
    refine ⟨_, _, dx, gs, u, rfl, hH, D.cls, hn, hu, ?_⟩
    refine lX_then hK1 r1 e1 z fun y H2 g2 d w2 x2 r2 e2 dy z2 => ?_
    split at z2
    · rename_i j
      split at z2
      · rename_i w3 hw3
        cases du; cases dy
        obtain ⟨p, C, dx', gs', fs', fs'', ep, hC', hH', kv', hk, hw'⟩ := updI_ok r2 (dv.mono x2.toXt0 _ _) hw3
        split at hk
        · rename_i hl
          cases hk
          have eC : C = D.C := ((x2.k.trans hK1) ▸ hC' : ClsAt X.K c C).eq D.at_
          subst eC
          cases ep
          exact ⟨_, _, rfl, rfl, dx', gs', hH', by rw [kv'.length]; exact hl, z2 σ _ g2 (Xt.refl _) (hw' _ (kv'.putF (.int _))) e2⟩
        · cases hk
      · exact z2.elim
    · exact z2.elim
  · exact z.elim
end
/-! ### methods -/
structure MethD (K : PySem.W.Frag) (mg : Str → Option Value) (c m qual : Str) (st : Stmt) (ps : List Str) (D : ClsD K mg c) where
  f : Addr
  fd : FuncData
  fn : Fun K m qual st f fd
  me : Meth K D.C m f
  bd : Binds K fd ps []
structure Gm (P : Program) (w : World) (K : PySem.W.Frag) (mg : Str → Option Value) (base : Heap) (k : Nat) (f : Addr) (fd : FuncData) (ps : List Str) (gf : FF) : Prop where
  fn : FnG P w K mg base k f fd ps gf
  len : ∀ as w, as.length ≠ ps.length → gf as w = .no
theorem Gm.mono {P : Program} {w : World} {K : PySem.W.Frag} {mg : Str → Option Value} {base : Heap} {j k : Nat} {f : Addr} {fd : FuncData} {ps : List Str} {gf : FF} (G : Gm P w K mg base j f fd ps gf) (h : j ≤ k) : Gm P w K mg base k f fd ps gf := ⟨G.fn.mono h, G.len⟩
theorem gm_no {P : Program} {w : World} {K : PySem.W.Frag} {mg : Str → Option Value} {base : Heap} {k : Nat} {f : Addr} {fd : FuncData} {ps : List Str} : Gm P w K mg base k f fd ps (fun _ _ => .no) :=
  ⟨⟨fun A outer s H args us vs Q E hr hg e0 hb hv ⟨g, w', ds, hK, r, da, hl, q⟩ => q.elim⟩, fun _ _ _ => rfl⟩
def okM (w : Ws) (o : PyData) (c m : Str) : Bool := match insOf w o c with
  | some fs => (fs.lookup m).isNone
  | none => false
def eMt (c m : Str) (gf : FF) (fo : FE) (fa : FA) : FE := fun ρ w => (fo ρ w).bind fun o w1 => Oc.on (okM w1 o c m) ((fa ρ w1).bind fun as w2 => gf (o :: as) w2)
theorem gm_of {P : Program} {w : World} {K : PySem.W.Frag} {mg : Str → Option Value} {base : Heap} {x qual : Str} {st : Stmt} {f : Addr} {fd : FuncData} {N ps : List Str} {k : Nat} {bf : FS} (F : Fun K x qual st f fd) (S : FnScope N ps (defScope st))
    (hbody : ∀ (cdv : Value) (A : Around) (outer : List Env) (s : Shared) (H : Hp) (E : XK), Room k (A.deeper (envOfC qual (defScope st) s.heap.objs.size f cdv)) → A.guards = some [] →
      PSsf (cxOf (CX P w) P w K mg base N qual (defScope st) f cdv A outer s H E) (fun c d _ H => E c d H) (defBody st) bf) : Gm P w K mg base (k + 1) f fd ps (defF N.length ps.length bf) := ⟨fnG_of F S hbody, fun as w h => if_neg h⟩
section
variable {X : Cx} {W : WX} {k : Nat} {ps : List Str} {gf : FF} {c m qual : Str} {st : Stmt} {o e : Expr} {es : List Expr} {fo : FE} {fa : FA} {pos apos : Pos}
theorem okM_ok {g : Gd} {H : Hp} {w : Ws} {v : V} {o : PyData} (D : ClsD X.K X.mg c) (hK : g.K = X.K) (r : Rp g H w) (h : Dq g v o) (e : okM w o c m = true) : ∃ p dx gs, v = .ref p ∧ H p = some (.ins D.C dx gs) ∧ gs.lookup m = none := by
  unfold okM at e
  split at e
  · rename_i fs hf
    obtain ⟨l, C, dx, gs, rfl, rfl, hw, hC, hH, hd, hn1, hn2, kv⟩ := insOf_ok r h hf
    have eC : C = D.C := (hK ▸ hC : ClsAt X.K c C).eq D.at_
    subst eC
    exact ⟨_, dx, gs, rfl, hH, kv.lookup.1 (by simpa using e)⟩
  · cases e
/-- what a method's call wants behind its receiver -/
theorem meth_want {σ : L2.St} {H : Hp} {Q : VK} {g : Gd} {ρ : Ev} {w : Ws} {K : PySem.W.Frag} {v : V} {o' : PyData} (hK : g.K = K) (r : Rp g H w) (e : EnR g σ ρ) (dv : Dq g v o') (hlen : ∀ as w, as.length ≠ ps.length → gf as w = .no)
    (z : oX W σ Dq g Q ((fa ρ w).bind fun as w2 => gf (o' :: as) w2)) : lA K W fa σ H fun vs H2 => spF K ps.length gf (v :: vs) H2 Q (fun c d H' => W c d σ H') := by
  refine lX_bind hK r e z fun vs H2 g2 as w2 x2 r2 e2 dvs z2 => ?_
  have dal : DqA g2 (v :: vs) (o' :: as) := .cons (dv.mono x2.toXt0 _ _) dvs
  refine ⟨g2, w2, _, x2.k.trans hK, r2, dal, ?_, ?_⟩
  · rw [dal.length]
    by_cases h : (o' :: as).length = ps.length
    · exact h
    · rw [hlen _ _ h] at z2; exact z2.elim
  · cases hz : gf (o' :: as) w2 with
    | ok d w3 => rw [hz] at z2; exact z2
    | ex c fs w3 => rw [hz] at z2; exact z2
    | no => rw [hz] at z2; exact z2
theorem pf_meth {pl : Sem Bool} {D : ClsD X.K X.mg c} {M : MethD X.K X.mg c m qual st ps D} (G : Gm X.prog X.w X.K X.mg X.base k M.f M.fd ps gf) (hr : Room k X.A) (hgu : X.A.guards = some []) (tk : Takes X W) (ho : PF X W o fo) (ha : PAf X W (e :: es) fa)
    (hst : starEach (e :: es) X.env = (false, eval e X.env) :: starEach es X.env := by rfl) (hpl : (backTo pos (starEach es X.env)).any (·.1) = false := by rfl)
    (ht : eval (.Call (.Attribute o m apos) (e :: es) [] pos) X.env = (do let ov ← eval o X.env; standAt apos.atName; let (f, first) ← holding [ov] (getMethod ov m pl); callWith pos f first (backTo pos (starEach (e :: es) X.env)) (backToKw pos (keywordEach [] X.env))) := by rfl) :
    PF X W (.Call (.Attribute o m apos) (e :: es) [] pos) (eMt c m gf fo fa) := by
  refine ⟨fun pins s σ H Q I h => ?_⟩
  obtain ⟨g, ρ, w, hK, r, en, q⟩ := h
  have want := lX_bind (R := Dq) (T := fun v H1 => ∃ p dx gs, v = .ref p ∧ H1 p = some (.ins D.C dx gs) ∧ gs.lookup m = none ∧ lA X.K W fa σ H1 fun vs H2 => spF X.K ps.length gf (v :: vs) H2 Q (fun c d H' => W c d σ H')) hK r en q fun v H1 g1 o' w1 x r1 e1 dv z => by
    obtain ⟨hb, z⟩ := z.on
    obtain ⟨p, dx, gs, ev, hH, hl⟩ := okM_ok D (x.k.trans hK) r1 dv hb
    exact ⟨p, dx, gs, ev, hH, hl, meth_want (x.k.trans hK) r1 e1 dv G.len z⟩
  refine PySem.W.methodCall_KW (pl := pl) (thn (ho.run pins s σ H _ I want) fun u s1 hv => ?_) ht
  obtain ⟨x, H1, I1, rx, p, dx, gs, ex, hH, hl, q1⟩ := hv
  subst ex
  cases rx
  refine getmeth_ok I1 hH D.cls M.me hl ?_
  refine PySem.W.callWith_K (first := [.ref p]) (h₀ := X.base) I.ok.mod.kin M.me.kp ?_ hst hpl
  refine thn (ha.run pos pins s1 σ H1 _ I1 q1) fun us s2 hs => ?_
  obtain ⟨vs, H2, I2, rv, q2⟩ := hs
  exact ⟨I2.kIn, run_G (us := .ref p :: us) (vs := .ref p :: vs) G.fn hr hgu M.bd .nil tk I2 (.cons rfl rv) (by rw [List.append_nil]; exact q2)⟩
theorem pf_meth0 {pl : Sem Bool} {D : ClsD X.K X.mg c} {M : MethD X.K X.mg c m qual st ps D} (G : Gm X.prog X.w X.K X.mg X.base k M.f M.fd ps gf) (hr : Room k X.A) (hgu : X.A.guards = some []) (tk : Takes X W) (ho : PF X W o fo)
    (ht : eval (.Call (.Attribute o m apos) [] [] pos) X.env = (do let ov ← eval o X.env; standAt apos.atName; let (f, first) ← holding [ov] (getMethod ov m pl); callWith pos f first (backTo pos (starEach [] X.env)) (backToKw pos (keywordEach [] X.env))) := by rfl) :
    PF X W (.Call (.Attribute o m apos) [] [] pos) (eMt c m gf fo aN) := by
  refine ⟨fun pins s σ H Q I h => ?_⟩
  obtain ⟨g, ρ, w, hK, r, en, q⟩ := h
  have want := lX_bind (R := Dq) (T := fun v H1 => ∃ p dx gs, v = .ref p ∧ H1 p = some (.ins D.C dx gs) ∧ gs.lookup m = none ∧ lA X.K W aN σ H1 fun vs H2 => spF X.K ps.length gf (v :: vs) H2 Q (fun c d H' => W c d σ H')) hK r en q fun v H1 g1 o' w1 x r1 e1 dv z => by
    obtain ⟨hb, z⟩ := z.on
    obtain ⟨p, dx, gs, ev, hH, hl⟩ := okM_ok D (x.k.trans hK) r1 dv hb
    exact ⟨p, dx, gs, ev, hH, hl, meth_want (x.k.trans hK) r1 e1 dv G.len z⟩
  refine PySem.W.methodCall_KW (pl := pl) (thn (ho.run pins s σ H _ I want) fun u s1 hv => ?_) ht
  obtain ⟨x, H1, I1, rx, p, dx, gs, ex, hH, hl, q1⟩ := hv
  subst ex
  cases rx
  refine getmeth_ok I1 hH D.cls M.me hl ?_
  obtain ⟨g2, ρ2, w2, hK2, r2, en2, q2⟩ := q1
  exact PySem.W.callWith_K0 (first := [.ref p]) I1.kIn M.me.kp (run_G (us := [.ref p]) (vs := [.ref p]) G.fn hr hgu M.bd .nil tk I1 (.cons rfl .nil) (by rw [List.append_nil]; exact q2 [] H1 g2 (Xt.refl _) r2 .nil))
end
/-! ### C(..) -/
theorem make_guards {A : Around} {C : Addr} {us : List Value} {kw : List (Str × Value)} (h : A.guards = some []) : (A.under (.builtin "type.__call__" ⟨.ref C :: us, kw⟩)).guards = some [] := by
  first | exact h | simpa [Around.under, Code.isGuard, guardIds] using h
def eMk (c : Str) (gf : FF) (fa : FA) : FE := fun ρ w => (fa ρ w).bind fun as w1 => match gf (rf w1.length :: as) (w1 ++ [.ins c []]) with
  | .ok .none w2 => .ok (rf w1.length) w2
  | .ok _ _ => .no
  | .ex k fs w2 => .ex k fs w2
  | .no => .no
theorem newI {g : Gd} {H : Hp} {w : Ws} {c : Str} {C x dx : Addr} (r : Rp g H w) (hC : ClsAt g.K c C) (hx : H x = none) (hdx : H dx = none) (hne : dx ≠ x) : Rp (g.al x) (upd (upd H dx (.own x)) x (.ins C dx [])) (w ++ [.ins c []]) ∧ Dq (g.al x) (.ref x) (rf w.length) := by
  have r1 : Rp g (upd H dx (.own x)) w := r.skip hdx
  refine ⟨r1.alloc (by rw [upd_ne (Ne.symm hne)]; exact hx) (fun a z => nomatch z) ⟨r.fnone hx, dx, [], ⟨C, hC, upd_same⟩, by rw [upd_ne hne, upd_same], r.fnone hdx, .nil⟩, ?_⟩
  rw [← r.len]
  exact Gd.al_ref
section
variable {X : Cx} {W : WX} {k : Nat} {f : Addr} {fd : FuncData} {ps : List Str} {gf : FF} {c : Str} {e : Expr} {es : List Expr} {fa : FA} {p pos : Pos}
theorem run_mkG {pins : List (Addr × Obj)} {σ : L2.St} {H : Hp} {s : Shared} {Q : VK} {us : List Value} {vs : List V} {C : Addr} (M : Mk X.K C f) (F : FnG X.prog X.w X.K X.mg X.base k f fd ps gf) (hr : Room (k + 1) X.A) (hgu : X.A.guards = some []) (hb : Binds X.K fd ps []) (tk : Takes X W)
    (I : Inv X pins σ H s) (rv : Vals vs us)
    (h : ∀ x dx, H x = none → H dx = none → dx ≠ x → spF X.K ps.length gf (.ref x :: vs) (upd (upd H dx (.own x)) x (.ins C dx [])) (fun v H2 => v = .non ∧ Q (.ref x) H2) (fun c d H' => W c d σ H')) :
    wpAny (model X.prog X.w) X.A (call (.ref C) us) (EP X pins σ Q) X.xe s := by
  have hq := h (s.heap.objs.size + 1) s.heap.objs.size (I.hok.fresh (Nat.le_succ _)) (I.hok.fresh (Nat.le_refl _)) (Nat.ne_of_lt (Nat.lt_succ_self _))
  have J := Inv.made (C := C) I
  have rr : Vals (V.ref (s.heap.objs.size + 1) :: vs) (Value.ref (s.heap.objs.size + 1) :: us) := .cons rfl rv
  have many : (Value.ref (s.heap.objs.size + 1) :: us).length = ps.length := by
    obtain ⟨_, _, _, _, _, _, hl, _⟩ := id hq
    rw [← rr.length]
    exact hl
  have bb := hb _ (Value.ref (s.heap.objs.size + 1) :: us) J.kIn (by rw [List.append_nil]; exact many)
  rw [List.append_nil] at bb
  refine wpAny_call (make_map (f := f) I.kIn M.makes M.init (beq_iff_eq.mp M.fn) (codeAny_mono (F.run _ X.stack _ _ _ _ _ _ _ (hr.make C us []) (make_guards hgu) (J.env0.make C us []) bb rr hq) ?_))
  intro res s' hres
  match res, hres with
  | .error e, hres => exact tk e s' (XE.of_call J (fun _ _ _ z => z) hres)
  | .ok (.ret u), hres =>
    obtain ⟨v, H', J3, ru, rfl, q3⟩ := J.after hres
    exact ⟨ru, ⟨V.ref (s.heap.objs.size + 1), H', J3, rfl, q3⟩⟩
theorem pf_mk {D : ClsD X.K X.mg c} (M : Mk X.K D.C f) (G : Gm X.prog X.w X.K X.mg X.base k f fd ps gf) (hr : Room (k + 1) X.A) (hgu : X.A.guards = some []) (hb : Binds X.K fd ps []) (hg : Gl X c) (tk : Takes X W) (ha : PAf X W (e :: es) fa)
    (hdb : (c == ("__debug__" : Str)) = false := by decide) (he : starEach (e :: es) X.env = (false, eval e X.env) :: starEach es X.env := by rfl) (hpl : (backTo pos (starEach es X.env)).any (·.1) = false := by rfl) :
    PF X W (.Call (.Name c p) (e :: es) [] pos) (eMk c gf fa) := by
  refine ⟨fun pins s σ H Q I h => ?_⟩
  obtain ⟨g, ρ, w, hK, r, en, q⟩ := h
  have want := lX_bind (R := DqA) (T := fun vs H1 => ∀ x dx, H1 x = none → H1 dx = none → dx ≠ x → spF X.K ps.length gf (.ref x :: vs) (upd (upd H1 dx (.own x)) x (.ins D.C dx [])) (fun v H2 => v = .non ∧ Q (.ref x) H2) (fun c d H' => W c d σ H')) hK r en q fun vs H1 g1 as w1 x r1 e1 dvs z => by
    intro y dx hy hdx hne
    have hK1 := x.k.trans hK
    obtain ⟨rn, dn⟩ := newI r1 (by rw [hK1]; exact D.at_) hy hdx hne
    have dal : DqA (g1.al y) (.ref y :: vs) (rf w1.length :: as) := .cons dn (dvs.mono Gd.al_xt.toXt0 _ _)
    refine ⟨g1.al y, _, _, hK1, rn, dal, ?_, ?_⟩
    · rw [dal.length]
      by_cases h : (rf w1.length :: as).length = ps.length
      · exact h
      · rw [G.len _ _ h] at z; exact z.elim
    · cases hz : gf (rf w1.length :: as) (w1 ++ [.ins c []]) with
      | ok d w2 =>
        rw [hz] at z
        cases d with
        | none =>
          intro v H2 g' x' r' dv'
          cases dv'
          exact ⟨rfl, z _ H2 g' (Gd.al_xt.trans x') r' (dn.mono x'.toXt0 _ _)⟩
        | _ => exact z.elim
      | ex c' fs w2 =>
        rw [hz] at z
        exact fun dd H' g' x' r' xd => z dd H' g' (Gd.al_xt.trans x') r' xd
      | no => rw [hz] at z; exact z.elim
  refine wpAny_Call_Name_kw (ld_glob I hg D.mg_ ?_ hdb)
  refine PySem.W.callWith_K (h₀ := X.base) I.ok.mod.kin M.kp ?_ he hpl
  refine thn (ha.run pos pins s σ H _ I want) fun us s1 hs => ?_
  obtain ⟨vs, H1, I1, rv, q1⟩ := hs
  exact ⟨I1.kIn, run_mkG M G.fn hr hgu hb tk I1 rv q1⟩
end
/-! ### calls with keywords, with defaults -/
abbrev PKf (X : Cx) (W : WX) (kws : List Keyword) (f : FA) : Prop := PK X kws (lA X.K W f)
theorem pk_imp {X : Cx} {e : List Keyword} {t t' : TA} (h : PK X e t) (i : ∀ σ H Q, t' σ H Q → t σ H Q) : PK X e t' := ⟨fun p pins s σ H Q I q => h.run p pins s σ H Q I (i σ H Q q)⟩
/-- n values by position, those named ks: gD puts them in the parameters' order, defaults among them -/
structure KbD (K : PySem.W.Frag) (fd : FuncData) (ps : List Str) (n : Nat) (ks : List Str) (gD : List PyData → List PyData → List PyData) : Prop where
  ex : ∃ g gV, KBn K fd ps n ks g gV ∧ ∀ (G : Gd) (vs zs : List V) (as bs : List PyData), DqA G vs as → DqA G zs bs → vs.length = n → zs.length = ks.length → DqA G (gV vs zs) (gD as bs)
def eCallN (n m : Nat) (gD : List PyData → List PyData → List PyData) (gf : FF) (fa fk : FA) : FE := fun ρ w => (fa ρ w).bind fun as w1 => (fk ρ w1).bind fun bs w2 => Oc.on (as.length == n && bs.length == m) (gf (gD as bs) w2)
section
variable {X : Cx} {W : WX} {k n : Nat} {f : Addr} {fd : FuncData} {ps ks : List Str} {gf : FF} {gD : List PyData → List PyData → List PyData} {x : Str} {e : Expr} {es : List Expr} {kws : List Keyword} {fe : FE} {fa fk : FA} {p pos kpos : Pos} {nm : Option Str}
theorem pkf_nil : PKf X W [] aN := pk_imp pk_nil fun σ H Q ⟨g, ρ, w, hK, r, e, q⟩ => q [] H g (Xt.refl g) r .nil
theorem pkf_cons (ha : PF X W e fe) (hr : PKf X W kws fk) : PKf X W (⟨nm, e, kpos⟩ :: kws) (aC fe fk) := by
  refine pk_imp (pk_cons ha hr) fun σ H Q ⟨g, ρ, w, hK, r, e, q⟩ => ?_
  refine lX_bind hK r e q fun v H1 g1 d w1 x r1 e1 dv z => ?_
  refine lX_bind (x.k.trans hK) r1 e1 z fun vs H2 g2 ds w2 x2 r2 e2 dvs z2 => ?_
  exact z2 _ H2 g2 (Xt.refl _) r2 (.cons (dv.mono x2 _ _) dvs)
theorem run_GN {pins : List (Addr × Obj)} {σ : L2.St} {H : Hp} {s : Shared} {Q : VK} {us ws : List Value} {vs zs : List V} {g : List Value → List Value → List Value} {gV : List V → List V → List V} (F : FnG X.prog X.w X.K X.mg X.base k f fd ps gf) (hr : Room k X.A) (hgu : X.A.guards = some []) (hb : KBn X.K fd ps n ks g gV) (tk : Takes X W)
    (I : Inv X pins σ H s) (rv : Vals vs us) (rz : Vals zs ws) (l1 : vs.length = n) (l2 : zs.length = ks.length) (h : spF X.K ps.length gf (gV vs zs) H Q (fun c d H' => W c d σ H')) : wpAny (model X.prog X.w) X.A (call (.ref f) us (ks.zip ws)) (EP X pins σ Q) X.xe s := by
  refine wpAny_call (codeAny_mono (F.run X.A X.stack s H _ _ _ Q _ hr hgu I.env0 (hb.to s us ws I.kIn (rv.length.symm.trans l1) (rz.length.symm.trans l2)) (hb.rel rv rz) h) ?_)
  intro res s' hq
  match res, hq with
  | .error e, hq => exact tk e s' (XE.of_call I (fun _ _ _ z => z) hq)
  | .ok (.ret u), hq => exact I.after hq
theorem callN_want {σ : L2.St} {H : Hp} {Q : VK} {g : Gd} {ρ : Ev} {w : Ws} {K : PySem.W.Frag} {gV : List V → List V → List V} (hlen : ∀ as w, as.length ≠ ps.length → gf as w = .no)
    (hv : ∀ (G : Gd) (vs zs : List V) (as bs : List PyData), DqA G vs as → DqA G zs bs → vs.length = n → zs.length = ks.length → DqA G (gV vs zs) (gD as bs)) (h : lE K W (eCallN n ks.length gD gf fa fk) σ H Q) :
    lA K W fa σ H fun vs H1 => lA K W fk σ H1 fun zs H2 => vs.length = n ∧ zs.length = ks.length ∧ spF K ps.length gf (gV vs zs) H2 Q (fun c d H' => W c d σ H') := by
  obtain ⟨g, ρ, w, hK, r, e, q⟩ := h
  refine lX_bind hK r e q fun vs H1 g1 as w1 x r1 e1 dvs z => ?_
  refine lX_bind (x.k.trans hK) r1 e1 z fun zs H2 g2 bs w2 x2 r2 e2 dzs z2 => ?_
  obtain ⟨hb, z2⟩ := z2.on
  rw [Bool.and_eq_true, beq_iff_eq, beq_iff_eq] at hb
  have dvs2 := dvs.mono x2.toXt0 _ _
  have l1 : vs.length = n := by rw [dvs.length]; exact hb.1
  have l2 : zs.length = ks.length := by rw [dzs.length]; exact hb.2
  have dal := hv g2 vs zs as bs dvs2 dzs l1 l2
  refine ⟨l1, l2, g2, w2, _, x2.k.trans (x.k.trans hK), r2, dal, ?_, ?_⟩
  · rw [dal.length]
    by_cases h : (gD as bs).length = ps.length
    · exact h
    · rw [hlen _ _ h] at z2; exact z2.elim
  · cases hz : gf (gD as bs) w2 with
    | ok d w3 => rw [hz] at z2; exact z2
    | ex c fs w3 => rw [hz] at z2; exact z2
    | no => rw [hz] at z2; exact z2
theorem pf_callN (G : Gm X.prog X.w X.K X.mg X.base k f fd ps gf) (hr : Room k X.A) (hgu : X.A.guards = some []) (hg : Gl X x) (hm : X.mg x = some (.ref f)) (hk : PySem.W.keepIn X.K (.ref f) = true) (kb : KbD X.K fd ps n ks gD) (tk : Takes X W) (ha : PAf X W (e :: es) fa) (hkw : PKf X W kws fk)
    (hall : (backToKw pos (keywordEach kws X.env)).all (·.1.isSome) = true := by rfl) (hks : (backToKw pos (keywordEach kws X.env)).filterMap (·.1) = ks := by rfl) (hdb : (x == ("__debug__" : Str)) = false := by decide) (he : starEach (e :: es) X.env = (false, eval e X.env) :: starEach es X.env := by rfl) (hpl : ((backTo pos (starEach (e :: es) X.env)).any (·.1) || (backToKw pos (keywordEach kws X.env)).any (·.1.isNone)) = false := by rfl) :
    PF X W (.Call (.Name x p) (e :: es) kws pos) (eCallN n ks.length gD gf fa fk) := by
  obtain ⟨g, gV, kbn, hv⟩ := kb.ex
  refine ⟨fun pins s σ H Q I h => ?_⟩
  have want := callN_want (g := ⟨X.K, fun _ => none, fun _ => none, fun _ => 0, 0⟩) (ρ := []) (w := []) G.len hv h
  refine wpAny_Call_Name_kw (ld_glob I hg hm ?_ hdb)
  refine PySem.W.callWith_KW (h₀ := X.base) I.ok.mod.kin hk hall (thn (ha.run pos pins s σ H _ I want) fun us s1 hs => ?_) hpl he
  obtain ⟨vs, H1, I1, rv, q1⟩ := hs
  refine thn (hkw.run pos pins s1 σ H1 _ I1 q1) fun ws s2 hs2 => ?_
  obtain ⟨zs, H2, I2, rz, l1, l2, q2⟩ := hs2
  rw [hks]
  exact ⟨I2.kIn, run_GN G.fn hr hgu kbn tk I2 rv rz l1 l2 q2⟩
theorem pf_callN0 (G : Gm X.prog X.w X.K X.mg X.base k f fd ps gf) (hr : Room k X.A) (hgu : X.A.guards = some []) (hg : Gl X x) (hm : X.mg x = some (.ref f)) (hk : PySem.W.keepIn X.K (.ref f) = true) (kb : KbD X.K fd ps n ks gD) (tk : Takes X W) (hkw : PKf X W kws fk)
    (hall : (backToKw pos (keywordEach kws X.env)).all (·.1.isSome) = true := by rfl) (hks : (backToKw pos (keywordEach kws X.env)).filterMap (·.1) = ks := by rfl) (hdb : (x == ("__debug__" : Str)) = false := by decide) (hpl : ((backTo pos (starEach [] X.env)).any (·.1) || (backToKw pos (keywordEach kws X.env)).any (·.1.isNone)) = false := by rfl) :
    PF X W (.Call (.Name x p) [] kws pos) (eCallN n ks.length gD gf aN fk) := by
  obtain ⟨g, gV, kbn, hv⟩ := kb.ex
  refine ⟨fun pins s σ H Q I h => ?_⟩
  have want := callN_want (g := ⟨X.K, fun _ => none, fun _ => none, fun _ => 0, 0⟩) (ρ := []) (w := []) G.len hv h
  obtain ⟨gg, ρ, w, hK, r, en, q⟩ := want
  have q1 := q [] H gg (Xt.refl _) r .nil
  refine wpAny_Call_Name_kw (ld_glob I hg hm ?_ hdb)
  refine PySem.W.callWith_KW0 (h₀ := X.base) I.ok.mod.kin hk hall ?_ hpl
  refine thn (hkw.run pos pins s σ H _ I q1) fun ws s2 hs2 => ?_
  obtain ⟨zs, H2, I2, rz, l1, l2, q2⟩ := hs2
  rw [hks]
  exact ⟨I2.kIn, run_GN (us := []) (vs := []) G.fn hr hgu kbn tk I2 .nil rz l1 l2 q2⟩
end
end Td

set_option Elab.async false
set_option linter.all false
set_option maxRecDepth 100000
set_option maxHeartbeats 4000000
namespace Td
open PySem L2 PySem.Spec PyProof.Rows
/-! ### f'..' -/
section
variable {X : Cx} {W : WX}
def fmtD (_ : Ws) : PyData → Option PyData
  | .str y => if szOk y.length then some (.str y) else none
  | .int i => if decide (i.natAbs.log2 < 1920) then some (.str (toString i)) else none
  | _ => none
theorem pf_fmt {e : Expr} {f : FE} {pos : Pos} (h : PF X W e f) : PF X W (.FormattedValue e (-1) none pos) (eU fmtD f) := by
  refine pe_imp (pe_fmt h) fun σ H Q ⟨g, ρ, w, hK, r, e, q⟩ => ?_
  refine lX_bind hK r e q fun v H1 g1 d w1 x r1 e1 dv z => ?_
  cases dv with
  | str y =>
    simp only [fmtD] at z
    split at z
    · rename_i hs
      exact .inl ⟨y, rfl, of_decide_eq_true hs, z _ H1 g1 (Xt.refl _) r1 (.str _)⟩
    · exact z.elim
  | int i =>
    simp only [fmtD] at z
    split at z
    · rename_i hs
      exact .inr ⟨i, rfl, of_decide_eq_true hs, z _ H1 g1 (Xt.refl _) r1 (.str _)⟩
    · exact z.elim
  | _ => exact z.elim
/-- the parts, each a text -/
def jsF : List FE → Str → Ev → Ws → Oc Str
  | [], acc, _, w => .ok acc w
  | f :: fs, acc, ρ, w => (f ρ w).bind fun d w1 => match d with
    | .str y => Oc.on (szOk (acc ++ y).length) (jsF fs (acc ++ y) ρ w1)
    | _ => .no
def eJs (fs : List FE) : FE := fun ρ w => (jsF fs Str.empty ρ w).bind fun s w1 => .ok (.str s) w1
inductive PJf (X : Cx) (W : WX) : List Expr → List FE → Prop
  | nil : PJf X W [] []
  | cons {e : Expr} {f : FE} {es : List Expr} {fs : List FE} (h : PF X W e f) (r : PJf X W es fs) : PJf X W (e :: es) (f :: fs)
theorem PJf.pj {es : List Expr} {fs : List FE} (h : PJf X W es fs) : PJ X es (fs.map fun f => lE X.K W f) := by
  induction h with
  | nil => exact .nil
  | cons a b ih => exact .cons a ih
theorem js_of {K : PySem.W.Frag} {σ : L2.St} {Q : VK} : ∀ (fs : List FE) (acc : Str) (g : Gd) (ρ : Ev) (w : Ws) (H : Hp), g.K = K → Rp g H w → EnR g σ ρ → oX W σ Dq g Q ((jsF fs acc ρ w).bind fun s w1 => .ok (.str s) w1) → tJs (fs.map fun f => lE K W f) acc σ H fun out H1 => Q (.str out) H1
  | [], acc, g, ρ, w, H, hK, r, e, q => q _ H g (Xt.refl _) r (.str _)
  | f :: fs, acc, g, ρ, w, H, hK, r, e, q => by
    have q' : oX W σ Dq g Q ((f ρ w).bind fun d w1 => (match d with
      | .str y => Oc.on (szOk (acc ++ y).length) (jsF fs (acc ++ y) ρ w1)
      | _ => .no : Oc Str).bind fun s w1 => .ok (.str s) w1) := by
      unfold jsF at q
      cases hz : f ρ w with
      | ok d w1 => rw [hz] at q; exact q
      | ex c fs' w1 => rw [hz] at q; exact q
      | no => rw [hz] at q; exact q
    refine lX_bind hK r e q' fun v H1 g1 d w1 x r1 e1 dv z => ?_
    cases dv with
    | str y =>
      simp only at z
      cases hb : szOk (acc ++ y).length with
      | false => rw [hb] at z; exact z.elim
      | true =>
        rw [hb] at z
        exact ⟨y, rfl, of_decide_eq_true hb, js_of fs (acc ++ y) g1 ρ w1 H1 (x.k.trans hK) r1 e1 z⟩
    | _ => exact z.elim
theorem pf_joined {v1 v2 : Expr} {rest : List Expr} {fs : List FE} {pos : Pos} (h : PJf X W (v1 :: v2 :: rest) fs) : PF X W (.JoinedStr (v1 :: v2 :: rest) pos) (eJs fs) :=
  pe_imp (pe_joined h.pj) fun σ H Q ⟨g, ρ, w, hK, r, e, q⟩ => js_of fs Str.empty g ρ w H hK r e q

/-! ### s.join(xs) -/
def strsOf : List PyData → Option (List Str)
  | [] => some []
  | .str s :: r => (strsOf r).map (s :: ·)
  | _ :: _ => none
theorem strsOf_ok {g : Gd} : ∀ {vs : List V} {ds : List PyData} {ss : List Str}, DqA g vs ds → strsOf ds = some ss → vs = ss.map V.str
  | _, _, _, .nil, e => by cases e; rfl
  | _, _, _, .cons h t, e => by
    cases h with
    | str s =>
      obtain ⟨ss, hs, rfl⟩ := Option.map_eq_some_iff.mp e
      rw [strsOf_ok t hs]
      rfl
    | _ => cases e
def seqOf (w : Ws) : PyData → Option (List PyData)
  | .tuple ds => some ds
  | d => lstOf w d
def joinD (w : Ws) (a b : PyData) : Option PyData := match a with
  | .str s => match (seqOf w b).bind strsOf with
    | some ys => if decide ((ys.map (·.length)).sum + ys.length * s.length ≤ 16777216) then some (.str (Txt.join s ys)) else none
    | none => none
  | _ => none
theorem seqOf_ok {g : Gd} {H : Hp} {w : Ws} (r : Rp g H w) {v : V} {d : PyData} (h : Dq g v d) {ds : List PyData} (e : seqOf w d = some ds) : ∃ a xs, v = .ref a ∧ (SqL g.K H a xs ∨ SqT g.K H a xs) ∧ DqA g xs ds := by
  unfold seqOf at e
  split at e
  · cases e
    cases h with
    | tup a b => exact ⟨_, _, rfl, .inr (r.sqT a), b⟩
  · obtain ⟨a, xs, e1, e2, e3⟩ := lstOf_ok r h e
    exact ⟨a, xs, e1, .inl e2, e3⟩
def eJn (fo fe : FE) : FE := fun ρ w => (fo ρ w).bind fun a w1 => Oc.on (match a with | .str _ => true | _ => false) ((fe ρ w1).bind fun b w2 => Oc.of (joinD w2 a b) w2)
theorem pf_join {o e : Expr} {fo fe : FE} {apos pos : Pos} (ho : PF X W o fo) (he : PF X W e fe) (hs : starEach [e] X.env = [(false, eval e X.env)] := by rfl) (hbase : attributeBase o "join" X.env (eval o X.env) = eval o X.env := by rfl) (hline : (apos.endLine == pos.line) = true := by rfl) :
    PF X W (.Call (.Attribute o "join" apos) [e] [] pos) (eJn fo fe) := by
  refine pe_imp (pe_join ho he hs hbase hline) fun σ H Q ⟨g, ρ, w, hK, r, e, q⟩ => ?_
  refine lX_bind hK r e q fun v H1 g1 d w1 x r1 e1 dv z => ?_
  obtain ⟨hb, z⟩ := z.on
  cases dv with
  | str s =>
    refine ⟨⟨_, rfl⟩, ?_⟩
    refine lX_bind (x.k.trans hK) r1 e1 z fun u H2 g2 b w2 x2 r2 e2 du z2 => ?_
    unfold joinD at z2
    simp only at z2
    cases hz : (seqOf w2 b).bind strsOf with
    | none => rw [hz] at z2; exact z2.elim
    | some ys =>
      rw [hz] at z2
      simp only at z2
      split at z2
      · rename_i hl
        obtain ⟨ds, h1, h2⟩ := Option.bind_eq_some_iff.mp hz
        obtain ⟨a, xs, rfl, sq, da⟩ := seqOf_ok r2 du h1
        have ex := strsOf_ok da h2
        subst ex
        have hK2 := x2.k.trans (x.k.trans hK)
        exact ⟨s, a, ys, rfl, rfl, hK2 ▸ sq, of_decide_eq_true hl, z2 _ H2 g2 (Xt.refl _) r2 (.str _)⟩
      · exact z2.elim
  | _ => cases hb
/-! ### str(x) of a text, too -/
def toStrT (w : Ws) : List PyData → Option PyData
  | [.str z] => some (.str z)
  | ds => toStr w ds
theorem call_strT : CallR X (.type "str") (rDN X.K toStrT) := by
  intro pins s σ H xs us Q I rv ⟨g, w, ds, z, hK, r, dx, hz, q⟩
  unfold toStrT at hz
  split at hz
  · cases dx with
    | cons d0 dn =>
      cases dn; cases d0; cases hz
      obtain ⟨u, rfl, rb⟩ := vals1 rv
      obtain ⟨t, rfl⟩ := rb
      exact PySem.P.str_of_str ⟨.str _, H, I, ⟨t, rfl⟩, q _ H g (Xt.refl g) r (.str _)⟩
  · exact call_strX pins s σ H _ us Q I rv ⟨g, w, ds, z, hK, r, dx, hz, q⟩
/-! ### xs * k of a list -/
def mulL (w : Ws) (d e : PyData) : Option PyData := match lstOf w d, e with
  | some xs, .int k => if decide (0 ≤ k ∧ k < 2 ^ 20 ∧ xs.length * k.toNat ≤ 16777216) then some (.list (List.replicate k.toNat xs).flatten) else none
  | _, _ => none
theorem op_mulL : OpR X (binaryOp .Mult) (rD2 X.K mulL) := by
  intro pins s σ H x y v u Q I rx ry ⟨g, w, d, e, z, hK, r, dx, dy, hz, q⟩
  unfold mulL at hz
  split at hz
  · rename_i ds k hl
    split at hz
    · rename_i hs
      cases hz
      cases dy
      obtain ⟨h1, h2, h3⟩ := of_decide_eq_true hs
      obtain ⟨a, xs, rfl, sq, da⟩ := lstOf_ok r dx hl
      cases rx
      obtain ⟨t, rfl⟩ := ry
      obtain ⟨its, rv, ⟨⟨c1, d1, t1, s1⟩, n1, g1, hc1, hd1, ht1⟩, _⟩ := I.list (hK ▸ sq)
      simp only at hc1 hd1 ht1
      subst hc1 hd1 ht1
      have hlen := rv.length
      have hsz : its.toArray.size * k.toNat ≤ 16777216 := by rw [List.size_toArray, ← hlen, da.length]; exact h3
      refine wpAny_binaryOp_repeat_ref (T := "list") (U := "int") (by decide) ⟨_, g1, rfl⟩ (fun s' => typeIs_int s' k t) noFill_list_mul F.fills_int_mul F.slot_int_rmul repeat_list F.slot_int_index.lookup ?_
      refine call_meets F.slot_int_rmul (typeIs_int s k t) F.entry_int_rmul (F.args_int_rmul_2 _ _) (lm_int_rmul_list_any k t a its.toArray n1 none s1) ⟨g1, rfl, ⟨_, g1, rfl⟩, ?_⟩
      refine call_meets F.slot_list_mul ⟨_, g1, rfl⟩ F.entry_list_mul (F.args_list_mul_2 _ _) (lm_list_mul_any a its.toArray n1 none s1 k t (by simp [Builtin.List.listFitsIndex]; omega) (by omega) (by simp [Builtin.List.listTooLong, sizeLine]; simpa using hsz)) ⟨g1, ?_⟩
      have hnew : List.foldl (fun x1 x2 => x1 ++ x2) #[] (List.replicate (if its.toArray.isEmpty = true then 0 else k.toNat) its.toArray) = (List.replicate k.toNat its).flatten.toArray := listMul_foldl_if _ _
      rw [hnew]
      have hz2 : (List.replicate k.toNat xs).flatten.length ≤ sizeLine := by
        rw [lm_len_rep_flat, Nat.mul_comm, sizeLine_eq, da.length]; exact h3
      have hp : H s.heap.objs.size = none := I.fresh
      exact ⟨.ref _, _, I.lnew (t' := s.toks) (rv.rep k.toNat) hz2, rfl, q _ _ _ (Xt.put (r.fnone hp)) (r.put hp) (newL r hp (da.rep _))⟩
    · cases hz
  · cases hz
end
/-! ### enumerate(text) -/
def Ites (z : Str) : It := ⟨fun i _ => i < z.cps.size, fun i H v H' => ∃ T c, v = .ref T ∧ H T = none ∧ z.cps[i]? = some c ∧ H' = upd H T (.tup [.int (i : Nat), .str ⟨#[c]⟩]), fun i _ => i = z.cps.size⟩
theorem turn_enumS {P : Program} {w : World} {K : PySem.W.Frag} {elts : List Expr} {kk : Nat} {tpos : Pos} (z : Str) (t : Tok) (e it : Addr) :
    Turn P w K (.Tuple elts kk tpos) (Ites z) [e, it] e (fun i h => (∃ old, IsEnum h e it ((i : Nat) : Int) old) ∧ h.IsStrIter it (strIterType z) z t i ∧ e ≠ it) where
  mem := by simp
  obj := fun i h ⟨⟨old, he⟩, ⟨o, ho, hc, hd⟩, _⟩ b hb => by
    rcases (by simpa using hb : b = e ∨ b = it) with q | q
    · subst q; exact ⟨_, he, fun v q => nomatch q⟩
    · subst q; exact ⟨o, ho, fun v q => by rw [hd] at q; cases q⟩
  keep := fun i h h' ⟨⟨old, he⟩, ⟨o, ho, hr⟩, hne⟩ k => ⟨⟨old, k e (by simp) _ he⟩, ⟨o, k it (by simp) _ ho, hr⟩, hne⟩
  item := by
    intro X hP hw hK hc i pins s σ H E I hf st hg
    subst hP hw hK
    obtain ⟨⟨old, he⟩, hit, hne⟩ := st
    have hel : e < s.heap.objs.size := Heap.lt_size he
    have hil : it < s.heap.objs.size := by obtain ⟨_, q, _⟩ := hit; exact Heap.lt_size q
    have hlt : i < z.cps.size := hg
    refine wpAny_pyNext_enum_itemD (Draws.text (A := X.A.in1) (I.ok.hd hc) it z t) he hit hlt hne (by simp [hne]) fun x h' tk hP ho hit' hT hsz hk => ?_
    obtain ⟨c, u, hcc, rfl⟩ := hP
    refine ⟨_, rfl, wpAny_letOwnedTupleGo_enum (s := { s with heap := h', toks := tk + 1 }) ho fun h'' he' sb => ?_⟩
    have hT2 : h''.get? s.heap.objs.size = some { cls := .type "tuple", data := .seq #[.int i tk, .str ⟨#[c]⟩ u] } := (sb.2 _ (Nat.ne_of_gt hel)).trans hT
    have new : ObjOk X.prog X.w (upd H s.heap.objs.size (.tup [.int (i : Nat), .str ⟨#[c]⟩])) h'' s.heap.objs.size (.tup [.int (i : Nat), .str ⟨#[c]⟩]) :=
      ⟨by show 2 ≤ sizeLine; decide, _, .cons ⟨tk, rfl⟩ (.cons ⟨u, rfl⟩ .nil), ⟨_, hT2, rfl, _, rfl⟩⟩
    have J : Inv X pins σ (upd H s.heap.objs.size (.tup [.int (i : Nat), .str ⟨#[c]⟩])) { s with heap := h'', toks := tk + 1 } :=
      I.turnedNew (ch := [e, it]) (fun b ob hb q => (sb.2 b (fun y => hb (by simp [y]))).trans (hk b ob (fun y => hb (by simp [y])) (fun y => hb (by simp [y])) q)) hf (Nat.le_refl _) new
    refine ⟨.ref s.heap.objs.size, _, J, rfl, ⟨_, c, rfl, I.hok.fresh (Nat.le_refl _), hcc, rfl⟩, ⟨⟨.str ⟨#[c]⟩ u, ?_⟩, ?_, hne⟩, fun b hb => ?_⟩
    · rw [show ((i + 1 : Nat) : Int) = (i : Int) + 1 by omega]; exact he'
    · obtain ⟨o, ho', hr⟩ := hit'
      exact ⟨o, (sb.2 it (Ne.symm hne)).trans ho', hr⟩
    · have hb' : b < s.heap.objs.size := by
        rcases (by simpa using hb : b = e ∨ b = it) with y | y
        · subst y; exact hel
        · subst y; exact hil
      rw [upd_ne (Nat.ne_of_lt hb')]
      exact (hf b hb).1
  done := by
    intro X hP hw hK hc i pins s σ H E I hf st hg
    subst hP hw hK
    obtain ⟨⟨old, he⟩, hit, hne⟩ := st
    obtain ⟨f0, f1, f2, f3, f4, f5⟩ := hf it (by simp)
    have hi : i = z.cps.size := hg
    subst hi
    exact wpAny_pyNext_enum_endD (Draws.text (A := X.A.in1) (I.ok.hd hc) it z t) he hit fun h' eb => ⟨rfl, I.turned (t' := s.toks) (fun b o hb q => eb b o hb q) f0 f1 f3 f4 f5⟩
  self := fun A i s Q E ⟨⟨_, he⟩, _⟩ h => wpAny_pyIter_enum he h
/-- for k, c in enumerate(x): a list, a text -/
def enD (i : Nat) : List PyData → List PyData
  | [] => []
  | d :: ds => .tuple [.int (i : Nat), d] :: enD (i + 1) ds
theorem enD_len : ∀ (ds : List PyData) (i : Nat), (enD i ds).length = ds.length
  | [], _ => rfl
  | _ :: ds, i => congrArg (· + 1) (enD_len ds (i + 1))
theorem enD_get : ∀ (ds : List PyData) (i j : Nat) (d : PyData), ds[j]? = some d → (enD i ds)[j]? = some (.tuple [.int ((i + j : Nat) : Int), d])
  | [], _, _, _, h => by simp at h
  | _ :: _, i, 0, d, h => by simp at h; simp [enD, h]
  | _ :: ds, i, j + 1, d, h => by
    have := enD_get ds (i + 1) j d (by simpa using h)
    rw [show i + 1 + j = i + (j + 1) by omega] at this
    simpa [enD] using this
theorem wk_enS {g : Gd} {z : Str} : WkD (Ites z) g (enD 0 (chD z)) where
  stop := fun g' H w x r => by show _ = _; rw [enD_len]; simp [chD]
  go := fun g' H w i x r hi => by rw [enD_len] at hi; show i < z.cps.size; simpa [chD] using hi
  yld := fun g' H w i v H2 x r hi y => by
    obtain ⟨T, c, rfl, hT, hc, rfl⟩ := y
    have hd : (chD z)[i]? = some (.str ⟨#[c]⟩) := by simp [chD, hc]
    have he := enD_get (chD z) 0 i _ hd
    rw [Nat.zero_add] at he
    exact ⟨g'.put T (.tup [.int (i : Nat), .str ⟨#[c]⟩]), _, he, Xt.put (r.fnone hT), r.put hT, newT r hT (.cons (.int _) (.cons (.str _) .nil))⟩
theorem wk_enL {g : Gd} {a : Addr} {xs : List V} {ds : List PyData} (h : SqL g.K g.F a xs) (d : DqA g xs ds) : WkD (Ite g.K a) g (enD 0 ds) where
  stop := fun g' H w x r => by
    rw [enD_len, ← d.length]
    exact walk_enum.stops H (x.k ▸ r.sqL (x.sqL h))
  go := fun g' H w i x r hi => walk_enum.goes i H (by rw [enD_len, ← d.length] at hi; exact hi) (x.k ▸ r.sqL (x.sqL h))
  yld := fun g' H w i v H2 x r hi y => by
    rw [enD_len] at hi
    obtain ⟨T, u, b, rfl, hT, rfl, ha, hb⟩ := walk_enum.yields i H v H2 (by rw [d.length]; exact hi) (x.k ▸ r.sqL (x.sqL h)) y
    have hd := List.getElem?_eq_getElem hi
    obtain ⟨b', h3, h4⟩ := d.get hd
    have hb : xs[i]? = some b := hb
    have ha : some (V.int (i : Nat)) = some u := ha
    rw [hb] at h3
    cases h3
    cases ha
    have he := enD_get ds 0 i _ hd
    rw [Nat.zero_add] at he
    exact ⟨g'.put T (.tup [.int (i : Nat), b]), _, he, Xt.put (r.fnone hT), r.put hT, newT r hT (.cons (.int _) (.cons (h4.mono x _ _) .nil))⟩
def iEn (fa : FA) : FA := fun ρ w => (fa ρ w).bind fun ds w1 => match ds with
  | [.str z] => .ok (enD 0 (chD z)) w1
  | [.list xs] => .ok (enD 0 xs) w1
  | _ => .no
section
variable {X : Cx} {W : WX}
def iEnA (K : PySem.W.Frag) (ta : TA) : TI := fun σ H R => ta σ H fun vs H1 => (∃ z, vs = [.str z] ∧ R (Ites z) H1) ∨ ∃ a xs, vs = [.ref a] ∧ SqL K H1 a xs ∧ R (Ite K a) H1
theorem pi_enA {e : Expr} {ta : TA} {p pos tpos : Pos} {elts : List Expr} {kk : Nat} (hg : Gl X "enumerate") (hm : X.mg "enumerate" = none) (ha : PA X [e] ta) (hs : starEach [e] X.env = [(false, eval e X.env)] := by rfl) : PI X (.Tuple elts kk tpos) (.Call (.Name "enumerate" p) [e] [] pos) (iEnA X.K ta) := by
  refine ⟨fun pins s σ H R I h => ?_⟩
  refine Call_ (ld_blt I hg hm boot_enumerate (PyProof.Rows.callWith_type1 (thn (ha.run pos pins s σ H _ I h) fun us s1 hv => ?_) hs rfl))
  obtain ⟨vs, H1, I1, r1, q1⟩ := hv
  have apart : ∀ b, b ∈ [s1.heap.objs.size + 1, s1.heap.objs.size] → FpOk X pins H1 b := fun b hb => by
    have hle : s1.heap.objs.size ≤ b := by
      rcases (by simpa using hb : b = s1.heap.objs.size + 1 ∨ b = s1.heap.objs.size) with y | y
      · rw [y]; exact Nat.le_add_right _ _
      · rw [y]; exact Nat.le_refl _
    exact I1.fpOk hle (I1.hok.fresh hle)
  rcases q1 with ⟨z, rfl, q⟩ | ⟨a, xs, rfl, hq, q⟩
  · obtain ⟨u, rfl, ⟨t, rfl⟩⟩ := vals1 r1
    refine call_enumerate_str fun h' he hit hsz hk => wpAny_pyIter_enum he ?_
    exact ⟨_, [s1.heap.objs.size + 1, s1.heap.objs.size], _, _, H1, rfl, I1.kept (t' := s1.toks) hk, turn_enumS z t _ _, ⟨⟨.none, he⟩, hit, Nat.succ_ne_self _⟩, apart, q⟩
  · obtain ⟨u, rfl, ru⟩ := vals1 r1
    cases ru
    obtain ⟨its, rv, pl, hz⟩ := I1.list hq
    refine call_enumerate_list pl.isList fun h' he hit hsz hk => wpAny_pyIter_enum he ?_
    exact ⟨_, [s1.heap.objs.size + 1, s1.heap.objs.size], _, _, H1, rfl, I1.kept (t' := s1.toks) hk, turn_enum a _ _, ⟨⟨.none, he⟩, hit, Nat.succ_ne_self _⟩, apart, q⟩
theorem pif_enum {e : Expr} {fa : FA} {p pos tpos : Pos} {elts : List Expr} {kk : Nat} (hg : Gl X "enumerate") (hm : X.mg "enumerate" = none) (ha : PAf X W [e] fa) (hs : starEach [e] X.env = [(false, eval e X.env)] := by rfl) : PIf X W (.Tuple elts kk tpos) (.Call (.Name "enumerate" p) [e] [] pos) (iEn fa) := by
  refine pi_imp (pi_enA hg hm ha hs) fun σ H R ⟨g, ρ, w, hK, r, e, q⟩ => ?_
  refine lX_bind hK r e q fun v H1 g1 d w1 x r1 e1 dv z => ?_
  have hK1 := x.k.trans hK
  split at z
  · cases dv with
    | cons d0 dn =>
      cases dn; cases d0
      exact .inl ⟨_, rfl, z _ H1 g1 (Xt.refl _) r1 wk_enS⟩
  · cases dv with
    | cons d0 dn =>
      cases dn
      cases d0 with
      | lst sq da => exact .inr ⟨_, _, rfl, hK1 ▸ r1.sqL sq, hK1 ▸ z _ H1 g1 (Xt.refl _) r1 (wk_enL sq da)⟩
  · exact z.elim
/-- nothing is said of what cannot come -/
theorem psf_no {st : Stmt} : PSf X W st (fun _ _ => .no) := ⟨fun pins s σ H D I ⟨g, ρ, w, hK, r, e, q⟩ => q.elim⟩
end
end Td

set_option Elab.async false
set_option linter.all false
set_option maxRecDepth 100000
set_option maxHeartbeats 4000000
namespace Td
open PySem L2 PySem.Spec PyProof.Rows
/-! ### how a call puts its values: 0 by position, 1 by keyword, 2 a default -/
def pick {α : Type} (us mv ws : List α) : Nat → Nat → Option α
  | 0, i => us[i]?
  | 1, i => ws[i]?
  | _, i => mv[i]?
def arr {α : Type} : List (Nat × Nat) → List α → List α → List α → List α
  | [], _, _, _ => []
  | (t, i) :: r, us, mv, ws => match pick us mv ws t i with
    | some x => x :: arr r us mv ws
    | none => arr r us mv ws
theorem vals_opt {vs : List V} {us : List Value} (h : Vals vs us) (i : Nat) : (vs[i]? = none ∧ us[i]? = none) ∨ ∃ v u, vs[i]? = some v ∧ us[i]? = some u ∧ RelV v u := by
  by_cases hi : i < vs.length
  · obtain ⟨u, hu, r⟩ := h.get (List.getElem?_eq_getElem hi)
    exact .inr ⟨_, u, List.getElem?_eq_getElem hi, hu, r⟩
  · exact .inl ⟨List.getElem?_eq_none (by omega), List.getElem?_eq_none (by rw [← h.length]; omega)⟩
theorem arr_vals {vs mz zs : List V} {us mv ws : List Value} (h1 : Vals vs us) (h2 : Vals mz mv) (h3 : Vals zs ws) : ∀ srcs : List (Nat × Nat), Vals (arr srcs vs mz zs) (arr srcs us mv ws)
  | [] => .nil
  | (t, i) :: r => by
    have ih := arr_vals h1 h2 h3 r
    have pk : (pick vs mz zs t i = none ∧ pick us mv ws t i = none) ∨ ∃ v u, pick vs mz zs t i = some v ∧ pick us mv ws t i = some u ∧ RelV v u := match t with
      | 0 => vals_opt h1 i
      | 1 => vals_opt h3 i
      | _ + 2 => vals_opt h2 i
    rw [arr, arr]
    rcases pk with ⟨e1, e2⟩ | ⟨v, u, e1, e2, q⟩
    · rw [e1, e2]; exact ih
    · rw [e1, e2]; exact .cons q ih
theorem dqa_opt {g : Gd} {vs : List V} {us : List PyData} (h : DqA g vs us) (i : Nat) : (vs[i]? = none ∧ us[i]? = none) ∨ ∃ v u, vs[i]? = some v ∧ us[i]? = some u ∧ Dq g v u := by
  by_cases hi : i < us.length
  · obtain ⟨v, hv, r⟩ := h.get (List.getElem?_eq_getElem hi)
    exact .inr ⟨v, _, hv, List.getElem?_eq_getElem hi, r⟩
  · exact .inl ⟨List.getElem?_eq_none (by rw [h.length]; omega), List.getElem?_eq_none (by omega)⟩
theorem arr_dqa {g : Gd} {vs mz zs : List V} {us mv ws : List PyData} (h1 : DqA g vs us) (h2 : DqA g mz mv) (h3 : DqA g zs ws) : ∀ srcs : List (Nat × Nat), DqA g (arr srcs vs mz zs) (arr srcs us mv ws)
  | [] => .nil
  | (t, i) :: r => by
    have ih := arr_dqa h1 h2 h3 r
    have pk : (pick vs mz zs t i = none ∧ pick us mv ws t i = none) ∨ ∃ v u, pick vs mz zs t i = some v ∧ pick us mv ws t i = some u ∧ Dq g v u := match t with
      | 0 => dqa_opt h1 i
      | 1 => dqa_opt h3 i
      | _ + 2 => dqa_opt h2 i
    rw [arr, arr]
    rcases pk with ⟨e1, e2⟩ | ⟨v, u, e1, e2, q⟩
    · rw [e1, e2]; exact ih
    · rw [e1, e2]; exact .cons q ih
/-- no default is missing -/
theorem kbD_plain {K : PySem.W.Frag} {fd : FuncData} {ps ks : List Str} {n : Nat} (srcs : List (Nat × Nat)) (h : ∀ us ws : List Value, us.length = n → ws.length = ks.length → bindArgs fd ⟨us, ks.zip ws⟩ = pure (ps.zip (arr srcs us [] ws))) : KbD K fd ps n ks (fun as bs => arr srcs as [] bs) :=
  ⟨fun us ws => arr srcs us [] ws, fun vs zs => arr srcs vs [] zs, ⟨fun s us ws _ h1 h2 => .of_eq (h us ws h1 h2), fun r1 r2 => arr_vals r1 .nil r2 srcs⟩, fun G vs zs as bs d1 d2 _ _ => arr_dqa d1 .nil d2 srcs⟩
/-- ms: the keyword-only ones that lack -/
theorem kbD_kw {K : PySem.W.Frag} {x qual : Str} {params : Arguments} {body : List Stmt} {scope : Scope} {kws ms : List (Str × V)} {f : Addr} {fd : FuncData} {ps ks : List Str} {n : Nat} {des : List PyData} (srcs : List (Nat × Nat)) (F : FunD K x qual params body scope [] kws f fd) (hk : kws ≠ []) (hms : ∀ q ∈ ms, q ∈ kws) (hdd : ∀ G : Gd, DqA G (ms.map (·.2)) des)
    (h : ∀ (D : Addr) (doc pm : Value) (an : Option Addr) (cdv ct : Value) (us mv ws : List Value), us.length = n → mv.length = ms.length → ws.length = ks.length →
      KwChain D ((ms.map (·.1)).zip mv) (bindArgs (PySem.W.fnOf x qual params body scope .none (.ref D) doc pm an cdv ct) ⟨us, ks.zip ws⟩) (ps.zip (arr srcs us mv ws))) : KbD K fd ps n ks (fun as bs => arr srcs as des bs) := by
  obtain ⟨mv, kb⟩ := FunD.kbinds0 F n ks ms (fun {α} (us mv ws : List α) => arr srcs us mv ws) hk hms (fun h1 h2 h3 => arr_vals h1 h2 h3 srcs) h
  exact ⟨_, _, kb, fun G vs zs as bs d1 d2 _ _ => arr_dqa d1 (hdd G) d2 srcs⟩
/-- the body of a class -/
def cbody : Stmt → List Stmt
  | .ClassDef (body := b) .. => b
  | _ => []
/-- a def of the text whose parameters are not all by position -/
structure DefA (K : PySem.W.Frag) (mg : Str → Option Value) (x : Str) (st : Stmt) where
  f : Addr
  fd : FuncData
  fn : Fun K x x st f fd
  at_ : mg x = some (.ref f)
theorem Gx.gm {P : Program} {w : World} {K : PySem.W.Frag} {mg : Str → Option Value} {base : Heap} {k : Nat} {x : Str} {st : Stmt} {ps : List Str} {D : DefAt K mg x st ps} {gf : FF} (G : Gx P w K mg base k D gf) : Gm P w K mg base k D.f D.fd ps gf := ⟨G.fn, G.len⟩
theorem ga_of {P : Program} {w : World} {K : PySem.W.Frag} {mg : Str → Option Value} {base : Heap} {x : Str} {st : Stmt} {N ps : List Str} {k : Nat} {bf : FS} (D : DefA K mg x st) (S : FnScope N ps (defScope st))
    (hbody : ∀ (cdv : Value) (A : Around) (outer : List Env) (s : Shared) (H : Hp) (E : XK), Room k (A.deeper (envOfC x (defScope st) s.heap.objs.size D.f cdv)) → A.guards = some [] →
      PSsf (cxOf (CX P w) P w K mg base N x (defScope st) D.f cdv A outer s H E) (fun c d _ H => E c d H) (defBody st) bf) : Gm P w K mg base (k + 1) D.f D.fd ps (defF N.length ps.length bf) := gm_of D.fn S hbody
theorem funD_mk {K : PySem.W.Frag} {x qual : Str} {st : Stmt} {kws : List (Str × V)} {f D : Addr} {oc : Value} {od an : Option Addr} {osl : Array (Option Value)} {doc pm cdv ct : Value}
    (l : K.lookup f = some ⟨oc, od, .func (PySem.W.fnOf x qual (defArgs st) (defBody st) (defScope st) .none (.ref D) doc pm an cdv ct), osl⟩) (c : PySem.W.codeIn K cdv qual = true) (k : PySem.W.keepIn K (.ref f) = true) (hk : ∀ q ∈ kws, ∃ u, PySem.W.nsIn K D q.1 = some (some u) ∧ RelV q.2 u) :
    FunD K x qual (defArgs st) (defBody st) (defScope st) [] kws f (PySem.W.fnOf x qual (defArgs st) (defBody st) (defScope st) .none (.ref D) doc pm an cdv ct) :=
  ⟨⟨oc, od, .none, .ref D, doc, pm, an, cdv, ct, osl, rfl, l, c, .inl ⟨rfl, rfl⟩, .inr ⟨D, rfl, hk⟩⟩, k⟩
end Td

set_option Elab.async false
set_option linter.all false
set_option maxRecDepth 100000
set_option maxHeartbeats 4000000
/-! Plain facts that any law wants: data of a size, repr, stores, places. -/
namespace Td
open PySem L2
/-! ### data of a size -/
def ascS (z : Str) : Bool := z.cps.toList.all fun c => decide (c < 128)
mutual
def wt : PyData → Nat
  | .none => 1
  | .bool _ => 1
  | .int _ => 1
  | .str z => 1 + z.length
  | .list xs => 1 + wtA xs
  | .tuple xs => 1 + wtA xs
  | .dict _ => 1
def wtA : List PyData → Nat
  | [] => 0
  | x :: xs => wt x + wtA xs
end
def ten62 : Nat := 10 ^ 62
mutual
def okD : PyData → Bool
  | .none => true
  | .bool _ => true
  | .int i => decide (i.natAbs < ten62)
  | .str z => ascS z
  | .list xs => okDA xs
  | .tuple xs => okDA xs
  | .dict _ => false
def okDA : List PyData → Bool
  | [] => true
  | x :: xs => okD x && okDA xs
end
theorem okDA_iff : ∀ {xs : List PyData}, okDA xs = true ↔ ∀ x ∈ xs, okD x = true
  | [] => by simp [okDA]
  | x :: xs => by simp [okDA, okDA_iff (xs := xs)]
theorem okDA_app {a b : List PyData} : okDA (a ++ b) = (okDA a && okDA b) := by
  induction a with
  | nil => simp [okDA]
  | cons x a ih => simp [okDA, ih, Bool.and_assoc]
theorem wtA_app : ∀ (a b : List PyData), wtA (a ++ b) = wtA a + wtA b
  | [], b => by simp [wtA]
  | x :: a, b => by simp only [List.cons_append, wtA, wtA_app a b]; omega
theorem wt_pos (d : PyData) : 1 ≤ wt d := by cases d <;> simp [wt] <;> omega
theorem len_wtA : ∀ a : List PyData, a.length ≤ wtA a
  | [] => Nat.le_refl _
  | x :: a => by have := len_wtA a; have := wt_pos x; simp only [List.length_cons, wtA]; omega
theorem wtA_mem {x : PyData} : ∀ {a : List PyData}, x ∈ a → wt x ≤ wtA a
  | y :: a, h => by
    simp only [wtA]
    rcases List.mem_cons.mp h with h | h
    · subst h; omega
    · have := wtA_mem h; omega
theorem depthAll_le {D : Nat} : ∀ {a : List PyData}, PyData.depthAll a ≤ D ↔ ∀ x ∈ a, x.depth ≤ D
  | [] => by simp [PyData.depthAll]
  | x :: a => by
    simp only [PyData.depthAll, List.mem_cons, forall_eq_or_imp]
    rw [Nat.max_le, depthAll_le (a := a)]
theorem depthAll_app : ∀ {a b : List PyData}, PyData.depthAll (a ++ b) = max (PyData.depthAll a) (PyData.depthAll b)
  | [], b => by simp [PyData.depthAll]
  | x :: a, b => by simp only [List.cons_append, PyData.depthAll, depthAll_app (a := a)]; omega
theorem asc_ok {z : Str} (h : ascS z = true) : PyData.strOk z = true := by
  unfold PyData.strOk
  unfold ascS at h
  rw [← Array.all_toList, List.all_eq_true] at *
  intro c hc
  have := of_decide_eq_true (h c hc)
  exact decide_eq_true (by omega)
mutual
theorem okD_lay : ∀ d : PyData, okD d = true → d.canLay0 = true
  | .none, _ => rfl
  | .bool _, _ => rfl
  | .int _, _ => rfl
  | .str z, h => by simpa [PyData.canLay0] using asc_ok (by simpa [okD] using h)
  | .list xs, h => by simpa [PyData.canLay0] using okDA_lay xs (by simpa [okD] using h)
  | .tuple xs, h => by simpa [PyData.canLay0] using okDA_lay xs (by simpa [okD] using h)
  | .dict _, h => by simp [okD] at h
theorem okDA_lay : ∀ xs : List PyData, okDA xs = true → PyData.canLayAll0 xs = true
  | [], _ => rfl
  | x :: xs, h => by
    have h' : okD x = true ∧ okDA xs = true := by simpa [okDA] using h
    simp [PyData.canLayAll0, okD_lay x h'.1, okDA_lay xs h'.2]
end
theorem int_short {i : Int} (h : i.natAbs < ten62) : (PyData.shown (.int i)).length ≤ 64 ∧ i.natAbs.log2 < 1920 := by
  constructor
  · have e := int_text_length_le10 (k := 62) (by decide) h
    show (Str.ofString (toString i)).length ≤ 64
    rw [ofString_length]
    omega
  · by_cases h0 : i.natAbs = 0
    · rw [h0]; decide
    · refine (Nat.log2_lt h0).mpr (Nat.lt_of_lt_of_le h ?_)
      unfold ten62
      decide +kernel
mutual
theorem okD_short : ∀ d : PyData, okD d = true → d.leavesShort 64 = true ∧ d.showable = true
  | .none, _ => ⟨rfl, rfl⟩
  | .bool b, _ => ⟨rfl, rfl⟩
  | .int i, h => by
    have hi : i.natAbs < ten62 := of_decide_eq_true (show decide (i.natAbs < ten62) = true by simpa only [okD] using h)
    obtain ⟨s1, s2⟩ := int_short hi
    exact ⟨by simp only [PyData.leavesShort]; exact decide_eq_true s1, by simp only [PyData.showable]; exact decide_eq_true s2⟩
  | .str z, h => by
    refine ⟨?_, by simp [PyData.showable]⟩
    simp only [PyData.leavesShort, List.all_eq_true, decide_eq_true_eq]
    intro c hc
    have h' : ascS z = true := by simpa [okD] using h
    unfold ascS at h'
    rw [List.all_eq_true] at h'
    have := of_decide_eq_true (h' c hc)
    omega
  | .list xs, h => by
    have := okDA_short xs (by simpa [okD] using h)
    exact ⟨by simpa [PyData.leavesShort] using this.1, by simpa [PyData.showable] using this.2⟩
  | .tuple xs, h => by
    have := okDA_short xs (by simpa [okD] using h)
    exact ⟨by simpa [PyData.leavesShort] using this.1, by simpa [PyData.showable] using this.2⟩
  | .dict _, h => by simp [okD] at h
theorem okDA_short : ∀ xs : List PyData, okDA xs = true → PyData.leavesShortAll 64 xs = true ∧ PyData.showableAll xs = true
  | [], _ => ⟨rfl, rfl⟩
  | x :: xs, h => by
    have h' : okD x = true ∧ okDA xs = true := by simpa [okDA] using h
    have h1 := okD_short x h'.1
    have h2 := okDA_short xs h'.2
    exact ⟨by simp [PyData.leavesShortAll, h1.1, h2.1], by simp [PyData.showableAll, h1.2, h2.2]⟩
end
mutual
theorem bulk_wt : ∀ d : PyData, okD d = true → d.bulk + 1 ≤ wt d
  | .none, _ => Nat.le_refl _
  | .bool b, _ => Nat.le_refl _
  | .int i, _ => Nat.le_refl _
  | .str z, _ => by simp only [PyData.bulk, wt, Str.length]; omega
  | .list xs, h => by
    have := bulk_wtA xs (by simpa only [okD] using h)
    simp only [PyData.bulk, wt]; omega
  | .tuple xs, h => by
    have := bulk_wtA xs (by simpa only [okD] using h)
    simp only [PyData.bulk, wt]; omega
  | .dict _, h => by simp [okD] at h
theorem bulk_wtA : ∀ xs : List PyData, okDA xs = true → PyData.bulkAll xs ≤ wtA xs
  | [], _ => Nat.le_refl _
  | x :: xs, h => by
    have h' : okD x = true ∧ okDA xs = true := by simpa only [okDA, Bool.and_eq_true] using h
    have h1 := bulk_wt x h'.1
    have h2 := bulk_wtA xs h'.2
    simp only [PyData.bulkAll, wtA]; omega
end
theorem shaped_of {d : PyData} (h : okD d = true) (hd : d.depth ≤ 64) : SeqAt.shaped d = true := by
  unfold SeqAt.shaped
  rw [okD_lay d h, Bool.true_and]
  exact decide_eq_true (by omega)
theorem repr_of {d : PyData} (w : Ws) (h : okD d = true) (hd : d.depth ≤ 64) (hw : wt d ≤ 200000) : reprD w [d] = some (.str d.shown) := by
  have s := okD_short d h
  have b := bulk_wt d h
  have l := PyData.shown_le_bulk 64 (by decide) d s.1
  have z : szOk d.shown.length = true := decide_eq_true (by rw [sizeLine_eq]; omega)
  simp only [reprD, shaped_of h hd, s.2, z, Bool.and_true, if_true]
/-! ### == of data -/
theorem strs_eq (a b : Str) : (a.cps.toList == b.cps.toList) = decide (a = b) := by
  by_cases h : a = b
  · subst h; simp
  · have : a.cps.toList ≠ b.cps.toList := fun e => h (by cases a; cases b; simp at e; simp [e])
    rw [decide_eq_false h]
    exact beq_eq_false_iff_ne.mpr this
theorem eqv_str (a b : Str) : PyData.eqv (.str a) (.str b) = decide (a = b) := by
  by_cases h : a = b
  · subst h
    simp [PyData.eqv]
  · simp only [PyData.eqv]
    first | exact (strs_eq a b).trans (by simp [h]) | simp [h] | (simp [h]; intro e; exact h (by cases a; cases b; simp_all))
theorem eqD_str (w : Ws) (a b : Str) : eqD w (.str a) (.str b) = some (.bool (decide (a = b))) := by
  unfold eqD
  split
  · rw [eqv_str]
  · simp only [strsE, strs_eq, id]
theorem neD_str (w : Ws) (a b : Str) : neD w (.str a) (.str b) = some (.bool (!decide (a = b))) := by
  unfold neD
  split
  · rw [eqv_str]
  · simp only [strsE, strs_eq]
theorem eqD_int (w : Ws) (a b : Int) : eqD w (.int a) (.int b) = some (.bool (decide (a = b))) := by
  unfold eqD
  rw [if_pos (by simp [SeqAt.shaped, PyData.canLay0, PyData.depth])]
  by_cases h : a = b <;> simp [PyData.eqv, h]
theorem neD_int (w : Ws) (a b : Int) : neD w (.int a) (.int b) = some (.bool (!decide (a = b))) := by
  unfold neD
  rw [if_pos (by simp [SeqAt.shaped, PyData.canLay0, PyData.depth])]
  by_cases h : a = b <;> simp [PyData.eqv, h]
/-! ### texts as lists of signs -/
def S (l : List Nat) : Str := ⟨l.toArray⟩
theorem S_cps (l : List Nat) : (S l).cps.toList = l := by simp [S]
theorem S_of (z : Str) : z = S z.cps.toList := by cases z; simp [S]
theorem S_len (l : List Nat) : (S l).length = l.length := by simp [S, Str.length]
theorem S_app (a b : List Nat) : S a ++ S b = S (a ++ b) := by
  show (⟨a.toArray ++ b.toArray⟩ : Str) = ⟨(a ++ b).toArray⟩
  simp
theorem S_inj {a b : List Nat} : S a = S b ↔ a = b := ⟨fun h => by have := congrArg (fun z : Str => z.cps.toList) h; simpa [S_cps] using this, fun h => by rw [h]⟩
theorem S_ne {t u : List Nat} (h : t ≠ u) : ¬ (S t = S u) := fun e => h (S_inj.mp e)
theorem strOk_S {n : List Nat} (h : ∀ c ∈ n, c < 128) : PyData.strOk (S n) = true := by
  unfold PyData.strOk
  rw [← Array.all_toList, S_cps, List.all_eq_true]
  intro c hc
  have := h c hc
  simp
  try omega
theorem asc_S {n : List Nat} : ascS (S n) = n.all fun c => decide (c < 128) := by simp [ascS, S_cps]
theorem chD_S (t : List Nat) : chD (S t) = t.map fun c => .str ⟨#[c]⟩ := by simp [chD, S_cps]
theorem S_one (c : Nat) : S [c] = ⟨#[c]⟩ := rfl
theorem szOk_of {n : Nat} (h : n ≤ 10000000) : szOk n = true := decide_eq_true (by rw [sizeLine_eq]; omega)
/-! ### places -/
theorem atI_nat {α : Type} {xs : List α} {k : Nat} {x : α} (h : xs[k]? = some x) : atI xs (k : Int) = some x := by
  have hk : k < xs.length := (List.getElem?_eq_some_iff.mp h).1
  unfold atI ixN
  simp [hk]
  exact (List.getElem?_eq_some_iff.mp h).2
theorem ixD_tup {w : Ws} {ds : List PyData} {i : Int} : ixD w (.tuple ds) (.int i) = atI ds i := rfl
theorem ixD_list {w : Ws} {ds : List PyData} {i : Int} : ixD w (.list ds) (.int i) = atI ds i := rfl
theorem ixD_rf {w : Ws} {q : Nat} {ds : List PyData} {i : Int} (h : w[q]? = some (.lst ds)) : ixD w (rf q) (.int i) = atI ds i := by
  simp [ixD, lstOf, h]
theorem ix_last (n : Nat) : ixN (n + 1) (-1) = some n := by
  simp [ixN]
  omega
theorem atI_last {α : Type} (a : List α) (x : α) : atI (a ++ [x]) (-1) = some x := by
  simp [atI, ix_last]
theorem lst_at {w : Ws} {q : Nat} {ds : List PyData} (h : w[q]? = some (.lst ds)) : lstOf w (rf q) = some ds := by
  simp [lstOf, h]
theorem lstOf_list {w : Ws} {ds : List PyData} : lstOf w (.list ds) = some ds := rfl
theorem upd_at {w : Ws} {q : Nat} {ds ys : List PyData} {d : PyData} {k : List PyData → Option (PyData × List PyData)} (h : w[q]? = some (.lst ds)) (hk : k ds = some (d, ys)) : updL w (rf q) k = some (d, w.set q (.lst ys)) := by
  simp [updL, locOf, h, hk]
theorem set_get {w : Ws} {l : Nat} {x : Ob} (hw : w[l]? = some x) (y : Ob) : (w.set l y)[l]? = some y := List.getElem?_set_self (List.getElem?_eq_some_iff.mp hw).1
theorem set_at {w : Ws} {l : Nat} {ob : Ob} (h : w[l]? = some ob) : w.set l ob = w := by
  obtain ⟨hl, e⟩ := List.getElem?_eq_some_iff.mp h
  rw [← e]
  exact List.set_getElem_self ..
/-! ### statements one behind the other -/
theorem seq_nx {f k : FS} {ρ ρ1 : Ev} {w w1 : Ws} (h : f ρ w = .nx ρ1 w1) : sSeq f k ρ w = k ρ1 w1 := by simp [sSeq, h]
theorem seq_rt {f k : FS} {ρ : Ev} {w w1 : Ws} {d : PyData} (h : f ρ w = .rt d w1) : sSeq f k ρ w = .rt d w1 := by simp [sSeq, h]
theorem seq_bk {f k : FS} {ρ ρ1 : Ev} {w w1 : Ws} (h : f ρ w = .bk ρ1 w1) : sSeq f k ρ w = .bk ρ1 w1 := by simp [sSeq, h]
theorem seq_ct {f k : FS} {ρ ρ1 : Ev} {w w1 : Ws} (h : f ρ w = .ct ρ1 w1) : sSeq f k ρ w = .ct ρ1 w1 := by simp [sSeq, h]
theorem seq_congr {f f' kk : FS} {ρ ρ' : Ev} {w w' : Ws} (h : f ρ w = f' ρ' w') : sSeq f kk ρ w = sSeq f' kk ρ' w' := by simp only [sSeq, h]
theorem wh_succ {t : FT} {body : FS} {n : Nat} {ρ : Ev} {w : Ws} : whL t body (n + 1) ρ w = (t ρ w).thenS ρ fun b w1 => cond b (match body ρ w1 with
    | .nx ρ2 w2 => whL t body n ρ2 w2
    | .ct ρ2 w2 => whL t body n ρ2 w2
    | .bk ρ2 w2 => .nx ρ2 w2
    | o => o) (.nx ρ w1) := rfl
theorem sz0 : szOk 0 = true := szOk_of (by omega)
theorem sz2 : szOk 2 = true := szOk_of (by omega)
/-! ### stores whose cells speak of no later ones -/
mutual
theorem bnd_mono {n m : Nat} (h : n ≤ m) : ∀ d : PyData, bnd n d = true → bnd m d = true
  | .none, _ => rfl
  | .bool _, _ => rfl
  | .int _, _ => rfl
  | .str _, _ => rfl
  | .list xs, b => by simpa [bnd] using bndA_mono h xs (by simpa [bnd] using b)
  | .tuple xs, b => by simpa [bnd] using bndA_mono h xs (by simpa [bnd] using b)
  | .dict kvs, b => by
    simp only [bnd] at b ⊢
    unfold bndK at b ⊢
    split at b
    · have := of_decide_eq_true b
      exact decide_eq_true (by omega)
    · cases b
theorem bndA_mono {n m : Nat} (h : n ≤ m) : ∀ xs : List PyData, bndA n xs = true → bndA m xs = true
  | [], _ => rfl
  | x :: xs, b => by
    have b' : bnd n x = true ∧ bndA n xs = true := by simpa [bndA] using b
    simp [bndA, bnd_mono h x b'.1, bndA_mono h xs b'.2]
end
theorem bndO_mono {n m : Nat} (h : n ≤ m) (ob : Ob) (b : bndO n ob = true) : bndO m ob = true := by
  cases ob with
  | lst xs => exact bndA_mono h _ b
  | dK kvs => exact bndA_mono h _ b
  | ins c fs => exact bndA_mono h _ b
  | dead => rfl
mutual
theorem bnd_okD {n : Nat} : ∀ d : PyData, okD d = true → bnd n d = true
  | .none, _ => rfl
  | .bool _, _ => rfl
  | .int _, _ => rfl
  | .str _, _ => rfl
  | .list xs, b => by simpa [bnd] using bndA_okD xs (by simpa [okD] using b)
  | .tuple xs, b => by simpa [bnd] using bndA_okD xs (by simpa [okD] using b)
  | .dict kvs, b => by simp [okD] at b
theorem bndA_okD {n : Nat} : ∀ xs : List PyData, okDA xs = true → bndA n xs = true
  | [], _ => rfl
  | x :: xs, b => by
    have b' : okD x = true ∧ okDA xs = true := by simpa [okDA] using b
    simp [bndA, bnd_okD x b'.1, bndA_okD xs b'.2]
end
def Cl (w : Ws) : Prop := w.all (bndO w.length) = true
theorem Cl.snoc {w : Ws} {ob : Ob} (h : Cl w) (b : bndO (w.length + 1) ob = true) : Cl (w ++ [ob]) := by
  unfold Cl at *
  rw [List.length_append, List.length_singleton, List.all_append, Bool.and_eq_true]
  refine ⟨?_, by simp [b]⟩
  rw [List.all_eq_true] at h ⊢
  exact fun x hx => bndO_mono (by omega) x (h x hx)
theorem Cl.set {w : Ws} {l : Nat} {ob : Ob} (h : Cl w) (b : bndO w.length ob = true) : Cl (w.set l ob) := by
  unfold Cl at *
  rw [List.length_set]
  rw [List.all_eq_true] at h ⊢
  intro x hx
  rcases List.mem_or_eq_of_mem_set hx with hx | rfl
  · exact h x hx
  · exact b
theorem trim_app {w v : Ws} (h : Cl w) : trimW w.length (w ++ v) = true := by
  unfold trimW
  rw [List.take_left, h]
  simp
theorem leave_trim {w v : Ws} {d : PyData} (h : Cl w) (b : bnd w.length d = true) : leave w.length (.rt d (w ++ v)) = .ok d w := by
  simp only [leave, trim_app h, b, Bool.and_self, if_true, List.take_left]
theorem leave_trimN {w v : Ws} {ρ : Ev} (h : Cl w) : leave w.length (.nx ρ (w ++ v)) = .ok .none w := by
  simp only [leave, trim_app h, if_true, List.take_left]
end Td

set_option Elab.async false
set_option linter.all false
set_option maxRecDepth 100000
set_option maxHeartbeats 4000000
namespace Td
open PySem L2 PySem.Spec PyProof.Rows
section
variable {X : Cx} {W : WX}
/-! ### (*t, e) -/
def aSt (fe : FE) (fa : FA) : FA := fun ρ w => (fe ρ w).bind fun d w1 => match seqOf w1 d with
  | some xs => (fa ρ w1).bind fun ys w2 => .ok (xs ++ ys) w2
  | none => .no
theorem paf_star {e : Expr} {es : List Expr} {p : Pos} {f : FE} {fr : FA} (ha : PF X W e f) (hr : PAf X W es fr) (hs : starEach (.Starred e p :: es) X.env = (true, eval e X.env) :: starEach es X.env := by rfl) : PAf X W (.Starred e p :: es) (aSt f fr) := by
  refine pa_imp (StX.pa_star ha hr hs) fun σ H Q ⟨g, ρ, w, hK, r, e, q⟩ => ?_
  refine lX_bind hK r e q fun v H1 g1 d w1 x r1 e1 dv z => ?_
  cases hq : seqOf w1 d with
  | none => rw [hq] at z; exact z.elim
  | some ds =>
    rw [hq] at z
    obtain ⟨a, xs, rfl, sq, da⟩ := seqOf_ok r1 dv hq
    have hK1 := x.k.trans hK
    refine ⟨a, xs, rfl, hK1 ▸ sq.symm, ?_⟩
    refine lX_bind hK1 r1 e1 z fun vs H2 g2 ys w2 x2 r2 e2 dvs z2 => ?_
    exact z2 _ H2 g2 (Xt.refl _) r2 ((da.mono x2.toXt0 _ _).append dvs)
/-! ### range(i, j, -1) -/
def dnD (lo hi : Int) : List PyData := (List.range (lo - hi).toNat).map fun i => .int (lo - (i : Nat))
theorem wk_dn {g : Gd} {lo hi : Int} : WkD (Itc lo (-1) (lo - hi).toNat) g (dnD lo hi) where
  stop := fun g' H w x r => by show (lo - hi).toNat ≤ _; simp [dnD]
  go := fun g' H w i x r hi' => by show i < (lo - hi).toNat; simpa [dnD] using hi'
  yld := fun g' H w i v H2 x r hi' y => by
    obtain ⟨rfl, e⟩ := y
    subst e
    have hi2 : i < (lo - hi).toNat := by simpa [dnD] using hi'
    refine ⟨g', .int (lo + (i : Nat) * -1), ?_, Xt.refl _, r, .int _⟩
    simp [dnD, hi2]
    omega
def iR3 (fa : FA) : FA := fun ρ w => (fa ρ w).bind fun ds w1 => match ds with
  | [.int i, .int j, .int c] => Oc.on (c62 i && c62 j && decide (c = -1)) (.ok (dnD i j) w1)
  | _ => .no
theorem pif_range3 {tg a b c : Expr} {fa : FA} {p pos : Pos} (hg : Gl X "range") (hm : X.mg "range" = none) (ha : PAf X W [a, b, c] fa)
    (hs : starEach [a, b, c] X.env = (false, eval a X.env) :: starEach [b, c] X.env := by rfl) (hpl : (backTo pos (starEach [b, c] X.env)).any (·.1) = false := by rfl) : PIf X W tg (.Call (.Name "range" p) [a, b, c] [] pos) (iR3 fa) := by
  refine pi_imp (pi_range3 hg hm ha hs hpl) fun σ H R ⟨g, ρ, w, hK, r, e, q⟩ => ?_
  refine lX_bind hK r e q fun v H1 g1 d w1 x r1 e1 dv z => ?_
  split at z
  · cases dv with
    | cons d0 dn =>
      cases d0
      cases dn with
      | cons d1 dn =>
        cases d1
        cases dn with
        | cons d2 dn =>
          cases d2
          cases dn
          obtain ⟨hb, z9⟩ := z.on
          rw [Bool.and_eq_true, Bool.and_eq_true] at hb
          have h1 := of_decide_eq_true hb.1.1
          have h2 := of_decide_eq_true hb.1.2
          have h3 := of_decide_eq_true hb.2
          subst h3
          exact ⟨_, _, _, _, rfl, RgC.neg (by omega) (by omega) (by omega) (by omega), z9 _ H1 g1 (Xt.refl _) r1 wk_dn⟩
  · exact z.elim
/-! ### sorted(d) -/
def txtK : List (Key × PyData) → Option (List Str)
  | [] => some []
  | (.inr x, _) :: r => (txtK r).map (x :: ·)
  | (.inl _, _) :: _ => none
theorem txtK_ok : ∀ {kvs : List (Key × PyData)} {ks : List Str}, txtK kvs = some ks → kvs.map (·.1) = ks.map Sum.inr
  | [], _, h => by cases h; rfl
  | (.inr x, _) :: r, _, h => by
    simp only [txtK] at h
    cases e : txtK r with
    | none => rw [e] at h; cases h
    | some ys => rw [e] at h; cases h; simp [txtK_ok e]
  | (.inl _, _) :: _, _, h => by simp [txtK] at h
def sortDk (w : Ws) : List PyData → Option PyData
  | [d] => match dkOf w d with
    | some kvs => match txtK kvs with
      | some ks => if decide (ks.length < 64) then some (.list ((srtS ks).map .str)) else none
      | none => none
    | none => none
  | _ => none
theorem KvR.keys {g : Gd} : ∀ {xs : List (Key × V)} {kvs : List (Key × PyData)}, KvR g xs kvs → xs.map (·.1) = kvs.map (·.1)
  | _, _, .nil => rfl
  | _, _, .cons h t => by simp only [List.map_cons]; rw [h.1, KvR.keys t]
theorem call_sortedDk (hc : X.calm = true) : CallR X (.builtin "sorted") (rDN X.K sortDk) := by
  intro pins s σ H xs us Q I rv ⟨g, w, ds, z, hK, r, dx, hz, q⟩
  refine call_sortedD hc pins s σ H xs us Q I rv ?_
  unfold sortDk at hz
  split at hz
  · split at hz
    · rename_i kvs hk
      split at hz
      · rename_i ks hks
        split at hz
        · rename_i hl
          cases hz
          cases dx with
          | cons d0 dn =>
            cases dn
            obtain ⟨l, ys, rfl, rfl, hw, hn, hH, kv⟩ := dkOf_ok r d0 hk
            refine ⟨_, ys, ks, rfl, .inl hH, (KvR.keys kv).trans (txtK_ok hks), of_decide_eq_true hl, fun zs p hp hs hn => ?_⟩
            rw [srtS_one hp hs]
            exact q _ _ _ (Xt.put (r.fnone hn)) (r.put hn) (newL r hn (dqA_strs _))
        · cases hz
      · cases hz
    · cases hz
  · cases hz
/-! ### xs[::-1], xs a list -/
def revL (w : Ws) (d : PyData) : Option PyData := (lstOf w d).map fun ds => .list ds.reverse
theorem pf_revL {o : Expr} {fo : FE} {k : Nat} {p2 p3 p4 pos : Pos} (ho : PF X W o fo) : PF X W (.Subscript o (.Slice none none (some (.UnaryOp .USub (.Constant (.int 1) k p3) p4)) p2) pos) (eU revL fo) := by
  refine pe_imp (pe_revL ho) fun σ H Q ⟨g, ρ, w, hK, r, e, q⟩ => ?_
  refine lX_bind hK r e q fun v H1 g1 d w1 x r1 e1 dv z => ?_
  unfold revL at z
  cases hq : lstOf w1 d with
  | none => rw [hq] at z; exact z.elim
  | some ds =>
    rw [hq] at z
    obtain ⟨a, xs, rfl, sq, da⟩ := lstOf_ok r1 dv hq
    exact ⟨a, xs, rfl, (x.k.trans hK) ▸ sq, fun p hp => z _ _ _ (Xt.put (r1.fnone hp)) (r1.put hp) (newL r1 hp da.reverse)⟩
/-! ### d.get(k, x), d.setdefault(k, x) -/
def eDg2 (fo fe fx : FE) : FE := fun ρ w => (fo ρ w).bind fun o w1 => Oc.on (dkOf w1 o).isSome ((fe ρ w1).bind fun e w2 => (fx ρ w2).bind fun d w3 => match (dkOf w3 o), keyD e with
  | some kvs, some k => .ok ((valD kvs k).getD d) w3
  | _, _ => .no)
theorem valD_none {g : Gd} {k : Key} : ∀ {xs : List (Key × V)} {kvs : List (Key × PyData)}, KvR g xs kvs → valD kvs k = none → valV xs k = none := fun {xs kvs} h e => by
  cases q : valV xs k with
  | none => rfl
  | some v =>
    exfalso
    have h1 : (xs.any fun kv => decide (kv.1 = k)) = true := by
      unfold valV at q
      cases f : xs.find? fun kv => decide (kv.1 = k) with
      | none => simp [f] at q
      | some a =>
        have := List.find?_some f
        exact List.any_eq_true.mpr ⟨a, List.mem_of_find?_eq_some f, this⟩
    rw [h.any] at h1
    obtain ⟨a, ha, ka⟩ := List.any_eq_true.mp h1
    unfold valD at e
    cases f : kvs.find? fun kv => decide (kv.1 = k) with
    | none => exact absurd ka (by have := List.find?_eq_none.mp f a ha; simpa using this)
    | some b => rw [f] at e; cases e
theorem pf_dget2 {o e f : Expr} {apos cpos : Pos} {fo fe fx : FE} (hu : X.A.units + 1 < cLine) (ho : PF X W o fo) (he : PF X W e fe) (hf : PF X W f fx) (m : M2 X o "get" apos e f cpos := by exact ⟨rfl, rfl, rfl, rfl⟩) : PF X W (.Call (.Attribute o "get" apos) [e, f] [] cpos) (eDg2 fo fe fx) := by
  refine pe_imp (pe_dget2 hu ho he hf m) fun σ H Q ⟨g, ρ, w, hK, r, e, q⟩ => ?_
  refine lX_bind hK r e q fun v H1 g1 d w1 x r1 e1 dv z => ?_
  obtain ⟨hb, z⟩ := z.on
  obtain ⟨kvs1, hk1⟩ := Option.isSome_iff_exists.mp hb
  obtain ⟨l, ys, rfl, rfl, hw, hn, hH, kv⟩ := dkOf_ok r1 dv hk1
  refine ⟨_, rfl, .inl ⟨ys, .inl hH⟩, ?_⟩
  refine lX_bind (x.k.trans hK) r1 e1 z fun v2 H2 g2 d2 w2 x2 r2 e2 dv2 z2 => ?_
  refine lX_bind (x2.k.trans (x.k.trans hK)) r2 e2 z2 fun v3 H3 g3 d3 w3 x3 r3 e3 dv3 z3 => ?_
  split at z3
  · rename_i kvs k hk hkey
    obtain ⟨l', ys', ev, er, hw', hn', hH', kv'⟩ := dkOf_ok r3 ((dv.mono x2.toXt0 _ _).mono x3.toXt0 _ _) hk
    have ek := keyD_ok (dv2.mono x3.toXt0 _ _) hkey
    rw [V.ref.inj ev]
    refine ⟨valV ys' k, .inl ⟨ys', k, .inl hH', ek, rfl⟩, ?_⟩
    cases hv : valD kvs k with
    | none =>
      rw [hv] at z3
      rw [valD_none kv' hv]
      exact z3 _ _ g3 (Xt.refl _) r3 dv3
    | some y =>
      rw [hv] at z3
      obtain ⟨v', e', d'⟩ := kv'.val hv
      rw [e']
      exact z3 _ _ g3 (Xt.refl _) r3 d'
  · exact z3.elim
def eSd (fo fe fx : FE) : FE := fun ρ w => (fo ρ w).bind fun o w1 => Oc.on (dkOf w1 o).isSome ((fe ρ w1).bind fun e w2 => (fx ρ w2).bind fun d w3 => match locOf o, dkOf w3 o, keyD e with
  | some l, some kvs, some k => Oc.on (decide (kvs.length < sizeLine)) (match valD kvs k with
    | some y => .ok y w3
    | none => .ok d (w3.set l (.dK (putD kvs k d))))
  | _, _, _ => .no)
theorem pf_setd {o e f : Expr} {apos cpos : Pos} {fo fe fx : FE} (ho : PF X W o fo) (he : PF X W e fe) (hf : PF X W f fx) (m : M2 X o "setdefault" apos e f cpos := by exact ⟨rfl, rfl, rfl, rfl⟩) : PF X W (.Call (.Attribute o "setdefault" apos) [e, f] [] cpos) (eSd fo fe fx) := by
  refine pe_imp (pe_dsetd ho he hf m) fun σ H Q ⟨g, ρ, w, hK, r, e, q⟩ => ?_
  refine lX_bind hK r e q fun v H1 g1 d w1 x r1 e1 dv z => ?_
  obtain ⟨hb, z⟩ := z.on
  obtain ⟨kvs1, hk1⟩ := Option.isSome_iff_exists.mp hb
  obtain ⟨l, ys, rfl, rfl, hw, hn, hH, kv⟩ := dkOf_ok r1 dv hk1
  refine ⟨_, rfl, .inl ⟨ys, .inl hH⟩, ?_⟩
  refine lX_bind (x.k.trans hK) r1 e1 z fun v2 H2 g2 d2 w2 x2 r2 e2 dv2 z2 => ?_
  refine lX_bind (x2.k.trans (x.k.trans hK)) r2 e2 z2 fun v3 H3 g3 d3 w3 x3 r3 e3 dv3 z3 => ?_
  split at z3
  · rename_i l' kvs k hl hk hkey
    obtain ⟨l2, ys', ev, er, hw', hn', hH', kv'⟩ := dkOf_ok r3 ((dv.mono x2.toXt0 _ _).mono x3.toXt0 _ _) hk
    have ek := keyD_ok (dv2.mono x3.toXt0 _ _) hkey
    have el : l' = l2 := by
      rw [er] at hl
      simp [locOf, rf] at hl
      exact hl.symm
    subst el
    obtain ⟨hz, z3⟩ := z3.on
    have hz := of_decide_eq_true hz
    rw [V.ref.inj ev]
    refine ⟨ys', k, hH', ek, by rw [kv'.length]; exact hz, fun v' hv' => ?_, fun hv' => ?_⟩
    · cases hv : valD kvs k with
      | none => rw [valD_none kv' hv] at hv'; cases hv'
      | some y =>
        rw [hv] at z3
        obtain ⟨v2', e', d'⟩ := kv'.val hv
        rw [e'] at hv'
        cases hv'
        exact z3 _ _ g3 (Xt.refl _) r3 d'
    · cases hv : valD kvs k with
      | some y =>
        obtain ⟨v2', e', d'⟩ := kv'.val hv
        rw [e'] at hv'
        cases hv'
      | none =>
        rw [hv] at z3
        refine z3 _ _ g3 (Xt.refl _) ?_ dv3
        exact r3.write hw' hn' (fun a b hb z => by rw [hH'] at hb; cases hb; cases z) ⟨hn', _, upd_same, kv'.put dv3⟩
  · exact z3.elim
/-! ### xs.extend(ys) -/
theorem extend_tup (l : Addr) (items : Array Value) (n : Nat) (b : Addr) (items2 : Array Value) (n2 : Nat) (dd : Option Addr) (sl : Array (Option Value)) (hs0 : ¬(!items.isEmpty && Builtin.List.listTooLong (items.size + items2.size)) = true) (hs1 : items.size ≤ sizeLine) (hs2 : items.size + items2.size ≤ sizeLine + 1) :
    Meets (Builtin.«list.extend» ⟨[.ref l, .ref b], []⟩) (fun _ R s => s.heap.get? l = some { cls := .type "list", dict := none, data := .seq items n, slots := #[] } ∧ s.heap.get? b = some { cls := .type "tuple", dict := dd, data := .seq items2 n2, slots := sl } ∧ R (.ok (.ret Value.none)) { s with heap := s.heap.update l (Obj.mapSeq fun x => x ++ items2), toks := s.toks }) :=
  .of_wp fun prog w A R s h => by
    obtain ⟨hp, g, d, tk, os⟩ := s; obtain ⟨hl, hb, h⟩ := h; have f1 := AutoSeq1.idx_int; have f2 := AutoSeq1.sub_tuple_tuple; have f3 := AutoSeq1.sub_list_list; have f4 := AutoSeq1.sub_tuple_list; have f5 := AutoSeq1.sub_list_tuple;
    have hz' : (items ++ items2).size ≤ sizeLine + 1 := by rw [Array.size_append]; exact hs2
    wp_walk using (wpAny_updateSeq hl rfl (hz := hs1) (_hz' := hz')), AutoSeq1.wpAny_loadPart' hl, AutoSeq1.wpAny_loadPart' hb; exact ⟨_, rfl, h⟩
def rExtA (K : PySem.W.Frag) : V → List V → Hp → VK → Prop := fun x vs H Q => ∃ l b xs zs, x = .ref l ∧ vs = [.ref b] ∧ H l = some (.lst xs) ∧ (SqL K H b zs ∨ SqT K H b zs) ∧ xs.length + zs.length ≤ sizeLine ∧ Q .non (upd H l (.lst (xs ++ zs)))
theorem extend_lst (l : Addr) (items : Array Value) (n : Nat) (b : Addr) (items2 : Array Value) (n2 : Nat) (sl : Array (Option Value)) (hs0 : ¬(!items.isEmpty && Builtin.List.listTooLong (items.size + items2.size)) = true) (hs1 : items.size ≤ sizeLine) (hs2 : items.size + items2.size ≤ sizeLine + 1) :
    Meets (Builtin.«list.extend» ⟨[.ref l, .ref b], []⟩) (fun _ R s => s.heap.get? l = some { cls := .type "list", dict := none, data := .seq items n, slots := #[] } ∧ s.heap.get? b = some { cls := .type "list", dict := none, data := .seq items2 n2, slots := sl } ∧ R (.ok (.ret Value.none)) { s with heap := s.heap.update l (Obj.mapSeq fun x => x ++ items2), toks := s.toks }) :=
  .of_wp fun prog w A R s h => by
    obtain ⟨hp, g, d, tk, os⟩ := s; obtain ⟨hl, hb, h⟩ := h; have f1 := AutoSeq1.idx_int; have f2 := AutoSeq1.sub_tuple_tuple; have f3 := AutoSeq1.sub_list_list; have f4 := AutoSeq1.sub_tuple_list; have f5 := AutoSeq1.sub_list_tuple;
    have hz' : (items ++ items2).size ≤ sizeLine + 1 := by rw [Array.size_append]; exact hs2
    wp_walk using (wpAny_updateSeq hl rfl (hz := hs1) (_hz' := hz')), AutoSeq1.wpAny_loadPart' hl, AutoSeq1.wpAny_loadPart' hb; exact ⟨_, rfl, h⟩
theorem mt_extA : MtM X "list.extend" (rExtA X.K) := by
  intro pins s σ H x vs v us Q I rx rv h
  obtain ⟨l, b, xs, zs, rfl, rfl, hH, hB, hz, q⟩ := h
  cases rx
  obtain ⟨u, rfl, ru⟩ := rv.one
  cases ru
  obtain ⟨z, its, n, r, hl, e⟩ := I.lstM hH
  have notLong : ∀ its2 : List Value, Vals zs its2 → ¬ (!its.toArray.isEmpty && Builtin.List.listTooLong (its.toArray.size + its2.toArray.size)) = true ∧ its.toArray.size ≤ sizeLine ∧ its.toArray.size + its2.toArray.size ≤ sizeLine + 1 := fun its2 r2 => by
    have h1 := r.length
    have h2 := r2.length
    have hsz : its.toArray.size + its2.toArray.size ≤ sizeLine := by rw [List.size_toArray, List.size_toArray]; omega
    refine ⟨?_, by omega, by omega⟩
    rw [notLongL hsz, Bool.and_false]
    exact Bool.false_ne_true
  rcases hB with hB | hB
  · obtain ⟨its2, r2, ⟨o2, n2, e2, c2, d2, dt2⟩, z2⟩ := I.list hB
    obtain ⟨cls, dict, data, slots⟩ := o2
    simp only at c2 d2 dt2
    subst c2 d2 dt2
    obtain ⟨h1, h2, h3⟩ := notLong its2 r2
    refine call_meets F.slot_list_extend ⟨_, e, rfl⟩ F.entry_list_extend (F.args_list_extend_2 _ _) (extend_lst l its.toArray n b its2.toArray n2 slots h1 h2 h3) ⟨e, e2, ?_⟩
    refine ⟨.non, _, I.lset (its' := its ++ its2) hH e (by simp) (r.append r2) ?_, rfl, q⟩
    rw [List.length_append]
    omega
  · obtain ⟨its2, r2, ⟨o2, e2, c2, n2, dt2⟩, z2⟩ := I.tuple hB
    obtain ⟨cls, dict, data, slots⟩ := o2
    simp only at c2 dt2
    subst c2 dt2
    obtain ⟨h1, h2, h3⟩ := notLong its2 r2
    refine call_meets F.slot_list_extend ⟨_, e, rfl⟩ F.entry_list_extend (F.args_list_extend_2 _ _) (extend_tup l its.toArray n b its2.toArray n2 dict slots h1 h2 h3) ⟨e, e2, ?_⟩
    refine ⟨.non, _, I.lset (its' := its ++ its2) hH e (by simp) (r.append r2) ?_, rfl, q⟩
    rw [List.length_append]
    omega
/-- xs.extend(e) -/
def eExt (fo fe : FE) : FE := fun ρ w => (fo ρ w).bind fun o w1 => Oc.on (lstOf w1 o).isSome ((fe ρ w1).bind fun d w2 => match seqOf w2 d with
  | some ys => match updL w2 o (fun xs => if xs.length + ys.length ≤ sizeLine then some (.none, xs ++ ys) else none) with
    | some (d, w3) => .ok d w3
    | none => .no
  | none => .no)
theorem pf_ext {o e : Expr} {fo fe : FE} {apos cpos : Pos} (ho : PF X W o fo) (he : PF X W e fe)
    (hbase : attributeBase o "extend" X.env (eval o X.env) = eval o X.env := by rfl) (hfew : ((backTo cpos (starEach [e] X.env)).all (fun x => !x.1) && (backToKw cpos (keywordEach [] X.env)).all (fun x => x.1.isSome) && decide ([e].length + ([] : List Keyword).length + (if ([] : List Keyword).isEmpty then 0 else 1) < 30)) = true := by rfl)
    (hline : (apos.endLine == cpos.line) = true := by rfl) (hs : starEach [e] X.env = (false, eval e X.env) :: starEach [] X.env := by rfl)
    (hplain : (backTo cpos (starEach [] X.env)).any (·.1) = false := by rfl) :
    PF X W (.Call (.Attribute o "extend" apos) [e] [] cpos) (eExt fo fe) := by
  refine pe_imp (pe_bm PySem.F.plainAttrs_list F.slot_list_extend F.type_list_extend mt_extA ho (pa_cons he pa_nil hs) hbase hfew hline hs hplain) fun σ H Q ⟨g, ρ, w, hK, r, e, q⟩ => ?_
  refine lX_bind hK r e q fun v H1 g1 d w1 x r1 e1 dv z => ?_
  obtain ⟨hb, z⟩ := z.on
  obtain ⟨ds, hds⟩ := Option.isSome_iff_exists.mp hb
  obtain ⟨a, xs, rfl, sq, da⟩ := lstOf_ok r1 dv hds
  have hK1 := x.k.trans hK
  refine ⟨.inl ⟨rfl, xs, hK1 ▸ sq⟩, ?_⟩
  refine lX_bind hK1 r1 e1 z fun v2 H2 g2 d2 w2 x2 r2 e2 dv2 z2 => ?_
  split at z2
  · rename_i ys hys
    obtain ⟨b, zs, rfl, sq2, db⟩ := seqOf_ok r2 dv2 hys
    split at z2
    · rename_i d' w3 hu
      obtain ⟨p, xs2, ds2, ys2, ep, hp, dx2, hk, hw⟩ := updL_ok r2 (dv.mono x2.toXt0 _ _) hu
      split at hk
      · rename_i hz
        cases hk
        rw [ep]
        refine ⟨p, b, xs2, zs, rfl, rfl, hp, (x2.k.trans hK1) ▸ sq2, by rw [dx2.length, db.length]; exact hz, z2 _ _ g2 (Xt.refl _) (hw _ (dx2.append db)) .non⟩
      · cases hk
    · exact z2.elim
  · exact z2.elim
end
end Td
namespace Td
open PySem L2 PySem.Spec PyProof.Rows
section
variable {X : Cx} {W : WX}
/-- a, b, c = e1, e2, e3 -/
def sPar3 (i j l : Nat) (fa : FA) : FS := fun ρ w => (fa ρ w).thenS ρ fun ds w1 => match ds with
  | [a, b, c] => .nx (((ρ.set i (some a)).set j (some b)).set l (some c)) w1
  | _ => .no
theorem psf_par3 {i j l : Nat} {x y z : Str} {a b c : Expr} {fa : FA} {px py pz pt pos : Pos} {kt k2 : Nat} {pt2 : Pos} (hc : X.calm = true) (hN : X.N.Nodup) (hi : X.N[i]? = some x) (hj : X.N[j]? = some y) (hl : X.N[l]? = some z) (hij : i ≠ j) (hil : i ≠ l) (hjl : j ≠ l)
    (hx : X.env.scope.names.lookup x = some .local) (hy : X.env.scope.names.lookup y = some .local) (hz : X.env.scope.names.lookup z = some .local) (ha : PAf X W [a, b, c] fa)
    (hw : swappedStores [.Tuple [.Name x px, .Name y py, .Name z pz] kt pt] (.Tuple [a, b, c] k2 pt2) X.env = pure (some [x, y, z]))
    (hs : swapsWithSole [.Tuple [.Name x px, .Name y py, .Name z pz] kt pt] (.Tuple [a, b, c] k2 pt2) pos.line X.env = pure false := by rfl) :
    PSf X W (.Assign [.Tuple [.Name x px, .Name y py, .Name z pz] kt pt] (.Tuple [a, b, c] k2 pt2) pos) (sPar3 i j l fa) := by
  refine ps_imp (ps_par3 hc hN hi hj hl hij hil hjl hx hy hz ha hw hs) fun D σ H ⟨g, ρ, w, hK, r, e, q⟩ => ?_
  refine lX_then hK r e q fun v H1 g1 d w1 x r1 e1 dv z => ?_
  split at z
  · cases dv with
    | cons d0 dn =>
      cases dn with
      | cons d1 dn =>
        cases dn with
        | cons d2 dn =>
          cases dn
          exact ⟨_, _, _, rfl, z _ H1 g1 (Xt.refl _) r1 (((e1.set i d0).set j d1).set l d2)⟩
  · exact z.elim
end
end Td

set_option Elab.async false
set_option linter.all false
set_option maxRecDepth 100000
set_option maxHeartbeats 4000000
/-! Sleeping generators: a run that wakes none of them leaves them as they are. -/
namespace Tg
open PySem
open Sem (wp)
def stuckK : Resume → Sem PySem.Fin := fun _ => .unsupported ""
def okFs (fs : List Frame) : Prop := splitAtGen fs = none
def okG : GenState → Prop
  | .suspended _ _ _ _ fs _ => okFs fs
  | _ => True
def okE : End → Prop
  | .susp _ _ _ _ _ _ fs => okFs fs
  | .ret _ => True
/-- as it is, and as one that cannot be woken -/
inductive Gp : Option GenState → Option GenState → Prop
  | non : Gp none none
  | eq {x : GenState} : okG x → Gp (some x) (some x)
  | stk {k : Resume → Sem PySem.Fin} {l : List Value} {c : Code} {p : Pos} {fs : List Frame} {cl : Bool} : Gp (some (.suspended k l c p fs cl)) (some (.suspended stuckK l c p fs cl))
structure Rl (S T : Shared) : Prop where
  heap : S.heap = T.heap
  drawn : S.drawn = T.drawn
  toks : S.toks = T.toks
  os : S.os = T.os
  size : S.gens.size = T.gens.size
  at_ : ∀ i : Nat, Gp S.gens[i]? T.gens[i]?
/-- i cannot be woken -/
def Stk (T : Shared) (i : Nat) : Prop := ∃ l c p fs cl, T.gens[i]? = some (.suspended stuckK l c p fs cl)
def Kp (S T S' T' : Shared) : Prop := ∀ i, Stk T i → S'.gens[i]? = S.gens[i]? ∧ Stk T' i
theorem Kp.refl (S T : Shared) : Kp S T S T := fun i h => ⟨rfl, h⟩
theorem Kp.trans {S T S1 T1 S2 T2 : Shared} (a : Kp S T S1 T1) (b : Kp S1 T1 S2 T2) : Kp S T S2 T2 := fun i h =>
  let ⟨a1, a2⟩ := a i h
  let ⟨b1, b2⟩ := b i a2
  ⟨b1.trans a1, b2⟩
theorem no_unsup {M : Model} {Γ : Ctx} {p : Pos} {t : Sem PySem.Fin} {fs : List Frame} {s s' : Shared} {e : End} (h : Runs M Γ p t fs s e s') : ∀ w, t ≠ .unsupported w := by
  induction h <;> intro w z <;> first | (cases z; done) | (rename_i ih1 ih2; exact ih1 w z) | (rename_i ih; exact ih w z) | (rename_i ih1 _ _ ih2; exact ih1 w z) | skip
  all_goals (subst z; simp_all)
theorem okFs_ret {k : Result → Sem PySem.Fin} {h : Option Value} {g : Bool} {l : List Value} {c : Code} {p : Pos} {kp : List Value} {fs : List Frame} : okFs (.ret k h g l c p kp :: fs) ↔ okFs fs := by
  simp only [okFs, splitAtGen, Option.map_eq_none_iff]
theorem okFs_app : ∀ {fs gs : List Frame}, okFs fs → okFs gs → okFs (fs ++ gs)
  | [], _, _, h => h
  | .ret _ _ _ _ _ _ _ :: fs, gs, h, h2 => by
    rw [List.cons_append, okFs_ret]
    exact okFs_app (okFs_ret.mp h) h2
  | .gen _ _ _ _ _ :: fs, gs, h, _ => by simp [okFs, splitAtGen] at h
theorem Gp.look {S T : Shared} (r : Rl S T) {i : Nat} {y : GenState} (h : T.gens[i]? = some y) : ∃ x, S.gens[i]? = some x ∧ x.seen = y.seen ∧ Gp (some x) (some y) := by
  have q := r.at_ i
  rw [h] at q
  cases e : S.gens[i]? with
  | none => rw [e] at q; cases q
  | some x =>
    rw [e] at q
    refine ⟨x, rfl, ?_, q⟩
    cases q <;> rfl
theorem get_set {s : Shared} {g i : Nat} {x : GenState} : (s.setGen g x).gens[i]? = if g = i then (if i < s.gens.size then some x else none) else s.gens[i]? := by
  show (s.gens.setIfInBounds g x)[i]? = _
  rw [Array.getElem?_setIfInBounds]
  split <;> simp_all
theorem Rl.set {S T : Shared} (r : Rl S T) (g : Nat) {x : GenState} (hx : okG x) : Rl (S.setGen g x) (T.setGen g x) where
  heap := r.heap
  drawn := r.drawn
  toks := r.toks
  os := r.os
  size := by rw [GenW.setGen_size, GenW.setGen_size]; exact r.size
  at_ := fun i => by
    rw [get_set, get_set, r.size]
    split
    · split
      · exact .eq hx
      · exact .non
    · exact r.at_ i
theorem Kp.set {S T : Shared} (g : Nat) {x : GenState} (h : ¬ Stk T g) : Kp S T (S.setGen g x) (T.setGen g x) := fun i hi => by
  have ne : g ≠ i := fun z => h (by rw [z]; exact hi)
  obtain ⟨l, c, p, fs, cl, e⟩ := hi
  exact ⟨by rw [get_set, if_neg ne], l, c, p, fs, cl, by rw [get_set, if_neg ne]; exact e⟩
theorem okE_gen {e : End} (h : okE e) : okG e.genState := by cases e <;> exact h
theorem stk_run {T : Shared} {g : Nat} (h : g < T.gens.size) : ¬ Stk (T.setGen g .running) g := fun ⟨l, c, p, fs, cl, e⟩ => by
  rw [get_set, if_pos rfl, if_pos h] at e
  cases e
theorem stk_fresh {T : Shared} {g : Nat} {c : Code} (h : T.gens[g]? = some (.fresh c)) : ¬ Stk T g := fun ⟨_, _, _, _, _, z⟩ => by rw [h] at z; cases z
theorem runs_frame {M : Model} {Γ : Ctx} {p : Pos} {t : Sem PySem.Fin} {fs : List Frame} {T T' : Shared} {e : End} (h : Runs M Γ p t fs T e T') : okFs fs → ∀ S, Rl S T → ∃ S', Rl S' T' ∧ Runs M Γ p t fs S e S' ∧ okE e ∧ Kp S T S' T' := by
  induction h with
  | done => exact fun _ S r => ⟨S, r, .done, trivial, Kp.refl _ _⟩
  | raise => exact fun _ S r => ⟨S, r, .raise, trivial, Kp.refl _ _⟩
  | again hc _ ih => exact fun o S r => let ⟨S', r', h', o', k'⟩ := ih o S r; ⟨S', r', .again hc h', o', k'⟩
  | rule _ ih => exact fun o S r => let ⟨S', r', h', o', k'⟩ := ih o S r; ⟨S', r', .rule h', o', k'⟩
  | «at» _ ih => exact fun o S r => let ⟨S', r', h', o', k'⟩ := ih o S r; ⟨S', r', .at h', o', k'⟩
  | load hl _ ih => exact fun o S r => let ⟨S', r', h', o', k'⟩ := ih o S r; ⟨S', r', .load (by rw [r.heap]; exact hl) h', o', k'⟩
  | @update Γ p k s e s' a part f hl _ ih =>
    intro o S r
    obtain ⟨S', r', h', o', k'⟩ := ih o { S with heap := S.heap.update a f } ⟨by show S.heap.update a f = s.heap.update a f; rw [r.heap], r.drawn, r.toks, r.os, r.size, r.at_⟩
    exact ⟨S', r', .update (by rw [r.heap]; exact hl) h', o', k'⟩
  | @loadIfAlive Γ p k s e s' a _ ih =>
    intro o S r
    obtain ⟨S', r', h', o', k'⟩ := ih o S r
    exact ⟨S', r', .loadIfAlive (by rw [r.heap]; exact h'), o', k'⟩
  | point _ ih => exact fun o S r => let ⟨S', r', h', o', k'⟩ := ih o S r; ⟨S', r', .point h', o', k'⟩
  | @alloc Γ p k s e s' ob _ ih =>
    intro o S r
    obtain ⟨S', r', h', o', k'⟩ := ih o { S with heap := S.heap.push ob } ⟨by show S.heap.push ob = s.heap.push ob; rw [r.heap], r.drawn, r.toks, r.os, r.size, r.at_⟩
    exact ⟨S', r', .alloc (by rw [show S.heap.objs.size = s.heap.objs.size by rw [r.heap]]; exact h'), o', k'⟩
  | @fresh Γ p k s e s' _ ih =>
    intro o S r
    obtain ⟨S', r', h', o', k'⟩ := ih o { S with toks := S.toks + 1 } ⟨r.heap, r.drawn, by show S.toks + 1 = s.toks + 1; rw [r.toks], r.os, r.size, r.at_⟩
    exact ⟨S', r', .fresh (by rw [show k S.toks = k s.toks by rw [r.toks]]; exact h'), o', k'⟩
  | ask _ ih => exact fun o S r => let ⟨S', r', h', o', k'⟩ := ih o S r; ⟨S', r', .ask h', o', k'⟩
  | @choose n Γ p k s e s' src hn _ ih =>
    intro o S r
    obtain ⟨S', r', h', o', k'⟩ := ih o { S with drawn := S.drawn.bump src } ⟨r.heap, by show S.drawn.bump src = s.drawn.bump src; rw [r.drawn], r.toks, r.os, r.size, r.at_⟩
    exact ⟨S', r', .choose hn (by rw [r.drawn] at h' ⊢; exact h'), o', k'⟩
  | @os Γ p k s e s' q l _ ih =>
    intro o S r
    obtain ⟨S', r', h', o', k'⟩ := ih o { S with os := (Os.step S.os q).1 } ⟨r.heap, r.drawn, r.toks, by show (Os.step S.os q).1 = (Os.step s.os q).1; rw [r.os], r.size, r.at_⟩
    exact ⟨S', r', .os (by rw [r.os] at h' ⊢; exact h'), o', k'⟩
  | handled _ ih => exact fun o S r => let ⟨S', r', h', o', k'⟩ := ih o S r; ⟨S', r', .handled h', o', k'⟩
  | genState hg _ ih =>
    intro o S r
    obtain ⟨x, hx, hs, _⟩ := Gp.look r hg
    obtain ⟨S', r', h', o', k'⟩ := ih o S r
    exact ⟨S', r', .genState hx (by rw [hs]; exact h'), o', k'⟩
  | stack _ ih => exact fun o S r => let ⟨S', r', h', o', k'⟩ := ih o S r; ⟨S', r', .stack h', o', k'⟩
  | thread _ ih => exact fun o S r => let ⟨S', r', h', o', k'⟩ := ih o S r; ⟨S', r', .thread h', o', k'⟩
  | @newGen Γ p k s e s' c _ ih =>
    intro o S r
    obtain ⟨S', r', h', o', k'⟩ := ih o { S with gens := S.gens.push (.fresh c) } ⟨r.heap, r.drawn, r.toks, r.os, by show (S.gens.push _).size = (s.gens.push _).size; rw [Array.size_push, Array.size_push, r.size], fun i => by
      show Gp (S.gens.push _)[i]? (s.gens.push _)[i]?
      rw [Array.getElem?_push, Array.getElem?_push, r.size]
      split
      · exact .eq trivial
      · exact r.at_ i⟩
    refine ⟨S', r', .newGen (by rw [r.size]; exact h'), o', fun i hi => ?_⟩
    obtain ⟨l, cc, pp, ff, cl, ei⟩ := hi
    have hlt : i < s.gens.size := (Array.getElem?_eq_some_iff.mp ei).1
    have := k' i ⟨l, cc, pp, ff, cl, by show (s.gens.push _)[i]? = _; rw [Array.getElem?_push, if_neg (by omega)]; exact ei⟩
    refine ⟨this.1.trans ?_, this.2⟩
    show (S.gens.push _)[i]? = _
    rw [Array.getElem?_push, if_neg (by rw [r.size]; omega)]
  | call _ _ ih1 ih2 =>
    intro o S r
    obtain ⟨S1, r1, h1, o1, k1⟩ := ih1 rfl S r
    obtain ⟨S2, r2, h2, o2, k2⟩ := ih2 o S1 r1
    exact ⟨S2, r2, .call h1 h2, o2, k1.trans k2⟩
  | callSusp _ ih =>
    intro o S r
    obtain ⟨S1, r1, h1, o1, k1⟩ := ih rfl S r
    exact ⟨S1, r1, .callSusp h1, okFs_app o1 (okFs_ret.mpr rfl), k1⟩
  | yield => exact fun _ S r => ⟨S, r, .yield, rfl, Kp.refl _ _⟩
  | @resumeFresh Γ p g l k s c e₁ s₁ e s' hg _ hq _ ih1 ih2 =>
    intro o S r
    obtain ⟨x, hx, _, hp⟩ := Gp.look r hg
    have ex : x = .fresh c := by cases hp; rfl
    subst ex
    have ns : ¬ Stk s g := fun ⟨_, _, _, _, _, z⟩ => by rw [hg] at z; cases z
    have hlt : g < s.gens.size := (Array.getElem?_eq_some_iff.mp hg).1
    obtain ⟨S1, r1, h1, o1, k1⟩ := ih1 rfl _ (r.set g (x := .running) trivial)
    obtain ⟨S2, r2, h2, o2, k2⟩ := ih2 o _ (r1.set g (okE_gen o1))
    refine ⟨S2, r2, .resumeFresh hx h1 hq h2, o2, fun i hi => ?_⟩
    have ne : g ≠ i := fun z => ns (by rw [z]; exact hi)
    obtain ⟨a1, a2⟩ := Kp.set (S := S) g (x := .running) ns i hi
    obtain ⟨b1, b2⟩ := k1 i a2
    have c2 : Stk (s₁.setGen g e₁.genState) i := by
      obtain ⟨l', c', p', fs', cl', e'⟩ := b2
      exact ⟨l', c', p', fs', cl', by rw [get_set, if_neg ne]; exact e'⟩
    obtain ⟨d1, d2⟩ := k2 i c2
    refine ⟨?_, d2⟩
    rw [d1, get_set, if_neg ne, b1, a1]
  | @resumeSuspended Γ p g rr l k s k₀ l₀ c₀ p₀ fs cl e₁ s₁ e s' hg hrun hq _ ih1 ih2 =>
    intro o S r
    obtain ⟨x, hx, _, hp⟩ := Gp.look r hg
    have nk : k₀ ≠ stuckK := fun z => by subst z; exact no_unsup hrun "" rfl
    have ns : ¬ Stk s g := fun ⟨_, _, _, _, _, z⟩ => by rw [hg] at z; cases z; exact nk rfl
    have hh : x = .suspended k₀ l₀ c₀ p₀ fs cl ∧ okFs fs := by
      cases hp with
      | eq hx => exact ⟨rfl, hx⟩
      | stk => exact absurd rfl nk
    obtain ⟨rfl, ofs⟩ := hh
    obtain ⟨S1, r1, h1, o1, k1⟩ := ih1 ofs _ (r.set g (x := .running) trivial)
    obtain ⟨S2, r2, h2, o2, k2⟩ := ih2 o _ (r1.set g (okE_gen o1))
    refine ⟨S2, r2, .resumeSuspended hx h1 hq h2, o2, fun i hi => ?_⟩
    have ne : g ≠ i := fun z => ns (by rw [z]; exact hi)
    obtain ⟨a1, a2⟩ := Kp.set (S := S) g (x := .running) ns i hi
    obtain ⟨b1, b2⟩ := k1 i a2
    have c2 : Stk (s₁.setGen g e₁.genState) i := by
      obtain ⟨l', c', p', fs', cl', e'⟩ := b2
      exact ⟨l', c', p', fs', cl', by rw [get_set, if_neg ne]; exact e'⟩
    obtain ⟨d1, d2⟩ := k2 i c2
    refine ⟨?_, d2⟩
    rw [d1, get_set, if_neg ne, b1, a1]
  | resumeJustStarted hg hv _ ih =>
    intro o S r
    obtain ⟨x, hx, _, hp⟩ := Gp.look r hg
    obtain ⟨S', r', h', o', k'⟩ := ih o S r
    cases hp with
    | eq _ => exact ⟨S', r', .resumeJustStarted hx hv h', o', k'⟩
  | resumeThrowFresh hg _ ih =>
    intro o S r
    obtain ⟨x, hx, _, hp⟩ := Gp.look r hg
    have ns := stk_fresh hg
    obtain ⟨S', r', h', o', k'⟩ := ih o _ (r.set _ (x := .finished) trivial)
    cases hp with
    | eq _ => exact ⟨S', r', .resumeThrowFresh hx h', o', (Kp.set _ ns).trans k'⟩
  | resumeRunning hg _ ih =>
    intro o S r
    obtain ⟨x, hx, _, hp⟩ := Gp.look r hg
    obtain ⟨S', r', h', o', k'⟩ := ih o S r
    cases hp with
    | eq _ => exact ⟨S', r', .resumeRunning hx h', o', k'⟩
  | resumeFinished hg _ ih =>
    intro o S r
    obtain ⟨x, hx, _, hp⟩ := Gp.look r hg
    obtain ⟨S', r', h', o', k'⟩ := ih o S r
    cases hp with
    | eq _ => exact ⟨S', r', .resumeFinished hx h', o', k'⟩
  | segRet _ _ ih1 ih2 =>
    intro o S r
    obtain ⟨S1, r1, h1, o1, k1⟩ := ih1 rfl S r
    obtain ⟨S2, r2, h2, o2, k2⟩ := ih2 (okFs_ret.mp o) S1 r1
    exact ⟨S2, r2, .segRet h1 h2, o2, k1.trans k2⟩
  | segGen => intro o; simp [okFs, splitAtGen] at o
  | segSuspOut hs _ ih =>
    intro o S r
    obtain ⟨S1, r1, h1, o1, k1⟩ := ih rfl S r
    exact ⟨S1, r1, .segSuspOut hs h1, okFs_app o1 o, k1⟩
  | segSuspGen hs => intro o; rw [okFs, hs] at o; cases o
end Tg

set_option Elab.async false
set_option linter.all false
set_option maxRecDepth 100000
set_option maxHeartbeats 4000000
namespace Tg
open PySem PyProof.Rows
open Sem (wp)
theorem wakes_frame {M : Model} {Γ : Ctx} {p : Pos} {g : Nat} {r : Resume} {T T' : Shared} {res : GenResult} (h : Wakes M Γ p g r T res T') : ∀ S, Rl S T → ∃ S', Rl S' T' ∧ Wakes M Γ p g r S res S' ∧ Kp S T S' T' := by
  intro S rl
  unfold Wakes at h
  split at h
  · exact h.elim
  · rename_i c hg
    obtain ⟨x, hx, _, hp⟩ := Gp.look rl hg
    have ex : x = .fresh c := by cases hp; rfl
    subst ex
    have ns := stk_fresh hg
    split at h
    · obtain ⟨e₁, s₁, hr, hq, rfl, rfl⟩ := h
      obtain ⟨S1, r1, h1, o1, k1⟩ := runs_frame hr rfl _ (rl.set g (x := .running) trivial)
      refine ⟨S1.setGen g e₁.genState, r1.set g (okE_gen o1), ?_, fun i hi => ?_⟩
      · unfold Wakes
        rw [hx]
        exact ⟨e₁, S1, h1, hq, rfl, rfl⟩
      · have ne : g ≠ i := fun z => ns (by rw [z]; exact hi)
        obtain ⟨a1, a2⟩ := Kp.set (S := S) g (x := .running) ns i hi
        obtain ⟨b1, b2⟩ := k1 i a2
        obtain ⟨l', c', p', fs', cl', e'⟩ := b2
        exact ⟨by rw [get_set, if_neg ne, b1, a1], l', c', p', fs', cl', by rw [get_set, if_neg ne]; exact e'⟩
    · obtain ⟨rfl, rfl⟩ := h
      refine ⟨S, rl, ?_, Kp.refl _ _⟩
      rename_i v hv
      unfold Wakes
      rw [hx]
      cases v <;> first | exact ⟨rfl, rfl⟩ | exact absurd rfl hv
    · obtain ⟨rfl, rfl⟩ := h
      refine ⟨S.setGen g .finished, rl.set g trivial, ?_, Kp.set g ns⟩
      unfold Wakes
      rw [hx]
      exact ⟨rfl, rfl⟩
  · rename_i k₀ l₀ c₀ p₀ fs cl hg
    obtain ⟨x, hx, _, hp⟩ := Gp.look rl hg
    obtain ⟨e₁, s₁, hr, hq, rfl, rfl⟩ := h
    have nk : k₀ ≠ stuckK := fun z => by subst z; exact no_unsup hr "" rfl
    have ns : ¬ Stk T g := fun ⟨_, _, _, _, _, z⟩ => by rw [hg] at z; cases z; exact nk rfl
    have hh : x = .suspended k₀ l₀ c₀ p₀ fs cl ∧ okFs fs := by
      cases hp with
      | eq hx => exact ⟨rfl, hx⟩
      | stk => exact absurd rfl nk
    obtain ⟨rfl, ofs⟩ := hh
    obtain ⟨S1, r1, h1, o1, k1⟩ := runs_frame hr ofs _ (rl.set g (x := .running) trivial)
    refine ⟨S1.setGen g e₁.genState, r1.set g (okE_gen o1), ?_, fun i hi => ?_⟩
    · unfold Wakes
      rw [hx]
      exact ⟨e₁, S1, h1, hq, rfl, rfl⟩
    · have ne : g ≠ i := fun z => ns (by rw [z]; exact hi)
      obtain ⟨a1, a2⟩ := Kp.set (S := S) g (x := .running) ns i hi
      obtain ⟨b1, b2⟩ := k1 i a2
      obtain ⟨l', c', p', fs', cl', e'⟩ := b2
      exact ⟨by rw [get_set, if_neg ne, b1, a1], l', c', p', fs', cl', by rw [get_set, if_neg ne]; exact e'⟩
  · rename_i hg
    obtain ⟨x, hx, _, hp⟩ := Gp.look rl hg
    obtain ⟨rfl, rfl⟩ := h
    refine ⟨S, rl, ?_, Kp.refl _ _⟩
    cases hp
    unfold Wakes
    rw [hx]
    exact ⟨rfl, rfl⟩
  · rename_i hg
    obtain ⟨x, hx, _, hp⟩ := Gp.look rl hg
    obtain ⟨rfl, rfl⟩ := h
    refine ⟨S, rl, ?_, Kp.refl _ _⟩
    cases hp
    unfold Wakes
    rw [hx]
    exact ⟨rfl, rfl⟩
/-- the same step, the sleeping ones as they are -/
def Fm {β : Type} (S0 T0 : Shared) (Q : β → Pos → Shared → Prop) : β → Pos → Shared → Prop := fun a p S' => ∃ T', Rl S' T' ∧ Kp S0 T0 S' T' ∧ Q a p T'
theorem wp_frame {α : Type} (M : Model) (Γ : Ctx) (S0 T0 : Shared) (t : Sem α) : ∀ (Q : α → Pos → Shared → Prop) (E : Value → Pos → Shared → Prop) (p : Pos) (S T : Shared), Rl S T → Kp S0 T0 S T → wp M Γ t Q E p T → wp M Γ t (Fm S0 T0 Q) (Fm S0 T0 E) p S := by
  induction t with
  | pure a => intro Q E p S T r k h; exact ⟨T, r, k, h⟩
  | raise e => intro Q E p S T r k h; exact ⟨T, r, k, h⟩
  | unsupported _ => intro Q E p S T _ _ h; exact h
  | finish _ => intro Q E p S T _ _ h; exact h
  | rule _ kk ih => intro Q E p S T r k h; exact ih () Q E p S T r k h
  | «at» p' kk ih => intro Q E p S T r k h; exact ih () Q E p' S T r k h
  | load a _ kk ih => intro Q E p S T r k h; obtain ⟨o, ho, h⟩ := h; exact ⟨o, by rw [r.heap]; exact ho, ih o Q E p S T r k h⟩
  | update a _ f kk ih =>
    intro Q E p S T r k h
    exact ⟨by rw [r.heap]; exact h.1, ih () Q E p { S with heap := S.heap.update a f } { T with heap := T.heap.update a f } ⟨by show S.heap.update a f = T.heap.update a f; rw [r.heap], r.drawn, r.toks, r.os, r.size, r.at_⟩ k h.2⟩
  | loadIfAlive a kk ih =>
    intro Q E p S T r k h
    have := ih (T.heap.get? a) Q E p S T r k h
    show wp M Γ (kk (S.heap.get? a)) _ _ p S
    rw [r.heap]; exact this
  | point _ kk ih => intro Q E p S T r k h; exact ih () Q E p S T r k h
  | register _ _ => intro Q E p S T _ _ h; exact h
  | alloc o kk ih =>
    intro Q E p S T r k h
    have := ih T.heap.objs.size Q E p { S with heap := S.heap.push o } { T with heap := T.heap.push o } ⟨by show S.heap.push o = T.heap.push o; rw [r.heap], r.drawn, r.toks, r.os, r.size, r.at_⟩ k h
    show wp M Γ (kk S.heap.objs.size) _ _ p { S with heap := S.heap.push o }
    rw [show kk S.heap.objs.size = kk T.heap.objs.size by rw [r.heap]]
    exact this
  | fresh kk ih =>
    intro Q E p S T r k h
    have := ih T.toks Q E p { S with toks := S.toks + 1 } { T with toks := T.toks + 1 } ⟨r.heap, r.drawn, by show S.toks + 1 = T.toks + 1; rw [r.toks], r.os, r.size, r.at_⟩ k h
    show wp M Γ (kk S.toks) _ _ p { S with toks := S.toks + 1 }
    rw [show kk S.toks = kk T.toks by rw [r.toks]]
    exact this
  | ask kk ih => intro Q E p S T r k h; exact ih _ Q E p S T r k h
  | choose src m kk ih =>
    intro Q E p S T r k h
    have := ih (M.w.draws src (T.drawn.get src) % m) Q E p { S with drawn := S.drawn.bump src } { T with drawn := T.drawn.bump src } ⟨r.heap, by show S.drawn.bump src = T.drawn.bump src; rw [r.drawn], r.toks, r.os, r.size, r.at_⟩ k h.2
    refine ⟨h.1, ?_⟩
    show wp M Γ (kk (M.w.draws src (S.drawn.get src) % m)) _ _ p _
    rw [show kk (M.w.draws src (S.drawn.get src) % m) = kk (M.w.draws src (T.drawn.get src) % m) by rw [r.drawn]]
    exact this
  | os q _ kk ih =>
    intro Q E p S T r k h
    have := ih (Os.step T.os q).2 Q E p { S with os := (Os.step S.os q).1 } { T with os := (Os.step T.os q).1 } ⟨r.heap, r.drawn, r.toks, by show (Os.step S.os q).1 = (Os.step T.os q).1; rw [r.os], r.size, r.at_⟩ k h
    show wp M Γ (kk (Os.step S.os q).2) _ _ p _
    rw [show kk (Os.step S.os q).2 = kk (Os.step T.os q).2 by rw [r.os]]
    exact this
  | call c hd _ _ kk ih =>
    intro Q E p S T r k h
    obtain ⟨res, T1, hr, h⟩ := h
    obtain ⟨S1, r1, h1, _, k1⟩ := runs_frame hr rfl S r
    exact ⟨res, S1, h1, ih res Q E p S1 T1 r1 (k.trans k1) h⟩
  | handled own kk ih => intro Q E p S T r k h; exact ih _ Q E p S T r k h
  | genState g kk ih =>
    intro Q E p S T r k h
    obtain ⟨st, hs, h⟩ := h
    obtain ⟨x, hx, he, _⟩ := Gp.look r hs
    exact ⟨x, hx, by rw [he]; exact ih _ Q E p S T r k h⟩
  | newGen c kk ih =>
    intro Q E p S T r k h
    have := ih T.gens.size Q E p { S with gens := S.gens.push (.fresh c) } { T with gens := T.gens.push (.fresh c) } ⟨r.heap, r.drawn, r.toks, r.os, by show (S.gens.push _).size = (T.gens.push _).size; rw [Array.size_push, Array.size_push, r.size], fun i => by
      show Gp (S.gens.push _)[i]? (T.gens.push _)[i]?
      rw [Array.getElem?_push, Array.getElem?_push, r.size]
      split
      · exact .eq trivial
      · exact r.at_ i⟩ (k.trans fun i hi => by
        obtain ⟨l, cc, pp, ff, cl, ei⟩ := hi
        have hlt : i < T.gens.size := (Array.getElem?_eq_some_iff.mp ei).1
        refine ⟨?_, l, cc, pp, ff, cl, by show (T.gens.push _)[i]? = _; rw [Array.getElem?_push, if_neg (by omega)]; exact ei⟩
        show (S.gens.push _)[i]? = _
        rw [Array.getElem?_push, if_neg (by rw [r.size]; omega)]) h
    show wp M Γ (kk S.gens.size) _ _ p _
    rw [show kk S.gens.size = kk T.gens.size by rw [r.size]]
    exact this
  | resume g rr _ kk ih =>
    intro Q E p S T r k h
    obtain ⟨res, T1, hw, h⟩ := h
    obtain ⟨S1, r1, h1, k1⟩ := wakes_frame hw S r
    exact ⟨res, S1, h1, ih res Q E p S1 T1 r1 (k.trans k1) h⟩
  | yield _ _ _ _ => intro Q E p S T _ _ h; exact h
  | stack kk ih => intro Q E p S T r k h; exact ih _ Q E p S T r k h
  | fork _ _ => intro Q E p S T _ _ h; exact h
  | thread kk ih => intro Q E p S T r k h; exact ih _ Q E p S T r k h
  | await _ _ _ _ _ => intro Q E p S T _ _ h; exact h
/-- all that sleep, put so that they cannot be woken -/
def killG : GenState → GenState
  | .suspended _ l c p fs cl => .suspended stuckK l c p fs cl
  | x => x
def killS (s : Shared) : Shared := { s with gens := s.gens.map killG }
theorem rl_kill (s : Shared) : Rl s (killS s) where
  heap := rfl
  drawn := rfl
  toks := rfl
  os := rfl
  size := by show _ = (s.gens.map killG).size; simp
  at_ := fun i => by
    show Gp s.gens[i]? (s.gens.map killG)[i]?
    rw [Array.getElem?_map]
    cases h : s.gens[i]? with
    | none => exact .non
    | some x => cases x <;> first | exact .stk | exact .eq trivial
theorem bare_rl {S T : Shared} (r : Rl S T) (h : AllBare T.gens) : AllBare S.gens := fun y hy => by
  obtain ⟨i, hi, e⟩ := Array.mem_iff_getElem.mp hy
  have q := r.at_ i
  rw [Array.getElem?_eq_getElem hi, e] at q
  cases ht : T.gens[i]? with
  | none => rw [ht] at q; cases q
  | some x =>
    rw [ht] at q
    have b := h x (Array.mem_of_getElem? ht)
    cases q with
    | eq _ => exact b
    | stk => exact b
theorem bare_kill {s : Shared} (h : AllBare s.gens) : AllBare (killS s).gens := fun y hy => by
  obtain ⟨i, hi, e⟩ := Array.mem_iff_getElem.mp hy
  have hi' : i < s.gens.size := by simpa [killS] using hi
  have e2 : (killS s).gens[i]? = some (killG s.gens[i]) := by
    show (s.gens.map killG)[i]? = _
    rw [Array.getElem?_map, Array.getElem?_eq_getElem hi']
    rfl
  rw [Array.getElem?_eq_getElem hi, e] at e2
  have e3 := Option.some.inj e2
  have b := h _ (Array.getElem_mem hi')
  rw [e3]
  revert b
  cases s.gens[i] <;> exact id
def isSusp : GenState → Bool
  | .suspended .. => true
  | _ => false
/-- what is done without waking a sleeping generator leaves it as it is -/
theorem wpAny_keep {α : Type} {M : Model} {A : Around} {t : Sem α} {Q : α → Shared → Prop} {E : Value → Shared → Prop} {s : Shared} (h : wpAny M A t Q (fun _ _ => False) (killS s)) :
    wpAny M A t (fun a s' => (∀ (g : Nat) (x : GenState), s.gens[g]? = some x → isSusp x = true → s'.gens[g]? = some x) ∧ ∃ T', Q a T' ∧ s'.heap = T'.heap ∧ s'.os = T'.os ∧ (AllBare T'.gens → AllBare s'.gens)) E s := by
  intro Γ p hΓ
  have := wp_frame M Γ s (killS s) t _ _ p s (killS s) (rl_kill s) (Kp.refl _ _) (h Γ p hΓ)
  refine Sem.wp_mono M Γ t ?_ ?_ p s this
  · rintro a p' s' ⟨T', r, k, q⟩
    refine ⟨fun g x hx hs => ?_, T', q, r.heap, r.os, bare_rl r⟩
    rw [(k g ?_).1]
    · exact hx
    · cases x with
      | suspended k l c p fs cl =>
        refine ⟨l, c, p, fs, cl, ?_⟩
        show (s.gens.map killG)[g]? = _
        rw [Array.getElem?_map, hx]
        rfl
      | _ => cases hs
  · rintro e p' s' ⟨T', _, _, q⟩
    exact q.elim
end Tg

set_option Elab.async false
set_option linter.all false
set_option maxRecDepth 100000
set_option maxHeartbeats 4000000
namespace Tg
open PySem PySem.Spec PyProof.Rows L2 Td GenW
open Sem (wp)
/-! ### a run up to the next stop -/
def SegW (M : Model) (A : Around) (Φ : End → Shared → Prop) (c : Code) (t : Sem PySem.Fin) (fs : List Frame) (s : Shared) : Prop :=
  ∀ Γ p, Γ.code = c → Γ.Woken A → ∃ e s', Runs M Γ p t fs s e s' ∧ Φ e s'
section
variable {M : Model} {A : Around} {Φ : End → Shared → Prop} {c : Code} {fs : List Frame} {s : Shared}
theorem segw_wrap {α : Type} {m : Sem α} {K : α → Sem PySem.Fin} {H : Value → Sem PySem.Fin} {gd : Bool → Bool} {lv : List Value → List Value}
    (h : wpAny M (A.over c fs) m (fun a s' => SegW M A Φ c (K a) fs s') (fun x s' => SegW M A Φ c (H x) fs s') s) : SegW M A Φ c (m.wrap K H gd lv) fs s := by
  rintro Γ p rfl hΓ
  exact runs_wrap_of_wp K H gd lv m (h (Γ.over fs) p (hΓ.over fs)) (fun a p' s' h' => h' Γ p' rfl hΓ) (fun x p' s' h' => h' Γ p' rfl hΓ)
theorem segw_at {p' : Pos} {k : Unit → Sem PySem.Fin} (h : SegW M A Φ c (k ()) fs s) : SegW M A Φ c (.at p' k) fs s :=
  segw_wrap (m := standAt p') (K := k) (H := .raise) (gd := id) (lv := id) (wpAny_standAt h)
theorem segw_point {l : List Value} {k : Unit → Sem PySem.Fin} (h : SegW M A Φ c (k ()) fs s) : SegW M A Φ c (.point l k) fs s :=
  segw_wrap (m := point) (K := k) (H := .raise) (gd := id) (lv := fun _ => l) (wpAny_point h)
theorem segw_call {c' : Code} {h : Option Value} {g : Bool} {l : List Value} {k : Result → Sem PySem.Fin} (hc : ∀ p, SegW M A Φ c' (M.den c') (.ret k h g l c p [] :: fs) s) : SegW M A Φ c (.call c' h g l k) fs s := by
  rintro Γ p rfl hΓ
  obtain ⟨e, s', hr, he⟩ := hc p (Γ.goto c') p rfl (hΓ.goto c')
  exact ⟨e, s', runs_call_seg hr, he⟩
theorem segw_leaf {k : Result → Sem PySem.Fin} {h : Option Value} {g : Bool} {l : List Value} {c₁ : Code} {p₁ : Pos} {kp : List Value} (r : Result) (hk : SegW M A Φ c₁ (k r) fs s) : SegW M A Φ c (leafOf r) (.ret k h g l c₁ p₁ kp :: fs) s := by
  rintro Γ p rfl hΓ
  obtain ⟨e, s', hr, he⟩ := hk (Γ.goto c₁) p₁ rfl (hΓ.goto c₁)
  exact ⟨e, s', Runs.pop r hr, he⟩
theorem segw_again {c' : Code} (hq : c'.quiet = true) (hc : SegW M A Φ c' (M.den c') fs s) : SegW M A Φ c (.pure (.again c')) fs s := by
  rintro Γ p rfl hΓ
  obtain ⟨e, s', hr, he⟩ := hc (Γ.goto c') p rfl (hΓ.goto c')
  exact ⟨e, s', Runs.head (c₁ := c') (fun _ _ x => .again hq x) hr, he⟩
theorem segw_end (r : Result) (h : Φ (.ret r) s) : SegW M A Φ c (leafOf r) [] s := by
  rintro Γ p rfl _
  exact ⟨.ret r, s, Runs.leaf r, h⟩
theorem segw_yield {v : Value} {g : Bool} {l : List Value} {k : Resume → Sem PySem.Fin} (hfs : splitAtGen fs = none) (hg : g = false) (h : ∀ p, Φ (.susp v false l k c p fs) s) : SegW M A Φ c (.yield v g l k) fs s := by
  subst hg
  rintro Γ p rfl _
  exact ⟨_, s, Runs.yield' fs hfs, h p⟩
theorem segw_mono {Ψ : End → Shared → Prop} {t : Sem PySem.Fin} (h : SegW M A Φ c t fs s) (i : ∀ e s', Φ e s' → Ψ e s') : SegW M A Ψ c t fs s := fun Γ p hc hΓ =>
  let ⟨e, s', hr, he⟩ := h Γ p hc hΓ
  ⟨e, s', hr, i e s' he⟩
end
/-! ### readings of generators -/
inductive Og where
  | nx (ρ : Ev) (w : Ws) (ys : List PyData)
  | rt (w : Ws) (ys : List PyData)
  | bk (ρ : Ev) (w : Ws) (ys : List PyData)
  | ct (ρ : Ev) (w : Ws) (ys : List PyData)
  | no
abbrev FGn := Ev → Ws → List PyData → Og
def gPl (f : FS) : FGn := fun ρ w ys => match f ρ w with
  | .nx ρ1 w1 => .nx ρ1 w1 ys
  | .rt _ w1 => .rt w1 ys
  | .bk ρ1 w1 => .bk ρ1 w1 ys
  | .ct ρ1 w1 => .ct ρ1 w1 ys
  | _ => .no
/-- lists and dicts alone -/
def plainOb : Ob → Bool
  | .lst _ => true
  | .dK _ => true
  | _ => false
def gYd (f : FE) : FGn := fun ρ w ys => match f ρ w with
  | .ok d w1 => cond (bnd 0 d && w1.all plainOb) (.nx ρ w1 (ys ++ [d])) .no
  | _ => .no
def gNil : FGn := fun ρ w ys => .nx ρ w ys
def gSq (f k : FGn) : FGn := fun ρ w ys => match f ρ w ys with
  | .nx ρ1 w1 ys1 => k ρ1 w1 ys1
  | o => o
def gWl (t : FT) (body : FGn) : Nat → FGn
  | 0 => fun _ _ _ => .no
  | n + 1 => fun ρ w ys => match t ρ w with
    | .ok b w1 => cond b (match body ρ w1 ys with
      | .nx ρ2 w2 y2 => gWl t body n ρ2 w2 y2
      | .ct ρ2 w2 y2 => gWl t body n ρ2 w2 y2
      | .bk ρ2 w2 y2 => .nx ρ2 w2 y2
      | o => o) (.nx ρ w1 ys)
    | _ => .no
def gWh (t : FT) (body : FGn) : FGn := gWl t body 1000000
/-- what is wanted behind a statement -/
structure GE where
  nx : Ev → Ws → List PyData → Prop
  rt : Ws → List PyData → Prop
  bk : Ev → Ws → List PyData → Prop
  ct : Ev → Ws → List PyData → Prop
def wish (D : GE) : Og → Prop
  | .nx ρ w ys => D.nx ρ w ys
  | .rt w ys => D.rt w ys
  | .bk ρ w ys => D.bk ρ w ys
  | .ct ρ w ys => D.ct ρ w ys
  | .no => False
/-- what is out stands at the head of L -/
structure Pre (L : List PyData) (D : GE) : Prop where
  nx : ∀ ρ w ys, D.nx ρ w ys → ys <+: L
  bk : ∀ ρ w ys, D.bk ρ w ys → ys <+: L
  ct : ∀ ρ w ys, D.ct ρ w ys → ys <+: L
  rt : ∀ w ys, D.rt w ys → ys <+: L
/-- nothing that is out is taken back -/
def appO (ys : List PyData) : Og → Prop
  | .nx _ _ y => ys <+: y
  | .rt _ y => ys <+: y
  | .bk _ _ y => ys <+: y
  | .ct _ _ y => ys <+: y
  | .no => True
def App (f : FGn) : Prop := ∀ ρ w ys, appO ys (f ρ w ys)
theorem appO.trans {ys zs : List PyData} (h : ys <+: zs) : ∀ {o : Og}, appO zs o → appO ys o
  | .nx _ _ _, q => h.trans q
  | .rt _ _, q => h.trans q
  | .bk _ _ _, q => h.trans q
  | .ct _ _ _, q => h.trans q
  | .no, q => q
theorem App.pre {f : FGn} (a : App f) {L : List PyData} {D : GE} (p : Pre L D) {ρ : Ev} {w : Ws} {ys : List PyData} (h : wish D (f ρ w ys)) : ys <+: L := by
  have q := a ρ w ys
  cases e : f ρ w ys with
  | nx ρ1 w1 y => rw [e] at h q; exact List.IsPrefix.trans q (p.nx _ _ _ h)
  | rt w1 y => rw [e] at h q; exact List.IsPrefix.trans q (p.rt _ _ h)
  | bk ρ1 w1 y => rw [e] at h q; exact List.IsPrefix.trans q (p.bk _ _ _ h)
  | ct ρ1 w1 y => rw [e] at h q; exact List.IsPrefix.trans q (p.ct _ _ _ h)
  | no => rw [e] at h; exact h.elim
theorem app_pl (f : FS) : App (gPl f) := fun ρ w ys => by
  unfold gPl
  cases f ρ w <;> first | exact List.prefix_rfl | trivial
theorem app_yd (f : FE) : App (gYd f) := fun ρ w ys => by
  unfold gYd
  cases f ρ w with
  | ok d w1 =>
    simp only
    cases bnd 0 d && w1.all plainOb with
    | true => exact List.prefix_append _ _
    | false => trivial
  | _ => trivial
theorem app_nil : App gNil := fun ρ w ys => List.prefix_rfl
theorem app_sq {f k : FGn} (a : App f) (b : App k) : App (gSq f k) := fun ρ w ys => by
  unfold gSq
  have q := a ρ w ys
  cases e : f ρ w ys with
  | nx ρ1 w1 y => rw [e] at q; exact appO.trans q (b _ _ _)
  | rt w1 y => rw [e] at q; exact q
  | bk ρ1 w1 y => rw [e] at q; exact q
  | ct ρ1 w1 y => rw [e] at q; exact q
  | no => trivial
theorem app_wl {t : FT} {body : FGn} (b : App body) : ∀ n, App (gWl t body n)
  | 0 => fun _ _ _ => trivial
  | n + 1 => fun ρ w ys => by
    unfold gWl
    cases t ρ w with
    | ok v w1 =>
      cases v with
      | true =>
        have q := b ρ w1 ys
        simp only [cond_true]
        cases e : body ρ w1 ys with
        | nx ρ1 w1 y => rw [e] at q; exact appO.trans q (app_wl b n _ _ _)
        | rt w1 y => rw [e] at q; exact q
        | bk ρ1 w1 y => rw [e] at q; exact q
        | ct ρ1 w1 y => rw [e] at q; exact appO.trans q (app_wl b n _ _ _)
        | no => trivial
      | false => exact List.prefix_rfl
    | _ => trivial
/-! ### the generator's frame -/
structure GCx where
  P : Program
  w : World
  K : PySem.W.Frag
  mg : Str → Option Value
  base : Heap
  N : List Str
  qual : Str
  scope : Scope
  f : Addr
  cd : Value
  outer : List Env
  A : Around
  n0 : Nat
  pn : List (Addr × Obj)
def GCx.env (c : GCx) : Env := envOfC c.qual c.scope c.n0 c.f c.cd
def GCx.X (c : GCx) (s : Shared) (H : Hp) (q : List (Addr × Obj)) : Cx where
  prog := c.P
  w := c.w
  K := c.K
  mg := c.mg
  base := c.base
  A := c.A.deeper c.env
  N := c.N
  s_0 := s
  H_0 := H
  env := c.env
  outer := c.outer
  stack := c.env :: c.outer
  ex := []
  fn := fun _ => true
  calm := true
  pn := c.pn ++ q
  xe := fun _ _ => False
/-- where a stretch between two stops began -/
structure Sg where
  s : Shared
  H : Hp
  g : Gd
  pn : List (Addr × Obj)
structure Gs (c : GCx) (ip : List (Addr × Obj)) (b : Sg) (g : Gd) (ρ : Ev) (w : Ws) (σ : L2.St) (H : Hp) (s : Shared) : Prop where
  inv : Inv (c.X b.s b.H b.pn) ip σ H s
  rp : Rp g H w
  en : EnR g σ ρ
  k : g.K = c.K
  x : Xt b.g g
  lo : ∀ p ∈ c.pn ++ ip, c.n0 ≤ p.1 ∧ ∀ q ∈ b.pn, q.1 ≠ p.1
abbrev PhT := List PyData → Sg → End → Shared → Prop
def Yields (c : GCx) (L : List PyData) (Ph : PhT) : Prop :=
  ∀ (ys : List PyData) (b : Sg) (ip : List (Addr × Obj)) (g : Gd) (ρ : Ev) (w : Ws) (σ : L2.St) (H : Hp) (s : Shared) (d : PyData) (x : V) (v : Value) (l : List Value) (k : Resume → Sem PySem.Fin) (code : Code) (p : Pos) (fs : List Frame),
    Gs c ip b g ρ w σ H s → RelV x v → Dq g x d → bnd 0 d = true → w.all plainOb = true → ys ++ [d] <+: L → splitAtGen fs = none → fs.any Frame.guarded = false →
    (∀ b' g' H' s', Gs c ip b' g' ρ w σ H' s' → SegW (model c.P c.w) c.A (Ph (ys ++ [d]) b') code (k (.send .none)) fs s') → Ph ys b (.susp v false l k code p fs) s
structure GC (c : GCx) (code : Code) (fs : List Frame) (gd : Bool → Bool) : Prop where
  over : c.A.over code fs = c.A.deeper c.env
  split : splitAtGen fs = none
  guard : fs.any Frame.guarded = false
  gd : gd false = false
def GP (c : GCx) (ip : List (Addr × Obj)) (D : GE) (ys : List PyData) (b : Sg) (s : Shared) : Flow → Prop
  | .next => ∃ g ρ w σ H, Gs c ip b g ρ w σ H s ∧ D.nx ρ w ys
  | .brk => ∃ g ρ w σ H, Gs c ip b g ρ w σ H s ∧ D.bk ρ w ys
  | .cont => ∃ g ρ w σ H, Gs c ip b g ρ w σ H s ∧ D.ct ρ w ys
  | .ret _ => ∃ g ρ w σ H, Gs c ip b g ρ w σ H s ∧ D.rt w ys
def GK (c : GCx) (Ph : PhT) (ip : List (Addr × Obj)) (code : Code) (fs : List Frame) (K : Flow → Sem PySem.Fin) (D : GE) : Prop :=
  ∀ (ys : List PyData) (b : Sg) (s : Shared) (f : Flow), GP c ip D ys b s f → SegW (model c.P c.w) c.A (Ph ys b) code (K f) fs s
def GRun (c : GCx) (t : (Flow → Sem PySem.Fin) → (Value → Sem PySem.Fin) → (Bool → Bool) → (List Value → List Value) → Sem PySem.Fin) (f : FGn) : Prop :=
  ∀ (L : List PyData) (Ph : PhT), Yields c L Ph → ∀ (ip : List (Addr × Obj)) (code : Code) (fs : List Frame) (K : Flow → Sem PySem.Fin) (J : Value → Sem PySem.Fin) (gd : Bool → Bool) (lv : List Value → List Value) (D : GE) (ys : List PyData) (b : Sg) (g : Gd) (ρ : Ev) (w : Ws) (σ : L2.St) (H : Hp) (s : Shared),
    GC c code fs gd → Pre L D → GK c Ph ip code fs K D → Gs c ip b g ρ w σ H s → wish D (f ρ w ys) → SegW (model c.P c.w) c.A (Ph ys b) code (t K J gd lv) fs s
def GJ (c : GCx) (st : Stmt) (f : FGn) : Prop := GRun c (fun K J gd lv => (exec st c.env).wrap K J gd lv) f
def GJs (c : GCx) (st : List Stmt) (f : FGn) : Prop := GRun c (fun K J gd lv => (execs st c.env).wrap K J gd lv) f
variable {c : GCx}
/-- a statement without yield -/
theorem gj_pl {st : Stmt} {f : FS} (h : ∀ s H q, PSf (c.X s H q) W0 st f) : GJ c st (gPl f) := by
  intro L Ph hY ip code fs K J gd lv D ys b g ρ w σ H s gc pre gk st' hw
  refine segw_wrap ?_
  rw [gc.over]
  have hK : g.K = (c.X b.s b.H b.pn).K := st'.k
  have key := (h b.s b.H b.pn).run ip s σ H { nx := fun σ' H' => ∃ g' ρ' w', Xt g g' ∧ Rp g' H' w' ∧ EnR g' σ' ρ' ∧ D.nx ρ' w' ys, rt := fun _ H' => ∃ g' w', Xt g g' ∧ Rp g' H' w' ∧ D.rt w' ys, bk := fun σ' H' => ∃ g' ρ' w', Xt g g' ∧ Rp g' H' w' ∧ EnR g' σ' ρ' ∧ D.bk ρ' w' ys, ct := fun σ' H' => ∃ g' ρ' w', Xt g g' ∧ Rp g' H' w' ∧ EnR g' σ' ρ' ∧ D.ct ρ' w' ys } st'.inv
    ⟨g, ρ, w, hK, st'.rp, st'.en, by
      unfold gPl at hw
      cases e : f ρ w with
      | nx ρ1 w1 => rw [e] at hw; exact fun σ' H' g' x r e' => ⟨g', ρ1, w1, x, r, e', hw⟩
      | rt d w1 => rw [e] at hw; exact fun v H' g' x r _ => ⟨g', w1, x, r, hw⟩
      | bk ρ1 w1 => rw [e] at hw; exact fun σ' H' g' x r e' => ⟨g', ρ1, w1, x, r, e', hw⟩
      | ct ρ1 w1 => rw [e] at hw; exact fun σ' H' g' x r e' => ⟨g', ρ1, w1, x, r, e', hw⟩
      | ex ρ1 c0 f0 w1 => rw [e] at hw; exact hw.elim
      | no => rw [e] at hw; exact hw.elim⟩
  refine wpAny_mono key (fun fl s' hs => gk ys b s' fl ?_) fun x s' hx => hx.elim
  cases fl with
  | next => obtain ⟨σ', H', I', g', ρ', w', x', r', e', q⟩ := hs; exact ⟨g', ρ', w', σ', H', ⟨I', r', e', x'.k.trans st'.k, st'.x.trans x', st'.lo⟩, q⟩
  | brk => obtain ⟨σ', H', I', g', ρ', w', x', r', e', q⟩ := hs; exact ⟨g', ρ', w', σ', H', ⟨I', r', e', x'.k.trans st'.k, st'.x.trans x', st'.lo⟩, q⟩
  | cont => obtain ⟨σ', H', I', g', ρ', w', x', r', e', q⟩ := hs; exact ⟨g', ρ', w', σ', H', ⟨I', r', e', x'.k.trans st'.k, st'.x.trans x', st'.lo⟩, q⟩
  | ret u =>
    obtain ⟨v, σ', H', I', rv, g', w', x', r', q⟩ := hs
    refine ⟨g', List.replicate σ'.length none, w', σ', H', ⟨I', r', ⟨by simp, fun i d e => ?_⟩, x'.k.trans st'.k, st'.x.trans x', st'.lo⟩, q⟩
    rw [List.getElem?_replicate] at e
    split at e <;> cases e
theorem gjs_nil : GJs c [] gNil := by
  intro L Ph hY ip code fs K J gd lv D ys b g ρ w σ H s gc pre gk st' hw
  exact gk ys b s .next ⟨g, ρ, w, σ, H, st', hw⟩
theorem gjs_cons {st : Stmt} {rest : List Stmt} {f k : FGn} (h1 : GJ c st f) (h2 : GJs c rest k) (hk : App k) : GJs c (st :: rest) (gSq f k) := by
  intro L Ph hY ip code fs K J gd lv D ys b g ρ w σ H s gc pre gk st' hw
  show SegW _ _ _ _ ((execs (st :: rest) c.env).wrap K J gd lv) fs s
  rw [execs_cons_wrap]
  refine h1 L Ph hY ip code fs _ J gd lv { D with nx := fun ρ w ys => wish D (k ρ w ys) } ys b g ρ w σ H s gc ⟨fun ρ w ys q => hk.pre pre q, pre.bk, pre.ct, pre.rt⟩ (fun ys' b' s' fl hs => ?_) st' ?_
  · cases fl with
    | next =>
      obtain ⟨g', ρ', w', σ', H', q1, q2⟩ := hs
      exact h2 L Ph hY ip code fs K J gd lv D ys' b' g' ρ' w' σ' H' s' gc pre gk q1 q2
    | brk => exact gk ys' b' s' .brk hs
    | cont => exact gk ys' b' s' .cont hs
    | ret u => exact gk ys' b' s' (.ret u) hs
  · unfold gSq at hw
    cases e : f ρ w ys with
    | nx ρ1 w1 ys1 => rw [e] at hw; exact hw
    | rt w1 ys1 => rw [e] at hw; exact hw
    | bk ρ1 w1 ys1 => rw [e] at hw; exact hw
    | ct ρ1 w1 ys1 => rw [e] at hw; exact hw
    | no => rw [e] at hw; exact hw
end Tg

set_option Elab.async false
set_option linter.all false
set_option maxRecDepth 100000
set_option maxHeartbeats 4000000
namespace Tg
open PySem PySem.Spec PyProof.Rows L2 Td GenW
open Sem (wp)
variable {c : GCx}
/-- yield e -/
theorem gj_yd {e : Expr} {yp pos : Pos} {f : FE} (h : ∀ s H q, PF (c.X s H q) W0 e f) (hco : c.env.scope.isCoroutine = false) (hi : interactive c.env = false := by rfl) : GJ c (.Expr (.Yield (some e) yp) pos) (gYd f) := by
  intro L Ph hY ip code fs K J gd lv D ys b g ρ w σ H s gc pre gk st' hw
  show SegW _ _ _ _ ((exec (.Expr (.Yield (some e) yp) pos) c.env).wrap K J gd lv) fs s
  rw [exec_Expr c.env _ pos hi rfl]
  show SegW _ _ _ _ (.at pos fun _ => ((eval e c.env >>= fun v => (standAt yp >>= fun _ => yieldOut c.env v)) >>= fun x => dropValue (.Yield (some e) yp) pos x).wrap K J gd lv) fs s
  have hy : ∀ v, yieldOut c.env v = yieldValue v := fun v => by simp only [yieldOut, hco, Bool.false_eq_true, if_false]
  simp only [hy]
  refine segw_at ?_
  rw [Sem.bind_eq_wrap', Sem.bind_eq_wrap', Sem.wrap_wrap, Sem.wrap_wrap]
  refine segw_wrap ?_
  rw [gc.over]
  have hK : g.K = (c.X b.s b.H b.pn).K := st'.k
  unfold gYd at hw
  cases ef : f ρ w with
  | ok d w1 =>
    rw [ef] at hw
    simp only at hw
    cases hb2 : bnd 0 d && w1.all plainOb with
    | false => rw [hb2] at hw; exact hw.elim
    | true =>
      rw [hb2] at hw
      have hb := ((Bool.and_eq_true _ _).mp hb2).1
      have hpl := ((Bool.and_eq_true _ _).mp hb2).2
      have hw : D.nx ρ w1 (ys ++ [d]) := hw
      have key := (h b.s b.H b.pn).run ip s σ H (fun x H' => ∃ g', Xt g g' ∧ Rp g' H' w1 ∧ Dq g' x d) st'.inv ⟨g, ρ, w, hK, st'.rp, st'.en, by
        rw [ef]
        exact fun v H' g' x r q => ⟨g', x, r, q⟩⟩
      refine wpAny_mono key (fun v s' hs => ?_) fun x s' hx => hx.elim
      obtain ⟨x, H', I', rv, g', xt, r', dq⟩ := hs
      refine segw_at (segw_yield gc.split gc.gd fun p => ?_)
      refine hY ys b ip g' ρ w1 σ H' s' d x v _ _ code p fs ⟨I', r', st'.en.mono xt.toXt0, xt.k.trans st'.k, st'.x.trans xt, st'.lo⟩ rv dq hb hpl (pre.nx _ _ _ hw) gc.split gc.guard fun b' g2 H2 s2 st2 => ?_
      exact gk (ys ++ [d]) b' s2 .next ⟨g2, ρ, w1, σ, H2, st2, hw⟩
  | ex c0 f0 w1 => rw [ef] at hw; exact hw.elim
  | no => rw [ef] at hw; exact hw.elim
/-! ### while -/
theorem gc_in {code code' : Code} {fs : List Frame} {gd : Bool → Bool} {k : Result → Sem PySem.Fin} {l kp : List Value} {p : Pos} (g : GC c code fs gd) (hw : code'.weight = 0) (hu : code'.cUnits = 0) : GC c code' (.ret k none (gd false) l code p kp :: fs) id where
  over := (over_loop hw hu).trans g.over
  split := by
    show (splitAtGen fs).map _ = none
    rw [g.split]; rfl
  guard := by
    show (gd false || fs.any Frame.guarded) = false
    rw [g.gd, g.guard]; rfl
  gd := rfl
section
variable {M : Model} {A : Around} {Φ : End → Shared → Prop} {cd : Code} {fs : List Frame} {s : Shared} {env : Env} {K : Flow → Sem PySem.Fin} {H : Value → Sem PySem.Fin} {gd : Bool → Bool} {lv : List Value → List Value}
theorem segw_While {test : Expr} {body orelse : List Stmt} {pos : Pos}
    (h : ∀ p, SegW M A Φ (.whileLoop test body orelse env) (M.den (.whileLoop test body orelse env))
      (.ret (fun r => ((match r with | .ok f => (.pure f : Sem Flow) | .error e => .raise e).onRaise fun (x : Value) => do
        if (← field x 1) == Value.none then unsupported "frame.own-activation:exception-without-traceback"
        setFlight x env.frame).wrap K H gd lv) none (gd false) (lv []) cd p [] :: fs) s) :
    SegW M A Φ cd ((exec (.While test body orelse pos) env).wrap K H gd lv) fs s :=
  segw_at (segw_call h)
theorem segw_whileLoop {prog : Program} {w : World} {test : Expr} {body : List Stmt}
    (h : wpAny (model prog w) (A.over (.whileLoop test body [] env) fs) (isTrue test env (eval test env)) (fun b s' =>
        if b = true then
          ∀ J, SegW (model prog w) A Φ (.whileLoop test body [] env) ((execs body env).wrap (fun f => match f with
            | .next | .cont => .pure (.again (.whileLoop test body [] env))
            | .brk => .pure (.done .next)
            | .ret v => .pure (.done (.ret v))) J id id) fs s'
        else SegW (model prog w) A Φ (.whileLoop test body [] env) (.pure (.done .next)) fs s')
      (fun _ _ => False) s) :
    SegW (model prog w) A Φ (.whileLoop test body [] env) ((model prog w).den (.whileLoop test body [] env)) fs s := by
  show SegW _ A Φ _ ((whileTurn test body [] env).onRaise (fun x => do noteFrame x env; theTreesLotGoes x)) fs s
  unfold whileTurn
  rw [Sem.onRaise_eq_wrap, Sem.bind_eq_wrap', Sem.wrap_wrap]
  refine segw_wrap (wpAny_mono h (fun b s' hb => ?_) fun x s' hx => hx.elim)
  cases b with
  | true =>
    rw [if_pos rfl] at hb
    show SegW _ A Φ _ (Sem.wrap _ _ _ _ (if true = true then _ else _)) fs s'
    rw [if_pos rfl, Sem.bind_eq_wrap', Sem.wrap_wrap]
    rw [Sem.wrap_congr (execs body env) _ _ (K' := fun f => match f with
          | .next | .cont => .pure (.again (.whileLoop test body [] env))
          | .brk => .pure (.done .next)
          | .ret v => .pure (.done (.ret v))) (fun f => by cases f <;> rfl) (fun e => rfl)]
    exact hb _
  | false =>
    rw [if_neg Bool.false_ne_true] at hb
    exact hb
theorem segw_func {prog : Program} {w : World} {body : List Stmt}
    (h : ∀ J, SegW (model prog w) A Φ (.func body env) ((execs body env).wrap (fun f => .pure (.done (.ret (match f with | .ret v => v | _ => .none)))) J id id) fs s) :
    SegW (model prog w) A Φ (.func body env) ((model prog w).den (.func body env)) fs s := by
  show SegW _ A Φ _ (.point [] fun _ => ((execs body env).onRaise (leaving env)) >>= _) fs s
  refine segw_point ?_
  rw [Sem.onRaise_eq_wrap, Sem.bind_eq_wrap', Sem.wrap_wrap]
  rw [Sem.wrap_congr (execs body env) _ _ (K' := fun f => .pure (.done (.ret (match f with | .ret v => v | _ => .none)))) (fun f => by cases f <;> rfl) (fun e => rfl)]
  exact h _
end
theorem gj_wh {test : Expr} {body : List Stmt} {pos : Pos} {t : FT} {f : FGn} (hc : ∀ s H q, PTf (c.X s H q) W0 test t) (hb : GJs c body f) (ha : App f) : GJ c (.While test body [] pos) (gWh t f) := by
  intro L Ph hY ip code fs K J gd lv D ys b g ρ w σ H s gc pre gk st' hw
  show SegW _ _ _ _ ((exec (.While test body [] pos) c.env).wrap K J gd lv) fs s
  refine segw_While fun p => ?_
  have gl := fun (kk : Result → Sem PySem.Fin) => gc_in (k := kk) (code' := .whileLoop test body [] c.env) (l := lv []) (kp := []) (p := p) gc rfl rfl
  have loop : ∀ (m : Nat) (ys : List PyData) (b : Sg) (g : Gd) (ρ : Ev) (w : Ws) (σ : L2.St) (H : Hp) (s : Shared), Gs c ip b g ρ w σ H s → wish D (gWl t f m ρ w ys) →
      SegW (model c.P c.w) c.A (Ph ys b) (.whileLoop test body [] c.env) ((model c.P c.w).den (.whileLoop test body [] c.env))
        (.ret (fun r => ((match r with | .ok f => (.pure f : Sem Flow) | .error e => .raise e).onRaise fun (x : Value) => do
          if (← field x 1) == Value.none then unsupported "frame.own-activation:exception-without-traceback"
          setFlight x c.env.frame).wrap K J gd lv) none (gd false) (lv []) code p [] :: fs) s := by
    intro m
    induction m with
    | zero => intro ys b g ρ w σ H s _ hw; exact hw.elim
    | succ m ih =>
      intro ys b g ρ w σ H s st hw
      refine segw_whileLoop ?_
      rw [(gl _).over]
      have hK : g.K = (c.X b.s b.H b.pn).K := st.k
      unfold gWl at hw
      cases et : t ρ w with
      | ok v w1 =>
        rw [et] at hw
        have key := (hc b.s b.H b.pn).run ip s σ H (fun v' H' => v' = v ∧ ∃ g', Xt g g' ∧ Rp g' H' w1) st.inv ⟨g, ρ, w, hK, st.rp, st.en, by
          rw [et]
          exact fun v' H' g' x r q => ⟨q, g', x, r⟩⟩
        refine wpAny_mono key (fun v' s' hs => ?_) fun x s' hx => hx.elim
        obtain ⟨H', I', rfl, g', xt, r'⟩ := hs
        have st2 : Gs c ip b g' ρ w1 σ H' s' := ⟨I', r', st.en.mono xt.toXt0, xt.k.trans st.k, st.x.trans xt, st.lo⟩
        cases v' with
        | true =>
          rw [if_pos rfl]
          intro J'
          simp only [cond_true] at hw
          refine hb L Ph hY ip _ _ _ J' id id { nx := fun ρ2 w2 y2 => wish D (gWl t f m ρ2 w2 y2), ct := fun ρ2 w2 y2 => wish D (gWl t f m ρ2 w2 y2), bk := D.nx, rt := D.rt } ys b g' ρ w1 σ H' s' (gl _) ⟨fun ρ w ys q => (app_wl ha m).pre pre q, pre.nx, fun ρ w ys q => (app_wl ha m).pre pre q, pre.rt⟩ (fun ys3 b3 s3 fl hs => ?_) st2 ?_
          · cases fl with
            | next => obtain ⟨g3, ρ3, w3, σ3, H3, q1, q2⟩ := hs; exact segw_again rfl (ih ys3 b3 g3 ρ3 w3 σ3 H3 s3 q1 q2)
            | cont => obtain ⟨g3, ρ3, w3, σ3, H3, q1, q2⟩ := hs; exact segw_again rfl (ih ys3 b3 g3 ρ3 w3 σ3 H3 s3 q1 q2)
            | brk => exact segw_leaf (.ok .next) (gk ys3 b3 s3 .next hs)
            | ret u => exact segw_leaf (.ok (.ret u)) (gk ys3 b3 s3 (.ret u) hs)
          · cases e : f ρ w1 ys with
            | nx ρ1 w2 y => rw [e] at hw; exact hw
            | rt w2 y => rw [e] at hw; exact hw
            | bk ρ1 w2 y => rw [e] at hw; exact hw
            | ct ρ1 w2 y => rw [e] at hw; exact hw
            | no => rw [e] at hw; exact hw
        | false =>
          rw [if_neg Bool.false_ne_true]
          exact segw_leaf (.ok .next) (gk ys b s' .next ⟨g', ρ, w1, σ, H', st2, hw⟩)
      | ex c0 f0 w1 => rw [et] at hw; exact hw.elim
      | no => rw [et] at hw; exact hw.elim
  exact loop 1000000 ys b g ρ w σ H s st' hw
end Tg

set_option Elab.async false
set_option linter.all false
set_option maxRecDepth 100000
set_option maxHeartbeats 4000000
namespace Tg
open PySem PySem.Spec PyProof.Rows L2 Td GenW
/-! ### what stood before the generator -/
def trunc (n : Nat) (s : Shared) : Shared := { s with heap := { s.heap with objs := s.heap.objs.extract 0 n } }
theorem trunc_size {n : Nat} {s : Shared} (h : n ≤ s.heap.objs.size) : (trunc n s).heap.objs.size = n := by
  show (s.heap.objs.extract 0 n).size = n
  simp; omega
theorem extract_get {α : Type} (xs : Array α) (n b : Nat) (h : b < n) : (xs.extract 0 n)[b]? = xs[b]? := by
  rw [Array.getElem?_extract]
  by_cases hb : b < xs.size
  · rw [if_pos (by omega)]; simp
  · rw [if_neg (by omega), Array.getElem?_eq_none (by omega)]
theorem trunc_get {n : Nat} {s : Shared} {b : Addr} (h : b < n) : (trunc n s).heap.get? b = s.heap.get? b := by
  show (match (s.heap.objs.extract 0 n)[b]? with | some ⟨_, _, .freed, _⟩ => none | o => o) = _
  rw [extract_get _ _ _ h]
  rfl
theorem trunc_some {n : Nat} {s : Shared} {b : Addr} {o : Obj} (hn : n ≤ s.heap.objs.size) (h : (trunc n s).heap.get? b = some o) : b < n ∧ s.heap.get? b = some o := by
  have hb : b < n := by have := Heap.lt_size h; rw [trunc_size hn] at this; exact this
  exact ⟨hb, by rw [← trunc_get hb]; exact h⟩
def ownA (g : Gd) : List Addr := (List.range g.n).map g.μ
theorem mem_own {g : Gd} {a : Addr} : a ∈ ownA g ↔ ∃ l, l < g.n ∧ g.μ l = a := by simp [ownA]
theorem own_cell {g : Gd} {H : Hp} {w : Ws} (r : Rp g H w) (hw : w.all plainOb = true) {a : Addr} (h : a ∈ ownA g) : g.F a = none ∧ ∃ o, H a = some o ∧ ((∃ xs, o = .lst xs) ∨ ∃ ks, o = .dK ks) := by
  obtain ⟨l, hl, rfl⟩ := mem_own.mp h
  have hl' : l < w.length := by rw [← r.len]; exact hl
  have e : w[l]? = some w[l] := List.getElem?_eq_getElem hl'
  have c := r.cell l _ e
  have p := List.all_eq_true.mp hw w[l] (List.getElem_mem hl')
  cases hq : w[l] with
  | lst ds => rw [hq] at c; obtain ⟨hn, xs, hx, _⟩ := c; exact ⟨hn, _, hx, .inl ⟨_, rfl⟩⟩
  | dK ds => rw [hq] at c; obtain ⟨hn, xs, hx, _⟩ := c; exact ⟨hn, _, hx, .inr ⟨_, rfl⟩⟩
  | ins _ _ => rw [hq] at p; cases p
  | dead => rw [hq] at p; cases p
/-- what a generator's def asks -/
structure GOk (c : GCx) : Prop where
  kind : c.scope.kind = .function
  nocell : ∀ x, c.env.kindOf x ≠ some .cell ∧ c.env.kindOf x ≠ some .free
  cells : c.env.cells = []
  hd : c.A.handled = none
  frs : ∀ b ∈ L2.frs c.outer, b < c.n0
  bsz : c.base.objs.size ≤ c.n0
/-- what a sleeping generator wants to be kept -/
def fpOf (c : GCx) (ip : List (Addr × Obj)) (g : Gd) : List Addr := c.n0 :: ((c.pn ++ ip).map (·.1) ++ ownA g)
/-- the heap that both know -/
def joinH (own : List Addr) (H Hc : Hp) : Hp := fun a => if a ∈ own then H a else Hc a
def pinC (gc : Gd) (Hc : Hp) : Hp := fun a => match gc.F a with
  | none => Hc a
  | some _ => none
def wakeG (c : GCx) (g gc : Gd) (Hc : Hp) : Gd := { K := c.K, F := gc.F, P := pinC gc Hc, μ := g.μ, n := g.n }
def wakeB (c : GCx) (g gc : Gd) (H Hc : Hp) (s : Shared) (q : List (Addr × Obj)) : Sg := ⟨trunc c.n0 s, joinH (ownA g) H Hc, wakeG c g gc Hc, q⟩
structure Wk (c : GCx) (q : List (Addr × Obj)) (fp : List Addr) (h : Heap) (g gc : Gd) (Hc : Hp) (s : Shared) : Prop where
  e0 : Env0 c.P c.w c.K c.mg c.base c.A c.outer s Hc
  sz : c.n0 ≤ s.heap.objs.size
  at_ : ∀ a ∈ fp, Hc a = none ∧ ∀ o, h.get? a = some o → s.heap.get? a = some o
  fro : ∀ a o, gc.F a = some o → Hc a = some o
  ex : ∀ a o, g.F a = some o → gc.F a = some o
  pn : ∀ p ∈ q, s.heap.get? p.1 = some p.2 ∧ Hc p.1 = none ∧ p.1 ∉ fp ∧ p.1 ∉ L2.frs c.outer ∧ ∀ v, p.2.data ≠ .cell v
theorem mid_mem {α : Type} {a b c : List α} {x : α} (h : x ∈ a ++ c) : x ∈ (a ++ b) ++ c := by
  rcases List.mem_append.mp h with h | h
  · exact List.mem_append_left _ (List.mem_append_left _ h)
  · exact List.mem_append_right _ h
theorem mid_cases {α : Type} {a b c : List α} {x : α} (h : x ∈ (a ++ b) ++ c) : x ∈ a ++ c ∨ x ∈ b := by
  rcases List.mem_append.mp h with h | h
  · rcases List.mem_append.mp h with h | h
    · exact .inl (List.mem_append_left _ h)
    · exact .inr h
  · exact .inl (List.mem_append_right _ h)
theorem funs_trunc {n : Nat} {s : Shared} {base : Heap} : ∀ {l : List Env}, (∀ b ∈ L2.frs l, b < n) → s.heap.FunFrames base l → (trunc n s).heap.FunFrames base l
  | [], _, _ => trivial
  | env :: l, hb, ⟨hk, ⟨L, o, hf, hn, ho, hd⟩, hr⟩ => by
    have e : L2.frs (env :: l) = L :: L2.frs l := by unfold L2.frs; rw [List.filterMap_cons, hf]
    rw [e] at hb
    exact ⟨hk, ⟨L, o, hf, hn, by rw [trunc_get (hb L List.mem_cons_self)]; exact ho, hd⟩, funs_trunc (fun b h => hb b (List.mem_cons_of_mem _ h)) hr⟩
theorem wake_ok {c : GCx} (ok : GOk c) {ip : List (Addr × Obj)} {b : Sg} {g : Gd} {ρ : Ev} {w : Ws} {σ : L2.St} {H : Hp} {s : Shared} (G : Gs c ip b g ρ w σ H s) (hw : w.all plainOb = true) {gc : Gd} {Hc : Hp} {s2 : Shared} {q : List (Addr × Obj)}
    (W : Wk c q (fpOf c ip g) s.heap g gc Hc s2) : Gs c ip (wakeB c g gc H Hc s2 q) (wakeG c g gc Hc) ρ w σ (joinH (ownA g) H Hc) s2 := by
  have inOwn : ∀ {a}, a ∈ ownA g → a ∈ fpOf c ip g := fun h => List.mem_cons_of_mem _ (List.mem_append_right _ h)
  have cOwn : ∀ {a}, a ∈ ownA g → Hc a = none := fun h => (W.at_ _ (inOwn h)).1
  have nOwn : ∀ {a o}, Hc a = some o → a ∉ ownA g := fun {a o} e z => by rw [cOwn z] at e; cases e
  have jc : ∀ {a o}, Hc a = some o → joinH (ownA g) H Hc a = some o := fun {a o} e => by unfold joinH; rw [if_neg (nOwn e)]; exact e
  have jo : ∀ {a}, a ∈ ownA g → joinH (ownA g) H Hc a = H a := fun h => by unfold joinH; rw [if_pos h]
  have jn : ∀ {a}, H a = none → Hc a = none → joinH (ownA g) H Hc a = none := fun h1 h2 => by unfold joinH; split; exact h1; exact h2
  have x0 : Xt0 g (wakeG c g gc Hc) := ⟨G.k.symm ▸ rfl, W.ex, fun _ _ => rfl, Nat.le_refl _⟩
  have rp : Rp (wakeG c g gc Hc) (joinH (ownA g) H Hc) w := by
    refine ⟨fun a o e => jc (W.fro a o e), G.rp.len, fun l ob e => ?_, G.rp.inj, fun a o e => ?_⟩
    · have hl : l < g.n := by rw [G.rp.len]; exact (List.getElem?_eq_some_iff.mp e).1
      have ho : g.μ l ∈ ownA g := mem_own.mpr ⟨l, hl, rfl⟩
      have fn : gc.F (g.μ l) = none := by
        cases q : gc.F (g.μ l) with
        | none => rfl
        | some o => have := W.fro _ _ q; rw [cOwn ho] at this; cases this
      have cc := G.rp.cell l ob e
      have p := List.all_eq_true.mp hw ob (List.mem_of_getElem? e)
      cases ob with
      | lst ds => obtain ⟨_, xs, hx, d⟩ := cc; exact ⟨fn, xs, (jo ho).trans hx, d.mono x0 _ _⟩
      | dK ds => obtain ⟨_, xs, hx, d⟩ := cc; exact ⟨fn, xs, (jo ho).trans hx, d.mono x0⟩
      | ins _ _ => cases p
      | dead => cases p
    · have e : pinC gc Hc a = some o := e
      unfold pinC at e
      cases q : gc.F a with
      | some u => rw [q] at e; cases e
      | none =>
        rw [q] at e
        refine ⟨jc e, q, fun l hl z => ?_⟩
        have : Hc a = none := by rw [← z]; exact cOwn (mem_own.mpr ⟨l, hl, rfl⟩)
        rw [this] at e; cases e
  have hok : HOk c.P c.w (joinH (ownA g) H Hc) s2.heap := fun a o e => by
    by_cases ha : a ∈ ownA g
    · rw [jo ha] at e
      obtain ⟨_, o', e', k⟩ := own_cell G.rp hw ha
      rw [e] at e'
      cases e'
      have q := G.inv.hok a o e
      have kp := (W.at_ a (inOwn ha)).2
      rcases k with ⟨xs, rfl⟩ | ⟨ks, rfl⟩
      · obtain ⟨z, its, n, r, e⟩ := q
        exact ⟨z, its, n, r, kp _ e⟩
      · obtain ⟨z, y, vs, r, ob, es, ep, e, cc⟩ := q
        exact ⟨z, y, vs, r, ob, es, ep, kp _ e, cc⟩
    · have e' : Hc a = some o := by unfold joinH at e; rw [if_neg ha] at e; exact e
      exact (W.e0.hok a o e').stay (fun _ _ _ q => q) (fun _ q => jc q) fun _ _ q => jc q
  have I := G.inv
  have pnOk : ∀ p ∈ c.pn ++ ip, p.1 ∈ fpOf c ip g := fun p hp => List.mem_cons_of_mem _ (List.mem_append_left _ (List.mem_map.mpr ⟨p, hp, rfl⟩))
  have inv : Inv (c.X (trunc c.n0 s2) (joinH (ownA g) H Hc) q) ip σ (joinH (ownA g) H Hc) s2 := by
    refine ⟨⟨W.e0.mod, ok.kind, rfl, rfl, by show (trunc c.n0 s2).heap.objs.size ≤ c.n0; rw [trunc_size W.sz]; exact Nat.le_refl _, fun x y a h => ?_, fun x h => ?_, fun x a _ h => ?_, fun _ => ok.hd, Around.frames_deeper W.e0.frames, .inr ⟨rfl, rfl⟩, fun b z => absurd (show b ∈ ([] : List Addr) from z) (by simp),
        fun a o e => ?_, by show c.base.objs.size ≤ (trunc c.n0 s2).heap.objs.size; rw [trunc_size W.sz]; exact ok.bsz, fun a o _ z => absurd (show a ∈ ([] : List Addr) from z) (by simp), fun b z => absurd (show b ∈ ([] : List Addr) from z) (by simp), funs_trunc ok.frs W.e0.funs, fun a ha => ?_⟩,
      rfl, W.e0.bare, ⟨fun a o e _ _ _ => (trunc_some W.sz e).2, fun a o e _ _ _ => ⟨o.slots, (trunc_some W.sz e).2⟩, fun _ _ _ h _ => h, fun a o e _ => ⟨o, (trunc_some W.sz e).2⟩, fun _ _ h => h, fun _ _ _ h => h, fun _ ps h => ⟨#[], by rw [Array.append_empty]; exact h⟩⟩, ?_, fun x a h => ?_, ?_, fun x a h => ?_, fun p hp => ?_, hok, I.len⟩
    · rw [show (c.X (trunc c.n0 s2) (joinH (ownA g) H Hc) q).env.cells = [] from ok.cells] at h; cases h
    · rcases h with h | h
      · exact absurd h (ok.nocell x).1
      · exact absurd h (ok.nocell x).2
    · rw [show (c.X (trunc c.n0 s2) (joinH (ownA g) H Hc) q).env.cells = [] from ok.cells] at h; cases h
    · have hb : a < c.n0 := Nat.lt_of_lt_of_le (Heap.lt_size e) ok.bsz
      obtain ⟨q1, q2⟩ := W.e0.bs a o e
      exact ⟨by show (trunc c.n0 s2).heap.get? a = _; rw [trunc_get hb]; exact q1, jn (I.bs a o e).2 q2⟩
    · exact jn (I.stkFree a (by show a ∈ L2.frs (c.env :: c.outer); unfold L2.frs; rw [List.filterMap_cons]; exact List.mem_cons_of_mem _ ha)) (W.e0.frf a ha)
    · obtain ⟨m, hn, hl⟩ := I.loc
      obtain ⟨o, es, ep, e, r⟩ := hn
      refine ⟨m, ⟨o, es, ep, (W.at_ c.n0 List.mem_cons_self).2 o e, r⟩, fun i x v h1 h2 h3 => ?_⟩
      obtain ⟨u, ru, lk⟩ := hl i x v h1 h2 h3
      refine ⟨u, ru, ?_⟩
      rcases lk with q | ⟨_, a, q, _⟩
      · exact .inl q
      · rw [show (c.X b.s b.H b.pn).env.cells = [] from ok.cells] at q; cases q
    · rw [show (c.X (trunc c.n0 s2) (joinH (ownA g) H Hc) q).env.cells = [] from ok.cells] at h; cases h
    · exact jn I.free (W.at_ c.n0 List.mem_cons_self).1
    · rw [show (c.X (trunc c.n0 s2) (joinH (ownA g) H Hc) q).env.cells = [] from ok.cells] at h; cases h
    · rcases mid_cases (show p ∈ (c.pn ++ q) ++ ip from hp) with hp | hp
      · obtain ⟨p1, p2, p3, p4, p5⟩ := I.pin p (mid_mem hp)
        obtain ⟨q1, q2⟩ := W.at_ p.1 (pnOk p hp)
        exact ⟨q2 _ p1, jn p2 q1, p3, p4, p5⟩
      · obtain ⟨p1, p2, p3, p4, p5⟩ := W.pn p hp
        refine ⟨p1, ?_, fun z => p3 ?_, p4, p5⟩
        · unfold joinH; rw [if_neg fun z => p3 (inOwn z)]; exact p2
        · rw [show p.1 = c.n0 from z]; exact List.mem_cons_self
  exact ⟨inv, rp, G.en.mono x0, rfl, Xt.refl _, fun p hp => ⟨(G.lo p hp).1, fun r hr z => (W.pn r hr).2.2.1 (by rw [z]; exact pnOk p hp)⟩⟩
end Tg

set_option Elab.async false
set_option linter.all false
set_option maxRecDepth 100000
set_option maxHeartbeats 4000000
namespace Tg
open PySem PySem.Spec PyProof.Rows L2 Td GenW
/-! ### the consumer behind a stop -/
/-- no object of the consumer -/
structure Pl (X : Cx) (pins : List (Addr × Obj)) (a : Addr) : Prop where
  old : ∀ o, X.s_0.heap.get? a ≠ some o
  loc : a ≠ X.env.locals
  cel : ∀ x c, X.env.cells.lookup x = some c → c ≠ a
  pin : ∀ p ∈ X.pn ++ pins, p.1 ≠ a
/-- all that the consumer has stood before the generator, but for what is at ba -/
structure Lo (X : Cx) (pins : List (Addr × Obj)) (n : Nat) (ba : List Addr) : Prop where
  s0 : X.s_0.heap.objs.size ≤ n
  loc : X.env.locals < n ∨ X.env.locals ∈ ba
  cel : ∀ x c, X.env.cells.lookup x = some c → c < n
  pin : ∀ p ∈ X.pn ++ pins, p.1 < n ∨ p.1 ∈ ba
  ex : X.ex = []
  own : ∀ a ∈ ba, n ≤ a ∧ (a = X.env.locals ∨ ∃ o, (a, o) ∈ X.pn ++ pins)
theorem Lo.pl {X : Cx} {pins : List (Addr × Obj)} {n : Nat} {ba : List Addr} (h : Lo X pins n ba) {a : Addr} (ha : n ≤ a) (hb : a ∉ ba) : Pl X pins a where
  old := fun o e => absurd (Nat.lt_of_lt_of_le (Heap.lt_size e) (Nat.le_trans h.s0 ha)) (Nat.lt_irrefl _)
  loc := fun z => by
    rcases h.loc with q | q
    · rw [← z] at q; exact absurd (Nat.lt_of_lt_of_le q ha) (Nat.lt_irrefl _)
    · rw [← z] at q; exact hb q
  cel := fun x c e z => by have := h.cel x c e; rw [z] at this; exact absurd (Nat.lt_of_lt_of_le this ha) (Nat.lt_irrefl _)
  pin := fun p hp z => by
    rcases h.pin p hp with q | q
    · rw [z] at q; exact absurd (Nat.lt_of_lt_of_le q ha) (Nat.lt_irrefl _)
    · rw [z] at q; exact hb q
structure Sits (c : GCx) (X : Cx) : Prop where
  P : c.P = X.prog
  w : c.w = X.w
  K : c.K = X.K
  mg : c.mg = X.mg
  base : c.base = X.base
  outer : c.outer = X.stack
def backH (g1 : Gd) (H1 : Hp) : Hp := fun a => if a ∈ ownA g1 then none else H1 a
def backG (gc g1 : Gd) : Gd := { K := gc.K, F := g1.F, P := gc.P, μ := gc.μ, n := gc.n }
structure Back (c : GCx) (X : Cx) (pins : List (Addr × Obj)) (σc : L2.St) (wc : Ws) (gc : Gd) (ip1 : List (Addr × Obj)) (g1 : Gd) (H1 : Hp) (s1 : Shared) : Prop where
  inv : Inv X pins σc (backH g1 H1) s1
  rp : Rp (backG gc g1) (backH g1 H1) wc
  x : Xt gc (backG gc g1)
  fp : ∀ a ∈ fpOf c ip1 g1, backH g1 H1 a = none ∧ Pl X pins a ∧ ∃ o, s1.heap.get? a = some o ∧ ∀ v, o.data ≠ .cell v
theorem back_ok {c : GCx} {X : Cx} {pins : List (Addr × Obj)} {σc : L2.St} {Hc : Hp} {s2 : Shared} {gc : Gd} {wc : Ws} (ok : GOk c) (si : Sits c X) (I : Inv X pins σc Hc s2) (rc : Rp gc Hc wc) {ba : List Addr} (lo : Lo X pins c.n0 ba)
    {ip : List (Addr × Obj)} {g : Gd} {H : Hp} {h0 : Heap} (W : Wk c (pinsAt ba s2.heap) (fpOf c ip g) h0 g gc Hc s2) (pl' : ∀ a ∈ fpOf c ip g, Pl X pins a)
    {ip1 : List (Addr × Obj)} {g1 : Gd} {ρ1 : Ev} {w1 : Ws} {σ1 : L2.St} {H1 : Hp} {s1 : Shared} (G1 : Gs c ip1 (wakeB c g gc H Hc s2 (pinsAt ba s2.heap)) g1 ρ1 w1 σ1 H1 s1) (hw1 : w1.all plainOb = true) : Back c X pins σc wc gc ip1 g1 H1 s1 := by
  have inOwn : ∀ {a}, a ∈ ownA g → a ∈ fpOf c ip g := fun h => List.mem_cons_of_mem _ (List.mem_append_right _ h)
  have pl : ∀ a ∈ ownA g, Pl X pins a := fun a h => pl' a (inOwn h)
  have pinB : ∀ {a o}, a ∈ ba → s2.heap.get? a = some o → s1.heap.get? a = some o ∧ H1 a = none := fun {a o} ha e =>
    let z := G1.inv.pin (a, o) (List.mem_append_left _ (List.mem_append_right _ (mem_pinsAt ha e)))
    ⟨z.1, z.2.1⟩
  have cOwn : ∀ {a}, a ∈ ownA g → Hc a = none := fun h => (W.at_ _ (inOwn h)).1
  have jn : ∀ {a}, a ∉ ownA g → Hc a = none → joinH (ownA g) H Hc a = none := fun h1 h2 => by unfold joinH; rw [if_neg h1]; exact h2
  have own1 := fun {a : Addr} (h : a ∈ ownA g1) => own_cell G1.rp hw1 h
  have fK : ∀ {a o}, Hc a = some o → g1.F a = gc.F a := fun {a o} e => by
    cases q : gc.F a with
    | some u => exact G1.x.ex a u q
    | none =>
      have : g1.P a = some o := by rw [G1.x.p]; show pinC gc Hc a = some o; unfold pinC; rw [q]; exact e
      exact (G1.rp.pin a o this).2.1
  have ext : ∀ {a o}, Hc a = some o → H1 a = some o ∧ a ∉ ownA g1 := fun {a o} e => by
    cases q : gc.F a with
    | some u =>
      have e1 := W.fro a u q
      rw [e] at e1
      cases e1
      have e2 : g1.F a = some o := G1.x.ex a o q
      exact ⟨G1.rp.fro a o e2, fun z => by rw [(own1 z).1] at e2; cases e2⟩
    | none =>
      have : g1.P a = some o := by rw [G1.x.p]; show pinC gc Hc a = some o; unfold pinC; rw [q]; exact e
      obtain ⟨p1, p2, p3⟩ := G1.rp.pin a o this
      exact ⟨p1, fun z => by obtain ⟨l, hl, e⟩ := mem_own.mp z; exact p3 l hl e⟩
  have back_c : ∀ {a o}, Hc a = some o → backH g1 H1 a = some o := fun {a o} e => by unfold backH; rw [if_neg (ext e).2]; exact (ext e).1
  have nox : ∀ a : Addr, a ∉ (c.X (trunc c.n0 s2) (joinH (ownA g) H Hc) (pinsAt ba s2.heap)).ex := fun a z => absurd (show a ∈ ([] : List Addr) from z) (by simp)
  have U := G1.inv.base
  have fsE : (c.X (trunc c.n0 s2) (joinH (ownA g) H Hc) (pinsAt ba s2.heap)).fs = L2.frs X.stack := by show L2.frs c.outer = _; rw [si.outer]
  have tg : ∀ {a o}, a < c.n0 → s2.heap.get? a = some o → (trunc c.n0 s2).heap.get? a = some o := fun h e => by rw [trunc_get h]; exact e
  have freeA : ∀ {a o}, (a < c.n0 ∨ a ∈ ba) → s2.heap.get? a = some o → Hc a = none → a ∉ ownA g → H1 a = none := fun h e n no => h.elim (fun h => U.free _ _ (tg h e) (jn no n) (nox _)) fun h => (pinB h e).2
  have keepA : ∀ {a o}, (a < c.n0 ∨ a ∈ ba) → s2.heap.get? a = some o → Hc a = none → a ∉ ownA g → a ∉ L2.frs X.stack → s1.heap.get? a = some o := fun h e n no nf => h.elim (fun h => U.keep _ _ (tg h e) (jn no n) (show _ ∉ (c.X (trunc c.n0 s2) (joinH (ownA g) H Hc) (pinsAt ba s2.heap)).fs by rw [fsE]; exact nf) (nox _)) fun h => (pinB h e).1
  have anyA : ∀ {a o}, (a < c.n0 ∨ a ∈ ba) → s2.heap.get? a = some o → Hc a = none → a ∉ ownA g → ∃ sl, s1.heap.get? a = some { o with slots := sl } := fun {a o} h e n no => h.elim (fun h => U.any (tg h e) (jn no n) (nox _)) fun h => ⟨o.slots, (pinB h e).1⟩
  have thereA : ∀ {a o}, a < c.n0 → s2.heap.get? a = some o → ∃ o', s1.heap.get? a = some o' := fun h e => U.there _ _ (tg h e) (nox _)
  have bn : ∀ {a}, H1 a = none → backH g1 H1 a = none := fun h => by unfold backH; split; rfl; exact h
  have new : ∀ {a o}, a ∈ ownA g1 → (a < c.n0 ∨ a ∈ ba) → s2.heap.get? a = some o → Hc a = none → a ∈ ownA g := fun {a o} ha hl e n => Classical.byContradiction fun no => by
    obtain ⟨_, o', e', _⟩ := own1 ha
    rw [freeA hl e n no] at e'; cases e'
  have hex : ∀ b, b ∉ X.ex := fun b z => by rw [lo.ex] at z; cases z
  have ltS : ∀ {b o}, X.s_0.heap.get? b = some o → b < c.n0 := fun e => Nat.lt_of_lt_of_le (Heap.lt_size e) lo.s0
  have noS : ∀ {b o}, X.s_0.heap.get? b = some o → b ∉ ownA g := fun e z => (pl _ z).old _ e
  have nL : ∀ {b o}, X.s_0.heap.get? b = some o → b ≠ X.env.locals := fun e => Nat.ne_of_lt (Nat.lt_of_lt_of_le (Heap.lt_size e) I.ok.above)
  have stkN : ∀ {b}, b ≠ X.env.locals → b ∉ X.fs → b ∉ L2.frs X.stack := fun h1 h2 z => (List.mem_cons.mp (I.stkSub _ z)).elim h1 h2
  have hokB : HOk X.prog X.w (backH g1 H1) s1.heap := fun a o e => by
    unfold backH at e
    by_cases ha : a ∈ ownA g1
    · rw [if_pos ha] at e; cases e
    · rw [if_neg ha] at e
      have q := G1.inv.hok a o e
      have q' : ObjOk X.prog X.w H1 s1.heap a o := by rw [← si.P, ← si.w]; exact q
      refine q'.stay (fun _ _ _ z => z) (fun d z => ?_) fun d xs z => ?_
      · unfold backH
        rw [if_neg fun zz => ?_]; exact z
        obtain ⟨_, o', e', k⟩ := own1 zz
        rw [z] at e'; cases e'
        rcases k with ⟨_, k⟩ | ⟨_, k⟩ <;> cases k
      · unfold backH
        rw [if_neg fun zz => ?_]; exact z
        obtain ⟨_, o', e', k⟩ := own1 zz
        rw [z] at e'; cases e'
        rcases k with ⟨_, k⟩ | ⟨_, k⟩ <;> cases k
  have exL : ∃ o, s2.heap.get? X.env.locals = some o := by obtain ⟨m, ⟨o, _, _, e, _⟩, _⟩ := I.loc; exact ⟨o, e⟩
  have noL : X.env.locals ∉ ownA g := fun z => (pl _ z).loc rfl
  have cellK : ∀ x a, X.env.cells.lookup x = some a → ∀ v, s2.heap.IsCell a v → s1.heap.IsCell a v := fun x a e v ⟨o, ho, hd⟩ => by
    obtain ⟨sl, q⟩ := anyA (.inl (lo.cel x a e)) ho (I.freeC x a e) fun z => (pl _ z).cel x a e rfl
    exact ⟨_, q, hd⟩
  have inv : Inv X pins σc (backH g1 H1) s1 := by
    refine ⟨I.ok, by rw [G1.inv.os]; exact I.os, G1.inv.bare, ⟨fun b o e n hb hx => ?_, fun b o e n hb hx => ?_, fun b o e n hx => ?_, fun b o e hx => ?_, fun b xs e => back_c (I.base.tups b xs e), fun b o xs e => back_c (I.base.frzs b o xs e), fun b ps e => ?_⟩, ?_, fun x a e => ?_, ?_, fun x a e => ?_, fun p hp => ?_, hokB, I.len⟩
    · exact keepA (.inl (ltS e)) (I.base.keep b o e n hb hx) (I.base.free b o e n hx) (noS e) (stkN (nL e) hb)
    · obtain ⟨sl, e1⟩ := I.base.slot b o e n hb hx
      obtain ⟨sl', e2⟩ := anyA (.inl (ltS e)) e1 (I.base.free b o e n hx) (noS e)
      exact ⟨sl', e2⟩
    · obtain ⟨o', e1⟩ := I.base.there b o e hx
      exact bn (freeA (.inl (ltS e)) e1 (I.base.free b o e n hx) (noS e))
    · obtain ⟨o', e1⟩ := I.base.there b o e hx
      exact thereA (ltS e) e1
    · obtain ⟨m1, e1⟩ := I.base.tbls b ps e
      exact ⟨m1, back_c e1⟩
    · obtain ⟨m, hn, hl⟩ := I.loc
      obtain ⟨o, es, ep, e, r⟩ := hn
      obtain ⟨sl, q⟩ := anyA lo.loc e I.free noL
      refine ⟨m, ⟨_, es, ep, q, r⟩, fun i x v h1 h2 h3 => ?_⟩
      obtain ⟨u, ru, lk⟩ := hl i x v h1 h2 h3
      refine ⟨u, ru, ?_⟩
      rcases lk with q | ⟨k, a, q, z⟩
      · exact .inl q
      · exact .inr ⟨k, a, q, cellK x a q _ z⟩
    · obtain ⟨v, z⟩ := I.cell x a e
      exact ⟨v, cellK x a e v z⟩
    · obtain ⟨o, e⟩ := exL
      exact bn (freeA lo.loc e I.free noL)
    · obtain ⟨v, o, ho, _⟩ := I.cell x a e
      exact bn (freeA (.inl (lo.cel x a e)) ho (I.freeC x a e) fun z => (pl _ z).cel x a e rfl)
    · obtain ⟨p1, p2, p3, p4, p5⟩ := I.pin p hp
      have no : p.1 ∉ ownA g := fun z => (pl _ z).pin p hp rfl
      exact ⟨keepA (lo.pin p hp) p1 p2 no (stkN p3 p4), bn (freeA (lo.pin p hp) p1 p2 no), p3, p4, p5⟩
  have x0 : Xt gc (backG gc g1) := ⟨⟨rfl, fun a o e => G1.x.ex a o e, fun _ _ => rfl, Nat.le_refl _⟩, rfl⟩
  refine ⟨inv, ⟨fun a o e => ?_, rc.len, fun l ob e => ?_, rc.inj, fun a o e => ?_⟩, x0, fun a ha => ?_⟩
  · have e : g1.F a = some o := e
    unfold backH
    rw [if_neg fun z => by rw [(own1 z).1] at e; cases e]
    exact G1.rp.fro a o e
  · refine (rc.cell l ob e).new x0.toXt0 fun b hb => ?_
    obtain ⟨o, ho⟩ := Option.isSome_iff_exists.mp hb
    exact ⟨fK ho, by rw [back_c ho, ho]⟩
  · obtain ⟨p1, p2, p3⟩ := rc.pin a o e
    exact ⟨back_c p1, (fK p1).trans p2, p3⟩
  · rcases List.mem_cons.mp ha with rfl | ha
    · refine ⟨bn G1.inv.free, pl' _ List.mem_cons_self, ?_⟩
      obtain ⟨m, ⟨o, es, ep, e, d, _⟩, _⟩ := G1.inv.loc
      exact ⟨o, e, fun v z => by rw [d] at z; cases z⟩
    · rcases List.mem_append.mp ha with ha | ha
      · obtain ⟨p, hp, rfl⟩ := List.mem_map.mp ha
        obtain ⟨p1, p2, p3, p4, p5⟩ := G1.inv.pin p (mid_mem hp)
        refine ⟨bn p2, lo.pl (G1.lo p hp).1 fun hb => ?_, _, p1, p5⟩
        rcases (lo.own _ hb).2 with z | ⟨o, hq⟩
        · obtain ⟨o, e⟩ := exL
          exact (G1.lo p hp).2 (p.1, o) (mem_pinsAt hb (by rw [z]; exact e)) rfl
        · exact (G1.lo p hp).2 (p.1, o) (mem_pinsAt hb (I.pin _ hq).1) rfl
      · obtain ⟨_, o, e, k⟩ := own1 ha
        have q := G1.inv.hok a o e
        refine ⟨by unfold backH; rw [if_pos ha], ⟨fun o' e' => ?_, fun z => ?_, fun x cc e' z => ?_, fun p hp z => ?_⟩, ?_⟩
        · obtain ⟨o2, e2⟩ := I.base.there a o' e' (hex a)
          cases hq : Hc a with
          | some u => exact (ext hq).2 ha
          | none => exact noS e' (new ha (.inl (ltS e')) e2 hq)
        · subst z
          obtain ⟨o', e'⟩ := exL
          exact noL (new ha lo.loc e' I.free)
        · subst z
          obtain ⟨v, o', ho, _⟩ := I.cell x cc e'
          exact (pl _ (new ha (.inl (lo.cel x cc e')) ho (I.freeC x cc e'))).cel x cc e' rfl
        · obtain ⟨p1, p2, p3, p4, p5⟩ := I.pin p hp
          rw [← z] at ha
          exact (pl _ (new ha (lo.pin p hp) p1 p2)).pin p hp rfl
        · rcases k with ⟨xs, rfl⟩ | ⟨ks, rfl⟩
          · obtain ⟨_, its, n, _, e⟩ := q
            exact ⟨_, e, fun v z => by cases z⟩
          · obtain ⟨_, _, vs, _, ob, es, ep, e, cc⟩ := q
            refine ⟨ob, e, fun v z => ?_⟩
            rw [cc.2.1] at z
            cases z
/-- what is handed out is the consumer's -/
theorem dq_back {gc g1 : Gd} {x : V} {d : PyData} (hK : g1.K = gc.K) (h : Dq g1 x d) (hb : bnd 0 d = true) : Dq (backG gc g1) x d :=
  (h.cut d x hb : Dq (g1.cut 0) x d).mono (g := g1.cut 0) (g' := backG gc g1) ⟨hK.symm, fun _ _ e => e, fun l hl => absurd hl (Nat.not_lt_zero l), Nat.zero_le _⟩ d x
end Tg

set_option Elab.async false
set_option linter.all false
set_option maxRecDepth 100000
set_option maxHeartbeats 4000000
namespace Tg
open PySem PySem.Spec PyProof.Rows L2 Td GenW
/-! ### what is handed out, one by one -/
def endOk (c : GCx) (L ys : List PyData) (b : Sg) (s : Shared) : Prop := ys = L ∧ ∃ g ρ w σ H, Gs c [] b g ρ w σ H s ∧ w.all plainOb = true
def PhR (c : GCx) (L : List PyData) : Nat → PhT
  | 0 => fun ys b e s => match e with
    | .ret r => r = .ok (.ret .none) ∧ endOk c L ys b s
    | .susp .. => False
  | m + 1 => fun ys b e s => match e with
    | .ret r => r = .ok (.ret .none) ∧ endOk c L ys b s
    | .susp v gd l k code p fs => gd = false ∧ fs.any Frame.guarded = false ∧ splitAtGen fs = none ∧ ∃ ip g ρ w σ H d x, Gs c ip b g ρ w σ H s ∧ w.all plainOb = true ∧ RelV x v ∧ Dq g x d ∧ bnd 0 d = true ∧ ys ++ [d] <+: L ∧
        ∀ b' g' H' s', Gs c ip b' g' ρ w σ H' s' → SegW (model c.P c.w) c.A (PhR c L m (ys ++ [d]) b') code (k (.send .none)) fs s'
def Ph (c : GCx) (L : List PyData) : PhT := fun ys => PhR c L (L.length - ys.length) ys
theorem ph_yields (c : GCx) (L : List PyData) : Yields c L (Ph c L) := by
  intro ys b ip g ρ w σ H s d x v l k code p fs G rv dq hb hw hp hs hg hk
  have hl : ys.length + 1 ≤ L.length := by have := hp.length_le; simpa using this
  unfold Ph
  rw [show L.length - ys.length = (L.length - (ys.length + 1)) + 1 by omega]
  refine ⟨rfl, hg, hs, ip, g, ρ, w, σ, H, d, x, G, hw, rv, dq, hb, hp, fun b' g' H' s' G' => ?_⟩
  have := hk b' g' H' s' G'
  unfold Ph at this
  simpa using this
theorem ph_end {c : GCx} {L ys : List PyData} {b : Sg} {s : Shared} (h : endOk c L ys b s) : Ph c L ys b (.ret (.ok (.ret .none))) s := by
  unfold Ph
  cases L.length - ys.length <;> exact ⟨rfl, h⟩
theorem ph_ret {c : GCx} {L ys : List PyData} {b : Sg} {s : Shared} {r : Result} (h : Ph c L ys b (.ret r) s) : r = .ok (.ret .none) ∧ endOk c L ys b s := by
  unfold Ph at h
  cases e : L.length - ys.length with
  | zero => rw [e] at h; exact h
  | succ m => rw [e] at h; exact h
/-! ### next -/
def GoW (M : Model) (A : Around) (Φ : End → Shared → Prop) (gs : GenState) (s : Shared) : Prop := match gs with
  | .fresh code => SegW M A Φ code (M.den code) [] s
  | .suspended k _ code _ fs _ => SegW M A Φ code (k (.send .none)) fs s
  | _ => False
theorem wpAny_resumeW {M : Model} {A : Around} {Φ : End → Shared → Prop} {E : Value → Shared → Prop} {s : Shared} {g : Nat} {gs : GenState} {l : List Value} {α : Type} {k : GenResult → Sem α} {Q : α → Shared → Prop} (hg : s.gens[g]? = some gs)
    (hgo : GoW M A Φ gs (s.setGen g .running)) (hq : ∀ e s₁, Φ e s₁ → e.quiet = true) (h : ∀ e s₁, Φ e s₁ → wpAny M A (k e.result) Q E (s₁.setGen g e.genState)) : wpAny M A (.resume g (.send .none) l k) Q E s := by
  intro Γ p hΓ
  rw [Sem.wp_resume]
  have hB : ∀ c, (Γ.wake c p).Woken A := fun c => hΓ.wake c p
  cases gs with
  | fresh code =>
    obtain ⟨e₁, s₁, hr, he⟩ := hgo (Γ.wake code p) p rfl (hB code)
    exact ⟨_, _, by unfold Wakes; rw [hg]; exact ⟨e₁, s₁, hr, hq e₁ s₁ he, rfl, rfl⟩, h e₁ s₁ he Γ p hΓ⟩
  | suspended k₀ l₀ c₀ p₀ fs₀ cl =>
    obtain ⟨e₁, s₁, hr, he⟩ := hgo (Γ.wake c₀ p) p₀ rfl (hB c₀)
    exact ⟨_, _, by unfold Wakes; rw [hg]; exact ⟨e₁, s₁, hr, hq e₁ s₁ he, rfl, rfl⟩, h e₁ s₁ he Γ p hΓ⟩
  | running => exact hgo.elim
  | finished => exact hgo.elim
theorem next_genW {P : Program} {w : World} {A : Around} {E : Value → Shared → Prop} {s : Shared} {a : Addr} {g : Nat} {gs : GenState} {Φ : End → Shared → Prop} {Q : Option Value → Shared → Prop} (hh : A.handled = none)
    (hl : s.heap.NoLimit) (hroom : A.depth < recursionLimit) (hg : s.heap.IsGen a g) (hgs : s.gens[g]? = some gs) (hgo : GoW (model P w) A.in1 Φ gs (s.setGen g .running))
    (hR : ∀ r s₁, Φ (.ret r) s₁ → r = .ok (.ret .none) ∧ ∀ h', (∀ b o, s₁.heap.get? b = some o → h'.get? b = some o) → Q none { s₁.setGen g .finished with heap := h' })
    (hY : ∀ v gd l k code p fs s₁, Φ (.susp v gd l k code p fs) s₁ → gd = false ∧ fs.any Frame.guarded = false ∧ Q (some v) (s₁.setGen g (.suspended k l code p fs false))) :
    wpAny (model P w) A (pyNext (.ref a)) Q E s := by
  unfold pyNext
  refine wpAny_bind (wpAny_attempt (wpAny_callSpecial?_slot (name := Str.ofString "__next__") hg.typeIs slot_gen_next
    (wpAny_call_entry slot_gen_next hg.typeIs entry_gen_next ?_ (args_gen_next _))))
  show wpAny _ A.in1 (Builtin.Generator.genWake (.ref a) (.send .none)) _ _ s
  unfold Builtin.Generator.genWake
  refine wpAny_bind (wpAny_holding (wpAny_genNumber hg (wpAny_bind (wpAny_genState hgs ?_))))
  cases gs with
  | running => exact hgo.elim
  | finished => exact hgo.elim
  | _ =>
    refine wpAny_bind (wpAny_roomToWake hl hroom ?_)
    show wpAny _ A.in1 (.resume g (.send .none) [] _) _ _ s
    refine wpAny_resumeW hgs hgo (fun e s₁ he => ?_) fun e s₁ he => ?_
    · cases e with
      | ret r => rfl
      | susp v gd l k code p fs =>
        obtain ⟨h1, h2, _⟩ := hY v gd l k code p fs s₁ he
        simp only [End.quiet, h1, h2]
        rfl
    · cases e with
      | ret r =>
        obtain ⟨rfl, hp⟩ := hR r s₁ he
        show wpAny _ A.in1 (newExc (.type "StopIteration") [] >>= _) _ _ _
        refine wpAny_bind ?_
        simp only [newExc, newTuple]
        refine wpAny_bind (wpAny_newObj_type ?_ (by size_fits))
        refine wpAny_bind (m := firstArgMember _ _) (wpAny_of_eq (a := Value.none) (by first | rfl | (simp only [firstArgMember]; rfl)) ?_)
        refine wpAny_newObj_type ?_ (by size_fits)
        simp only [raiseNew]
        refine wpAny_bind (wpAny_bind (wpAny_handled ?_))
        first | rw [show A.in1.handled = none from hh] | rw [hh]
        refine wpAny_throw ?_
        refine wpAny_bind (wpAny_isInstance (T := "StopIteration") (b := true) ⟨_, Heap.get?_push_size _ rfl, rfl⟩ isSubtype_stop ?_)
        exact wpAny_pure (hp _ fun b o hb => Heap.get?_push_of_some _ (Heap.get?_push_of_some _ hb))
      | susp v gd l k code p fs =>
        obtain ⟨h1, h2, hq⟩ := hY v gd l k code p fs s₁ he
        subst h1
        have e : End.genState (.susp v false l k code p fs) = .suspended k l code p fs false := by
          show GenState.suspended k l code p fs (false || fs.any Frame.guarded) = _
          rw [h2]; rfl
        rw [e]
        exact wpAny_pure ⟨v, rfl, wpAny_pure hq⟩
end Tg

set_option Elab.async false
set_option linter.all false
set_option maxRecDepth 100000
set_option maxHeartbeats 4000000
namespace Tg
open PySem PySem.Spec PyProof.Rows L2 Td GenW
/-! ### a generator is made -/
def genF (m n : Nat) (body : FGn) : List PyData → Option (List PyData) := fun ds => if ds.length = n ∧ bndA 0 ds = true then match body (startE m ds) [] [] with
    | .nx _ w ys => cond (w.all plainOb) (some ys) none
    | _ => none
  else none
structure Made (P : Program) (w : World) (K : PySem.W.Frag) (mg : Str → Option Value) (base : Heap) (outer : List Env) (A : Around) (H : Hp) (s : Shared) (gc : Gd) (L : List PyData) (u : Value) (s' : Shared) : Prop where
  ex : ∃ (c : GCx) (a0 : Addr) (gi : Nat) (code : Code) (go : Obj) (g : Gd) (ρ : Ev) (σ : L2.St), u = .ref a0 ∧ GOk c ∧ (c.P = P ∧ c.w = w ∧ c.K = K ∧ c.mg = mg ∧ c.base = base ∧ c.outer = outer ∧ c.A = A.in1 ∧ c.n0 = s.heap.objs.size ∧ c.pn = [(a0, go)]) ∧
    ((∀ h : Heap, h.get? a0 = some go → h.IsGen a0 gi) ∧ ∃ vs, go.data = .fields vs ∧ go.cls = .type "generator") ∧ s'.gens[gi]? = some (.fresh code) ∧ s'.os = s.os ∧ AllBare s'.gens ∧ (∀ b o, s.heap.get? b = some o → s'.heap.get? b = some o) ∧ Gs c [] ⟨s, H, g, []⟩ g ρ [] σ H s' ∧ (∀ a o, g.F a = some o → gc.F a = some o) ∧ g.n = 0 ∧
    ∀ b' g' H' s2, Gs c [] b' g' ρ [] σ H' s2 → SegW (model P w) c.A (Ph c L [] b') code ((model P w).den code) [] s2
structure GnF (P : Program) (w : World) (K : PySem.W.Frag) (mg : Str → Option Value) (base : Heap) (k : Nat) (f : Addr) (fd : FuncData) (ps : List Str) (gf : List PyData → Option (List PyData)) : Prop where
  len : ∀ ds L, gf ds = some L → ds.length = ps.length
  run : ∀ (A : Around) (outer : List Env) (s : Shared) (H : Hp) (args : Args) (us : List Value) (vs : List V) (gc : Gd) (ds L : List PyData), Room k A → A.guards = some [] → Env0 P w K mg base A outer s H → BindsTo s fd args (ps.zip us) → Vals vs us →
    gc.K = K → (∀ a o, gc.F a = some o → H a = some o) → DqA gc vs ds → gf ds = some L →
    codeAny (model P w) A (.call (.ref f) args) (fun r s' => match r with | .ok (.ret u) => Made P w K mg base outer A H s gc L u s' | _ => False) s
theorem GnF.mono {P : Program} {w : World} {K : PySem.W.Frag} {mg : Str → Option Value} {base : Heap} {j k : Nat} {f : Addr} {fd : FuncData} {ps : List Str} {gf : List PyData → Option (List PyData)} (F : GnF P w K mg base j f fd ps gf) (h : j ≤ k) : GnF P w K mg base k f fd ps gf :=
  ⟨F.len, fun A outer s H args us vs gc ds L hr => F.run A outer s H args us vs gc ds L (hr.mono h)⟩
theorem cells_none : ∀ {l : List (Str × NameKind)} (n : Nat), (l.all fun y => !decide (y.2 = .cell)) = true → ∀ acc, cellsFrom n l acc = acc
  | [], _, _, _ => rfl
  | (x, k) :: l, n, h, acc => by
    have h' : (!decide (k = .cell)) = true ∧ (l.all fun y => !decide (y.2 = .cell)) = true := by simpa using h
    have hk : (k == .cell) = false := by
      have : k ≠ .cell := by simpa using h'.1
      cases k <;> first | rfl | exact absurd rfl this
    unfold cellsFrom
    rw [hk]
    exact cells_none n h'.2 acc
theorem gnf_of {P : Program} {w : World} {K : PySem.W.Frag} {mg : Str → Option Value} {base : Heap} {x qual : Str} {st : Stmt} {f : Addr} {fd : FuncData} {N ps : List Str} {k : Nat} {bf : FGn} (F : Fun K x qual st f fd) (S : GScope N ps (defScope st))
    (hn : ((defScope st).names.all fun y => !decide (y.2 = .cell)) = true)
    (hbody : ∀ c : GCx, c.P = P → c.w = w → c.K = K → c.mg = mg → c.base = base → c.N = N → c.qual = qual → c.scope = defScope st → c.f = f → Room k (c.A.deeper c.env) → c.A.guards = some [] → GJs c (defBody st) bf) : GnF P w K mg base (k + 2) f fd ps (genF N.length ps.length bf) := by
  obtain ⟨oc, od, kV, doc, pm, an, cdv, ct, osl, rfl, lk, hcd⟩ := F.ex
  refine ⟨fun ds L h => ?_, fun A outer s H args us vs gc ds L hr hg e0 hb r hK hF hd hgf => ?_⟩
  · unfold genF at h
    split at h
    · rename_i q; exact q.1
    · cases h
  obtain ⟨⟨hlen, hbnd⟩, hbod⟩ : (ds.length = ps.length ∧ bndA 0 ds = true) ∧ ∃ ρ' w', bf (startE N.length ds) [] [] = .nx ρ' w' L ∧ w'.all plainOb = true := by
    unfold genF at hgf
    split at hgf
    · rename_i q
      refine ⟨q, ?_⟩
      split at hgf
      · rename_i ρ' w' ys e
        cases hw : w'.all plainOb with
        | true => rw [hw] at hgf; cases hgf; exact ⟨ρ', w', e, hw⟩
        | false => rw [hw] at hgf; cases hgf
      · cases hgf
    · cases hgf
  have hl : vs.length = ps.length := by rw [hd.length]; exact hlen
  have KX : K.In s.heap := e0.mod.kin.keeps fun b o e => (e0.bs b o e).1
  have lim : s.heap.NoLimit := e0.mod.nolimit.keeps fun b o e => (e0.bs b o e).1
  have hkind : ∀ y ∈ ps.zip us, (defScope st).names.lookup y.1 = some .local ∨ ((defScope st).names.lookup y.1 = some .cell ∧ ((cellsFrom (s.heap.objs.size + 1) (defScope st).names []).lookup y.1).isSome = true) := fun ⟨n, v⟩ hy => by
    rcases S.par n (List.of_mem_zip hy).1 with q | q
    · exact .inl q
    · exact .inr ⟨q, PySem.W.cellsFrom_some _ _ _ (.inl q)⟩
  refine codeAny_call_generator hr.depth (KX _ _ lk) rfl S.co S.gen rfl (PySem.W.codeRec_of KX hcd) (hb _ _ _ _ ?_)
  refine wpAny_newFunctionEnv_cells S.kind hkind fun env he s1 xx => ?_
  subst he
  have lim1 : s1.heap.NoLimit := lim.keeps xx.toInCall.keep
  refine ⟨lim1, ?_⟩
  obtain ⟨h1, tk, es1, hk1⟩ := xx.done
  have os1 : s1.os = s.os := by rw [es1]
  have gen1 : s1.gens = s.gens := by rw [es1]
  have lt1 : s.heap.objs.size < s1.heap.objs.size := xx.toInCall.ns.lt
  have kp1 : ∀ b o, s.heap.get? b = some o → s1.heap.get? b = some o := xx.toInCall.keep
  have main : ∀ (go : Obj) (nm qn : Value) (tk2 : Nat), go.cls = .type "generator" → go.data = .fields #[.int s1.gens.size 0, nm, qn] → go.slots = #[] → (∀ h : Heap, (h.push go).get? h.objs.size = some go) →
      Made P w K mg base outer A H s gc L (.ref s1.heap.objs.size) { s1 with gens := s1.gens.push (.fresh (.func (defBody st) (envOfC qual (defScope st) s.heap.objs.size f cdv))), toks := tk2, heap := s1.heap.push go } := by
    intro go nm qn tk2 hgc hgd0 hgs hgp
    have hgen : ∀ h : Heap, h.get? s1.heap.objs.size = some go → h.IsGen s1.heap.objs.size s1.gens.size := fun h e => ⟨go, nm, qn, e, hgc, hgd0, hgs⟩
    have hpushed : (s1.heap.push go).get? s1.heap.objs.size = some go := hgp _
    have e0w : Env0 P w K mg base A.in1 outer s H := ⟨e0.frames, e0.mod, e0.bs, e0.bsz, e0.funs, e0.frf, e0.hok, e0.bare⟩
    have I1 : Inv (gcxOf P w K mg base N qual (defScope st) f cdv A.in1 outer s H (fun _ _ _ => False) []) [] (start N vs) H s1 := inv_startG S hr.hd e0w hl r xx
    have bare' : AllBare (s1.gens.push (.fresh (.func (defBody st) (envOfC qual (defScope st) s.heap.objs.size f cdv)))) := AllBare.push (by rw [gen1]; exact e0.bare) rfl
    have kp2 : ∀ b o, s1.heap.get? b = some o → (s1.heap.push go).get? b = some o := fun b o e => Heap.get?_push_of_some _ e
    have I2 : Inv (gcxOf P w K mg base N qual (defScope st) f cdv A.in1 outer s H (fun _ _ _ => False) []) [] (start N vs) H { s1 with gens := s1.gens.push (.fresh (.func (defBody st) (envOfC qual (defScope st) s.heap.objs.size f cdv))), toks := tk2, heap := s1.heap.push go } :=
      I1.call' (ch := []) rfl (Un.kept kp2) (I1.hok.kept kp2) bare' fun b z => by simp at z
    let c : GCx := ⟨P, w, K, mg, base, N, qual, defScope st, f, cdv, outer, A.in1, s.heap.objs.size, [(s1.heap.objs.size, go)]⟩
    have cn := cells_none (l := (defScope st).names) (s.heap.objs.size + 1) hn []
    have inv : Inv (c.X s H []) [] (start N vs) H { s1 with gens := s1.gens.push (.fresh (.func (defBody st) (envOfC qual (defScope st) s.heap.objs.size f cdv))), toks := tk2, heap := s1.heap.push go } := by
      refine ⟨⟨I2.ok.mod, I2.ok.kind, I2.ok.glob, I2.ok.blt, I2.ok.above, I2.ok.inj, I2.ok.has, I2.ok.cab, I2.ok.hd, I2.ok.frames, I2.ok.stk, I2.ok.exf, I2.ok.bs, I2.ok.bsz, I2.ok.noex, I2.ok.exfs, I2.ok.funs, I2.ok.frf⟩, I2.os, I2.bare, I2.base, I2.loc, I2.cell, I2.free, I2.freeC, fun p hp => ?_, I2.hok, I2.len⟩
      have hp : p ∈ ([(s1.heap.objs.size, go)] ++ []) ++ [] := hp
      rw [List.append_nil, List.append_nil, List.mem_singleton] at hp
      subst hp
      exact ⟨hpushed, I1.hok.fresh (Nat.le_refl _), Nat.ne_of_gt lt1, I1.nofs (Nat.le_refl _), fun v q => by rw [hgd0] at q; cases q⟩
    let g0 : Gd := ⟨K, gc.F, fun _ => none, fun _ => 0, 0⟩
    have dq0 : DqA g0 vs ds := (hd.cutA ds vs hbnd : DqA (gc.cut 0) vs ds).mono (g := gc.cut 0) (g' := g0) ⟨hK.symm, fun _ _ e => e, fun l hl => absurd hl (Nat.not_lt_zero l), Nat.le_refl _⟩ ds vs
    have rp0 : Rp g0 H [] := ⟨hF, rfl, fun l ob e => by simp at e, fun l m hl => absurd hl (Nat.not_lt_zero l), fun a o e => by cases e⟩
    have ok : GOk c := by
      refine ⟨S.kind, fun y => ⟨fun h => ?_, fun h => ?_⟩, cn, hr.hd, fun b hb => ?_, e0.bsz⟩
      · have h : (defScope st).names.lookup y = some .cell := h
        have := List.all_eq_true.mp hn _ (PySem.mem_of_lookup h)
        simp at this
      · have h : (defScope st).names.lookup y = some .free := h
        exact absurd rfl (S.nofree _ (PySem.mem_of_lookup h))
      · obtain ⟨_, o, ho, _⟩ := e0.funs.mem hb
        exact Heap.lt_size ho
    have room : Room k (c.A.deeper c.env) := (hr.in1).deeper _
    have gj := hbody c rfl rfl rfl rfl rfl rfl rfl rfl rfl room hg
    refine ⟨c, s1.heap.objs.size, s1.gens.size, .func (defBody st) c.env, go, g0, startE N.length ds, start N vs, rfl, ok, ⟨rfl, rfl, rfl, rfl, rfl, rfl, rfl, rfl, rfl⟩, ⟨hgen, _, hgd0, hgc⟩, Array.getElem?_push_size .., os1, bare', fun b o e => kp2 b o (kp1 b o e), ⟨inv, rp0, EnR.begin dq0, rfl, Xt.refl _, fun p hp => ?_⟩, fun _ _ e => e, rfl, fun b' g' H' s2 G => ?_⟩
    · have hp : p ∈ [(s1.heap.objs.size, go)] ++ [] := hp
      rw [List.append_nil, List.mem_singleton] at hp
      subst hp
      exact ⟨Nat.le_of_lt lt1, fun q hq => absurd (show q ∈ ([] : List (Addr × Obj)) from hq) (by simp)⟩
    · refine segw_func fun J => ?_
      obtain ⟨ρ', w', eb, hw'⟩ := hbod
      refine gj L (Ph c L) (ph_yields c L) [] _ [] _ J id id { nx := fun _ w ys => ys = L ∧ w.all plainOb = true, rt := fun _ _ => False, bk := fun _ _ _ => False, ct := fun _ _ _ => False } [] b' g' _ _ _ H' s2 ⟨over_func, rfl, rfl, rfl⟩ ⟨fun _ _ _ h => by rw [h.1]; exact List.prefix_rfl, fun _ _ _ h => h.elim, fun _ _ _ h => h.elim, fun _ _ h => h.elim⟩ (fun ys b3 s3 fl h3 => ?_) G ?_
      · cases fl with
        | next =>
          obtain ⟨g3, ρ3, w3, σ3, H3, G3, e3, hw3⟩ := h3
          exact segw_end (.ok (.ret .none)) (ph_end ⟨e3, g3, ρ3, w3, σ3, H3, G3, hw3⟩)
        | brk => obtain ⟨_, _, _, _, _, _, q⟩ := h3; exact q.elim
        | cont => obtain ⟨_, _, _, _, _, _, q⟩ := h3; exact q.elim
        | ret u => obtain ⟨_, _, _, _, _, _, q⟩ := h3; exact q.elim
      · rw [eb]
        exact ⟨rfl, hw'⟩
  exact main _ _ _ _ rfl rfl rfl fun h => Heap.get?_push_size _ rfl
end Tg

set_option Elab.async false
set_option linter.all false
set_option maxRecDepth 100000
set_option maxHeartbeats 4000000
namespace Tg
open PySem PySem.Spec PyProof.Rows L2 Td GenW
/-! ### a sleeping generator, seen by its consumer -/
structure Slp (c : GCx) (X : Cx) (pins : List (Addr × Obj)) (L : List PyData) (gs : GenState) (i : Nat) (gc : Gd) (Hc : Hp) (fp : List Addr) (s : Shared) : Prop where
  ex : ∃ ip g ρ w σ H b sY, fp = fpOf c ip g ∧ Gs c ip b g ρ w σ H sY ∧ w.all plainOb = true ∧ (∀ a o, g.F a = some o → gc.F a = some o) ∧
    (∀ a ∈ fpOf c ip g, Hc a = none ∧ Pl X pins a ∧ ∃ o, sY.heap.get? a = some o ∧ s.heap.get? a = some o ∧ ∀ v, o.data ≠ .cell v) ∧
    ∀ b' g' H' s2, Gs c ip b' g' ρ w σ H' s2 → GoW (model c.P c.w) c.A (Ph c L (L.take i) b') gs s2
theorem inv_heap {X : Cx} {pins : List (Addr × Obj)} {σ : L2.St} {H : Hp} {T s : Shared} (I : Inv X pins σ H T) (h : s.heap = T.heap) (o : s.os = T.os) (b : AllBare s.gens) : Inv X pins σ H s :=
  ⟨I.ok, o.trans I.os, b, by rw [h]; exact I.base, by rw [h]; exact I.loc, by rw [h]; exact I.cell, I.free, I.freeC, by rw [h]; exact I.pin, by rw [h]; exact I.hok, I.len⟩
/-- the generator's own -/
structure Own (c : GCx) (X : Cx) (a0 : Addr) (gi : Nat) (go : Obj) : Prop where
  ok : GOk c
  si : Sits c X
  A : c.A = X.A.in1
  pn : c.pn = [(a0, go)]
  gen : ∀ h : Heap, h.get? a0 = some go → h.IsGen a0 gi
theorem Slp.gen {c : GCx} {X : Cx} {pins : List (Addr × Obj)} {L : List PyData} {gs : GenState} {i : Nat} {gc : Gd} {Hc : Hp} {fp : List Addr} {s : Shared} {a0 : Addr} {gi : Nat} {go : Obj} (ow : Own c X a0 gi go) (S : Slp c X pins L gs i gc Hc fp s) : s.heap.get? a0 = some go := by
  obtain ⟨ip, g, ρ, w, σ, H, b, sY, rfl, G, hw, hF, hfp, hgo⟩ := S.ex
  have hm : (a0, go) ∈ c.pn ++ ip := by rw [ow.pn]; exact List.mem_append_left _ (List.mem_singleton.mpr rfl)
  have h1 := (G.inv.pin (a0, go) (mid_mem hm)).1
  obtain ⟨_, _, o, e1, e2, _⟩ := hfp a0 (List.mem_cons_of_mem _ (List.mem_append_left _ (List.mem_map.mpr ⟨(a0, go), hm, rfl⟩)))
  rw [h1] at e1
  cases e1
  exact e2
/-- what next(g) comes to -/
def NextP (c : GCx) (X : Cx) (pins : List (Addr × Obj)) (L : List PyData) (gi : Nat) (i : Nat) (σc : L2.St) (wc : Ws) (gc : Gd) (r : Option Value) (s1 : Shared) : Prop :=
  (r = none ∧ L.take i = L ∧ ∃ Hc1 gc1, Xt gc gc1 ∧ Inv X pins σc Hc1 s1 ∧ Rp gc1 Hc1 wc) ∨
  ∃ u d x gs1 fp1 Hc1 gc1, r = some u ∧ L[i]? = some d ∧ RelV x u ∧ Dq gc1 x d ∧ Xt gc gc1 ∧ Inv X pins σc Hc1 s1 ∧ Rp gc1 Hc1 wc ∧ isSusp gs1 = true ∧ s1.gens[gi]? = some gs1 ∧ Slp c X pins L gs1 (i + 1) gc1 Hc1 fp1 s1
theorem resume_ok {c : GCx} {X : Cx} {pins : List (Addr × Obj)} {L : List PyData} {a0 : Addr} {gi : Nat} {go : Obj} {gs : GenState} {i : Nat} {gc : Gd} {Hc : Hp} {fp : List Addr} {wc : Ws} {σc : L2.St} {s : Shared} {E : Value → Shared → Prop}
    (ow : Own c X a0 gi go) (hh : X.A.handled = none) (hd : X.A.depth < recursionLimit) {ba : List Addr} (lo : Lo X pins c.n0 ba) (I : Inv X pins σc Hc s) (rc : Rp gc Hc wc) (hK : gc.K = X.K) (hi : i ≤ L.length) (hgs : s.gens[gi]? = some gs) (S : Slp c X pins L gs i gc Hc fp s) (hsz : c.n0 ≤ s.heap.objs.size) :
    wpAny (model X.prog X.w) X.A (pyNext (.ref a0)) (NextP c X pins L gi i σc wc gc) E s := by
  have hgen := ow.gen _ (S.gen ow)
  have hgl : gi < s.gens.size := (Array.getElem?_eq_some_iff.mp hgs).1
  obtain ⟨ip, g, ρ, w, σ, H, b, sY, rfl, G, hw, hF, hfp, hgo⟩ := S.ex
  have si := ow.si
  have W : Wk c (pinsAt ba (s.setGen gi .running).heap) (fpOf c ip g) sY.heap g gc Hc (s.setGen gi .running) := by
    have e := I.env0
    refine ⟨?_, hsz, fun a ha => ?_, rc.fro, hF, fun p hp => ?_⟩
    · rw [si.P, si.w, si.K, si.mg, si.base, si.outer]
      exact ⟨by rw [ow.A]; exact e.frames, e.mod, e.bs, e.bsz, e.funs, e.frf, e.hok, allBare_setGen e.bare rfl⟩
    · obtain ⟨h1, h2, o, e1, e2, _⟩ := hfp a ha
      refine ⟨h1, fun o' e' => ?_⟩
      rw [e1] at e'
      cases e'
      exact e2
    · obtain ⟨ha, e⟩ := of_pinsAt hp
      have e : s.heap.get? p.1 = some p.2 := e
      obtain ⟨hn, hx⟩ := lo.own _ ha
      refine ⟨e, ?_, fun hf => ?_, fun hz => absurd (Nat.lt_of_lt_of_le (ow.ok.frs _ hz) hn) (Nat.lt_irrefl _), fun v hv => ?_⟩
      · rcases hx with z | ⟨o, z⟩
        · rw [z]; exact I.free
        · exact (I.pin _ z).2.1
      · have q := (hfp _ hf).2.1
        rcases hx with z | ⟨o, z⟩
        · exact q.loc z
        · exact q.pin _ z rfl
      · rcases hx with z | ⟨o, z⟩
        · obtain ⟨m, ⟨o, es, ep, ho, d, _⟩, _⟩ := I.loc
          rw [z, ho] at e
          cases e
          rw [d] at hv
          cases hv
        · have q := I.pin _ z
          have q1 : s.heap.get? p.1 = some o := q.1
          rw [e] at q1
          cases q1
          exact q.2.2.2.2 v hv
  have Gw := wake_ok ow.ok G hw W
  have Ir : Inv X pins σc Hc (s.setGen gi .running) := inv_heap I rfl rfl (allBare_setGen I.bare rfl)
  have plO : ∀ a ∈ fpOf c ip g, Pl X pins a := fun a ha => (hfp a ha).2.1
  have go' := hgo _ _ _ _ Gw
  rw [si.P, si.w, ow.A] at go'
  have lt : (L.take i).length = i := by rw [List.length_take]; omega
  refine wpAny_gsz (n := gi + 1) hgl (next_genW (Φ := Ph c L (L.take i) (wakeB c g gc H Hc (s.setGen gi .running) (pinsAt ba (s.setGen gi .running).heap))) hh I.nolimit hd hgen hgs go' (fun r s₁ hr => ?_) fun v gd l k code p fs s₁ hs => ?_)
  · obtain ⟨rfl, hL, g1, ρ1, w1, σ1, H1, G1, hw1⟩ := ph_ret hr
    refine ⟨rfl, fun h' hk _ => .inl ⟨rfl, hL, ?_⟩⟩
    have B := back_ok ow.ok si Ir rc lo W plO G1 hw1
    refine ⟨backH g1 H1, backG gc g1, B.x, ?_, B.rp⟩
    exact B.inv.call' (ch := []) rfl (Un.kept hk) (B.inv.hok.kept hk) (allBare_setGen B.inv.bare rfl) fun b z => by simp at z
  · unfold Ph at hs
    cases em : L.length - (L.take i).length with
    | zero => rw [em] at hs; exact hs.elim
    | succ m =>
      rw [em] at hs
      obtain ⟨h1, h2, h3, ip1, g1, ρ1, w1, σ1, H1, d, x, G1, hw1, rv, dq, hb, hp, hk⟩ := hs
      refine ⟨h1, h2, fun hz => .inr ?_⟩
      have B := back_ok ow.ok si Ir rc lo W plO G1 hw1
      have hlt : i < L.length := by have := hp.length_le; rw [List.length_append, lt, List.length_singleton] at this; exact this
      have hd' : L[i]? = some d := by
        obtain ⟨t, ht⟩ := hp
        have : L[i]? = (L.take i ++ [d] ++ t)[i]? := by rw [ht]
        rw [this, List.append_assoc, List.getElem?_append_right (by omega), lt]
        simp
      have tk : L.take (i + 1) = L.take i ++ [d] := by
        rw [List.take_add_one, hd']; rfl
      have K1 : g1.K = gc.K := by rw [G1.k, si.K, hK]
      have zz : gi < s₁.gens.size := by
        have q : (s₁.setGen gi (.suspended k l code p fs false)).gens.size = s₁.gens.size := setGen_size _ _ _
        have hz' : gi + 1 ≤ (s₁.setGen gi (.suspended k l code p fs false)).gens.size := hz
        omega
      refine ⟨v, d, x, .suspended k l code p fs false, fpOf c ip1 g1, backH g1 H1, backG gc g1, rfl, hd', rv, dq_back K1 dq hb, B.x, inv_heap B.inv rfl rfl (allBare_setGen B.inv.bare rfl), B.rp, rfl, setGen_at zz, ⟨ip1, g1, ρ1, w1, σ1, H1, _, s₁, rfl, G1, hw1, fun _ _ e => e, fun a ha => ?_, fun b' g' H' s2 G' => ?_⟩⟩
      · obtain ⟨q1, q2, o, q3, q4⟩ := B.fp a ha
        exact ⟨q1, q2, o, q3, q3, q4⟩
      · show SegW _ _ _ code (k (.send .none)) fs s2
        have := hk b' g' H' s2 G'
        unfold Ph
        rw [tk, show L.length - (L.take i ++ [d]).length = m by rw [List.length_append, List.length_singleton]; omega]
        exact this
/-- while the consumer goes on the generator's things are pinned -/
theorem Slp.pinned {c : GCx} {X : Cx} {pins : List (Addr × Obj)} {L : List PyData} {gs : GenState} {i : Nat} {gc : Gd} {Hc : Hp} {fp : List Addr} {σc : L2.St} {s : Shared} (S : Slp c X pins L gs i gc Hc fp s) (I : Inv X pins σc Hc s) : Inv X (pins ++ pinsAt fp s.heap) σc Hc s := by
  obtain ⟨ip, g, ρ, w, σ, H, b, sY, rfl, G, hw, hF, hfp, hgo⟩ := S.ex
  refine I.pins_of fun p hp => (List.mem_append.mp hp).elim (fun z => I.pin p (List.mem_append_right _ z)) fun z => ?_
  obtain ⟨ha, e⟩ := of_pinsAt z
  obtain ⟨h1, h2, o, _, e2, d⟩ := hfp p.1 ha
  rw [e] at e2
  cases e2
  refine ⟨e, h1, h2.loc, fun zf => ?_, d⟩
  obtain ⟨_, o, ho, _⟩ := I.ok.funs.mem zf
  exact h2.old o ho
/-- .. and stand behind it as before -/
theorem Slp.after {c : GCx} {X : Cx} {pins : List (Addr × Obj)} {L : List PyData} {gs : GenState} {i : Nat} {gc gc' : Gd} {Hc Hc' : Hp} {fp : List Addr} {σc σc' : L2.St} {s s' : Shared} (S : Slp c X pins L gs i gc Hc fp s) (x : Xt0 gc gc') (I : Inv X (pins ++ pinsAt fp s.heap) σc' Hc' s') : Slp c X pins L gs i gc' Hc' fp s' := by
  obtain ⟨ip, g, ρ, w, σ, H, b, sY, rfl, G, hw, hF, hfp, hgo⟩ := S.ex
  refine ⟨ip, g, ρ, w, σ, H, b, sY, rfl, G, hw, fun a o e => x.ex a o (hF a o e), fun a ha => ?_, hgo⟩
  obtain ⟨h1, h2, o, e1, e2, d⟩ := hfp a ha
  have q := I.pin (a, o) (List.mem_append_right _ (List.mem_append_right _ (mem_pinsAt ha e2)))
  exact ⟨q.2.1, h2, o, e1, q.1, d⟩
end Tg

set_option Elab.async false
set_option linter.all false
set_option maxRecDepth 100000
set_option maxHeartbeats 4000000
namespace Tg
open PySem PySem.Spec PyProof.Rows L2 Td GenW
/-! ### for x in g(..) -/
def iGen (gf : List PyData → Option (List PyData)) (fa : FA) : FA := fun ρ w => (fa ρ w).bind fun ds w1 => match gf ds with
  | some L => .ok L w1
  | none => .no
def nx0 (f : FS) : FS := fun ρ w => match f ρ w with
  | .ex _ _ _ _ => .no
  | o => o
theorem Made.own {X : Cx} {pins : List (Addr × Obj)} {σ : L2.St} {H : Hp} {s s' : Shared} {gc : Gd} {L : List PyData} {u : Value} (I : Inv X pins σ H s) (hex : X.ex = []) (M : Made X.prog X.w X.K X.mg X.base X.stack X.A H s gc L u s') :
    ∃ c a0 gi go gs fp, u = .ref a0 ∧ Own c X a0 gi go ∧ (∃ vs, go.data = .fields vs ∧ go.cls = .type "generator") ∧ Lo X pins c.n0 [] ∧ Inv X pins σ H s' ∧ s'.gens[gi]? = some gs ∧ (∀ a ∈ fp, c.n0 ≤ a) ∧ Slp c X pins L gs 0 gc H fp s' := by
  obtain ⟨c, a0, gi, code, go, g, ρ, σg, rfl, ok, ⟨e1, e2, e3, e4, e5, e6, e7, e8, e9⟩, ⟨hgen, hgo⟩, hgs, hos, hba, hkp, G, hF, hn, seg⟩ := M.ex
  have lo : Lo X pins c.n0 [] := by
    rw [e8]
    refine ⟨I.sz, .inl I.lt, fun x a e => ?_, fun p hp => .inl (Heap.lt_size (I.pin p hp).1), hex, fun a z => by cases z⟩
    obtain ⟨v, o, ho, _⟩ := I.cell x a e
    exact Heap.lt_size ho
  have own0 : ownA g = [] := by unfold ownA; rw [hn]; rfl
  refine ⟨c, a0, gi, go, .fresh code, fpOf c [] g, rfl, ⟨ok, ⟨e1, e2, e3, e4, e5, e6⟩, e7, e9, hgen⟩, hgo, lo, I.call' (ch := []) hos (Un.kept hkp) (I.hok.kept hkp) hba (fun b z => by simp at z), hgs, fun a ha => ?_, ⟨[], g, ρ, [], σg, H, _, s', rfl, G, rfl, hF, fun a ha => ?_, fun b' g' H' s2 G' => ?_⟩⟩
  · unfold fpOf at ha
    rw [own0, List.append_nil] at ha
    rcases List.mem_cons.mp ha with rfl | ha
    · exact Nat.le_refl _
    · obtain ⟨p, hp, rfl⟩ := List.mem_map.mp ha
      exact (G.lo p hp).1
  · unfold fpOf at ha
    rw [own0, List.append_nil] at ha
    rcases List.mem_cons.mp ha with rfl | ha
    · refine ⟨G.inv.free, lo.pl (Nat.le_refl _) (by simp), ?_⟩
      obtain ⟨m, ⟨o, es, ep, e, d, _⟩, _⟩ := G.inv.loc
      exact ⟨o, e, e, fun v z => by rw [d] at z; cases z⟩
    · obtain ⟨p, hp, rfl⟩ := List.mem_map.mp ha
      obtain ⟨p1, p2, p3, p4, p5⟩ := G.inv.pin p (mid_mem hp)
      exact ⟨p2, lo.pl (G.lo p hp).1 (by simp), _, p1, p1, p5⟩
  · rw [List.take_zero]
    show SegW _ _ _ _ _ _ _
    rw [e1, e2]
    exact seg b' g' H' s2 G'
theorem Slp.sz {c : GCx} {X : Cx} {pins : List (Addr × Obj)} {L : List PyData} {gs : GenState} {i : Nat} {gc : Gd} {Hc : Hp} {fp : List Addr} {s : Shared} (S : Slp c X pins L gs i gc Hc fp s) : c.n0 ≤ s.heap.objs.size := by
  obtain ⟨ip, g, ρ, w, σ, H, b, sY, rfl, G, hw, hF, hfp, hgo⟩ := S.ex
  obtain ⟨_, _, o, _, e, _⟩ := hfp c.n0 List.mem_cons_self
  exact Nat.le_of_lt (Heap.lt_size e)
section
variable {X : Cx} {W : WX}
/-- the value of g(..): a generator that has not begun -/
theorem call_genZ {x : Str} {f : Addr} {fd : FuncData} {ps : List Str} {gf : List PyData → Option (List PyData)} {k : Nat} {e : Expr} {es : List Expr} {p cpos : Pos} {fa : FA}
    (F : GnF X.prog X.w X.K X.mg X.base k f fd ps gf) (hr : Room k X.A) (hgu : X.A.guards = some []) (hgl : Gl X x) (hm : X.mg x = some (.ref f)) (hk : PySem.W.keepIn X.K (.ref f) = true) (hb0 : Binds X.K fd ps []) (ha : PAf X W (e :: es) fa)
    {pins : List (Addr × Obj)} {s : Shared} {σ : L2.St} {H : Hp} {g : Gd} {Q : Value → Shared → Prop} (hex : X.ex = []) (I : Inv X pins σ H s) (hK : g.K = X.K)
    {Z : Gd → List PyData → Ws → Prop} (want : lX X.K W DqA fa σ H (fun vs H1 => ∃ g1 ds w1 L, gf ds = some L ∧ Xt g g1 ∧ Rp g1 H1 w1 ∧ DqA g1 vs ds ∧ Z g1 L w1))
    (h : ∀ L w1 g1 H1 s' c a0 gi go gs fp, Xt g g1 → Rp g1 H1 w1 → Z g1 L w1 → Own c X a0 gi go → (∃ vs, go.data = .fields vs ∧ go.cls = .type "generator") → Lo X pins c.n0 [] → Inv X pins σ H1 s' → s'.gens[gi]? = some gs → (∀ a ∈ fp, c.n0 ≤ a) → Slp c X pins L gs 0 g1 H1 fp s' → Q (.ref a0) s')
    (hdb : (x == ("__debug__" : Str)) = false := by decide) (he : starEach (e :: es) X.env = (false, eval e X.env) :: starEach es X.env := by rfl) (hpl : (backTo cpos (starEach es X.env)).any (·.1) = false := by rfl) :
    wpAny (model X.prog X.w) X.A (eval (.Call (.Name x p) (e :: es) [] cpos) X.env) Q X.xe s := by
  refine wpAny_Call_Name_kw (ld_glob I hgl hm ?_ hdb)
  refine PySem.W.callWith_K (h₀ := X.base) I.ok.mod.kin hk (thn (ha.run cpos pins s σ H _ I want) fun us s1 ⟨vs, H1, I1, rv, q⟩ => ⟨I1.kIn, ?_⟩) he hpl
  obtain ⟨g1, ds, w1, L, hgf, xt, r1, d, z⟩ := q
  have hl : us.length = ps.length := by rw [← rv.length, d.length]; exact F.len ds L hgf
  have bt := hb0 s1 us I1.kIn (by rw [List.append_nil]; exact hl)
  rw [List.append_nil] at bt
  refine wpAny_call (codeAny_mono (F.run X.A X.stack s1 H1 ⟨us, []⟩ us vs g1 ds L hr hgu I1.env0 bt rv (xt.k.trans hK) r1.fro d hgf) fun r s' hq => ?_)
  cases r with
  | error e => exact False.elim hq
  | ok fl =>
    cases fl with
    | ret u =>
      obtain ⟨c, a0, gi, go, gs, fp, rfl, ow, hgo, lo, I', hgs, hfp, S⟩ := Made.own I1 hex hq
      exact h L w1 g1 H1 s' c a0 gi go gs fp xt r1 z ow hgo lo I' hgs hfp S
    | next => exact False.elim hq
    | brk => exact False.elim hq
    | cont => exact False.elim hq
theorem call_gen {x : Str} {f : Addr} {fd : FuncData} {ps : List Str} {gf : List PyData → Option (List PyData)} {k : Nat} {e : Expr} {es : List Expr} {p cpos : Pos} {fa : FA}
    (F : GnF X.prog X.w X.K X.mg X.base k f fd ps gf) (hr : Room k X.A) (hgu : X.A.guards = some []) (hgl : Gl X x) (hm : X.mg x = some (.ref f)) (hk : PySem.W.keepIn X.K (.ref f) = true) (hb0 : Binds X.K fd ps []) (ha : PAf X W (e :: es) fa)
    {pins : List (Addr × Obj)} {s : Shared} {σ : L2.St} {H : Hp} {ρ : Ev} {w : Ws} {g : Gd} {Q : Value → Shared → Prop} (hex : X.ex = []) (I : Inv X pins σ H s) (hK : g.K = X.K) (r : Rp g H w) (en : EnR g σ ρ)
    {D : Ends} {kk : List PyData → Ws → Os} (ho : oSt W g D ((iGen gf fa ρ w).thenS ρ kk))
    (h : ∀ L w1 g1 H1 s' c a0 gi go gs fp, Xt g g1 → Rp g1 H1 w1 → oSt W g1 D (kk L w1) → Own c X a0 gi go → (∃ vs, go.data = .fields vs ∧ go.cls = .type "generator") → Lo X pins c.n0 [] → Inv X pins σ H1 s' → s'.gens[gi]? = some gs → (∀ a ∈ fp, c.n0 ≤ a) → Slp c X pins L gs 0 g1 H1 fp s' → Q (.ref a0) s')
    (hdb : (x == ("__debug__" : Str)) = false := by decide) (he : starEach (e :: es) X.env = (false, eval e X.env) :: starEach es X.env := by rfl) (hpl : (backTo cpos (starEach es X.env)).any (·.1) = false := by rfl) :
    wpAny (model X.prog X.w) X.A (eval (.Call (.Name x p) (e :: es) [] cpos) X.env) Q X.xe s := by
  have ho : oSt W g D ((fa ρ w).thenS ρ fun ds w1 => match gf ds with | some L => kk L w1 | none => .no) := by
    unfold iGen at ho
    cases q : fa ρ w with
    | ok ds w1 =>
      rw [q] at ho
      simp only [Oc.bind, Oc.thenS] at ho ⊢
      cases hq : gf ds with
      | some L => rw [hq] at ho; exact ho
      | none => rw [hq] at ho; exact ho
    | ex c0 f0 w1 => rw [q] at ho; exact ho
    | no => rw [q] at ho; exact ho
  refine call_genZ (Z := fun g1 L w1 => oSt W g1 D (kk L w1)) F hr hgu hgl hm hk hb0 ha hex I hK (lX_then hK r en ho fun vs H1 g1 ds w1 xt r1 e1 d z => ?_) h hdb he hpl
  cases hq : gf ds with
  | some L => rw [hq] at z; exact ⟨g1, ds, w1, L, hq, xt, r1, d, z⟩
  | none => rw [hq] at z; exact z.elim
/-- .. within an expression -/
theorem call_genE {x : Str} {f : Addr} {fd : FuncData} {ps : List Str} {gf : List PyData → Option (List PyData)} {k : Nat} {e : Expr} {es : List Expr} {p cpos : Pos} {fa : FA}
    (F : GnF X.prog X.w X.K X.mg X.base k f fd ps gf) (hr : Room k X.A) (hgu : X.A.guards = some []) (hgl : Gl X x) (hm : X.mg x = some (.ref f)) (hk : PySem.W.keepIn X.K (.ref f) = true) (hb0 : Binds X.K fd ps []) (ha : PAf X W (e :: es) fa)
    {pins : List (Addr × Obj)} {s : Shared} {σ : L2.St} {H : Hp} {ρ : Ev} {w : Ws} {g : Gd} {Q : Value → Shared → Prop} (hex : X.ex = []) (I : Inv X pins σ H s) (hK : g.K = X.K) (r : Rp g H w) (en : EnR g σ ρ)
    {β γ : Type} {S : Gd → β → γ → Prop} {Q0 : β → Hp → Prop} {kk : List PyData → Ws → Oc γ} (ho : oX W σ S g Q0 ((iGen gf fa ρ w).bind kk))
    (h : ∀ L w1 g1 H1 s' c a0 gi go gs fp, Xt g g1 → Rp g1 H1 w1 → oX W σ S g1 Q0 (kk L w1) → Own c X a0 gi go → (∃ vs, go.data = .fields vs ∧ go.cls = .type "generator") → Lo X pins c.n0 [] → Inv X pins σ H1 s' → s'.gens[gi]? = some gs → (∀ a ∈ fp, c.n0 ≤ a) → Slp c X pins L gs 0 g1 H1 fp s' → Q (.ref a0) s')
    (hdb : (x == ("__debug__" : Str)) = false := by decide) (he : starEach (e :: es) X.env = (false, eval e X.env) :: starEach es X.env := by rfl) (hpl : (backTo cpos (starEach es X.env)).any (·.1) = false := by rfl) :
    wpAny (model X.prog X.w) X.A (eval (.Call (.Name x p) (e :: es) [] cpos) X.env) Q X.xe s := by
  have ho : oX W σ S g Q0 ((fa ρ w).bind fun ds w1 => match gf ds with | some L => kk L w1 | none => .no) := by
    unfold iGen at ho
    cases q : fa ρ w with
    | ok ds w1 =>
      rw [q] at ho
      simp only [Oc.bind] at ho ⊢
      cases hq : gf ds with
      | some L => rw [hq] at ho; exact ho
      | none => rw [hq] at ho; exact ho
    | ex c0 f0 w1 => rw [q] at ho; exact ho
    | no => rw [q] at ho; exact ho
  refine call_genZ (Z := fun g1 L w1 => oX W σ S g1 Q0 (kk L w1)) F hr hgu hgl hm hk hb0 ha hex I hK (lX_bind hK r en ho fun vs H1 g1 ds w1 xt r1 e1 d z => ?_) h hdb he hpl
  cases hq : gf ds with
  | some L => rw [hq] at z; exact ⟨g1, ds, w1, L, hq, xt, r1, d, z⟩
  | none => rw [hq] at z; exact z.elim
theorem psf_forG {x : Str} {f : Addr} {fd : FuncData} {ps : List Str} {gf : List PyData → Option (List PyData)} {k : Nat} {tg e : Expr} {es : List Expr} {body : List Stmt} {p cpos pos : Pos} {fa : FA} {gt : FG} {is : List Nat} {fb : FS}
    (hp : PassesOwn (model X.prog X.w) X.A X.env X.xe) (hc : X.calm = true) (hex : X.ex = [])
    (F : GnF X.prog X.w X.K X.mg X.base k f fd ps gf) (hr : Room k X.A) (hgu : X.A.guards = some []) (hgl : Gl X x) (hm : X.mg x = some (.ref f)) (hk : PySem.W.keepIn X.K (.ref f) = true) (hb0 : Binds X.K fd ps []) (ha : PAf X W (e :: es) fa)
    (hg : PGf X.nox is tg gt) (hb : PSsf X.nox W0 body fb) (hs : ∀ v, foldedSetIterable (.Call (.Name x p) (e :: es) [] cpos) X.env v = pure v := by intro _; rfl)
    (hdb : (x == ("__debug__" : Str)) = false := by decide) (he : starEach (e :: es) X.env = (false, eval e X.env) :: starEach es X.env := by rfl) (hpl : (backTo cpos (starEach es X.env)).any (·.1) = false := by rfl) :
    PSf X W (.For tg (.Call (.Name x p) (e :: es) [] cpos) body [] pos) (sFor (iGen gf fa) gt (nx0 fb)) := by
  refine ⟨fun pins s σ H D I ⟨g, ρ, w, hK, r, en, q⟩ => ?_⟩
  refine wpAny_For (call_gen F hr hgu hgl hm hk hb0 ha hex I hK r en q (fun L w1 g1 H1 s' c a0 gi go gs fp xt r1 z ow hgo lo I' hgs _ S => ?_) hdb he hpl) hs
  refine wpAny_pyIter_gen (ow.gen _ (S.gen ow)) ?_
  refine codeAny_forLoop_any (fun n s3 => ∃ i σ3 ρ3 w3 g3 H3 gs3 fp3, n = L.length - i ∧ i ≤ L.length ∧ Inv X pins σ3 H3 s3 ∧ Xt g1 g3 ∧ Rp g3 H3 w3 ∧ EnR g3 σ3 ρ3 ∧ oSt W g3 D (forL gt (nx0 fb) (L.drop i) ρ3 w3) ∧ s3.gens[gi]? = some gs3 ∧ Slp c X pins L gs3 i g3 H3 fp3 s3) ?_ L.length
    ⟨0, σ, ρ, w1, g1, H1, gs, fp, by simp, Nat.zero_le _, I', Xt.refl _, r1, en.mono xt.toXt0, by rw [List.drop_zero]; exact z, hgs, S⟩
  rintro n s3 ⟨i, σ3, ρ3, w3, g3, H3, gs3, fp3, rfl, hi, I3, x3, r3, e3, z3, hgs3, S3⟩
  refine wpAny_passesOwn hp (thn (resume_ok ow (I.ok.hd hc) hr.depth lo I3 r3 (x3.k.trans (xt.k.trans hK)) hi hgs3 S3 S3.sz) fun rr s4 h4 => ?_)
  rcases h4 with ⟨rfl, hL, H4, g4, x4, I4, r4⟩ | ⟨u, d, v, gs4, fp4, H4, g4, rfl, hd, rv, dq, x4, I4, r4, hsu, hgs4, S4⟩
  · have ei : i = L.length := by
      have := congrArg List.length hL
      rw [List.length_take] at this
      omega
    subst ei
    rw [List.drop_length, forL] at z3
    exact wpAny_execs_nil ⟨σ3, H4, I4, z3 σ3 H4 g4 x4 r4 (e3.mono x4.toXt0)⟩
  · have hlt : i < L.length := (List.getElem?_eq_some_iff.mp hd).1
    have ed : L.drop i = d :: L.drop (i + 1) := by
      rw [List.drop_eq_getElem_cons hlt]
      rw [List.getElem?_eq_getElem hlt] at hd
      rw [Option.some.inj hd]
    rw [ed, forL] at z3
    obtain ⟨vs, hgd, hgc⟩ := hgo
    refine wpAny_passesOwn hp (go_of (S4.gen ow) hgc hgd (by decide) ?_)
    cases hgt : gt d ρ3 w3 with
    | ok ρ5 w5 =>
      rw [hgt] at z3
      have hK4 : g4.K = X.K := x4.k.trans (x3.k.trans (xt.k.trans hK))
      have J4 : Inv X.nox (pins ++ pinsAt fp4 s4.heap) σ3 H4 (killS s4) := inv_heap ((S4.pinned I4).wish _) rfl rfl (bare_kill I4.bare)
      have kA := wpAny_keep (s := s4) (E := X.xe) (hg.run _ (killS s4) σ3 H4 v u (fun σ' H' => ∃ g', Xt g4 g' ∧ Rp g' H' w5 ∧ EnR g' σ' ρ5) J4 rv ⟨g4, ρ3, w3, d, hK4, r4, e3.mono x4.toXt0, dq, by
        rw [hgt]
        exact fun σ' H' g' xg rg eg _ => ⟨g', xg, rg, eg⟩⟩)
      refine wpAny_passesOwn hp (thn kA fun _ s5 ⟨kp5, T5, ⟨σ5, H5, I5, g5, x5, r5, e5⟩, hh5, ho5, hb5⟩ => ?_)
      have I5' : Inv X.nox (pins ++ pinsAt fp4 s4.heap) σ5 H5 s5 := inv_heap I5 hh5 ho5 (hb5 I5.bare)
      have z5 := oSt.mono (x4.trans x5) z3
      simp only at z5
      have kB := wpAny_keep (s := s5) (E := X.xe) (hb.run (pins ++ pinsAt fp4 s4.heap) (killS s5) σ5 H5 { nx := fun σ' H' => ∃ g' ρ' w', Xt g5 g' ∧ Rp g' H' w' ∧ EnR g' σ' ρ' ∧ oSt W g' D (forL gt (nx0 fb) (L.drop (i + 1)) ρ' w'), ct := fun σ' H' => ∃ g' ρ' w', Xt g5 g' ∧ Rp g' H' w' ∧ EnR g' σ' ρ' ∧ oSt W g' D (forL gt (nx0 fb) (L.drop (i + 1)) ρ' w'), bk := D.nx, rt := D.rt } (inv_heap I5' rfl rfl (bare_kill I5'.bare)) ⟨g5, ρ5, w5, x5.k.trans hK4, r5, e5, by
        unfold nx0 at z5
        cases hf : fb ρ5 w5 with
        | nx ρ6 w6 => rw [hf] at z5; exact fun σ' H' g' xg rg eg => ⟨g', ρ6, w6, xg, rg, eg, oSt.mono xg z5⟩
        | ct ρ6 w6 => rw [hf] at z5; exact fun σ' H' g' xg rg eg => ⟨g', ρ6, w6, xg, rg, eg, oSt.mono xg z5⟩
        | bk ρ6 w6 => rw [hf] at z5; exact z5
        | rt d w6 => rw [hf] at z5; exact z5
        | ex ρ6 c6 f6 w6 => rw [hf] at z5; exact z5.elim
        | no => rw [hf] at z5; exact z5.elim⟩)
      refine wpAny_passesOwn hp (thn kB fun fl s7 ⟨kp7, T7, h7, hh7, ho7, hb7⟩ => ?_)
      have gens7 : s7.gens[gi]? = some gs4 := kp7 gi gs4 (kp5 gi gs4 hgs4 hsu) hsu
      have again : ∀ {σ7 : L2.St} {H7 : Hp}, Inv X.nox (pins ++ pinsAt fp4 s4.heap) σ7 H7 T7 → (∃ g' ρ' w', Xt g5 g' ∧ Rp g' H7 w' ∧ EnR g' σ7 ρ' ∧ oSt W g' D (forL gt (nx0 fb) (L.drop (i + 1)) ρ' w')) →
          ∃ m, m < L.length - i ∧ ∃ i σ3 ρ3 w3 g3 H3 gs3 fp3, m = L.length - i ∧ i ≤ L.length ∧ Inv X pins σ3 H3 s7 ∧ Xt g1 g3 ∧ Rp g3 H3 w3 ∧ EnR g3 σ3 ρ3 ∧ oSt W g3 D (forL gt (nx0 fb) (L.drop i) ρ3 w3) ∧ s7.gens[gi]? = some gs3 ∧ Slp c X pins L gs3 i g3 H3 fp3 s7 := fun {σ7 H7} I7 ⟨g7, ρ7, w7, x7, r7, e7, z7⟩ => by
        have I7' : Inv X (pins ++ pinsAt fp4 s4.heap) σ7 H7 s7 := (inv_heap I7 hh7 ho7 (hb7 I7.bare)).unwish
        have xx : Xt g4 g7 := x5.trans x7
        exact ⟨L.length - (i + 1), by omega, i + 1, σ7, ρ7, w7, g7, H7, gs4, fp4, rfl, hlt, I7'.unpinned, x3.trans (x4.trans xx), r7, e7, z7, gens7, S4.after (σc := σ7) xx.toXt0 I7'⟩
      cases fl with
      | next => obtain ⟨σ7, H7, I7, n7⟩ := h7; exact again I7 n7
      | cont => obtain ⟨σ7, H7, I7, n7⟩ := h7; exact again I7 n7
      | brk => obtain ⟨σ7, H7, I7, q7⟩ := h7; exact ⟨σ7, H7, (inv_heap I7 hh7 ho7 (hb7 I7.bare)).unwish.unpinned, q7⟩
      | ret v7 => obtain ⟨x7, σ7, H7, I7, rv7, q7⟩ := h7; exact ⟨x7, σ7, H7, (inv_heap I7 hh7 ho7 (hb7 I7.bare)).unwish.unpinned, rv7, q7⟩
    | ex c0 f0 w0 => rw [hgt] at z3; exact z3.elim
    | no => rw [hgt] at z3; exact z3.elim
end
end Tg

set_option Elab.async false
set_option linter.all false
set_option maxRecDepth 100000
set_option maxHeartbeats 4000000
namespace Tg
open PySem PySem.Spec PyProof.Rows L2 Td GenW
/-! ### a block whose ground is what stood before the generator -/
theorem inv_trunc {Y : Cx} {pins : List (Addr × Obj)} {σ : L2.St} {H : Hp} {s : Shared} {n : Nat} (I : Inv Y pins σ H s) (hex : Y.ex = []) (hn : n ≤ Y.s_0.heap.objs.size) (hb : Y.base.objs.size ≤ n) (hf : ∀ b ∈ L2.frs Y.outer, b < n) :
    Inv { Y with s_0 := trunc n Y.s_0 } pins σ H s := by
  have o := I.ok
  have hx : ∀ {b : Addr}, b ∉ Y.ex := fun {b} z => by rw [hex] at z; cases z
  have U := I.base
  refine ⟨⟨o.mod, o.kind, o.glob, o.blt, ?_, o.inj, o.has, fun x c h e => ?_, o.hd, o.frames, o.stk, o.exf, fun b ob e => ?_, ?_, o.noex, o.exfs, funs_trunc hf o.funs, o.frf⟩, I.os, I.bare,
    ⟨fun b ob e => U.keep b ob (trunc_some hn e).2, fun b ob e => U.slot b ob (trunc_some hn e).2, fun b ob e => U.free b ob (trunc_some hn e).2, fun b ob e => U.there b ob (trunc_some hn e).2, U.tups, U.frzs, U.tbls⟩, I.loc, I.cell, I.free, I.freeC, I.pin, I.hok, I.len⟩
  · show (trunc n Y.s_0).heap.objs.size ≤ _
    rw [trunc_size hn]
    exact Nat.le_trans hn o.above
  · show (trunc n Y.s_0).heap.objs.size ≤ _
    rw [trunc_size hn]
    exact Nat.le_trans hn (o.cab x c h e)
  · obtain ⟨q1, q2⟩ := o.bs b ob e
    exact ⟨by show (trunc n Y.s_0).heap.get? b = _; rw [trunc_get (Nat.lt_of_lt_of_le (Heap.lt_size e) hb)]; exact q1, q2⟩
  · show _ ≤ (trunc n Y.s_0).heap.objs.size
    rw [trunc_size hn]
    exact hb
theorem inv_leave {X : Cx} {pins : List (Addr × Obj)} {σ : L2.St} {H H' : Hp} {s s' : Shared} {n : Nat} (I : Inv X pins σ H s) (lo : Lo X pins n []) (ho : s'.os = s.os) (u : Un (L2.frs X.stack) [] H H' (trunc n s).heap s'.heap) (hok : HOk X.prog X.w H' s'.heap) (hg : AllBare s'.gens) : Inv X pins σ H' s' := by
  have cut : ∀ {b o}, s.heap.get? b = some o → b ∉ (List.range s.heap.objs.size).filter (fun b => decide (n ≤ b)) → (trunc n s).heap.get? b = some o := fun {b o} e h => by
    have hb : b < n := Classical.byContradiction fun z => h (List.mem_filter.mpr ⟨List.mem_range.mpr (Heap.lt_size e), decide_eq_true (Nat.le_of_not_lt z)⟩)
    rw [trunc_get hb]
    exact e
  refine I.call' (ch := (List.range s.heap.objs.size).filter fun b => decide (n ≤ b)) ho ⟨fun b o e n hb hc => u.keep b o (cut e hc) n hb (by simp), fun b o e n hb hc => u.slot b o (cut e hc) n hb (by simp), fun b o e n hc => u.free b o (cut e hc) n (by simp), fun b o e hc => u.there b o (cut e hc) (by simp), u.tups, u.frzs, u.tbls⟩ hok hg fun b hb => ?_
  have hn : n ≤ b := of_decide_eq_true (List.mem_filter.mp hb).2
  have p := lo.pl hn (by simp)
  exact ⟨.inr (Nat.le_trans lo.s0 hn), p.loc, p.cel, p.pin⟩
theorem Slp.enter {c : GCx} {X B : Cx} {pins pins' : List (Addr × Obj)} {L : List PyData} {gs : GenState} {i : Nat} {gc gc' : Gd} {Hc Hc' : Hp} {fp : List Addr} {s s' : Shared} (S : Slp c X pins L gs i gc Hc fp s) (x : ∀ a o, gc.F a = some o → gc'.F a = some o)
    (hf : ∀ a ∈ fp, Hc' a = none ∧ Pl B pins' a ∧ ∀ o, s.heap.get? a = some o → s'.heap.get? a = some o) : Slp c B pins' L gs i gc' Hc' fp s' := by
  obtain ⟨ip, g, ρ, w, σ, H, b, sY, rfl, G, hw, hF, hfp, hgo⟩ := S.ex
  refine ⟨ip, g, ρ, w, σ, H, b, sY, rfl, G, hw, fun a o e => x a o (hF a o e), fun a ha => ?_, hgo⟩
  obtain ⟨h1, h2, o, e1, e2, d⟩ := hfp a ha
  obtain ⟨q1, q2, q3⟩ := hf a ha
  exact ⟨q1, q2, o, e1, q3 o e2, d⟩
theorem Slp.fpLt {c : GCx} {X : Cx} {pins : List (Addr × Obj)} {L : List PyData} {gs : GenState} {i : Nat} {gc : Gd} {Hc : Hp} {fp : List Addr} {s : Shared} (S : Slp c X pins L gs i gc Hc fp s) : ∀ a ∈ fp, a < s.heap.objs.size ∧ Hc a = none := by
  obtain ⟨ip, g, ρ, w, σ, H, b, sY, rfl, G, hw, hF, hfp, hgo⟩ := S.ex
  intro a ha
  obtain ⟨h1, h2, o, e1, e2, d⟩ := hfp a ha
  exact ⟨Heap.lt_size e2, h1⟩
theorem cloFrom_lt {cells : List (Str × Addr)} {names : List (Str × NameKind)} {n : Nat} (h : ∀ y ∈ names, y.2 = .free → ∃ c, cells.lookup y.1 = some c) (hc : ∀ x c, cells.lookup x = some c → c < n) : ∀ x c, (cloFrom cells names []).lookup x = some c → c < n := fun x c e => by
  rcases cloFrom_mem (PySem.mem_of_lookup e) with z | ⟨z1, z2⟩
  · cases z
  · obtain ⟨c', hc'⟩ := h _ z1 rfl
    have hc' : cells.lookup x = some c' := hc'
    rw [hc'] at z2
    subst z2
    exact hc x c hc'
end Tg

set_option Elab.async false
set_option linter.all false
set_option maxRecDepth 100000
set_option maxHeartbeats 4000000
namespace Tg
open PySem PySem.Spec PyProof.Rows L2 Td GenW
/-- one turn of a comprehension's block over a generator -/
theorem turnG {B : Cx} {pins : List (Addr × Obj)} {σ : L2.St} {elt tg : Expr} {ifs : List Expr} {vs : List Nat} {gt : FG} {tt : FT} {fe : FE} {is : List Nat} {ρ : Ev} {w5 : Ws} {g5 : Gd} {H5 : Hp} {s5 : Shared} {L : List PyData} {i : Nat} {ba : List Addr}
    {c : GCx} {a0 : Addr} {gi : Nat} {go : Obj} {gs : GenState} {fp : List Addr} (hx : B.xe = fun _ _ => False) (hd : B.A.handled = none) (hdp : B.A.depth < recursionLimit)
    (hg : PGf B is tg gt) (ht : PTs B ifs (lT B.K W0 tt)) (he : PF B W0 elt fe) (his : ∀ i ∈ is, i ∈ vs)
    (hK : g5.K = B.K) (r5 : Rp g5 H5 w5) (en : EnR g5 (wipe σ vs) (wipeE ρ vs))
    (ow : Own c B a0 gi go) (hgo : ∃ vs, go.data = .fields vs ∧ go.cls = .type "generator") (lo : Lo B pins c.n0 ba) (I5 : Inv B pins (wipe σ vs) H5 s5) (hi : i ≤ L.length) (hgs : s5.gens[gi]? = some gs) (S : Slp c B pins L gs i g5 H5 fp s5)
    {R0 : Shared → Prop} {R1 : Shared → Prop} {R2 : Value → Shared → Prop} {E1 E2 E3 E4 E5 : Value → Shared → Prop}
    (hstop : ∀ H6 g6 s6, i = L.length → Xt g5 g6 → Inv B pins (wipe σ vs) H6 s6 → Rp g6 H6 w5 → R0 s6)
    (hgt : ∀ d, L[i]? = some d → ∃ ρ7 w7 b w8, gt d (wipeE ρ vs) w5 = .ok ρ7 w7 ∧ tt ρ7 w7 = .ok b w8 ∧ (b = true → ∃ y w9, fe ρ7 w8 = .ok y w9))
    (hno : ∀ d ρ7 w7 w8 H9 g9 s9 gs6 fp6, L[i]? = some d → gt d (wipeE ρ vs) w5 = .ok ρ7 w7 → tt ρ7 w7 = .ok false w8 → Xt g5 g9 → Inv B pins (wipe σ vs) H9 s9 → Rp g9 H9 w8 → s9.gens[gi]? = some gs6 → Slp c B pins L gs6 (i + 1) g9 H9 fp6 s9 → R1 s9)
    (hyes : ∀ d ρ7 w7 w8 y w9 u yv σ8 H9 g9 s9 gs6 fp6 PP, L[i]? = some d → gt d (wipeE ρ vs) w5 = .ok ρ7 w7 → tt ρ7 w7 = .ok true w8 → fe ρ7 w8 = .ok y w9 → Xt g5 g9 → RelV yv u → Dq g9 yv y → Inv B (pins ++ PP) σ8 H9 s9 → Rp g9 H9 w9 → s9.gens[gi]? = some gs6 → isSusp gs6 = true →
      (∀ {g' H' s'}, Xt0 g9 g' → Inv B (pins ++ PP) σ8 H' s' → Inv B pins (wipe σ vs) H' s' ∧ Slp c B pins L gs6 (i + 1) g' H' fp6 s') → R2 u s9) :
    wpAny (model B.prog B.w) B.A (pyNext (.ref a0)) (fun r s6 => match r with
      | none => R0 s6
      | some v => wpAny (model B.prog B.w) B.A (letOwnedTupleGo tg (.ref a0) v) (fun _ s7 => wpAny (model B.prog B.w) B.A (assign tg B.env v) (fun _ s8 =>
          wpAny (model B.prog B.w) B.A (forIn ifs true fun c r => if r = true then do let ok ← isTrue c B.env (eval c B.env); pure (ForInStep.yield ok) else pure (ForInStep.yield r)) (fun ok s9 =>
            if ok = true then wpAny (model B.prog B.w) B.A (eval elt B.env) R2 E5 s9 else R1 s9) E4 s8) E3 s7) E2 s6) E1 s5 := by
  refine thn (resume_ok ow hd hdp lo I5 r5 hK hi hgs S S.sz) fun rr s6 h6 => ?_
  rcases h6 with ⟨rfl, hL, H6, g6, x6, I6, r6⟩ | ⟨u, d, v, gs6, fp6, H6, g6, rfl, hd6, rv, dq, x6, I6, r6, hsu, hgs6, S6⟩
  · have ei : i = L.length := by
      have := congrArg List.length hL
      rw [List.length_take] at this
      omega
    exact hstop H6 g6 s6 ei x6 I6 r6
  · obtain ⟨vs', hgd, hgc⟩ := hgo
    refine go_of (S6.gen ow) hgc hgd (by decide) ?_
    have hK6 : g6.K = B.K := x6.k.trans hK
    obtain ⟨ρ7, w7, b, w8, egt, ett, efe⟩ := hgt d hd6
    have J6 : Inv B (pins ++ pinsAt fp6 s6.heap) (wipe σ vs) H6 (killS s6) := inv_heap (S6.pinned I6) rfl rfl (bare_kill I6.bare)
    have e6 : EnR g6 (wipe σ vs) (wipeE ρ vs) := en.mono x6.toXt0
    have kA := hg.run _ (killS s6) _ H6 v u (fun σ' H' => wipe σ' vs = wipe σ vs ∧ ∃ g', Xt g6 g' ∧ Rp g' H' w7 ∧ EnR g' σ' ρ7) J6 rv ⟨g6, wipeE ρ vs, w5, d, hK6, r6, e6, dq, by
      rw [egt]
      exact fun σ' H' g' xg rg eg sm => ⟨wipe_of_sm sm his, g', xg, rg, eg⟩⟩
    rw [hx] at kA
    refine thn (wpAny_keep (s := s6) kA) fun _ s7 ⟨kp7, T7, ⟨σ7, H7, I7, hw7, g7, x7, r7, e7⟩, hh7, ho7, hb7⟩ => ?_
    have I7' : Inv B (pins ++ pinsAt fp6 s6.heap) σ7 H7 s7 := inv_heap I7 hh7 ho7 (hb7 I7.bare)
    have hgs7 : s7.gens[gi]? = some gs6 := kp7 gi gs6 hgs6 hsu
    have kB := ht.run (pins ++ pinsAt fp6 s6.heap) (killS s7) σ7 H7 (fun b' H' => b' = b ∧ ∃ g', Xt g7 g' ∧ Rp g' H' w8) (inv_heap I7' rfl rfl (bare_kill I7'.bare)) ⟨g7, ρ7, w7, x7.k.trans hK6, r7, e7, by
      rw [ett]
      exact fun b' H' g' xg rg eb => ⟨eb, g', xg, rg⟩⟩
    rw [hx] at kB
    refine thn (wpAny_keep (s := s7) kB) fun bb s8 ⟨kp8, T8, ⟨H8, I8, eb, g8, x8, r8⟩, hh8, ho8, hb8⟩ => ?_
    subst eb
    have I8' : Inv B (pins ++ pinsAt fp6 s6.heap) σ7 H8 s8 := inv_heap I8 hh8 ho8 (hb8 I8.bare)
    have hgs8 : s8.gens[gi]? = some gs6 := kp8 gi gs6 hgs7 hsu
    have x68 : Xt g6 g8 := x7.trans x8
    have hl : (wipe σ vs).length = σ7.length := by rw [← hw7, wipe_length]
    have back : ∀ {g' : Gd} {H' : Hp} {s' : Shared}, Xt0 g6 g' → Inv B (pins ++ pinsAt fp6 s6.heap) σ7 H' s' → Inv B pins (wipe σ vs) H' s' ∧ Slp c B pins L gs6 (i + 1) g' H' fp6 s' := fun {g' H' s'} x I' => by
      refine ⟨I'.unpinned.weak hl (fun j v e => ?_), S6.after (σc := σ) x I'⟩
      rw [← hw7] at e
      exact (wipe_some e).1
    cases bb with
    | false =>
      obtain ⟨I9, S9⟩ := back x68.toXt0 I8'
      simp only [Bool.false_eq_true, if_false]
      exact hno d ρ7 w7 w8 H8 g8 s8 gs6 fp6 hd6 egt ett (x6.trans x68) I9 r8 hgs8 S9
    | true =>
      simp only [if_true]
      obtain ⟨y, w9, ey⟩ := efe rfl
      have kC := he.run (pins ++ pinsAt fp6 s6.heap) (killS s8) σ7 H8 (fun yv H' => ∃ g', Xt g8 g' ∧ Rp g' H' w9 ∧ Dq g' yv y) (inv_heap I8' rfl rfl (bare_kill I8'.bare)) ⟨g8, ρ7, w8, x68.k.trans hK6, r8, e7.mono x8.toXt0, by
        rw [ey]
        exact fun v' H' g' xg rg dv => ⟨g', xg, rg, dv⟩⟩
      rw [hx] at kC
      refine thn (wpAny_keep (s := s8) kC) fun uu s9 ⟨kp9, T9, ⟨yv, H9, I9, rv9, g9, x9, r9, d9⟩, hh9, ho9, hb9⟩ => ?_
      have I9' : Inv B (pins ++ pinsAt fp6 s6.heap) σ7 H9 s9 := inv_heap I9 hh9 ho9 (hb9 I9.bare)
      exact hyes d ρ7 w7 w8 y w9 uu yv σ7 H9 g9 s9 gs6 fp6 _ hd6 egt ett ey (x6.trans (x68.trans x9)) rv9 d9 I9' r9 (kp9 gi gs6 hgs8 hsu) hsu fun {g' H' s'} x I' => back ((x68.trans x9).toXt0.trans x) I'
end Tg

set_option Elab.async false
set_option linter.all false
set_option maxRecDepth 100000
set_option maxHeartbeats 4000000
namespace Tg
open PySem PySem.Spec PyProof.Rows L2 Td GenW
def ceOf (X : Cx) (scope : Scope) (n : Nat) : Env := compEnvC scope (cellsFrom (n + 1) scope.names (cloFrom X.env.cells scope.names [])) n X.env
def blkS (s : Shared) (scope : Scope) : Shared := { s with heap := pushCells (s.heap.push { cls := .type "dict", data := .dict #[] }) scope.names }
def blkB (X : Cx) (s : Shared) (H : Hp) (scope : Scope) (n : Nat) : Cx := X.blk (trunc n s) H scope (ceOf X scope s.heap.objs.size) []
theorem blk_setup {X : Cx} {pins : List (Addr × Obj)} {σ : L2.St} {H3 : Hp} {s3 : Shared} {scope : Scope} {own : List (Str × Nat)} {c : GCx} {a0 : Addr} {gi : Nat} {go : Obj} (hN : X.N.Nodup) (ok : BlkOk X.N X.env.scope scope own) (hcl : (scope.names.all fun y => !decide (y.2 = .cell)) = true)
    (I3 : Inv X pins σ H3 s3) (lo : Lo X pins c.n0 []) (ow : Own c X a0 gi go) (hn3 : c.n0 ≤ s3.heap.objs.size) :
    Inv (blkB X s3 H3 scope c.n0) [] (wipe σ (own.map (·.2))) H3 (blkS s3 scope) ∧ Own c (blkB X s3 H3 scope c.n0) a0 gi go ∧ (∀ b o, s3.heap.get? b = some o → (blkS s3 scope).heap.get? b = some o) ∧
    ∀ pins' ba, (∀ p ∈ pins', p.1 ∈ ba) → (∀ a ∈ ba, c.n0 ≤ a ∧ (a = s3.heap.objs.size ∨ ∃ o, (a, o) ∈ pins')) → s3.heap.objs.size ∈ ba → Lo (blkB X s3 H3 scope c.n0) pins' c.n0 ba := by
  have I4 := block_start (fp := []) I3 ok hN (fun b hb => absurd hb (by simp))
  have cn := cells_none (l := scope.names) (s3.heap.objs.size + 1) hcl (cloFrom X.env.cells scope.names [])
  have hfree : ∀ y ∈ scope.names, y.2 = .free → ∃ c, X.env.cells.lookup y.1 = some c := fun y hy e => by
    rcases ok.free y hy e with k | k
    · exact I3.ok.has _ (.inl k)
    · exact I3.ok.has _ (.inr k)
  refine ⟨inv_trunc (n := c.n0) I4 rfl hn3 (by have := ow.ok.bsz; rw [ow.si.base] at this; exact this) (by have := ow.ok.frs; rw [ow.si.outer] at this; exact this), ⟨ow.ok, ⟨ow.si.P, ow.si.w, ow.si.K, ow.si.mg, ow.si.base, ow.si.outer⟩, ow.A, ow.pn, ow.gen⟩, fun b o e => pushCells_keeps _ _ _ _ (Heap.get?_push_of_some _ e), fun pins' ba h1 h2 h3 => ?_⟩
  refine ⟨Nat.le_of_eq (trunc_size hn3), .inr h3, fun x b e => ?_, fun p hp => .inr (h1 p ?_), rfl, fun a ha => ?_⟩
  · have e : (cellsFrom (s3.heap.objs.size + 1) scope.names (cloFrom X.env.cells scope.names [])).lookup x = some b := e
    rw [cn] at e
    exact cloFrom_lt hfree lo.cel x b e
  · exact (show p ∈ ([] : List (Addr × Obj)) ++ pins' from hp)
  · obtain ⟨q1, q2⟩ := h2 a ha
    refine ⟨q1, q2.imp id fun ⟨o, q⟩ => ⟨o, ?_⟩⟩
    exact (show (a, o) ∈ ([] : List (Addr × Obj)) ++ pins' from q)
theorem lcL_nox {gt : FG} {tt : FT} {fe : FE} {ρ : Ev} {c0 : Value} {f0 : List (Str × PyData)} {w0 : Ws} : ∀ (L : List PyData) (w : Ws) (acc : List PyData), lcL gt tt fe ρ L w acc ≠ .ex c0 f0 w0
  | [], w, acc, h => by rw [lcL] at h; cases h
  | d :: ds, w, acc, h => by
    rw [lcL] at h
    cases h1 : gt d ρ w with
    | ok ρ7 w7 =>
      rw [h1] at h
      simp only at h
      cases h2 : tt ρ7 w7 with
      | ok b w8 =>
        rw [h2] at h
        cases b with
        | false => exact lcL_nox ds _ _ h
        | true =>
          simp only at h
          cases h3 : fe ρ7 w8 with
          | ok y w9 =>
            rw [h3] at h
            simp only at h
            by_cases hz : acc.length < sizeLine
            · rw [if_pos hz] at h; exact lcL_nox ds _ _ h
            · rw [if_neg hz] at h; cases h
          | ex c0 f0 w0 => rw [h3] at h; cases h
          | no => rw [h3] at h; cases h
      | ex c0 f0 w0 => rw [h2] at h; cases h
      | no => rw [h2] at h; cases h
    | ex c0 f0 w0 => rw [h1] at h; cases h
    | no => rw [h1] at h; cases h
theorem lcL_step {gt : FG} {tt : FT} {fe : FE} {ρ : Ev} {L : List PyData} {i : Nat} {w w1 : Ws} {acc out : List PyData} {wo : Ws} {d : PyData} (hd : L[i]? = some d) (z : lcL gt tt fe ρ (L.drop i) w acc = .ok out wo) :
    ∃ ρ7 w7 b w8, gt d ρ w = .ok ρ7 w7 ∧ tt ρ7 w7 = .ok b w8 ∧ (b = true → ∃ y w9, fe ρ7 w8 = .ok y w9) := by
  have hlt : i < L.length := (List.getElem?_eq_some_iff.mp hd).1
  have ed : L.drop i = d :: L.drop (i + 1) := by
    rw [List.drop_eq_getElem_cons hlt]
    rw [List.getElem?_eq_getElem hlt] at hd
    rw [Option.some.inj hd]
  rw [ed, lcL] at z
  cases h1 : gt d ρ w with
  | ok ρ7 w7 =>
    rw [h1] at z
    simp only at z
    cases h2 : tt ρ7 w7 with
    | ok b w8 =>
      rw [h2] at z
      refine ⟨ρ7, w7, b, w8, rfl, h2, fun e => ?_⟩
      subst e
      simp only at z
      cases h3 : fe ρ7 w8 with
      | ok y w9 => exact ⟨y, w9, rfl⟩
      | ex c0 f0 w0 => rw [h3] at z; cases z
      | no => rw [h3] at z; cases z
    | ex c0 f0 w0 => rw [h2] at z; cases z
    | no => rw [h2] at z; cases z
  | ex c0 f0 w0 => rw [h1] at z; cases z
  | no => rw [h1] at z; cases z
theorem lcL_no {gt : FG} {tt : FT} {fe : FE} {ρ : Ev} {L : List PyData} {i : Nat} {w w7 w8 : Ws} {acc : List PyData} {d : PyData} {ρ7 : Ev} (hd : L[i]? = some d) (h1 : gt d ρ w = .ok ρ7 w7) (h2 : tt ρ7 w7 = .ok false w8) :
    lcL gt tt fe ρ (L.drop i) w acc = lcL gt tt fe ρ (L.drop (i + 1)) w8 acc := by
  have hlt : i < L.length := (List.getElem?_eq_some_iff.mp hd).1
  have ed : L.drop i = d :: L.drop (i + 1) := by
    rw [List.drop_eq_getElem_cons hlt]
    rw [List.getElem?_eq_getElem hlt] at hd
    rw [Option.some.inj hd]
  rw [ed, lcL, h1]
  simp only
  rw [h2]
theorem lcL_yes {gt : FG} {tt : FT} {fe : FE} {ρ : Ev} {L : List PyData} {i : Nat} {w w7 w8 w9 wo : Ws} {acc out : List PyData} {d y : PyData} {ρ7 : Ev} (hd : L[i]? = some d) (h1 : gt d ρ w = .ok ρ7 w7) (h2 : tt ρ7 w7 = .ok true w8) (h3 : fe ρ7 w8 = .ok y w9)
    (z : lcL gt tt fe ρ (L.drop i) w acc = .ok out wo) : acc.length < sizeLine ∧ lcL gt tt fe ρ (L.drop (i + 1)) w9 (acc ++ [y]) = .ok out wo := by
  have hlt : i < L.length := (List.getElem?_eq_some_iff.mp hd).1
  have ed : L.drop i = d :: L.drop (i + 1) := by
    rw [List.drop_eq_getElem_cons hlt]
    rw [List.getElem?_eq_getElem hlt] at hd
    rw [Option.some.inj hd]
  rw [ed, lcL, h1] at z
  simp only at z
  rw [h2] at z
  simp only at z
  rw [h3] at z
  simp only at z
  by_cases hz : acc.length < sizeLine
  · rw [if_pos hz] at z
    exact ⟨hz, z⟩
  · rw [if_neg hz] at z; cases z
section
variable {X : Cx} {W : WX}
theorem pf_lcG {x : Str} {f : Addr} {fd : FuncData} {ps : List Str} {gf : List PyData → Option (List PyData)} {k : Nat} {elt tg e : Expr} {es : List Expr} {ifs : List Expr} {scope : Scope} {own : List (Str × Nat)} {p cpos pos : Pos} {fa : FA} {gt : FG} {tt : FT} {fe : FE} {is : List Nat}
    (hc : X.calm = true) (hN : X.N.Nodup) (hex : X.ex = [])
    (F : GnF X.prog X.w X.K X.mg X.base k f fd ps gf) (hr : Room k X.A) (hgu : X.A.guards = some []) (hgl : Gl X x) (hm : X.mg x = some (.ref f)) (hk : PySem.W.keepIn X.K (.ref f) = true) (hb0 : Binds X.K fd ps []) (ha : PAf X W (e :: es) fa)
    (ok : BlkOk X.N X.env.scope scope own) (hcl : (scope.names.all fun y => !decide (y.2 = .cell)) = true)
    (hg : ∀ (s : Shared) (H : Hp) (C : Addr) (cl : List (Str × Addr)) (fp : List Addr), PGf (X.blk s H scope (compEnvC scope cl C X.env) fp) is tg gt)
    (ht : ∀ (s : Shared) (H : Hp) (C : Addr) (cl : List (Str × Addr)) (fp : List Addr), PTs (X.blk s H scope (compEnvC scope cl C X.env) fp) ifs (lT X.K W0 tt))
    (he : ∀ (s : Shared) (H : Hp) (C : Addr) (cl : List (Str × Addr)) (fp : List Addr), PF (X.blk s H scope (compEnvC scope cl C X.env) fp) W0 elt fe)
    (hs : ∀ v, foldedSetIterable (.Call (.Name x p) (e :: es) [] cpos) X.env v = pure v := by intro _; rfl) (his : ∀ i ∈ is, i ∈ own.map (·.2) := by decide)
    (hdb : (x == ("__debug__" : Str)) = false := by decide) (hst : starEach (e :: es) X.env = (false, eval e X.env) :: starEach es X.env := by rfl) (hpl : (backTo cpos (starEach es X.env)).any (·.1) = false := by rfl) :
    PF X W (.ListComp elt [⟨tg, .Call (.Name x p) (e :: es) [] cpos, ifs, 0⟩] scope pos) (eLc (iGen gf fa) gt tt fe (own.map (·.2))) := by
  refine ⟨fun pins s σ H Q I ⟨g, ρ, w, hK, r, en, q⟩ => ?_⟩
  rw [eval_ListComp]
  have hfree : ∀ y ∈ scope.names, y.2 = .free → ∃ c, X.env.cells.lookup y.1 = some c := fun y hy e => by
    rcases ok.free y hy e with k | k
    · exact I.ok.has _ (.inl k)
    · exact I.ok.has _ (.inr k)
  refine wpAny_comprehension_free (use := none) rfl hs (closure_ok hfree) ok.kind (fun y hy e => by rw [ok.uniq y hy, e])
    (call_genE F hr hgu hgl hm hk hb0 ha hex I hK r en q (fun L w1 g1 H1 s2 c a0 gi go gs fp xt r1 z ow hgo lo I2 hgs hfn S => ?_) hdb hst hpl)
  refine wpAny_pyIter_gen (ow.gen _ (S.gen ow)) ?_
  refine wpAny_newObj_type (newEnv_comp ?_) (by show 0 ≤ sizeLine; decide)
  generalize hD : s2.heap.objs.size = D
  have hDn : H1 D = none := I2.hok.fresh (Nat.le_of_eq hD)
  generalize hs3 : ({ s2 with heap := s2.heap.push { cls := .type "list", data := .seq ([] : List Value).toArray } } : Shared) = s3
  have I3 : Inv X pins σ (upd H1 D (.lst [])) s3 := by
    rw [← hs3]
    refine I2.laid (t' := s2.toks) (fun b o e => Heap.get?_push_of_some _ e) (Nat.le_of_eq hD) ⟨Nat.zero_le _, [], 0, .nil, ?_⟩
    rw [← hD]
    exact Heap.get?_push_size _ rfl
  have h3 : s3.heap = s2.heap.push { cls := .type "list", data := .seq ([] : List Value).toArray } := by rw [← hs3]
  have hn3 : c.n0 ≤ s3.heap.objs.size := Nat.le_trans S.sz (by rw [h3, Heap.size_push]; exact Nat.le_succ _)
  obtain ⟨I5, owB, k4, loB⟩ := blk_setup hN ok hcl I3 lo ow hn3
  have loB := loB [] [s3.heap.objs.size] (by simp) (by simp [hn3]) (by simp)
  show codeAny _ _ (.compStart (.ListComp elt [⟨tg, .Call (.Name x p) (e :: es) [] cpos, ifs, 0⟩] scope pos) 0 (.ref a0) (.ref D) (ceOf X scope s3.heap.objs.size)) (compPost (model X.prog X.w) X.A X.xe none (EP X pins σ Q) (.ref D) s3.heap.objs.size) (blkS s3 scope)
  have pg : PGf (blkB X s3 (upd H1 D (.lst [])) scope c.n0) is tg gt := hg _ _ _ _ _
  have pt : PTs (blkB X s3 (upd H1 D (.lst [])) scope c.n0) ifs (lT X.K W0 tt) := ht _ _ _ _ _
  have pe : PF (blkB X s3 (upd H1 D (.lst [])) scope c.n0) W0 elt fe := he _ _ _ _ _
  have SB : Slp c (blkB X s3 (upd H1 D (.lst [])) scope c.n0) [] L gs 0 (g1.pn (upd g1.P D (.lst []))) (upd H1 D (.lst [])) fp (blkS s3 scope) := by
    refine S.enter (fun a o e => e) fun a ha => ?_
    obtain ⟨q1, q2⟩ := S.fpLt a ha
    have nD : a ≠ D := by rw [← hD]; exact Nat.ne_of_lt q1
    refine ⟨by rw [upd_ne nD]; exact q2, loB.pl (hfn a ha) (fun z => ?_), fun o e => k4 a o (by rw [h3]; exact Heap.get?_push_of_some _ e)⟩
    rw [List.mem_singleton, h3, Heap.size_push] at z
    rw [z] at q1
    exact absurd q1 (by simp)
  have pD : g1.P D = none := by
    cases h : g1.P D with
    | none => rfl
    | some o => rw [(r1.pin D o h).1] at hDn; cases hDn
  have r0 := pin_new r1 hDn (.lst [])
  have hK1 : g1.K = X.K := xt.k.trans hK
  have en1 : EnR g1 σ ρ := en.mono xt.toXt0
  obtain ⟨out, wo, eo⟩ : ∃ out wo, lcL gt tt fe (wipeE ρ (own.map (·.2))) L w1 [] = .ok out wo := by
    cases h : lcL gt tt fe (wipeE ρ (own.map (·.2))) L w1 [] with
    | ok out wo => exact ⟨out, wo, rfl⟩
    | ex c0 f0 w0 =>
      exact (lcL_nox _ _ _ h).elim
    | no => rw [h] at z; exact z.elim
  rw [eo] at z
  have loop : codeAny (model X.prog X.w) X.A (.compLoop (.ListComp elt [⟨tg, .Call (.Name x p) (e :: es) [] cpos, ifs, 0⟩] scope pos) 0 (.ref a0) (.ref D) (ceOf X scope s3.heap.objs.size)) (compPost (model X.prog X.w) X.A X.xe none (EP X pins σ Q) (.ref D) s3.heap.objs.size) (blkS s3 scope) := by
    refine compLoop_any (fun n s' => ∃ i H' g' w' acc dacc gs' fp', n = L.length - i ∧ i ≤ L.length ∧ Inv (blkB X s3 (upd H1 D (.lst [])) scope c.n0) [] (wipe σ (own.map (·.2))) H' s' ∧ Xt0 g1 g' ∧ g'.P = upd g1.P D (.lst acc) ∧ Rp g' H' w' ∧ DqA g' acc dacc ∧ lcL gt tt fe (wipeE ρ (own.map (·.2))) (L.drop i) w' dacc = .ok out wo ∧ s'.gens[gi]? = some gs' ∧ Slp c (blkB X s3 (upd H1 D (.lst [])) scope c.n0) [] L gs' i g' H' fp' s') ?_ L.length
      ⟨0, _, _, w1, [], [], gs, fp, rfl, Nat.zero_le _, I5, g1.pn_xt _, rfl, r0, .nil, by rw [List.drop_zero]; exact eo, (by show s3.gens[gi]? = _; rw [← hs3]; exact hgs), SB⟩
    rintro n s5 ⟨i, H5, g5, w5, acc, dacc, gs5, fp5, rfl, hi, I5, x5, P5, r5, da5, z5, hgs5, S5⟩
    have e5 : EnR g5 (wipe σ (own.map (·.2))) (wipeE ρ (own.map (·.2))) := (en1.mono x5).wipe _
    refine turnG (B := blkB X s3 (upd H1 D (.lst [])) scope c.n0) (hx := rfl) (I5.ok.hd hc) hr.depth pg pt pe his (x5.k.trans hK1) r5 e5 owB hgo loB I5 hi hgs5 S5 (fun H6 g6 s6 ei x6 I6 r6 => ?_) (fun d hd => lcL_step (w1 := w1) hd z5)
      (fun d ρ7 w7 w8 H9 g9 s9 gs6 fp6 hd h1 h2 x9 I9 r9 hgs9 S9 => ?_) (fun d ρ7 w7 w8 y w9 u yv σ8 H9 g9 s9 gs6 fp6 PP hd h1 h2 h3' x9 rv9 dq9 I9 r9 hgs9 hsu back => ?_)
    · subst ei
      rw [List.drop_length, lcL] at z5
      cases z5
      have P6 : g6.P = upd g1.P D (.lst acc) := x6.p.trans P5
      have nC : H6 s3.heap.objs.size = none := I6.free
      have I7 : Inv X pins σ H6 s6 := inv_leave I3 lo I6.os I6.base I6.hok I6.bare
      obtain ⟨m, hn, _⟩ := I6.loc
      obtain ⟨f0, f1, f2, f3, f4, f5⟩ := I3.fpOk (H' := H6) (Nat.le_refl _) nC
      refine ⟨m, hn, fun h'' sb => ?_⟩
      have pD6 := r6.pin D (.lst acc) (by rw [P6]; exact upd_same)
      have xo : Xt0 g6 { g6 with P := g1.P, F := upd g6.F D (.lst acc) } := ⟨rfl, fun a u e => (upd_ne (ne_of_none e pD6.2.1)).trans e, fun _ _ => rfl, Nat.le_refl _⟩
      exact ⟨.ref D, H6, I7.turned (t' := s6.toks) (fun b o hb e => (sb.2 b hb).trans e) f0 f1 f3 f4 f5, rfl,
        z _ H6 { g6 with P := g1.P, F := upd g6.F D (.lst acc) } ⟨(x5.trans x6.toXt0).trans xo, rfl⟩ (pin_out r6 P6 (fun a z => nomatch z) pD) (.lst (SqL.of upd_same) (da5.mono (x6.toXt0.trans xo) _ _))⟩
    · have hlt : i < L.length := (List.getElem?_eq_some_iff.mp hd).1
      rw [lcL_no hd h1 h2] at z5
      exact ⟨L.length - (i + 1), by omega, i + 1, H9, g9, w8, acc, dacc, gs6, fp6, rfl, hlt, I9, x5.trans x9.toXt0, x9.p.trans P5, r9, da5.mono x9.toXt0 _ _, z5, hgs9, S9⟩
    · have hlt : i < L.length := (List.getElem?_eq_some_iff.mp hd).1
      obtain ⟨hz, z9⟩ := lcL_yes hd h1 h2 h3' z5
      have P9 : g9.P = upd g1.P D (.lst acc) := x9.p.trans P5
      have pD9 := r9.pin D (.lst acc) (by rw [P9]; exact upd_same)
      have kA := app_ok (X := blkB X s3 (upd H1 D (.lst [])) scope c.n0) (E := fun _ _ => False) (s := killS s9) (Q := fun _ s' => Inv (blkB X s3 (upd H1 D (.lst [])) scope c.n0) ([] ++ PP) σ8 (upd H9 D (.lst (acc ++ [yv]))) s') (inv_heap I9 rfl rfl (bare_kill I9.bare)) pD9.1 (by rw [da5.length]; exact hz) rv9 fun s' I' => I'
      refine thn (wpAny_keep (s := s9) kA) fun _ s10 ⟨kp, T, I10, hh, ho, hb⟩ => ?_
      have x10 : Xt0 g9 (g9.pn (upd g1.P D (.lst (acc ++ [yv])))) := g9.pn_xt _
      obtain ⟨I11, S11⟩ := back x10 (inv_heap I10 hh ho (hb I10.bare))
      refine ⟨L.length - (i + 1), by omega, i + 1, _, g9.pn (upd g1.P D (.lst (acc ++ [yv]))), w9, acc ++ [yv], dacc ++ [y], gs6, fp6, rfl, hlt, I11, (x5.trans x9.toXt0).trans x10, rfl, pin_set r9 P9 (fun a z => nomatch z), ?_, z9, kp gi gs6 hgs9 hsu, S11⟩
      exact (da5.mono (x9.toXt0.trans x10) _ _).append (.cons (dq9.mono x10 _ _) .nil)
  exact codeAny_compStart_list loop (wpAny_pyIter_gen (owB.gen _ (SB.gen owB)) loop)
end
end Tg

set_option Elab.async false
set_option linter.all false
set_option maxRecDepth 100000
set_option maxHeartbeats 4000000
namespace Tg
open PySem PySem.Spec PyProof.Rows L2 Td GenW
/-! ### sorted({e for x in g(..) if ..}), texts -/
def TxO (w : World) (a : Addr) (L : List Str) : HO := .ext fun h => TxS w h a L
theorem txO_new {w : World} {P : Program} {H : Hp} {h : Heap} {a : Addr} {L : List Str} (R : TxS w h a L) : ObjOk P w H h a (TxO w a L) := by
  have ⟨⟨o, _, _, _, ho, _⟩⟩ := R
  exact ⟨R, ⟨o, ho⟩, fun h1 h2 p k => TxS.at p k⟩
theorem tx_addC {P : Program} {w : World} {A : Around} {E : Value → Shared → Prop} {s : Shared} {a : Addr} {L : List Str} {k : Str} {t : Tok} {Q : Value → Shared → Prop} (R : TxS w s.heap a L) (room : L.length + 1 < scanBound)
    (hQ : ∀ h', Heap.SameBut a s.heap h' → TxS w h' a (addS L k) → Q .none { s with heap := h', toks := s.toks + 1 }) :
    wpAny (model P w) A (call (.builtin "set.add") [.ref a, .str k t]) Q E s := by
  have hT : s.TypeIs (.ref a) "set" := by
    obtain ⟨o, es, ep, t, ho, hex, _⟩ := R.ex
    exact ⟨o, ho, hex.1⟩
  refine wpAny_call_entry F.slot_set_add hT F.entry_set_add ?_ (F.args_set_add_2 _ _)
  unfold Builtin.«set.add» Builtin.Frozenset.oneOther
  simp only [List.isEmpty_nil, bind_assoc]
  unfold Builtin.Frozenset.addrOf setAdd
  refine wpAny_bind (wpAny_pure ?_)
  try dsimp only
  refine wpAny_bind (wpAny_pure ?_)
  try dsimp only
  refine wpAny_bind ?_
  refine wpAny_holding ?_
  refine wpAny_bind ((PySem.strKind P w).pyHash (k := k) (strKind_is _ _ _ _) ?_)
  refine tx_add (s := { s with toks := s.toks + 1 }) R room fun b h' sb r => ?_
  show wpAny _ _ (ret Value.none) _ _ _
  exact wpAny_pure ⟨_, rfl, hQ h' sb r⟩
theorem txO_add {X : Cx} {pins : List (Addr × Obj)} {σ : L2.St} {H : Hp} {s : Shared} {E : Value → Shared → Prop} {D : Addr} {L : List Str} {k : Str} {t : Tok} {Q : Value → Shared → Prop} (I : Inv X pins σ H s) (hD : H D = some (TxO X.w D L)) (room : L.length + 1 < scanBound)
    (h : ∀ s', Inv X pins σ (upd H D (TxO X.w D (addS L k))) s' → Q .none s') : wpAny (model X.prog X.w) X.A (call (.builtin "set.add") [.ref D, .str k t]) Q E s := by
  have R : TxS X.w s.heap D L := (I.hok D _ hD).1
  refine tx_addC R room fun h' sb new => ?_
  have he : ∃ u, h'.get? D = some u := by
    have ⟨⟨o, _, _, _, ho, _⟩⟩ := new
    exact ⟨o, ho⟩
  exact h _ (I.write (e := D) (t' := s.toks + 1) (by rw [hD]; trivial) (.inl rfl) (fun b u hb hu => (sb.2 b hb).trans hu) he (txO_new new))
theorem lcL_pre {gt : FG} {tt : FT} {fe : FE} {ρ : Ev} {out : List PyData} {wo : Ws} : ∀ (L : List PyData) (w : Ws) (acc : List PyData), lcL gt tt fe ρ L w acc = .ok out wo → acc <+: out
  | [], w, acc, h => by rw [lcL] at h; cases h; exact List.prefix_rfl
  | d :: ds, w, acc, h => by
    rw [lcL] at h
    cases h1 : gt d ρ w with
    | ok ρ7 w7 =>
      rw [h1] at h
      simp only at h
      cases h2 : tt ρ7 w7 with
      | ok b w8 =>
        rw [h2] at h
        cases b with
        | false => exact lcL_pre ds _ _ h
        | true =>
          simp only at h
          cases h3 : fe ρ7 w8 with
          | ok y w9 =>
            rw [h3] at h
            simp only at h
            by_cases hz : acc.length < sizeLine
            · rw [if_pos hz] at h; exact (List.prefix_append _ _).trans (lcL_pre ds _ _ h)
            · rw [if_neg hz] at h; cases h
          | ex c0 f0 w0 => rw [h3] at h; cases h
          | no => rw [h3] at h; cases h
      | ex c0 f0 w0 => rw [h2] at h; cases h
      | no => rw [h2] at h; cases h
    | ex c0 f0 w0 => rw [h1] at h; cases h
    | no => rw [h1] at h; cases h
theorem strsD_map : ∀ {ds : List PyData} {xs : List Str}, strsD ds = some xs → ds = xs.map .str
  | [], xs, h => by cases h; rfl
  | d :: ds, xs, h => by
    cases d with
    | str x =>
      simp only [strsD] at h
      cases e : strsD ds with
      | none => rw [e] at h; cases h
      | some ys => rw [e] at h; cases h; rw [strsD_map e]; rfl
    | _ => simp [strsD] at h
theorem pre_str {ys xs : List Str} {y : PyData} (h : ys.map PyData.str ++ [y] <+: xs.map PyData.str) : ∃ k, y = .str k ∧ ys.length < xs.length := by
  obtain ⟨t, ht⟩ := h
  have hl := congrArg List.length ht
  simp only [List.length_append, List.length_map, List.length_singleton] at hl
  have q : (ys.map PyData.str ++ [y] ++ t)[ys.length]? = (xs.map PyData.str)[ys.length]? := by rw [ht]
  rw [List.append_assoc, List.getElem?_append_right (by simp)] at q
  simp only [List.length_map, Nat.sub_self, List.singleton_append, List.getElem?_cons_zero, List.getElem?_map] at q
  rw [List.getElem?_eq_getElem (show ys.length < xs.length by omega)] at q
  exact ⟨_, Option.some.inj q, by omega⟩
def eSsc (fi : FA) (gt : FG) (tt : FT) (fe : FE) (vs : List Nat) : FE := fun ρ w => (fi ρ w).bind fun ds w1 => (lcL gt tt fe (wipeE ρ vs) ds w1 []).bind fun acc w2 => match strsD acc with
  | some xs => if decide (xs.length + 1 < scanBound) then .ok (.list ((srtS (ddS xs)).map .str)) w2 else .no
  | none => .no
theorem Rp.unpin {g : Gd} {H : Hp} {w : Ws} {P : Hp} {D : Addr} {o : HO} (r : Rp g H w) (hP : g.P = upd P D o) (hD : P D = none) : Rp { g with P := P } H w := by
  refine ⟨r.fro, r.len, fun l ob e => (r.cell l ob e).new (g := g) ⟨rfl, fun _ _ h => h, fun _ _ => rfl, Nat.le_refl _⟩ fun b hb => ⟨rfl, rfl⟩, r.inj, fun a u e => ?_⟩
  have e : P a = some u := e
  exact r.pin a u (by rw [hP, upd_ne (fun z => by rw [z, hD] at e; cases e)]; exact e)
section
variable {X : Cx} {W : WX}
theorem pf_sscG {x : Str} {f : Addr} {fd : FuncData} {ps : List Str} {gf : List PyData → Option (List PyData)} {k : Nat} {elt tg e : Expr} {es : List Expr} {ifs : List Expr} {scope : Scope} {own : List (Str × Nat)} {p p1 cpos pos pos1 : Pos} {fa : FA} {gt : FG} {tt : FT} {fe : FE} {is : List Nat}
    (hc : X.calm = true) (hN : X.N.Nodup) (hex : X.ex = []) (hgs1 : Gl X "sorted") (hms : X.mg "sorted" = none)
    (F : GnF X.prog X.w X.K X.mg X.base k f fd ps gf) (hr : Room k X.A) (hgu : X.A.guards = some []) (hgl : Gl X x) (hm : X.mg x = some (.ref f)) (hk : PySem.W.keepIn X.K (.ref f) = true) (hb0 : Binds X.K fd ps []) (ha : PAf X W (e :: es) fa)
    (ok : BlkOk X.N X.env.scope scope own) (hcl : (scope.names.all fun y => !decide (y.2 = .cell)) = true)
    (hg : ∀ (s : Shared) (H : Hp) (C : Addr) (cl : List (Str × Addr)) (fp : List Addr), PGf (X.blk s H scope (compEnvC scope cl C X.env) fp) is tg gt)
    (ht : ∀ (s : Shared) (H : Hp) (C : Addr) (cl : List (Str × Addr)) (fp : List Addr), PTs (X.blk s H scope (compEnvC scope cl C X.env) fp) ifs (lT X.K W0 tt))
    (he : ∀ (s : Shared) (H : Hp) (C : Addr) (cl : List (Str × Addr)) (fp : List Addr), PF (X.blk s H scope (compEnvC scope cl C X.env) fp) W0 elt fe)
    (hs : ∀ v, foldedSetIterable (.Call (.Name x p) (e :: es) [] cpos) X.env v = pure v := by intro _; rfl) (his : ∀ i ∈ is, i ∈ own.map (·.2) := by decide)
    (hdb : (x == ("__debug__" : Str)) = false := by decide) (hst : starEach (e :: es) X.env = (false, eval e X.env) :: starEach es X.env := by rfl) (hpl : (backTo cpos (starEach es X.env)).any (·.1) = false := by rfl) :
    PF X W (.Call (.Name "sorted" p1) [.SetComp elt [⟨tg, .Call (.Name x p) (e :: es) [] cpos, ifs, 0⟩] scope pos] [] pos1) (eSsc (iGen gf fa) gt tt fe (own.map (·.2))) := by
  refine ⟨fun pins s σ H Q I ⟨g, ρ, w, hK, r, en, q⟩ => ?_⟩
  have hfree : ∀ y ∈ scope.names, y.2 = .free → ∃ c, X.env.cells.lookup y.1 = some c := fun y hy e => by
    rcases ok.free y hy e with k | k
    · exact I.ok.has _ (.inl k)
    · exact I.ok.has _ (.inr k)
  refine Call_ (ld_blt I hgs1 hms boot_sorted ?_)
  refine PyProof.Rows.callWith_builtin1 (PyProof.Rows.args_cons ?_ rfl) rfl rfl
  rw [PpSet.eval_SetComp]
  refine wpAny_comprehension_free (use := none) rfl hs (closure_ok hfree) ok.kind (fun y hy e => by rw [ok.uniq y hy, e])
    (call_genE F hr hgu hgl hm hk hb0 ha hex I hK r en q (fun L w1 g1 H1 s2 c a0 gi go gs fp xt r1 z ow hgo lo I2 hgs hfn S => ?_) hdb hst hpl)
  refine wpAny_pyIter_gen (ow.gen _ (S.gen ow)) ?_
  refine PpSet.newSet_ok (newEnv_comp ?_)
  generalize hD : s2.heap.objs.size = D
  have hDn : H1 D = none := I2.hok.fresh (Nat.le_of_eq hD)
  generalize hs3 : ({ s2 with heap := s2.heap.push { cls := .type "set", dict := none, data := .set #[] 0 (.fresh 0 0 (!X.w.params.followText "set-order")) } } : Shared) = s3
  have h3 : s3.heap = s2.heap.push { cls := .type "set", dict := none, data := .set #[] 0 (.fresh 0 0 (!X.w.params.followText "set-order")) } := by rw [← hs3]
  have I3 : Inv X pins σ (upd H1 D (TxO X.w D [])) s3 := by
    rw [← hs3]
    refine I2.laid (t' := s2.toks) (fun b o e => Heap.get?_push_of_some _ e) (Nat.le_of_eq hD) (txO_new (TxS.new ?_))
    rw [← hD]
    exact Heap.get?_push_size _ rfl
  have hn3 : c.n0 ≤ s3.heap.objs.size := Nat.le_trans S.sz (by rw [h3, Heap.size_push]; exact Nat.le_succ _)
  obtain ⟨I5, owB, k4, loB⟩ := blk_setup hN ok hcl I3 lo ow hn3
  have loB := loB [] [s3.heap.objs.size] (by simp) (by simp [hn3]) (by simp)
  obtain ⟨Bx, hBx⟩ : ∃ Bx, Bx = blkB X s3 (upd H1 D (TxO X.w D [])) scope c.n0 := ⟨_, rfl⟩
  have pg : PGf (blkB X s3 (upd H1 D (TxO X.w D [])) scope c.n0) is tg gt := hg _ _ _ _ _
  have pt : PTs (blkB X s3 (upd H1 D (TxO X.w D [])) scope c.n0) ifs (lT X.K W0 tt) := ht _ _ _ _ _
  have pe : PF (blkB X s3 (upd H1 D (TxO X.w D [])) scope c.n0) W0 elt fe := he _ _ _ _ _
  have SB : Slp c (blkB X s3 (upd H1 D (TxO X.w D [])) scope c.n0) [] L gs 0 (g1.pn (upd g1.P D (TxO X.w D []))) (upd H1 D (TxO X.w D [])) fp (blkS s3 scope) := by
    refine S.enter (fun a o e => e) fun a ha => ?_
    obtain ⟨q1, q2⟩ := S.fpLt a ha
    have nD : a ≠ D := by rw [← hD]; exact Nat.ne_of_lt q1
    refine ⟨by rw [upd_ne nD]; exact q2, loB.pl (hfn a ha) (fun z => ?_), fun o e => k4 a o (by rw [h3]; exact Heap.get?_push_of_some _ e)⟩
    rw [List.mem_singleton, h3, Heap.size_push] at z
    rw [z] at q1
    exact absurd q1 (by simp)
  have pD : g1.P D = none := by
    cases h : g1.P D with
    | none => rfl
    | some o => rw [(r1.pin D o h).1] at hDn; cases hDn
  have nOwn : ∀ {l : List Str} (a : Addr), TxO X.w D l ≠ .own a := fun a z => nomatch z
  have r0 := pin_new r1 hDn (TxO X.w D [])
  have hK1 : g1.K = X.K := xt.k.trans hK
  have en1 : EnR g1 σ ρ := en.mono xt.toXt0
  obtain ⟨xs, wo, eo, hfew⟩ : ∃ (xs : List Str) (wo : Ws), lcL gt tt fe (wipeE ρ (own.map (·.2))) L w1 [] = .ok (xs.map .str) wo ∧ xs.length + 1 < scanBound := by
    cases h : lcL gt tt fe (wipeE ρ (own.map (·.2))) L w1 [] with
    | ok out wo =>
      rw [h] at z
      simp only [Oc.bind] at z
      cases hx : strsD out with
      | none => rw [hx] at z; exact z.elim
      | some xs =>
        rw [hx] at z
        simp only at z
        by_cases hb : decide (xs.length + 1 < scanBound) = true
        · exact ⟨xs, wo, by rw [strsD_map hx], of_decide_eq_true hb⟩
        · rw [if_neg hb] at z; exact z.elim
    | ex c0 f0 w0 => exact (lcL_nox _ _ _ h).elim
    | no => rw [h] at z; exact z.elim
  have strsOf : ∀ xs : List Str, strsD (xs.map PyData.str) = some xs := fun xs => by
    induction xs with
    | nil => rfl
    | cons a xs ih => show (strsD (xs.map PyData.str)).map (a :: ·) = _; rw [ih]; rfl
  rw [eo] at z
  simp only [Oc.bind, strsOf] at z
  rw [if_pos (decide_eq_true hfew)] at z
  -- the set stands
  have fin : ∀ H6 g6 s6, Xt0 g1 g6 → g6.P = upd g1.P D (TxO X.w D (ddS xs)) → Rp g6 H6 wo → Inv X pins σ H6 s6 → wpAny (model X.prog X.w) X.A (call (.builtin "sorted") [.ref D]) (EP X pins σ Q) X.xe s6 := fun H6 g6 s6 x6 P6 r6 I6 => by
    have hT : TxS X.w s6.heap D (ddS xs) := by
      have := (r6.pin D (TxO X.w D (ddS xs)) (by rw [P6]; exact upd_same)).1
      exact (I6.hok D _ this).1
    refine tx_sorted hT (I6.ok.hd hc) fun s' p out c k gg oo hp hg' hi => ?_
    have hn : H6 p = none := I6.hok.fresh hp
    have hlen : ((srtS (ddS xs)).map V.str).length ≤ sizeLine := by
      have h1 := (srtS_perm (ddS xs)).length_eq
      have h2 := ddS_len xs xs.length (Nat.le_refl _)
      rw [List.take_length] at h2
      rw [List.length_map, h1]
      exact Nat.le_trans h2 (fits_of_scanBound (Nat.lt_of_succ_lt hfew))
    have r7 : Rp { g6 with P := g1.P } H6 wo := Rp.unpin r6 P6 pD
    have x7 : Xt g1 { g6 with P := g1.P } := ⟨x6.trans ⟨rfl, fun _ _ h => h, fun _ _ => rfl, Nat.le_refl _⟩, rfl⟩
    exact ⟨.ref p, _, inv_strs I6 k gg oo hp hg' hlen hi, rfl, z _ _ _ (x7.trans (Xt.put (r7.fnone hn))) (r7.put hn) (newL r7 hn (dqA_strs _))⟩
  have loop : codeAny (model X.prog X.w) X.A (.compLoop (.SetComp elt [⟨tg, .Call (.Name x p) (e :: es) [] cpos, ifs, 0⟩] scope pos) 0 (.ref a0) (.ref D) (ceOf X scope s3.heap.objs.size)) (compPost (model X.prog X.w) X.A X.xe none (fun v s' => ∃ H6 g6, v = .ref D ∧ Xt0 g1 g6 ∧ g6.P = upd g1.P D (TxO X.w D (ddS xs)) ∧ Rp g6 H6 wo ∧ Inv X pins σ H6 s') (.ref D) s3.heap.objs.size) (blkS s3 scope) := by
    refine PpSet.compLoopS_any (fun n s' => ∃ (i : Nat) (H' : Hp) (g' : Gd) (w' : Ws) (ys : List Str) (gs' : GenState) (fp' : List Addr), n = L.length - i ∧ i ≤ L.length ∧ Inv (blkB X s3 (upd H1 D (TxO X.w D [])) scope c.n0) [] (wipe σ (own.map (·.2))) H' s' ∧ Xt0 g1 g' ∧ g'.P = upd g1.P D (TxO X.w D (ddS ys)) ∧ Rp g' H' w' ∧ lcL gt tt fe (wipeE ρ (own.map (·.2))) (L.drop i) w' (ys.map .str) = .ok (xs.map .str) wo ∧ s'.gens[gi]? = some gs' ∧ Slp c (blkB X s3 (upd H1 D (TxO X.w D [])) scope c.n0) [] L gs' i g' H' fp' s') ?_ L.length
      ⟨0, _, _, w1, [], gs, fp, rfl, Nat.zero_le _, I5, g1.pn_xt _, rfl, r0, by rw [List.drop_zero]; exact eo, (by show s3.gens[gi]? = _; rw [← hs3]; exact hgs), SB⟩
    rintro n s5 ⟨i, H5, g5, w5, ys, gs5, fp5, rfl, hi, I5, x5, P5, r5, z5, hgs5, S5⟩
    have e5 : EnR g5 (wipe σ (own.map (·.2))) (wipeE ρ (own.map (·.2))) := (en1.mono x5).wipe _
    refine turnG (B := blkB X s3 (upd H1 D (TxO X.w D [])) scope c.n0) (hx := rfl) (I5.ok.hd hc) hr.depth pg pt pe his (x5.k.trans hK1) r5 e5 owB hgo loB I5 hi hgs5 S5 (fun H6 g6 s6 ei x6 I6 r6 => ?_) (fun d hd => lcL_step (w1 := w1) hd z5)
      (fun d ρ7 w7 w8 H9 g9 s9 gs6 fp6 hd h1 h2 x9 I9 r9 hgs9 S9 => ?_) (fun d ρ7 w7 w8 y w9 u yv σ8 H9 g9 s9 gs6 fp6 PP hd h1 h2 h3' x9 rv9 dq9 I9 r9 hgs9 hsu back => ?_)
    · subst ei
      rw [List.drop_length, lcL] at z5
      obtain ⟨ey, ew⟩ := Oc.ok.inj z5
      subst ew
      have ey : ys = xs := by
        have := congrArg strsD ey
        rw [strsOf, strsOf] at this
        exact Option.some.inj this
      subst ey
      have P6 : g6.P = upd g1.P D (TxO X.w D (ddS ys)) := x6.p.trans P5
      have nC : H6 s3.heap.objs.size = none := I6.free
      have I7 : Inv X pins σ H6 s6 := inv_leave I3 lo I6.os I6.base I6.hok I6.bare
      obtain ⟨m, hn, _⟩ := I6.loc
      obtain ⟨f0, f1, f2, f3, f4, f5⟩ := I3.fpOk (H' := H6) (Nat.le_refl _) nC
      exact ⟨m, hn, fun h'' sb => ⟨H6, g6, rfl, x5.trans x6.toXt0, P6, r6, I7.turned (t' := s6.toks) (fun b o hb e => (sb.2 b hb).trans e) f0 f1 f3 f4 f5⟩⟩
    · have hlt : i < L.length := (List.getElem?_eq_some_iff.mp hd).1
      rw [lcL_no hd h1 h2] at z5
      exact ⟨L.length - (i + 1), by omega, i + 1, H9, g9, w8, ys, gs6, fp6, rfl, hlt, I9, x5.trans x9.toXt0, x9.p.trans P5, r9, z5, hgs9, S9⟩
    · have hlt : i < L.length := (List.getElem?_eq_some_iff.mp hd).1
      obtain ⟨hz, z9⟩ := lcL_yes hd h1 h2 h3' z5
      obtain ⟨kk, rfl, hys⟩ := pre_str (lcL_pre _ _ _ z9)
      cases dq9
      obtain ⟨t9, rfl⟩ := rv9
      have P9 : g9.P = upd g1.P D (TxO X.w D (ddS ys)) := x9.p.trans P5
      have pD9 := r9.pin D (TxO X.w D (ddS ys)) (by rw [P9]; exact upd_same)
      have hl := ddS_len ys ys.length (Nat.le_refl _)
      rw [List.take_length] at hl
      refine thn (wpAny_keep (s := s9) (txO_add (X := blkB X s3 (upd H1 D (TxO X.w D [])) scope c.n0) (E := fun _ _ => False) (s := killS s9) (Q := fun _ s' => Inv (blkB X s3 (upd H1 D (TxO X.w D [])) scope c.n0) ([] ++ PP) σ8 (upd H9 D (TxO X.w D (addS (ddS ys) kk))) s') (inv_heap I9 rfl rfl (bare_kill I9.bare)) pD9.1 (by omega) fun s' I' => I')) fun _ s10 ⟨kp, T, I10, hh, ho, hb⟩ => ?_
      rw [← ddS_snoc] at I10
      have x10 : Xt0 g9 (g9.pn (upd g1.P D (TxO X.w D (ddS (ys ++ [kk]))))) := g9.pn_xt _
      obtain ⟨I11, S11⟩ := back x10 (inv_heap I10 hh ho (hb I10.bare))
      exact ⟨L.length - (i + 1), by omega, i + 1, _, g9.pn (upd g1.P D (TxO X.w D (ddS (ys ++ [kk])))), w9, ys ++ [kk], gs6, fp6, rfl, hlt, I11, (x5.trans x9.toXt0).trans x10, rfl, pin_set r9 P9 nOwn, by rw [List.map_append]; exact z9, kp gi gs6 hgs9 hsu, S11⟩
  refine codeAny_mono (PpSet.codeAny_compStart_set loop (wpAny_pyIter_gen (owB.gen _ (SB.gen owB)) loop)) fun rr s' hq => ?_
  cases rr with
  | error e => exact hq
  | ok fl =>
    obtain ⟨m, hn, hq⟩ := hq
    refine ⟨m, hn, fun h' sb => ?_⟩
    obtain ⟨H6, g6, _, x6, P6, r6, I6⟩ := hq h' sb
    exact PyProof.Rows.args_nil (fin H6 g6 _ x6 P6 r6 I6)
end
end Tg

set_option Elab.async false
set_option linter.all false
set_option maxRecDepth 100000
set_option maxHeartbeats 4000000
namespace Td
open PySem PySem.Spec PyProof.Rows L2
/-- {} -/
def eD0 : FE := fun ρ w => .ok (rf w.length) (w ++ [.dK []])
theorem pf_d0 {X : Cx} {W : WX} {pos : Pos} : PF X W (.Dict [] [] pos) eD0 := by
  refine pe_imp pe_dnewK fun σ H Q ⟨g, ρ, w, hK, r, e, q⟩ => ?_
  intro p hp
  have hn := r.fnone hp
  have ra := r.alloc (o := .dK []) (ob := .dK []) hp (fun a z => nomatch z) ⟨hn, _, upd_same, .nil⟩
  refine q _ _ _ Gd.al_xt ra ?_
  rw [← r.len]
  exact Gd.al_ref
end Td

set_option Elab.async false
set_option linter.all false
set_option maxRecDepth 100000
set_option maxHeartbeats 4000000
namespace Td
open PySem L2 PySem.Spec PyProof.Rows
open AutoSeq1 (wpAny_loadPart')
/-! ### enumerate(tuple) -/
theorem meets_enumerate_newT (l : Addr) (items : Array Value) (n : Nat) (dct : Option Addr) (sl : Array (Option Value)) :
    Meets (Builtin.«enumerate.__new__» ⟨[.type "enumerate", .ref l], []⟩) (fun _ R s => s.heap.get? l = some { cls := .type "tuple", dict := dct, data := .seq items n, slots := sl } ∧
      R (.ok (.ret (.ref (s.heap.push { cls := .type "tuple_iterator", data := .fields #[.ref l, .int 0 0] }).objs.size)))
        { s with heap := (s.heap.push { cls := .type "tuple_iterator", data := .fields #[.ref l, .int 0 0] }).push { cls := .type "enumerate", data := .fields #[.none, .bool false, .ref s.heap.objs.size, rawInt 0, .none, .none] } }) :=
  .of_wp fun prog w A R s h => by
    obtain ⟨hp, g, d, tk, os⟩ := s; obtain ⟨hl, h⟩ := h
    have hsub := sub_enumerate
    have hL : Heap.IsTuple (Shared.heap ⟨hp, g, d, tk, os⟩) l items := ⟨_, hl, rfl, n, rfl⟩
    wp_walk using wpAny_loadPart' hl
    refine wpAny_stack_any fun st => wpAny_pure ?_
    split
    · rename_i c _ _ _ _ _
      cases (c == Value.type "enumerate")
      · wp_walk using wpAny_loadPart' hl, wpAny_pyIter_tuple hL
        exact ⟨_, rfl, h⟩
      · wp_walk using wpAny_loadPart' hl, wpAny_pyIter_tuple hL
        exact ⟨_, rfl, h⟩
    · wp_walk using wpAny_loadPart' hl, wpAny_pyIter_tuple hL
      exact ⟨_, rfl, h⟩
theorem call_enumerate_tuple {prog : Program} {w : World} {A : Around} {E : Value → Shared → Prop} {s : Shared} {l : Addr} {items : Array Value} {Q : Value → Shared → Prop} (hL : s.heap.IsTuple l items)
    (h : ∀ h', IsEnum h' (s.heap.objs.size + 1) s.heap.objs.size 0 .none → h'.IsTupleIter s.heap.objs.size l 0 → h'.objs.size = s.heap.objs.size + 2 →
      (∀ b o, s.heap.get? b = some o → h'.get? b = some o) → Q (.ref (s.heap.objs.size + 1)) { s with heap := h' }) :
    wpAny (model prog w) A (call (.type "enumerate") [.ref l]) Q E s := by
  obtain ⟨⟨c, dct, dt, sl⟩, hl, hc, n, hd⟩ := hL
  replace hc : c = .type "tuple" := hc
  replace hd : dt = .seq items n := hd
  subst hc hd
  refine callType_new F.called_enumerate (by decide) (F.typeCall_enumerate_1 _) (F.newCall_enumerate_1 _) (fun obj => F.args_object_init_2 obj _) F.entry_enumerate_new
    (meets_enumerate_newT l items n dct sl) ⟨hl, ?_⟩
  have hz : (s.heap.push { cls := .type "tuple_iterator", data := .fields #[.ref l, .int 0 0] }).objs.size = s.heap.objs.size + 1 := Heap.size_push ..
  show _ ∧ _
  rw [hz]
  have he : IsEnum ((s.heap.push { cls := .type "tuple_iterator", data := .fields #[.ref l, .int 0 0] }).push
      { cls := .type "enumerate", data := .fields #[.none, .bool false, .ref s.heap.objs.size, rawInt 0, .none, .none] }) (s.heap.objs.size + 1) s.heap.objs.size 0 .none := by
    have := Heap.get?_push_size (s.heap.push { cls := .type "tuple_iterator", data := .fields #[.ref l, .int 0 0] })
      (o := { cls := .type "enumerate", data := .fields #[.none, .bool false, .ref s.heap.objs.size, rawInt 0, .none, .none] }) rfl
    rw [hz] at this; exact this
  refine ⟨⟨_, he, rfl⟩, h _ he ⟨_, Heap.get?_push_of_some _ (Heap.get?_push_size _ rfl), rfl, rfl⟩ (by rw [Heap.size_push, hz]) fun b o x => Heap.get?_push_of_some _ (Heap.get?_push_of_some _ x)⟩
/-- the tuple at a, each item in a new pair -/
def Itet (K : PySem.W.Frag) (a : Addr) : It :=
  ⟨fun i H => ∃ (xs : List V) (x : V), SqT K H a xs ∧ xs[i]? = some x, fun i H v H' => ∃ T x, v = .ref T ∧ H T = none ∧ H' = upd H T (.tup [.int (i : Nat), x]) ∧ ∀ xs, SqT K H a xs → xs[i]? = some x, fun i H => ∃ xs : List V, SqT K H a xs ∧ xs.length = i⟩
theorem turn_enumT {P : Program} {w : World} {K : PySem.W.Frag} {elts : List Expr} {kk : Nat} {tpos : Pos} (a e it : Addr) :
    Turn P w K (.Tuple elts kk tpos) (Itet K a) [e, it] e (fun i h => (∃ old, IsEnum h e it ((i : Nat) : Int) old) ∧ h.IsTupleIter it a i ∧ e ≠ it) where
  mem := by simp
  obj := fun i h ⟨⟨old, he⟩, ⟨o, ho, hc, hd⟩, _⟩ b hb => by
    rcases (by simpa using hb : b = e ∨ b = it) with q | q
    · subst q; exact ⟨_, he, fun v q => nomatch q⟩
    · subst q; exact ⟨o, ho, fun v q => by rw [hd] at q; cases q⟩
  keep := fun i h h' ⟨⟨old, he⟩, ⟨o, ho, hr⟩, hne⟩ k => ⟨⟨old, k e (by simp) _ he⟩, ⟨o, k it (by simp) _ ho, hr⟩, hne⟩
  item := by
    intro X hP hw hK hc i pins s σ H E I hf st hg
    subst hP hw hK
    obtain ⟨⟨old, he⟩, hit, hne⟩ := st
    obtain ⟨xs, x, hq, hx⟩ := hg
    obtain ⟨its, rv, p, hz⟩ := I.tuple hq
    obtain ⟨u, hu, ru⟩ := rv.get hx
    have hel : e < s.heap.objs.size := Heap.lt_size he
    have hil : it < s.heap.objs.size := by obtain ⟨_, q, _⟩ := hit; exact Heap.lt_size q
    have ht : s.heap.IsTuple a its.toArray := by first | exact p | exact p.isTuple
    have hat : a ≠ it := fun z => by
      subst z
      obtain ⟨o1, g1, c1, _⟩ := ht
      obtain ⟨o2, g2, c2, _⟩ := hit
      rw [g1] at g2; cases g2
      rw [c1] at c2; exact absurd c2 (by decide)
    have hae : e ≠ a := fun z => by
      subst z
      obtain ⟨o1, g1, c1, _⟩ := ht
      have he' : s.heap.get? e = _ := he
      rw [g1] at he'; cases he'
      have c1 : Value.type "enumerate" = Value.type "tuple" := c1
      exact absurd c1 (by decide)
    have hlt : i < its.toArray.size := by
      have h1 := (List.getElem?_eq_some_iff.mp hu).1
      simpa using h1
    refine wpAny_pyNext_enum_itemD (Draws.tuple (A := X.A.in1) (I.ok.hd hc) it a hat its.toArray) he ⟨hit, ht⟩ hlt hne (by simp [hne, hae]) fun x' h' tk hP ho hit' hT hsz hk => ?_
    have exu : x' = u := by
      have h2 : its[i]? = some x' := by simpa using hP
      rw [hu] at h2; exact (Option.some.inj h2).symm
    subst exu
    refine ⟨_, rfl, wpAny_letOwnedTupleGo_enum (s := { s with heap := h', toks := tk + 1 }) ho fun h'' he' sb => ?_⟩
    have hT2 : h''.get? s.heap.objs.size = some { cls := .type "tuple", data := .seq #[.int i tk, x'] } := (sb.2 _ (Nat.ne_of_gt hel)).trans hT
    have new : ObjOk X.prog X.w (upd H s.heap.objs.size (.tup [.int (i : Nat), x])) h'' s.heap.objs.size (.tup [.int (i : Nat), x]) :=
      ⟨by show 2 ≤ sizeLine; decide, _, .cons ⟨tk, rfl⟩ (.cons ru .nil), ⟨_, hT2, rfl, _, rfl⟩⟩
    have J : Inv X pins σ (upd H s.heap.objs.size (.tup [.int (i : Nat), x])) { s with heap := h'', toks := tk + 1 } :=
      I.turnedNew (ch := [e, it]) (fun b ob hb q => (sb.2 b (fun y => hb (by simp [y]))).trans (hk b ob (fun y => hb (by simp [y])) (fun y => hb (by simp [y])) q)) hf (Nat.le_refl _) new
    refine ⟨.ref s.heap.objs.size, _, J, rfl, ⟨_, x, rfl, I.hok.fresh (Nat.le_refl _), rfl, fun ys hy => by rw [I.tuple_inj hy hq]; exact hx⟩, ⟨⟨x', ?_⟩, ?_, hne⟩, fun b hb => ?_⟩
    · rw [show ((i + 1 : Nat) : Int) = (i : Int) + 1 by omega]; exact he'
    · obtain ⟨o, ho', hr⟩ := hit'.1
      exact ⟨o, (sb.2 it (Ne.symm hne)).trans ho', hr⟩
    · have hb' : b < s.heap.objs.size := by
        rcases (by simpa using hb : b = e ∨ b = it) with y | y
        · subst y; exact hel
        · subst y; exact hil
      rw [upd_ne (Nat.ne_of_lt hb')]
      exact (hf b hb).1
  done := by
    intro X hP hw hK hc i pins s σ H E I hf st hg
    subst hP hw hK
    obtain ⟨⟨old, he⟩, hit, hne⟩ := st
    obtain ⟨f0, f1, f2, f3, f4, f5⟩ := hf it (by simp)
    obtain ⟨xs, hq, hx⟩ := hg
    obtain ⟨its, rv, p, hz⟩ := I.tuple hq
    have ht : s.heap.IsTuple a its.toArray := by first | exact p | exact p.isTuple
    have hat : a ≠ it := fun z => by
      subst z
      obtain ⟨o1, g1, c1, _⟩ := ht
      obtain ⟨o2, g2, c2, _⟩ := hit
      rw [g1] at g2; cases g2
      rw [c1] at c2; exact absurd c2 (by decide)
    have hl := rv.length
    have hi : i = its.toArray.size := by simp; omega
    subst hi
    exact wpAny_pyNext_enum_endD (Draws.tuple (A := X.A.in1) (I.ok.hd hc) it a hat its.toArray) he ⟨hit, ht⟩ fun h' eb => ⟨rfl, I.turned (t' := s.toks) (fun b o hb q => eb b o hb q) f0 f1 f3 f4 f5⟩
  self := fun A i s Q E ⟨⟨_, he⟩, _⟩ h => wpAny_pyIter_enum he h
theorem wk_enT {g : Gd} {a : Addr} {xs : List V} {ds : List PyData} (h : SqT g.K g.F a xs) (d : DqA g xs ds) : WkD (Itet g.K a) g (enD 0 ds) where
  stop := fun g' H w x r => by
    rw [enD_len, ← d.length]
    exact ⟨xs, x.k ▸ r.sqT (x.sqT h), rfl⟩
  go := fun g' H w i x r hi => by
    rw [enD_len, ← d.length] at hi
    exact ⟨xs, xs[i], x.k ▸ r.sqT (x.sqT h), by simp [hi]⟩
  yld := fun g' H w i v H2 x r hi y => by
    rw [enD_len] at hi
    obtain ⟨T, b, rfl, hT, rfl, hb⟩ := y
    have hb := hb xs (x.k ▸ r.sqT (x.sqT h))
    have hd := List.getElem?_eq_getElem hi
    obtain ⟨b', h3, h4⟩ := d.get hd
    rw [hb] at h3
    cases h3
    have he := enD_get ds 0 i _ hd
    rw [Nat.zero_add] at he
    exact ⟨g'.put T (.tup [.int (i : Nat), b]), _, he, Xt.put (r.fnone hT), r.put hT, newT r hT (.cons (.int _) (.cons (h4.mono x _ _) .nil))⟩
def iEn2 (fa : FA) : FA := fun ρ w => (fa ρ w).bind fun ds w1 => match ds with
  | [.str z] => .ok (enD 0 (chD z)) w1
  | [.list xs] => .ok (enD 0 xs) w1
  | [.tuple xs] => .ok (enD 0 xs) w1
  | _ => .no
section
variable {X : Cx} {W : WX}
def iEnA2 (K : PySem.W.Frag) (ta : TA) : TI := fun σ H R => ta σ H fun vs H1 => (∃ z, vs = [.str z] ∧ R (Ites z) H1) ∨ (∃ a xs, vs = [.ref a] ∧ SqL K H1 a xs ∧ R (Ite K a) H1) ∨ ∃ a xs, vs = [.ref a] ∧ SqT K H1 a xs ∧ R (Itet K a) H1
theorem pi_enA2 {e : Expr} {ta : TA} {p pos tpos : Pos} {elts : List Expr} {kk : Nat} (hg : Gl X "enumerate") (hm : X.mg "enumerate" = none) (ha : PA X [e] ta) (hs : starEach [e] X.env = [(false, eval e X.env)] := by rfl) : PI X (.Tuple elts kk tpos) (.Call (.Name "enumerate" p) [e] [] pos) (iEnA2 X.K ta) := by
  refine ⟨fun pins s σ H R I h => ?_⟩
  refine Call_ (ld_blt I hg hm boot_enumerate (PyProof.Rows.callWith_type1 (thn (ha.run pos pins s σ H _ I h) fun us s1 hv => ?_) hs rfl))
  obtain ⟨vs, H1, I1, r1, q1⟩ := hv
  have apart : ∀ b, b ∈ [s1.heap.objs.size + 1, s1.heap.objs.size] → FpOk X pins H1 b := fun b hb => by
    have hle : s1.heap.objs.size ≤ b := by
      rcases (by simpa using hb : b = s1.heap.objs.size + 1 ∨ b = s1.heap.objs.size) with y | y
      · rw [y]; exact Nat.le_add_right _ _
      · rw [y]; exact Nat.le_refl _
    exact I1.fpOk hle (I1.hok.fresh hle)
  rcases q1 with ⟨z, rfl, q⟩ | ⟨a, xs, rfl, hq, q⟩ | ⟨a, xs, rfl, hq, q⟩
  · obtain ⟨u, rfl, ⟨t, rfl⟩⟩ := vals1 r1
    refine call_enumerate_str fun h' he hit hsz hk => wpAny_pyIter_enum he ?_
    exact ⟨_, [s1.heap.objs.size + 1, s1.heap.objs.size], _, _, H1, rfl, I1.kept (t' := s1.toks) hk, turn_enumS z t _ _, ⟨⟨.none, he⟩, hit, Nat.succ_ne_self _⟩, apart, q⟩
  · obtain ⟨u, rfl, ru⟩ := vals1 r1
    cases ru
    obtain ⟨its, rv, pl, hz⟩ := I1.list hq
    refine call_enumerate_list pl.isList fun h' he hit hsz hk => wpAny_pyIter_enum he ?_
    exact ⟨_, [s1.heap.objs.size + 1, s1.heap.objs.size], _, _, H1, rfl, I1.kept (t' := s1.toks) hk, turn_enum a _ _, ⟨⟨.none, he⟩, hit, Nat.succ_ne_self _⟩, apart, q⟩
  · obtain ⟨u, rfl, ru⟩ := vals1 r1
    cases ru
    obtain ⟨its, rv, pl, hz⟩ := I1.tuple hq
    have ht : s1.heap.IsTuple a its.toArray := by first | exact pl | exact pl.isTuple
    refine call_enumerate_tuple ht fun h' he hit hsz hk => wpAny_pyIter_enum he ?_
    exact ⟨_, [s1.heap.objs.size + 1, s1.heap.objs.size], _, _, H1, rfl, I1.kept (t' := s1.toks) hk, turn_enumT a _ _, ⟨⟨.none, he⟩, hit, Nat.succ_ne_self _⟩, apart, q⟩
theorem pif_enum2 {e : Expr} {fa : FA} {p pos tpos : Pos} {elts : List Expr} {kk : Nat} (hg : Gl X "enumerate") (hm : X.mg "enumerate" = none) (ha : PAf X W [e] fa) (hs : starEach [e] X.env = [(false, eval e X.env)] := by rfl) : PIf X W (.Tuple elts kk tpos) (.Call (.Name "enumerate" p) [e] [] pos) (iEn2 fa) := by
  refine pi_imp (pi_enA2 hg hm ha hs) fun σ H R ⟨g, ρ, w, hK, r, e, q⟩ => ?_
  refine lX_bind hK r e q fun v H1 g1 d w1 x r1 e1 dv z => ?_
  have hK1 := x.k.trans hK
  split at z
  · cases dv with
    | cons d0 dn =>
      cases dn; cases d0
      exact .inl ⟨_, rfl, z _ H1 g1 (Xt.refl _) r1 wk_enS⟩
  · cases dv with
    | cons d0 dn =>
      cases dn
      cases d0 with
      | lst sq da => exact .inr (.inl ⟨_, _, rfl, hK1 ▸ r1.sqL sq, hK1 ▸ z _ H1 g1 (Xt.refl _) r1 (wk_enL sq da)⟩)
  · cases dv with
    | cons d0 dn =>
      cases dn
      cases d0 with
      | tup sq da => exact .inr (.inr ⟨_, _, rfl, hK1 ▸ r1.sqT sq, hK1 ▸ z _ H1 g1 (Xt.refl _) r1 (wk_enT sq da)⟩)
  · exact z.elim
end
end Td

set_option Elab.async false
set_option linter.all false
set_option maxRecDepth 100000
set_option maxHeartbeats 4000000
namespace Tk
open PySem L2 PySem.Spec PyProof.Rows Td Tg
def topS (i : Nat) : Stmt := PySem.Challenge.pw_tidyrules_k17_patterns_told.main.body.getD i (.Pass ⟨0, 0, 0, 0⟩)
abbrev s_is_name : Stmt := topS 3
abbrev N_is_name : List Str := ["thing", "char"]
abbrev P_is_name : List Str := ["thing"]
abbrev s_is_variable : Stmt := topS 6
abbrev N_is_variable : List Str := ["thing"]
abbrev P_is_variable : List Str := ["thing"]
abbrev s_is_pattern : Stmt := topS 7
abbrev N_is_pattern : List Str := ["thing", "part"]
abbrev P_is_pattern : List Str := ["thing"]
abbrev s_nodes_in : Stmt := topS 8
abbrev N_nodes_in : List Str := ["pattern", "pile", "place", "own", "k"]
abbrev P_nodes_in : List Str := ["pattern"]
abbrev s_variables_of : Stmt := topS 9
abbrev N_variables_of : List Str := ["pattern", "place", "own"]
abbrev P_variables_of : List Str := ["pattern"]
abbrev s_own_places : Stmt := topS 10
abbrev N_own_places : List Str := ["pattern", "place", "own"]
abbrev P_own_places : List Str := ["pattern"]
abbrev s_variable_places : Stmt := topS 11
abbrev N_variable_places : List Str := ["pattern", "found", "place", "own", "variable"]
abbrev P_variable_places : List Str := ["pattern"]
abbrev s_doubled_of : Stmt := topS 12
abbrev N_doubled_of : List Str := ["pattern", "variable", "places"]
abbrev P_doubled_of : List Str := ["pattern"]
abbrev s__law_feed : Stmt := topS 14
abbrev N__law_feed : List Str := ["_law_script"]
abbrev P__law_feed : List Str := ["_law_script"]
abbrev s__law_draw : Stmt := topS 15
abbrev N__law_draw : List Str := ["_law_feed_here", "_law_many", "_law_cell", "_law_turn", "_law_mixed", "_law_digit_now"]
abbrev P__law_draw : List Str := ["_law_feed_here", "_law_many"]
abbrev s__law_choice : Stmt := topS 16
abbrev N__law_choice : List Str := ["_law_feed_here", "_law_some"]
abbrev P__law_choice : List Str := ["_law_feed_here", "_law_some"]
abbrev s__law_tongue : Stmt := topS 17
abbrev N__law_tongue : List Str := ["_law_feed_here", "_law_size", "_law_inputs", "_law_words", "_law_label", "_law_arity", "_law_cells", "_law_k"]
abbrev P__law_tongue : List Str := ["_law_feed_here"]
abbrev s__law_heads : Stmt := topS 18
abbrev N__law_heads : List Str := ["_law_tongue_here", "_law_wants_parts", "_law_found", "_law_pair", "_law_label", "_law_word"]
abbrev P__law_heads : List Str := ["_law_tongue_here", "_law_wants_parts"]
abbrev s__law_top : Stmt := topS 20
abbrev N__law_top : List Str := ["_law_feed_here", "_law_tongue_here", "_law_labels", "_law_deep", "_law_at", "_law_head", "_law_many", "_law_k"]
abbrev P__law_top : List Str := ["_law_feed_here", "_law_tongue_here", "_law_labels", "_law_deep"]
abbrev s__law_pattern : Stmt := topS 19
abbrev N__law_pattern : List Str := ["_law_feed_here", "_law_tongue_here", "_law_labels", "_law_deep"]
abbrev P__law_pattern : List Str := ["_law_feed_here", "_law_tongue_here", "_law_labels", "_law_deep"]
abbrev s__law_spots : Stmt := topS 21
abbrev N__law_spots : List Str := ["_law_shape_now", "_law_own", "_law_spots_here", "_law_pile", "_law_here", "_law_part", "_law_k", "_law_inner"]
abbrev P__law_spots : List Str := ["_law_shape_now"]
abbrev s__law_is_name : Stmt := topS 22
abbrev N__law_is_name : List Str := ["_law_item", "_law_c"]
abbrev P__law_is_name : List Str := ["_law_item"]
abbrev s__law_is_pattern : Stmt := topS 23
abbrev N__law_is_pattern : List Str := ["_law_item", "_law_pile", "_law_here"]
abbrev P__law_is_pattern : List Str := ["_law_item"]
abbrev s__law_replacement : Stmt := topS 24
abbrev N__law_replacement : List Str := ["_law_feed_here", "_law_item", "_law_at", "_law_some"]
abbrev P__law_replacement : List Str := ["_law_feed_here", "_law_item"]
abbrev s__law_mutated : Stmt := topS 25
abbrev N__law_mutated : List Str := ["_law_feed_here", "_law_item", "_law_at"]
abbrev P__law_mutated : List Str := ["_law_feed_here", "_law_item"]
abbrev s__law_free : Stmt := topS 26
abbrev N__law_free : List Str := ["_law_feed_here", "_law_deep", "_law_many", "_law_k"]
abbrev P__law_free : List Str := ["_law_feed_here", "_law_deep"]
abbrev s__law_agrees : Stmt := topS 27
abbrev N__law_agrees : List Str := ["_law_one_now", "_law_due", "_law_told", "_law_late", "_law_own", "_law_spots_here", "_law_label", "_law_here", "_law_head"]
abbrev P__law_agrees : List Str := ["_law_one_now"]
abbrev s__law_kinds_right : Stmt := topS 28
abbrev N__law_kinds_right : List Str := ["_law_feed_here", "_law_one_now", "_law_item", "_law_kept", "_law_k"]
abbrev P__law_kinds_right : List Str := ["_law_feed_here", "_law_one_now"]
abbrev s_law : Stmt := topS 29
abbrev N_law : List Str := ["_law_script", "_law_feed_here", "_law_some", "_law_attempt", "_law_one_now", "_law_wide", "_law_items", "_law_names_now", "_law_kept", "_law_k", "_law_item"]
abbrev P_law : List Str := ["_law_script"]
structure Tx (K : PySem.W.Frag) (mg : Str → Option Value) where
  d_is_name : DefAt K mg "is_name" s_is_name P_is_name
  d_is_variable : DefAt K mg "is_variable" s_is_variable P_is_variable
  d_is_pattern : DefAt K mg "is_pattern" s_is_pattern P_is_pattern
  d_nodes_in : DefAt K mg "nodes_in" s_nodes_in P_nodes_in
  d_variables_of : DefAt K mg "variables_of" s_variables_of P_variables_of
  d_own_places : DefAt K mg "own_places" s_own_places P_own_places
  d_variable_places : DefAt K mg "variable_places" s_variable_places P_variable_places
  d_doubled_of : DefAt K mg "doubled_of" s_doubled_of P_doubled_of
  d__law_feed : DefAt K mg "_law_feed" s__law_feed P__law_feed
  d__law_draw : DefAt K mg "_law_draw" s__law_draw P__law_draw
  d__law_choice : DefAt K mg "_law_choice" s__law_choice P__law_choice
  d__law_tongue : DefAt K mg "_law_tongue" s__law_tongue P__law_tongue
  d__law_heads : DefAt K mg "_law_heads" s__law_heads P__law_heads
  d__law_top : DefAt K mg "_law_top" s__law_top P__law_top
  d__law_pattern : DefAt K mg "_law_pattern" s__law_pattern P__law_pattern
  d__law_spots : DefAt K mg "_law_spots" s__law_spots P__law_spots
  d__law_is_name : DefAt K mg "_law_is_name" s__law_is_name P__law_is_name
  d__law_is_pattern : DefAt K mg "_law_is_pattern" s__law_is_pattern P__law_is_pattern
  d__law_replacement : DefAt K mg "_law_replacement" s__law_replacement P__law_replacement
  d__law_mutated : DefAt K mg "_law_mutated" s__law_mutated P__law_mutated
  d__law_free : DefAt K mg "_law_free" s__law_free P__law_free
  d__law_agrees : DefAt K mg "_law_agrees" s__law_agrees P__law_agrees
  d__law_kinds_right : DefAt K mg "_law_kinds_right" s__law_kinds_right P__law_kinds_right
  d_law : DefAt K mg "law" s_law P_law
  kb_variable_places_0_pattern : KbD K d_variable_places.fd P_variable_places 0 ["pattern"] (fun as bs => arr [(1, 0)] as [] bs)
  kb_own_places_0_pattern : KbD K d_own_places.fd P_own_places 0 ["pattern"] (fun as bs => arr [(1, 0)] as [] bs)
  kb_variables_of_0_pattern : KbD K d_variables_of.fd P_variables_of 0 ["pattern"] (fun as bs => arr [(1, 0)] as [] bs)
  kb_doubled_of_0_pattern : KbD K d_doubled_of.fd P_doubled_of 0 ["pattern"] (fun as bs => arr [(1, 0)] as [] bs)
  kb_is_pattern_0_thing : KbD K d_is_pattern.fd P_is_pattern 0 ["thing"] (fun as bs => arr [(1, 0)] as [] bs)
  b_all : mg "all" = none
  b_bool : mg "bool" = none
  b_enumerate : mg "enumerate" = none
  b_int : mg "int" = none
  b_isinstance : mg "isinstance" = none
  b_len : mg "len" = none
  b_list : mg "list" = none
  b_range : mg "range" = none
  b_repr : mg "repr" = none
  b_sorted : mg "sorted" = none
  b_str : mg "str" = none
  b_tuple : mg "tuple" = none
  c_LETTERS : (t : Tok) ×' mg "LETTERS" = some (.str "abcdefghijklmnopqrstuvwxyz" t)
  c_LONGEST_NAME : (t : Tok) ×' mg "LONGEST_NAME" = some (.int 8 t)
  c_MARK : (t : Tok) ×' mg "MARK" = some (.str "?" t)
def b_is_name : FS :=
    (sSeq (sIf (tOr' (tNo (tTr (eIsi "str" (eV 0)))) (tNo (tB' (eCh leD leD (eC (.int 1)) (eCb lenD (aC (eV 0) aN)) (eC (.int 8)))))) (sRet (eC (.bool false))) sNil)
    (sRet (eCb allD (aC (eLc (iE (eV 0)) (gN 1) tYs (eB inD (eV 1) (eC (.str "abcdefghijklmnopqrstuvwxyz"))) [1]) aN))))
def F_is_name : FF := defF 2 1 b_is_name
def b_is_variable : FS :=
    (sRet (eAn (eIsi "str" (eV 0)) (eAn (eB eqD (eSl (eV 0) oN (oS (eC (.int 1)))) (eC (.str "?"))) (eCall F_is_name [] (aC (eSl (eV 0) (oS (eC (.int 1))) oN) aN)))))
def F_is_variable : FF := defF 1 1 b_is_variable
def b_is_pattern (g : FF) : FS :=
    (sSeq (sIf (tTr (eCall F_is_variable [] (aC (eV 0) aN))) (sRet (eC (.bool true))) sNil)
    (sSeq (sIf (tOr' (tNo (tTr (eIsi "tuple" (eV 0)))) (tOr' (tB' (eB neD (eCb lenD (aC (eV 0) aN)) (eC (.int 2)))) (tOr' (tNo (tTr (eCall F_is_name [] (aC (eB ixD (eV 0) (eC (.int 0))) aN)))) (tNo (tTr (eIsi "tuple" (eB ixD (eV 0) (eC (.int 1))))))))) (sRet (eC (.bool false))) sNil)
    (sRet (eCb allD (aC (eLc (iE (eB ixD (eV 0) (eC (.int 1)))) (gN 1) tYs (eCall g [] (aC (eV 1) aN)) [1]) aN)))))
def F_is_pattern : Nat → FF
  | 0 => fun _ _ => .no
  | l + 1 => defF 2 1 (b_is_pattern (F_is_pattern l))
def b_nodes_in : FGn :=
    (gSq (gPl (sAsg (eLstS (aC (eTup (aC (eTup aN) (aC (eV 0) aN))) aN)) (gN 1)))
    (gSq (gWh (tB' (eB gtD (eCb lenD (aC (eV 1) aN)) (eC (.int 0))))
    (gSq (gPl (sAsg (eLm0 ppL (eV 1)) (gT 2 (gC (gN 2) (gC (gN 3) gZ)))))
    (gSq (gYd (eTup (aC (eV 2) (aC (eV 3) aN))))
    (gSq (gPl (sIf (tNo (tTr (eCall F_is_variable [] (aC (eV 3) aN)))) (sFor (iR3 (aC (eB subD (eCb lenD (aC (eB ixD (eV 3) (eC (.int 1))) aN)) (eC (.int 1))) (aC (eU negD (eC (.int 1))) (aC (eU negD (eC (.int 1))) aN)))) (gN 4)
    (sExp (eLm apL (eV 1) (aC (eTup (aC (eTup (aSt (eV 2) (aC (eV 4) aN))) (aC (eB ixD (eB ixD (eV 3) (eC (.int 1))) (eV 4)) aN))) aN)))) sNil))
    gNil))))
    gNil))
def F_nodes_in : List PyData → Option (List PyData) := genF 5 1 b_nodes_in
def b_variables_of : FS :=
    (sRet (eCb tupleD (aC (eSsc (iGen F_nodes_in (aC (eV 0) aN)) (gT 2 (gC (gN 1) (gC (gN 2) gZ))) (tTr (eCall F_is_variable [] (aC (eV 2) aN))) (eV 2) [1, 2]) aN)))
def F_variables_of : FF := defF 3 1 b_variables_of
def b_own_places : FS :=
    (sRet (eCb tupleD (aC (eLc (iGen F_nodes_in (aC (eV 0) aN)) (gT 2 (gC (gN 1) (gC (gN 2) gZ))) (tNo (tTr (eCall F_is_variable [] (aC (eV 2) aN)))) (eV 1) [1, 2]) aN)))
def F_own_places : FF := defF 3 1 b_own_places
def b_variable_places : FS :=
    (sSeq (sAsg eD0 (gN 1))
    (sSeq (sFor (iGen F_nodes_in (aC (eV 0) aN)) (gT 2 (gC (gN 2) (gC (gN 3) gZ))) (nx0
    (sIf (tTr (eCall F_is_variable [] (aC (eV 3) aN))) (sExp (eLm apL (eSd (eV 1) (eV 3) (eLstS aN)) (aC (eV 2) aN))) sNil)))
    (sRet (eCb tupleD (aC (eLc (iE (eCb sortDk (aC (eV 1) aN))) (gN 4) tYs (eTup (aC (eV 4) (aC (eCb tupleD (aC (eDg (eV 1) (eV 4)) aN)) aN))) [4]) aN)))))
def F_variable_places : FF := defF 5 1 b_variable_places
def b_doubled_of : FS :=
    (sRet (eCb tupleD (aC (eLc (iE (eCall F_variable_places [] (aC (eV 0) aN))) (gT 2 (gC (gN 1) (gC (gN 2) gZ))) (tB' (eB gtD (eCb lenD (aC (eV 2) aN)) (eC (.int 1)))) (eV 1) [1, 2]) aN)))
def F_doubled_of : FF := defF 3 1 b_doubled_of
def b__law_feed : FS :=
    (sRet (eLstS (aC (eCb listD (aC (eSl (eV 0) oN (oS (eC (.int 63)))) aN)) (aC (eC (.int 0)) (aC (eC (.int 0)) (aC (eC (.int 0)) aN))))))
def F__law_feed : FF := defF 1 1 b__law_feed
def b__law_draw : FS :=
    (sSeq (sAsg (eB addD (eB ixD (eV 0) (eC (.int 3))) (eC (.int 1))) (gIx (eV 0) (eC (.int 3))))
    (sSeq (sIf (tB' (eB gtD (eB ixD (eV 0) (eC (.int 2))) (eC (.int 0)))) (sSeq (sAsg (eB modD (eCb toInt (aC (eB ixD (eV 0) (eC (.int 2))) aN)) (eV 1)) (gN 5))
    (sSeq (sAsg (eB fdvD (eB ixD (eV 0) (eC (.int 2))) (eV 1)) (gIx (eV 0) (eC (.int 2))))
    (sRet (eV 5)))) sNil)
    (sSeq (sAsg (eIf (tB' (eB neL (eB ixD (eV 0) (eC (.int 0))) (eLst aN))) (eB ixD (eB ixD (eV 0) (eC (.int 0))) (eB modD (eCb toInt (aC (eB ixD (eV 0) (eC (.int 1))) aN)) (eCb lenD (aC (eB ixD (eV 0) (eC (.int 0))) aN)))) (eC (.int 47))) (gN 2))
    (sSeq (sAsg (eB addD (eB ixD (eV 0) (eC (.int 1))) (eC (.int 1))) (gIx (eV 0) (eC (.int 1))))
    (sSeq (sIf (tAn (tB' (eB geD (eV 2) (eB powD (eC (.int 10)) (eC (.int 18))))) (tB' (eB leD (eB ixD (eV 0) (eC (.int 1))) (eCb lenD (aC (eB ixD (eV 0) (eC (.int 0))) aN))))) (sSeq (sAsg (eB fdvD (eV 2) (eV 1)) (gIx (eV 0) (eC (.int 2))))
    (sRet (eB modD (eCb toInt (aC (eV 2) aN)) (eV 1)))) sNil)
    (sSeq (sAsg (eB ixD (eV 0) (eC (.int 3))) (gN 3))
    (sSeq (sAsg (eCb toInt (aC (eB powD (eB addD (eB addD (eB modD (eCb toInt (aC (eV 2) aN)) (eC (.int 1000003171))) (eB mulD (eB mulD (eC (.int 163)) (eV 3)) (eB addD (eV 3) (eC (.int 8))))) (eC (.int 37))) (eC (.int 5))) aN)) (gN 4))
    (sSeq (sAsg (eCb toInt (aC (eB powD (eB addD (eB mulD (eB modD (eCb toInt (aC (eV 4) aN)) (eC (.int 2147483249))) (eB addD (eB mulD (eC (.int 2)) (eV 3)) (eC (.int 13)))) (eB mulD (eC (.int 50153)) (eV 3))) (eC (.int 3))) aN)) (gN 4))
    (sRet (eB modD (eCb toInt (aC (eB fdvD (eB modD (eCb toInt (aC (eV 4) aN)) (eC (.int 2147483171))) (eC (.int 64))) aN)) (eV 1)))))))))))
def F__law_draw : FF := defF 6 2 b__law_draw
def b__law_choice : FS :=
    (sRet (eB ixD (eV 1) (eCall F__law_draw [] (aC (eV 0) (aC (eCb lenD (aC (eV 1) aN)) aN)))))
def F__law_choice : FF := defF 2 2 b__law_choice
def b__law_tongue : FS :=
    (sSeq (sAsg (eB addD (eC (.int 2)) (eCb toInt (aC (eB eqD (eCall F__law_draw [] (aC (eV 0) (aC (eC (.int 4)) aN))) (eC (.int 0))) aN))) (gN 1))
    (sSeq (sPar 2 3 (aC (eCall F__law_choice [] (aC (eV 0) (aC (eLst (aC (eTup (aC (eC (.str "x")) (aC (eC (.str "y")) aN))) (aC (eTup (aC (eC (.str "x")) aN)) (aC (eTup (aC (eC (.str "a")) (aC (eC (.str "x")) (aC (eC (.str "y")) aN)))) aN)))) aN))) (aC (eLstS aN) aN)))
    (sSeq (sFor (iE (eTup (aC (eTup (aC (eC (.str "and")) (aC (eC (.int 2)) aN))) (aC (eTup (aC (eC (.str "no")) (aC (eC (.int 0)) aN))) (aC (eTup (aC (eC (.str "not")) (aC (eC (.int 1)) aN))) (aC (eTup (aC (eC (.str "or")) (aC (eC (.int 2)) aN))) (aC (eTup (aC (eC (.str "zzzzzzzz")) (aC (eC (.int 1)) aN))) aN))))))) (gT 2 (gC (gN 4) (gC (gN 5) gZ)))
    (sIf (tOr' (tB' (eB eqD (eV 4) (eC (.str "and")))) (tB' (eB gtD (eCall F__law_draw [] (aC (eV 0) (aC (eC (.int 4)) aN))) (eC (.int 0))))) (sSeq (sAsg (eB ixD (eLst (aC (eC (.int 1)) (aC (eV 1) (aC (eB mulD (eV 1) (eV 1)) aN)))) (eV 5)) (gN 6))
    (sExp (eLm apL (eV 3) (aC (eTup (aC (eV 4) (aC (eV 5) (aC (eCb tupleD (aC (eLc (iR1 (aC (eV 6) aN)) (gN 7) tYs (eCall F__law_draw [] (aC (eV 0) (aC (eV 1) aN))) [7]) aN)) aN)))) aN)))) sNil))
    (sRet (eTup (aC (eV 1) (aC (eV 2) (aC (eCb tupleD (aC (eV 3) aN)) aN))))))))
def F__law_tongue : FF := defF 8 1 b__law_tongue
def b__law_heads : FS :=
    (sSeq (sAsg (eB addD (eLc (iE (eB ixD (eV 0) (eC (.int 1)))) (gN 4) tYs (eTup (aC (eV 4) (aC (eC (.int 0)) aN))) [4]) (eLc (iE (eB ixD (eV 0) (eC (.int 2)))) (gN 5) tYs (eTup (aC (eB ixD (eV 5) (eC (.int 0))) (aC (eB ixD (eV 5) (eC (.int 1))) aN))) [5])) (gN 2))
    (sRet (eLc (iE (eV 2)) (gN 3) (tB' (eB eqD (eB gtD (eB ixD (eV 3) (eC (.int 1))) (eC (.int 0))) (eV 1))) (eV 3) [3])))
def F__law_heads : FF := defF 6 2 b__law_heads
def b__law_top (g : FF) : FS :=
    (sSeq (sAsg (eCall F__law_choice [] (aC (eV 0) (aC (eCall F__law_heads [] (aC (eV 1) (aC (eC (.bool true)) aN))) aN))) (gT 2 (gC (gN 5) (gC (gN 6) gZ))))
    (sSeq (sAsg (eCall F__law_draw [] (aC (eV 0) (aC (eV 6) aN))) (gN 4))
    (sRet (eTup (aC (eV 5) (aC (eCb tupleD (aC (eLc (iR1 (aC (eV 6) aN)) (gN 7) tYs (eCall g [] (aC (eV 0) (aC (eV 1) (aC (eV 2) (aC (eB mulD (eB subD (eV 3) (eC (.int 1))) (eCb toInt (aC (eB eqD (eV 7) (eV 4)) aN))) aN))))) [7]) aN)) aN))))))
def FT__law_top (g : FF) : FF := defF 8 4 (b__law_top g)
def b__law_pattern (g : FF) : FS :=
    (sSeq (sIf (tOr' (tB' (eB eqD (eV 3) (eC (.int 0)))) (tB' (eB eqD (eCall F__law_draw [] (aC (eV 0) (aC (eC (.int 4)) aN))) (eC (.int 0))))) (sSeq (sIf (tAn (tB' (eB neD (eV 2) (eTup aN))) (tB' (eB gtD (eCall F__law_draw [] (aC (eV 0) (aC (eC (.int 5)) aN))) (eC (.int 0))))) (sRet (eCall F__law_choice [] (aC (eV 0) (aC (eV 2) aN)))) sNil)
    (sRet (eTup (aC (eB ixD (eCall F__law_choice [] (aC (eV 0) (aC (eCall F__law_heads [] (aC (eV 1) (aC (eC (.bool false)) aN))) aN))) (eC (.int 0))) (aC (eTup aN) aN))))) sNil)
    (sRet (eCall (FT__law_top g) [] (aC (eV 0) (aC (eV 1) (aC (eV 2) (aC (eV 3) aN)))))))
def F__law_pattern : Nat → FF
  | 0 => fun _ _ => .no
  | l + 1 => defF 4 4 (b__law_pattern (F__law_pattern l))
def b__law_spots : FS :=
    (sSeq (sPar3 1 2 3 (aC (eLstS aN) (aC eD0 (aC (eLstS (aC (eTup (aC (eTup aN) (aC (eV 0) aN))) aN)) aN))))
    (sSeq (sWh (tB' (eB neL (eV 3) (eLst aN)))
    (sSeq (sAsg (eLm0 ppL (eV 3)) (gT 2 (gC (gN 4) (gC (gN 5) gZ))))
    (sIf (tTr (eIsi "str" (eV 5))) (sDp (eV 2) (eV 5) (eB addD (eDg2 (eV 2) (eV 5) (eLst aN)) (eLst (aC (eV 4) aN)))) (sSeq (sExp (eLm apL (eV 1) (aC (eTup (aC (eV 4) (aC (eB ixD (eV 5) (eC (.int 0))) aN))) aN)))
    (sExp (eExt (eV 3) (eU revL (eLc (iEn2 (aC (eB ixD (eV 5) (eC (.int 1))) aN)) (gT 2 (gC (gN 6) (gC (gN 7) gZ))) tYs (eTup (aC (eB addD (eV 4) (eTup (aC (eV 6) aN))) (aC (eV 7) aN))) [6, 7]))))))))
    (sSeq (sFz 1) (sRet (eTup (aC (eV 1) (aC (eV 2) aN)))))))
def F__law_spots : FF := defF 8 1 b__law_spots
def b__law_is_name : FS :=
    (sRet (eAn (eIsi "str" (eV 0)) (eAn (eCh leD leD (eC (.int 1)) (eCb lenD (aC (eV 0) aN)) (eC (.int 8))) (eB eqL (eLc (iE (eV 0)) (gN 1) (tNo (tB' (eCh leD leD (eC (.str "a")) (eV 1) (eC (.str "z"))))) (eV 1) [1]) (eLst aN)))))
def F__law_is_name : FF := defF 2 1 b__law_is_name
def b__law_is_pattern : FS :=
    (sSeq (sAsg (eLstS (aC (eV 0) aN)) (gN 1))
    (sSeq (sWh (tB' (eB neL (eV 1) (eLst aN)))
    (sSeq (sAsg (eLm0 ppL (eV 1)) (gN 2))
    (sIf (tTr (eIsi "str" (eV 2))) (sIf (tOr' (tB' (eB neD (eSl (eV 2) oN (oS (eC (.int 1)))) (eC (.str "?")))) (tNo (tTr (eCall F__law_is_name [] (aC (eSl (eV 2) (oS (eC (.int 1))) oN) aN))))) (sRet (eC (.bool false))) sNil) (sIf (tOr' (tNo (tTr (eIsi "tuple" (eV 2)))) (tOr' (tB' (eB neD (eCb lenD (aC (eV 2) aN)) (eC (.int 2)))) (tNo (tTr (eIsi "tuple" (eB ixD (eV 2) (eC (.int 1)))))))) (sRet (eC (.bool false))) (sIf (tNo (tTr (eCall F__law_is_name [] (aC (eB ixD (eV 2) (eC (.int 0))) aN)))) (sRet (eC (.bool false))) (sExp (eExt (eV 1) (eB ixD (eV 2) (eC (.int 1))))))))))
    (sRet (eC (.bool true)))))
def F__law_is_pattern : FF := defF 3 1 b__law_is_pattern
def b__law_replacement : FS :=
    (sSeq (sIf (tTr (eIsi "tuple" (eV 1))) (sSeq (sAsg (eCall F__law_draw [] (aC (eV 0) (aC (eB addD (eCb lenD (aC (eV 1) aN)) (eC (.int 1))) aN))) (gN 2))
    (sSeq (sAsg (eLst (aC (eB addD (eSl (eV 1) oN (oS (eV 2))) (eSl (eV 1) (oS (eB addD (eV 2) (eC (.int 1)))) oN)) (aC (eB addD (eV 1) (eSl (eV 1) (oS (eU negD (eC (.int 1)))) oN)) (aC (eU revD (eV 1)) (aC (eCb listD (aC (eV 1) aN)) (aC (eTup aN) (aC (eC .none) (aC (eC (.str "?a")) aN)))))))) (gN 3))
    (sRet (eB ixD (eB addD (eV 3) (eLst (aC (eB addD (eB addD (eSl (eV 1) oN (oS (eV 2))) (eTup (aC (eC (.str "x")) aN))) (eSl (eV 1) (oS (eV 2)) oN)) aN))) (eCall F__law_draw [] (aC (eV 0) (aC (eC (.int 8)) aN))))))) sNil)
    (sSeq (sIf (tTr (eIsi "str" (eV 1))) (sRet (eCall F__law_choice [] (aC (eV 0) (aC (eLst (aC (eC (.str "?a")) (aC (eC (.str "?b")) (aC (eC (.str "and")) (aC (eC (.str "x")) (aC (eC (.str "?")) (aC (eC (.str "a")) (aC (eC (.str "A")) (aC (eC (.str "")) (aC (eC (.str "-idem")) (aC (eC (.str "=idem")) (aC (eC (.str "zzzzzzzzz")) (aC (eC (.int 0)) (aC (eC .none) aN)))))))))))))) aN)))) sNil)
    (sSeq (sIf (tAn (tTr (eIsi "int" (eV 1))) (tNo (tTr (eIsi "bool" (eV 1))))) (sRet (eB ixD (eLst (aC (eB addD (eV 1) (eC (.int 1))) (aC (eB subD (eV 1) (eC (.int 1))) (aC (eC (.int 0)) (aC (eC (.int 1)) (aC (eB eqD (eV 1) (eC (.int 1))) (aC (eCb toStrT (aC (eV 1) aN)) (aC (eC .none) (aC (eB powD (eC (.int 10)) (eC (.int 40))) aN))))))))) (eCall F__law_draw [] (aC (eV 0) (aC (eC (.int 8)) aN))))) sNil)
    (sRet (eCall F__law_choice [] (aC (eV 0) (aC (eLst (aC (eC (.int 0)) (aC (eC (.str "x")) (aC (eTup aN) (aC (eC (.bool true)) (aC (eC .none) (aC (eTup (aC (eC (.str "x")) (aC (eTup aN) aN))) aN))))))) aN)))))))
def F__law_replacement : FF := defF 4 2 b__law_replacement
def b__law_mutated (g : FF) : FS :=
    (sSeq (sIf (tAn (tTr (eIsi "tuple" (eV 1))) (tAn (tB' (eB neD (eV 1) (eTup aN))) (tB' (eB gtD (eCall F__law_draw [] (aC (eV 0) (aC (eC (.int 5)) aN))) (eC (.int 0)))))) (sSeq (sAsg (eCall F__law_draw [] (aC (eV 0) (aC (eCb lenD (aC (eV 1) aN)) aN))) (gN 2))
    (sRet (eB addD (eB addD (eSl (eV 1) oN (oS (eV 2))) (eTup (aC (eCall g [] (aC (eV 0) (aC (eB ixD (eV 1) (eV 2)) aN))) aN))) (eSl (eV 1) (oS (eB addD (eV 2) (eC (.int 1)))) oN)))) sNil)
    (sRet (eCall F__law_replacement [] (aC (eV 0) (aC (eV 1) aN)))))
def F__law_mutated : Nat → FF
  | 0 => fun _ _ => .no
  | l + 1 => defF 3 2 (b__law_mutated (F__law_mutated l))
def b__law_free (g : FF) : FS :=
    (sSeq (sIf (tOr' (tB' (eB eqD (eV 1) (eC (.int 0)))) (tB' (eB eqD (eCall F__law_draw [] (aC (eV 0) (aC (eC (.int 3)) aN))) (eC (.int 0))))) (sRet (eCall F__law_choice [] (aC (eV 0) (aC (eLst (aC (eC (.str "?a")) (aC (eC (.str "?b")) (aC (eC (.str "?a")) (aC (eC (.str "?zzzzzzzz")) (aC (eTup (aC (eC (.str "x")) (aC (eTup aN) aN))) (aC (eTup (aC (eC (.str "no")) (aC (eTup aN) aN))) aN))))))) aN)))) sNil)
    (sSeq (sAsg (eCall F__law_draw [] (aC (eV 0) (aC (eC (.int 4)) aN))) (gN 2))
    (sRet (eTup (aC (eCall F__law_choice [] (aC (eV 0) (aC (eLst (aC (eC (.str "and")) (aC (eC (.str "f")) (aC (eC (.str "zzzzzzzz")) (aC (eC (.str "x")) aN))))) aN))) (aC (eCb tupleD (aC (eLc (iR1 (aC (eV 2) aN)) (gN 3) tYs (eCall g [] (aC (eV 0) (aC (eB subD (eV 1) (eC (.int 1))) aN))) [3]) aN)) aN))))))
def F__law_free : Nat → FF
  | 0 => fun _ _ => .no
  | l + 1 => defF 4 2 (b__law_free (F__law_free l))
def b__law_agrees : FS :=
    (sSeq (sAsg (eCall F__law_spots [] (aC (eV 0) aN)) (gT 2 (gC (gN 4) (gC (gN 5) gZ))))
    (sSeq (sAsg (eLstS (aC (eCb tupleD (aC (eCb sortDk (aC (eV 5) aN)) aN)) (aC (eCb tupleD (aC (eLc (iE (eV 4)) (gT 2 (gC (gN 7) (gC (gN 8) gZ))) tYs (eV 7) [7, 8]) aN)) aN))) (gN 1))
    (sSeq (sExp (eLm apL (eV 1) (aC (eCb tupleD (aC (eLc (iE (eCb sortDk (aC (eV 5) aN))) (gN 6) tYs (eTup (aC (eV 6) (aC (eCb tupleD (aC (eDg (eV 5) (eV 6)) aN)) aN))) [6]) aN)) aN)))
    (sSeq (sExp (eLm apL (eV 1) (aC (eCb tupleD (aC (eLc (iE (eCb sortDk (aC (eV 5) aN))) (gN 6) (tB' (eB gtD (eCb lenD (aC (eDg (eV 5) (eV 6)) aN)) (eC (.int 1)))) (eV 6) [6]) aN)) aN)))
    (sSeq (sAsg (eLst (aC (eCall F_variables_of [] (aC (eV 0) aN)) (aC (eCall F_own_places [] (aC (eV 0) aN)) (aC (eCall F_variable_places [] (aC (eV 0) aN)) (aC (eCall F_doubled_of [] (aC (eV 0) aN)) aN))))) (gN 2))
    (sSeq (sAsg (eLstS (aC (eCallN 0 1 (fun as bs => arr [(1, 0)] as [] bs) F_variables_of aN (aC (eV 0) aN)) (aC (eCallN 0 1 (fun as bs => arr [(1, 0)] as [] bs) F_own_places aN (aC (eV 0) aN)) (aC (eCallN 0 1 (fun as bs => arr [(1, 0)] as [] bs) F_variable_places aN (aC (eV 0) aN)) aN)))) (gN 3))
    (sSeq (sExp (eLm apL (eV 3) (aC (eCallN 0 1 (fun as bs => arr [(1, 0)] as [] bs) F_doubled_of aN (aC (eV 0) aN)) aN)))
    (sSeq (sFz 3) (sSeq (sFz 1) (sRet (eB eqD (eCb reprD (aC (eLst (aC (eV 2) (aC (eV 3) (aC (eCall (F_is_pattern 12) [] (aC (eV 0) aN)) aN)))) aN)) (eCb reprD (aC (eLst (aC (eV 1) (aC (eV 1) (aC (eC (.bool true)) aN)))) aN)))))))))))))
def F__law_agrees : FF := defF 9 1 b__law_agrees
def b__law_kinds_right : FS :=
    (sSeq (sFor (iE (eB addD (eLst (aC (eV 1) aN)) (eLc (iR1 (aC (eC (.int 6)) aN)) (gN 4) tYs (eCall (F__law_mutated 12) [] (aC (eV 0) (aC (eV 1) aN))) [4]))) (gN 2)
    (sSeq (sAsg (eCb reprD (aC (eV 2) aN)) (gN 3))
    (sIf (tOr' (tB' (eB neD (eCb reprD (aC (eLst (aC (eCall (F_is_pattern 12) [] (aC (eV 2) aN)) (aC (eCallN 0 1 (fun as bs => arr [(1, 0)] as [] bs) (F_is_pattern 12) aN (aC (eV 2) aN)) aN))) aN)) (eCb reprD (aC (eB mulL (eLst (aC (eCall F__law_is_pattern [] (aC (eV 2) aN)) aN)) (eC (.int 2))) aN)))) (tB' (eB neD (eCb reprD (aC (eV 2) aN)) (eV 3)))) (sRet (eC (.bool false))) sNil)))
    (sRet (eC (.bool true))))
def F__law_kinds_right : FF := defF 5 2 b__law_kinds_right
def b_law : FS :=
    (sSeq (sAsg (eCall F__law_feed [] (aC (eV 0) aN)) (gN 1))
    (sSeq (sAsg (eLstS (aC (eC (.str "?a")) (aC (eTup (aC (eC (.str "x")) (aC (eTup aN) aN))) (aC (eTup (aC (eC (.str "and")) (aC (eTup (aC (eC (.str "?a")) (aC (eTup (aC (eC (.str "or")) (aC (eTup (aC (eC (.str "?a")) (aC (eTup (aC (eC (.str "no")) (aC (eTup aN) aN))) aN))) aN))) aN))) aN))) aN)))) (gN 2))
    (sSeq (sFor (iR1 (aC (eC (.int 10)) aN)) (gN 3)
    (sSeq (sAsg (eCall F__law_choice [] (aC (eV 1) (aC (eLst (aC (eTup (aC (eC (.str "?a")) aN)) (aC (eTup (aC (eC (.str "?a")) (aC (eC (.str "?zzzzzzzz")) aN))) (aC (eTup (aC (eC (.str "?b")) (aC (eC (.str "?a")) (aC (eC (.str "?c")) aN)))) aN)))) aN))) (gN 7))
    (sExp (eLm apL (eV 2) (aC (eCall (F__law_pattern 5) [] (aC (eV 1) (aC (eCall F__law_tongue [] (aC (eV 1) aN)) (aC (eV 7) (aC (eC (.int 3)) aN))))) aN)))))
    (sSeq (sFz 2) (sSeq (sFor (iE (eV 2)) (gN 4)
    (sSeq (sAsg (eCb reprD (aC (eV 4) aN)) (gN 8))
    (sIf (tOr' (tNo (tTr (eCall F__law_agrees [] (aC (eV 4) aN)))) (tB' (eB neD (eCb reprD (aC (eV 4) aN)) (eV 8)))) (sRet (eC (.bool false))) sNil)))
    (sSeq (sAsg (eTup (aC (eC (.str "f")) (aC (eB mulD (eTup (aC (eC (.str "?a")) (aC (eC (.str "?b")) aN))) (eC (.int 4))) aN))) (gN 5))
    (sSeq (sFor (iE (eB addD (eB addD (eSl (eV 2) oN (oS (eC (.int 6)))) (eLst (aC (eV 5) (aC (eTup (aC (eC (.str "f")) (aC (eTup (aC (eC (.str "?b")) (aC (eC (.str "?a")) (aC (eC (.str "?b")) (aC (eC (.str "?a")) aN))))) aN))) aN)))) (eLc (iR1 (aC (eC (.int 8)) aN)) (gN 9) tYs (eCall (F__law_free 4) [] (aC (eV 1) (aC (eC (.int 2)) aN))) [9]))) (gN 4)
    (sIf (tNo (tTr (eCall F__law_kinds_right [] (aC (eV 1) (aC (eV 4) aN))))) (sRet (eC (.bool false))) sNil))
    (sSeq (sAsg (eLst (aC (eTup (aC (eC (.str "f")) (aC (eB addD (eB mulD (eTup (aC (eC (.str "?a")) aN)) (eC (.int 7))) (eTup (aC (eC (.int 0)) aN))) aN))) (aC (eTup (aC (eC (.str "f")) (aC (eB addD (eB mulD (eTup (aC (eTup (aC (eC (.str "x")) (aC (eTup aN) aN))) aN)) (eC (.int 8))) (eTup (aC (eC (.str "a")) aN))) aN))) aN))) (gN 6))
    (sSeq (sAsg (eB addD (eV 6) (eLst (aC (eC .none) (aC (eC (.bool true)) (aC (eC (.int 0)) (aC (eC (.str "")) (aC (eC (.str "?")) (aC (eC (.str "?A")) (aC (eC (.str "a")) (aC (eC (.str "?zzzzzzzzz")) (aC (eC (.str "?zzzzzzzz")) (aC (eC (.str "?a ")) (aC (eC (.str "? a")) (aC (eC (.str "??a")) (aC (eTup aN) (aC (eTup (aC (eC (.str "x")) aN)) aN)))))))))))))))) (gN 6))
    (sSeq (sAsg (eB addD (eV 6) (eLst (aC (eTup (aC (eC (.str "x")) (aC (eLst aN) aN))) (aC (eTup (aC (eC (.str "X")) (aC (eTup aN) aN))) aN)))) (gN 6))
    (sSeq (sAsg (eB addD (eV 6) (eLst (aC (eLst (aC (eC (.str "x")) (aC (eTup aN) aN))) (aC (eTup (aC (eC (.str "x")) (aC (eTup aN) (aC (eTup aN) aN)))) (aC (eTup (aC (eC (.str "x")) (aC (eTup (aC (eC (.str "?a")) (aC (eC (.int 0)) aN))) aN))) (aC (eTup (aC (eTup (aC (eC (.str "x")) aN)) (aC (eTup aN) aN))) (aC (eTup (aC (eC (.str "?a")) (aC (eTup aN) aN))) (aC (eTup (aC (eC (.str "x")) (aC (eC (.str "?a")) aN))) aN)))))))) (gN 6))
    (sSeq (sAsg (eB addD (eV 6) (eLst (aC (eTup (aC (eC (.str "")) (aC (eTup aN) aN))) (aC (eTup (aC (eC (.str "x")) (aC (eTup (aC (eC .none) aN)) aN))) (aC (eC (.str "?a1")) (aC (eC (.str "?aB")) (aC (eC (.str "?a_")) (aC (eTup (aC (eC (.str "a1")) (aC (eTup aN) aN))) (aC (eTup (aC (eC (.str "aB")) (aC (eTup aN) aN))) (aC (eTup (aC (eC (.str "a_")) (aC (eTup aN) aN))) aN)))))))))) (gN 6))
    (sRet (eB eqL (eLc (iE (eV 6)) (gN 10) (tB' (eB neD (eCb reprD (aC (eCall (F_is_pattern 12) [] (aC (eV 10) aN)) aN)) (eCb reprD (aC (eCall F__law_is_pattern [] (aC (eV 10) aN)) aN)))) (eV 10) [10]) (eLst aN)))))))))))))))
def F_law : FF := defF 11 1 b_law
section
variable {P : Program} {w : World} {K : PySem.W.Frag} {mg : Str → Option Value} {base : Heap}
theorem sc_is_name : FnScope N_is_name P_is_name (defScope s_is_name) := ⟨rfl, rfl, rfl, by decide +kernel, rfl, by decide +kernel, by decide +kernel⟩
theorem G_is_name (T : Tx K mg) : Gx P w K mg base 1 T.d_is_name F_is_name := by
  refine gx_of _ sc_is_name fun cdv A outer s H E hr hg => ?_
  have nd := sc_is_name.nd
  have tk := tkX (P := P) (w := w) (K := K) (mg := mg) (base := base) (x := "is_name") (st := s_is_name) (N := N_is_name) (f := T.d_is_name.f) (cdv := cdv) (A := A) (outer := outer) (s := s) (H := H) (E := E)
  have po := poX (P := P) (w := w) (K := K) (mg := mg) (base := base) (x := "is_name") (st := s_is_name) (N := N_is_name) (f := T.d_is_name.f) (cdv := cdv) (A := A) (outer := outer) (s := s) (H := H) (E := E)
  exact (pssf_cons (psf_if (ptf_w (pwf_or (ptf_not (ptf_tru (pf_isi (T := "str") (pf_var 0) (by rfl) T.b_isinstance (by rfl) T.b_str (by decide +kernel)))) (pwf_or1 (ptf_not (ptf_chain op_leD op_leD pf_int (pf_callB call_lenX (by rfl) T.b_len (by decide +kernel) (paf_cons (pf_var 0) paf_nil)) (pf_gint (by rfl) T.c_LONGEST_NAME.2)))))) (pssf_one (psf_ret pf_bl)) pssf_nil)
    (pssf_one (psf_ret (pf_callB (call_allX rfl) (by rfl) T.b_all (by decide +kernel) (paf_cons (pf_lc (own := [("char", 1)]) rfl nd (pif_any (pf_var 0)) (blkOk_by (own := [("char", 1)]) (N := N_is_name) (sc := defScope s_is_name) (by decide +kernel)) (fun _ _ _ _ _ => (pgf_name (i := 1) nd rfl (by first | exact Or.inl rfl | exact Or.inr rfl))) (fun _ _ _ _ _ => ptsf_nil) (fun _ _ _ _ _ => (pf_cmp (op_inX (hu65 hr)) (pf_var 1) (pf_gstr (by rfl) T.c_LETTERS.2)))) paf_nil)))))
theorem sc_is_variable : FnScope N_is_variable P_is_variable (defScope s_is_variable) := ⟨rfl, rfl, rfl, by decide +kernel, rfl, by decide +kernel, by decide +kernel⟩
theorem G_is_variable (T : Tx K mg) : Gx P w K mg base 2 T.d_is_variable F_is_variable := by
  have G_is_name := G_is_name (P := P) (w := w) (base := base) T
  refine gx_of _ sc_is_variable fun cdv A outer s H E hr hg => ?_
  have nd := sc_is_variable.nd
  have tk := tkX (P := P) (w := w) (K := K) (mg := mg) (base := base) (x := "is_variable") (st := s_is_variable) (N := N_is_variable) (f := T.d_is_variable.f) (cdv := cdv) (A := A) (outer := outer) (s := s) (H := H) (E := E)
  have po := poX (P := P) (w := w) (K := K) (mg := mg) (base := base) (x := "is_variable") (st := s_is_variable) (N := N_is_variable) (f := T.d_is_variable.f) (cdv := cdv) (A := A) (outer := outer) (s := s) (H := H) (E := E)
  exact (pssf_one (psf_ret (pf_and (pf_isi (T := "str") (pf_var 0) (by rfl) T.b_isinstance (by rfl) T.b_str (by decide +kernel)) (pf_and (pf_cmp (op_eqD' (hu64 hr)) (pf_slice (pf_var 0) pof_none (pof_some pf_int)) (pf_gstr (by rfl) T.c_MARK.2)) (pf_one (pf_callR G_is_name (hr.mono (by decide)) hg (by rfl) tk (paf_cons (pf_slice (pf_var 0) (pof_some pf_int) pof_none) paf_nil)))))))
theorem sc_is_pattern : FnScope N_is_pattern P_is_pattern (defScope s_is_pattern) := ⟨rfl, rfl, rfl, by decide +kernel, rfl, by decide +kernel, by decide +kernel⟩
theorem G_is_pattern (T : Tx K mg) : ∀ l, Gx P w K mg base (2 + l) T.d_is_pattern (F_is_pattern l)
  | 0 => gx_no _
  | l + 1 => by
    have G := G_is_pattern T l
    have G_is_variable := G_is_variable (P := P) (w := w) (base := base) T
    have G_is_name := G_is_name (P := P) (w := w) (base := base) T
    refine gx_of (k := 2 + l) _ sc_is_pattern fun cdv A outer s H E hr hg => ?_
    have nd := sc_is_pattern.nd
    have tk := tkX (P := P) (w := w) (K := K) (mg := mg) (base := base) (x := "is_pattern") (st := s_is_pattern) (N := N_is_pattern) (f := T.d_is_pattern.f) (cdv := cdv) (A := A) (outer := outer) (s := s) (H := H) (E := E)
    have po := poX (P := P) (w := w) (K := K) (mg := mg) (base := base) (x := "is_pattern") (st := s_is_pattern) (N := N_is_pattern) (f := T.d_is_pattern.f) (cdv := cdv) (A := A) (outer := outer) (s := s) (H := H) (E := E)
    exact (pssf_cons (psf_if (ptf_tru (pf_callR G_is_variable (hr.mono (by omega)) hg (by rfl) tk (paf_cons (pf_var 0) paf_nil))) (pssf_one (psf_ret pf_bl)) pssf_nil)
    (pssf_cons (psf_if (ptf_w (pwf_or (ptf_not (ptf_tru (pf_isi (T := "tuple") (pf_var 0) (by rfl) T.b_isinstance (by rfl) T.b_tuple (by decide +kernel)))) (pwf_or (ptf_cmp (op_neD' (hu64 hr)) (pf_callB call_lenX (by rfl) T.b_len (by decide +kernel) (paf_cons (pf_var 0) paf_nil)) pf_int) (pwf_or (ptf_not (ptf_tru (pf_callR G_is_name (hr.mono (by omega)) hg (by rfl) tk (paf_cons (pf_ix (pf_var 0) pf_int) paf_nil)))) (pwf_or1 (ptf_not (ptf_tru (pf_isi (T := "tuple") (pf_ix (pf_var 0) pf_int) (by rfl) T.b_isinstance (by rfl) T.b_tuple (by decide +kernel))))))))) (pssf_one (psf_ret pf_bl)) pssf_nil)
    (pssf_one (psf_ret (pf_callB (call_allX rfl) (by rfl) T.b_all (by decide +kernel) (paf_cons (pf_lc (own := [("part", 1)]) rfl nd (pif_any (pf_ix (pf_var 0) pf_int)) (blkOk_by (own := [("part", 1)]) (N := N_is_pattern) (sc := defScope s_is_pattern) (by decide +kernel)) (fun _ _ _ _ _ => (pgf_name (i := 1) nd rfl (by first | exact Or.inl rfl | exact Or.inr rfl))) (fun _ _ _ _ _ => ptsf_nil) (fun _ _ _ _ _ => (pf_callR G (hr.mono (by omega)) hg (by rfl) takesW0 (paf_cons (pf_var 1) paf_nil)))) paf_nil))))))
theorem sc_nodes_in : GScope N_nodes_in P_nodes_in (defScope s_nodes_in) := ⟨rfl, rfl, rfl, by decide +kernel, rfl, by decide +kernel, by decide +kernel⟩
theorem G_nodes_in (T : Tx K mg) : GnF P w K mg base 4 T.d_nodes_in.f T.d_nodes_in.fd P_nodes_in F_nodes_in := by
  have G_is_variable := G_is_variable (P := P) (w := w) (base := base) T
  refine gnf_of (k := 2) (N := N_nodes_in) T.d_nodes_in.fn sc_nodes_in (by decide +kernel) fun c e1 e2 e3 e4 e5 e6 e7 e8 e9 hr hg => ?_
  obtain ⟨P0, w0, K0, mg0, base0, NN, qual0, scope0, f0, cd0, outer0, A0, n0, pn0⟩ := c
  simp only at e1 e2 e3 e4 e5 e6 e7 e8 e9
  subst e1 e2 e3 e4 e5 e6 e7 e8 e9
  have nd := sc_nodes_in.nd
  exact (gjs_cons (gj_pl fun _ _ _ => (psf_set (i := 1) nd rfl (by first | exact Or.inl rfl | exact Or.inr rfl) (pf_lstS (paf_cons (pf_tup (paf_cons (pf_tup paf_nil) (paf_cons (pf_var 0) paf_nil))) paf_nil))))
    (gjs_cons (gj_wh (fun _ _ _ => (ptf_cmp op_gtD (pf_callB call_lenX (by rfl) T.b_len (by decide +kernel) (paf_cons (pf_var 1) paf_nil)) pf_int))
    (gjs_cons (gj_pl fun _ _ _ => (psf_asg (pf_lm0 PySem.F.slot_list_pop PySem.F.type_list_pop mtL_pop (pf_var 1)) (pgf_tup rfl (pgsf_cons (pgf_name (i := 2) nd rfl (by first | exact Or.inl rfl | exact Or.inr rfl)) (pgsf_cons (pgf_name (i := 3) nd rfl (by first | exact Or.inl rfl | exact Or.inr rfl)) pgsf_nil)))))
    (gjs_cons (gj_yd (fun _ _ _ => (pf_tup (paf_cons (pf_var 2) (paf_cons (pf_var 3) paf_nil)))) rfl)
    (gjs_cons (gj_pl fun _ _ _ => (psf_if (ptf_not (ptf_tru (pf_callR G_is_variable (hr.mono (by decide)) hg (by rfl) takesW0 (paf_cons (pf_var 3) paf_nil)))) (pssf_one (psf_for PassesOwn.never rfl (pif_range3 (by rfl) T.b_range (paf_cons (pf_bin op_subD (pf_callB call_lenX (by rfl) T.b_len (by decide +kernel) (paf_cons (pf_ix (pf_var 3) pf_int) paf_nil)) pf_int) (paf_cons (pf_un un_negD pf_int) (paf_cons (pf_un un_negD pf_int) paf_nil)))) (pgf_name (i := 4) nd rfl (by first | exact Or.inl rfl | exact Or.inr rfl))
    (pssf_one (psf_expr (pf_lm PySem.F.slot_list_append PySem.F.type_list_append mtL_append (pf_var 1) (paf_cons (pf_tup (paf_cons (pf_tup (paf_star (pf_var 2) (paf_cons (pf_var 4) paf_nil))) (paf_cons (pf_ix (pf_ix (pf_var 3) pf_int) (pf_var 4)) paf_nil))) paf_nil)))))) pssf_nil))
    gjs_nil app_nil) (app_sq (app_pl _) app_nil)) (app_sq (app_yd _) (app_sq (app_pl _) app_nil))) (app_sq (app_pl _) (app_sq (app_yd _) (app_sq (app_pl _) app_nil))))
    gjs_nil app_nil) (app_sq (app_wl (app_sq (app_pl _) (app_sq (app_yd _) (app_sq (app_pl _) app_nil))) 1000000) app_nil))
theorem sc_variables_of : FnScope N_variables_of P_variables_of (defScope s_variables_of) := ⟨rfl, rfl, rfl, by decide +kernel, rfl, by decide +kernel, by decide +kernel⟩
theorem G_variables_of (T : Tx K mg) : Gx P w K mg base 5 T.d_variables_of F_variables_of := by
  have G_nodes_in := G_nodes_in (P := P) (w := w) (base := base) T
  have G_is_variable := G_is_variable (P := P) (w := w) (base := base) T
  refine gx_of _ sc_variables_of fun cdv A outer s H E hr hg => ?_
  have nd := sc_variables_of.nd
  have tk := tkX (P := P) (w := w) (K := K) (mg := mg) (base := base) (x := "variables_of") (st := s_variables_of) (N := N_variables_of) (f := T.d_variables_of.f) (cdv := cdv) (A := A) (outer := outer) (s := s) (H := H) (E := E)
  have po := poX (P := P) (w := w) (K := K) (mg := mg) (base := base) (x := "variables_of") (st := s_variables_of) (N := N_variables_of) (f := T.d_variables_of.f) (cdv := cdv) (A := A) (outer := outer) (s := s) (H := H) (E := E)
  exact (pssf_one (psf_ret (pf_callTy call_tupleX (by rfl) T.b_tuple (by decide +kernel) (paf_cons (pf_sscG (own := [("place", 1), ("own", 2)]) rfl nd rfl (by rfl) T.b_sorted G_nodes_in (hr.mono (by decide)) hg (by rfl) T.d_nodes_in.at_ T.d_nodes_in.fn.kp T.d_nodes_in.bd (paf_cons (pf_var 0) paf_nil) (blkOk_by (own := [("place", 1), ("own", 2)]) (N := N_variables_of) (sc := defScope s_variables_of) (by decide +kernel)) (by decide +kernel) (fun _ _ _ _ _ => (pgf_tup rfl (pgsf_cons (pgf_name (i := 1) nd rfl (by first | exact Or.inl rfl | exact Or.inr rfl)) (pgsf_cons (pgf_name (i := 2) nd rfl (by first | exact Or.inl rfl | exact Or.inr rfl)) pgsf_nil)))) (fun _ _ _ _ _ => (ptsf_one (ptf_tru (pf_callR G_is_variable (hr.mono (by decide)) hg (by rfl) takesW0 (paf_cons (pf_var 2) paf_nil))))) (fun _ _ _ _ _ => (pf_var 2))) paf_nil))))
theorem sc_own_places : FnScope N_own_places P_own_places (defScope s_own_places) := ⟨rfl, rfl, rfl, by decide +kernel, rfl, by decide +kernel, by decide +kernel⟩
theorem G_own_places (T : Tx K mg) : Gx P w K mg base 5 T.d_own_places F_own_places := by
  have G_nodes_in := G_nodes_in (P := P) (w := w) (base := base) T
  have G_is_variable := G_is_variable (P := P) (w := w) (base := base) T
  refine gx_of _ sc_own_places fun cdv A outer s H E hr hg => ?_
  have nd := sc_own_places.nd
  have tk := tkX (P := P) (w := w) (K := K) (mg := mg) (base := base) (x := "own_places") (st := s_own_places) (N := N_own_places) (f := T.d_own_places.f) (cdv := cdv) (A := A) (outer := outer) (s := s) (H := H) (E := E)
  have po := poX (P := P) (w := w) (K := K) (mg := mg) (base := base) (x := "own_places") (st := s_own_places) (N := N_own_places) (f := T.d_own_places.f) (cdv := cdv) (A := A) (outer := outer) (s := s) (H := H) (E := E)
  exact (pssf_one (psf_ret (pf_callTy call_tupleX (by rfl) T.b_tuple (by decide +kernel) (paf_cons (pf_lcG (own := [("place", 1), ("own", 2)]) rfl nd rfl G_nodes_in (hr.mono (by decide)) hg (by rfl) T.d_nodes_in.at_ T.d_nodes_in.fn.kp T.d_nodes_in.bd (paf_cons (pf_var 0) paf_nil) (blkOk_by (own := [("place", 1), ("own", 2)]) (N := N_own_places) (sc := defScope s_own_places) (by decide +kernel)) (by decide +kernel) (fun _ _ _ _ _ => (pgf_tup rfl (pgsf_cons (pgf_name (i := 1) nd rfl (by first | exact Or.inl rfl | exact Or.inr rfl)) (pgsf_cons (pgf_name (i := 2) nd rfl (by first | exact Or.inl rfl | exact Or.inr rfl)) pgsf_nil)))) (fun _ _ _ _ _ => (ptsf_one (ptf_not (ptf_tru (pf_callR G_is_variable (hr.mono (by decide)) hg (by rfl) takesW0 (paf_cons (pf_var 2) paf_nil)))))) (fun _ _ _ _ _ => (pf_var 1))) paf_nil))))
theorem sc_variable_places : FnScope N_variable_places P_variable_places (defScope s_variable_places) := ⟨rfl, rfl, rfl, by decide +kernel, rfl, by decide +kernel, by decide +kernel⟩
theorem G_variable_places (T : Tx K mg) : Gx P w K mg base 5 T.d_variable_places F_variable_places := by
  have G_nodes_in := G_nodes_in (P := P) (w := w) (base := base) T
  have G_is_variable := G_is_variable (P := P) (w := w) (base := base) T
  refine gx_of _ sc_variable_places fun cdv A outer s H E hr hg => ?_
  have nd := sc_variable_places.nd
  have tk := tkX (P := P) (w := w) (K := K) (mg := mg) (base := base) (x := "variable_places") (st := s_variable_places) (N := N_variable_places) (f := T.d_variable_places.f) (cdv := cdv) (A := A) (outer := outer) (s := s) (H := H) (E := E)
  have po := poX (P := P) (w := w) (K := K) (mg := mg) (base := base) (x := "variable_places") (st := s_variable_places) (N := N_variable_places) (f := T.d_variable_places.f) (cdv := cdv) (A := A) (outer := outer) (s := s) (H := H) (E := E)
  exact (pssf_cons (psf_set (i := 1) nd rfl (by first | exact Or.inl rfl | exact Or.inr rfl) pf_d0)
    (pssf_cons (psf_forG po rfl rfl G_nodes_in (hr.mono (by decide)) hg (by rfl) T.d_nodes_in.at_ T.d_nodes_in.fn.kp T.d_nodes_in.bd (paf_cons (pf_var 0) paf_nil) (pgf_tup rfl (pgsf_cons (pgf_name (i := 2) nd rfl (by first | exact Or.inl rfl | exact Or.inr rfl)) (pgsf_cons (pgf_name (i := 3) nd rfl (by first | exact Or.inl rfl | exact Or.inr rfl)) pgsf_nil)))
    (pssf_one (psf_if (ptf_tru (pf_callR G_is_variable (hr.mono (by decide)) hg (by rfl) takesW0 (paf_cons (pf_var 3) paf_nil))) (pssf_one (psf_expr (pf_lm PySem.F.slot_list_append PySem.F.type_list_append mtL_append (pf_setd (pf_var 1) (pf_var 3) (pf_lstS paf_nil)) (paf_cons (pf_var 2) paf_nil)))) pssf_nil)))
    (pssf_one (psf_ret (pf_callTy call_tupleX (by rfl) T.b_tuple (by decide +kernel) (paf_cons (pf_lc (own := [("variable", 4)]) rfl nd (pif_any (pf_callB (call_sortedDk rfl) (by rfl) T.b_sorted (by decide +kernel) (paf_cons (pf_var 1) paf_nil))) (blkOk_by (own := [("variable", 4)]) (N := N_variable_places) (sc := defScope s_variable_places) (by decide +kernel)) (fun _ _ _ _ _ => (pgf_name (i := 4) nd rfl (by first | exact Or.inl rfl | exact Or.inr rfl))) (fun _ _ _ _ _ => ptsf_nil) (fun _ _ _ _ _ => (pf_tup (paf_cons (pf_var 4) (paf_cons (pf_callTy call_tupleX (by rfl) T.b_tuple (by decide +kernel) (paf_cons (pf_dget (hu1 hr) (pf_var 1) (pf_var 4)) paf_nil)) paf_nil))))) paf_nil))))))
theorem sc_doubled_of : FnScope N_doubled_of P_doubled_of (defScope s_doubled_of) := ⟨rfl, rfl, rfl, by decide +kernel, rfl, by decide +kernel, by decide +kernel⟩
theorem G_doubled_of (T : Tx K mg) : Gx P w K mg base 6 T.d_doubled_of F_doubled_of := by
  have G_variable_places := G_variable_places (P := P) (w := w) (base := base) T
  refine gx_of _ sc_doubled_of fun cdv A outer s H E hr hg => ?_
  have nd := sc_doubled_of.nd
  have tk := tkX (P := P) (w := w) (K := K) (mg := mg) (base := base) (x := "doubled_of") (st := s_doubled_of) (N := N_doubled_of) (f := T.d_doubled_of.f) (cdv := cdv) (A := A) (outer := outer) (s := s) (H := H) (E := E)
  have po := poX (P := P) (w := w) (K := K) (mg := mg) (base := base) (x := "doubled_of") (st := s_doubled_of) (N := N_doubled_of) (f := T.d_doubled_of.f) (cdv := cdv) (A := A) (outer := outer) (s := s) (H := H) (E := E)
  exact (pssf_one (psf_ret (pf_callTy call_tupleX (by rfl) T.b_tuple (by decide +kernel) (paf_cons (pf_lc (own := [("variable", 1), ("places", 2)]) rfl nd (pif_any (pf_callR G_variable_places (hr.mono (by decide)) hg (by rfl) tk (paf_cons (pf_var 0) paf_nil))) (blkOk_by (own := [("variable", 1), ("places", 2)]) (N := N_doubled_of) (sc := defScope s_doubled_of) (by decide +kernel)) (fun _ _ _ _ _ => (pgf_tup rfl (pgsf_cons (pgf_name (i := 1) nd rfl (by first | exact Or.inl rfl | exact Or.inr rfl)) (pgsf_cons (pgf_name (i := 2) nd rfl (by first | exact Or.inl rfl | exact Or.inr rfl)) pgsf_nil)))) (fun _ _ _ _ _ => (ptsf_one (ptf_cmp op_gtD (pf_callB call_lenX (by rfl) T.b_len (by decide +kernel) (paf_cons (pf_var 2) paf_nil)) pf_int))) (fun _ _ _ _ _ => (pf_var 1))) paf_nil))))
theorem sc__law_feed : FnScope N__law_feed P__law_feed (defScope s__law_feed) := ⟨rfl, rfl, rfl, by decide +kernel, rfl, by decide +kernel, by decide +kernel⟩
theorem G__law_feed (T : Tx K mg) : Gx P w K mg base 1 T.d__law_feed F__law_feed := by
  refine gx_of _ sc__law_feed fun cdv A outer s H E hr hg => ?_
  have nd := sc__law_feed.nd
  have tk := tkX (P := P) (w := w) (K := K) (mg := mg) (base := base) (x := "_law_feed") (st := s__law_feed) (N := N__law_feed) (f := T.d__law_feed.f) (cdv := cdv) (A := A) (outer := outer) (s := s) (H := H) (E := E)
  have po := poX (P := P) (w := w) (K := K) (mg := mg) (base := base) (x := "_law_feed") (st := s__law_feed) (N := N__law_feed) (f := T.d__law_feed.f) (cdv := cdv) (A := A) (outer := outer) (s := s) (H := H) (E := E)
  exact (pssf_one (psf_ret (pf_lstS (paf_cons (pf_callTy call_listX (by rfl) T.b_list (by decide +kernel) (paf_cons (pf_slice (pf_var 0) pof_none (pof_some pf_int)) paf_nil)) (paf_cons pf_int (paf_cons pf_int (paf_cons pf_int paf_nil)))))))
theorem sc__law_draw : FnScope N__law_draw P__law_draw (defScope s__law_draw) := ⟨rfl, rfl, rfl, by decide +kernel, rfl, by decide +kernel, by decide +kernel⟩
theorem G__law_draw (T : Tx K mg) : Gx P w K mg base 1 T.d__law_draw F__law_draw := by
  refine gx_of _ sc__law_draw fun cdv A outer s H E hr hg => ?_
  have nd := sc__law_draw.nd
  have tk := tkX (P := P) (w := w) (K := K) (mg := mg) (base := base) (x := "_law_draw") (st := s__law_draw) (N := N__law_draw) (f := T.d__law_draw.f) (cdv := cdv) (A := A) (outer := outer) (s := s) (H := H) (E := E)
  have po := poX (P := P) (w := w) (K := K) (mg := mg) (base := base) (x := "_law_draw") (st := s__law_draw) (N := N__law_draw) (f := T.d__law_draw.f) (cdv := cdv) (A := A) (outer := outer) (s := s) (H := H) (E := E)
  exact (pssf_cons (psf_asg (pf_bin op_addD (pf_ix (pf_var 0) pf_int) pf_int) (pgf_ix (pf_w0 (W := fun c d _ H => E c d H) (pf_var 0)) (pf_w0 (W := fun c d _ H => E c d H) pf_int)))
    (pssf_cons (psf_if (ptf_cmp op_gtD (pf_ix (pf_var 0) pf_int) pf_int) (pssf_cons (psf_set (i := 5) nd rfl (by first | exact Or.inl rfl | exact Or.inr rfl) (pf_bin op_modD (pf_callTy call_intX (by rfl) T.b_int (by decide +kernel) (paf_cons (pf_ix (pf_var 0) pf_int) paf_nil)) (pf_var 1)))
    (pssf_cons (psf_asg (pf_bin op_fdvD (pf_ix (pf_var 0) pf_int) (pf_var 1)) (pgf_ix (pf_w0 (W := fun c d _ H => E c d H) (pf_var 0)) (pf_w0 (W := fun c d _ H => E c d H) pf_int)))
    (pssf_one (psf_ret (pf_var 5))))) pssf_nil)
    (pssf_cons (psf_set (i := 2) nd rfl (by first | exact Or.inl rfl | exact Or.inr rfl) (pf_ifx (ptf_cmp (op_neL (hu64 hr)) (pf_ix (pf_var 0) pf_int) (pf_lst paf_nil)) (pf_ix (pf_ix (pf_var 0) pf_int) (pf_bin op_modD (pf_callTy call_intX (by rfl) T.b_int (by decide +kernel) (paf_cons (pf_ix (pf_var 0) pf_int) paf_nil)) (pf_callB call_lenX (by rfl) T.b_len (by decide +kernel) (paf_cons (pf_ix (pf_var 0) pf_int) paf_nil)))) pf_int))
    (pssf_cons (psf_asg (pf_bin op_addD (pf_ix (pf_var 0) pf_int) pf_int) (pgf_ix (pf_w0 (W := fun c d _ H => E c d H) (pf_var 0)) (pf_w0 (W := fun c d _ H => E c d H) pf_int)))
    (pssf_cons (psf_if (ptf_w (pwf_and (ptf_cmp op_geD (pf_var 2) (pf_bin op_powD pf_int pf_int)) (pwf_and1 (ptf_cmp op_leD (pf_ix (pf_var 0) pf_int) (pf_callB call_lenX (by rfl) T.b_len (by decide +kernel) (paf_cons (pf_ix (pf_var 0) pf_int) paf_nil)))))) (pssf_cons (psf_asg (pf_bin op_fdvD (pf_var 2) (pf_var 1)) (pgf_ix (pf_w0 (W := fun c d _ H => E c d H) (pf_var 0)) (pf_w0 (W := fun c d _ H => E c d H) pf_int)))
    (pssf_one (psf_ret (pf_bin op_modD (pf_callTy call_intX (by rfl) T.b_int (by decide +kernel) (paf_cons (pf_var 2) paf_nil)) (pf_var 1))))) pssf_nil)
    (pssf_cons (psf_set (i := 3) nd rfl (by first | exact Or.inl rfl | exact Or.inr rfl) (pf_ix (pf_var 0) pf_int))
    (pssf_cons (psf_set (i := 4) nd rfl (by first | exact Or.inl rfl | exact Or.inr rfl) (pf_callTy call_intX (by rfl) T.b_int (by decide +kernel) (paf_cons (pf_bin op_powD (pf_bin op_addD (pf_bin op_addD (pf_bin op_modD (pf_callTy call_intX (by rfl) T.b_int (by decide +kernel) (paf_cons (pf_var 2) paf_nil)) pf_int) (pf_bin op_mulD (pf_bin op_mulD pf_int (pf_var 3)) (pf_bin op_addD (pf_var 3) pf_int))) pf_int) pf_int) paf_nil)))
    (pssf_cons (psf_set (i := 4) nd rfl (by first | exact Or.inl rfl | exact Or.inr rfl) (pf_callTy call_intX (by rfl) T.b_int (by decide +kernel) (paf_cons (pf_bin op_powD (pf_bin op_addD (pf_bin op_mulD (pf_bin op_modD (pf_callTy call_intX (by rfl) T.b_int (by decide +kernel) (paf_cons (pf_var 4) paf_nil)) pf_int) (pf_bin op_addD (pf_bin op_mulD pf_int (pf_var 3)) pf_int)) (pf_bin op_mulD pf_int (pf_var 3))) pf_int) paf_nil)))
    (pssf_one (psf_ret (pf_bin op_modD (pf_callTy call_intX (by rfl) T.b_int (by decide +kernel) (paf_cons (pf_bin op_fdvD (pf_bin op_modD (pf_callTy call_intX (by rfl) T.b_int (by decide +kernel) (paf_cons (pf_var 4) paf_nil)) pf_int) pf_int) paf_nil)) (pf_var 1))))))))))))
theorem sc__law_choice : FnScope N__law_choice P__law_choice (defScope s__law_choice) := ⟨rfl, rfl, rfl, by decide +kernel, rfl, by decide +kernel, by decide +kernel⟩
theorem G__law_choice (T : Tx K mg) : Gx P w K mg base 2 T.d__law_choice F__law_choice := by
  have G__law_draw := G__law_draw (P := P) (w := w) (base := base) T
  refine gx_of _ sc__law_choice fun cdv A outer s H E hr hg => ?_
  have nd := sc__law_choice.nd
  have tk := tkX (P := P) (w := w) (K := K) (mg := mg) (base := base) (x := "_law_choice") (st := s__law_choice) (N := N__law_choice) (f := T.d__law_choice.f) (cdv := cdv) (A := A) (outer := outer) (s := s) (H := H) (E := E)
  have po := poX (P := P) (w := w) (K := K) (mg := mg) (base := base) (x := "_law_choice") (st := s__law_choice) (N := N__law_choice) (f := T.d__law_choice.f) (cdv := cdv) (A := A) (outer := outer) (s := s) (H := H) (E := E)
  exact (pssf_one (psf_ret (pf_ix (pf_var 1) (pf_callR G__law_draw (hr.mono (by decide)) hg (by rfl) tk (paf_cons (pf_var 0) (paf_cons (pf_callB call_lenX (by rfl) T.b_len (by decide +kernel) (paf_cons (pf_var 1) paf_nil)) paf_nil))))))
theorem sc__law_tongue : FnScope N__law_tongue P__law_tongue (defScope s__law_tongue) := ⟨rfl, rfl, rfl, by decide +kernel, rfl, by decide +kernel, by decide +kernel⟩
theorem G__law_tongue (T : Tx K mg) : Gx P w K mg base 3 T.d__law_tongue F__law_tongue := by
  have G__law_choice := G__law_choice (P := P) (w := w) (base := base) T
  have G__law_draw := G__law_draw (P := P) (w := w) (base := base) T
  refine gx_of _ sc__law_tongue fun cdv A outer s H E hr hg => ?_
  have nd := sc__law_tongue.nd
  have tk := tkX (P := P) (w := w) (K := K) (mg := mg) (base := base) (x := "_law_tongue") (st := s__law_tongue) (N := N__law_tongue) (f := T.d__law_tongue.f) (cdv := cdv) (A := A) (outer := outer) (s := s) (H := H) (E := E)
  have po := poX (P := P) (w := w) (K := K) (mg := mg) (base := base) (x := "_law_tongue") (st := s__law_tongue) (N := N__law_tongue) (f := T.d__law_tongue.f) (cdv := cdv) (A := A) (outer := outer) (s := s) (H := H) (E := E)
  exact (pssf_cons (psf_set (i := 1) nd rfl (by first | exact Or.inl rfl | exact Or.inr rfl) (pf_bin op_addD pf_int (pf_callTy call_intX (by rfl) T.b_int (by decide +kernel) (paf_cons (pf_cmp (op_eqD' (hu64 hr)) (pf_callR G__law_draw (hr.mono (by decide)) hg (by rfl) tk (paf_cons (pf_var 0) (paf_cons pf_int paf_nil))) pf_int) paf_nil))))
    (pssf_cons (psf_par (i := 2) (j := 3) rfl nd rfl rfl (by decide) rfl rfl (paf_cons (pf_callR G__law_choice (hr.mono (by decide)) hg (by rfl) tk (paf_cons (pf_var 0) (paf_cons (pf_lst (paf_cons (pf_tup (paf_cons pf_str (paf_cons pf_str paf_nil))) (paf_cons (pf_tup (paf_cons pf_str paf_nil)) (paf_cons (pf_tup (paf_cons pf_str (paf_cons pf_str (paf_cons pf_str paf_nil)))) paf_nil)))) paf_nil))) (paf_cons (pf_lstS paf_nil) paf_nil)) (by rfl))
    (pssf_cons (psf_for po rfl (pif_any (pf_tup (paf_cons (pf_tup (paf_cons pf_str (paf_cons pf_int paf_nil))) (paf_cons (pf_tup (paf_cons pf_str (paf_cons pf_int paf_nil))) (paf_cons (pf_tup (paf_cons pf_str (paf_cons pf_int paf_nil))) (paf_cons (pf_tup (paf_cons pf_str (paf_cons pf_int paf_nil))) (paf_cons (pf_tup (paf_cons pf_str (paf_cons pf_int paf_nil))) paf_nil))))))) (pgf_tup rfl (pgsf_cons (pgf_name (i := 4) nd rfl (by first | exact Or.inl rfl | exact Or.inr rfl)) (pgsf_cons (pgf_name (i := 5) nd rfl (by first | exact Or.inl rfl | exact Or.inr rfl)) pgsf_nil)))
    (pssf_one (psf_if (ptf_w (pwf_or (ptf_cmp (op_eqD' (hu64 hr)) (pf_var 4) pf_str) (pwf_or1 (ptf_cmp op_gtD (pf_callR G__law_draw (hr.mono (by decide)) hg (by rfl) tk (paf_cons (pf_var 0) (paf_cons pf_int paf_nil))) pf_int)))) (pssf_cons (psf_set (i := 6) nd rfl (by first | exact Or.inl rfl | exact Or.inr rfl) (pf_ix (pf_lst (paf_cons pf_int (paf_cons (pf_var 1) (paf_cons (pf_bin op_mulD (pf_var 1) (pf_var 1)) paf_nil)))) (pf_var 5)))
    (pssf_one (psf_expr (pf_lm PySem.F.slot_list_append PySem.F.type_list_append mtL_append (pf_var 3) (paf_cons (pf_tup (paf_cons (pf_var 4) (paf_cons (pf_var 5) (paf_cons (pf_callTy call_tupleX (by rfl) T.b_tuple (by decide +kernel) (paf_cons (pf_lc (own := [("_law_k", 7)]) rfl nd (pif_range1 (by rfl) T.b_range (paf_cons (pf_var 6) paf_nil)) (blkOk_by (own := [("_law_k", 7)]) (N := N__law_tongue) (sc := defScope s__law_tongue) (by decide +kernel)) (fun _ _ _ _ _ => (pgf_name (i := 7) nd rfl (by first | exact Or.inl rfl | exact Or.inr rfl))) (fun _ _ _ _ _ => ptsf_nil) (fun _ _ _ _ _ => (pf_callR G__law_draw (hr.mono (by decide)) hg (by rfl) takesW0 (paf_cons (pf_var 0) (paf_cons (pf_var 1) paf_nil))))) paf_nil)) paf_nil)))) paf_nil))))) pssf_nil)))
    (pssf_one (psf_ret (pf_tup (paf_cons (pf_var 1) (paf_cons (pf_var 2) (paf_cons (pf_callTy call_tupleX (by rfl) T.b_tuple (by decide +kernel) (paf_cons (pf_var 3) paf_nil)) paf_nil)))))))))
theorem sc__law_heads : FnScope N__law_heads P__law_heads (defScope s__law_heads) := ⟨rfl, rfl, rfl, by decide +kernel, rfl, by decide +kernel, by decide +kernel⟩
theorem G__law_heads (T : Tx K mg) : Gx P w K mg base 1 T.d__law_heads F__law_heads := by
  refine gx_of _ sc__law_heads fun cdv A outer s H E hr hg => ?_
  have nd := sc__law_heads.nd
  have tk := tkX (P := P) (w := w) (K := K) (mg := mg) (base := base) (x := "_law_heads") (st := s__law_heads) (N := N__law_heads) (f := T.d__law_heads.f) (cdv := cdv) (A := A) (outer := outer) (s := s) (H := H) (E := E)
  have po := poX (P := P) (w := w) (K := K) (mg := mg) (base := base) (x := "_law_heads") (st := s__law_heads) (N := N__law_heads) (f := T.d__law_heads.f) (cdv := cdv) (A := A) (outer := outer) (s := s) (H := H) (E := E)
  exact (pssf_cons (psf_set (i := 2) nd rfl (by first | exact Or.inl rfl | exact Or.inr rfl) (pf_bin op_addD (pf_lc (own := [("_law_label", 4)]) rfl nd (pif_any (pf_ix (pf_var 0) pf_int)) (blkOk_by (own := [("_law_label", 4)]) (N := N__law_heads) (sc := defScope s__law_heads) (by decide +kernel)) (fun _ _ _ _ _ => (pgf_name (i := 4) nd rfl (by first | exact Or.inl rfl | exact Or.inr rfl))) (fun _ _ _ _ _ => ptsf_nil) (fun _ _ _ _ _ => (pf_tup (paf_cons (pf_var 4) (paf_cons pf_int paf_nil))))) (pf_lc (own := [("_law_word", 5)]) rfl nd (pif_any (pf_ix (pf_var 0) pf_int)) (blkOk_by (own := [("_law_word", 5)]) (N := N__law_heads) (sc := defScope s__law_heads) (by decide +kernel)) (fun _ _ _ _ _ => (pgf_name (i := 5) nd rfl (by first | exact Or.inl rfl | exact Or.inr rfl))) (fun _ _ _ _ _ => ptsf_nil) (fun _ _ _ _ _ => (pf_tup (paf_cons (pf_ix (pf_var 5) pf_int) (paf_cons (pf_ix (pf_var 5) pf_int) paf_nil)))))))
    (pssf_one (psf_ret (pf_lc (own := [("_law_pair", 3)]) rfl nd (pif_any (pf_var 2)) (blkOk_by (own := [("_law_pair", 3)]) (N := N__law_heads) (sc := defScope s__law_heads) (by decide +kernel)) (fun _ _ _ _ _ => (pgf_name (i := 3) nd rfl (by first | exact Or.inl rfl | exact Or.inr rfl))) (fun _ _ _ _ _ => (ptsf_one (ptf_cmp (op_eqD' (hu64 hr)) (pf_cmp op_gtD (pf_ix (pf_var 3) pf_int) pf_int) (pf_var 1)))) (fun _ _ _ _ _ => (pf_var 3))))))
theorem sc__law_top : FnScope N__law_top P__law_top (defScope s__law_top) := ⟨rfl, rfl, rfl, by decide +kernel, rfl, by decide +kernel, by decide +kernel⟩
theorem GT__law_top (T : Tx K mg) {l : Nat} {g : FF} (G : Gx P w K mg base (2 + 2 * l) T.d__law_pattern g) : Gx P w K mg base (2 + 2 * l + 1) T.d__law_top (FT__law_top g) := by
  have G__law_choice := G__law_choice (P := P) (w := w) (base := base) T
  have G__law_draw := G__law_draw (P := P) (w := w) (base := base) T
  have G__law_heads := G__law_heads (P := P) (w := w) (base := base) T
  refine gx_of (k := 2 + 2 * l) _ sc__law_top fun cdv A outer s H E hr hg => ?_
  have nd := sc__law_top.nd
  have tk := tkX (P := P) (w := w) (K := K) (mg := mg) (base := base) (x := "_law_top") (st := s__law_top) (N := N__law_top) (f := T.d__law_top.f) (cdv := cdv) (A := A) (outer := outer) (s := s) (H := H) (E := E)
  have po := poX (P := P) (w := w) (K := K) (mg := mg) (base := base) (x := "_law_top") (st := s__law_top) (N := N__law_top) (f := T.d__law_top.f) (cdv := cdv) (A := A) (outer := outer) (s := s) (H := H) (E := E)
  exact (pssf_cons (psf_asg (pf_callR G__law_choice (hr.mono (by omega)) hg (by rfl) tk (paf_cons (pf_var 0) (paf_cons (pf_callR G__law_heads (hr.mono (by omega)) hg (by rfl) tk (paf_cons (pf_var 1) (paf_cons pf_bl paf_nil))) paf_nil))) (pgf_tup rfl (pgsf_cons (pgf_name (i := 5) nd rfl (by first | exact Or.inl rfl | exact Or.inr rfl)) (pgsf_cons (pgf_name (i := 6) nd rfl (by first | exact Or.inl rfl | exact Or.inr rfl)) pgsf_nil))))
    (pssf_cons (psf_set (i := 4) nd rfl (by first | exact Or.inl rfl | exact Or.inr rfl) (pf_callR G__law_draw (hr.mono (by omega)) hg (by rfl) tk (paf_cons (pf_var 0) (paf_cons (pf_var 6) paf_nil))))
    (pssf_one (psf_ret (pf_tup (paf_cons (pf_var 5) (paf_cons (pf_callTy call_tupleX (by rfl) T.b_tuple (by decide +kernel) (paf_cons (pf_lc (own := [("_law_k", 7)]) rfl nd (pif_range1 (by rfl) T.b_range (paf_cons (pf_var 6) paf_nil)) (blkOk_by (own := [("_law_k", 7)]) (N := N__law_top) (sc := defScope s__law_top) (by decide +kernel)) (fun _ _ _ _ _ => (pgf_name (i := 7) nd rfl (by first | exact Or.inl rfl | exact Or.inr rfl))) (fun _ _ _ _ _ => ptsf_nil) (fun _ _ _ _ _ => (pf_callR G (hr.mono (by omega)) hg (by rfl) takesW0 (paf_cons (pf_var 0) (paf_cons (pf_var 1) (paf_cons (pf_var 2) (paf_cons (pf_bin op_mulD (pf_bin op_subD (pf_var 3) pf_int) (pf_callTy call_intX (by rfl) T.b_int (by decide +kernel) (paf_cons (pf_cmp (op_eqD' (hu64 hr)) (pf_var 7) (pf_var 4)) paf_nil))) paf_nil))))))) paf_nil)) paf_nil)))))))
theorem sc__law_pattern : FnScope N__law_pattern P__law_pattern (defScope s__law_pattern) := ⟨rfl, rfl, rfl, by decide +kernel, rfl, by decide +kernel, by decide +kernel⟩
theorem G__law_pattern (T : Tx K mg) : ∀ l, Gx P w K mg base (2 + 2 * l) T.d__law_pattern (F__law_pattern l)
  | 0 => gx_no _
  | l + 1 => by
    have G := G__law_pattern T l
    have GT := GT__law_top T G
    have G__law_draw := G__law_draw (P := P) (w := w) (base := base) T
    have G__law_choice := G__law_choice (P := P) (w := w) (base := base) T
    have G__law_heads := G__law_heads (P := P) (w := w) (base := base) T
    refine gx_of (k := 2 + 2 * l + 1) _ sc__law_pattern fun cdv A outer s H E hr hg => ?_
    have nd := sc__law_pattern.nd
    have tk := tkX (P := P) (w := w) (K := K) (mg := mg) (base := base) (x := "_law_pattern") (st := s__law_pattern) (N := N__law_pattern) (f := T.d__law_pattern.f) (cdv := cdv) (A := A) (outer := outer) (s := s) (H := H) (E := E)
    have po := poX (P := P) (w := w) (K := K) (mg := mg) (base := base) (x := "_law_pattern") (st := s__law_pattern) (N := N__law_pattern) (f := T.d__law_pattern.f) (cdv := cdv) (A := A) (outer := outer) (s := s) (H := H) (E := E)
    exact (pssf_cons (psf_if (ptf_w (pwf_or (ptf_cmp (op_eqD' (hu64 hr)) (pf_var 3) pf_int) (pwf_or1 (ptf_cmp (op_eqD' (hu64 hr)) (pf_callR G__law_draw (hr.mono (by omega)) hg (by rfl) tk (paf_cons (pf_var 0) (paf_cons pf_int paf_nil))) pf_int)))) (pssf_cons (psf_if (ptf_w (pwf_and (ptf_cmp (op_neD' (hu64 hr)) (pf_var 2) (pf_tup paf_nil)) (pwf_and1 (ptf_cmp op_gtD (pf_callR G__law_draw (hr.mono (by omega)) hg (by rfl) tk (paf_cons (pf_var 0) (paf_cons pf_int paf_nil))) pf_int)))) (pssf_one (psf_ret (pf_callR G__law_choice (hr.mono (by omega)) hg (by rfl) tk (paf_cons (pf_var 0) (paf_cons (pf_var 2) paf_nil))))) pssf_nil)
    (pssf_one (psf_ret (pf_tup (paf_cons (pf_ix (pf_callR G__law_choice (hr.mono (by omega)) hg (by rfl) tk (paf_cons (pf_var 0) (paf_cons (pf_callR G__law_heads (hr.mono (by omega)) hg (by rfl) tk (paf_cons (pf_var 1) (paf_cons pf_bl paf_nil))) paf_nil))) pf_int) (paf_cons (pf_tup paf_nil) paf_nil)))))) pssf_nil)
    (pssf_one (psf_ret (pf_callR GT (hr.mono (by omega)) hg (by rfl) tk (paf_cons (pf_var 0) (paf_cons (pf_var 1) (paf_cons (pf_var 2) (paf_cons (pf_var 3) paf_nil))))))))
theorem sc__law_spots : FnScope N__law_spots P__law_spots (defScope s__law_spots) := ⟨rfl, rfl, rfl, by decide +kernel, rfl, by decide +kernel, by decide +kernel⟩
theorem G__law_spots (T : Tx K mg) : Gx P w K mg base 1 T.d__law_spots F__law_spots := by
  refine gx_of _ sc__law_spots fun cdv A outer s H E hr hg => ?_
  have nd := sc__law_spots.nd
  have tk := tkX (P := P) (w := w) (K := K) (mg := mg) (base := base) (x := "_law_spots") (st := s__law_spots) (N := N__law_spots) (f := T.d__law_spots.f) (cdv := cdv) (A := A) (outer := outer) (s := s) (H := H) (E := E)
  have po := poX (P := P) (w := w) (K := K) (mg := mg) (base := base) (x := "_law_spots") (st := s__law_spots) (N := N__law_spots) (f := T.d__law_spots.f) (cdv := cdv) (A := A) (outer := outer) (s := s) (H := H) (E := E)
  exact (pssf_cons (psf_par3 (i := 1) (j := 2) (l := 3) rfl nd rfl rfl rfl (by decide) (by decide) (by decide) rfl rfl rfl (paf_cons (pf_lstS paf_nil) (paf_cons pf_d0 (paf_cons (pf_lstS (paf_cons (pf_tup (paf_cons (pf_tup paf_nil) (paf_cons (pf_var 0) paf_nil))) paf_nil)) paf_nil))) (by rfl))
    (pssf_cons (psf_while po (ptf_cmp (op_neL (hu64 hr)) (pf_var 3) (pf_lst paf_nil))
    (pssf_cons (psf_asg (pf_lm0 PySem.F.slot_list_pop PySem.F.type_list_pop mtL_pop (pf_var 3)) (pgf_tup rfl (pgsf_cons (pgf_name (i := 4) nd rfl (by first | exact Or.inl rfl | exact Or.inr rfl)) (pgsf_cons (pgf_name (i := 5) nd rfl (by first | exact Or.inl rfl | exact Or.inr rfl)) pgsf_nil))))
    (pssf_one (psf_if (ptf_tru (pf_isi (T := "str") (pf_var 5) (by rfl) T.b_isinstance (by rfl) T.b_str (by decide +kernel))) (pssf_one (psf_dput (hu1 hr) (pf_var 2) (pf_var 5) (pf_bin op_addD (pf_dget2 (hu1 hr) (pf_var 2) (pf_var 5) (pf_lst paf_nil)) (pf_lst (paf_cons (pf_var 4) paf_nil))))) (pssf_cons (psf_expr (pf_lm PySem.F.slot_list_append PySem.F.type_list_append mtL_append (pf_var 1) (paf_cons (pf_tup (paf_cons (pf_var 4) (paf_cons (pf_ix (pf_var 5) pf_int) paf_nil))) paf_nil)))
    (pssf_one (psf_expr (pf_ext (pf_var 3) (pf_revL (pf_lc (own := [("_law_k", 6), ("_law_inner", 7)]) rfl nd (pif_enum2 (by rfl) T.b_enumerate (paf_cons (pf_ix (pf_var 5) pf_int) paf_nil)) (blkOk_by (own := [("_law_k", 6), ("_law_inner", 7)]) (N := N__law_spots) (sc := defScope s__law_spots) (by decide +kernel)) (fun _ _ _ _ _ => (pgf_tup rfl (pgsf_cons (pgf_name (i := 6) nd rfl (by first | exact Or.inl rfl | exact Or.inr rfl)) (pgsf_cons (pgf_name (i := 7) nd rfl (by first | exact Or.inl rfl | exact Or.inr rfl)) pgsf_nil)))) (fun _ _ _ _ _ => ptsf_nil) (fun _ _ _ _ _ => (pf_tup (paf_cons (pf_bin op_addD (pf_var 4) (pf_tup (paf_cons (pf_var 6) paf_nil))) (paf_cons (pf_var 7) paf_nil))))))))))))))
    (pssf_fz (i := 1) (pssf_one (psf_ret (pf_tup (paf_cons (pf_var 1) (paf_cons (pf_var 2) paf_nil))))))))
theorem sc__law_is_name : FnScope N__law_is_name P__law_is_name (defScope s__law_is_name) := ⟨rfl, rfl, rfl, by decide +kernel, rfl, by decide +kernel, by decide +kernel⟩
theorem G__law_is_name (T : Tx K mg) : Gx P w K mg base 1 T.d__law_is_name F__law_is_name := by
  refine gx_of _ sc__law_is_name fun cdv A outer s H E hr hg => ?_
  have nd := sc__law_is_name.nd
  have tk := tkX (P := P) (w := w) (K := K) (mg := mg) (base := base) (x := "_law_is_name") (st := s__law_is_name) (N := N__law_is_name) (f := T.d__law_is_name.f) (cdv := cdv) (A := A) (outer := outer) (s := s) (H := H) (E := E)
  have po := poX (P := P) (w := w) (K := K) (mg := mg) (base := base) (x := "_law_is_name") (st := s__law_is_name) (N := N__law_is_name) (f := T.d__law_is_name.f) (cdv := cdv) (A := A) (outer := outer) (s := s) (H := H) (E := E)
  exact (pssf_one (psf_ret (pf_and (pf_isi (T := "str") (pf_var 0) (by rfl) T.b_isinstance (by rfl) T.b_str (by decide +kernel)) (pf_and (pf_chain op_leD op_leD pf_int (pf_callB call_lenX (by rfl) T.b_len (by decide +kernel) (paf_cons (pf_var 0) paf_nil)) pf_int) (pf_one (pf_cmp (op_eqL (hu64 hr)) (pf_lc (own := [("_law_c", 1)]) rfl nd (pif_any (pf_var 0)) (blkOk_by (own := [("_law_c", 1)]) (N := N__law_is_name) (sc := defScope s__law_is_name) (by decide +kernel)) (fun _ _ _ _ _ => (pgf_name (i := 1) nd rfl (by first | exact Or.inl rfl | exact Or.inr rfl))) (fun _ _ _ _ _ => (ptsf_one (ptf_not (ptf_chain op_leD op_leD pf_str (pf_var 1) pf_str)))) (fun _ _ _ _ _ => (pf_var 1))) (pf_lst paf_nil)))))))
theorem sc__law_is_pattern : FnScope N__law_is_pattern P__law_is_pattern (defScope s__law_is_pattern) := ⟨rfl, rfl, rfl, by decide +kernel, rfl, by decide +kernel, by decide +kernel⟩
theorem G__law_is_pattern (T : Tx K mg) : Gx P w K mg base 2 T.d__law_is_pattern F__law_is_pattern := by
  have G__law_is_name := G__law_is_name (P := P) (w := w) (base := base) T
  refine gx_of _ sc__law_is_pattern fun cdv A outer s H E hr hg => ?_
  have nd := sc__law_is_pattern.nd
  have tk := tkX (P := P) (w := w) (K := K) (mg := mg) (base := base) (x := "_law_is_pattern") (st := s__law_is_pattern) (N := N__law_is_pattern) (f := T.d__law_is_pattern.f) (cdv := cdv) (A := A) (outer := outer) (s := s) (H := H) (E := E)
  have po := poX (P := P) (w := w) (K := K) (mg := mg) (base := base) (x := "_law_is_pattern") (st := s__law_is_pattern) (N := N__law_is_pattern) (f := T.d__law_is_pattern.f) (cdv := cdv) (A := A) (outer := outer) (s := s) (H := H) (E := E)
  exact (pssf_cons (psf_set (i := 1) nd rfl (by first | exact Or.inl rfl | exact Or.inr rfl) (pf_lstS (paf_cons (pf_var 0) paf_nil)))
    (pssf_cons (psf_while po (ptf_cmp (op_neL (hu64 hr)) (pf_var 1) (pf_lst paf_nil))
    (pssf_cons (psf_set (i := 2) nd rfl (by first | exact Or.inl rfl | exact Or.inr rfl) (pf_lm0 PySem.F.slot_list_pop PySem.F.type_list_pop mtL_pop (pf_var 1)))
    (pssf_one (psf_if (ptf_tru (pf_isi (T := "str") (pf_var 2) (by rfl) T.b_isinstance (by rfl) T.b_str (by decide +kernel))) (pssf_one (psf_if (ptf_w (pwf_or (ptf_cmp (op_neD' (hu64 hr)) (pf_slice (pf_var 2) pof_none (pof_some pf_int)) pf_str) (pwf_or1 (ptf_not (ptf_tru (pf_callR G__law_is_name (hr.mono (by decide)) hg (by rfl) tk (paf_cons (pf_slice (pf_var 2) (pof_some pf_int) pof_none) paf_nil))))))) (pssf_one (psf_ret pf_bl)) pssf_nil)) (pssf_one (psf_if (ptf_w (pwf_or (ptf_not (ptf_tru (pf_isi (T := "tuple") (pf_var 2) (by rfl) T.b_isinstance (by rfl) T.b_tuple (by decide +kernel)))) (pwf_or (ptf_cmp (op_neD' (hu64 hr)) (pf_callB call_lenX (by rfl) T.b_len (by decide +kernel) (paf_cons (pf_var 2) paf_nil)) pf_int) (pwf_or1 (ptf_not (ptf_tru (pf_isi (T := "tuple") (pf_ix (pf_var 2) pf_int) (by rfl) T.b_isinstance (by rfl) T.b_tuple (by decide +kernel)))))))) (pssf_one (psf_ret pf_bl)) (pssf_one (psf_if (ptf_not (ptf_tru (pf_callR G__law_is_name (hr.mono (by decide)) hg (by rfl) tk (paf_cons (pf_ix (pf_var 2) pf_int) paf_nil)))) (pssf_one (psf_ret pf_bl)) (pssf_one (psf_expr (pf_ext (pf_var 1) (pf_ix (pf_var 2) pf_int))))))))))))
    (pssf_one (psf_ret pf_bl))))
theorem sc__law_replacement : FnScope N__law_replacement P__law_replacement (defScope s__law_replacement) := ⟨rfl, rfl, rfl, by decide +kernel, rfl, by decide +kernel, by decide +kernel⟩
theorem G__law_replacement (T : Tx K mg) : Gx P w K mg base 3 T.d__law_replacement F__law_replacement := by
  have G__law_choice := G__law_choice (P := P) (w := w) (base := base) T
  have G__law_draw := G__law_draw (P := P) (w := w) (base := base) T
  refine gx_of _ sc__law_replacement fun cdv A outer s H E hr hg => ?_
  have nd := sc__law_replacement.nd
  have tk := tkX (P := P) (w := w) (K := K) (mg := mg) (base := base) (x := "_law_replacement") (st := s__law_replacement) (N := N__law_replacement) (f := T.d__law_replacement.f) (cdv := cdv) (A := A) (outer := outer) (s := s) (H := H) (E := E)
  have po := poX (P := P) (w := w) (K := K) (mg := mg) (base := base) (x := "_law_replacement") (st := s__law_replacement) (N := N__law_replacement) (f := T.d__law_replacement.f) (cdv := cdv) (A := A) (outer := outer) (s := s) (H := H) (E := E)
  exact (pssf_cons (psf_if (ptf_tru (pf_isi (T := "tuple") (pf_var 1) (by rfl) T.b_isinstance (by rfl) T.b_tuple (by decide +kernel))) (pssf_cons (psf_set (i := 2) nd rfl (by first | exact Or.inl rfl | exact Or.inr rfl) (pf_callR G__law_draw (hr.mono (by decide)) hg (by rfl) tk (paf_cons (pf_var 0) (paf_cons (pf_bin op_addD (pf_callB call_lenX (by rfl) T.b_len (by decide +kernel) (paf_cons (pf_var 1) paf_nil)) pf_int) paf_nil))))
    (pssf_cons (psf_set (i := 3) nd rfl (by first | exact Or.inl rfl | exact Or.inr rfl) (pf_lst (paf_cons (pf_bin op_addD (pf_slice (pf_var 1) pof_none (pof_some (pf_var 2))) (pf_slice (pf_var 1) (pof_some (pf_bin op_addD (pf_var 2) pf_int)) pof_none)) (paf_cons (pf_bin op_addD (pf_var 1) (pf_slice (pf_var 1) (pof_some (pf_un un_negD pf_int)) pof_none)) (paf_cons (pf_rev (pf_var 1)) (paf_cons (pf_callTy call_listX (by rfl) T.b_list (by decide +kernel) (paf_cons (pf_var 1) paf_nil)) (paf_cons (pf_tup paf_nil) (paf_cons pf_non (paf_cons pf_str paf_nil)))))))))
    (pssf_one (psf_ret (pf_ix (pf_bin op_addD (pf_var 3) (pf_lst (paf_cons (pf_bin op_addD (pf_bin op_addD (pf_slice (pf_var 1) pof_none (pof_some (pf_var 2))) (pf_tup (paf_cons pf_str paf_nil))) (pf_slice (pf_var 1) (pof_some (pf_var 2)) pof_none)) paf_nil))) (pf_callR G__law_draw (hr.mono (by decide)) hg (by rfl) tk (paf_cons (pf_var 0) (paf_cons pf_int paf_nil)))))))) pssf_nil)
    (pssf_cons (psf_if (ptf_tru (pf_isi (T := "str") (pf_var 1) (by rfl) T.b_isinstance (by rfl) T.b_str (by decide +kernel))) (pssf_one (psf_ret (pf_callR G__law_choice (hr.mono (by decide)) hg (by rfl) tk (paf_cons (pf_var 0) (paf_cons (pf_lst (paf_cons pf_str (paf_cons pf_str (paf_cons pf_str (paf_cons pf_str (paf_cons pf_str (paf_cons pf_str (paf_cons pf_str (paf_cons pf_str (paf_cons pf_str (paf_cons pf_str (paf_cons pf_str (paf_cons pf_int (paf_cons pf_non paf_nil)))))))))))))) paf_nil))))) pssf_nil)
    (pssf_cons (psf_if (ptf_w (pwf_and (ptf_tru (pf_isi (T := "int") (pf_var 1) (by rfl) T.b_isinstance (by rfl) T.b_int (by decide +kernel))) (pwf_and1 (ptf_not (ptf_tru (pf_isi (T := "bool") (pf_var 1) (by rfl) T.b_isinstance (by rfl) T.b_bool (by decide +kernel))))))) (pssf_one (psf_ret (pf_ix (pf_lst (paf_cons (pf_bin op_addD (pf_var 1) pf_int) (paf_cons (pf_bin op_subD (pf_var 1) pf_int) (paf_cons pf_int (paf_cons pf_int (paf_cons (pf_cmp (op_eqD' (hu64 hr)) (pf_var 1) pf_int) (paf_cons (pf_callTy call_strT (by rfl) T.b_str (by decide +kernel) (paf_cons (pf_var 1) paf_nil)) (paf_cons pf_non (paf_cons (pf_bin op_powD pf_int pf_int) paf_nil))))))))) (pf_callR G__law_draw (hr.mono (by decide)) hg (by rfl) tk (paf_cons (pf_var 0) (paf_cons pf_int paf_nil)))))) pssf_nil)
    (pssf_one (psf_ret (pf_callR G__law_choice (hr.mono (by decide)) hg (by rfl) tk (paf_cons (pf_var 0) (paf_cons (pf_lst (paf_cons pf_int (paf_cons pf_str (paf_cons (pf_tup paf_nil) (paf_cons pf_bl (paf_cons pf_non (paf_cons (pf_tup (paf_cons pf_str (paf_cons (pf_tup paf_nil) paf_nil))) paf_nil))))))) paf_nil))))))))
theorem sc__law_mutated : FnScope N__law_mutated P__law_mutated (defScope s__law_mutated) := ⟨rfl, rfl, rfl, by decide +kernel, rfl, by decide +kernel, by decide +kernel⟩
theorem G__law_mutated (T : Tx K mg) : ∀ l, Gx P w K mg base (3 + l) T.d__law_mutated (F__law_mutated l)
  | 0 => gx_no _
  | l + 1 => by
    have G := G__law_mutated T l
    have G__law_replacement := G__law_replacement (P := P) (w := w) (base := base) T
    have G__law_draw := G__law_draw (P := P) (w := w) (base := base) T
    refine gx_of (k := 3 + l) _ sc__law_mutated fun cdv A outer s H E hr hg => ?_
    have nd := sc__law_mutated.nd
    have tk := tkX (P := P) (w := w) (K := K) (mg := mg) (base := base) (x := "_law_mutated") (st := s__law_mutated) (N := N__law_mutated) (f := T.d__law_mutated.f) (cdv := cdv) (A := A) (outer := outer) (s := s) (H := H) (E := E)
    have po := poX (P := P) (w := w) (K := K) (mg := mg) (base := base) (x := "_law_mutated") (st := s__law_mutated) (N := N__law_mutated) (f := T.d__law_mutated.f) (cdv := cdv) (A := A) (outer := outer) (s := s) (H := H) (E := E)
    exact (pssf_cons (psf_if (ptf_w (pwf_and (ptf_tru (pf_isi (T := "tuple") (pf_var 1) (by rfl) T.b_isinstance (by rfl) T.b_tuple (by decide +kernel))) (pwf_and (ptf_cmp (op_neD' (hu64 hr)) (pf_var 1) (pf_tup paf_nil)) (pwf_and1 (ptf_cmp op_gtD (pf_callR G__law_draw (hr.mono (by omega)) hg (by rfl) tk (paf_cons (pf_var 0) (paf_cons pf_int paf_nil))) pf_int))))) (pssf_cons (psf_set (i := 2) nd rfl (by first | exact Or.inl rfl | exact Or.inr rfl) (pf_callR G__law_draw (hr.mono (by omega)) hg (by rfl) tk (paf_cons (pf_var 0) (paf_cons (pf_callB call_lenX (by rfl) T.b_len (by decide +kernel) (paf_cons (pf_var 1) paf_nil)) paf_nil))))
    (pssf_one (psf_ret (pf_bin op_addD (pf_bin op_addD (pf_slice (pf_var 1) pof_none (pof_some (pf_var 2))) (pf_tup (paf_cons (pf_callR G (hr.mono (by omega)) hg (by rfl) tk (paf_cons (pf_var 0) (paf_cons (pf_ix (pf_var 1) (pf_var 2)) paf_nil))) paf_nil))) (pf_slice (pf_var 1) (pof_some (pf_bin op_addD (pf_var 2) pf_int)) pof_none))))) pssf_nil)
    (pssf_one (psf_ret (pf_callR G__law_replacement (hr.mono (by omega)) hg (by rfl) tk (paf_cons (pf_var 0) (paf_cons (pf_var 1) paf_nil))))))
theorem sc__law_free : FnScope N__law_free P__law_free (defScope s__law_free) := ⟨rfl, rfl, rfl, by decide +kernel, rfl, by decide +kernel, by decide +kernel⟩
theorem G__law_free (T : Tx K mg) : ∀ l, Gx P w K mg base (2 + l) T.d__law_free (F__law_free l)
  | 0 => gx_no _
  | l + 1 => by
    have G := G__law_free T l
    have G__law_draw := G__law_draw (P := P) (w := w) (base := base) T
    have G__law_choice := G__law_choice (P := P) (w := w) (base := base) T
    refine gx_of (k := 2 + l) _ sc__law_free fun cdv A outer s H E hr hg => ?_
    have nd := sc__law_free.nd
    have tk := tkX (P := P) (w := w) (K := K) (mg := mg) (base := base) (x := "_law_free") (st := s__law_free) (N := N__law_free) (f := T.d__law_free.f) (cdv := cdv) (A := A) (outer := outer) (s := s) (H := H) (E := E)
    have po := poX (P := P) (w := w) (K := K) (mg := mg) (base := base) (x := "_law_free") (st := s__law_free) (N := N__law_free) (f := T.d__law_free.f) (cdv := cdv) (A := A) (outer := outer) (s := s) (H := H) (E := E)
    exact (pssf_cons (psf_if (ptf_w (pwf_or (ptf_cmp (op_eqD' (hu64 hr)) (pf_var 1) pf_int) (pwf_or1 (ptf_cmp (op_eqD' (hu64 hr)) (pf_callR G__law_draw (hr.mono (by omega)) hg (by rfl) tk (paf_cons (pf_var 0) (paf_cons pf_int paf_nil))) pf_int)))) (pssf_one (psf_ret (pf_callR G__law_choice (hr.mono (by omega)) hg (by rfl) tk (paf_cons (pf_var 0) (paf_cons (pf_lst (paf_cons pf_str (paf_cons pf_str (paf_cons pf_str (paf_cons pf_str (paf_cons (pf_tup (paf_cons pf_str (paf_cons (pf_tup paf_nil) paf_nil))) (paf_cons (pf_tup (paf_cons pf_str (paf_cons (pf_tup paf_nil) paf_nil))) paf_nil))))))) paf_nil))))) pssf_nil)
    (pssf_cons (psf_set (i := 2) nd rfl (by first | exact Or.inl rfl | exact Or.inr rfl) (pf_callR G__law_draw (hr.mono (by omega)) hg (by rfl) tk (paf_cons (pf_var 0) (paf_cons pf_int paf_nil))))
    (pssf_one (psf_ret (pf_tup (paf_cons (pf_callR G__law_choice (hr.mono (by omega)) hg (by rfl) tk (paf_cons (pf_var 0) (paf_cons (pf_lst (paf_cons pf_str (paf_cons pf_str (paf_cons pf_str (paf_cons pf_str paf_nil))))) paf_nil))) (paf_cons (pf_callTy call_tupleX (by rfl) T.b_tuple (by decide +kernel) (paf_cons (pf_lc (own := [("_law_k", 3)]) rfl nd (pif_range1 (by rfl) T.b_range (paf_cons (pf_var 2) paf_nil)) (blkOk_by (own := [("_law_k", 3)]) (N := N__law_free) (sc := defScope s__law_free) (by decide +kernel)) (fun _ _ _ _ _ => (pgf_name (i := 3) nd rfl (by first | exact Or.inl rfl | exact Or.inr rfl))) (fun _ _ _ _ _ => ptsf_nil) (fun _ _ _ _ _ => (pf_callR G (hr.mono (by omega)) hg (by rfl) takesW0 (paf_cons (pf_var 0) (paf_cons (pf_bin op_subD (pf_var 1) pf_int) paf_nil))))) paf_nil)) paf_nil)))))))
theorem sc__law_agrees : FnScope N__law_agrees P__law_agrees (defScope s__law_agrees) := ⟨rfl, rfl, rfl, by decide +kernel, rfl, by decide +kernel, by decide +kernel⟩
theorem G__law_agrees (T : Tx K mg) : Gx P w K mg base 15 T.d__law_agrees F__law_agrees := by
  have G__law_spots := G__law_spots (P := P) (w := w) (base := base) T
  have G_variables_of := G_variables_of (P := P) (w := w) (base := base) T
  have G_own_places := G_own_places (P := P) (w := w) (base := base) T
  have G_variable_places := G_variable_places (P := P) (w := w) (base := base) T
  have G_doubled_of := G_doubled_of (P := P) (w := w) (base := base) T
  have G_is_pattern := G_is_pattern (P := P) (w := w) (base := base) T 12
  refine gx_of _ sc__law_agrees fun cdv A outer s H E hr hg => ?_
  have nd := sc__law_agrees.nd
  have tk := tkX (P := P) (w := w) (K := K) (mg := mg) (base := base) (x := "_law_agrees") (st := s__law_agrees) (N := N__law_agrees) (f := T.d__law_agrees.f) (cdv := cdv) (A := A) (outer := outer) (s := s) (H := H) (E := E)
  have po := poX (P := P) (w := w) (K := K) (mg := mg) (base := base) (x := "_law_agrees") (st := s__law_agrees) (N := N__law_agrees) (f := T.d__law_agrees.f) (cdv := cdv) (A := A) (outer := outer) (s := s) (H := H) (E := E)
  exact (pssf_cons (psf_asg (pf_callR G__law_spots (hr.mono (by decide)) hg (by rfl) tk (paf_cons (pf_var 0) paf_nil)) (pgf_tup rfl (pgsf_cons (pgf_name (i := 4) nd rfl (by first | exact Or.inl rfl | exact Or.inr rfl)) (pgsf_cons (pgf_name (i := 5) nd rfl (by first | exact Or.inl rfl | exact Or.inr rfl)) pgsf_nil))))
    (pssf_cons (psf_set (i := 1) nd rfl (by first | exact Or.inl rfl | exact Or.inr rfl) (pf_lstS (paf_cons (pf_callTy call_tupleX (by rfl) T.b_tuple (by decide +kernel) (paf_cons (pf_callB (call_sortedDk rfl) (by rfl) T.b_sorted (by decide +kernel) (paf_cons (pf_var 5) paf_nil)) paf_nil)) (paf_cons (pf_callTy call_tupleX (by rfl) T.b_tuple (by decide +kernel) (paf_cons (pf_lc (own := [("_law_here", 7), ("_law_head", 8)]) rfl nd (pif_any (pf_var 4)) (blkOk_by (own := [("_law_here", 7), ("_law_head", 8)]) (N := N__law_agrees) (sc := defScope s__law_agrees) (by decide +kernel)) (fun _ _ _ _ _ => (pgf_tup rfl (pgsf_cons (pgf_name (i := 7) nd rfl (by first | exact Or.inl rfl | exact Or.inr rfl)) (pgsf_cons (pgf_name (i := 8) nd rfl (by first | exact Or.inl rfl | exact Or.inr rfl)) pgsf_nil)))) (fun _ _ _ _ _ => ptsf_nil) (fun _ _ _ _ _ => (pf_var 7))) paf_nil)) paf_nil))))
    (pssf_cons (psf_expr (pf_lm PySem.F.slot_list_append PySem.F.type_list_append mtL_append (pf_var 1) (paf_cons (pf_callTy call_tupleX (by rfl) T.b_tuple (by decide +kernel) (paf_cons (pf_lc (own := [("_law_label", 6)]) rfl nd (pif_any (pf_callB (call_sortedDk rfl) (by rfl) T.b_sorted (by decide +kernel) (paf_cons (pf_var 5) paf_nil))) (blkOk_by (own := [("_law_label", 6)]) (N := N__law_agrees) (sc := defScope s__law_agrees) (by decide +kernel)) (fun _ _ _ _ _ => (pgf_name (i := 6) nd rfl (by first | exact Or.inl rfl | exact Or.inr rfl))) (fun _ _ _ _ _ => ptsf_nil) (fun _ _ _ _ _ => (pf_tup (paf_cons (pf_var 6) (paf_cons (pf_callTy call_tupleX (by rfl) T.b_tuple (by decide +kernel) (paf_cons (pf_dget (hu1 hr) (pf_var 5) (pf_var 6)) paf_nil)) paf_nil))))) paf_nil)) paf_nil)))
    (pssf_cons (psf_expr (pf_lm PySem.F.slot_list_append PySem.F.type_list_append mtL_append (pf_var 1) (paf_cons (pf_callTy call_tupleX (by rfl) T.b_tuple (by decide +kernel) (paf_cons (pf_lc (own := [("_law_label", 6)]) rfl nd (pif_any (pf_callB (call_sortedDk rfl) (by rfl) T.b_sorted (by decide +kernel) (paf_cons (pf_var 5) paf_nil))) (blkOk_by (own := [("_law_label", 6)]) (N := N__law_agrees) (sc := defScope s__law_agrees) (by decide +kernel)) (fun _ _ _ _ _ => (pgf_name (i := 6) nd rfl (by first | exact Or.inl rfl | exact Or.inr rfl))) (fun _ _ _ _ _ => (ptsf_one (ptf_cmp op_gtD (pf_callB call_lenX (by rfl) T.b_len (by decide +kernel) (paf_cons (pf_dget (hu1 hr) (pf_var 5) (pf_var 6)) paf_nil)) pf_int))) (fun _ _ _ _ _ => (pf_var 6))) paf_nil)) paf_nil)))
    (pssf_cons (psf_set (i := 2) nd rfl (by first | exact Or.inl rfl | exact Or.inr rfl) (pf_lst (paf_cons (pf_callR G_variables_of (hr.mono (by decide)) hg (by rfl) tk (paf_cons (pf_var 0) paf_nil)) (paf_cons (pf_callR G_own_places (hr.mono (by decide)) hg (by rfl) tk (paf_cons (pf_var 0) paf_nil)) (paf_cons (pf_callR G_variable_places (hr.mono (by decide)) hg (by rfl) tk (paf_cons (pf_var 0) paf_nil)) (paf_cons (pf_callR G_doubled_of (hr.mono (by decide)) hg (by rfl) tk (paf_cons (pf_var 0) paf_nil)) paf_nil))))))
    (pssf_cons (psf_set (i := 3) nd rfl (by first | exact Or.inl rfl | exact Or.inr rfl) (pf_lstS (paf_cons (pf_callN0 (Gx.gm G_variables_of) (hr.mono (by decide)) hg (by rfl) T.d_variables_of.at_ T.d_variables_of.fn.kp T.kb_variables_of_0_pattern tk (pkf_cons (pf_var 0) pkf_nil)) (paf_cons (pf_callN0 (Gx.gm G_own_places) (hr.mono (by decide)) hg (by rfl) T.d_own_places.at_ T.d_own_places.fn.kp T.kb_own_places_0_pattern tk (pkf_cons (pf_var 0) pkf_nil)) (paf_cons (pf_callN0 (Gx.gm G_variable_places) (hr.mono (by decide)) hg (by rfl) T.d_variable_places.at_ T.d_variable_places.fn.kp T.kb_variable_places_0_pattern tk (pkf_cons (pf_var 0) pkf_nil)) paf_nil)))))
    (pssf_cons (psf_expr (pf_lm PySem.F.slot_list_append PySem.F.type_list_append mtL_append (pf_var 3) (paf_cons (pf_callN0 (Gx.gm G_doubled_of) (hr.mono (by decide)) hg (by rfl) T.d_doubled_of.at_ T.d_doubled_of.fn.kp T.kb_doubled_of_0_pattern tk (pkf_cons (pf_var 0) pkf_nil)) paf_nil)))
    (pssf_fz (i := 3) (pssf_fz (i := 1) (pssf_one (psf_ret (pf_cmp (op_eqD' (hu64 hr)) (pf_callB (call_reprX hg (hu70 hr)) (by rfl) T.b_repr (by decide +kernel) (paf_cons (pf_lst (paf_cons (pf_var 2) (paf_cons (pf_var 3) (paf_cons (pf_callR G_is_pattern (hr.mono (by decide)) hg (by rfl) tk (paf_cons (pf_var 0) paf_nil)) paf_nil)))) paf_nil)) (pf_callB (call_reprX hg (hu70 hr)) (by rfl) T.b_repr (by decide +kernel) (paf_cons (pf_lst (paf_cons (pf_var 1) (paf_cons (pf_var 1) (paf_cons pf_bl paf_nil)))) paf_nil))))))))))))))
theorem sc__law_kinds_right : FnScope N__law_kinds_right P__law_kinds_right (defScope s__law_kinds_right) := ⟨rfl, rfl, rfl, by decide +kernel, rfl, by decide +kernel, by decide +kernel⟩
theorem G__law_kinds_right (T : Tx K mg) : Gx P w K mg base 16 T.d__law_kinds_right F__law_kinds_right := by
  have G__law_mutated := G__law_mutated (P := P) (w := w) (base := base) T 12
  have G_is_pattern := G_is_pattern (P := P) (w := w) (base := base) T 12
  have G__law_is_pattern := G__law_is_pattern (P := P) (w := w) (base := base) T
  refine gx_of _ sc__law_kinds_right fun cdv A outer s H E hr hg => ?_
  have nd := sc__law_kinds_right.nd
  have tk := tkX (P := P) (w := w) (K := K) (mg := mg) (base := base) (x := "_law_kinds_right") (st := s__law_kinds_right) (N := N__law_kinds_right) (f := T.d__law_kinds_right.f) (cdv := cdv) (A := A) (outer := outer) (s := s) (H := H) (E := E)
  have po := poX (P := P) (w := w) (K := K) (mg := mg) (base := base) (x := "_law_kinds_right") (st := s__law_kinds_right) (N := N__law_kinds_right) (f := T.d__law_kinds_right.f) (cdv := cdv) (A := A) (outer := outer) (s := s) (H := H) (E := E)
  exact (pssf_cons (psf_for po rfl (pif_any (pf_bin op_addD (pf_lst (paf_cons (pf_var 1) paf_nil)) (pf_lc (own := [("_law_k", 4)]) rfl nd (pif_range1 (by rfl) T.b_range (paf_cons pf_int paf_nil)) (blkOk_by (own := [("_law_k", 4)]) (N := N__law_kinds_right) (sc := defScope s__law_kinds_right) (by decide +kernel)) (fun _ _ _ _ _ => (pgf_name (i := 4) nd rfl (by first | exact Or.inl rfl | exact Or.inr rfl))) (fun _ _ _ _ _ => ptsf_nil) (fun _ _ _ _ _ => (pf_callR G__law_mutated (hr.mono (by decide)) hg (by rfl) takesW0 (paf_cons (pf_var 0) (paf_cons (pf_var 1) paf_nil))))))) (pgf_name (i := 2) nd rfl (by first | exact Or.inl rfl | exact Or.inr rfl))
    (pssf_cons (psf_set (i := 3) nd rfl (by first | exact Or.inl rfl | exact Or.inr rfl) (pf_callB (call_reprX hg (hu70 hr)) (by rfl) T.b_repr (by decide +kernel) (paf_cons (pf_var 2) paf_nil)))
    (pssf_one (psf_if (ptf_w (pwf_or (ptf_cmp (op_neD' (hu64 hr)) (pf_callB (call_reprX hg (hu70 hr)) (by rfl) T.b_repr (by decide +kernel) (paf_cons (pf_lst (paf_cons (pf_callR G_is_pattern (hr.mono (by decide)) hg (by rfl) tk (paf_cons (pf_var 2) paf_nil)) (paf_cons (pf_callN0 (Gx.gm G_is_pattern) (hr.mono (by decide)) hg (by rfl) T.d_is_pattern.at_ T.d_is_pattern.fn.kp T.kb_is_pattern_0_thing tk (pkf_cons (pf_var 2) pkf_nil)) paf_nil))) paf_nil)) (pf_callB (call_reprX hg (hu70 hr)) (by rfl) T.b_repr (by decide +kernel) (paf_cons (pf_bin op_mulL (pf_lst (paf_cons (pf_callR G__law_is_pattern (hr.mono (by decide)) hg (by rfl) tk (paf_cons (pf_var 2) paf_nil)) paf_nil)) pf_int) paf_nil))) (pwf_or1 (ptf_cmp (op_neD' (hu64 hr)) (pf_callB (call_reprX hg (hu70 hr)) (by rfl) T.b_repr (by decide +kernel) (paf_cons (pf_var 2) paf_nil)) (pf_var 3))))) (pssf_one (psf_ret pf_bl)) pssf_nil))))
    (pssf_one (psf_ret pf_bl)))
theorem sc_law : FnScope N_law P_law (defScope s_law) := ⟨rfl, rfl, rfl, by decide +kernel, rfl, by decide +kernel, by decide +kernel⟩
theorem G_law (T : Tx K mg) : Gx P w K mg base 17 T.d_law F_law := by
  have G__law_feed := G__law_feed (P := P) (w := w) (base := base) T
  have G__law_choice := G__law_choice (P := P) (w := w) (base := base) T
  have G__law_pattern := G__law_pattern (P := P) (w := w) (base := base) T 5
  have G__law_free := G__law_free (P := P) (w := w) (base := base) T 4
  have G__law_kinds_right := G__law_kinds_right (P := P) (w := w) (base := base) T
  have G__law_tongue := G__law_tongue (P := P) (w := w) (base := base) T
  have G__law_agrees := G__law_agrees (P := P) (w := w) (base := base) T
  have G_is_pattern := G_is_pattern (P := P) (w := w) (base := base) T 12
  have G__law_is_pattern := G__law_is_pattern (P := P) (w := w) (base := base) T
  refine gx_of _ sc_law fun cdv A outer s H E hr hg => ?_
  have nd := sc_law.nd
  have tk := tkX (P := P) (w := w) (K := K) (mg := mg) (base := base) (x := "law") (st := s_law) (N := N_law) (f := T.d_law.f) (cdv := cdv) (A := A) (outer := outer) (s := s) (H := H) (E := E)
  have po := poX (P := P) (w := w) (K := K) (mg := mg) (base := base) (x := "law") (st := s_law) (N := N_law) (f := T.d_law.f) (cdv := cdv) (A := A) (outer := outer) (s := s) (H := H) (E := E)
  exact (pssf_cons (psf_set (i := 1) nd rfl (by first | exact Or.inl rfl | exact Or.inr rfl) (pf_callR G__law_feed (hr.mono (by decide)) hg (by rfl) tk (paf_cons (pf_var 0) paf_nil)))
    (pssf_cons (psf_set (i := 2) nd rfl (by first | exact Or.inl rfl | exact Or.inr rfl) (pf_lstS (paf_cons pf_str (paf_cons (pf_tup (paf_cons pf_str (paf_cons (pf_tup paf_nil) paf_nil))) (paf_cons (pf_tup (paf_cons pf_str (paf_cons (pf_tup (paf_cons pf_str (paf_cons (pf_tup (paf_cons pf_str (paf_cons (pf_tup (paf_cons pf_str (paf_cons (pf_tup (paf_cons pf_str (paf_cons (pf_tup paf_nil) paf_nil))) paf_nil))) paf_nil))) paf_nil))) paf_nil))) paf_nil)))))
    (pssf_cons (psf_for po rfl (pif_range1 (by rfl) T.b_range (paf_cons pf_int paf_nil)) (pgf_name (i := 3) nd rfl (by first | exact Or.inl rfl | exact Or.inr rfl))
    (pssf_cons (psf_set (i := 7) nd rfl (by first | exact Or.inl rfl | exact Or.inr rfl) (pf_callR G__law_choice (hr.mono (by decide)) hg (by rfl) tk (paf_cons (pf_var 1) (paf_cons (pf_lst (paf_cons (pf_tup (paf_cons pf_str paf_nil)) (paf_cons (pf_tup (paf_cons pf_str (paf_cons pf_str paf_nil))) (paf_cons (pf_tup (paf_cons pf_str (paf_cons pf_str (paf_cons pf_str paf_nil)))) paf_nil)))) paf_nil))))
    (pssf_one (psf_expr (pf_lm PySem.F.slot_list_append PySem.F.type_list_append mtL_append (pf_var 2) (paf_cons (pf_callR G__law_pattern (hr.mono (by decide)) hg (by rfl) tk (paf_cons (pf_var 1) (paf_cons (pf_callR G__law_tongue (hr.mono (by decide)) hg (by rfl) tk (paf_cons (pf_var 1) paf_nil)) (paf_cons (pf_var 7) (paf_cons pf_int paf_nil))))) paf_nil))))))
    (pssf_fz (i := 2) (pssf_cons (psf_for po rfl (pif_any (pf_var 2)) (pgf_name (i := 4) nd rfl (by first | exact Or.inl rfl | exact Or.inr rfl))
    (pssf_cons (psf_set (i := 8) nd rfl (by first | exact Or.inl rfl | exact Or.inr rfl) (pf_callB (call_reprX hg (hu70 hr)) (by rfl) T.b_repr (by decide +kernel) (paf_cons (pf_var 4) paf_nil)))
    (pssf_one (psf_if (ptf_w (pwf_or (ptf_not (ptf_tru (pf_callR G__law_agrees (hr.mono (by decide)) hg (by rfl) tk (paf_cons (pf_var 4) paf_nil)))) (pwf_or1 (ptf_cmp (op_neD' (hu64 hr)) (pf_callB (call_reprX hg (hu70 hr)) (by rfl) T.b_repr (by decide +kernel) (paf_cons (pf_var 4) paf_nil)) (pf_var 8))))) (pssf_one (psf_ret pf_bl)) pssf_nil))))
    (pssf_cons (psf_set (i := 5) nd rfl (by first | exact Or.inl rfl | exact Or.inr rfl) (pf_tup (paf_cons pf_str (paf_cons (pf_bin op_mulD (pf_tup (paf_cons pf_str (paf_cons pf_str paf_nil))) pf_int) paf_nil))))
    (pssf_cons (psf_for po rfl (pif_any (pf_bin op_addD (pf_bin op_addD (pf_slice (pf_var 2) pof_none (pof_some pf_int)) (pf_lst (paf_cons (pf_var 5) (paf_cons (pf_tup (paf_cons pf_str (paf_cons (pf_tup (paf_cons pf_str (paf_cons pf_str (paf_cons pf_str (paf_cons pf_str paf_nil))))) paf_nil))) paf_nil)))) (pf_lc (own := [("_law_k", 9)]) rfl nd (pif_range1 (by rfl) T.b_range (paf_cons pf_int paf_nil)) (blkOk_by (own := [("_law_k", 9)]) (N := N_law) (sc := defScope s_law) (by decide +kernel)) (fun _ _ _ _ _ => (pgf_name (i := 9) nd rfl (by first | exact Or.inl rfl | exact Or.inr rfl))) (fun _ _ _ _ _ => ptsf_nil) (fun _ _ _ _ _ => (pf_callR G__law_free (hr.mono (by decide)) hg (by rfl) takesW0 (paf_cons (pf_var 1) (paf_cons pf_int paf_nil))))))) (pgf_name (i := 4) nd rfl (by first | exact Or.inl rfl | exact Or.inr rfl))
    (pssf_one (psf_if (ptf_not (ptf_tru (pf_callR G__law_kinds_right (hr.mono (by decide)) hg (by rfl) tk (paf_cons (pf_var 1) (paf_cons (pf_var 4) paf_nil))))) (pssf_one (psf_ret pf_bl)) pssf_nil)))
    (pssf_cons (psf_set (i := 6) nd rfl (by first | exact Or.inl rfl | exact Or.inr rfl) (pf_lst (paf_cons (pf_tup (paf_cons pf_str (paf_cons (pf_bin op_addD (pf_bin op_mulD (pf_tup (paf_cons pf_str paf_nil)) pf_int) (pf_tup (paf_cons pf_int paf_nil))) paf_nil))) (paf_cons (pf_tup (paf_cons pf_str (paf_cons (pf_bin op_addD (pf_bin op_mulD (pf_tup (paf_cons (pf_tup (paf_cons pf_str (paf_cons (pf_tup paf_nil) paf_nil))) paf_nil)) pf_int) (pf_tup (paf_cons pf_str paf_nil))) paf_nil))) paf_nil))))
    (pssf_cons (psf_set (i := 6) nd rfl (by first | exact Or.inl rfl | exact Or.inr rfl) (pf_bin op_addD (pf_var 6) (pf_lst (paf_cons pf_non (paf_cons pf_bl (paf_cons pf_int (paf_cons pf_str (paf_cons pf_str (paf_cons pf_str (paf_cons pf_str (paf_cons pf_str (paf_cons pf_str (paf_cons pf_str (paf_cons pf_str (paf_cons pf_str (paf_cons (pf_tup paf_nil) (paf_cons (pf_tup (paf_cons pf_str paf_nil)) paf_nil)))))))))))))))))
    (pssf_cons (psf_set (i := 6) nd rfl (by first | exact Or.inl rfl | exact Or.inr rfl) (pf_bin op_addD (pf_var 6) (pf_lst (paf_cons (pf_tup (paf_cons pf_str (paf_cons (pf_lst paf_nil) paf_nil))) (paf_cons (pf_tup (paf_cons pf_str (paf_cons (pf_tup paf_nil) paf_nil))) paf_nil)))))
    (pssf_cons (psf_set (i := 6) nd rfl (by first | exact Or.inl rfl | exact Or.inr rfl) (pf_bin op_addD (pf_var 6) (pf_lst (paf_cons (pf_lst (paf_cons pf_str (paf_cons (pf_tup paf_nil) paf_nil))) (paf_cons (pf_tup (paf_cons pf_str (paf_cons (pf_tup paf_nil) (paf_cons (pf_tup paf_nil) paf_nil)))) (paf_cons (pf_tup (paf_cons pf_str (paf_cons (pf_tup (paf_cons pf_str (paf_cons pf_int paf_nil))) paf_nil))) (paf_cons (pf_tup (paf_cons (pf_tup (paf_cons pf_str paf_nil)) (paf_cons (pf_tup paf_nil) paf_nil))) (paf_cons (pf_tup (paf_cons pf_str (paf_cons (pf_tup paf_nil) paf_nil))) (paf_cons (pf_tup (paf_cons pf_str (paf_cons pf_str paf_nil))) paf_nil)))))))))
    (pssf_cons (psf_set (i := 6) nd rfl (by first | exact Or.inl rfl | exact Or.inr rfl) (pf_bin op_addD (pf_var 6) (pf_lst (paf_cons (pf_tup (paf_cons pf_str (paf_cons (pf_tup paf_nil) paf_nil))) (paf_cons (pf_tup (paf_cons pf_str (paf_cons (pf_tup (paf_cons pf_non paf_nil)) paf_nil))) (paf_cons pf_str (paf_cons pf_str (paf_cons pf_str (paf_cons (pf_tup (paf_cons pf_str (paf_cons (pf_tup paf_nil) paf_nil))) (paf_cons (pf_tup (paf_cons pf_str (paf_cons (pf_tup paf_nil) paf_nil))) (paf_cons (pf_tup (paf_cons pf_str (paf_cons (pf_tup paf_nil) paf_nil))) paf_nil)))))))))))
    (pssf_one (psf_ret (pf_cmp (op_eqL (hu64 hr)) (pf_lc (own := [("_law_item", 10)]) rfl nd (pif_any (pf_var 6)) (blkOk_by (own := [("_law_item", 10)]) (N := N_law) (sc := defScope s_law) (by decide +kernel)) (fun _ _ _ _ _ => (pgf_name (i := 10) nd rfl (by first | exact Or.inl rfl | exact Or.inr rfl))) (fun _ _ _ _ _ => (ptsf_one (ptf_cmp (op_neD' (hu64 hr)) (pf_callB (call_reprX hg (hu70 hr)) (by rfl) T.b_repr (by decide +kernel) (paf_cons (pf_callR G_is_pattern (hr.mono (by decide)) hg (by rfl) takesW0 (paf_cons (pf_var 10) paf_nil)) paf_nil)) (pf_callB (call_reprX hg (hu70 hr)) (by rfl) T.b_repr (by decide +kernel) (paf_cons (pf_callR G__law_is_pattern (hr.mono (by decide)) hg (by rfl) takesW0 (paf_cons (pf_var 10) paf_nil)) paf_nil))))) (fun _ _ _ _ _ => (pf_var 10))) (pf_lst paf_nil))))))))))))))))
end
end Tk

set_option Elab.async false
set_option linter.all false
set_option maxRecDepth 100000
set_option maxHeartbeats 4000000
namespace Tk
open PySem L2 Td Tg
theorem leave_rt {w' : Ws} {n : Nat} {d : PyData} (h : w'.length = n) : leave n (.rt d w') = .ok d w' := by
  subst h
  simp only [leave]
  split
  · rw [List.take_length]
  · rfl
theorem k_ii : kitB "int" "int" = some true := by decide +kernel
theorem k_ib : kitB "int" "bool" = some false := by decide +kernel
theorem k_is : kitB "int" "str" = some false := by decide +kernel
theorem k_it : kitB "int" "tuple" = some false := by decide +kernel
theorem k_bi : kitB "bool" "int" = some true := by decide +kernel
theorem k_bb : kitB "bool" "bool" = some true := by decide +kernel
theorem k_bs : kitB "bool" "str" = some false := by decide +kernel
theorem k_bt : kitB "bool" "tuple" = some false := by decide +kernel
theorem k_si : kitB "str" "int" = some false := by decide +kernel
theorem k_sb : kitB "str" "bool" = some false := by decide +kernel
theorem k_ss : kitB "str" "str" = some true := by decide +kernel
theorem k_st : kitB "str" "tuple" = some false := by decide +kernel
theorem k_ti : kitB "tuple" "int" = some false := by decide +kernel
theorem k_tb : kitB "tuple" "bool" = some false := by decide +kernel
theorem k_ts : kitB "tuple" "str" = some false := by decide +kernel
theorem k_tt : kitB "tuple" "tuple" = some true := by decide +kernel
theorem k_li : kitB "list" "int" = some false := by decide +kernel
theorem k_lb : kitB "list" "bool" = some false := by decide +kernel
theorem k_ls : kitB "list" "str" = some false := by decide +kernel
theorem k_lt : kitB "list" "tuple" = some false := by decide +kernel
theorem k_ni : kitB "NoneType" "int" = some false := by decide +kernel
theorem k_nb : kitB "NoneType" "bool" = some false := by decide +kernel
theorem k_ns : kitB "NoneType" "str" = some false := by decide +kernel
theorem k_nt : kitB "NoneType" "tuple" = some false := by decide +kernel
/-- data without the store's objects -/
def isD : PyData → Bool
  | .none => true
  | .bool _ => true
  | .int _ => true
  | .str _ => true
  | .list _ => true
  | .tuple _ => true
  | .dict _ => false
/-! comprehensions that change nothing -/
theorem lcL_pure {gt : FG} {tt : FT} {fe : FE} {ρ : Ev} {w : Ws} (p : PyData → Bool) (f : PyData → PyData) : ∀ (ds acc : List PyData), acc.length + ds.length ≤ sizeLine →
    (∀ d ∈ ds, ∃ ρ1, gt d ρ w = .ok ρ1 w ∧ tt ρ1 w = .ok (p d) w ∧ (p d = true → fe ρ1 w = .ok (f d) w)) → lcL gt tt fe ρ ds w acc = .ok (acc ++ (ds.filter p).map f) w
  | [], acc, _, _ => by simp [lcL]
  | d :: ds, acc, hs, h => by
    obtain ⟨ρ1, h1, h2, h3⟩ := h d List.mem_cons_self
    have hs' : acc.length + (ds.length + 1) ≤ sizeLine := hs
    cases hp : p d with
    | false =>
      rw [hp] at h2
      have ih := lcL_pure p f ds acc (by omega) fun x hx => h x (List.mem_cons_of_mem _ hx)
      simp only [lcL, h1, h2, ih, List.filter_cons, hp]
      rfl
    | true =>
      rw [hp] at h2
      have ih := lcL_pure p f ds (acc ++ [f d]) (by rw [List.length_append]; simp; omega) fun x hx => h x (List.mem_cons_of_mem _ hx)
      simp only [lcL, h1, h2, h3 hp, ih, List.filter_cons, hp, if_pos (show acc.length < sizeLine by omega)]
      simp
theorem lcL_map {gt : FG} {fe : FE} {ρ : Ev} {w : Ws} (f : PyData → PyData) (ds : List PyData) (hs : ds.length ≤ sizeLine) (h : ∀ d ∈ ds, ∃ ρ1, gt d ρ w = .ok ρ1 w ∧ fe ρ1 w = .ok (f d) w) : lcL gt tYs fe ρ ds w [] = .ok (ds.map f) w := by
  have := lcL_pure (gt := gt) (tt := tYs) (fe := fe) (ρ := ρ) (w := w) (fun _ => true) f ds [] (by simpa using hs) fun d hd => by
    obtain ⟨ρ1, h1, h2⟩ := h d hd
    exact ⟨ρ1, h1, rfl, fun _ => h2⟩
  rw [this, List.filter_eq_self.mpr (fun _ _ => rfl), List.nil_append]
theorem boolsOf_map {α : Type} (f : α → Bool) : ∀ xs : List α, boolsOf (xs.map fun x => PyData.bool (f x)) = some (xs.map f)
  | [] => rfl
  | x :: xs => by simp [boolsOf, boolsOf_map f xs]
theorem all_map_id {α : Type} (f : α → Bool) (xs : List α) : (xs.map f).all id = xs.all f := by simp [List.all_map]
def letters : Str := "abcdefghijklmnopqrstuvwxyz"
def letB (c : Nat) : Bool := decide (c ∈ letters.cps.toList)
def nameS (z : Str) : Bool := decide (1 ≤ z.length) && decide (z.length ≤ 8) && z.cps.toList.all letB
def nameB : PyData → Bool
  | .str z => nameS z
  | _ => false
theorem chD_len (z : Str) : (chD z).length = z.length := by simp [chD, Str.length]
/-- the size of a text -/
def szD : PyData → Bool
  | .none => true
  | .bool _ => true
  | .int _ => true
  | .str z => szOk z.length && PyData.strOk z
  | .list _ => true
  | .tuple _ => true
  | .dict _ => true
theorem is_name_ok (d : PyData) (w : Ws) (h : isD d = true) (hs : szD d = true) : F_is_name [d] w = .ok (.bool (nameB d)) w := by
  cases d with
  | str z =>
    have hz' : szOk z.length = true := ((Bool.and_eq_true _ _).mp hs).1
    have hz : z.length ≤ sizeLine := of_decide_eq_true hz'
    have key : ∀ ρ : Ev, 2 ≤ ρ.length → lcL (gN 1) tYs (eB inD (eV 1) (eC (.str "abcdefghijklmnopqrstuvwxyz"))) ρ (chD z) w [] = .ok ((chD z).map fun d => .bool (match d with | .str y => strIn y letters | _ => false)) w := by
      intro ρ hρ
      refine lcL_map _ _ (by rw [chD_len]; exact hz) fun d hd => ?_
      obtain ⟨c, _, rfl⟩ := List.mem_map.mp hd
      refine ⟨_, rfl, ?_⟩
      simp [eB, eV, eC, Oc.bind, Oc.of, inD, isIn, letters, show 1 < ρ.length by omega]
    have kk := key [some (.str z), none] (by simp)
    by_cases h1 : 1 ≤ z.length
    · have h1' : decide ((1 : Int) ≤ (z.length : Int)) = true := decide_eq_true (by omega)
      by_cases h2 : z.length ≤ 8
      · have h2' : decide ((z.length : Int) ≤ 8) = true := decide_eq_true (by omega)
        simp [F_is_name, b_is_name, defF, startE, sRet, sExp, sIf, sSeq, sAsg, sFor, gN, gT, gC, gZ, eAn, eOr, eNo, eIf, eIsi, eV, eC, eB, eU, eCb, eCall, eSl, oN, oS, eTup, eLst, aN, aC, eLc, eCh, tAn, tOr', tNo, tB', tTr, tYs, iE, iZ, iR1, iR2, sNil, Oc.bind, Oc.thenS, Oc.of, Oc.on, tyD, leave_rt, truD, List.replicate, List.set, List.append_nil, List.nil_append, List.cons_append, wipeE, cond_true, cond_false, k_ii, k_ib, k_is, k_it, k_bi, k_bb, k_bs, k_bt, k_si, k_sb, k_ss, k_st, k_ti, k_tb, k_ts, k_tt, k_li, k_lb, k_ls, k_lt, k_ni, k_nb, k_ns, k_nt, nameB, nameS, lenD, leD, cmpD, hz', h1, h2, h1', h2', itD, allD, qD, lstOf, kk, boolsOf_map, all_map_id]
        have eL : letB = fun c => decide (c ∈ letters.cps) := by funext c; simp [letB]
        simp [chD, List.all_map, strIn, eL, Function.comp_def]
      · have h2' : decide ((z.length : Int) ≤ 8) = false := decide_eq_false (by omega)
        simp [F_is_name, b_is_name, defF, startE, sRet, sExp, sIf, sSeq, sAsg, sFor, gN, gT, gC, gZ, eAn, eOr, eNo, eIf, eIsi, eV, eC, eB, eU, eCb, eCall, eSl, oN, oS, eTup, eLst, aN, aC, eLc, eCh, tAn, tOr', tNo, tB', tTr, tYs, iE, iZ, iR1, iR2, sNil, Oc.bind, Oc.thenS, Oc.of, Oc.on, tyD, leave_rt, truD, List.replicate, List.set, List.append_nil, List.nil_append, List.cons_append, wipeE, cond_true, cond_false, k_ii, k_ib, k_is, k_it, k_bi, k_bb, k_bs, k_bt, k_si, k_sb, k_ss, k_st, k_ti, k_tb, k_ts, k_tt, k_li, k_lb, k_ls, k_lt, k_ni, k_nb, k_ns, k_nt, nameB, nameS, lenD, leD, cmpD, hz', h1, h2, h1', h2', itD]
    · have h1' : decide ((1 : Int) ≤ (z.length : Int)) = false := decide_eq_false (by omega)
      simp [F_is_name, b_is_name, defF, startE, sRet, sExp, sIf, sSeq, sAsg, sFor, gN, gT, gC, gZ, eAn, eOr, eNo, eIf, eIsi, eV, eC, eB, eU, eCb, eCall, eSl, oN, oS, eTup, eLst, aN, aC, eLc, eCh, tAn, tOr', tNo, tB', tTr, tYs, iE, iZ, iR1, iR2, sNil, Oc.bind, Oc.thenS, Oc.of, Oc.on, tyD, leave_rt, truD, List.replicate, List.set, List.append_nil, List.nil_append, List.cons_append, wipeE, cond_true, cond_false, k_ii, k_ib, k_is, k_it, k_bi, k_bb, k_bs, k_bt, k_si, k_sb, k_ss, k_st, k_ti, k_tb, k_ts, k_tt, k_li, k_lb, k_ls, k_lt, k_ni, k_nb, k_ns, k_nt, nameB, nameS, lenD, leD, cmpD, hz', h1, h1', itD]
  | dict _ => cases h
  | _ => simp [F_is_name, b_is_name, defF, startE, sRet, sExp, sIf, sSeq, sAsg, sFor, gN, gT, gC, gZ, eAn, eOr, eNo, eIf, eIsi, eV, eC, eB, eU, eCb, eCall, eSl, oN, oS, eTup, eLst, aN, aC, eLc, eCh, tAn, tOr', tNo, tB', tTr, tYs, iE, iZ, iR1, iR2, sNil, Oc.bind, Oc.thenS, Oc.of, Oc.on, tyD, leave_rt, truD, List.replicate, List.set, List.append_nil, List.nil_append, List.cons_append, wipeE, cond_true, cond_false, k_ii, k_ib, k_is, k_it, k_bi, k_bb, k_bs, k_bt, k_si, k_sb, k_ss, k_st, k_ti, k_tb, k_ts, k_tt, k_li, k_lb, k_ls, k_lt, k_ni, k_nb, k_ns, k_nt, nameB]

def letL (n : List Nat) : Bool := n.all fun c => decide (97 ≤ c ∧ c ≤ 122)
def nmL (n : List Nat) : Bool := decide (1 ≤ n.length) && decide (n.length ≤ 8) && letL n
theorem letB_eq (c : Nat) : letB c = decide (97 ≤ c ∧ c ≤ 122) := by
  have e : letters.cps.toList = [97, 98, 99, 100, 101, 102, 103, 104, 105, 106, 107, 108, 109, 110, 111, 112, 113, 114, 115, 116, 117, 118, 119, 120, 121, 122] := by decide +kernel
  unfold letB
  rw [e]
  by_cases h : 97 ≤ c ∧ c ≤ 122
  · rw [decide_eq_true h]
    refine decide_eq_true ?_
    simp only [List.mem_cons, List.not_mem_nil, or_false]
    omega
  · rw [decide_eq_false h]
    refine decide_eq_false fun q => h ?_
    simp only [List.mem_cons, List.not_mem_nil, or_false] at q
    omega
theorem nameS_S (n : List Nat) : nameS (S n) = nmL n := by
  unfold nameS nmL letL
  rw [S_len, S_cps]
  congr 1
  exact congrArg (fun f => n.all f) (funext letB_eq)
theorem cut_hd (c : Nat) (l : List Nat) : cutS (S (c :: l)) none (some 1) = S [c] := by
  unfold cutS
  simp [S, HT.sIx, Str.length]
theorem cut_tl (c : Nat) (l : List Nat) : cutS (S (c :: l)) (some 1) none = S l := by
  unfold cutS
  simp [S, HT.sIx, Str.length]
theorem lit_q : ("?" : Str) = S [63] := by decide +kernel
/-! ### variables -/
def varL : List Nat → Bool
  | 63 :: l => nmL l
  | _ => false
def varS (z : Str) : Bool := varL z.cps.toList
def varB : PyData → Bool
  | .str z => varS z
  | _ => false
theorem varL_cons (c : Nat) (l : List Nat) : varL (c :: l) = (decide (c = 63) && nmL l) := by
  by_cases h : c = 63
  · subst h; rfl
  · rw [decide_eq_false h, Bool.false_and]
    unfold varL
    split
    · rename_i e; cases e; exact absurd rfl h
    · rfl
theorem cut_nil : cutS (S []) none (some 1) = S [] := by decide +kernel
theorem szD_of {d : PyData} (h : okD d = true) (hw : wt d ≤ 1000000) : isD d = true ∧ szD d = true := by
  cases d with
  | str z =>
    have h : ascS z = true := h
    have hw : 1 + z.length ≤ 1000000 := hw
    refine ⟨rfl, ?_⟩
    show (szOk z.length && PyData.strOk z) = true
    rw [szOk_of (by omega), asc_ok h]; rfl
  | dict _ => simp [okD] at h
  | _ => exact ⟨rfl, rfl⟩
theorem is_variable_ok (d : PyData) (w : Ws) (h : okD d = true) (hw : wt d ≤ 1000000) : F_is_variable [d] w = .ok (.bool (varB d)) w := by
  cases d with
  | str z =>
    obtain ⟨l, rfl⟩ : ∃ l, z = S l := ⟨_, S_of z⟩
    have hw : 1 + (S l).length ≤ 1000000 := hw
    have h : ascS (S l) = true := h
    have hsl : szOk (S l).length = true := szOk_of (by omega)
    cases l with
    | nil =>
      simp [F_is_variable, b_is_variable, defF, startE, sRet, sExp, sIf, sSeq, sAsg, sFor, gN, gT, gC, gZ, eAn, eOr, eNo, eIf, eIsi, eV, eC, eB, eU, eCb, eCall, eSl, oN, oS, eTup, eLst, aN, aC, eLc, eCh, tAn, tOr', tNo, tB', tTr, tYs, iE, iZ, iR1, iR2, sNil, Oc.bind, Oc.thenS, Oc.of, Oc.on, tyD, leave_rt, truD, List.replicate, List.set, List.append_nil, List.nil_append, List.cons_append, wipeE, cond_true, cond_false, k_ii, k_ib, k_is, k_it, k_bi, k_bb, k_bs, k_bt, k_si, k_sb, k_ss, k_st, k_ti, k_tb, k_ts, k_tt, k_li, k_lb, k_ls, k_lt, k_ni, k_nb, k_ns, k_nt, varB, varS, S_cps, varL, cutD, cut_nil, eqD_str, lit_q, S_inj, hsl]
    | cons c l =>
      rw [asc_S] at h
      rw [List.all_cons, Bool.and_eq_true] at h
      rw [S_len, List.length_cons] at hw
      obtain ⟨q1, q2⟩ := szD_of (d := .str (S l)) (by show ascS (S l) = true; rw [asc_S]; exact h.2) (by show 1 + (S l).length ≤ 1000000; rw [S_len]; omega)
      have nm := is_name_ok (.str (S l)) w q1 q2
      have vs : varB (.str (S (c :: l))) = (decide (c = 63) && nmL l) := by show varL (S (c :: l)).cps.toList = _; rw [S_cps, varL_cons]
      rw [vs]
      by_cases hc : c = 63
      · subst hc
        simp [F_is_variable, b_is_variable, defF, startE, sRet, sExp, sIf, sSeq, sAsg, sFor, gN, gT, gC, gZ, eAn, eOr, eNo, eIf, eIsi, eV, eC, eB, eU, eCb, eCall, eSl, oN, oS, eTup, eLst, aN, aC, eLc, eCh, tAn, tOr', tNo, tB', tTr, tYs, iE, iZ, iR1, iR2, sNil, Oc.bind, Oc.thenS, Oc.of, Oc.on, tyD, leave_rt, truD, List.replicate, List.set, List.append_nil, List.nil_append, List.cons_append, wipeE, cond_true, cond_false, k_ii, k_ib, k_is, k_it, k_bi, k_bb, k_bs, k_bt, k_si, k_sb, k_ss, k_st, k_ti, k_tb, k_ts, k_tt, k_li, k_lb, k_ls, k_lt, k_ni, k_nb, k_ns, k_nt, cutD, cut_hd, cut_tl, eqD_str, lit_q, S_inj, hsl, nm, nameB, nameS_S]
      · simp [F_is_variable, b_is_variable, defF, startE, sRet, sExp, sIf, sSeq, sAsg, sFor, gN, gT, gC, gZ, eAn, eOr, eNo, eIf, eIsi, eV, eC, eB, eU, eCb, eCall, eSl, oN, oS, eTup, eLst, aN, aC, eLc, eCh, tAn, tOr', tNo, tB', tTr, tYs, iE, iZ, iR1, iR2, sNil, Oc.bind, Oc.thenS, Oc.of, Oc.on, tyD, leave_rt, truD, List.replicate, List.set, List.append_nil, List.nil_append, List.cons_append, wipeE, cond_true, cond_false, k_ii, k_ib, k_is, k_it, k_bi, k_bb, k_bs, k_bt, k_si, k_sb, k_ss, k_st, k_ti, k_tb, k_ts, k_tt, k_li, k_lb, k_ls, k_lt, k_ni, k_nb, k_ns, k_nt, cutD, cut_hd, cut_tl, eqD_str, lit_q, S_inj, hsl, hc]
  | dict _ => simp [okD] at h
  | _ => simp [F_is_variable, b_is_variable, defF, startE, sRet, sExp, sIf, sSeq, sAsg, sFor, gN, gT, gC, gZ, eAn, eOr, eNo, eIf, eIsi, eV, eC, eB, eU, eCb, eCall, eSl, oN, oS, eTup, eLst, aN, aC, eLc, eCh, tAn, tOr', tNo, tB', tTr, tYs, iE, iZ, iR1, iR2, sNil, Oc.bind, Oc.thenS, Oc.of, Oc.on, tyD, leave_rt, truD, List.replicate, List.set, List.append_nil, List.nil_append, List.cons_append, wipeE, cond_true, cond_false, k_ii, k_ib, k_is, k_it, k_bi, k_bb, k_bs, k_bt, k_si, k_sb, k_ss, k_st, k_ti, k_tb, k_ts, k_tt, k_li, k_lb, k_ls, k_lt, k_ni, k_nb, k_ns, k_nt, varB]
end Tk

set_option Elab.async false
set_option linter.all false
set_option maxRecDepth 100000
set_option maxHeartbeats 4000000
namespace Tk
open PySem L2 Td Tg
def isPat : Nat → PyData → Bool
  | 0, _ => false
  | l + 1, d => varB d || (match d with
    | .tuple [h, .tuple ps] => nameB h && ps.all (isPat l)
    | _ => false)
theorem nameD_ok (d : PyData) (w : Ws) (h : okD d = true) (hw : wt d ≤ 1000000) : F_is_name [d] w = .ok (.bool (nameB d)) w := is_name_ok d w (szD_of h hw).1 (szD_of h hw).2
theorem leave_w {w : Ws} {d : PyData} : leave w.length (.rt d w) = .ok d w := leave_rt rfl
theorem depth_mem {x : PyData} : ∀ {a : List PyData}, x ∈ a → x.depth ≤ PyData.depthAll a := fun {a} h => depthAll_le.mp (Nat.le_refl _) x h
theorem ne2_int (w : Ws) (n : Nat) : neD w (.int (n : Int)) (.int 2) = some (.bool (!decide (n = 2))) := by
  rw [neD_int]
  congr 2
  by_cases h : n = 2
  · subst h; rfl
  · rw [decide_eq_false h, decide_eq_false (by omega)]
theorem is_pattern_ok (w : Ws) : ∀ (l : Nat) (d : PyData), okD d = true → d.depth < 2 * l → wt d ≤ 1000000 → F_is_pattern l [d] w = .ok (.bool (isPat l d)) w
  | 0, d, _, h, _ => by omega
  | l + 1, d, ho, hd, hw => by
    have hv := is_variable_ok d w ho hw
    show leave w.length (b_is_pattern (F_is_pattern l) [some d, none] w) = _
    have st : b_is_pattern (F_is_pattern l) [some d, none] w = .rt (.bool (isPat (l + 1) d)) w := by
      unfold b_is_pattern
      cases hb : varB d with
      | true =>
        rw [hb] at hv
        simp [defF, startE, sRet, sExp, sIf, sSeq, sAsg, sFor, gN, gT, gC, gZ, eAn, eOr, eNo, eIf, eIsi, eV, eC, eB, eU, eCb, eCall, eSl, oN, oS, eTup, eLst, aN, aC, eLc, eCh, tAn, tOr', tNo, tB', tTr, tYs, iE, iZ, iR1, iR2, sNil, Oc.bind, Oc.thenS, Oc.of, Oc.on, tyD, leave_rt, truD, List.replicate, List.set, List.append_nil, List.nil_append, List.cons_append, wipeE, cond_true, cond_false, hv, isPat, hb]
      | false =>
        rw [hb] at hv
        cases d with
        | tuple ds =>
          have hw' : 1 + wtA ds ≤ 1000000 := hw
          have hl := len_wtA ds
          have ho' : okDA ds = true := ho
          have sz : szOk ds.length = true := szOk_of (by omega)
          match ds, ho', hw', hd, hv, sz with
          | [], _, _, _, hv, sz => simp [defF, startE, sRet, sExp, sIf, sSeq, sAsg, sFor, gN, gT, gC, gZ, eAn, eOr, eNo, eIf, eIsi, eV, eC, eB, eU, eCb, eCall, eSl, oN, oS, eTup, eLst, aN, aC, eLc, eCh, tAn, tOr', tNo, tB', tTr, tYs, iE, iZ, iR1, iR2, sNil, Oc.bind, Oc.thenS, Oc.of, Oc.on, tyD, leave_rt, truD, List.replicate, List.set, List.append_nil, List.nil_append, List.cons_append, wipeE, cond_true, cond_false, k_ii, k_ib, k_is, k_it, k_bi, k_bb, k_bs, k_bt, k_si, k_sb, k_ss, k_st, k_ti, k_tb, k_ts, k_tt, k_li, k_lb, k_ls, k_lt, k_ni, k_nb, k_ns, k_nt, hv, isPat, varB, lenD, neD_int]
          | [a], _, _, _, hv, sz => simp [defF, startE, sRet, sExp, sIf, sSeq, sAsg, sFor, gN, gT, gC, gZ, eAn, eOr, eNo, eIf, eIsi, eV, eC, eB, eU, eCb, eCall, eSl, oN, oS, eTup, eLst, aN, aC, eLc, eCh, tAn, tOr', tNo, tB', tTr, tYs, iE, iZ, iR1, iR2, sNil, Oc.bind, Oc.thenS, Oc.of, Oc.on, tyD, leave_rt, truD, List.replicate, List.set, List.append_nil, List.nil_append, List.cons_append, wipeE, cond_true, cond_false, k_ii, k_ib, k_is, k_it, k_bi, k_bb, k_bs, k_bt, k_si, k_sb, k_ss, k_st, k_ti, k_tb, k_ts, k_tt, k_li, k_lb, k_ls, k_lt, k_ni, k_nb, k_ns, k_nt, hv, isPat, varB, lenD, neD_int]
          | a :: b :: c :: r, _, _, _, hv, sz =>
            have e : ¬ ((r.length : Int) + 1 + 1 + 1 = 2) := by omega
            simp [defF, startE, sRet, sExp, sIf, sSeq, sAsg, sFor, gN, gT, gC, gZ, eAn, eOr, eNo, eIf, eIsi, eV, eC, eB, eU, eCb, eCall, eSl, oN, oS, eTup, eLst, aN, aC, eLc, eCh, tAn, tOr', tNo, tB', tTr, tYs, iE, iZ, iR1, iR2, sNil, Oc.bind, Oc.thenS, Oc.of, Oc.on, tyD, leave_rt, truD, List.replicate, List.set, List.append_nil, List.nil_append, List.cons_append, wipeE, cond_true, cond_false, k_ii, k_ib, k_is, k_it, k_bi, k_bb, k_bs, k_bt, k_si, k_sb, k_ss, k_st, k_ti, k_tb, k_ts, k_tt, k_li, k_lb, k_ls, k_lt, k_ni, k_nb, k_ns, k_nt, hv, isPat, varB, lenD, neD_int, e]
          | [a, b], ho', hw', hd, hv, sz =>
            have oa : okD a = true := okDA_iff.mp ho' a (by simp)
            have ob : okD b = true := okDA_iff.mp ho' b (by simp)
            have wab : 1 + (wt a + (wt b + 0)) ≤ 1000000 := hw'
            have na := nameD_ok a w oa (by omega)
            have x0 : ixD w (.tuple [a, b]) (.int 0) = some a := rfl
            have x1 : ixD w (.tuple [a, b]) (.int 1) = some b := rfl
            cases hn : nameB a with
            | false =>
              rw [hn] at na
              cases b <;> simp [defF, startE, sRet, sExp, sIf, sSeq, sAsg, sFor, gN, gT, gC, gZ, eAn, eOr, eNo, eIf, eIsi, eV, eC, eB, eU, eCb, eCall, eSl, oN, oS, eTup, eLst, aN, aC, eLc, eCh, tAn, tOr', tNo, tB', tTr, tYs, iE, iZ, iR1, iR2, sNil, Oc.bind, Oc.thenS, Oc.of, Oc.on, tyD, leave_rt, truD, List.replicate, List.set, List.append_nil, List.nil_append, List.cons_append, wipeE, cond_true, cond_false, k_ii, k_ib, k_is, k_it, k_bi, k_bb, k_bs, k_bt, k_si, k_sb, k_ss, k_st, k_ti, k_tb, k_ts, k_tt, k_li, k_lb, k_ls, k_lt, k_ni, k_nb, k_ns, k_nt, hv, isPat, varB, lenD, neD_int, x0, x1, na, hn]
            | true =>
              rw [hn] at na
              cases b with
              | tuple ps =>
                have wp : 1 + wtA ps = wt (.tuple ps) := rfl
                have key : ∀ ρ : Ev, 2 ≤ ρ.length → lcL (gN 1) tYs (eCall (F_is_pattern l) [] (aC (eV 1) aN)) ρ ps w [] = .ok (ps.map fun p => .bool (isPat l p)) w := by
                  intro ρ hρ
                  refine lcL_map _ _ (by have := len_wtA ps; rw [sizeLine_eq]; omega) fun d hd' => ?_
                  refine ⟨_, rfl, ?_⟩
                  have hdd : d.depth < 2 * l := by
                    have h1 := depth_mem hd'
                    have h2 : (PyData.tuple [a, .tuple ps]).depth = 1 + max a.depth (max (1 + PyData.depthAll ps) 0) := by simp [PyData.depth, PyData.depthAll]; try omega
                    rw [h2] at hd
                    omega
                  have ih := is_pattern_ok w l d (okDA_iff.mp (show okDA ps = true from ob) d hd') hdd (by have := wtA_mem hd'; omega)
                  simp [eCall, aC, eV, aN, Oc.bind, show 1 < ρ.length by omega, ih]
                have kk := key [some (.tuple [a, .tuple ps]), none] (by simp)
                simp [defF, startE, sRet, sExp, sIf, sSeq, sAsg, sFor, gN, gT, gC, gZ, eAn, eOr, eNo, eIf, eIsi, eV, eC, eB, eU, eCb, eCall, eSl, oN, oS, eTup, eLst, aN, aC, eLc, eCh, tAn, tOr', tNo, tB', tTr, tYs, iE, iZ, iR1, iR2, sNil, Oc.bind, Oc.thenS, Oc.of, Oc.on, tyD, leave_rt, truD, List.replicate, List.set, List.append_nil, List.nil_append, List.cons_append, wipeE, cond_true, cond_false, k_ii, k_ib, k_is, k_it, k_bi, k_bb, k_bs, k_bt, k_si, k_sb, k_ss, k_st, k_ti, k_tb, k_ts, k_tt, k_li, k_lb, k_ls, k_lt, k_ni, k_nb, k_ns, k_nt, hv, isPat, varB, lenD, neD_int, x0, x1, na, hn, itD, allD, qD, lstOf, kk, boolsOf_map, all_map_id]
              | dict _ => simp [okD] at ob
              | _ => simp [defF, startE, sRet, sExp, sIf, sSeq, sAsg, sFor, gN, gT, gC, gZ, eAn, eOr, eNo, eIf, eIsi, eV, eC, eB, eU, eCb, eCall, eSl, oN, oS, eTup, eLst, aN, aC, eLc, eCh, tAn, tOr', tNo, tB', tTr, tYs, iE, iZ, iR1, iR2, sNil, Oc.bind, Oc.thenS, Oc.of, Oc.on, tyD, leave_rt, truD, List.replicate, List.set, List.append_nil, List.nil_append, List.cons_append, wipeE, cond_true, cond_false, k_ii, k_ib, k_is, k_it, k_bi, k_bb, k_bs, k_bt, k_si, k_sb, k_ss, k_st, k_ti, k_tb, k_ts, k_tt, k_li, k_lb, k_ls, k_lt, k_ni, k_nb, k_ns, k_nt, hv, isPat, varB, lenD, neD_int, x0, x1, na, hn]
        | dict _ => simp [okD] at ho
        | _ => simp [defF, startE, sRet, sExp, sIf, sSeq, sAsg, sFor, gN, gT, gC, gZ, eAn, eOr, eNo, eIf, eIsi, eV, eC, eB, eU, eCb, eCall, eSl, oN, oS, eTup, eLst, aN, aC, eLc, eCh, tAn, tOr', tNo, tB', tTr, tYs, iE, iZ, iR1, iR2, sNil, Oc.bind, Oc.thenS, Oc.of, Oc.on, tyD, leave_rt, truD, List.replicate, List.set, List.append_nil, List.nil_append, List.cons_append, wipeE, cond_true, cond_false, k_ii, k_ib, k_is, k_it, k_bi, k_bb, k_bs, k_bt, k_si, k_sb, k_ss, k_st, k_ti, k_tb, k_ts, k_tt, k_li, k_lb, k_ls, k_lt, k_ni, k_nb, k_ns, k_nt, hv, isPat, hb]
    rw [st]
    exact leave_w
end Tk

set_option Elab.async false
set_option linter.all false
set_option maxRecDepth 100000
set_option maxHeartbeats 4000000
namespace Tk
open PySem L2 Td Tg
theorem lit_a : ("a" : Str) = S [97] := by decide +kernel
theorem lit_z : ("z" : Str) = S [122] := by decide +kernel
theorem lt_one (a b : Nat) : strLt (S [a]) (S [b]) = decide (a < b) := by
  unfold strLt
  simp [S_cps, List.cons_lt_cons_iff]
theorem le_a (w : Ws) (c : Nat) : leD w (.str "a") (.str (S [c])) = some (.bool (decide (97 ≤ c))) := by
  rw [lit_a]
  simp only [leD, cmpD, lt_one]
  by_cases h : 97 ≤ c
  · rw [decide_eq_true h, decide_eq_false (by omega)]; rfl
  · rw [decide_eq_false h, decide_eq_true (by omega)]; rfl
theorem le_z (w : Ws) (c : Nat) : leD w (.str (S [c])) (.str "z") = some (.bool (decide (c ≤ 122))) := by
  rw [lit_z]
  simp only [leD, cmpD, lt_one]
  by_cases h : c ≤ 122
  · rw [decide_eq_true h, decide_eq_false (by omega)]; rfl
  · rw [decide_eq_false h, decide_eq_true (by omega)]; rfl
theorem isEmpty_filter {α : Type} (p : α → Bool) : ∀ l : List α, (l.filter fun x => !p x).isEmpty = l.all p
  | [] => rfl
  | x :: l => by
    rw [List.filter_cons, List.all_cons]
    cases p x with
    | true => simp [← isEmpty_filter p l]
    | false => simp
theorem law_is_name_ok (d : PyData) (w : Ws) (h : okD d = true) (hw : wt d ≤ 1000000) : F__law_is_name [d] w = .ok (.bool (nameB d)) w := by
  cases d with
  | str z =>
    obtain ⟨l, rfl⟩ : ∃ l, z = S l := ⟨_, S_of z⟩
    have hw : 1 + (S l).length ≤ 1000000 := hw
    have hz' : szOk (S l).length = true := szOk_of (by omega)
    have nS : nameB (.str (S l)) = nmL l := nameS_S l
    rw [nS]
    unfold nmL
    rw [S_len] at hw hz'
    have key : ∀ ρ : Ev, 2 ≤ ρ.length → lcL (gN 1) (tNo (tB' (eCh leD leD (eC (.str "a")) (eV 1) (eC (.str "z"))))) (eV 1) ρ (chD (S l)) w [] = .ok ((l.filter fun c => !decide (97 ≤ c ∧ c ≤ 122)).map fun c => .str (S [c])) w := by
      intro ρ hρ
      have q := lcL_pure (gt := gN 1) (tt := tNo (tB' (eCh leD leD (eC (.str "a")) (eV 1) (eC (.str "z"))))) (fe := eV 1) (ρ := ρ) (w := w) (fun d => match d with | .str y => !(y.cps.toList.all fun c => decide (97 ≤ c ∧ c ≤ 122)) | _ => false) id (chD (S l)) [] (by rw [chD_len, S_len, sizeLine_eq]; simp; omega) fun d hd => by
        rw [chD_S] at hd
        obtain ⟨c, _, rfl⟩ := List.mem_map.mp hd
        refine ⟨_, rfl, ?_, fun _ => ?_⟩
        · have e1 := le_a w c
          have e2 := le_z w c
          simp only [S_one] at e1 e2
          by_cases h1 : 97 ≤ c
          · simp [tNo, tB', eCh, eC, eV, Oc.bind, Oc.of, show 1 < ρ.length by omega, e1, e2, h1]
          · simp [tNo, tB', eCh, eC, eV, Oc.bind, Oc.of, show 1 < ρ.length by omega, e1, e2, h1]
        · simp [eV, show 1 < ρ.length by omega]
      rw [q, chD_S, List.nil_append, List.map_id, List.filter_map]
      congr 2
      refine List.filter_congr fun c _ => ?_
      simp [Function.comp]
    have kk := key [some (.str (S l)), none] (by simp)
    have em : ∀ xs : List Nat, (xs.map fun c => PyData.str (S [c])).isEmpty = xs.isEmpty := fun xs => by cases xs <;> rfl
    have fin := isEmpty_filter (fun c : Nat => decide (97 ≤ c ∧ c ≤ 122)) l
    by_cases h1 : 1 ≤ l.length
    · have h1' : decide ((1 : Int) ≤ (l.length : Int)) = true := decide_eq_true (by omega)
      by_cases h2 : l.length ≤ 8
      · have h2' : decide ((l.length : Int) ≤ 8) = true := decide_eq_true (by omega)
        have sh : letL l = l.all fun c => decide (97 ≤ c ∧ c ≤ 122) := rfl
        rw [← sh] at fin
        generalize (l.filter fun c => !decide (97 ≤ c ∧ c ≤ 122)) = FF0 at kk fin
        simp [F__law_is_name, b__law_is_name, defF, startE, sRet, sExp, sIf, sSeq, sAsg, sFor, gN, gT, gC, gZ, eAn, eOr, eNo, eIf, eIsi, eV, eC, eB, eU, eCb, eCall, eSl, oN, oS, eTup, eLst, aN, aC, eLc, eCh, tAn, tOr', tNo, tB', tTr, tYs, iE, iZ, iR1, iR2, sNil, Oc.bind, Oc.thenS, Oc.of, Oc.on, tyD, leave_rt, truD, List.replicate, List.set, List.append_nil, List.nil_append, List.cons_append, wipeE, cond_true, cond_false, k_ii, k_ib, k_is, k_it, k_bi, k_bb, k_bs, k_bt, k_si, k_sb, k_ss, k_st, k_ti, k_tb, k_ts, k_tt, k_li, k_lb, k_ls, k_lt, k_ni, k_nb, k_ns, k_nt, lenD, leD, cmpD, hz', h1', h2', itD, S_len, kk, eqL, lstOf, h1, h2, sz0]
        rw [← fin]
      · have h2' : decide ((l.length : Int) ≤ 8) = false := decide_eq_false (by omega)
        simp [F__law_is_name, b__law_is_name, defF, startE, sRet, sExp, sIf, sSeq, sAsg, sFor, gN, gT, gC, gZ, eAn, eOr, eNo, eIf, eIsi, eV, eC, eB, eU, eCb, eCall, eSl, oN, oS, eTup, eLst, aN, aC, eLc, eCh, tAn, tOr', tNo, tB', tTr, tYs, iE, iZ, iR1, iR2, sNil, Oc.bind, Oc.thenS, Oc.of, Oc.on, tyD, leave_rt, truD, List.replicate, List.set, List.append_nil, List.nil_append, List.cons_append, wipeE, cond_true, cond_false, k_ii, k_ib, k_is, k_it, k_bi, k_bb, k_bs, k_bt, k_si, k_sb, k_ss, k_st, k_ti, k_tb, k_ts, k_tt, k_li, k_lb, k_ls, k_lt, k_ni, k_nb, k_ns, k_nt, lenD, leD, cmpD, hz', h1', h2', itD, S_len, h1, h2]
    · have h1' : decide ((1 : Int) ≤ (l.length : Int)) = false := decide_eq_false (by omega)
      simp [F__law_is_name, b__law_is_name, defF, startE, sRet, sExp, sIf, sSeq, sAsg, sFor, gN, gT, gC, gZ, eAn, eOr, eNo, eIf, eIsi, eV, eC, eB, eU, eCb, eCall, eSl, oN, oS, eTup, eLst, aN, aC, eLc, eCh, tAn, tOr', tNo, tB', tTr, tYs, iE, iZ, iR1, iR2, sNil, Oc.bind, Oc.thenS, Oc.of, Oc.on, tyD, leave_rt, truD, List.replicate, List.set, List.append_nil, List.nil_append, List.cons_append, wipeE, cond_true, cond_false, k_ii, k_ib, k_is, k_it, k_bi, k_bb, k_bs, k_bt, k_si, k_sb, k_ss, k_st, k_ti, k_tb, k_ts, k_tt, k_li, k_lb, k_ls, k_lt, k_ni, k_nb, k_ns, k_nt, lenD, leD, cmpD, hz', h1', itD, S_len, h1]
  | dict _ => simp [okD] at h
  | _ => simp [F__law_is_name, b__law_is_name, defF, startE, sRet, sExp, sIf, sSeq, sAsg, sFor, gN, gT, gC, gZ, eAn, eOr, eNo, eIf, eIsi, eV, eC, eB, eU, eCb, eCall, eSl, oN, oS, eTup, eLst, aN, aC, eLc, eCh, tAn, tOr', tNo, tB', tTr, tYs, iE, iZ, iR1, iR2, sNil, Oc.bind, Oc.thenS, Oc.of, Oc.on, tyD, leave_rt, truD, List.replicate, List.set, List.append_nil, List.nil_append, List.cons_append, wipeE, cond_true, cond_false, k_ii, k_ib, k_is, k_it, k_bi, k_bb, k_bs, k_bt, k_si, k_sb, k_ss, k_st, k_ti, k_tb, k_ts, k_tt, k_li, k_lb, k_ls, k_lt, k_ni, k_nb, k_ns, k_nt, nameB]
end Tk

set_option Elab.async false
set_option linter.all false
set_option maxRecDepth 100000
set_option maxHeartbeats 4000000
namespace Tk
open PySem L2 Td Tg
theorem isPat_succ : ∀ (l : Nat) (d : PyData), d.depth < 2 * l → isPat (l + 1) d = isPat l d
  | 0, d, h => by omega
  | l + 1, d, h => by
    cases d with
    | tuple ds =>
      match ds, h with
      | [], _ => rfl
      | [a], _ => rfl
      | [a, .tuple ps], h =>
        show (false || (nameB a && ps.all (isPat (l + 1)))) = (false || (nameB a && ps.all (isPat l)))
        have e : ps.all (isPat (l + 1)) = ps.all (isPat l) := by
          have hx : ∀ x ∈ ps, isPat (l + 1) x = isPat l x := fun x hx => by
            refine isPat_succ l x ?_
            have h1 := depth_mem hx
            have h2 : (PyData.tuple [a, .tuple ps]).depth = 1 + max a.depth (max (1 + PyData.depthAll ps) 0) := by simp [PyData.depth, PyData.depthAll]; omega
            rw [h2] at h
            omega
          clear h
          induction ps with
          | nil => rfl
          | cons y ps ih => rw [List.all_cons, List.all_cons, hx y List.mem_cons_self, ih fun z hz => hx z (List.mem_cons_of_mem _ hz)]
        rw [e]
      | [a, .none], _ => rfl
      | [a, .bool _], _ => rfl
      | [a, .int _], _ => rfl
      | [a, .str _], _ => rfl
      | [a, .list _], _ => rfl
      | [a, .dict _], _ => rfl
      | a :: b :: c :: r, _ => cases b <;> rfl
    | _ => rfl
theorem isPat_up {l : Nat} {d : PyData} (h : d.depth < 2 * l) : ∀ k, isPat (l + k) d = isPat l d
  | 0 => rfl
  | k + 1 => by rw [← Nat.add_assoc, isPat_succ (l + k) d (by omega), isPat_up h k]
theorem pop_ok {w : Ws} {q : Nat} {ds : List PyData} {d : PyData} {ρ : Ev} {i : Nat} (hi : ρ[i]? = some (some (rf q))) (hw : w[q]? = some (.lst (ds ++ [d]))) : eLm0 ppL (eV i) ρ w = .ok d (w.set q (.lst ds)) := by
  have u := upd_at (k := fun xs => ppL xs []) (d := d) (ys := ds) hw (by simp [ppL])
  simp only [eLm0, eV, hi, Oc.bind, u]
theorem ext_ok {w : Ws} {q : Nat} {ds ys : List PyData} {d : PyData} {ρ : Ev} {i : Nat} {fe : FE} (hi : ρ[i]? = some (some (rf q))) (hw : w[q]? = some (.lst ds)) (he : fe ρ w = .ok d w) (hs : seqOf w d = some ys) (hl : ds.length + ys.length ≤ 10000000) : eExt (eV i) fe ρ w = .ok .none (w.set q (.lst (ds ++ ys))) := by
  have u := upd_at (k := fun xs => if xs.length + ys.length ≤ sizeLine then some (PyData.none, xs ++ ys) else none) (d := .none) (ys := ds ++ ys) hw (by rw [if_pos (by rw [sizeLine_eq]; omega)])
  simp only [eExt, eV, hi, Oc.bind, lst_at hw, Option.isSome_some, Oc.on, cond_true, he, hs, u]
theorem ne_nil_ok {w : Ws} {q : Nat} {ds : List PyData} {ρ : Ev} {i : Nat} (hi : ρ[i]? = some (some (rf q))) (hw : w[q]? = some (.lst ds)) : tB' (eB neL (eV i) (eLst aN)) ρ w = .ok (!ds.isEmpty) w := by
  simp only [tB', eB, eV, hi, Oc.bind, eLst, aN, Oc.on, List.length_nil, sz0, cond_true, neL, lst_at hw, lstOf_list, Oc.of]
def kids : PyData → List PyData
  | .tuple [_, .tuple ps] => ps
  | _ => []
def okL : PyData → Bool
  | .str z => varS z
  | .tuple [h, .tuple _] => nameB h
  | _ => false
theorem isPat_kids (l : Nat) (d : PyData) : isPat (l + 1) d = (okL d && (kids d).all (isPat l)) := by
  cases d with
  | tuple ds =>
    match ds with
    | [] => rfl
    | [a] => rfl
    | [a, .tuple ps] => rfl
    | [a, .none] => rfl
    | [a, .bool _] => rfl
    | [a, .int _] => rfl
    | [a, .str _] => rfl
    | [a, .list _] => rfl
    | [a, .dict _] => rfl
    | a :: b :: c :: r => cases b <;> rfl
  | str z => show (varS z || false) = (varS z && true); simp
  | _ => rfl
def lawBody : FS := (sSeq (sAsg (eLm0 ppL (eV 1)) (gN 2))
    (sIf (tTr (eIsi "str" (eV 2))) (sIf (tOr' (tB' (eB neD (eSl (eV 2) oN (oS (eC (.int 1)))) (eC (.str "?")))) (tNo (tTr (eCall F__law_is_name [] (aC (eSl (eV 2) (oS (eC (.int 1))) oN) aN))))) (sRet (eC (.bool false))) sNil) (sIf (tOr' (tNo (tTr (eIsi "tuple" (eV 2)))) (tOr' (tB' (eB neD (eCb lenD (aC (eV 2) aN)) (eC (.int 2)))) (tNo (tTr (eIsi "tuple" (eB ixD (eV 2) (eC (.int 1)))))))) (sRet (eC (.bool false))) (sIf (tNo (tTr (eCall F__law_is_name [] (aC (eB ixD (eV 2) (eC (.int 0))) aN)))) (sRet (eC (.bool false))) (sExp (eExt (eV 1) (eB ixD (eV 2) (eC (.int 1)))))))))
theorem law_step {q : Nat} {ds : List PyData} {d : PyData} {y0 x2 : Option PyData} {w : Ws} (hw : w[q]? = some (.lst (ds ++ [d]))) (ho : okD d = true) (hwt : wt d + ds.length ≤ 1000000) :
    lawBody [y0, some (rf q), x2] w = cond (okL d) (.nx [y0, some (rf q), some d] (w.set q (.lst (ds ++ kids d)))) (.rt (.bool false) (w.set q (.lst ds))) := by
  have p := pop_ok (ρ := [y0, some (rf q), x2]) (i := 1) rfl hw
  have s1 := set_get hw (.lst ds)
  unfold lawBody
  rw [seq_nx (ρ1 := [y0, some (rf q), some d]) (w1 := w.set q (.lst ds)) (by simp only [sAsg, p, Oc.thenS, gN]; rfl)]
  obtain ⟨w1, hw1⟩ : ∃ w1, w1 = w.set q (.lst ds) := ⟨_, rfl⟩
  have e1 : w.set q (.lst (ds ++ kids d)) = w1.set q (.lst (ds ++ kids d)) := by rw [hw1, List.set_set]
  rw [e1, ← hw1]
  rw [← hw1] at s1
  cases d with
  | str z =>
    obtain ⟨l, rfl⟩ : ∃ l, z = S l := ⟨_, S_of z⟩
    have hwt : 1 + (S l).length + ds.length ≤ 1000000 := hwt
    have h : ascS (S l) = true := ho
    have hsl : szOk (S l).length = true := szOk_of (by omega)
    have ek : w1.set q (.lst (ds ++ kids (.str (S l)))) = w1 := by show w1.set q (.lst (ds ++ [])) = w1; rw [List.append_nil]; exact set_at s1
    rw [ek]
    cases l with
    | nil =>
      have ev : okL (.str (S [])) = false := by show varL (S []).cps.toList = false; rw [S_cps]; rfl
      rw [ev]
      simp [defF, startE, sRet, sExp, sIf, sSeq, sAsg, sFor, gN, gT, gC, gZ, eAn, eOr, eNo, eIf, eIsi, eV, eC, eB, eU, eCb, eCall, eSl, oN, oS, eTup, eLst, aN, aC, eLc, eCh, tAn, tOr', tNo, tB', tTr, tYs, iE, iZ, iR1, iR2, sNil, Oc.bind, Oc.thenS, Oc.of, Oc.on, tyD, leave_rt, truD, List.replicate, List.set, List.append_nil, List.nil_append, List.cons_append, wipeE, cond_true, cond_false, k_ii, k_ib, k_is, k_it, k_bi, k_bb, k_bs, k_bt, k_si, k_sb, k_ss, k_st, k_ti, k_tb, k_ts, k_tt, k_li, k_lb, k_ls, k_lt, k_ni, k_nb, k_ns, k_nt, cutD, cut_nil, neD_str, lit_q, S_inj, hsl]
    | cons c l =>
      rw [asc_S] at h
      rw [List.all_cons, Bool.and_eq_true] at h
      rw [S_len, List.length_cons] at hwt
      have nm := law_is_name_ok (.str (S l)) w1 (by show ascS (S l) = true; rw [asc_S]; exact h.2) (by show 1 + (S l).length ≤ 1000000; rw [S_len]; omega)
      have vs : okL (.str (S (c :: l))) = (decide (c = 63) && nmL l) := by show varL (S (c :: l)).cps.toList = _; rw [S_cps, varL_cons]
      rw [vs]
      by_cases hc : c = 63
      · subst hc
        cases hn : nmL l <;> simp [defF, startE, sRet, sExp, sIf, sSeq, sAsg, sFor, gN, gT, gC, gZ, eAn, eOr, eNo, eIf, eIsi, eV, eC, eB, eU, eCb, eCall, eSl, oN, oS, eTup, eLst, aN, aC, eLc, eCh, tAn, tOr', tNo, tB', tTr, tYs, iE, iZ, iR1, iR2, sNil, Oc.bind, Oc.thenS, Oc.of, Oc.on, tyD, leave_rt, truD, List.replicate, List.set, List.append_nil, List.nil_append, List.cons_append, wipeE, cond_true, cond_false, k_ii, k_ib, k_is, k_it, k_bi, k_bb, k_bs, k_bt, k_si, k_sb, k_ss, k_st, k_ti, k_tb, k_ts, k_tt, k_li, k_lb, k_ls, k_lt, k_ni, k_nb, k_ns, k_nt, cutD, cut_hd, cut_tl, neD_str, lit_q, S_inj, hsl, nm, nameB, nameS_S, hn]
      · simp [defF, startE, sRet, sExp, sIf, sSeq, sAsg, sFor, gN, gT, gC, gZ, eAn, eOr, eNo, eIf, eIsi, eV, eC, eB, eU, eCb, eCall, eSl, oN, oS, eTup, eLst, aN, aC, eLc, eCh, tAn, tOr', tNo, tB', tTr, tYs, iE, iZ, iR1, iR2, sNil, Oc.bind, Oc.thenS, Oc.of, Oc.on, tyD, leave_rt, truD, List.replicate, List.set, List.append_nil, List.nil_append, List.cons_append, wipeE, cond_true, cond_false, k_ii, k_ib, k_is, k_it, k_bi, k_bb, k_bs, k_bt, k_si, k_sb, k_ss, k_st, k_ti, k_tb, k_ts, k_tt, k_li, k_lb, k_ls, k_lt, k_ni, k_nb, k_ns, k_nt, cutD, cut_hd, cut_tl, neD_str, lit_q, S_inj, hsl, hc]
  | tuple as =>
    have hwt : 1 + wtA as + ds.length ≤ 1000000 := hwt
    have hl := len_wtA as
    have ho' : okDA as = true := ho
    match as, ho', hwt, hl with
    | [], _, _, _ => simp [defF, startE, sRet, sExp, sIf, sSeq, sAsg, sFor, gN, gT, gC, gZ, eAn, eOr, eNo, eIf, eIsi, eV, eC, eB, eU, eCb, eCall, eSl, oN, oS, eTup, eLst, aN, aC, eLc, eCh, tAn, tOr', tNo, tB', tTr, tYs, iE, iZ, iR1, iR2, sNil, Oc.bind, Oc.thenS, Oc.of, Oc.on, tyD, leave_rt, truD, List.replicate, List.set, List.append_nil, List.nil_append, List.cons_append, wipeE, cond_true, cond_false, k_ii, k_ib, k_is, k_it, k_bi, k_bb, k_bs, k_bt, k_si, k_sb, k_ss, k_st, k_ti, k_tb, k_ts, k_tt, k_li, k_lb, k_ls, k_lt, k_ni, k_nb, k_ns, k_nt, okL, lenD, neD_int]
    | [a], _, _, _ => simp [defF, startE, sRet, sExp, sIf, sSeq, sAsg, sFor, gN, gT, gC, gZ, eAn, eOr, eNo, eIf, eIsi, eV, eC, eB, eU, eCb, eCall, eSl, oN, oS, eTup, eLst, aN, aC, eLc, eCh, tAn, tOr', tNo, tB', tTr, tYs, iE, iZ, iR1, iR2, sNil, Oc.bind, Oc.thenS, Oc.of, Oc.on, tyD, leave_rt, truD, List.replicate, List.set, List.append_nil, List.nil_append, List.cons_append, wipeE, cond_true, cond_false, k_ii, k_ib, k_is, k_it, k_bi, k_bb, k_bs, k_bt, k_si, k_sb, k_ss, k_st, k_ti, k_tb, k_ts, k_tt, k_li, k_lb, k_ls, k_lt, k_ni, k_nb, k_ns, k_nt, okL, lenD, neD_int]
    | a :: b :: c :: r, _, _, _ =>
      have e : ¬ ((r.length : Int) + 1 + 1 + 1 = 2) := by omega
      have ek : okL (.tuple (a :: b :: c :: r)) = false := by cases b <;> rfl
      simp [defF, startE, sRet, sExp, sIf, sSeq, sAsg, sFor, gN, gT, gC, gZ, eAn, eOr, eNo, eIf, eIsi, eV, eC, eB, eU, eCb, eCall, eSl, oN, oS, eTup, eLst, aN, aC, eLc, eCh, tAn, tOr', tNo, tB', tTr, tYs, iE, iZ, iR1, iR2, sNil, Oc.bind, Oc.thenS, Oc.of, Oc.on, tyD, leave_rt, truD, List.replicate, List.set, List.append_nil, List.nil_append, List.cons_append, wipeE, cond_true, cond_false, k_ii, k_ib, k_is, k_it, k_bi, k_bb, k_bs, k_bt, k_si, k_sb, k_ss, k_st, k_ti, k_tb, k_ts, k_tt, k_li, k_lb, k_ls, k_lt, k_ni, k_nb, k_ns, k_nt, lenD, neD_int, e, ek]
    | [a, b], ho', hwt, hl =>
      have oa : okD a = true := okDA_iff.mp ho' a (by simp)
      have ob : okD b = true := okDA_iff.mp ho' b (by simp)
      have wab : 1 + (wt a + (wt b + 0)) + ds.length ≤ 1000000 := hwt
      have na := law_is_name_ok a w1 oa (by omega)
      have x0 : ixD w1 (.tuple [a, b]) (.int 0) = some a := rfl
      have x1 : ixD w1 (.tuple [a, b]) (.int 1) = some b := rfl
      cases b with
      | tuple ps =>
        have wp : 1 + wtA ps = wt (.tuple ps) := rfl
        have lp := len_wtA ps
        have ek : okL (.tuple [a, .tuple ps]) = nameB a := rfl
        have kk : kids (.tuple [a, .tuple ps]) = ps := rfl
        rw [ek, kk]
        cases hn : nameB a with
        | false =>
          rw [hn] at na
          simp [defF, startE, sRet, sExp, sIf, sSeq, sAsg, sFor, gN, gT, gC, gZ, eAn, eOr, eNo, eIf, eIsi, eV, eC, eB, eU, eCb, eCall, eSl, oN, oS, eTup, eLst, aN, aC, eLc, eCh, tAn, tOr', tNo, tB', tTr, tYs, iE, iZ, iR1, iR2, sNil, Oc.bind, Oc.thenS, Oc.of, Oc.on, tyD, leave_rt, truD, List.replicate, List.set, List.append_nil, List.nil_append, List.cons_append, wipeE, cond_true, cond_false, k_ii, k_ib, k_is, k_it, k_bi, k_bb, k_bs, k_bt, k_si, k_sb, k_ss, k_st, k_ti, k_tb, k_ts, k_tt, k_li, k_lb, k_ls, k_lt, k_ni, k_nb, k_ns, k_nt, lenD, neD_int, x0, x1, na]
        | true =>
          rw [hn] at na
          have ee := ext_ok (ρ := [y0, some (rf q), some (.tuple [a, .tuple ps])]) (i := 1) (fe := eB ixD (eV 2) (eC (.int 1))) (d := .tuple ps) (ys := ps) rfl s1 (by simp [eB, eV, eC, Oc.bind, Oc.of, x1]) rfl (by omega)
          have es : sExp (eExt (eV 1) (eB ixD (eV 2) (eC (.int 1)))) [y0, some (rf q), some (.tuple [a, .tuple ps])] w1 = .nx [y0, some (rf q), some (.tuple [a, .tuple ps])] (w1.set q (.lst (ds ++ ps))) := by
            simp only [sExp, ee, Oc.thenS]
          generalize sExp (eExt (eV 1) (eB ixD (eV 2) (eC (.int 1)))) = SX at es ⊢
          simp [defF, startE, sRet, sExp, sIf, sSeq, sAsg, sFor, gN, gT, gC, gZ, eAn, eOr, eNo, eIf, eIsi, eV, eC, eB, eU, eCb, eCall, eSl, oN, oS, eTup, eLst, aN, aC, eLc, eCh, tAn, tOr', tNo, tB', tTr, tYs, iE, iZ, iR1, iR2, sNil, Oc.bind, Oc.thenS, Oc.of, Oc.on, tyD, leave_rt, truD, List.replicate, List.set, List.append_nil, List.nil_append, List.cons_append, wipeE, cond_true, cond_false, k_ii, k_ib, k_is, k_it, k_bi, k_bb, k_bs, k_bt, k_si, k_sb, k_ss, k_st, k_ti, k_tb, k_ts, k_tt, k_li, k_lb, k_ls, k_lt, k_ni, k_nb, k_ns, k_nt, lenD, neD_int, x0, x1, na, es]
      | dict _ => simp [okD] at ob
      | _ => simp [defF, startE, sRet, sExp, sIf, sSeq, sAsg, sFor, gN, gT, gC, gZ, eAn, eOr, eNo, eIf, eIsi, eV, eC, eB, eU, eCb, eCall, eSl, oN, oS, eTup, eLst, aN, aC, eLc, eCh, tAn, tOr', tNo, tB', tTr, tYs, iE, iZ, iR1, iR2, sNil, Oc.bind, Oc.thenS, Oc.of, Oc.on, tyD, leave_rt, truD, List.replicate, List.set, List.append_nil, List.nil_append, List.cons_append, wipeE, cond_true, cond_false, k_ii, k_ib, k_is, k_it, k_bi, k_bb, k_bs, k_bt, k_si, k_sb, k_ss, k_st, k_ti, k_tb, k_ts, k_tt, k_li, k_lb, k_ls, k_lt, k_ni, k_nb, k_ns, k_nt, okL, lenD, neD_int, x0, x1]
  | dict _ => simp [okD] at ho
  | _ => simp [defF, startE, sRet, sExp, sIf, sSeq, sAsg, sFor, gN, gT, gC, gZ, eAn, eOr, eNo, eIf, eIsi, eV, eC, eB, eU, eCb, eCall, eSl, oN, oS, eTup, eLst, aN, aC, eLc, eCh, tAn, tOr', tNo, tB', tTr, tYs, iE, iZ, iR1, iR2, sNil, Oc.bind, Oc.thenS, Oc.of, Oc.on, tyD, leave_rt, truD, List.replicate, List.set, List.append_nil, List.nil_append, List.cons_append, wipeE, cond_true, cond_false, k_ii, k_ib, k_is, k_it, k_bi, k_bb, k_bs, k_bt, k_si, k_sb, k_ss, k_st, k_ti, k_tb, k_ts, k_tt, k_li, k_lb, k_ls, k_lt, k_ni, k_nb, k_ns, k_nt, okL]
theorem kids_ok {L : Nat} {d : PyData} (h : okD d = true) (hd : d.depth < 2 * (L + 1)) : wtA (kids d) < wt d ∧ ∀ x ∈ kids d, okD x = true ∧ x.depth < 2 * L := by
  unfold kids
  split
  · rename_i a ps
    refine ⟨by simp only [wt, wtA]; omega, fun x hx => ?_⟩
    have h1 : okDA [a, .tuple ps] = true := h
    have h2 : okD (.tuple ps) = true := okDA_iff.mp h1 _ (by simp)
    have h3 := depth_mem hx
    have h4 : (PyData.tuple [a, .tuple ps]).depth = 1 + max a.depth (max (1 + PyData.depthAll ps) 0) := by simp [PyData.depth, PyData.depthAll]; omega
    rw [h4] at hd
    exact ⟨okDA_iff.mp (show okDA ps = true from h2) x hx, by omega⟩
  · exact ⟨by have := wt_pos d; simp only [wtA]; omega, fun x hx => by cases hx⟩
theorem pile_ok {q L : Nat} (LB : FS) (hLB : ∀ {ds : List PyData} {d : PyData} {y0 x2 : Option PyData} {w : Ws}, w[q]? = some (.lst (ds ++ [d])) → okD d = true → wt d + ds.length ≤ 1000000 → LB [y0, some (rf q), x2] w = cond (okL d) (.nx [y0, some (rf q), some d] (w.set q (.lst (ds ++ kids d)))) (.rt (.bool false) (w.set q (.lst ds)))) : ∀ (n : Nat) (ds : List PyData) (x0 x2 : Option PyData) (w : Ws), wtA ds < n → wtA ds ≤ 900000 → w[q]? = some (.lst ds) → (∀ d ∈ ds, okD d = true ∧ d.depth < 2 * (L + 1)) →
    ∃ x2' w', w'.length = w.length ∧ (∀ j, j ≠ q → w'[j]? = w[j]?) ∧ whL (tB' (eB neL (eV 1) (eLst aN))) LB n [x0, some (rf q), x2] w = cond (ds.all (isPat (L + 1))) (.nx [x0, some (rf q), x2'] w') (.rt (.bool false) w')
  | 0, ds, _, _, _, h, _, _, _ => by omega
  | n + 1, ds, x0, x2, w, hn, hw9, hw, hd => by
    rw [wh_succ, ne_nil_ok (i := 1) rfl hw]
    simp only [Oc.thenS]
    rcases List.eq_nil_or_concat ds with rfl | ⟨ds, d, rfl⟩
    · refine ⟨x2, w, rfl, fun _ _ => rfl, ?_⟩
      simp only [List.isEmpty_nil, Bool.not_true, cond_false, List.all_nil, cond_true]
    · rw [List.concat_eq_append] at *
      have hne : (!(ds ++ [d]).isEmpty) = true := by simp
      rw [hne, cond_true]
      obtain ⟨ho, hdp⟩ := hd d (by simp)
      have hwa : wtA (ds ++ [d]) = wtA ds + (wt d + 0) := wtA_app ds [d]
      have hl := len_wtA ds
      rw [hLB hw ho (by omega)]
      have al : (ds ++ [d]).all (isPat (L + 1)) = (okL d && ((kids d).all (isPat L) && ds.all (isPat (L + 1)))) := by
        rw [List.all_append, List.all_cons, List.all_nil, Bool.and_true, isPat_kids L d, Bool.and_comm, Bool.and_assoc]
      rw [al]
      cases hk : okL d with
      | false =>
        refine ⟨x2, w.set q (.lst ds), by simp, fun j hj => List.getElem?_set_ne hj.symm, ?_⟩
        simp only [Bool.false_and, cond_false]
      | true =>
        simp only [cond_true, Bool.true_and]
        have kw : wtA (kids d) < wt d ∧ (∀ x ∈ kids d, okD x = true ∧ x.depth < 2 * L) := kids_ok ho hdp
        obtain ⟨x2', w', h1, h2, h3⟩ := pile_ok LB hLB n (ds ++ kids d) x0 (some d) (w.set q (.lst (ds ++ kids d))) (by rw [wtA_app]; omega) (by rw [wtA_app]; omega) (set_get hw _) fun x hx => by
          rcases List.mem_append.mp hx with hx | hx
          · exact hd x (List.mem_append_left _ hx)
          · have := kw.2 x hx; exact ⟨this.1, by omega⟩
        refine ⟨x2', w', by rw [h1, List.length_set], fun j hj => by rw [h2 j hj, List.getElem?_set_ne hj.symm], ?_⟩
        rw [h3]
        have e19 : (kids d).all (isPat (L + 1)) = (kids d).all (isPat L) := by
          have : ∀ (ps : List PyData), (∀ x ∈ ps, x.depth < 2 * L) → ps.all (isPat (L + 1)) = ps.all (isPat L) := fun ps => by
            induction ps with
            | nil => intro _; rfl
            | cons y ps ih => intro h; rw [List.all_cons, List.all_cons, isPat_succ L y (h y List.mem_cons_self), ih fun z hz => h z (List.mem_cons_of_mem _ hz)]
          exact this _ fun x hx => (kw.2 x hx).2
        rw [List.all_append, e19, Bool.and_comm]
end Tk

set_option Elab.async false
set_option linter.all false
set_option maxRecDepth 100000
set_option maxHeartbeats 4000000
namespace Tk
open PySem L2 Td Tg
theorem law_is_pattern_eq : b__law_is_pattern = sSeq (sAsg (eLstS (aC (eV 0) aN)) (gN 1)) (sSeq (sWh (tB' (eB neL (eV 1) (eLst aN))) lawBody) (sRet (eC (.bool true)))) := rfl
theorem app_of_frame {w w' : Ws} {ob : Ob} (hl : w'.length = w.length + 1) (h : ∀ j, j ≠ w.length → w'[j]? = (w ++ [ob])[j]?) : ∃ ob', w' = w ++ [ob'] := by
  obtain ⟨ob', e⟩ : ∃ ob', w'[w.length]? = some ob' := ⟨_, List.getElem?_eq_getElem (by omega)⟩
  refine ⟨ob', List.ext_getElem? fun j => ?_⟩
  by_cases hj : j = w.length
  · subst hj; rw [e]; simp
  · rw [h j hj]
    by_cases h2 : j < w.length
    · rw [List.getElem?_append_left h2, List.getElem?_append_left h2]
    · rw [List.getElem?_eq_none (by simp; omega), List.getElem?_eq_none (by simp; omega)]
theorem law_is_pattern_ok {w : Ws} {d : PyData} (hc : Cl w) (ho : okD d = true) (hd : d.depth < 24) (hw : wt d ≤ 100000) : F__law_is_pattern [d] w = .ok (.bool (isPat 12 d)) w := by
  show leave w.length (b__law_is_pattern [some d, none, none] w) = _
  rw [law_is_pattern_eq]
  rw [seq_nx (ρ1 := [some d, some (rf w.length), none]) (w1 := w ++ [.lst [d]]) (by
    simp only [sAsg, eLstS, aC, eV, aN, List.getElem?_cons_zero, Oc.bind, Oc.on, List.length_cons, List.length_nil, szOk_of (show 0 + 1 ≤ 10000000 by omega), cond_true, Oc.thenS, gN]; rfl)]
  obtain ⟨LB, hLB⟩ : ∃ LB, LB = lawBody := ⟨_, rfl⟩
  obtain ⟨N0, hN0⟩ : ∃ N0 : Nat, N0 = 1000000 := ⟨_, rfl⟩
  obtain ⟨x2', w', h1, h2, h3⟩ := pile_ok (q := w.length) (L := 11) LB (fun a b c => by rw [hLB]; exact law_step a b c) N0 [d] (some d) none (w ++ [.lst [d]]) (by simp only [wtA]; omega) (by simp only [wtA]; omega) (by simp) (fun x hx => by
    rw [List.mem_singleton] at hx; subst hx; exact ⟨ho, by omega⟩)
  have e : sWh (tB' (eB neL (eV 1) (eLst aN))) lawBody = whL (tB' (eB neL (eV 1) (eLst aN))) LB N0 := by rw [hLB, hN0]; rfl
  rw [e]
  obtain ⟨ob', rfl⟩ := app_of_frame (ob := .lst [d]) (by rw [h1]; simp) h2
  rw [List.all_cons, List.all_nil, Bool.and_true] at h3
  cases hp : isPat 12 d with
  | true =>
    have h3 := h3.trans (show cond (isPat (11 + 1) d) _ _ = _ by rw [show isPat (11 + 1) d = true from hp, cond_true])
    rw [seq_nx h3]
    show leave w.length (.rt (.bool true) (w ++ [ob'])) = _
    exact leave_trim hc rfl
  | false =>
    have h3 := h3.trans (show cond (isPat (11 + 1) d) _ _ = _ by rw [show isPat (11 + 1) d = false from hp, cond_false])
    rw [seq_rt h3]
    exact leave_trim hc rfl
end Tk

set_option Elab.async false
set_option linter.all false
set_option maxRecDepth 100000
set_option maxHeartbeats 4000000
namespace Tk
open PySem L2 Td Tg
/-! ### patterns -/
inductive Pat where
  | var (n : List Nat)
  | node (h : List Nat) (ps : List Pat)
mutual
def toD : Pat → PyData
  | .var n => .str (S (63 :: n))
  | .node h ps => .tuple [.str (S h), .tuple (toDs ps)]
def toDs : List Pat → List PyData
  | [] => []
  | p :: ps => toD p :: toDs ps
end
mutual
def ok : Pat → Bool
  | .var n => nmL n
  | .node h ps => nmL h && oks ps
def oks : List Pat → Bool
  | [] => true
  | p :: ps => ok p && oks ps
end
theorem toDs_map : ∀ ps : List Pat, toDs ps = ps.map toD
  | [] => rfl
  | _ :: ps => by simp [toDs, toDs_map ps]
/-! ### the nodes in order -/
mutual
def nds : List Nat → Pat → List (List Nat × Pat)
  | pl, .var n => [(pl, .var n)]
  | pl, .node h ps => (pl, .node h ps) :: ndsA pl 0 ps
def ndsA : List Nat → Nat → List Pat → List (List Nat × Pat)
  | _, _, [] => []
  | pl, i, p :: ps => nds (pl ++ [i]) p ++ ndsA pl (i + 1) ps
end
def plD (pl : List Nat) : PyData := .tuple (pl.map fun (i : Nat) => .int (i : Int))
def prD (x : List Nat × Pat) : PyData := .tuple [plD x.1, toD x.2]
def ndsS (st : List (List Nat × Pat)) : List (List Nat × Pat) := st.reverse.flatMap fun x => nds x.1 x.2
/-- the parts with their places, the last first -/
def kidR (pl : List Nat) (i : Nat) (ps : List Pat) : List (List Nat × Pat) := ((List.range' i ps.length).zip ps).reverse.map fun x => (pl ++ [x.1], x.2)
theorem ndsS_snoc (st : List (List Nat × Pat)) (x : List Nat × Pat) : ndsS (st ++ [x]) = nds x.1 x.2 ++ ndsS st := by
  simp [ndsS]
theorem kidR_cons (pl : List Nat) (i : Nat) (p : Pat) (ps : List Pat) : kidR pl i (p :: ps) = kidR pl (i + 1) ps ++ [(pl ++ [i], p)] := by
  simp [kidR, List.range'_succ]
theorem ndsS_kids (st : List (List Nat × Pat)) (pl : List Nat) : ∀ (ps : List Pat) (i : Nat), ndsS (st ++ kidR pl i ps) = ndsA pl i ps ++ ndsS st
  | [], i => by simp [kidR, ndsA]
  | p :: ps, i => by
    rw [kidR_cons, ← List.append_assoc, ndsS_snoc, ndsS_kids st pl ps (i + 1), ndsA, List.append_assoc]
end Tk

set_option Elab.async false
set_option linter.all false
set_option maxRecDepth 100000
set_option maxHeartbeats 4000000
namespace Tk
open PySem L2 Td Tg
theorem nm_len {n : List Nat} (h : nmL n = true) : 1 ≤ n.length ∧ n.length ≤ 8 ∧ ∀ c ∈ n, 97 ≤ c ∧ c ≤ 122 := by
  unfold nmL letL at h
  simp only [Bool.and_eq_true, decide_eq_true_eq, List.all_eq_true] at h
  exact ⟨h.1.1, h.1.2, h.2⟩
theorem asc_nm {n : List Nat} (h : nmL n = true) : ascS (S n) = true := by
  rw [asc_S, List.all_eq_true]
  intro c hc
  have := (nm_len h).2.2 c hc
  exact decide_eq_true (by omega)
theorem asc_var {n : List Nat} (h : nmL n = true) : ascS (S (63 :: n)) = true := by
  have := asc_nm h
  rw [asc_S] at this ⊢
  rw [List.all_cons, this]; rfl
mutual
theorem okD_toD : ∀ p : Pat, ok p = true → okD (toD p) = true
  | .var n, h => asc_var h
  | .node hd ps, h => by
    have h : (nmL hd && oks ps) = true := h
    rw [Bool.and_eq_true] at h
    show (okD (.str (S hd)) && (okD (.tuple (toDs ps)) && true)) = true
    rw [show okD (.str (S hd)) = true from asc_nm h.1, show okD (.tuple (toDs ps)) = true from okDA_toDs ps h.2]; rfl
theorem okDA_toDs : ∀ ps : List Pat, oks ps = true → okDA (toDs ps) = true
  | [], _ => rfl
  | p :: ps, h => by
    have h : (ok p && oks ps) = true := h
    rw [Bool.and_eq_true] at h
    show (okD (toD p) && okDA (toDs ps)) = true
    rw [okD_toD p h.1, okDA_toDs ps h.2]; rfl
end
def isV : Pat → Bool
  | .var _ => true
  | .node _ _ => false
theorem varB_toD {p : Pat} (h : ok p = true) : varB (toD p) = isV p := by
  cases p with
  | var n =>
    show varL (S (63 :: n)).cps.toList = true
    rw [S_cps]
    exact h
  | node hd ps => rfl
theorem isvar_ok {p : Pat} (w : Ws) (h : ok p = true) (hw : wt (toD p) ≤ 1000000) : F_is_variable [toD p] w = .ok (.bool (isV p)) w := by
  rw [is_variable_ok _ w (okD_toD p h) hw, varB_toD h]
/-! ### pushing the parts -/
def pushB : FS := sExp (eLm apL (eV 1) (aC (eTup (aC (eTup (aSt (eV 2) (aC (eV 4) aN))) (aC (eB ixD (eB ixD (eV 3) (eC (.int 1))) (eV 4)) aN))) aN))
theorem push_ok {x0 x4 : Option PyData} {pl : List Nat} {h : PyData} {ps : List Pat} {st : List PyData} {k : Nat} {p : Pat} (hk : ps[k]? = some p) (hl : st.length + 1 ≤ 1000000) (hpl : pl.length + 1 ≤ 1000000) :
    pushB [x0, some (rf 0), some (plD pl), some (.tuple [h, .tuple (toDs ps)]), some (.int (k : Int))] [.lst st] = .nx [x0, some (rf 0), some (plD pl), some (.tuple [h, .tuple (toDs ps)]), some (.int (k : Int))] [.lst (st ++ [prD (pl ++ [k], p)])] := by
  have a1 : ixD [.lst st] (.tuple [h, .tuple (toDs ps)]) (.int 1) = some (.tuple (toDs ps)) := rfl
  have a2 : ixD [.lst st] (.tuple (toDs ps)) (.int (k : Int)) = some (toD p) := by rw [ixD_tup]; exact Td.atI_nat (by rw [toDs_map, List.getElem?_map, hk]; rfl)
  have u := upd_at (w := [.lst st]) (q := 0) (k := fun xs => apL xs [.tuple [.tuple (pl.map (fun (i : Nat) => PyData.int (i : Int)) ++ [.int (k : Int)]), toD p]]) (d := .none) (ys := st ++ [.tuple [.tuple (pl.map (fun (i : Nat) => PyData.int (i : Int)) ++ [.int (k : Int)]), toD p]]) rfl (by simp only [apL]; rw [if_pos (by rw [sizeLine_eq]; omega)])
  have z1 : szOk (pl.map (fun (i : Nat) => PyData.int (i : Int)) ++ [PyData.int (k : Int)]).length = true := szOk_of (by simp; omega)
  have sq : seqOf [.lst st] (plD pl) = some (pl.map (fun (i : Nat) => PyData.int (i : Int))) := rfl
  have pd : prD (pl ++ [k], p) = .tuple [.tuple (pl.map (fun (i : Nat) => PyData.int (i : Int)) ++ [.int (k : Int)]), toD p] := by simp [prD, plD]
  rw [pd]
  have l0 : lstOf [.lst st] (rf 0) = some st := lst_at rfl
  simp only [pushB, sExp, eLm, eV, aC, aN, eTup, aSt, eB, eC, Oc.bind, Oc.of, Oc.thenS, Oc.on, List.getElem?_cons_zero, List.getElem?_cons_succ, sq, a1, a2, z1, sz2, u, l0, Option.isSome_some, cond_true, List.length_cons, List.length_nil, szOk_of (show 0 + 1 + 1 ≤ 10000000 by omega)]
  rfl
end Tk

set_option Elab.async false
set_option linter.all false
set_option maxRecDepth 100000
set_option maxHeartbeats 4000000
namespace Tk
open PySem L2 Td Tg
def dn (m : Nat) : List PyData := (List.range m).map fun i => .int ((m : Int) - 1 - (i : Nat))
theorem dn_succ (m : Nat) : dn (m + 1) = .int (m : Int) :: dn m := by
  unfold dn
  rw [List.range_succ_eq_map, List.map_cons, List.map_map]
  congr 1
  · congr 1; simp
  · refine List.map_congr_left fun i _ => ?_
    show PyData.int _ = PyData.int _
    congr 1
    simp
    omega
theorem kidR_take (pl : List Nat) {ps : List Pat} {m : Nat} {p : Pat} (h : ps[m]? = some p) : kidR pl 0 (ps.take (m + 1)) = (pl ++ [m], p) :: kidR pl 0 (ps.take m) := by
  have hm : m < ps.length := (List.getElem?_eq_some_iff.mp h).1
  unfold kidR
  have e1 : (ps.take (m + 1)).length = m + 1 := by rw [List.length_take]; omega
  have e2 : (ps.take m).length = m := by rw [List.length_take]; omega
  rw [e1, e2, List.take_add_one, h]
  have e3 : List.range' 0 (m + 1) = List.range' 0 m ++ [m] := by rw [List.range'_1_concat]; simp
  rw [e3, Option.toList_some, List.zip_append (by rw [List.length_range', e2])]
  simp
theorem push_all {x0 : Option PyData} {pl : List Nat} {h : PyData} {ps : List Pat} (hpl : pl.length + 1 ≤ 1000000) : ∀ (m : Nat) (st : List (List Nat × Pat)) (x4 : Option PyData), m ≤ ps.length → st.length + m ≤ 1000000 →
    ∃ x4', forL (gN 4) pushB (dn m) [x0, some (rf 0), some (plD pl), some (.tuple [h, .tuple (toDs ps)]), x4] [.lst (st.map prD)] = .nx [x0, some (rf 0), some (plD pl), some (.tuple [h, .tuple (toDs ps)]), x4'] [.lst ((st ++ kidR pl 0 (ps.take m)).map prD)]
  | 0, st, x4, _, _ => ⟨x4, by simp [dn, forL, kidR]⟩
  | m + 1, st, x4, hm, hl => by
    obtain ⟨p, hp⟩ : ∃ p, ps[m]? = some p := ⟨ps[m]'(by omega), List.getElem?_eq_getElem (by omega)⟩
    have s := push_ok (x0 := x0) (x4 := x4) (pl := pl) (h := h) (ps := ps) (st := st.map prD) hp (by rw [List.length_map]; omega) hpl
    obtain ⟨x4', ih⟩ := push_all (x0 := x0) (pl := pl) (h := h) (ps := ps) hpl m (st ++ [(pl ++ [m], p)]) (some (.int (m : Int))) (by omega) (by simp; omega)
    refine ⟨x4', ?_⟩
    rw [dn_succ, forL]
    have g4 : gN 4 (.int (m : Int)) [x0, some (rf 0), some (plD pl), some (.tuple [h, .tuple (toDs ps)]), x4] [.lst (st.map prD)] = .ok [x0, some (rf 0), some (plD pl), some (.tuple [h, .tuple (toDs ps)]), some (.int (m : Int))] [.lst (st.map prD)] := rfl
    rw [g4]
    simp only
    rw [s]
    simp only
    have e : st.map prD ++ [prD (pl ++ [m], p)] = (st ++ [(pl ++ [m], p)]).map prD := by simp
    rw [e, ih, kidR_take pl hp, List.append_assoc]
    rfl
end Tk

set_option Elab.async false
set_option linter.all false
set_option maxRecDepth 100000
set_option maxHeartbeats 4000000
namespace Tk
open PySem L2 Td Tg
/-! ### how many nodes -/
mutual
def nn : Pat → Nat
  | .var _ => 1
  | .node _ ps => 1 + nnA ps
def nnA : List Pat → Nat
  | [] => 0
  | p :: ps => nn p + nnA ps
end
mutual
theorem nds_len : ∀ (p : Pat) (pl : List Nat), (nds pl p).length = nn p
  | .var _, _ => rfl
  | .node h ps, pl => by simp only [nds, nn, List.length_cons, ndsA_len ps pl 0]; omega
theorem ndsA_len : ∀ (ps : List Pat) (pl : List Nat) (i : Nat), (ndsA pl i ps).length = nnA ps
  | [], _, _ => rfl
  | p :: ps, pl, i => by simp only [ndsA, nnA, List.length_append, nds_len p, ndsA_len ps]
end
theorem nn_pos (p : Pat) : 1 ≤ nn p := by cases p <;> simp [nn]
theorem len_nnA : ∀ ps : List Pat, ps.length ≤ nnA ps
  | [] => Nat.le_refl _
  | p :: ps => by have := len_nnA ps; have := nn_pos p; simp only [List.length_cons, nnA]; omega
theorem nnA_mem {p : Pat} : ∀ {ps : List Pat}, p ∈ ps → nn p ≤ nnA ps
  | q :: ps, h => by
    simp only [nnA]
    rcases List.mem_cons.mp h with h | h
    · subst h; omega
    · have := nnA_mem h; omega
theorem oks_mem {p : Pat} : ∀ {ps : List Pat}, oks ps = true → p ∈ ps → ok p = true
  | q :: ps, h, hm => by
    have h : (ok q && oks ps) = true := h
    rw [Bool.and_eq_true] at h
    rcases List.mem_cons.mp hm with rfl | hm
    · exact h.1
    · exact oks_mem h.2 hm
def kidsR : List Nat × Pat → List (List Nat × Pat)
  | (_, .var _) => []
  | (pl, .node _ ps) => kidR pl 0 ps
theorem ndsS_pop (st : List (List Nat × Pat)) (x : List Nat × Pat) : ndsS (st ++ [x]) = x :: ndsS (st ++ kidsR x) := by
  rw [ndsS_snoc]
  obtain ⟨pl, p⟩ := x
  cases p with
  | var n => simp [nds, kidsR]
  | node h ps => show nds pl (.node h ps) ++ _ = _ :: ndsS (st ++ kidR pl 0 ps); rw [ndsS_kids, nds]; rfl
/-- one entry of the pile -/
structure En (x : List Nat × Pat) : Prop where
  ok : ok x.2 = true
  wt : wt (toD x.2) ≤ 100000
  pl : x.1.length + nn x.2 ≤ 100000
theorem kidR_mem {pl : List Nat} {ps : List Pat} {x : List Nat × Pat} (h : x ∈ kidR pl 0 ps) : x.2 ∈ ps ∧ x.1.length = pl.length + 1 := by
  unfold kidR at h
  obtain ⟨y, hy, rfl⟩ := List.mem_map.mp h
  exact ⟨(List.of_mem_zip (List.mem_reverse.mp hy)).2, by simp⟩
theorem En.kids {x y : List Nat × Pat} (h : En x) (hy : y ∈ kidsR x) : En y := by
  obtain ⟨pl, p⟩ := x
  cases p with
  | var n => cases hy
  | node hd ps =>
    obtain ⟨h1, h2⟩ := kidR_mem (show y ∈ kidR pl 0 ps from hy)
    have o : (nmL hd && oks ps) = true := h.ok
    rw [Bool.and_eq_true] at o
    have w' : 1 + (Td.wt (.str (S hd)) + ((1 + wtA (toDs ps)) + 0)) ≤ 100000 := h.wt
    have q : pl.length + (1 + nnA ps) ≤ 100000 := h.pl
    refine ⟨oks_mem o.2 h1, ?_, ?_⟩
    · have : toD y.2 ∈ toDs ps := by rw [toDs_map]; exact List.mem_map_of_mem h1
      have := wtA_mem this
      omega
    · have := nnA_mem h1; omega
theorem bnd_prD {n : Nat} {x : List Nat × Pat} (h : ok x.2 = true) : bnd n (prD x) = true := by
  have b1 : bnd n (toD x.2) = true := bnd_okD _ (okD_toD _ h)
  have b2 : bnd n (plD x.1) = true := by
    show bndA n (x.1.map fun (i : Nat) => PyData.int (i : Int)) = true
    induction x.1 with
    | nil => rfl
    | cons a l ih => exact ih
  show (bnd n (plD x.1) && (bnd n (toD x.2) && true)) = true
  rw [b1, b2]; rfl
def genT : FT := tB' (eB gtD (eCb lenD (aC (eV 1) aN)) (eC (.int 0)))
def popB : FS := sAsg (eLm0 ppL (eV 1)) (gT 2 (gC (gN 2) (gC (gN 3) gZ)))
def restB : FS := sIf (tNo (tTr (eCall F_is_variable [] (aC (eV 3) aN)))) (sFor (iR3 (aC (eB subD (eCb lenD (aC (eB ixD (eV 3) (eC (.int 1))) aN)) (eC (.int 1))) (aC (eU negD (eC (.int 1))) (aC (eU negD (eC (.int 1))) aN)))) (gN 4) pushB) sNil
def genB : FGn := gSq (gPl popB) (gSq (gYd (eTup (aC (eV 2) (aC (eV 3) aN)))) (gSq (gPl restB) Tg.gNil))
theorem nodes_eq : b_nodes_in = gSq (gPl (sAsg (eLstS (aC (eTup (aC (eTup aN) (aC (eV 0) aN))) aN)) (gN 1))) (gSq (gWh genT genB) Tg.gNil) := rfl
theorem dn_eq (m : Nat) : dnD ((m : Int) - 1) (-1) = dn m := by
  unfold dnD dn
  rw [show ((m : Int) - 1 - -1).toNat = m by omega]
theorem restB_ok {x0 x4 : Option PyData} {st : List (List Nat × Pat)} {x : List Nat × Pat} (h : En x) (hl : st.length + nn x.2 ≤ 100000) :
    ∃ x4', restB [x0, some (rf 0), some (plD x.1), some (toD x.2), x4] [.lst (st.map prD)] = .nx [x0, some (rf 0), some (plD x.1), some (toD x.2), x4'] [.lst ((st ++ kidsR x).map prD)] := by
  obtain ⟨pl, p⟩ := x
  have hv := isvar_ok (p := p) [.lst (st.map prD)] h.ok (Nat.le_trans h.wt (by omega))
  cases p with
  | var n =>
    refine ⟨x4, ?_⟩
    simp only [restB, sIf, tNo, tTr, eCall, aC, aN, eV, Oc.bind, List.getElem?_cons_zero, List.getElem?_cons_succ, List.append_nil, hv, isV, Oc.of, truD, Bool.not_true, Oc.thenS, cond_false, sNil, kidsR]
  | node hd ps =>
    have q : pl.length + (1 + nnA ps) ≤ 100000 := h.pl
    have l1 : st.length + (1 + nnA ps) ≤ 100000 := hl
    have l2 := len_nnA ps
    obtain ⟨x4', e⟩ := push_all (x0 := x0) (pl := pl) (h := .str (S hd)) (ps := ps) (by omega) ps.length st x4 (Nat.le_refl _) (by omega)
    rw [List.take_length] at e
    refine ⟨x4', ?_⟩
    have hv' : F_is_variable [toD (.node hd ps)] [.lst (st.map prD)] = .ok (.bool false) [.lst (st.map prD)] := hv
    have c1 : c62 ((ps.length : Int) - 1) = true := c62_of (by omega)
    have c2 : c62 (-1) = true := c62_of (by omega)
    have tl : (toDs ps).length = ps.length := by rw [toDs_map, List.length_map]
    have ti : ixD [.lst (st.map prD)] (toD (.node hd ps)) (.int 1) = some (.tuple (toDs ps)) := rfl
    have e' : forL (gN 4) pushB (dnD ((ps.length : Int) - 1) (-1)) [x0, some (rf 0), some (plD pl), some (toD (.node hd ps)), x4] [.lst (st.map prD)] = .nx [x0, some (rf 0), some (plD pl), some (toD (.node hd ps)), x4'] [.lst ((st ++ kidsR (pl, .node hd ps)).map prD)] := by
      rw [dn_eq]; exact e
    generalize hX : toD (.node hd ps) = XX at *
    generalize hY : kidsR (pl, .node hd ps) = YY at *
    generalize hB : pushB = PB at *
    simp only [restB, hB, sIf, tNo, tTr, eCall, aC, aN, eV, Oc.bind, List.getElem?_cons_zero, List.getElem?_cons_succ, List.append_nil, hv', Oc.of, truD, Bool.not_false, Oc.thenS, cond_true, sFor, iR3, eB, eC, ti, eCb, lenD, subD, eU, negD, tl, c1, c2, Oc.on, Bool.and_self, Int.reduceNeg, decide_true, e']
theorem pop2_ok {x0 x2 x3 x4 : Option PyData} {st : List PyData} {a b : PyData} :
    popB [x0, some (rf 0), x2, x3, x4] [.lst (st ++ [.tuple [a, b]])] = .nx [x0, some (rf 0), some a, some b, x4] [.lst st] := by
  have p := pop_ok (w := [.lst (st ++ [.tuple [a, b]])]) (q := 0) (ds := st) (d := .tuple [a, b]) (ρ := [x0, some (rf 0), x2, x3, x4]) (i := 1) rfl rfl
  simp only [popB, sAsg, p, Oc.thenS, gT, gC, gZ, gN]
  rfl
theorem genB_ok {x0 x2 x3 x4 : Option PyData} {st : List (List Nat × Pat)} {x : List Nat × Pat} {ys : List PyData} (h : En x) (hl : st.length + nn x.2 ≤ 100000) :
    ∃ x4', genB [x0, some (rf 0), x2, x3, x4] [.lst ((st ++ [x]).map prD)] ys = .nx [x0, some (rf 0), some (plD x.1), some (toD x.2), x4'] [.lst ((st ++ kidsR x).map prD)] (ys ++ [prD x]) := by
  obtain ⟨x4', e⟩ := restB_ok (x0 := x0) (x4 := x4) h hl
  refine ⟨x4', ?_⟩
  have b := bnd_prD (n := 0) h.ok
  have p := pop2_ok (x0 := x0) (x2 := x2) (x3 := x3) (x4 := x4) (st := st.map prD) (a := plD x.1) (b := toD x.2)
  have e1 : (st ++ [x]).map prD = st.map prD ++ [.tuple [plD x.1, toD x.2]] := by rw [List.map_append]; rfl
  have b' : bnd 0 (.tuple [plD x.1, toD x.2]) = true := b
  rw [e1]
  have f2 : (eTup (aC (eV 2) (aC (eV 3) aN))) [x0, some (rf 0), some (plD x.1), some (toD x.2), x4] [.lst (st.map prD)] = .ok (.tuple [plD x.1, toD x.2]) [.lst (st.map prD)] := by
    simp only [eTup, aC, aN, eV, Oc.bind, List.getElem?_cons_zero, List.getElem?_cons_succ, List.length_cons, List.length_nil, Nat.zero_add, Nat.reduceAdd, sz2, Oc.on, cond_true]
  generalize hP : popB = PB at *
  generalize hR : restB = RB at *
  have f1 : plainOb (.lst (st.map prD)) = true := rfl
  simp only [genB, hP, hR, gSq, gPl, p, gYd, f2, b', List.all_cons, List.all_nil, f1, Bool.and_self, cond_true, e, Tg.gNil]
  rfl
theorem genT_ok {x0 x2 x3 x4 : Option PyData} {st : List PyData} : genT [x0, some (rf 0), x2, x3, x4] [.lst st] = .ok (decide (0 < st.length)) [.lst st] := by
  have l0 : lstOf [.lst st] (rf 0) = some st := lst_at rfl
  simp only [genT, tB', eB, eCb, aC, aN, eV, eC, Oc.bind, List.getElem?_cons_zero, List.getElem?_cons_succ, lenD, l0, Option.map_some, Oc.of, gtD, cmpD]
  congr 1
  simp
theorem gen_loop (GB : FGn) (GT : FT) (hB : ∀ {x0 x2 x3 x4 : Option PyData} {st : List (List Nat × Pat)} {x : List Nat × Pat} {ys : List PyData}, En x → st.length + nn x.2 ≤ 100000 →
    ∃ x4', GB [x0, some (rf 0), x2, x3, x4] [.lst ((st ++ [x]).map prD)] ys = .nx [x0, some (rf 0), some (plD x.1), some (toD x.2), x4'] [.lst ((st ++ kidsR x).map prD)] (ys ++ [prD x]))
    (hT : ∀ {x0 x2 x3 x4 : Option PyData} {st : List PyData}, GT [x0, some (rf 0), x2, x3, x4] [.lst st] = .ok (decide (0 < st.length)) [.lst st]) :
    ∀ (n : Nat) (st : List (List Nat × Pat)) (x0 x2 x3 x4 : Option PyData) (ys : List PyData), (ndsS st).length < n → (ndsS st).length ≤ 100000 → (∀ x ∈ st, En x) →
    ∃ ρ', gWl GT GB n [x0, some (rf 0), x2, x3, x4] [.lst (st.map prD)] ys = .nx ρ' [.lst []] (ys ++ (ndsS st).map prD)
  | 0, _, _, _, _, _, _, h, _, _ => by omega
  | n + 1, st, x0, x2, x3, x4, ys, hn, h5, he => by
    rcases List.eq_nil_or_concat st with rfl | ⟨st, x, rfl⟩
    · refine ⟨[x0, some (rf 0), x2, x3, x4], ?_⟩
      simp only [gWl, List.map_nil, hT, List.length_nil, ndsS, List.reverse_nil, List.flatMap_nil, List.append_nil]
      rfl
    · rw [List.concat_eq_append] at *
      have ex := he x (by simp)
      have ln : (ndsS (st ++ [x])).length = nn x.2 + (ndsS st).length := by rw [ndsS_snoc, List.length_append, nds_len]
      have ls : st.length ≤ (ndsS st).length := by
        have : ∀ l : List (List Nat × Pat), l.length ≤ (l.flatMap fun x => nds x.1 x.2).length := fun l => by
          induction l with
          | nil => exact Nat.le_refl _
          | cons a l ih => rw [List.flatMap_cons, List.length_append, nds_len, List.length_cons]; have := nn_pos a.2; omega
        have := this st.reverse
        rwa [List.length_reverse] at this
      obtain ⟨x4', e⟩ := hB (x0 := x0) (x2 := x2) (x3 := x3) (x4 := x4) (st := st) (ys := ys) ex (by omega)
      have pp := ndsS_pop st x
      rw [pp] at hn h5 ⊢
      rw [List.length_cons] at hn h5
      obtain ⟨ρ', ih⟩ := gen_loop GB GT hB hT n (st ++ kidsR x) x0 (some (plD x.1)) (some (toD x.2)) x4' (ys ++ [prD x]) (by omega) (by omega) fun y hy => by
        rcases List.mem_append.mp hy with hy | hy
        · exact he y (List.mem_append_left _ hy)
        · exact ex.kids hy
      refine ⟨ρ', ?_⟩
      have tt : GT [x0, some (rf 0), x2, x3, x4] [.lst ((st ++ [x]).map prD)] = .ok true [.lst ((st ++ [x]).map prD)] := by rw [hT, decide_eq_true (by simp)]
      simp only [gWl, tt, cond_true, e, ih, List.map_cons, List.append_assoc, List.singleton_append]
theorem nodes_ok {p : Pat} (h1 : ok p = true) (h2 : wt (toD p) ≤ 100000) (h3 : nn p ≤ 100000) : F_nodes_in [toD p] = some ((nds [] p).map prD) := by
  have b1 : bndA 0 [toD p] = true := by show (bnd 0 (toD p) && true) = true; rw [bnd_okD _ (okD_toD _ h1)]; rfl
  have st1 : sAsg (eLstS (aC (eTup (aC (eTup aN) (aC (eV 0) aN))) aN)) (gN 1) [some (toD p), none, none, none, none] [] = .nx [some (toD p), some (rf 0), none, none, none] [.lst [.tuple [.tuple [], toD p]]] := by
    simp only [sAsg, eLstS, aC, eTup, aN, eV, Oc.bind, List.getElem?_cons_zero, List.length_nil, List.length_cons, Nat.zero_add, Nat.reduceAdd, sz0, sz2, szOk_of (show 1 ≤ 10000000 by omega), Oc.on, cond_true, Oc.thenS, gN]
    rfl
  obtain ⟨GB, hGB⟩ : ∃ GB, GB = genB := ⟨_, rfl⟩
  obtain ⟨GT, hGT⟩ : ∃ GT, GT = genT := ⟨_, rfl⟩
  obtain ⟨N0, hN0⟩ : ∃ N0 : Nat, N0 = 1000000 := ⟨_, rfl⟩
  have e1 : ndsS [([], p)] = nds [] p := by simp [ndsS]
  obtain ⟨ρ', e⟩ := gen_loop GB GT (by rw [hGB]; exact genB_ok) (by rw [hGT]; exact genT_ok) N0 [([], p)] (some (toD p)) none none none [] (by rw [e1, nds_len]; omega) (by rw [e1, nds_len]; omega) (fun x hx => by
    rw [List.mem_singleton] at hx; subst hx; exact ⟨h1, h2, by show 0 + nn p ≤ 100000; omega⟩)
  rw [e1, List.nil_append] at e
  have e2 : b_nodes_in [some (toD p), none, none, none, none] [] [] = .nx ρ' [.lst []] ((nds [] p).map prD) := by
    rw [nodes_eq, ← hGB, ← hGT]
    have gw : gWh GT GB = gWl GT GB N0 := by rw [hN0]; rfl
    rw [gw]
    have e' : gWl GT GB N0 [some (toD p), some (rf 0), none, none, none] [.lst [.tuple [.tuple [], toD p]]] [] = .nx ρ' [.lst []] ((nds [] p).map prD) := e
    simp only [gSq, gPl, st1, e', Tg.gNil]
  unfold F_nodes_in genF
  rw [if_pos ⟨rfl, b1⟩]
  show (match b_nodes_in [some (toD p), none, none, none, none] [] [] with | .nx _ w ys => cond (w.all plainOb) (some ys) none | _ => none) = _
  rw [e2]
  rfl
end Tk

set_option Elab.async false
set_option linter.all false
set_option maxRecDepth 100000
set_option maxHeartbeats 4000000
namespace Tk
open PySem L2 Td Tg
/-! ### the variables with their places -/
def vOf : List Nat × Pat → Option (Str × PyData)
  | (pl, .var n) => some (S (63 :: n), plD pl)
  | _ => none
def vv (xs : List (List Nat × Pat)) : List (Str × PyData) := xs.filterMap vOf
def oo (xs : List (List Nat × Pat)) : List (List Nat × Pat) := xs.filter fun x => !isV x.2
def keys (L : List (Str × PyData)) : List Str := ddS (L.map (·.1))
def plc (L : List (Str × PyData)) (k : Str) : List PyData := (L.filter fun x => decide (x.1 = k)).map (·.2)
mutual
theorem nds_En : ∀ (p : Pat) (pl : List Nat), En (pl, p) → ∀ x ∈ nds pl p, En x
  | .var n, pl, h, x, hx => by
    have : x = (pl, .var n) := by simpa [nds] using hx
    subst this; exact h
  | .node hd ps, pl, h, x, hx => by
    simp only [nds, List.mem_cons] at hx
    rcases hx with rfl | hx
    · exact h
    · exact ndsA_En ps pl 0 (fun p i hp => by
        have o : (nmL hd && oks ps) = true := h.ok
        rw [Bool.and_eq_true] at o
        have w' : 1 + (Td.wt (.str (S hd)) + ((1 + wtA (toDs ps)) + 0)) ≤ 100000 := h.wt
        have q : pl.length + (1 + nnA ps) ≤ 100000 := h.pl
        refine ⟨oks_mem o.2 hp, ?_, ?_⟩
        · have : toD p ∈ toDs ps := by rw [toDs_map]; exact List.mem_map_of_mem hp
          have := wtA_mem this
          show wt (toD p) ≤ 100000
          omega
        · have := nnA_mem hp; show (pl ++ [i]).length + nn p ≤ 100000; simp; omega) x hx
theorem ndsA_En : ∀ (ps : List Pat) (pl : List Nat) (i : Nat), (∀ p i, p ∈ ps → En (pl ++ [i], p)) → ∀ x ∈ ndsA pl i ps, En x
  | [], _, _, _, x, hx => by cases hx
  | p :: ps, pl, i, h, x, hx => by
    simp only [ndsA, List.mem_append] at hx
    rcases hx with hx | hx
    · exact nds_En p _ (h p i List.mem_cons_self) x hx
    · exact ndsA_En ps pl (i + 1) (fun q j hq => h q j (List.mem_cons_of_mem _ hq)) x hx
end
structure Sml (p : Pat) : Prop where
  ok : ok p = true
  nn : nn p ≤ 20
  wt : wt (toD p) ≤ 2000
  dp : (toD p).depth ≤ 20
theorem Sml.en {p : Pat} (h : Sml p) : ∀ x ∈ nds [] p, En x := nds_En p [] ⟨h.ok, Nat.le_trans h.wt (by omega), by have := h.nn; show 0 + Tk.nn p ≤ 100000; omega⟩
theorem Sml.nodes {p : Pat} (h : Sml p) : F_nodes_in [toD p] = some ((nds [] p).map prD) := nodes_ok h.ok (Nat.le_trans h.wt (by omega)) (Nat.le_trans h.nn (by omega))
def tv : PyData → Bool
  | .tuple [_, v] => varB v
  | _ => false
def t1 : PyData → PyData
  | .tuple [a, _] => a
  | _ => .none
def t2 : PyData → PyData
  | .tuple [_, v] => v
  | _ => .none
theorem strsD_strs : ∀ xs : List Str, strsD (xs.map .str) = some xs
  | [] => rfl
  | x :: xs => by simp [strsD, strsD_strs xs]
theorem tv_map (w : Ws) : ∀ (xs : List (List Nat × Pat)), (∀ x ∈ xs, En x) → ((xs.map prD).filter tv).map t2 = ((vv xs).map (·.1)).map .str
  | [], _ => rfl
  | x :: xs, h => by
    have ih := tv_map w xs fun y hy => h y (List.mem_cons_of_mem _ hy)
    have hx := varB_toD (h x List.mem_cons_self).ok
    obtain ⟨pl, p⟩ := x
    have e : tv (prD (pl, p)) = isV p := hx
    rw [List.map_cons, List.filter_cons, e]
    cases p with
    | var n => simp only [isV, if_true, List.map_cons, ih, vv, List.filterMap_cons, vOf]; rfl
    | node hd ps => simp only [isV, vv, List.filterMap_cons, vOf]; exact ih
theorem tv_own (w : Ws) : ∀ (xs : List (List Nat × Pat)), (∀ x ∈ xs, En x) → ((xs.map prD).filter fun d => !tv d).map t1 = (oo xs).map fun x => plD x.1
  | [], _ => rfl
  | x :: xs, h => by
    have ih := tv_own w xs fun y hy => h y (List.mem_cons_of_mem _ hy)
    have hx := varB_toD (h x List.mem_cons_self).ok
    obtain ⟨pl, p⟩ := x
    have e : tv (prD (pl, p)) = isV p := hx
    rw [List.map_cons, List.filter_cons, e]
    cases p with
    | var n => simp only [isV, oo, List.filter_cons]; exact ih
    | node hd ps => simp only [isV, oo, List.filter_cons, Bool.not_false, if_true, List.map_cons, ih]; rfl
theorem vv_len (xs : List (List Nat × Pat)) : (vv xs).length ≤ xs.length := List.length_filterMap_le ..
theorem iGen_ok {p : Pat} (h : Sml p) {ρ : Ev} {w : Ws} (h0 : ρ[0]? = some (some (toD p))) : iGen F_nodes_in (aC (eV 0) aN) ρ w = .ok ((nds [] p).map prD) w := by
  simp only [iGen, aC, aN, eV, h0, Oc.bind, h.nodes]
theorem variables_ok {p : Pat} (h : Sml p) (w : Ws) : F_variables_of [toD p] w = .ok (.tuple ((srtS (keys (vv (nds [] p)))).map .str)) w := by
  have en := h.en
  have ln := nds_len p []
  have hn := h.nn
  have lc := lcL_pure (gt := gT 2 (gC (gN 1) (gC (gN 2) gZ))) (tt := tTr (eCall F_is_variable [] (aC (eV 2) aN))) (fe := eV 2) (ρ := [some (toD p), none, none]) (w := w) tv t2 ((nds [] p).map prD) [] (by rw [List.length_map, sizeLine_eq, List.length_nil]; omega) fun d hd => by
    obtain ⟨x, hx, rfl⟩ := List.mem_map.mp hd
    have ex := en x hx
    have iv := isvar_ok w ex.ok (Nat.le_trans ex.wt (by omega))
    have tvx : tv (prD x) = isV x.2 := varB_toD ex.ok
    refine ⟨[some (toD p), some (plD x.1), some (toD x.2)], rfl, ?_, fun _ => rfl⟩
    rw [tvx]
    simp only [tTr, eCall, aC, aN, eV, Oc.bind, List.getElem?_cons_zero, List.getElem?_cons_succ, List.append_nil, iv, Oc.of, truD]
  rw [List.nil_append, tv_map w _ en] at lc
  have vl := vv_len (nds [] p)
  have ig := iGen_ok h (ρ := [some (toD p), none, none]) (w := w) rfl
  have b : b_variables_of [some (toD p), none, none] w = .rt (.tuple ((srtS (keys (vv (nds [] p)))).map .str)) w := by
    have dl : decide (((vv (nds [] p)).map (·.1)).length + 1 < scanBound) = true := decide_eq_true (by rw [List.length_map]; show _ < 4096; omega)
    simp only [b_variables_of, sRet, eCb, aC, aN, eSsc, wipeE, List.set_cons_zero, List.set_cons_succ]
    rw [ig]
    simp only [Oc.bind, List.set_cons_zero, List.set_cons_succ, List.set_nil]
    rw [lc]
    simp only [strsD_strs, dl, if_true, Oc.bind, tupleD, lstOf_list, Option.map_some, Oc.of, Oc.thenS]
    rfl
  show leave w.length (b_variables_of [some (toD p), none, none] w) = _
  rw [b]
  exact leave_w
theorem own_ok {p : Pat} (h : Sml p) (w : Ws) : F_own_places [toD p] w = .ok (.tuple ((oo (nds [] p)).map fun x => plD x.1)) w := by
  have en := h.en
  have ln := nds_len p []
  have hn := h.nn
  have lc := lcL_pure (gt := gT 2 (gC (gN 1) (gC (gN 2) gZ))) (tt := tNo (tTr (eCall F_is_variable [] (aC (eV 2) aN)))) (fe := eV 1) (ρ := [some (toD p), none, none]) (w := w) (fun d => !tv d) t1 ((nds [] p).map prD) [] (by rw [List.length_map, sizeLine_eq, List.length_nil]; omega) fun d hd => by
    obtain ⟨x, hx, rfl⟩ := List.mem_map.mp hd
    have ex := en x hx
    have iv := isvar_ok w ex.ok (Nat.le_trans ex.wt (by omega))
    have tvx : tv (prD x) = isV x.2 := varB_toD ex.ok
    refine ⟨[some (toD p), some (plD x.1), some (toD x.2)], rfl, ?_, fun _ => rfl⟩
    rw [tvx]
    simp only [tNo, tTr, eCall, aC, aN, eV, Oc.bind, List.getElem?_cons_zero, List.getElem?_cons_succ, List.append_nil, iv, Oc.of, truD]
  rw [List.nil_append, tv_own w _ en] at lc
  have ig := iGen_ok h (ρ := [some (toD p), none, none]) (w := w) rfl
  have b : b_own_places [some (toD p), none, none] w = .rt (.tuple ((oo (nds [] p)).map fun x => plD x.1)) w := by
    simp only [b_own_places, sRet, eCb, aC, aN, eLc, wipeE, List.set_cons_zero, List.set_cons_succ]
    rw [ig]
    simp only [Oc.bind, List.set_cons_zero, List.set_cons_succ, List.set_nil]
    rw [lc]
    simp only [Oc.bind, tupleD, lstOf_list, Option.map_some, Oc.of, Oc.thenS]
  show leave w.length (b_own_places [some (toD p), none, none] w) = _
  rw [b]
  exact leave_w
end Tk

set_option Elab.async false
set_option linter.all false
set_option maxRecDepth 100000
set_option maxHeartbeats 4000000
namespace Tk
open PySem L2 Td Tg
/-! ### dicts by key -/
theorem valD_put {kvs : List (Key × PyData)} {k k' : Key} {v : PyData} : valD (putD kvs k v) k' = if k' = k then some v else valD kvs k' := by
  unfold putD valD
  split
  · rename_i ha
    rw [List.find?_map]
    have e : ((fun kv : Key × PyData => decide (kv.1 = k')) ∘ fun kv => if kv.1 = k then (kv.1, v) else kv) = fun kv : Key × PyData => decide (kv.1 = k') := by
      funext x; simp only [Function.comp]; split <;> rfl
    rw [e]
    cases hf : kvs.find? fun kv => decide (kv.1 = k') with
    | none =>
      by_cases h : k' = k
      · subst h
        rw [List.find?_eq_none] at hf
        rw [List.any_eq_true] at ha
        obtain ⟨x, hx, hx2⟩ := ha
        exact absurd hx2 (hf x hx)
      · simp [h]
    | some x =>
      have hx : x.1 = k' := by have := List.find?_some hf; exact of_decide_eq_true this
      by_cases h : k' = k
      · subst h; simp [hx]
      · have h2 : ¬ x.1 = k := by rw [hx]; exact h
        simp [h, h2]
  · rename_i ha
    rw [List.find?_append]
    by_cases h : k' = k
    · subst h
      have : kvs.find? (fun kv => decide (kv.1 = k')) = none := by
        rw [List.find?_eq_none]
        intro x hx hx2
        exact ha (List.any_eq_true.mpr ⟨x, hx, hx2⟩)
      rw [this]; simp
    · have h2 : ¬ k = k' := fun e => h e.symm
      simp [h, h2]
theorem any_key {kvs : List (Key × PyData)} {ks : List Str} {k : Str} (h : kvs.map (·.1) = ks.map Sum.inr) : (kvs.any fun kv => decide (kv.1 = .inr k)) = decide (k ∈ ks) := by
  have e : (kvs.any fun kv => decide (kv.1 = .inr k)) = (kvs.map (·.1)).any fun x => decide (x = .inr k) := by rw [List.any_map]; rfl
  rw [e, h, List.any_map, Bool.eq_iff_iff, List.any_eq_true, decide_eq_true_eq]
  constructor
  · rintro ⟨x, hx, e⟩
    have := of_decide_eq_true e
    simp at this
    exact this ▸ hx
  · intro hk
    exact ⟨k, hk, decide_eq_true rfl⟩
theorem put_keys {kvs : List (Key × PyData)} {ks : List Str} {k : Str} {v : PyData} (h : kvs.map (·.1) = ks.map Sum.inr) : (putD kvs (.inr k) v).map (·.1) = (addS ks k).map Sum.inr := by
  unfold putD addS
  rw [any_key h]
  by_cases hk : k ∈ ks
  · rw [decide_eq_true hk]
    simp only [if_true, cond_true, List.map_map]
    rw [← h]
    refine List.map_congr_left fun x _ => ?_
    simp only [Function.comp]
    split <;> rfl
  · rw [decide_eq_false hk]
    simp [h]
theorem valD_none {kvs : List (Key × PyData)} {ks : List Str} {k : Str} (h : kvs.map (·.1) = ks.map Sum.inr) (hk : k ∉ ks) : valD kvs (.inr k) = none := by
  have := any_key (k := k) h
  rw [decide_eq_false hk] at this
  unfold valD
  have e : kvs.find? (fun kv => decide (kv.1 = .inr k)) = none := by
    rw [List.find?_eq_none]
    intro x hx hx2
    have t : (kvs.any fun kv => decide (kv.1 = Sum.inr k)) = true := List.any_eq_true.mpr ⟨x, hx, hx2⟩
    rw [this] at t; cases t
  rw [e]; rfl
theorem txtK_keys : ∀ {kvs : List (Key × PyData)} {ks : List Str}, kvs.map (·.1) = ks.map Sum.inr → txtK kvs = some ks
  | [], [], _ => rfl
  | [], _ :: _, h => by simp at h
  | _ :: _, [], h => by simp at h
  | (x, d) :: kvs, k :: ks, h => by
    simp only [List.map_cons, List.cons.injEq] at h
    obtain ⟨rfl, h⟩ := h
    simp only [txtK, txtK_keys h, Option.map_some]
theorem addS_mem {L : List Str} {x y : Str} : y ∈ addS L x ↔ y ∈ L ∨ y = x := by
  unfold addS
  by_cases h : x ∈ L
  · rw [decide_eq_true h, cond_true]
    exact ⟨.inl, fun q => q.elim id fun e => e ▸ h⟩
  · rw [decide_eq_false h, cond_false, List.mem_append, List.mem_singleton]
theorem ddS_mem {xs : List Str} {y : Str} : y ∈ ddS xs ↔ y ∈ xs := by
  have : ∀ (xs acc : List Str), y ∈ xs.foldl addS acc ↔ y ∈ acc ∨ y ∈ xs := fun xs => by
    induction xs with
    | nil => intro acc; simp
    | cons x xs ih => intro acc; rw [List.foldl_cons, ih, addS_mem, List.mem_cons, or_assoc]
  simpa [ddS] using this xs []
theorem ddS_snoc (xs : List Str) (x : Str) : ddS (xs ++ [x]) = addS (ddS xs) x := by simp [ddS, List.foldl_append]
theorem addS_len (L : List Str) (x : Str) : (addS L x).length ≤ L.length + 1 := by
  unfold addS
  cases decide (x ∈ L) <;> simp
theorem ddS_len (xs : List Str) : (ddS xs).length ≤ xs.length := by
  have : ∀ (xs acc : List Str), (xs.foldl addS acc).length ≤ acc.length + xs.length := fun xs => by
    induction xs with
    | nil => intro acc; simp
    | cons x xs ih => intro acc; rw [List.foldl_cons]; have := ih (addS acc x); have := addS_len acc x; simp only [List.length_cons]; omega
  simpa [ddS] using this xs []
theorem putS_mem {x y : Str} : ∀ {l : List Str}, y ∈ putS x l ↔ y = x ∨ y ∈ l
  | [] => by simp [putS]
  | z :: l => by
    unfold putS
    cases leS x z
    · simp only [cond_false, List.mem_cons, putS_mem (l := l)]
      constructor
      · rintro (h | h | h) <;> simp [h]
      · rintro (h | h | h) <;> simp [h]
    · simp only [cond_true, List.mem_cons]
theorem srtS_mem {y : Str} : ∀ {xs : List Str}, y ∈ srtS xs ↔ y ∈ xs
  | [] => Iff.rfl
  | x :: xs => by
    show y ∈ putS x (srtS xs) ↔ _
    rw [putS_mem, srtS_mem (xs := xs), List.mem_cons]
theorem putS_len (x : Str) : ∀ l : List Str, (putS x l).length = l.length + 1
  | [] => rfl
  | z :: l => by
    unfold putS
    cases leS x z
    · simp only [cond_false, List.length_cons, putS_len x l]
    · rfl
theorem srtS_len : ∀ xs : List Str, (srtS xs).length = xs.length
  | [] => rfl
  | x :: xs => by show (putS x (srtS xs)).length = _; rw [putS_len, srtS_len xs]; rfl
theorem keys_snoc (L : List (Str × PyData)) (x : Str × PyData) : keys (L ++ [x]) = addS (keys L) x.1 := by
  unfold keys; rw [List.map_append]; exact ddS_snoc _ _
theorem keys_len (L : List (Str × PyData)) : (keys L).length ≤ L.length := by
  have := ddS_len (L.map (·.1)); rwa [List.length_map] at this
theorem plc_snoc (L : List (Str × PyData)) (v : Str) (d : PyData) (k : Str) : plc (L ++ [(v, d)]) k = if k = v then plc L k ++ [d] else plc L k := by
  unfold plc
  rw [List.filter_append, List.map_append]
  by_cases h : k = v
  · subst h; simp
  · have : ¬ v = k := fun e => h e.symm
    simp [h, this]
theorem plc_none {L : List (Str × PyData)} {k : Str} (h : k ∉ keys L) : plc L k = [] := by
  unfold plc
  have : L.filter (fun x => decide (x.1 = k)) = [] := by
    rw [List.filter_eq_nil_iff]
    intro x hx e
    refine h (ddS_mem.mpr ?_)
    exact of_decide_eq_true e ▸ List.mem_map_of_mem hx
  rw [this]; rfl
end Tk

set_option Elab.async false
set_option linter.all false
set_option maxRecDepth 100000
set_option maxHeartbeats 4000000
namespace Tk
open PySem L2 Td Tg
structure Vp (w : Ws) (L : List (Str × PyData)) (kvs : List (Key × PyData)) (w' : Ws) : Prop where
  len : w.length < w'.length
  pre : ∀ j, j < w.length → w'[j]? = w[j]?
  dk : w'[w.length]? = some (.dK kvs)
  ks : kvs.map (·.1) = (keys L).map Sum.inr
  at_ : ∀ k ∈ keys L, ∃ l, valD kvs (.inr k) = some (rf l) ∧ w.length < l ∧ w'[l]? = some (.lst (plc L k))
  inj : ∀ k k' l, valD kvs (.inr k) = some (rf l) → valD kvs (.inr k') = some (rf l) → k = k'
theorem dk_at {w : Ws} {q : Nat} {kvs : List (Key × PyData)} (h : w[q]? = some (.dK kvs)) : dkOf w (rf q) = some kvs := by simp [dkOf, h]
theorem loc_rf (q : Nat) : locOf (rf q) = some q := by simp [locOf]
theorem rf_inj {a b : Nat} (h : rf a = rf b) : a = b := by
  have h : (a : Int) = (b : Int) := by simpa using h
  omega
def addB : FE := eLm apL (eSd (eV 1) (eV 3) (eLstS aN)) (aC (eV 2) aN)
theorem kvs_len {w w' : Ws} {L : List (Str × PyData)} {kvs : List (Key × PyData)} (h : Vp w L kvs w') : kvs.length ≤ L.length := by
  have := congrArg List.length h.ks
  rw [List.length_map, List.length_map] at this
  rw [this]; exact keys_len L
theorem getElem?_snoc_lt {α : Type} {w : List α} {x : α} {j : Nat} {y : α} (h : w[j]? = some y) : (w ++ [x])[j]? = some y := by
  rw [List.getElem?_append_left (List.getElem?_eq_some_iff.mp h).1]; exact h
theorem addB_ok {w w' : Ws} {L : List (Str × PyData)} {kvs : List (Key × PyData)} {v : Str} {pl : PyData} {x0 x4 : Option PyData} (h : Vp w L kvs w') (hL : L.length ≤ 1000) :
    ∃ kvs' w'', addB [x0, some (rf w.length), some pl, some (.str v), x4] w' = .ok .none w'' ∧ Vp w (L ++ [(v, pl)]) kvs' w'' := by
  have kl := kvs_len h
  have hk : decide (kvs.length < sizeLine) = true := decide_eq_true (by rw [sizeLine_eq]; omega)
  have d1 := dk_at h.dk
  have d2 : dkOf (w' ++ [Ob.lst []]) (rf w.length) = some kvs := dk_at (getElem?_snoc_lt h.dk)
  have sd : ∀ (o : PyData) (w2 : Ws), (match valD kvs (.inr v) with | some y => Oc.ok y (w' ++ [Ob.lst []]) | none => .ok (rf w'.length) ((w' ++ [Ob.lst []]).set w.length (.dK (putD kvs (.inr v) (rf w'.length))))) = .ok o w2 →
      eSd (eV 1) (eV 3) (eLstS aN) [x0, some (rf w.length), some pl, some (.str v), x4] w' = .ok o w2 := by
    intro o w2 e
    simp only [eSd, eV, eLstS, aN, Oc.bind, List.getElem?_cons_zero, List.getElem?_cons_succ, d1, Option.isSome_some, Oc.on, cond_true, List.length_nil, sz0, loc_rf, d2, keyD, hk]
    exact e
  by_cases hv : v ∈ keys L
  · obtain ⟨l, h1, h2, h3⟩ := h.at_ v hv
    have hl : l < w'.length := (List.getElem?_eq_some_iff.mp h3).1
    have sd1 := sd (rf l) (w' ++ [Ob.lst []]) (by rw [h1])
    have g3 : (w' ++ [Ob.lst []])[l]? = some (.lst (plc L v)) := getElem?_snoc_lt h3
    have pll : (plc L v).length ≤ 1000 := by unfold plc; rw [List.length_map]; exact Nat.le_trans (List.length_filter_le ..) hL
    have u := upd_at (w := w' ++ [Ob.lst []]) (q := l) (k := fun xs => apL xs [pl]) (d := .none) (ys := plc L v ++ [pl]) g3 (by simp only [apL]; rw [if_pos (by rw [sizeLine_eq]; omega)])
    refine ⟨kvs, (w' ++ [Ob.lst []]).set l (.lst (plc L v ++ [pl])), ?_, ?_⟩
    · simp only [addB, eLm, sd1, Oc.bind, lst_at g3, Option.isSome_some, Oc.on, cond_true, aC, aN, eV, List.getElem?_cons_zero, List.getElem?_cons_succ, u]
    · have kk : keys (L ++ [(v, pl)]) = keys L := by rw [keys_snoc]; unfold addS; rw [decide_eq_true hv]; rfl
      refine ⟨by simp only [List.length_set, List.length_append, List.length_singleton]; have := h.len; omega, fun j hj => ?_, ?_, by rw [kk]; exact h.ks, fun k hk' => ?_, h.inj⟩
      · rw [List.getElem?_set_ne (by omega), List.getElem?_append_left (by have := h.len; omega)]; exact h.pre j hj
      · rw [List.getElem?_set_ne (by omega)]; exact getElem?_snoc_lt h.dk
      · rw [kk] at hk'
        obtain ⟨m, e1, e2, e3⟩ := h.at_ k hk'
        refine ⟨m, e1, e2, ?_⟩
        rw [plc_snoc]
        by_cases hkv : k = v
        · subst hkv
          rw [h1] at e1
          have := rf_inj (Option.some.inj e1)
          subst this
          rw [if_pos rfl, List.getElem?_set_self (by simp; omega)]
        · rw [if_neg hkv]
          have : l ≠ m := fun e => hkv (h.inj k v l (by rw [e1, e]) h1)
          rw [List.getElem?_set_ne this]
          exact getElem?_snoc_lt e3
  · have vn := valD_none h.ks hv
    have sd1 := sd (rf w'.length) ((w' ++ [Ob.lst []]).set w.length (.dK (putD kvs (.inr v) (rf w'.length)))) (by rw [vn])
    obtain ⟨w2, hw2⟩ : ∃ w2, w2 = (w' ++ [Ob.lst []]).set w.length (.dK (putD kvs (.inr v) (rf w'.length))) := ⟨_, rfl⟩
    rw [← hw2] at sd1
    have hlen := h.len
    have g3 : w2[w'.length]? = some (.lst []) := by rw [hw2, List.getElem?_set_ne (by omega)]; simp
    have u := upd_at (w := w2) (q := w'.length) (k := fun xs => apL xs [pl]) (d := .none) (ys := [pl]) g3 (by simp only [apL]; rw [if_pos (by rw [sizeLine_eq]; simp)]; rfl)
    refine ⟨putD kvs (.inr v) (rf w'.length), w2.set w'.length (.lst [pl]), ?_, ?_⟩
    · simp only [addB, eLm, sd1, Oc.bind, lst_at g3, Option.isSome_some, Oc.on, cond_true, aC, aN, eV, List.getElem?_cons_zero, List.getElem?_cons_succ, u]
    · have kk : keys (L ++ [(v, pl)]) = addS (keys L) v := keys_snoc L (v, pl)
      have other : ∀ (k : Str) (m : Nat), k ≠ v → valD kvs (.inr k) = some (rf m) → ∃ x, w'[m]? = some x := fun k m hkv e => by
        by_cases hk' : k ∈ keys L
        · obtain ⟨m', e1, _, e3⟩ := h.at_ k hk'
          rw [e1] at e
          have := rf_inj (Option.some.inj e)
          subst this; exact ⟨_, e3⟩
        · rw [valD_none h.ks hk'] at e; cases e
      refine ⟨by rw [List.length_set, hw2, List.length_set]; simp; omega, fun j hj => ?_, ?_, by rw [kk]; exact put_keys h.ks, fun k hk' => ?_, fun k k' m e e' => ?_⟩
      · rw [List.getElem?_set_ne (by omega), hw2, List.getElem?_set_ne (by omega), List.getElem?_append_left (by omega)]; exact h.pre j hj
      · rw [List.getElem?_set_ne (by omega), hw2, List.getElem?_set_self (by simp; omega)]
      · rw [plc_snoc, valD_put]
        by_cases hkv : k = v
        · subst hkv
          refine ⟨w'.length, by rw [if_pos rfl], by omega, ?_⟩
          rw [if_pos rfl, plc_none hv, List.getElem?_set_self (by rw [hw2, List.length_set]; simp)]; rfl
        · rw [kk, addS_mem] at hk'
          obtain ⟨m, e1, e2, e3⟩ := h.at_ k (hk'.resolve_right hkv)
          have hm : m < w'.length := (List.getElem?_eq_some_iff.mp e3).1
          refine ⟨m, by rw [if_neg (fun e => hkv (Sum.inr.inj e))]; exact e1, e2, ?_⟩
          rw [if_neg hkv, List.getElem?_set_ne (by omega), hw2, List.getElem?_set_ne (by omega)]
          exact getElem?_snoc_lt e3
      · rw [valD_put] at e e'
        have key : ∀ k m, (if (Sum.inr k : Key) = Sum.inr v then some (rf w'.length) else valD kvs (.inr k)) = some (rf m) → (k = v ∧ m = w'.length) ∨ (k ≠ v ∧ valD kvs (.inr k) = some (rf m) ∧ m < w'.length) := fun k m e => by
          by_cases hkv : k = v
          · subst hkv
            rw [if_pos rfl] at e
            exact .inl ⟨rfl, (rf_inj (Option.some.inj e)).symm⟩
          · rw [if_neg (fun e => hkv (Sum.inr.inj e))] at e
            obtain ⟨x, hx⟩ := other k m hkv e
            exact .inr ⟨hkv, e, (List.getElem?_eq_some_iff.mp hx).1⟩
        rcases key k m e with ⟨a1, a2⟩ | ⟨a1, a2, a3⟩ <;> rcases key k' m e' with ⟨b1, b2⟩ | ⟨b1, b2, b3⟩
        · rw [a1, b1]
        · omega
        · omega
        · exact h.inj k k' m a2 b2
def vpB : FS := nx0 (sIf (tTr (eCall F_is_variable [] (aC (eV 3) aN))) (sExp addB) sNil)
theorem vp_loop {w : Ws} {x0 : Option PyData} : ∀ (xs : List (List Nat × Pat)) (L : List (Str × PyData)) (kvs : List (Key × PyData)) (w' : Ws) (x2 x3 x4 : Option PyData), Vp w L kvs w' → L.length + xs.length ≤ 1000 → (∀ x ∈ xs, En x) →
    ∃ y2 y3 kvs' w'', forL (gT 2 (gC (gN 2) (gC (gN 3) gZ))) vpB (xs.map prD) [x0, some (rf w.length), x2, x3, x4] w' = .nx [x0, some (rf w.length), y2, y3, x4] w'' ∧ Vp w (L ++ vv xs) kvs' w''
  | [], L, kvs, w', x2, x3, x4, h, _, _ => ⟨x2, x3, kvs, w', by simp only [List.map_nil, forL], by simpa [vv] using h⟩
  | (pl, p) :: xs, L, kvs, w', x2, x3, x4, h, hl, he => by
    simp only [List.length_cons] at hl
    have ex := he (pl, p) List.mem_cons_self
    have iv := isvar_ok w' ex.ok (Nat.le_trans ex.wt (by omega))
    have gg : (gT 2 (gC (gN 2) (gC (gN 3) gZ))) (prD (pl, p)) [x0, some (rf w.length), x2, x3, x4] w' = .ok [x0, some (rf w.length), some (plD pl), some (toD p), x4] w' := rfl
    cases p with
    | var n =>
      obtain ⟨kvs1, w1, e1, h1⟩ := addB_ok (v := S (63 :: n)) (pl := plD pl) (x0 := x0) (x4 := x4) h (by omega)
      obtain ⟨y2, y3, kvs', w'', e2, h2⟩ := vp_loop (x0 := x0) xs (L ++ [(S (63 :: n), plD pl)]) kvs1 w1 (some (plD pl)) (some (toD (.var n))) x4 h1 (by simp; omega) fun y hy => he y (List.mem_cons_of_mem _ hy)
      refine ⟨y2, y3, kvs', w'', ?_, ?_⟩
      · have bb : vpB [x0, some (rf w.length), some (plD pl), some (toD (.var n)), x4] w' = .nx [x0, some (rf w.length), some (plD pl), some (toD (.var n)), x4] w1 := by
          have iv' : F_is_variable [toD (.var n)] w' = .ok (.bool true) w' := iv
          have e1' : addB [x0, some (rf w.length), some (plD pl), some (toD (.var n)), x4] w' = .ok .none w1 := e1
          generalize hAB : addB = AB at *
          generalize toD (.var n) = TV at *
          simp only [vpB, nx0, sIf, tTr, eCall, aC, aN, eV, Oc.bind, List.getElem?_cons_zero, List.getElem?_cons_succ, List.append_nil, iv', Oc.of, truD, Oc.thenS, cond_true, sExp]
          rw [hAB, e1']
        rw [List.map_cons, forL, gg]
        simp only
        rw [bb]
        exact e2
      · have : vv ((pl, .var n) :: xs) = (S (63 :: n), plD pl) :: vv xs := rfl
        rw [this, List.append_cons]
        exact h2
    | node hd ps =>
      obtain ⟨y2, y3, kvs', w'', e2, h2⟩ := vp_loop (x0 := x0) xs L kvs w' (some (plD pl)) (some (toD (.node hd ps))) x4 h (by omega) fun y hy => he y (List.mem_cons_of_mem _ hy)
      refine ⟨y2, y3, kvs', w'', ?_, h2⟩
      have bb : vpB [x0, some (rf w.length), some (plD pl), some (toD (.node hd ps)), x4] w' = .nx [x0, some (rf w.length), some (plD pl), some (toD (.node hd ps)), x4] w' := by
        have iv' : F_is_variable [toD (.node hd ps)] w' = .ok (.bool false) w' := iv
        generalize toD (.node hd ps) = TV at *
        simp only [vpB, nx0, sIf, tTr, eCall, aC, aN, eV, Oc.bind, List.getElem?_cons_zero, List.getElem?_cons_succ, List.append_nil, iv', Oc.of, truD, Oc.thenS, cond_false, sNil]
      rw [List.map_cons, forL, gg]
      simp only
      rw [bb]
      exact e2
end Tk

set_option Elab.async false
set_option linter.all false
set_option maxRecDepth 100000
set_option maxHeartbeats 4000000
namespace Tk
open PySem L2 Td Tg
mutual
theorem nds_pl : ∀ (p : Pat) (pl : List Nat), nn p ≤ 1000 → (∀ i ∈ pl, i ≤ 1000) → ∀ x ∈ nds pl p, (∀ i ∈ x.1, i ≤ 1000) ∧ x.1.length + nn x.2 ≤ pl.length + nn p
  | .var n, pl, _, h, x, hx => by
    have : x = (pl, .var n) := by simpa [nds] using hx
    subst this; exact ⟨h, Nat.le_refl _⟩
  | .node hd ps, pl, hn, h, x, hx => by
    simp only [nds, List.mem_cons] at hx
    simp only [nn] at hn ⊢
    rcases hx with rfl | hx
    · exact ⟨h, by simp only [nn]; omega⟩
    · obtain ⟨h1, h2⟩ := ndsA_pl ps pl 0 (by have := len_nnA ps; omega) (by omega) h x hx
      exact ⟨h1, by omega⟩
theorem ndsA_pl : ∀ (ps : List Pat) (pl : List Nat) (i : Nat), i + ps.length ≤ 1000 → nnA ps ≤ 1000 → (∀ i ∈ pl, i ≤ 1000) → ∀ x ∈ ndsA pl i ps, (∀ i ∈ x.1, i ≤ 1000) ∧ x.1.length + nn x.2 ≤ pl.length + 1 + nnA ps
  | [], _, _, _, _, _, x, hx => by cases hx
  | p :: ps, pl, i, hi, hn, h, x, hx => by
    simp only [ndsA, List.mem_append] at hx
    simp only [List.length_cons, nnA] at hi hn ⊢
    rcases hx with hx | hx
    · obtain ⟨h1, h2⟩ := nds_pl p (pl ++ [i]) (by omega) (fun j hj => by
        rcases List.mem_append.mp hj with hj | hj
        · exact h j hj
        · rw [List.mem_singleton.mp hj]; omega) x hx
      simp only [List.length_append, List.length_singleton] at h2
      exact ⟨h1, by omega⟩
    · obtain ⟨h1, h2⟩ := ndsA_pl ps pl (i + 1) (by omega) (by omega) h x hx
      exact ⟨h1, by omega⟩
end
theorem okDA_ints : ∀ {pl : List Nat}, (∀ i ∈ pl, i ≤ 1000) → okDA (pl.map fun (i : Nat) => PyData.int (i : Int)) = true
  | [], _ => rfl
  | i :: pl, h => by
    have h1 := h i List.mem_cons_self
    have t : (1000 : Nat) < ten62 := by decide +kernel
    show (decide ((i : Int).natAbs < ten62) && okDA (pl.map fun (i : Nat) => PyData.int (i : Int))) = true
    rw [okDA_ints fun j hj => h j (List.mem_cons_of_mem _ hj), decide_eq_true (by omega)]; rfl
theorem wtA_ints : ∀ (pl : List Nat), wtA (pl.map fun (i : Nat) => PyData.int (i : Int)) = pl.length
  | [] => rfl
  | i :: pl => by show 1 + wtA (pl.map fun (i : Nat) => PyData.int (i : Int)) = _; rw [wtA_ints pl, List.length_cons]; omega
theorem dp_ints : ∀ (pl : List Nat), PyData.depthAll (pl.map fun (i : Nat) => PyData.int (i : Int)) ≤ 1
  | [] => by simp [PyData.depthAll]
  | i :: pl => by have := dp_ints pl; simp only [List.map_cons, PyData.depthAll, PyData.depth]; omega
/-- small data -/
structure Dt (D W : Nat) (d : PyData) : Prop where
  ok : okD d = true
  dp : d.depth ≤ D
  wt : wt d ≤ W
theorem Dt.pl {pl : List Nat} {m : Nat} (h : ∀ i ∈ pl, i ≤ 1000) (hl : pl.length ≤ m) : Dt 2 (m + 1) (plD pl) :=
  ⟨okDA_ints h, by have := dp_ints pl; simp only [plD, PyData.depth]; omega, by show 1 + wtA _ ≤ _; rw [wtA_ints]; omega⟩
theorem Dt.tup {D W : Nat} {ds : List PyData} (h : ∀ d ∈ ds, Dt D W d) : Dt (D + 1) (1 + ds.length * W) (.tuple ds) := by
  refine ⟨okDA_iff.mpr fun d hd => (h d hd).ok, ?_, ?_⟩
  · have : PyData.depthAll ds ≤ D := depthAll_le.mpr fun d hd => (h d hd).dp
    simp only [PyData.depth]; omega
  · show 1 + wtA ds ≤ _
    have : wtA ds ≤ ds.length * W := by
      induction ds with
      | nil => simp [wtA]
      | cons d ds ih =>
        have h1 := (h d List.mem_cons_self).wt
        have h2 := ih fun x hx => h x (List.mem_cons_of_mem _ hx)
        simp only [wtA, List.length_cons, Nat.add_mul, Nat.one_mul]; omega
    omega
theorem Dt.lst {D W : Nat} {ds : List PyData} (h : ∀ d ∈ ds, Dt D W d) : Dt (D + 1) (1 + ds.length * W) (.list ds) := by
  have := Dt.tup h
  refine ⟨this.ok, ?_, this.wt⟩
  have := this.dp
  simp only [PyData.depth] at this ⊢; omega
theorem Dt.mono {D W D' W' : Nat} {d : PyData} (h : Dt D W d) (hD : D ≤ D') (hW : W ≤ W') : Dt D' W' d := ⟨h.ok, Nat.le_trans h.dp hD, Nat.le_trans h.wt hW⟩
def VPl (L : List (Str × PyData)) : PyData := .tuple ((srtS (keys L)).map fun k => .tuple [.str k, .tuple (plc L k)])
def dbl (L : List (Str × PyData)) : PyData := .tuple (((srtS (keys L)).filter fun k => decide (1 < (plc L k).length)).map .str)
/-- the variables of a small pattern -/
structure Vs (L : List (Str × PyData)) : Prop where
  len : L.length ≤ 20
  ks : ∀ x ∈ L, Dt 1 10 (.str x.1)
  ps : ∀ x ∈ L, Dt 2 22 x.2
theorem Sml.vs {p : Pat} (h : Sml p) : Vs (vv (nds [] p)) := by
  have ln := nds_len p []
  have hn := h.nn
  have pls := nds_pl p [] (by omega) (fun i hi => by cases hi)
  refine ⟨Nat.le_trans (vv_len _) (by omega), fun x hx => ?_, fun x hx => ?_⟩
  · obtain ⟨⟨pl, q⟩, hy, e⟩ := List.mem_filterMap.mp hx
    have eq := (h.en _ hy).ok
    cases q with
    | node _ _ => cases e
    | var n =>
      cases e
      have := (nm_len (show nmL n = true from eq)).2.1
      exact ⟨asc_var eq, by simp [PyData.depth], by show 1 + (S (63 :: n)).length ≤ 10; rw [S_len, List.length_cons]; omega⟩
  · obtain ⟨⟨pl, q⟩, hy, e⟩ := List.mem_filterMap.mp hx
    obtain ⟨h1, h2⟩ := pls _ hy
    have h2 : pl.length + Tk.nn q ≤ 0 + Tk.nn p := h2
    cases q with
    | node _ _ => cases e
    | var n =>
      cases e
      have h3 : pl.length ≤ 20 := by omega
      exact (Dt.pl h1 (m := 20) h3).mono (Nat.le_refl _) (by omega)
theorem Vs.key {L : List (Str × PyData)} (h : Vs L) {k : Str} (hk : k ∈ keys L) : Dt 1 10 (.str k) := by
  obtain ⟨x, hx, rfl⟩ := List.mem_map.mp (ddS_mem.mp hk)
  exact h.ks x hx
theorem plc_len (L : List (Str × PyData)) (k : Str) : (plc L k).length ≤ L.length := by unfold plc; rw [List.length_map]; exact List.length_filter_le ..
theorem Vs.pls {L : List (Str × PyData)} (h : Vs L) (k : Str) : Dt 3 441 (.tuple (plc L k)) := by
  have := Dt.tup (D := 2) (W := 22) (ds := plc L k) fun d hd => by
    obtain ⟨x, hx, rfl⟩ := List.mem_map.mp hd
    exact h.ps x (List.mem_filter.mp hx).1
  have l := plc_len L k
  have l2 := h.len
  exact this.mono (by omega) (by have : (plc L k).length * 22 ≤ 20 * 22 := Nat.mul_le_mul_right _ (by omega); omega)
theorem srt_keys_len {L : List (Str × PyData)} (h : Vs L) : (srtS (keys L)).length ≤ 20 := by
  rw [srtS_len]; exact Nat.le_trans (keys_len L) h.len
theorem Dt.strs {L : List (Str × PyData)} (h : Vs L) {ks : List Str} (hk : ∀ k ∈ ks, k ∈ keys L) (hl : ks.length ≤ 20) : Dt 2 201 (.tuple (ks.map .str)) := by
  have := Dt.tup (D := 1) (W := 10) (ds := ks.map .str) fun d hd => by
    obtain ⟨k, hk', rfl⟩ := List.mem_map.mp hd
    exact h.key (hk k hk')
  rw [List.length_map] at this
  exact this.mono (by omega) (by omega)
end Tk

set_option Elab.async false
set_option linter.all false
set_option maxRecDepth 100000
set_option maxHeartbeats 4000000
namespace Tk
open PySem L2 Td Tg
theorem app_of_pre {w w' : Ws} (hl : w.length ≤ w'.length) (h : ∀ j, j < w.length → w'[j]? = w[j]?) : ∃ v, w' = w ++ v := by
  refine ⟨w'.drop w.length, ?_⟩
  have : w'.take w.length = w := by
    refine List.ext_getElem? fun j => ?_
    rw [List.getElem?_take]
    by_cases hj : j < w.length
    · rw [if_pos hj, h j hj]
    · rw [if_neg hj, List.getElem?_eq_none (by omega)]
  rw [← this, List.length_take, Nat.min_eq_left hl, List.take_append_drop]
theorem vpl_dt {L : List (Str × PyData)} (h : Vs L) : Dt 5 9041 (VPl L) := by
  have := Dt.tup (D := 4) (W := 452) (ds := (srtS (keys L)).map fun k => .tuple [.str k, .tuple (plc L k)]) fun d hd => by
    obtain ⟨k, hk, rfl⟩ := List.mem_map.mp hd
    have a := h.key (srtS_mem.mp hk)
    have b := h.pls k
    refine ⟨by show (okD (.str k) && (okD (.tuple (plc L k)) && true)) = true; rw [a.ok, b.ok]; rfl, ?_, ?_⟩
    · have := a.dp; have := b.dp; simp only [PyData.depth, PyData.depthAll] at *; omega
    · have := a.wt; have := b.wt; show 1 + (wt (.str k) + (wt (.tuple (plc L k)) + 0)) ≤ _; omega
  have l := srt_keys_len h
  rw [List.length_map] at this
  refine this.mono (by omega) ?_
  have : (srtS (keys L)).length * 452 ≤ 20 * 452 := Nat.mul_le_mul_right _ l
  omega
theorem leave_dt {w w' : Ws} {d : PyData} (hc : Cl w) (hl : w.length ≤ w'.length) (h : ∀ j, j < w.length → w'[j]? = w[j]?) (hd : okD d = true) : leave w.length (.rt d w') = .ok d w := by
  obtain ⟨v, rfl⟩ := app_of_pre hl h
  exact leave_trim hc (bnd_okD _ hd)
theorem vplaces_ok {p : Pat} (h : Sml p) {w : Ws} (hc : Cl w) : F_variable_places [toD p] w = .ok (VPl (vv (nds [] p))) w := by
  have en := h.en
  have vs := h.vs
  have ln := nds_len p []
  have hn := h.nn
  have v0 : Vp w [] [] (w ++ [.dK []]) := ⟨by simp, fun j hj => by rw [List.getElem?_append_left hj], by simp, rfl, (fun k hk => by cases hk), fun k k' l e _ => by simp [valD] at e⟩
  obtain ⟨y2, y3, kvs, w', e, vp⟩ := vp_loop (x0 := some (toD p)) (nds [] p) [] [] (w ++ [.dK []]) none none none v0 (by simp only [List.length_nil]; omega) en
  rw [List.nil_append] at vp
  have ig := iGen_ok h (ρ := [some (toD p), some (rf w.length), none, none, none]) (w := w ++ [.dK []]) rfl
  obtain ⟨L, hL⟩ : ∃ L, L = vv (nds [] p) := ⟨_, rfl⟩
  rw [← hL] at vs vp ⊢
  have sk : sortDk w' [rf w.length] = some (.list ((srtS (keys L)).map .str)) := by
    have kl : decide ((keys L).length < 64) = true := decide_eq_true (by have := keys_len L; have := vs.len; omega)
    simp only [sortDk, dk_at vp.dk, txtK_keys vp.ks, kl, if_true]
  have lc := lcL_map (gt := gN 4) (fe := eTup (aC (eV 4) (aC (eCb tupleD (aC (eDg (eV 1) (eV 4)) aN)) aN))) (ρ := [some (toD p), some (rf w.length), y2, y3, none]) (w := w') (fun d => match d with | .str k => .tuple [.str k, .tuple (plc L k)] | _ => .none) ((srtS (keys L)).map .str) (by rw [List.length_map, sizeLine_eq]; have := srt_keys_len vs; omega) fun d hd => by
    obtain ⟨k, hk, rfl⟩ := List.mem_map.mp hd
    obtain ⟨l, h1, h2, h3⟩ := vp.at_ k (srtS_mem.mp hk)
    refine ⟨[some (toD p), some (rf w.length), y2, y3, some (.str k)], rfl, ?_⟩
    have tl : tupleD w' [rf l] = some (.tuple (plc L k)) := by simp only [tupleD, lst_at h3, Option.map_some]
    simp only [eTup, aC, aN, eV, eCb, eDg, Oc.bind, List.getElem?_cons_zero, List.getElem?_cons_succ, dk_at vp.dk, Option.bind_some, keyD, h1, Oc.of, tl, List.length_cons, List.length_nil, Nat.zero_add, Nat.reduceAdd, sz2, Oc.on, cond_true]
  rw [List.map_map] at lc
  have lc' : lcL (gN 4) tYs (eTup (aC (eV 4) (aC (eCb tupleD (aC (eDg (eV 1) (eV 4)) aN)) aN))) [some (toD p), some (rf w.length), y2, y3, none] ((srtS (keys L)).map .str) w' [] = .ok ((srtS (keys L)).map fun k => .tuple [.str k, .tuple (plc L k)]) w' := lc
  have b : b_variable_places [some (toD p), none, none, none, none] w = .rt (VPl L) w' := by
    unfold b_variable_places
    rw [seq_nx (ρ1 := [some (toD p), some (rf w.length), none, none, none]) (w1 := w ++ [.dK []]) (by rfl)]
    rw [seq_nx (ρ1 := [some (toD p), some (rf w.length), y2, y3, none]) (w1 := w') (by
      unfold sFor
      rw [ig]
      exact e)]
    simp only [sRet, eCb, aC, aN, eLc, iE, eV, Oc.bind, List.getElem?_cons_zero, List.getElem?_cons_succ, sk, Oc.of, itD, wipeE, List.set_cons_zero, List.set_cons_succ]
    rw [lc']
    simp only [Oc.bind, tupleD, lstOf_list, Option.map_some, Oc.of, Oc.thenS]
    rfl
  show leave w.length (b_variable_places [some (toD p), none, none, none, none] w) = _
  rw [b]
  exact leave_dt hc (by have := vp.len; omega) vp.pre (vpl_dt vs).ok
theorem doubled_ok {p : Pat} (h : Sml p) {w : Ws} (hc : Cl w) : F_doubled_of [toD p] w = .ok (dbl (vv (nds [] p))) w := by
  have vs := h.vs
  have vp := vplaces_ok h hc
  obtain ⟨L, hL⟩ : ∃ L, L = vv (nds [] p) := ⟨_, rfl⟩
  rw [← hL] at vs vp ⊢
  have lc := lcL_pure (gt := gT 2 (gC (gN 1) (gC (gN 2) gZ))) (tt := tB' (eB gtD (eCb lenD (aC (eV 2) aN)) (eC (.int 1)))) (fe := eV 1) (ρ := [some (toD p), none, none]) (w := w) (fun d => match d with | .tuple [_, .tuple ps] => decide (1 < ps.length) | _ => false) t1 ((srtS (keys L)).map fun k => .tuple [.str k, .tuple (plc L k)]) [] (by rw [List.length_map, sizeLine_eq, List.length_nil]; have := srt_keys_len vs; omega) fun d hd => by
    obtain ⟨k, hk, rfl⟩ := List.mem_map.mp hd
    refine ⟨[some (toD p), some (.str k), some (.tuple (plc L k))], rfl, ?_, fun _ => rfl⟩
    simp only [tB', eB, eCb, aC, aN, eV, eC, Oc.bind, List.getElem?_cons_zero, List.getElem?_cons_succ, lenD, Oc.of, gtD, cmpD]
    congr 1
    simp
    omega
  rw [List.nil_append, List.filter_map, List.map_map] at lc
  have lc' : lcL (gT 2 (gC (gN 1) (gC (gN 2) gZ))) (tB' (eB gtD (eCb lenD (aC (eV 2) aN)) (eC (.int 1)))) (eV 1) [some (toD p), none, none] ((srtS (keys L)).map fun k => .tuple [.str k, .tuple (plc L k)]) w [] = .ok (((srtS (keys L)).filter fun k => decide (1 < (plc L k).length)).map .str) w := lc
  have b : b_doubled_of [some (toD p), none, none] w = .rt (dbl L) w := by
    simp only [b_doubled_of, sRet, eCb, aC, aN, eLc, iE, eCall, eV, Oc.bind, List.getElem?_cons_zero, List.getElem?_cons_succ, List.append_nil]
    rw [vp]
    simp only [Oc.bind, VPl, itD, Oc.of, wipeE, List.set_cons_zero, List.set_cons_succ]
    rw [lc']
    simp only [Oc.bind, tupleD, lstOf_list, Option.map_some, Oc.of, Oc.thenS]
    rfl
  show leave w.length (b_doubled_of [some (toD p), none, none] w) = _
  rw [b]
  exact leave_w
end Tk

set_option Elab.async false
set_option linter.all false
set_option maxRecDepth 100000
set_option maxHeartbeats 4000000
namespace Tk
open PySem L2 Td Tg
/-! ### the law's own walk -/
def ownD : List Nat × Pat → PyData
  | (pl, .node h _) => .tuple [plD pl, .str (S h)]
  | _ => .none
structure Kv (L : List (Str × PyData)) (kvs : List (Key × PyData)) : Prop where
  ks : kvs.map (·.1) = (keys L).map Sum.inr
  at_ : ∀ k ∈ keys L, valD kvs (.inr k) = some (.list (plc L k))
theorem Kv.put {L : List (Str × PyData)} {kvs : List (Key × PyData)} (h : Kv L kvs) (v : Str) (d : PyData) : Kv (L ++ [(v, d)]) (putD kvs (.inr v) (.list (plc L v ++ [d]))) := by
  refine ⟨by rw [keys_snoc]; exact put_keys h.ks, fun k hk => ?_⟩
  rw [valD_put, plc_snoc]
  by_cases hkv : k = v
  · subst hkv; rw [if_pos rfl, if_pos rfl]
  · rw [if_neg (fun e => hkv (Sum.inr.inj e)), if_neg hkv]
    rw [keys_snoc, addS_mem] at hk
    exact h.at_ k (hk.resolve_right hkv)
theorem Kv.get {L : List (Str × PyData)} {kvs : List (Key × PyData)} (h : Kv L kvs) (v : Str) : (valD kvs (.inr v)).getD (.list []) = .list (plc L v) := by
  by_cases hv : v ∈ keys L
  · rw [h.at_ v hv]; rfl
  · rw [valD_none h.ks hv, plc_none hv]; rfl
theorem Kv.len {L : List (Str × PyData)} {kvs : List (Key × PyData)} (h : Kv L kvs) : kvs.length ≤ L.length := by
  have := congrArg List.length h.ks
  rw [List.length_map, List.length_map] at this
  rw [this]; exact keys_len L
section
variable {w : Ws} {a b c x : Ob}
theorem at0 : (w ++ [a, b, c])[w.length]? = some a := by simp
theorem at1 : (w ++ [a, b, c])[w.length + 1]? = some b := by simp
theorem at2 : (w ++ [a, b, c])[w.length + 2]? = some c := by simp
theorem st0 : (w ++ [a, b, c]).set w.length x = w ++ [x, b, c] := by simp
theorem st1 : (w ++ [a, b, c]).set (w.length + 1) x = w ++ [a, x, c] := by simp
theorem st2 : (w ++ [a, b, c]).set (w.length + 2) x = w ++ [a, b, x] := by simp
end
def popL : FS := sAsg (eLm0 ppL (eV 3)) (gT 2 (gC (gN 4) (gC (gN 5) gZ)))
def putL : FS := sDp (eV 2) (eV 5) (eB addD (eDg2 (eV 2) (eV 5) (eLst aN)) (eLst (aC (eV 4) aN)))
def ownL : FS := sExp (eLm apL (eV 1) (aC (eTup (aC (eV 4) (aC (eB ixD (eV 5) (eC (.int 0))) aN))) aN))
def extL : FS := sExp (eExt (eV 3) (eU revL (eLc (iEn2 (aC (eB ixD (eV 5) (eC (.int 1))) aN)) (gT 2 (gC (gN 6) (gC (gN 7) gZ))) tYs (eTup (aC (eB addD (eV 4) (eTup (aC (eV 6) aN))) (aC (eV 7) aN))) [6, 7])))
def spB : FS := sSeq popL (sIf (tTr (eIsi "str" (eV 5))) putL (sSeq ownL extL))
theorem spots_eq : b__law_spots = sSeq (sPar3 1 2 3 (aC (eLstS aN) (aC eD0 (aC (eLstS (aC (eTup (aC (eTup aN) (aC (eV 0) aN))) aN)) aN))))
    (sSeq (sWh (tB' (eB neL (eV 3) (eLst aN))) spB) (sSeq (sFz 1) (sRet (eTup (aC (eV 1) (aC (eV 2) aN)))))) := rfl
section
variable {w : Ws} {x0 x4 x5 x6 x7 : Option PyData} {own pile : List PyData} {kvs : List (Key × PyData)}
theorem popL_ok {p q : PyData} : popL [x0, some (rf w.length), some (rf (w.length + 1)), some (rf (w.length + 2)), x4, x5, x6, x7] (w ++ [.lst own, .dK kvs, .lst (pile ++ [.tuple [p, q]])])
    = .nx [x0, some (rf w.length), some (rf (w.length + 1)), some (rf (w.length + 2)), some p, some q, x6, x7] (w ++ [.lst own, .dK kvs, .lst pile]) := by
  have p := pop_ok (ρ := [x0, some (rf w.length), some (rf (w.length + 1)), some (rf (w.length + 2)), x4, x5, x6, x7]) (i := 3) (q := w.length + 2) (w := w ++ [.lst own, .dK kvs, .lst (pile ++ [.tuple [p, q]])]) (ds := pile) (d := .tuple [p, q]) rfl at2
  rw [st2] at p
  simp only [popL, sAsg, p, Oc.thenS, gT, gC, gZ, gN]
  rfl
theorem putL_ok {L : List (Str × PyData)} {v : Str} {d : PyData} (h : Kv L kvs) (hL : L.length ≤ 1000) : putL [x0, some (rf w.length), some (rf (w.length + 1)), some (rf (w.length + 2)), some d, some (.str v), x6, x7] (w ++ [.lst own, .dK kvs, .lst pile])
    = .nx [x0, some (rf w.length), some (rf (w.length + 1)), some (rf (w.length + 2)), some d, some (.str v), x6, x7] (w ++ [.lst own, .dK (putD kvs (.inr v) (.list (plc L v ++ [d]))), .lst pile]) := by
  have d1 : dkOf (w ++ [.lst own, .dK kvs, .lst pile]) (rf (w.length + 1)) = some kvs := dk_at at1
  have kl := h.len
  have pl := plc_len L v
  have z1 : szOk ((plc L v).length + 1) = true := szOk_of (by omega)
  have ad : addD (w ++ [.lst own, .dK kvs, .lst pile]) (.list (plc L v)) (.list [d]) = some (.list (plc L v ++ [d])) := by
    simp only [addD, lstOf_list, List.length_cons, List.length_nil, Nat.zero_add, z1, if_true]
  have ee : (eB addD (eDg2 (eV 2) (eV 5) (eLst aN)) (eLst (aC (eV 4) aN))) [x0, some (rf w.length), some (rf (w.length + 1)), some (rf (w.length + 2)), some d, some (.str v), x6, x7] (w ++ [.lst own, .dK kvs, .lst pile]) = .ok (.list (plc L v ++ [d])) (w ++ [.lst own, .dK kvs, .lst pile]) := by
    simp only [eB, eDg2, eV, eLst, aC, aN, Oc.bind, List.getElem?_cons_zero, List.getElem?_cons_succ, d1, Option.isSome_some, Oc.on, cond_true, List.length_nil, List.length_cons, Nat.zero_add, sz0, szOk_of (show 1 ≤ 10000000 by omega), keyD, h.get v, Oc.of, ad]
  unfold putL sDp
  rw [ee]
  simp only [Oc.thenS, eV, List.getElem?_cons_zero, List.getElem?_cons_succ, d1, keyD, loc_rf]
  rw [if_pos (by rw [sizeLine_eq]; omega), st1]
theorem ownL_ok {pl : List Nat} {hd : List Nat} {ps : List Pat} (ho : own.length ≤ 1000) : ownL [x0, some (rf w.length), some (rf (w.length + 1)), some (rf (w.length + 2)), some (plD pl), some (toD (.node hd ps)), x6, x7] (w ++ [.lst own, .dK kvs, .lst pile])
    = .nx [x0, some (rf w.length), some (rf (w.length + 1)), some (rf (w.length + 2)), some (plD pl), some (toD (.node hd ps)), x6, x7] (w ++ [.lst (own ++ [ownD (pl, .node hd ps)]), .dK kvs, .lst pile]) := by
  have a0 : ixD (w ++ [.lst own, .dK kvs, .lst pile]) (toD (.node hd ps)) (.int 0) = some (.str (S hd)) := rfl
  have l0 : lstOf (w ++ [.lst own, .dK kvs, .lst pile]) (rf w.length) = some own := lst_at at0
  have u := upd_at (w := w ++ [.lst own, .dK kvs, .lst pile]) (q := w.length) (k := fun xs => apL xs [.tuple [plD pl, .str (S hd)]]) (d := .none) (ys := own ++ [.tuple [plD pl, .str (S hd)]]) at0 (by simp only [apL]; rw [if_pos (by rw [sizeLine_eq]; omega)])
  rw [st0] at u
  generalize toD (.node hd ps) = TN at *
  simp only [ownL, sExp, eLm, eV, aC, aN, eTup, eB, eC, Oc.bind, Oc.of, Oc.thenS, Oc.on, List.getElem?_cons_zero, List.getElem?_cons_succ, a0, l0, Option.isSome_some, cond_true, List.length_cons, List.length_nil, Nat.zero_add, Nat.reduceAdd, sz2, u]
  rfl
theorem enD_pats : ∀ (ps : List Pat) (i : Nat), enD i (toDs ps) = ((List.range' i ps.length).zip ps).map fun x => .tuple [.int (x.1 : Int), toD x.2]
  | [], _ => rfl
  | p :: ps, i => by
    show PyData.tuple [.int (i : Int), toD p] :: enD (i + 1) (toDs ps) = _
    rw [enD_pats ps (i + 1), List.length_cons, List.range'_succ]
    rfl
theorem extL_ok {st : List (List Nat × Pat)} {pl : List Nat} {hd : List Nat} {ps : List Pat} (hpl : pl.length ≤ 100000) (hps : ps.length ≤ 100000) (hst : st.length ≤ 100000) :
    extL [x0, some (rf w.length), some (rf (w.length + 1)), some (rf (w.length + 2)), some (plD pl), some (toD (.node hd ps)), x6, x7] (w ++ [.lst own, .dK kvs, .lst (st.map prD)])
    = .nx [x0, some (rf w.length), some (rf (w.length + 1)), some (rf (w.length + 2)), some (plD pl), some (toD (.node hd ps)), x6, x7] (w ++ [.lst own, .dK kvs, .lst ((st ++ kidsR (pl, .node hd ps)).map prD)]) := by
  obtain ⟨w1, hw1⟩ : ∃ w1, w1 = w ++ [.lst own, .dK kvs, .lst (st.map prD)] := ⟨_, rfl⟩
  have a1 : ixD w1 (toD (.node hd ps)) (.int 1) = some (.tuple (toDs ps)) := rfl
  have tl : (toDs ps).length = ps.length := by rw [toDs_map, List.length_map]
  have lc := lcL_map (gt := gT 2 (gC (gN 6) (gC (gN 7) gZ))) (fe := eTup (aC (eB addD (eV 4) (eTup (aC (eV 6) aN))) (aC (eV 7) aN))) (ρ := [x0, some (rf w.length), some (rf (w.length + 1)), some (rf (w.length + 2)), some (plD pl), some (toD (.node hd ps)), none, none]) (w := w1)
    (fun d => match d with | .tuple [i, q] => .tuple [.tuple (pl.map (fun (i : Nat) => PyData.int (i : Int)) ++ [i]), q] | _ => .none) (enD 0 (toDs ps)) (by rw [enD_len, tl, sizeLine_eq]; omega) fun d hd' => by
      rw [enD_pats] at hd'
      obtain ⟨⟨i, q⟩, _, rfl⟩ := List.mem_map.mp hd'
      refine ⟨[x0, some (rf w.length), some (rf (w.length + 1)), some (rf (w.length + 2)), some (plD pl), some (toD (.node hd ps)), some (.int (i : Int)), some (toD q)], rfl, ?_⟩
      have z1 : szOk ((pl.map fun (i : Nat) => PyData.int (i : Int)).length + 1) = true := szOk_of (by rw [List.length_map]; omega)
      have ad : addD w1 (plD pl) (.tuple [.int (i : Int)]) = some (.tuple (pl.map (fun (i : Nat) => PyData.int (i : Int)) ++ [.int (i : Int)])) := by
        simp only [plD, addD, List.length_cons, List.length_nil, Nat.zero_add, z1, if_true]
      simp only [eTup, eB, aC, aN, eV, Oc.bind, List.getElem?_cons_zero, List.getElem?_cons_succ, List.length_cons, List.length_nil, Nat.zero_add, Nat.reduceAdd, szOk_of (show 1 ≤ 10000000 by omega), sz2, Oc.on, cond_true, ad, Oc.of]
  have e1 : ((enD 0 (toDs ps)).map (fun d => match d with | .tuple [i, q] => PyData.tuple [.tuple (pl.map (fun (i : Nat) => PyData.int (i : Int)) ++ [i]), q] | _ => .none)).reverse = (kidsR (pl, .node hd ps)).map prD := by
    rw [enD_pats, List.map_map, ← List.map_reverse]
    show _ = (kidR pl 0 ps).map prD
    unfold kidR
    rw [List.map_map]
    refine List.map_congr_left fun x _ => ?_
    simp [Function.comp, prD, plD]
  generalize hM : (enD 0 (toDs ps)).map (fun d => match d with | .tuple [i, q] => PyData.tuple [.tuple (pl.map (fun (i : Nat) => PyData.int (i : Int)) ++ [i]), q] | _ => .none) = M at lc e1
  have lM : M.length = ps.length := by rw [← hM, List.length_map, enD_len, tl]
  have fe : (eU revL (eLc (iEn2 (aC (eB ixD (eV 5) (eC (.int 1))) aN)) (gT 2 (gC (gN 6) (gC (gN 7) gZ))) tYs (eTup (aC (eB addD (eV 4) (eTup (aC (eV 6) aN))) (aC (eV 7) aN))) [6, 7])) [x0, some (rf w.length), some (rf (w.length + 1)), some (rf (w.length + 2)), some (plD pl), some (toD (.node hd ps)), x6, x7] w1 = .ok (.list ((kidsR (pl, .node hd ps)).map prD)) w1 := by
    rw [← e1]
    generalize toD (.node hd ps) = TN at *
    simp only [eU, eLc, iEn2, eB, eC, aC, aN, eV, Oc.bind, List.getElem?_cons_zero, List.getElem?_cons_succ, a1, Oc.of, wipeE, List.set_cons_zero, List.set_cons_succ, lc, revL, lstOf_list, Option.map_some]
  have ex := ext_ok (ρ := [x0, some (rf w.length), some (rf (w.length + 1)), some (rf (w.length + 2)), some (plD pl), some (toD (.node hd ps)), x6, x7]) (i := 3) (q := w.length + 2) (w := w1) (ds := st.map prD) (ys := (kidsR (pl, .node hd ps)).map prD) rfl (by rw [hw1]; exact at2) fe rfl (by
    rw [← e1, List.length_reverse, lM, List.length_map]; omega)
  rw [hw1, st2, ← List.map_append] at ex
  simp only [extL, sExp, ex, Oc.thenS]
end
end Tk

set_option Elab.async false
set_option linter.all false
set_option maxRecDepth 100000
set_option maxHeartbeats 4000000
namespace Tk
open PySem L2 Td Tg
def ownsD (xs : List (List Nat × Pat)) : List PyData := (oo xs).map ownD
theorem isi_str {w : Ws} {ρ : Ev} {i : Nat} {p : Pat} (h : ρ[i]? = some (some (toD p))) : tTr (eIsi "str" (eV i)) ρ w = .ok (isV p) w := by
  cases p with
  | var n =>
    have h : ρ[i]? = some (some (.str (S (63 :: n)))) := h
    simp only [tTr, eIsi, eV, h, Oc.bind, tyD, Option.bind_some, k_ss, Oc.of, truD, isV]
  | node hd ps =>
    have h : ρ[i]? = some (some (.tuple [.str (S hd), .tuple (toDs ps)])) := h
    simp only [tTr, eIsi, eV, h, Oc.bind, tyD, Option.bind_some, k_ts, Oc.of, truD, isV]
section
variable {w : Ws} {x0 : Option PyData}
theorem spB_ok {x4 x5 x6 x7 : Option PyData} {dn : List (List Nat × Pat)} {st : List (List Nat × Pat)} {kvs : List (Key × PyData)} {x : List Nat × Pat} (hk : Kv (vv dn) kvs) (hx : En x) (hdn : dn.length ≤ 1000) (hs : st.length ≤ 1000) :
    ∃ kvs', spB [x0, some (rf w.length), some (rf (w.length + 1)), some (rf (w.length + 2)), x4, x5, x6, x7] (w ++ [.lst (ownsD dn), .dK kvs, .lst ((st ++ [x]).map prD)])
      = .nx [x0, some (rf w.length), some (rf (w.length + 1)), some (rf (w.length + 2)), some (plD x.1), some (toD x.2), x6, x7] (w ++ [.lst (ownsD (dn ++ [x])), .dK kvs', .lst ((st ++ kidsR x).map prD)]) ∧ Kv (vv (dn ++ [x])) kvs' := by
  have e1 : (st ++ [x]).map prD = st.map prD ++ [.tuple [plD x.1, toD x.2]] := by rw [List.map_append]; rfl
  have pp := popL_ok (w := w) (x0 := x0) (x4 := x4) (x5 := x5) (x6 := x6) (x7 := x7) (own := ownsD dn) (pile := st.map prD) (kvs := kvs) (p := plD x.1) (q := toD x.2)
  rw [e1]
  obtain ⟨pl, p⟩ := x
  have ti := isi_str (w := w ++ [.lst (ownsD dn), .dK kvs, .lst (st.map prD)]) (ρ := [x0, some (rf w.length), some (rf (w.length + 1)), some (rf (w.length + 2)), some (plD pl), some (toD p), x6, x7]) (i := 5) (p := p) rfl
  have vl := vv_len dn
  cases p with
  | var n =>
    have hv : vv (dn ++ [(pl, .var n)]) = vv dn ++ [(S (63 :: n), plD pl)] := by unfold vv; rw [List.filterMap_append]; rfl
    have ho : ownsD (dn ++ [(pl, .var n)]) = ownsD dn := by unfold ownsD oo; rw [List.filter_append]; simp [isV]
    have pt := putL_ok (w := w) (x0 := x0) (x6 := x6) (x7 := x7) (own := ownsD dn) (pile := st.map prD) (kvs := kvs) (v := S (63 :: n)) (d := plD pl) hk (by omega)
    refine ⟨_, ?_, by rw [hv]; exact hk.put _ _⟩
    rw [ho]
    have hk0 : kidsR (pl, Pat.var n) = [] := rfl
    rw [hk0, List.append_nil]
    have pt' : putL [x0, some (rf w.length), some (rf (w.length + 1)), some (rf (w.length + 2)), some (plD pl), some (toD (.var n)), x6, x7] (w ++ [.lst (ownsD dn), .dK kvs, .lst (st.map prD)]) = .nx [x0, some (rf w.length), some (rf (w.length + 1)), some (rf (w.length + 2)), some (plD pl), some (toD (.var n)), x6, x7] (w ++ [.lst (ownsD dn), .dK (putD kvs (.inr (S (63 :: n))) (.list (plc (vv dn) (S (63 :: n)) ++ [plD pl]))), .lst (st.map prD)]) := pt
    unfold spB
    rw [seq_nx pp]
    simp only [sIf]
    rw [ti]
    simp only [isV, Oc.thenS, cond_true]
    exact pt'
  | node hd ps =>
    have hv : vv (dn ++ [(pl, .node hd ps)]) = vv dn := by unfold vv; rw [List.filterMap_append]; simp [vOf]
    have ho : ownsD (dn ++ [(pl, .node hd ps)]) = ownsD dn ++ [ownD (pl, .node hd ps)] := by unfold ownsD oo; rw [List.filter_append, List.map_append]; rfl
    have ol : (ownsD dn).length ≤ 1000 := by unfold ownsD oo; rw [List.length_map]; exact Nat.le_trans (List.length_filter_le ..) hdn
    have q : pl.length + (1 + nnA ps) ≤ 100000 := hx.pl
    have l2 := len_nnA ps
    have o1 := ownL_ok (w := w) (x0 := x0) (x6 := x6) (x7 := x7) (own := ownsD dn) (pile := st.map prD) (kvs := kvs) (pl := pl) (hd := hd) (ps := ps) ol
    have o2 := extL_ok (w := w) (x0 := x0) (x6 := x6) (x7 := x7) (own := ownsD dn ++ [ownD (pl, .node hd ps)]) (kvs := kvs) (st := st) (pl := pl) (hd := hd) (ps := ps) (by omega) (by omega) (by omega)
    refine ⟨kvs, ?_, by rw [hv]; exact hk⟩
    rw [ho]
    unfold spB
    rw [seq_nx pp]
    simp only [sIf]
    rw [ti]
    simp only [isV, Oc.thenS, cond_false]
    rw [seq_nx o1]
    exact o2
theorem sp_loop (SB : FS) (hSB : ∀ {x4 x5 x6 x7 : Option PyData} {dn : List (List Nat × Pat)} {st : List (List Nat × Pat)} {kvs : List (Key × PyData)} {x : List Nat × Pat}, Kv (vv dn) kvs → En x → dn.length ≤ 1000 → st.length ≤ 1000 →
    ∃ kvs', SB [x0, some (rf w.length), some (rf (w.length + 1)), some (rf (w.length + 2)), x4, x5, x6, x7] (w ++ [.lst (ownsD dn), .dK kvs, .lst ((st ++ [x]).map prD)])
      = .nx [x0, some (rf w.length), some (rf (w.length + 1)), some (rf (w.length + 2)), some (plD x.1), some (toD x.2), x6, x7] (w ++ [.lst (ownsD (dn ++ [x])), .dK kvs', .lst ((st ++ kidsR x).map prD)]) ∧ Kv (vv (dn ++ [x])) kvs') :
    ∀ (n : Nat) (dn st : List (List Nat × Pat)) (kvs : List (Key × PyData)) (x4 x5 x6 x7 : Option PyData), (ndsS st).length < n → dn.length + (ndsS st).length ≤ 1000 → (∀ x ∈ st, En x) → Kv (vv dn) kvs →
    ∃ y4 y5 y6 y7 kvs', whL (tB' (eB neL (eV 3) (eLst aN))) SB n [x0, some (rf w.length), some (rf (w.length + 1)), some (rf (w.length + 2)), x4, x5, x6, x7] (w ++ [.lst (ownsD dn), .dK kvs, .lst (st.map prD)])
      = .nx [x0, some (rf w.length), some (rf (w.length + 1)), some (rf (w.length + 2)), y4, y5, y6, y7] (w ++ [.lst (ownsD (dn ++ ndsS st)), .dK kvs', .lst []]) ∧ Kv (vv (dn ++ ndsS st)) kvs'
  | 0, _, _, _, _, _, _, _, h, _, _, _ => by omega
  | n + 1, dn, st, kvs, x4, x5, x6, x7, hn, h5, he, hk => by
    rw [wh_succ, ne_nil_ok (i := 3) rfl at2]
    simp only [Oc.thenS]
    rcases List.eq_nil_or_concat st with rfl | ⟨st, x, rfl⟩
    · have e0 : ndsS [] = [] := rfl
      refine ⟨x4, x5, x6, x7, kvs, ?_, by rw [e0, List.append_nil]; exact hk⟩
      rw [e0, List.append_nil]
      rfl
    · rw [List.concat_eq_append] at *
      have ex := he x (by simp)
      have ln : (ndsS (st ++ [x])).length = nn x.2 + (ndsS st).length := by rw [ndsS_snoc, List.length_append, nds_len]
      have ls : st.length ≤ (ndsS st).length := by
        have : ∀ l : List (List Nat × Pat), l.length ≤ (l.flatMap fun x => nds x.1 x.2).length := fun l => by
          induction l with
          | nil => exact Nat.le_refl _
          | cons a l ih => rw [List.flatMap_cons, List.length_append, nds_len, List.length_cons]; have := nn_pos a.2; omega
        have := this st.reverse
        rwa [List.length_reverse] at this
      have np := nn_pos x.2
      obtain ⟨kvs1, e1, hk1⟩ := hSB (x4 := x4) (x5 := x5) (x6 := x6) (x7 := x7) (dn := dn) (st := st) (kvs := kvs) hk ex (by omega) (by omega)
      have pp := ndsS_pop st x
      rw [pp] at hn h5 ⊢
      rw [List.length_cons] at hn h5
      obtain ⟨y4, y5, y6, y7, kvs', ih, hk'⟩ := sp_loop SB hSB n (dn ++ [x]) (st ++ kidsR x) kvs1 (some (plD x.1)) (some (toD x.2)) x6 x7 (by omega) (by simp; omega) (fun y hy => by
        rcases List.mem_append.mp hy with hy | hy
        · exact he y (List.mem_append_left _ hy)
        · exact ex.kids hy) hk1
      rw [List.append_assoc, List.singleton_append] at ih hk'
      refine ⟨y4, y5, y6, y7, kvs', ?_, hk'⟩
      have hne : (!((st ++ [x]).map prD).isEmpty) = true := by simp
      rw [hne, cond_true, e1]
      exact ih
theorem spots_ok {p : Pat} (h : Sml p) : ∃ kvs, F__law_spots [toD p] w = .ok (.tuple [.list (ownsD (nds [] p)), rf (w.length + 1)]) (w ++ [.dead, .dK kvs, .lst []]) ∧ Kv (vv (nds [] p)) kvs := by
  have hn := h.nn
  have e1 : ndsS [([], p)] = nds [] p := by simp [ndsS]
  obtain ⟨SB, hSB⟩ : ∃ SB, SB = spB := ⟨_, rfl⟩
  obtain ⟨N0, hN0⟩ : ∃ N0 : Nat, N0 = 1000000 := ⟨_, rfl⟩
  obtain ⟨y4, y5, y6, y7, kvs, e, hk⟩ := sp_loop (w := w) (x0 := some (toD p)) SB (by rw [hSB]; exact spB_ok) N0 [] [([], p)] [] none none none none (by rw [e1, nds_len]; omega) (by rw [e1, nds_len]; simp; omega) (fun x hx => by
    rw [List.mem_singleton] at hx; subst hx; exact ⟨h.ok, Nat.le_trans h.wt (by omega), by show 0 + nn p ≤ 100000; omega⟩) ⟨rfl, fun k hk => by cases hk⟩
  rw [e1, List.nil_append] at e hk
  refine ⟨kvs, ?_, hk⟩
  have s1 : sPar3 1 2 3 (aC (eLstS aN) (aC eD0 (aC (eLstS (aC (eTup (aC (eTup aN) (aC (eV 0) aN))) aN)) aN))) [some (toD p), none, none, none, none, none, none, none] w = .nx [some (toD p), some (rf w.length), some (rf (w.length + 1)), some (rf (w.length + 2)), none, none, none, none] (w ++ [.lst (ownsD []), .dK [], .lst ([([], p)].map prD)]) := by
    have z1 : szOk 1 = true := szOk_of (by omega)
    simp only [sPar3, aC, aN, eLstS, eD0, eTup, eV, Oc.bind, List.getElem?_cons_zero, List.length_nil, List.length_cons, Nat.zero_add, Nat.reduceAdd, sz0, sz2, z1, Oc.on, cond_true, Oc.thenS, List.length_append, List.set_cons_zero, List.set_cons_succ, List.append_assoc, List.cons_append, List.nil_append]
    rfl
  have b : b__law_spots [some (toD p), none, none, none, none, none, none, none] w = .rt (.tuple [.list (ownsD (nds [] p)), rf (w.length + 1)]) (w ++ [.dead, .dK kvs, .lst []]) := by
    rw [spots_eq, seq_nx s1, ← hSB]
    have gw : sWh (tB' (eB neL (eV 3) (eLst aN))) SB = whL (tB' (eB neL (eV 3) (eLst aN))) SB N0 := by rw [hN0]; rfl
    rw [gw, seq_nx e]
    have f1 : fzD (w ++ [.lst (ownsD (nds [] p)), .dK kvs, .lst []]) (rf w.length) = some (.list (ownsD (nds [] p)), w ++ [.dead, .dK kvs, .lst []]) := by
      simp only [fzD, loc_rf, at0, st0]
    rw [seq_nx (ρ1 := [some (toD p), some (.list (ownsD (nds [] p))), some (rf (w.length + 1)), some (rf (w.length + 2)), y4, y5, y6, y7]) (w1 := w ++ [.dead, .dK kvs, .lst []]) (by
      simp only [sFz, List.getElem?_cons_zero, List.getElem?_cons_succ, f1, List.set_cons_zero, List.set_cons_succ])]
    simp only [sRet, eTup, aC, aN, eV, Oc.bind, List.getElem?_cons_zero, List.getElem?_cons_succ, List.length_cons, List.length_nil, Nat.zero_add, Nat.reduceAdd, sz2, Oc.on, cond_true, Oc.thenS]
  show leave w.length (b__law_spots [some (toD p), none, none, none, none, none, none, none] w) = _
  rw [b]
  have nb : bnd w.length (.tuple [.list (ownsD (nds [] p)), rf (w.length + 1)]) = false := by
    have r1 : bnd w.length (rf (w.length + 1)) = false := by
      show bndK w.length [(.int ((w.length + 1 : Nat) : Int), .none)] = false
      unfold bndK
      exact decide_eq_false (by omega)
    show (bnd w.length (.list (ownsD (nds [] p))) && (bnd w.length (rf (w.length + 1)) && true)) = false
    rw [r1]; simp
  simp only [leave, nb, Bool.and_false]
  rfl
end
end Tk

set_option Elab.async false
set_option linter.all false
set_option maxRecDepth 100000
set_option maxHeartbeats 4000000
namespace Tk
open PySem L2 Td Tg
mutual
theorem isPat_ok : ∀ (p : Pat) (l : Nat), ok p = true → (toD p).depth < 2 * l → isPat l (toD p) = true
  | _, 0, _, h => by omega
  | .var n, l + 1, h, _ => by
    have : varB (toD (.var n)) = true := varB_toD h
    show (varB (toD (.var n)) || _) = true
    rw [this]; rfl
  | .node hd ps, l + 1, h, hdp => by
    have h : (nmL hd && oks ps) = true := h
    rw [Bool.and_eq_true] at h
    show (false || (nameS (S hd) && (toDs ps).all (isPat l))) = true
    rw [nameS_S, h.1, isPats_ok ps l h.2 (by
      have : (toD (.node hd ps)).depth = max 0 (max (PyData.depthAll (toDs ps) + 1) 0) + 1 := by simp [toD, PyData.depth, PyData.depthAll]
      omega)]; rfl
theorem isPats_ok : ∀ (ps : List Pat) (l : Nat), oks ps = true → PyData.depthAll (toDs ps) + 1 < 2 * l + 1 → (toDs ps).all (isPat l) = true
  | [], _, _, _ => rfl
  | p :: ps, l, h, hd => by
    have h : (ok p && oks ps) = true := h
    rw [Bool.and_eq_true] at h
    simp only [toDs, PyData.depthAll] at hd
    show (isPat l (toD p) && (toDs ps).all (isPat l)) = true
    rw [isPat_ok p l h.1 (by omega), isPats_ok ps l h.2 (by omega)]; rfl
end
def plsD (p : Pat) : PyData := .tuple ((oo (nds [] p)).map fun x => plD x.1)
def varsD (L : List (Str × PyData)) : PyData := .tuple ((srtS (keys L)).map .str)
theorem pls_dt {p : Pat} (h : Sml p) : Dt 3 441 (plsD p) := by
  have hn := h.nn
  have pls := nds_pl p [] (by omega) (fun i hi => by cases hi)
  have := Dt.tup (D := 2) (W := 22) (ds := (oo (nds [] p)).map fun x => plD x.1) fun d hd => by
    obtain ⟨x, hx, rfl⟩ := List.mem_map.mp hd
    obtain ⟨h1, h2⟩ := pls x (List.mem_filter.mp hx).1
    have h3 : x.1.length ≤ 20 := by simp only [List.length_nil] at h2; omega
    exact (Dt.pl h1 (m := 20) h3).mono (Nat.le_refl _) (by omega)
  rw [List.length_map] at this
  have l : (oo (nds [] p)).length ≤ 20 := by unfold oo; exact Nat.le_trans (List.length_filter_le ..) (by rw [nds_len]; exact hn)
  exact this.mono (by omega) (by omega)
theorem vars_dt {p : Pat} (h : Sml p) : Dt 2 201 (varsD (vv (nds [] p))) := Dt.strs h.vs (fun k hk => srtS_mem.mp hk) (srt_keys_len h.vs)
theorem dbl_dt {p : Pat} (h : Sml p) : Dt 2 201 (dbl (vv (nds [] p))) := Dt.strs h.vs (fun k hk => srtS_mem.mp (List.mem_filter.mp hk).1) (Nat.le_trans (List.length_filter_le ..) (srt_keys_len h.vs))
def fourD (p : Pat) : List PyData := [varsD (vv (nds [] p)), plsD p, VPl (vv (nds [] p)), dbl (vv (nds [] p))]
theorem four_dt {p : Pat} (h : Sml p) : ∀ d ∈ fourD p, Dt 5 9041 d := by
  intro d hd
  simp only [fourD, List.mem_cons, List.not_mem_nil, or_false] at hd
  rcases hd with rfl | rfl | rfl | rfl
  · exact (vars_dt h).mono (by omega) (by omega)
  · exact (pls_dt h).mono (by omega) (by omega)
  · exact vpl_dt h.vs
  · exact (dbl_dt h).mono (by omega) (by omega)
theorem valD_mem {kvs : List (Key × PyData)} {kv : Key × PyData} (nd : (kvs.map (·.1)).Nodup) (h : kv ∈ kvs) : valD kvs kv.1 = some kv.2 := by
  induction kvs with
  | nil => cases h
  | cons x kvs ih =>
    rw [List.map_cons, List.nodup_cons] at nd
    unfold valD
    rw [List.find?_cons]
    rcases List.mem_cons.mp h with rfl | h
    · simp
    · have : ¬ x.1 = kv.1 := fun e => nd.1 (e ▸ List.mem_map_of_mem h)
      rw [decide_eq_false this]
      exact ih nd.2 h
theorem addS_nodup {L : List Str} {x : Str} (h : L.Nodup) : (addS L x).Nodup := by
  unfold addS
  by_cases hx : x ∈ L
  · rw [decide_eq_true hx]; exact h
  · rw [decide_eq_false hx]
    show (L ++ [x]).Nodup
    rw [List.nodup_append]
    exact ⟨h, by simp, fun a ha b hb => by rw [List.mem_singleton] at hb; subst hb; exact fun e => hx (e ▸ ha)⟩
theorem ddS_nodup (xs : List Str) : (ddS xs).Nodup := by
  have : ∀ (xs acc : List Str), acc.Nodup → (xs.foldl addS acc).Nodup := fun xs => by
    induction xs with
    | nil => intro acc h; exact h
    | cons x xs ih => intro acc h; exact ih _ (addS_nodup h)
  exact this xs [] (by simp)
theorem Kv.bnd {L : List (Str × PyData)} {kvs : List (Key × PyData)} (h : Kv L kvs) (hv : Vs L) (n : Nat) : bndO n (.dK kvs) = true := by
  show bndA n (kvs.map (·.2)) = true
  have : ∀ (xs : List PyData), (∀ d ∈ xs, Td.bnd n d = true) → bndA n xs = true := fun xs => by
    induction xs with
    | nil => intro _; rfl
    | cons x xs ih => intro h; simp only [bndA, h x List.mem_cons_self, ih fun y hy => h y (List.mem_cons_of_mem _ hy)]; rfl
  refine this _ fun d hd => ?_
  obtain ⟨kv, hkv, rfl⟩ := List.mem_map.mp hd
  have nd : (kvs.map (·.1)).Nodup := by
    rw [h.ks]
    exact List.Pairwise.map _ (fun a b hab e => hab (Sum.inr.inj e)) (ddS_nodup _)
  have hv1 := valD_mem nd hkv
  have hm : kv.1 ∈ kvs.map (·.1) := List.mem_map_of_mem hkv
  rw [h.ks] at hm
  obtain ⟨k, hk, e⟩ := List.mem_map.mp hm
  rw [← e, h.at_ k hk] at hv1
  have := Option.some.inj hv1
  rw [← this]
  have := bnd_okD (n := n) _ (hv.pls k).ok
  exact this
theorem bndA_dt {ds : List PyData} {D W n : Nat} (h : ∀ d ∈ ds, Dt D W d) : bndA n ds = true := bndA_okD _ (okDA_iff.mpr fun d hd => (h d hd).ok)
end Tk

set_option Elab.async false
set_option linter.all false
set_option maxRecDepth 100000
set_option maxHeartbeats 4000000
namespace Tk
open PySem L2 Td Tg
section
variable {W : Ws} {p : Pat} {kvs : List (Key × PyData)} {q : Nat}
/-- the parts told by the dict of the law -/
theorem lw_vars (h : Sml p) (hk : Kv (vv (nds [] p)) kvs) (hq : W[q]? = some (.dK kvs)) {ρ : Ev} (h5 : ρ[5]? = some (some (rf q))) : eCb sortDk (aC (eV 5) aN) ρ W = .ok (.list ((srtS (keys (vv (nds [] p)))).map .str)) W := by
  have vs := h.vs
  have kl : decide ((keys (vv (nds [] p))).length < 64) = true := decide_eq_true (by have := keys_len (vv (nds [] p)); have := vs.len; omega)
  have sk : sortDk W [rf q] = some (.list ((srtS (keys (vv (nds [] p)))).map .str)) := by simp only [sortDk, dk_at hq, txtK_keys hk.ks, kl, if_true]
  simp only [eCb, aC, aN, eV, h5, Oc.bind, sk, Oc.of]
theorem lw_own (h : Sml p) {x0 x1 x2 x3 x5 x6 x7 x8 : Option PyData} : eCb tupleD (aC (eLc (iE (eV 4)) (gT 2 (gC (gN 7) (gC (gN 8) gZ))) tYs (eV 7) [7, 8]) aN) [x0, x1, x2, x3, some (.list (ownsD (nds [] p))), x5, x6, x7, x8] W = .ok (plsD p) W := by
  have hn := h.nn
  have ol : (ownsD (nds [] p)).length ≤ 20 := by unfold ownsD oo; rw [List.length_map]; exact Nat.le_trans (List.length_filter_le ..) (by rw [nds_len]; exact hn)
  have lc := lcL_map (gt := gT 2 (gC (gN 7) (gC (gN 8) gZ))) (fe := eV 7) (ρ := [x0, x1, x2, x3, some (.list (ownsD (nds [] p))), x5, x6, none, none]) (w := W) t1 (ownsD (nds [] p)) (by rw [sizeLine_eq]; omega) fun d hd => by
    obtain ⟨⟨pl, q⟩, hx, rfl⟩ := List.mem_map.mp hd
    cases q with
    | var n => exact absurd (List.mem_filter.mp hx).2 (by simp [isV])
    | node h9 ps => exact ⟨[x0, x1, x2, x3, some (.list (ownsD (nds [] p))), x5, x6, some (plD pl), some (.str (S h9))], rfl, rfl⟩
  have e : (ownsD (nds [] p)).map t1 = (oo (nds [] p)).map fun x => plD x.1 := by
    unfold ownsD
    rw [List.map_map]
    refine List.map_congr_left fun x hx => ?_
    obtain ⟨pl, q⟩ := x
    cases q with
    | var n => exact absurd (List.mem_filter.mp hx).2 (by simp [isV])
    | node hd ps => rfl
  rw [e] at lc
  generalize ownsD (nds [] p) = OW at *
  simp only [eCb, aC, aN, eLc, iE, eV, Oc.bind, List.getElem?_cons_zero, List.getElem?_cons_succ, itD, Oc.of, wipeE, List.set_cons_zero, List.set_cons_succ, lc, tupleD, lstOf_list, Option.map_some]
  rfl
theorem lw_vpl (h : Sml p) (hk : Kv (vv (nds [] p)) kvs) (hq : W[q]? = some (.dK kvs)) {x0 x1 x2 x3 x4 x6 x7 x8 : Option PyData} : eCb tupleD (aC (eLc (iE (eCb sortDk (aC (eV 5) aN))) (gN 6) tYs (eTup (aC (eV 6) (aC (eCb tupleD (aC (eDg (eV 5) (eV 6)) aN)) aN))) [6]) aN) [x0, x1, x2, x3, x4, some (rf q), x6, x7, x8] W = .ok (VPl (vv (nds [] p))) W := by
  have vs := h.vs
  have lv := lw_vars h hk hq (ρ := [x0, x1, x2, x3, x4, some (rf q), x6, x7, x8]) rfl
  generalize vv (nds [] p) = L at *
  have lc := lcL_map (gt := gN 6) (fe := eTup (aC (eV 6) (aC (eCb tupleD (aC (eDg (eV 5) (eV 6)) aN)) aN))) (ρ := [x0, x1, x2, x3, x4, some (rf q), none, x7, x8]) (w := W) (fun d => match d with | .str k => .tuple [.str k, .tuple (plc L k)] | _ => .none) ((srtS (keys L)).map .str) (by rw [List.length_map, sizeLine_eq]; have := srt_keys_len vs; omega) fun d hd => by
    obtain ⟨k, hk', rfl⟩ := List.mem_map.mp hd
    have h1 := hk.at_ k (srtS_mem.mp hk')
    refine ⟨[x0, x1, x2, x3, x4, some (rf q), some (.str k), x7, x8], rfl, ?_⟩
    simp only [eTup, aC, aN, eV, eCb, eDg, Oc.bind, List.getElem?_cons_zero, List.getElem?_cons_succ, dk_at hq, Option.bind_some, keyD, h1, Oc.of, tupleD, lstOf_list, Option.map_some, List.length_cons, List.length_nil, Nat.zero_add, Nat.reduceAdd, sz2, Oc.on, cond_true]
  rw [List.map_map] at lc
  have lc' : lcL (gN 6) tYs (eTup (aC (eV 6) (aC (eCb tupleD (aC (eDg (eV 5) (eV 6)) aN)) aN))) [x0, x1, x2, x3, x4, some (rf q), none, x7, x8] ((srtS (keys L)).map .str) W [] = .ok ((srtS (keys L)).map fun k => .tuple [.str k, .tuple (plc L k)]) W := lc
  rw [eCb, aC, eLc, iE, lv]
  simp only [Oc.bind, itD, Oc.of, wipeE, List.set_cons_zero, List.set_cons_succ]
  rw [lc']
  simp only [aN, Oc.bind, tupleD, lstOf_list, Option.map_some, Oc.of]
  rfl
theorem lw_dbl (h : Sml p) (hk : Kv (vv (nds [] p)) kvs) (hq : W[q]? = some (.dK kvs)) {x0 x1 x2 x3 x4 x6 x7 x8 : Option PyData} : eCb tupleD (aC (eLc (iE (eCb sortDk (aC (eV 5) aN))) (gN 6) (tB' (eB gtD (eCb lenD (aC (eDg (eV 5) (eV 6)) aN)) (eC (.int 1)))) (eV 6) [6]) aN) [x0, x1, x2, x3, x4, some (rf q), x6, x7, x8] W = .ok (dbl (vv (nds [] p))) W := by
  have vs := h.vs
  have lv := lw_vars h hk hq (ρ := [x0, x1, x2, x3, x4, some (rf q), x6, x7, x8]) rfl
  generalize vv (nds [] p) = L at *
  have lc := lcL_pure (gt := gN 6) (tt := tB' (eB gtD (eCb lenD (aC (eDg (eV 5) (eV 6)) aN)) (eC (.int 1)))) (fe := eV 6) (ρ := [x0, x1, x2, x3, x4, some (rf q), none, x7, x8]) (w := W) (fun d => match d with | .str k => decide (1 < (plc L k).length) | _ => false) id ((srtS (keys L)).map .str) [] (by rw [List.length_map, sizeLine_eq, List.length_nil]; have := srt_keys_len vs; omega) fun d hd => by
    obtain ⟨k, hk', rfl⟩ := List.mem_map.mp hd
    have h1 := hk.at_ k (srtS_mem.mp hk')
    refine ⟨[x0, x1, x2, x3, x4, some (rf q), some (.str k), x7, x8], rfl, ?_, fun _ => rfl⟩
    simp only [tB', eB, aC, aN, eV, eC, eCb, eDg, Oc.bind, List.getElem?_cons_zero, List.getElem?_cons_succ, dk_at hq, Option.bind_some, keyD, h1, Oc.of, lenD, lstOf_list, Option.map_some, gtD, cmpD]
    congr 1
    simp
    omega
  rw [List.nil_append, List.map_id, List.filter_map] at lc
  have lc' : lcL (gN 6) (tB' (eB gtD (eCb lenD (aC (eDg (eV 5) (eV 6)) aN)) (eC (.int 1)))) (eV 6) [x0, x1, x2, x3, x4, some (rf q), none, x7, x8] ((srtS (keys L)).map .str) W [] = .ok (((srtS (keys L)).filter fun k => decide (1 < (plc L k).length)).map .str) W := lc
  rw [eCb, aC, eLc, iE, lv]
  simp only [Oc.bind, itD, Oc.of, wipeE, List.set_cons_zero, List.set_cons_succ]
  rw [lc']
  simp only [aN, Oc.bind, tupleD, lstOf_list, Option.map_some, Oc.of]
  rfl
end
theorem app_ok {w : Ws} {q : Nat} {ds : List PyData} {d : PyData} {ρ : Ev} {i : Nat} {fe : FE} (hi : ρ[i]? = some (some (rf q))) (hw : w[q]? = some (.lst ds)) (he : fe ρ w = .ok d w) (hl : ds.length ≤ 1000) : sExp (eLm apL (eV i) (aC fe aN)) ρ w = .nx ρ (w.set q (.lst (ds ++ [d]))) := by
  have u := upd_at (k := fun xs => apL xs [d]) (d := .none) (ys := ds ++ [d]) hw (by simp only [apL]; rw [if_pos (by rw [sizeLine_eq]; omega)])
  simp only [sExp, eLm, eV, hi, Oc.bind, lst_at hw, Option.isSome_some, Oc.on, cond_true, aC, he, aN, u, Oc.thenS]
theorem ev_call {F : FF} {ρ : Ev} {w : Ws} {i : Nat} {d r : PyData} (hi : ρ[i]? = some (some d)) (h : F [d] w = .ok r w) : eCall F [] (aC (eV i) aN) ρ w = .ok r w := by
  simp only [eCall, aC, aN, eV, hi, Oc.bind, List.append_nil, h]
theorem ev_callN {F : FF} {ρ : Ev} {w : Ws} {i : Nat} {d r : PyData} (hi : ρ[i]? = some (some d)) (h : F [d] w = .ok r w) : eCallN 0 1 (fun as bs => arr [(1, 0)] as [] bs) F aN (aC (eV i) aN) ρ w = .ok r w := by
  have e : arr [(1, 0)] ([] : List PyData) [] [d] = [d] := rfl
  simp only [eCallN, aC, aN, eV, hi, Oc.bind, List.length_cons, List.length_nil, Nat.zero_add, beq_self_eq_true, Bool.and_self, Oc.on, cond_true, e, h]
theorem agrees_ok {w : Ws} {p : Pat} (hc : Cl w) (h : Sml p) : F__law_agrees [toD p] w = .ok (.bool true) w := by
  obtain ⟨kvs, e1, hk⟩ := spots_ok (w := w) h
  have vs := h.vs
  have f4 := four_dt h
  obtain ⟨W3, hW3⟩ : ∃ W3 : Ws, W3 = w ++ [.dead, .dK kvs, .lst []] := ⟨_, rfl⟩
  rw [← hW3] at e1
  have l3 : W3.length = w.length + 3 := by rw [hW3]; simp
  have q3 : W3[w.length + 1]? = some (.dK kvs) := by rw [hW3]; exact at1
  have c3 : Cl W3 := by
    have a1 : Cl (w ++ [.dead]) := hc.snoc rfl
    have a2 : Cl (w ++ [.dead] ++ [.dK kvs]) := a1.snoc (hk.bnd vs _)
    have a3 : Cl (w ++ [.dead] ++ [.dK kvs] ++ [.lst []]) := a2.snoc rfl
    have : W3 = w ++ [.dead] ++ [.dK kvs] ++ [.lst []] := by rw [hW3]; simp
    rw [this]; exact a3
  obtain ⟨A, hA⟩ : ∃ A, A = varsD (vv (nds [] p)) := ⟨_, rfl⟩
  obtain ⟨B, hB⟩ : ∃ B, B = plsD p := ⟨_, rfl⟩
  obtain ⟨C, hC⟩ : ∃ C, C = VPl (vv (nds [] p)) := ⟨_, rfl⟩
  obtain ⟨D, hD⟩ : ∃ D, D = dbl (vv (nds [] p)) := ⟨_, rfl⟩
  have f4' : ∀ d ∈ [A, B, C, D], Dt 5 9041 d := by rw [hA, hB, hC, hD]; exact f4
  obtain ⟨T, hT⟩ : ∃ T, T = toD p := ⟨_, rfl⟩
  obtain ⟨O, hO⟩ : ∃ O, O = ownsD (nds [] p) := ⟨_, rfl⟩
  -- stores
  have g4 : ∀ xs : List PyData, (W3 ++ [Ob.lst xs])[W3.length]? = some (.lst xs) := fun xs => by simp
  have s4 : ∀ (xs ys : List PyData), (W3 ++ [Ob.lst xs]).set W3.length (.lst ys) = W3 ++ [Ob.lst ys] := fun xs ys => by simp
  have k4 : ∀ xs : List PyData, (W3 ++ [Ob.lst xs])[w.length + 1]? = some (.dK kvs) := fun xs => getElem?_snoc_lt q3
  obtain ⟨W4, hW4⟩ : ∃ W4 : Ws, W4 = W3 ++ [Ob.lst [A, B, C, D]] := ⟨_, rfl⟩
  have c4 : Cl W4 := by rw [hW4]; exact c3.snoc (bndA_dt f4')
  have v1 : ∀ v : Ws, F_variables_of [T] v = .ok A v := fun v => by rw [hT, hA]; exact variables_ok h v
  have v2 : ∀ v : Ws, F_own_places [T] v = .ok B v := fun v => by rw [hT, hB]; exact own_ok h v
  have v3 : ∀ {v : Ws}, Cl v → F_variable_places [T] v = .ok C v := fun hv => by rw [hT, hC]; exact vplaces_ok h hv
  have v4 : ∀ {v : Ws}, Cl v → F_doubled_of [T] v = .ok D v := fun hv => by rw [hT, hD]; exact doubled_ok h hv
  have ip : ∀ v : Ws, F_is_pattern 12 [T] v = .ok (.bool true) v := fun v => by
    rw [hT, is_pattern_ok v 12 (toD p) (okD_toD p h.ok) (by have := h.dp; omega) (by have := h.wt; omega), isPat_ok p 12 h.ok (by have := h.dp; omega)]
  have a1 : ∀ {x1 x2 x3 x6 x7 x8 : Option PyData}, eCb tupleD (aC (eCb sortDk (aC (eV 5) aN)) aN) [some T, x1, x2, x3, some (.list O), some (rf (w.length + 1)), x6, x7, x8] W3 = .ok A W3 := by
    intro x1 x2 x3 x6 x7 x8
    have := lw_vars h hk q3 (ρ := [some T, x1, x2, x3, some (.list O), some (rf (w.length + 1)), x6, x7, x8]) rfl
    rw [eCb, aC, this, hA]
    simp only [aN, Oc.bind, tupleD, lstOf_list, Option.map_some, Oc.of]
    rfl
  have a2 : ∀ {x1 x2 x3 x6 x7 x8 : Option PyData}, eCb tupleD (aC (eLc (iE (eV 4)) (gT 2 (gC (gN 7) (gC (gN 8) gZ))) tYs (eV 7) [7, 8]) aN) [some T, x1, x2, x3, some (.list O), some (rf (w.length + 1)), x6, x7, x8] W3 = .ok B W3 := by
    intro x1 x2 x3 x6 x7 x8
    rw [hO, hB]; exact lw_own h
  have a3 : ∀ {x1 x2 x3 x6 x7 x8 : Option PyData} (xs : List PyData), eCb tupleD (aC (eLc (iE (eCb sortDk (aC (eV 5) aN))) (gN 6) tYs (eTup (aC (eV 6) (aC (eCb tupleD (aC (eDg (eV 5) (eV 6)) aN)) aN))) [6]) aN) [some T, x1, x2, x3, some (.list O), some (rf (w.length + 1)), x6, x7, x8] (W3 ++ [Ob.lst xs]) = .ok C (W3 ++ [Ob.lst xs]) := by
    intro x1 x2 x3 x6 x7 x8 xs
    rw [hC]; exact lw_vpl h hk (k4 xs)
  have a4 : ∀ {x1 x2 x3 x6 x7 x8 : Option PyData} (xs : List PyData), eCb tupleD (aC (eLc (iE (eCb sortDk (aC (eV 5) aN))) (gN 6) (tB' (eB gtD (eCb lenD (aC (eDg (eV 5) (eV 6)) aN)) (eC (.int 1)))) (eV 6) [6]) aN) [some T, x1, x2, x3, some (.list O), some (rf (w.length + 1)), x6, x7, x8] (W3 ++ [Ob.lst xs]) = .ok D (W3 ++ [Ob.lst xs]) := by
    intro x1 x2 x3 x6 x7 x8 xs
    rw [hD]; exact lw_dbl h hk (k4 xs)
  have e1' : F__law_spots [T] w = .ok (.tuple [.list O, rf (w.length + 1)]) W3 := by rw [hT, hO]; exact e1
  have r1 : reprD W4 [.list [.list [A, B, C, D], .list [A, B, C, D], .bool true]] = some (.str (PyData.list [.list [A, B, C, D], .list [A, B, C, D], .bool true]).shown) := by
    have d1 := Dt.lst f4'
    have d2 := Dt.lst (D := 6) (W := 36165) (ds := [.list [A, B, C, D], .list [A, B, C, D], .bool true]) (fun d hd => by
      simp only [List.mem_cons, List.not_mem_nil, or_false] at hd
      rcases hd with rfl | rfl | rfl
      · exact d1.mono (by omega) (by simp)
      · exact d1.mono (by omega) (by simp)
      · exact ⟨rfl, by simp [PyData.depth], by simp [wt]⟩)
    exact repr_of W4 d2.ok (by have := d2.dp; omega) (by have := d2.wt; simp only [List.length_cons, List.length_nil] at this; omega)
  have hT' : T = toD p := hT
  clear hA hB hC hD hT hO f4 hk vs e1
  have z1 : szOk 1 = true := szOk_of (by omega)
  have z3 : szOk 3 = true := szOk_of (by omega)
  have z4 : szOk 4 = true := szOk_of (by omega)
  show leave w.length (b__law_agrees [some (toD p), none, none, none, none, none, none, none, none] w) = _
  rw [← hT']
  have b : ∃ W6, b__law_agrees [some T, none, none, none, none, none, none, none, none] w = .rt (.bool true) W6 ∧ w.length ≤ W6.length ∧ ∀ j, j < w.length → W6[j]? = w[j]? := by
    unfold b__law_agrees
    rw [seq_nx (ρ1 := [some T, none, none, none, some (.list O), some (rf (w.length + 1)), none, none, none]) (w1 := W3) (by
      simp only [sAsg, eCall, aC, aN, eV, Oc.bind, List.getElem?_cons_zero, List.append_nil, e1', Oc.thenS, gT, gC, gZ, gN]; rfl)]
    rw [seq_nx (ρ1 := [some T, some (rf W3.length), none, none, some (.list O), some (rf (w.length + 1)), none, none, none]) (w1 := W3 ++ [Ob.lst [A, B]]) (by
      rw [sAsg, eLstS, aC, a1]
      simp only [Oc.bind]
      rw [aC, a2]
      simp only [aN, Oc.bind, List.length_cons, List.length_nil, Nat.zero_add, Nat.reduceAdd, sz2, Oc.on, cond_true, Oc.thenS, gN, List.set_cons_zero, List.set_cons_succ])]
    rw [seq_nx (ρ1 := [some T, some (rf W3.length), none, none, some (.list O), some (rf (w.length + 1)), none, none, none]) (w1 := W3 ++ [Ob.lst [A, B, C]]) (by
      have := app_ok (ρ := [some T, some (rf W3.length), none, none, some (.list O), some (rf (w.length + 1)), none, none, none]) (i := 1) rfl (g4 [A, B]) (a3 [A, B]) (by simp)
      rw [s4] at this; exact this)]
    rw [seq_nx (ρ1 := [some T, some (rf W3.length), none, none, some (.list O), some (rf (w.length + 1)), none, none, none]) (w1 := W4) (by
      have := app_ok (ρ := [some T, some (rf W3.length), none, none, some (.list O), some (rf (w.length + 1)), none, none, none]) (i := 1) rfl (g4 [A, B, C]) (a4 [A, B, C]) (by simp)
      rw [s4] at this; rw [hW4]; exact this)]
    have q1 := ev_call (F := F_variables_of) (ρ := [some T, some (rf W3.length), none, none, some (.list O), some (rf (w.length + 1)), none, none, none]) (i := 0) rfl (v1 W4)
    have q2 := ev_call (F := F_own_places) (ρ := [some T, some (rf W3.length), none, none, some (.list O), some (rf (w.length + 1)), none, none, none]) (i := 0) rfl (v2 W4)
    have q3 := ev_call (F := F_variable_places) (ρ := [some T, some (rf W3.length), none, none, some (.list O), some (rf (w.length + 1)), none, none, none]) (i := 0) rfl (v3 c4)
    have q4 := ev_call (F := F_doubled_of) (ρ := [some T, some (rf W3.length), none, none, some (.list O), some (rf (w.length + 1)), none, none, none]) (i := 0) rfl (v4 c4)
    rw [seq_nx (ρ1 := [some T, some (rf W3.length), some (.list [A, B, C, D]), none, some (.list O), some (rf (w.length + 1)), none, none, none]) (w1 := W4) (by
      rw [sAsg, eLst, aC, q1]
      simp only [Oc.bind]
      rw [aC, q2]
      simp only [Oc.bind]
      rw [aC, q3]
      simp only [Oc.bind]
      rw [aC, q4]
      simp only [aN, Oc.bind, List.length_cons, List.length_nil, Nat.zero_add, Nat.reduceAdd, z4, Oc.on, cond_true, Oc.thenS, gN, List.set_cons_zero, List.set_cons_succ])]
    obtain ⟨LR, hLR⟩ : ∃ LR : PyData, LR = .list [A, B, C, D] := ⟨_, rfl⟩
    rw [← hLR]
    have p1 := ev_callN (F := F_variables_of) (ρ := [some T, some (rf W3.length), some LR, none, some (.list O), some (rf (w.length + 1)), none, none, none]) (i := 0) rfl (v1 W4)
    have p2 := ev_callN (F := F_own_places) (ρ := [some T, some (rf W3.length), some LR, none, some (.list O), some (rf (w.length + 1)), none, none, none]) (i := 0) rfl (v2 W4)
    have p3 := ev_callN (F := F_variable_places) (ρ := [some T, some (rf W3.length), some LR, none, some (.list O), some (rf (w.length + 1)), none, none, none]) (i := 0) rfl (v3 c4)
    rw [seq_nx (ρ1 := [some T, some (rf W3.length), some LR, some (rf W4.length), some (.list O), some (rf (w.length + 1)), none, none, none]) (w1 := W4 ++ [Ob.lst [A, B, C]]) (by
      rw [sAsg, eLstS, aC, p1]
      simp only [Oc.bind]
      rw [aC, p2]
      simp only [Oc.bind]
      rw [aC, p3]
      simp only [aN, Oc.bind, List.length_cons, List.length_nil, Nat.zero_add, Nat.reduceAdd, z3, Oc.on, cond_true, Oc.thenS, gN, List.set_cons_zero, List.set_cons_succ])]
    have c5 : Cl (W4 ++ [Ob.lst [A, B, C]]) := c4.snoc (bndA_dt (D := 5) (W := 9041) fun d hd => f4' d (by
      simp only [List.mem_cons, List.not_mem_nil, or_false] at hd ⊢
      rcases hd with h | h | h <;> simp [h]))
    have p4 := ev_callN (F := F_doubled_of) (ρ := [some T, some (rf W3.length), some LR, some (rf W4.length), some (.list O), some (rf (w.length + 1)), none, none, none]) (i := 0) rfl (v4 c5)
    rw [seq_nx (ρ1 := [some T, some (rf W3.length), some LR, some (rf W4.length), some (.list O), some (rf (w.length + 1)), none, none, none]) (w1 := W4 ++ [Ob.lst [A, B, C, D]]) (by
      have := app_ok (ρ := [some T, some (rf W3.length), some LR, some (rf W4.length), some (.list O), some (rf (w.length + 1)), none, none, none]) (w := W4 ++ [Ob.lst [A, B, C]]) (q := W4.length) (ds := [A, B, C]) (i := 3) rfl (by simp) p4 (by simp)
      rw [show (W4 ++ [Ob.lst [A, B, C]]).set W4.length (Ob.lst ([A, B, C] ++ [D])) = W4 ++ [Ob.lst [A, B, C, D]] by simp] at this
      exact this)]
    rw [seq_nx (ρ1 := [some T, some (rf W3.length), some LR, some LR, some (.list O), some (rf (w.length + 1)), none, none, none]) (w1 := W4 ++ [Ob.dead]) (by
      have f : fzD (W4 ++ [Ob.lst [A, B, C, D]]) (rf W4.length) = some (LR, W4 ++ [Ob.dead]) := by
        simp only [fzD, loc_rf, List.getElem?_append_right (Nat.le_refl W4.length), Nat.sub_self, List.getElem?_cons_zero, hLR]
        simp
      simp only [sFz, List.getElem?_cons_zero, List.getElem?_cons_succ, f, List.set_cons_zero, List.set_cons_succ])]
    obtain ⟨W6, hW6⟩ : ∃ W6 : Ws, W6 = (W4 ++ [Ob.dead]).set W3.length Ob.dead := ⟨_, rfl⟩
    rw [seq_nx (ρ1 := [some T, some LR, some LR, some LR, some (.list O), some (rf (w.length + 1)), none, none, none]) (w1 := W6) (by
      have g : (W4 ++ [Ob.dead])[W3.length]? = some (.lst [A, B, C, D]) := by rw [hW4]; simp
      have f : fzD (W4 ++ [Ob.dead]) (rf W3.length) = some (LR, W6) := by
        simp only [fzD, loc_rf, g, hLR, hW6]
      simp only [sFz, List.getElem?_cons_zero, List.getElem?_cons_succ, f, List.set_cons_zero, List.set_cons_succ])]
    refine ⟨W6, ?_, by rw [hW6, hW4]; simp; omega, fun j hj => ?_⟩
    · have r1' : reprD W6 [.list [LR, LR, .bool true]] = some (.str (PyData.list [LR, LR, .bool true]).shown) := by rw [hLR]; exact r1
      have i1 := ev_call (F := F_is_pattern 12) (ρ := [some T, some LR, some LR, some LR, some (.list O), some (rf (w.length + 1)), none, none, none]) (i := 0) rfl (ip W6)
      generalize (PyData.list [LR, LR, .bool true]).shown = SH at r1'
      have le : (eLst (aC (eV 2) (aC (eV 3) (aC (eCall (F_is_pattern 12) [] (aC (eV 0) aN)) aN)))) [some T, some LR, some LR, some LR, some (.list O), some (rf (w.length + 1)), none, none, none] W6 = .ok (.list [LR, LR, .bool true]) W6 := by
        rw [eLst, aC]
        simp only [eV, List.getElem?_cons_zero, List.getElem?_cons_succ, Oc.bind]
        rw [aC]
        simp only [eV, List.getElem?_cons_zero, List.getElem?_cons_succ, Oc.bind]
        rw [aC]
        rw [i1]
        simp only [aN, Oc.bind, List.length_cons, List.length_nil, Nat.zero_add, Nat.reduceAdd, z3, Oc.on, cond_true]
      rw [sRet, eB, eCb, aC, le]
      simp only [aN, Oc.bind, r1', Oc.of]
      simp only [eCb, aC, aN, eLst, eV, eC, List.getElem?_cons_zero, List.getElem?_cons_succ, Oc.bind, List.length_cons, List.length_nil, Nat.zero_add, Nat.reduceAdd, z3, Oc.on, cond_true, r1', Oc.of, eqD_str, decide_true, Oc.thenS]
    · rw [hW6, hW4, hW3, List.getElem?_set_ne (by rw [← hW3]; omega), List.getElem?_append_left (by simp; omega), List.getElem?_append_left (by simp; omega), List.getElem?_append_left hj]
  obtain ⟨W6, b1, b2, b3⟩ := b
  rw [b1]
  exact leave_dt hc b2 b3 rfl
end Tk

set_option Elab.async false
set_option linter.all false
set_option maxRecDepth 100000
set_option maxHeartbeats 4000000
namespace Tk
open PySem L2 Td Tg
/-! ### draws -/
def fdL (cells : List Int) (spot rest calls : Int) : List PyData := [.list (cells.map .int), .int spot, .int rest, .int calls]
structure FdOk (ob : Ob) (n : Nat) : Prop where
  ex : ∃ cells spot rest calls, ob = .lst (fdL cells spot rest calls) ∧ cells.length ≤ 63 ∧ 0 ≤ spot ∧ 0 ≤ rest ∧ 0 ≤ calls ∧ calls ≤ n
theorem FdOk.mono {ob : Ob} {m n : Nat} (h : FdOk ob m) (hn : m ≤ n) : FdOk ob n := by
  obtain ⟨cells, spot, rest, calls, h1, h2, h3, h4, h5, h6⟩ := h.ex
  exact ⟨⟨cells, spot, rest, calls, h1, h2, h3, h4, h5, by omega⟩⟩
theorem fmod_rng {a m : Int} (h : 0 < m) : 0 ≤ a.fmod m ∧ a.fmod m < m := ⟨Int.fmod_nonneg_of_pos a h, Int.fmod_lt_of_pos a h⟩
theorem fdiv_nn {a m : Int} (ha : 0 ≤ a) (h : 0 < m) : 0 ≤ a.fdiv m := Int.fdiv_nonneg ha (Int.le_of_lt h)
section
variable {w : Ws} {l : Nat} {cells : List Int} {spot rest calls : Int} {ρ : Ev}
theorem fd0 (hw : w[l]? = some (.lst (fdL cells spot rest calls))) (h0 : ρ[0]? = some (some (rf l))) : eB ixD (eV 0) (eC (.int 0)) ρ w = .ok (.list (cells.map .int)) w := by
  simp only [eB, eV, eC, h0, Oc.bind, ixD_rf hw]; rfl
theorem fd1 (hw : w[l]? = some (.lst (fdL cells spot rest calls))) (h0 : ρ[0]? = some (some (rf l))) : eB ixD (eV 0) (eC (.int 1)) ρ w = .ok (.int spot) w := by
  simp only [eB, eV, eC, h0, Oc.bind, ixD_rf hw]; rfl
theorem fd2 (hw : w[l]? = some (.lst (fdL cells spot rest calls))) (h0 : ρ[0]? = some (some (rf l))) : eB ixD (eV 0) (eC (.int 2)) ρ w = .ok (.int rest) w := by
  simp only [eB, eV, eC, h0, Oc.bind, ixD_rf hw]; rfl
theorem fd3 (hw : w[l]? = some (.lst (fdL cells spot rest calls))) (h0 : ρ[0]? = some (some (rf l))) : eB ixD (eV 0) (eC (.int 3)) ρ w = .ok (.int calls) w := by
  simp only [eB, eV, eC, h0, Oc.bind, ixD_rf hw]; rfl
theorem fs_set {d : PyData} {i : Int} {k : Nat} {ds : List PyData} {fe : FE} {w1 : Ws} (hv : fe ρ w = .ok d w1) (h0 : ρ[0]? = some (some (rf l))) (hw : w1[l]? = some (.lst ds)) (hk : ixN ds.length i = some k) : sAsg fe (gIx (eV 0) (eC (.int i))) ρ w = .nx ρ (w1.set l (.lst (ds.set k d))) := by
  have u := upd_at (k := fun xs => (ixN xs.length i).map fun j => (PyData.none, xs.set j d)) (d := .none) (ys := ds.set k d) hw (by simp only [hk, Option.map_some])
  simp only [sAsg, hv, Oc.thenS, gIx, eV, eC, h0, Oc.bind, u]
end
theorem draw_ok {w : Ws} {l : Nat} {ob : Ob} {n : Nat} {m : Int} (hw : w[l]? = some ob) (hr : FdOk ob n) (hn : n < 1000000) (hm : 1 ≤ m) (hm2 : m < 1000000) :
    ∃ v ob', F__law_draw [rf l, .int m] w = .ok (.int v) (w.set l ob') ∧ 0 ≤ v ∧ v < m ∧ FdOk ob' (n + 1) := by
  obtain ⟨cells, spot, rest, calls, rfl, hc, hs, hre, hca, hcn⟩ := hr.ex
  have nz : ∀ x, cNz x m = true := fun x => decide_eq_true (by omega)
  have dv : ∀ x, cDv x m = true := fun x => by
    unfold cDv
    rw [decide_eq_true (show m ≠ 0 by omega), decide_eq_true (show m.natAbs < 1073741824 by omega)]; rfl
  have s1 := set_get hw (.lst (fdL cells spot rest (calls + 1)))
  have st1 : ∀ (ρ : Ev), ρ[0]? = some (some (rf l)) → sAsg (eB addD (eB ixD (eV 0) (eC (.int 3))) (eC (.int 1))) (gIx (eV 0) (eC (.int 3))) ρ w = .nx ρ (w.set l (.lst (fdL cells spot rest (calls + 1)))) := fun ρ h0 => by
    have g := fd3 hw h0
    exact fs_set (i := 3) (k := 3) (w1 := w) (d := .int (calls + 1)) (by rw [eB, g]; simp [Oc.bind, eC, addD, Oc.of]) h0 hw (by rfl)
  show ∃ v ob', leave w.length (b__law_draw [some (rf l), some (.int m), none, none, none, none] w) = _ ∧ _
  unfold b__law_draw
  rw [seq_nx (st1 _ rfl)]
  by_cases hrest : 0 < rest
  · refine ⟨rest.fmod m, .lst (fdL cells spot (rest.fdiv m) (calls + 1)), ?_, (fmod_rng (by omega)).1, (fmod_rng (by omega)).2, ⟨⟨cells, spot, _, _, rfl, hc, hs, fdiv_nn hre (by omega), by omega, by omega⟩⟩⟩
    rw [seq_rt (d := .int (rest.fmod m)) (w1 := w.set l (.lst (fdL cells spot (rest.fdiv m) (calls + 1)))) ?_]
    · exact leave_ret (by rw [List.length_set])
    · have g2 : ∀ ρ : Ev, ρ[0]? = some (some (rf l)) → eB ixD (eV 0) (eC (.int 2)) ρ (w.set l (.lst (fdL cells spot rest (calls + 1)))) = .ok (.int rest) (w.set l (.lst (fdL cells spot rest (calls + 1)))) := fun ρ h0 => fd2 s1 h0
      have t : (tB' (eB gtD (eB ixD (eV 0) (eC (.int 2))) (eC (.int 0)))) [some (rf l), some (.int m), none, none, none, none] (w.set l (.lst (fdL cells spot rest (calls + 1)))) = .ok true (w.set l (.lst (fdL cells spot rest (calls + 1)))) := by
        rw [tB', eB, g2 _ rfl]; simp [Oc.bind, eC, Oc.of, gtD, cmpD, hrest]
      rw [sIf, t]
      show sSeq _ _ _ _ = _
      rw [seq_nx (ρ1 := [some (rf l), some (.int m), none, none, none, some (.int (rest.fmod m))]) (w1 := w.set l (.lst (fdL cells spot rest (calls + 1)))) (by
        rw [sAsg, eB, eCb, aC, g2 _ rfl]; simp [Oc.bind, aN, Oc.of, toInt, eV, modD, intD, nz, Oc.thenS, gN])]
      rw [seq_nx (ρ1 := [some (rf l), some (.int m), none, none, none, some (.int (rest.fmod m))]) (w1 := w.set l (.lst (fdL cells spot (rest.fdiv m) (calls + 1)))) (by
        have := fs_set (ρ := [some (rf l), some (.int m), none, none, none, some (.int (rest.fmod m))]) (i := 2) (k := 2) (d := .int (rest.fdiv m)) (fe := eB fdvD (eB ixD (eV 0) (eC (.int 2))) (eV 1)) (by rw [eB, g2 _ rfl]; simp [Oc.bind, eV, Oc.of, fdvD, intD, dv]) rfl s1 (by rfl)
        rw [List.set_set] at this
        exact this)]
      rfl
  · have t : (tB' (eB gtD (eB ixD (eV 0) (eC (.int 2))) (eC (.int 0)))) [some (rf l), some (.int m), none, none, none, none] (w.set l (.lst (fdL cells spot rest (calls + 1)))) = .ok false (w.set l (.lst (fdL cells spot rest (calls + 1)))) := by
      rw [tB', eB, fd2 s1 rfl]; simp [Oc.bind, eC, Oc.of, gtD, cmpD, hrest]
    rw [seq_nx (ρ1 := [some (rf l), some (.int m), none, none, none, none]) (w1 := w.set l (.lst (fdL cells spot rest (calls + 1)))) (by rw [sIf, t]; rfl)]
    obtain ⟨cell, hcell⟩ : ∃ cell : Int, (eIf (tB' (eB neL (eB ixD (eV 0) (eC (.int 0))) (eLst aN))) (eB ixD (eB ixD (eV 0) (eC (.int 0))) (eB modD (eCb toInt (aC (eB ixD (eV 0) (eC (.int 1))) aN)) (eCb lenD (aC (eB ixD (eV 0) (eC (.int 0))) aN)))) (eC (.int 47)))
        [some (rf l), some (.int m), none, none, none, none] (w.set l (.lst (fdL cells spot rest (calls + 1)))) = .ok (.int cell) (w.set l (.lst (fdL cells spot rest (calls + 1)))) := by
      have f0 := fd0 (ρ := [some (rf l), some (.int m), none, none, none, none]) s1 rfl
      have f1 := fd1 (ρ := [some (rf l), some (.int m), none, none, none, none]) s1 rfl
      have tt : (tB' (eB neL (eB ixD (eV 0) (eC (.int 0))) (eLst aN))) [some (rf l), some (.int m), none, none, none, none] (w.set l (.lst (fdL cells spot rest (calls + 1)))) = .ok (!(cells.map PyData.int).isEmpty) (w.set l (.lst (fdL cells spot rest (calls + 1)))) := by
        rw [tB', eB, f0]; simp only [Oc.bind, eLst, aN, Oc.on, List.length_nil, sz0, cond_true, neL, lstOf_list, Oc.of]
      cases hcs : cells with
      | nil =>
        subst hcs
        exact ⟨47, by rw [eIf, tt]; rfl⟩
      | cons c0 cr =>
        rw [hcs] at f0 f1 tt
        have hlen : 0 < ((c0 :: cr).length : Int) := by simp
        obtain ⟨r1, r2⟩ := fmod_rng (a := spot) hlen
        obtain ⟨k, hk⟩ : ∃ k : Nat, (k : Int) = spot.fmod ((c0 :: cr).length : Int) := ⟨(spot.fmod ((c0 :: cr).length : Int)).toNat, by omega⟩
        have hk2 : k < (c0 :: cr).length := by omega
        refine ⟨(c0 :: cr)[k], ?_⟩
        have ha : atI ((c0 :: cr).map PyData.int) (spot.fmod ((c0 :: cr).length : Int)) = some (.int ((c0 :: cr)[k])) := by
          rw [← hk]
          exact Td.atI_nat (by rw [List.getElem?_map, List.getElem?_eq_getElem hk2]; rfl)
        have nzl : ∀ x, cNz x ((c0 :: cr).length : Int) = true := fun x => decide_eq_true (by omega)
        rw [eIf, tt]
        simp only [List.map_cons, List.isEmpty_cons, Bool.not_false, Oc.bind, cond_true]
        simp only [List.map_cons] at f0 ha
        rw [eB, f0]
        simp only [Oc.bind]
        rw [eB, eCb, aC, f1]
        simp only [Oc.bind, aN, Oc.of, toInt]
        rw [eCb, aC, f0]
        simp only [Oc.bind, aN, Oc.of, lenD, lstOf_list, Option.map_some, List.length_cons, List.length_map, modD, intD]
        simp only [List.length_cons] at ha nzl
        rw [if_pos (nzl _)]
        simp only [ixD_list, ha]
    rw [seq_nx (ρ1 := [some (rf l), some (.int m), some (.int cell), none, none, none]) (w1 := w.set l (.lst (fdL cells spot rest (calls + 1)))) (by rw [sAsg, hcell]; rfl)]
    have s2 := set_get hw (.lst (fdL cells (spot + 1) rest (calls + 1)))
    rw [seq_nx (ρ1 := [some (rf l), some (.int m), some (.int cell), none, none, none]) (w1 := w.set l (.lst (fdL cells (spot + 1) rest (calls + 1)))) (by
      have := fs_set (ρ := [some (rf l), some (.int m), some (.int cell), none, none, none]) (i := 1) (k := 1) (d := .int (spot + 1)) (fe := eB addD (eB ixD (eV 0) (eC (.int 1))) (eC (.int 1))) (by rw [eB, fd1 s1 rfl]; simp [Oc.bind, eC, Oc.of, addD]) rfl s1 (by rfl)
      rw [List.set_set] at this
      exact this)]
    have pw : cPw 10 18 = true := by decide +kernel
    have p18 : (10 : Int) ^ (18 : Int).toNat = 1000000000000000000 := by decide +kernel
    have tst : (tAn (tB' (eB geD (eV 2) (eB powD (eC (.int 10)) (eC (.int 18))))) (tB' (eB leD (eB ixD (eV 0) (eC (.int 1))) (eCb lenD (aC (eB ixD (eV 0) (eC (.int 0))) aN))))) [some (rf l), some (.int m), some (.int cell), none, none, none] (w.set l (.lst (fdL cells (spot + 1) rest (calls + 1))))
        = .ok (decide (1000000000000000000 ≤ cell) && decide (spot + 1 ≤ (cells.length : Int))) (w.set l (.lst (fdL cells (spot + 1) rest (calls + 1)))) := by
      have a1 : (tB' (eB geD (eV 2) (eB powD (eC (.int 10)) (eC (.int 18))))) [some (rf l), some (.int m), some (.int cell), none, none, none] (w.set l (.lst (fdL cells (spot + 1) rest (calls + 1)))) = .ok (decide (1000000000000000000 ≤ cell)) (w.set l (.lst (fdL cells (spot + 1) rest (calls + 1)))) := by
        simp only [tB', eB, eV, eC, Oc.bind, Oc.of, List.getElem?_cons_zero, List.getElem?_cons_succ, powD, intD, pw, if_true, p18, geD, cmpD]
      have a2 : (tB' (eB leD (eB ixD (eV 0) (eC (.int 1))) (eCb lenD (aC (eB ixD (eV 0) (eC (.int 0))) aN)))) [some (rf l), some (.int m), some (.int cell), none, none, none] (w.set l (.lst (fdL cells (spot + 1) rest (calls + 1)))) = .ok (decide (spot + 1 ≤ (cells.length : Int))) (w.set l (.lst (fdL cells (spot + 1) rest (calls + 1)))) := by
        rw [tB', eB, fd1 s2 rfl]
        simp only [Oc.bind]
        rw [eCb, aC, fd0 s2 rfl]
        simp only [Oc.bind, aN, Oc.of, lenD, lstOf_list, Option.map_some, List.length_map, leD, cmpD]
      rw [tAn, a1]
      simp only [Oc.bind, a2]
      cases decide (1000000000000000000 ≤ cell) <;> rfl
    cases hb : decide (1000000000000000000 ≤ cell) && decide (spot + 1 ≤ (cells.length : Int)) with
    | true =>
      rw [hb] at tst
      rw [Bool.and_eq_true] at hb
      have hbig := of_decide_eq_true hb.1
      refine ⟨cell.fmod m, .lst (fdL cells (spot + 1) (cell.fdiv m) (calls + 1)), ?_, (fmod_rng (by omega)).1, (fmod_rng (by omega)).2, ⟨⟨cells, _, _, _, rfl, hc, by omega, fdiv_nn (by omega) (by omega), by omega, by omega⟩⟩⟩
      rw [seq_rt (d := .int (cell.fmod m)) (w1 := w.set l (.lst (fdL cells (spot + 1) (cell.fdiv m) (calls + 1)))) ?_]
      · exact leave_ret (by rw [List.length_set])
      · rw [sIf, tst]
        show sSeq _ _ _ _ = _
        rw [seq_nx (ρ1 := [some (rf l), some (.int m), some (.int cell), none, none, none]) (w1 := w.set l (.lst (fdL cells (spot + 1) (cell.fdiv m) (calls + 1)))) (by
          have := fs_set (ρ := [some (rf l), some (.int m), some (.int cell), none, none, none]) (i := 2) (k := 2) (d := .int (cell.fdiv m)) (fe := eB fdvD (eV 2) (eV 1)) (by simp [eB, Oc.bind, eV, Oc.of, fdvD, intD, dv]; rfl) rfl s2 (by rfl)
          rw [List.set_set] at this
          exact this)]
        simp [sRet, eB, eCb, aC, aN, eV, Oc.bind, Oc.of, toInt, modD, intD, nz, Oc.thenS]
    | false =>
      rw [hb] at tst
      rw [seq_nx (ρ1 := [some (rf l), some (.int m), some (.int cell), none, none, none]) (w1 := w.set l (.lst (fdL cells (spot + 1) rest (calls + 1)))) (by rw [sIf, tst]; rfl)]
      obtain ⟨W, hW⟩ : ∃ W, W = w.set l (.lst (fdL cells (spot + 1) rest (calls + 1))) := ⟨_, rfl⟩
      obtain ⟨tn, htn⟩ : ∃ tn : Int, tn = calls + 1 := ⟨_, rfl⟩
      have f3 := fd3 (ρ := [some (rf l), some (.int m), some (.int cell), none, none, none]) s2 rfl
      rw [← htn] at f3
      rw [seq_nx (ρ1 := [some (rf l), some (.int m), some (.int cell), some (.int tn), none, none]) (w1 := w.set l (.lst (fdL cells (spot + 1) rest (calls + 1)))) (by rw [sAsg, ← htn, f3]; rfl)]
      rw [← hW]
      have t0 : 0 ≤ tn := by omega
      have t1 : tn ≤ 1000000 := by omega
      have q1 : 0 ≤ tn * (tn + 8) := Int.mul_nonneg t0 (by omega)
      have q2 : tn * (tn + 8) ≤ 1000000 * 1000008 := Int.mul_le_mul t1 (by omega) (by omega) (by omega)
      obtain ⟨c1, c2⟩ := fmod_rng (a := cell) (m := 1000003171) (by decide)
      have m1 : cNz cell 1000003171 = true := by unfold cNz; decide
      have m2 : ∀ x, cMl 163 x = true := fun x => by unfold cMl; rw [decide_eq_true (show (163 : Int).natAbs < 2 ^ 64 by decide)]; rfl
      have m3 : cMl (163 * tn) (tn + 8) = true := by unfold cMl; rw [decide_eq_true (show (163 * tn).natAbs < 2 ^ 64 by omega)]; rfl
      have e0 : 163 * tn * (tn + 8) = 163 * (tn * (tn + 8)) := Int.mul_assoc _ _ _
      have m4 : cPw (cell.fmod 1000003171 + 163 * tn * (tn + 8) + 37) 5 = true := by
        unfold cPw
        rw [decide_eq_true (show (cell.fmod 1000003171 + 163 * tn * (tn + 8) + 37).natAbs < 2 ^ 64 by rw [e0]; omega)]
        decide
      obtain ⟨x1, hx1⟩ : ∃ x1, x1 = (cell.fmod 1000003171 + 163 * tn * (tn + 8) + 37) ^ (5 : Int).toNat := ⟨_, rfl⟩
      rw [seq_nx (ρ1 := [some (rf l), some (.int m), some (.int cell), some (.int tn), some (.int x1), none]) (w1 := W) (by
        simp only [sAsg, gN, eB, eV, eC, eCb, aC, aN, toInt, Oc.bind, Oc.thenS, Oc.of, modD, intD, m1, m2, m3, m4, mulD, addD, powD, List.getElem?_cons_zero, List.getElem?_cons_succ, if_true, ← hx1, List.set_cons_zero, List.set_cons_succ])]
      obtain ⟨c3, c4⟩ := fmod_rng (a := x1) (m := 2147483249) (by decide)
      obtain ⟨y1, hy1⟩ : ∃ y1, y1 = x1.fmod 2147483249 := ⟨_, rfl⟩
      rw [← hy1] at c3 c4
      have m5 : cNz x1 2147483249 = true := by unfold cNz; decide
      have m6 : ∀ x, cMl 2 x = true := fun x => by unfold cMl; rw [decide_eq_true (show (2 : Int).natAbs < 2 ^ 64 by decide)]; rfl
      have m7 : cMl y1 (2 * tn + 13) = true := by unfold cMl; rw [decide_eq_true (show y1.natAbs < 2 ^ 64 by omega)]; rfl
      have m8 : ∀ x, cMl 50153 x = true := fun x => by unfold cMl; rw [decide_eq_true (show (50153 : Int).natAbs < 2 ^ 64 by decide)]; rfl
      have q3 : 0 ≤ y1 * (2 * tn + 13) := Int.mul_nonneg c3 (by omega)
      have q4 : y1 * (2 * tn + 13) ≤ 2147483249 * 2000013 := Int.mul_le_mul (by omega) (by omega) (by omega) (by omega)
      have m9 : cPw (y1 * (2 * tn + 13) + 50153 * tn) 3 = true := by
        unfold cPw
        rw [decide_eq_true (show (y1 * (2 * tn + 13) + 50153 * tn).natAbs < 2 ^ 64 by omega)]
        decide
      obtain ⟨x2, hx2⟩ : ∃ x2, x2 = (y1 * (2 * tn + 13) + 50153 * tn) ^ (3 : Int).toNat := ⟨_, rfl⟩
      rw [seq_nx (ρ1 := [some (rf l), some (.int m), some (.int cell), some (.int tn), some (.int x2), none]) (w1 := W) (by
        simp only [sAsg, gN, eB, eV, eC, eCb, aC, aN, toInt, Oc.bind, Oc.thenS, Oc.of, modD, intD, m5, ← hy1, m6, m7, m8, m9, mulD, addD, powD, List.getElem?_cons_zero, List.getElem?_cons_succ, if_true, ← hx2, List.set_cons_zero, List.set_cons_succ])]
      have n1 : cNz x2 2147483171 = true := by unfold cNz; decide
      have n2 : ∀ x, cDv x 64 = true := fun x => by unfold cDv; decide
      refine ⟨((x2.fmod 2147483171).fdiv 64).fmod m, .lst (fdL cells (spot + 1) rest (calls + 1)), ?_, (fmod_rng (by omega)).1, (fmod_rng (by omega)).2, ⟨⟨cells, _, _, _, rfl, hc, by omega, hre, by omega, by omega⟩⟩⟩
      rw [← hW]
      have fin : (sRet (eB modD (eCb toInt (aC (eB fdvD (eB modD (eCb toInt (aC (eV 4) aN)) (eC (.int 2147483171))) (eC (.int 64))) aN)) (eV 1))) [some (rf l), some (.int m), some (.int cell), some (.int tn), some (.int x2), none] W = .rt (.int (((x2.fmod 2147483171).fdiv 64).fmod m)) W := by
        simp only [sRet, eB, eV, eC, eCb, aC, aN, toInt, Oc.bind, Oc.of, Oc.thenS, modD, fdvD, intD, n1, n2, nz, List.getElem?_cons_zero, List.getElem?_cons_succ, if_true]
      rw [fin]
      exact leave_ret (by rw [hW, List.length_set])
/-- what is kept by a draw -/
structure Kept (w : Ws) (l : Nat) (n : Nat) (w' : Ws) : Prop where
  ex : ∃ ob, w' = w.set l ob ∧ FdOk ob n
theorem Kept.start {w : Ws} {l n : Nat} {ob : Ob} (hw : w[l]? = some ob) (hr : FdOk ob n) : Kept w l n w := ⟨⟨ob, (set_at hw).symm, hr⟩⟩
theorem Kept.at_ {w w' : Ws} {l n : Nat} (hl : l < w.length) (h : Kept w l n w') : ∃ ob, w'[l]? = some ob ∧ FdOk ob n := by
  obtain ⟨ob, rfl, hr⟩ := h.ex
  exact ⟨ob, List.getElem?_set_self hl, hr⟩
theorem Kept.mono {w w' : Ws} {l n m : Nat} (h : Kept w l n w') (hn : n ≤ m) : Kept w l m w' := by
  obtain ⟨ob, e, hr⟩ := h.ex
  exact ⟨⟨ob, e, hr.mono hn⟩⟩
theorem Kept.len {w w' : Ws} {l n : Nat} (h : Kept w l n w') : w'.length = w.length := by
  obtain ⟨ob, rfl, _⟩ := h.ex
  exact List.length_set
theorem Kept.trans {w w' w'' : Ws} {l n m : Nat} (h : Kept w l n w') (h2 : Kept w' l m w'') : Kept w l m w'' := by
  obtain ⟨ob, rfl, _⟩ := h.ex
  obtain ⟨ob2, rfl, hr⟩ := h2.ex
  exact ⟨⟨ob2, List.set_set .., hr⟩⟩
theorem draw_k {w w' : Ws} {l n : Nat} {m : Int} (hl : l < w.length) (h : Kept w l n w') (hn : n < 1000000) (hm : 1 ≤ m) (hm2 : m < 1000000) :
    ∃ v w'', F__law_draw [rf l, .int m] w' = .ok (.int v) w'' ∧ 0 ≤ v ∧ v < m ∧ Kept w l (n + 1) w'' := by
  obtain ⟨ob, h1, hr⟩ := h.at_ hl
  obtain ⟨v, ob', e, v0, v1, hr'⟩ := draw_ok h1 hr hn hm hm2
  exact ⟨v, _, e, v0, v1, h.trans ⟨⟨ob', rfl, hr'⟩⟩⟩
theorem choice_k {w w' : Ws} {l n : Nat} {xs : List PyData} (hl : l < w.length) (h : Kept w l n w') (hn : n < 1000000) (h1 : xs ≠ []) (h2 : xs.length < 1000000) :
    ∃ x w'', F__law_choice [rf l, .list xs] w' = .ok x w'' ∧ x ∈ xs ∧ Kept w l (n + 1) w'' := by
  have hp := List.length_pos_iff.mpr h1
  obtain ⟨v, w'', e, v0, v1, k⟩ := draw_k (m := (xs.length : Int)) hl h hn (by omega) (by omega)
  obtain ⟨j, rfl⟩ : ∃ j : Nat, v = (j : Int) := ⟨v.toNat, by omega⟩
  have hj : j < xs.length := by omega
  refine ⟨xs[j], w'', ?_, List.getElem_mem hj, k⟩
  have a : atI xs (j : Int) = some xs[j] := Td.atI_nat (List.getElem?_eq_getElem hj)
  have e2 : b__law_choice [some (rf l), some (.list xs)] w' = .rt xs[j] w'' := by
    simp only [b__law_choice, sRet, eB, eV, eCall, aC, aN, eCb, lenD, lstOf_list, Option.map_some, Oc.bind, Oc.of, List.append_nil, List.getElem?_cons_zero, List.getElem?_cons_succ, e, ixD_list, a, Oc.thenS]
  show leave w'.length (b__law_choice [some (rf l), some (.list xs)] w') = _
  rw [e2]
  exact leave_ret (by rw [k.len, h.len])
end Tk
namespace Tk
open PySem L2 Td Tg
theorem choice_kt {w w' : Ws} {l n : Nat} {xs : List PyData} (hl : l < w.length) (h : Kept w l n w') (hn : n < 1000000) (h1 : xs ≠ []) (h2 : xs.length < 1000000) :
    ∃ x w'', F__law_choice [rf l, .tuple xs] w' = .ok x w'' ∧ x ∈ xs ∧ Kept w l (n + 1) w'' := by
  have hp := List.length_pos_iff.mpr h1
  obtain ⟨v, w'', e, v0, v1, k⟩ := draw_k (m := (xs.length : Int)) hl h hn (by omega) (by omega)
  obtain ⟨j, rfl⟩ : ∃ j : Nat, v = (j : Int) := ⟨v.toNat, by omega⟩
  have hj : j < xs.length := by omega
  refine ⟨xs[j], w'', ?_, List.getElem_mem hj, k⟩
  have a : atI xs (j : Int) = some xs[j] := Td.atI_nat (List.getElem?_eq_getElem hj)
  have e2 : b__law_choice [some (rf l), some (.tuple xs)] w' = .rt xs[j] w'' := by
    simp only [b__law_choice, sRet, eB, eV, eCall, aC, aN, eCb, lenD, Option.map_some, Oc.bind, Oc.of, List.append_nil, List.getElem?_cons_zero, List.getElem?_cons_succ, e, ixD_tup, a, Oc.thenS]
  show leave w'.length (b__law_choice [some (rf l), some (.tuple xs)] w') = _
  rw [e2]
  exact leave_ret (by rw [k.len, h.len])
theorem Kept.app {w v x : Ws} {l n : Nat} (hl : l < w.length) (h : Kept (w ++ v) l n x) : ∃ w', x = w' ++ v ∧ Kept w l n w' := by
  obtain ⟨ob, rfl, hr⟩ := h.ex
  exact ⟨w.set l ob, by rw [List.set_append_left _ _ hl], ⟨⟨ob, rfl, hr⟩⟩⟩
theorem Kept.up {w v w' : Ws} {l n : Nat} (hl : l < w.length) (h : Kept w l n w') : Kept (w ++ v) l n (w' ++ v) := by
  obtain ⟨ob, rfl, hr⟩ := h.ex
  exact ⟨⟨ob, by rw [List.set_append_left _ _ hl], hr⟩⟩
theorem lcL_all {gt : FG} {fe : FE} {ρ : Ev} (J : List PyData → Ws → Prop) (L : Nat) : ∀ (ds acc : List PyData) (w : Ws), acc.length + ds.length = L → L ≤ sizeLine → J acc w →
    (∀ d ∈ ds, ∀ acc w, acc.length < L → J acc w → ∃ ρ1 w1 x w2, gt d ρ w = .ok ρ1 w1 ∧ fe ρ1 w1 = .ok x w2 ∧ J (acc ++ [x]) w2) →
    ∃ res w', lcL gt tYs fe ρ ds w acc = .ok res w' ∧ J res w' ∧ res.length = L
  | [], acc, w, hl, _, h, _ => ⟨acc, w, by simp only [lcL], h, by simpa using hl⟩
  | d :: ds, acc, w, hl, hs, h, st => by
    simp only [List.length_cons] at hl
    obtain ⟨ρ1, w1, x, w2, e1, e2, j⟩ := st d List.mem_cons_self acc w (by omega) h
    obtain ⟨res, w', e3, j3, l3⟩ := lcL_all J L ds (acc ++ [x]) w2 (by simp; omega) hs j fun d' hd' => st d' (List.mem_cons_of_mem _ hd')
    refine ⟨res, w', ?_, j3, l3⟩
    have hlt : acc.length < sizeLine := by omega
    simp only [lcL, e1, tYs, e2, if_pos hlt, e3]
theorem eqD_bool (w : Ws) (a b : Bool) : eqD w (.bool a) (.bool b) = some (.bool (decide (a = b))) := by
  unfold eqD
  rw [if_pos (by simp [SeqAt.shaped, PyData.canLay0, PyData.depth])]
  cases a <;> cases b <;> simp [PyData.eqv]
end Tk

set_option Elab.async false
set_option linter.all false
set_option maxRecDepth 100000
set_option maxHeartbeats 4000000
namespace Tk
open PySem L2 Td Tg
theorem Kept.cl {w w' : Ws} {l n : Nat} (hc : Cl w) (h : Kept w l n w') : Cl w' := by
  obtain ⟨ob, rfl, hr⟩ := h.ex
  obtain ⟨cells, spot, rest, calls, rfl, _⟩ := hr.ex
  have bi : ∀ (n : Nat) (c : List Int), bndA n (c.map PyData.int) = true := fun n c => by
    induction c with
    | nil => rfl
    | cons x c ih => simp [bndA, bnd, ih]
  have : Td.Cl (w.set l (.lst (fdL cells spot rest calls))) := Td.Cl.set (show Td.Cl w from hc) (by
    show bndA w.length (fdL cells spot rest calls) = true
    simp [fdL, bndA, bnd, bi])
  exact this
/-! ### languages -/
def wd (x : List Nat × Nat × PyData) : PyData := .tuple [.str (S x.1), .int (x.2.1 : Int), x.2.2]
structure Wd (x : List Nat × Nat × PyData) : Prop where
  nm : nmL x.1 = true
  ar : x.2.1 ≤ 2
  ok : okD x.2.2 = true
structure Tng (d : PyData) : Prop where
  ex : ∃ (s : Int) (ins : List (List Nat)) (ws : List (List Nat × Nat × PyData)), d = .tuple [.int s, .tuple (ins.map fun n => .str (S n)), .tuple (ws.map wd)] ∧ ins ≠ [] ∧ (∀ n ∈ ins, nmL n = true) ∧ ins.length ≤ 3 ∧ ws.length ≤ 5 ∧ (∀ x ∈ ws, Wd x) ∧ (∃ x ∈ ws, 0 < x.2.1) ∧ 0 ≤ s ∧ s ≤ 3
theorem draw_e {w W : Ws} {l n : Nat} {m : Int} {ρ : Ev} {fm : FE} (hl : l < w.length) (h : Kept w l n W) (hn : n < 1000000) (h0 : ρ[0]? = some (some (rf l))) (hf : fm ρ W = .ok (.int m) W) (hm : 1 ≤ m) (hm2 : m < 1000000) :
    ∃ v W', eCall F__law_draw [] (aC (eV 0) (aC fm aN)) ρ W = .ok (.int v) W' ∧ 0 ≤ v ∧ v < m ∧ Kept w l (n + 1) W' := by
  obtain ⟨v, W', e, v0, v1, k⟩ := draw_k (m := m) hl h hn hm hm2
  refine ⟨v, W', ?_, v0, v1, k⟩
  simp only [eCall, aC, aN, eV, h0, Oc.bind, hf, List.append_nil, e]
def tngT : FT := tOr' (tB' (eB eqD (eV 4) (eC (.str "and")))) (tB' (eB gtD (eCall F__law_draw [] (aC (eV 0) (aC (eC (.int 4)) aN))) (eC (.int 0))))
theorem lit_and : ("and" : Str) = S [97, 110, 100] := by decide +kernel
theorem tngT_ok {w W : Ws} {l n : Nat} {ρ : Ev} {nm : List Nat} (hl : l < w.length) (h : Kept w l n W) (hn : n < 1000000) (h0 : ρ[0]? = some (some (rf l))) (h4 : ρ[4]? = some (some (.str (S nm)))) :
    ∃ b W', tngT ρ W = .ok b W' ∧ Kept w l (n + 1) W' ∧ (nm = [97, 110, 100] → b = true) := by
  obtain ⟨v, W', e, v0, v1, k⟩ := draw_e (m := 4) (ρ := ρ) (fm := eC (.int 4)) hl h hn h0 rfl (by omega) (by omega)
  by_cases hx : nm = [97, 110, 100]
  · refine ⟨true, W, ?_, h.mono (by omega), fun _ => rfl⟩
    simp only [tngT, tOr', tB', eB, eV, eC, h4, Oc.bind, lit_and, eqD_str, S_inj, hx, decide_true, Oc.of, cond_true]
  · refine ⟨decide (0 < v), W', ?_, k, fun q => absurd q hx⟩
    have t1 : tB' (eB eqD (eV 4) (eC (.str "and"))) ρ W = .ok false W := by
      simp only [tB', eB, eV, eC, h4, Oc.bind, lit_and, eqD_str, S_inj, hx, decide_false, Oc.of]
    rw [tngT, tOr', t1]
    simp only [Oc.bind, cond_false]
    rw [tB', eB, e]
    simp only [Oc.bind, eC, Oc.of, gtD, cmpD]
def tngC : FE := eB ixD (eLst (aC (eC (.int 1)) (aC (eV 1) (aC (eB mulD (eV 1) (eV 1)) aN)))) (eV 5)
def cV (s : Int) : Nat → Int
  | 0 => 1
  | 1 => s
  | _ => s * s
theorem tngC_ok {W : Ws} {ρ : Ev} {s : Int} {a : Nat} (h1 : ρ[1]? = some (some (.int s))) (h5 : ρ[5]? = some (some (.int (a : Int)))) (hs : s = 2 ∨ s = 3) (ha : a ≤ 2) : tngC ρ W = .ok (.int (cV s a)) W := by
  have m : cMl s s = true := by rcases hs with rfl | rfl <;> decide +kernel
  have ix : atI [PyData.int 1, .int s, .int (s * s)] (a : Int) = some (.int (cV s a)) := by
    refine Td.atI_nat ?_
    rcases (show a = 0 ∨ a = 1 ∨ a = 2 by omega) with rfl | rfl | rfl <;> rfl
  simp only [tngC, eB, eLst, aC, aN, eC, eV, h1, h5, Oc.bind, mulD, m, if_true, Oc.of, List.length_cons, List.length_nil, Nat.zero_add, Nat.reduceAdd, szOk_of (show 3 ≤ 10000000 by omega), Oc.on, cond_true, ixD_list, ix]
theorem rgD_len (v : Int) (h : 0 ≤ v) : (rgD 0 v).length = v.toNat := by simp [rgD]
theorem draws_lc {w W : Ws} {l n : Nat} {ρ : Ev} {s c : Int} (hl : l < w.length) (h : Kept w l n W) (hn : n + 10 < 1000000) (h0 : ρ[0]? = some (some (rf l))) (h1 : ρ[1]? = some (some (.int s))) (hs : 1 ≤ s ∧ s ≤ 3) (hc : 0 ≤ c ∧ c ≤ 9) :
    ∃ res W', eCb tupleD (aC (eLc (iR1 (aC (eC (.int c)) aN)) (gN 7) tYs (eCall F__law_draw [] (aC (eV 0) (aC (eV 1) aN))) [7]) aN) ρ W = .ok (.tuple res) W' ∧ Kept w l (n + 9) W' ∧ okDA res = true := by
  have t62 : (3 : Nat) < ten62 := by decide +kernel
  obtain ⟨res, W', e, ⟨k, o⟩, lr⟩ := lcL_all (gt := gN 7) (fe := eCall F__law_draw [] (aC (eV 0) (aC (eV 1) aN))) (ρ := ρ.set 7 none) (fun acc W => Kept w l (n + acc.length) W ∧ okDA acc = true) c.toNat (rgD 0 c) [] W (by rw [rgD_len c hc.1]; simp) (by rw [sizeLine_eq]; omega) ⟨h, rfl⟩ (fun d hd acc W2 hlt ⟨k2, o2⟩ => by
    have a0 : ((ρ.set 7 none).set 7 (some d))[0]? = some (some (rf l)) := by rw [List.getElem?_set_ne (by omega), List.getElem?_set_ne (by omega)]; exact h0
    have a1 : ((ρ.set 7 none).set 7 (some d))[1]? = some (some (.int s)) := by rw [List.getElem?_set_ne (by omega), List.getElem?_set_ne (by omega)]; exact h1
    obtain ⟨v, W3, e3, v0, v1, k3⟩ := draw_e (m := s) (ρ := (ρ.set 7 none).set 7 (some d)) (fm := eV 1) (n := n + acc.length) hl k2 (by omega) a0 (by simp only [eV, a1]) (by omega) (by omega)
    refine ⟨(ρ.set 7 none).set 7 (some d), W2, .int v, W3, rfl, e3, ?_, ?_⟩
    · rw [List.length_append, List.length_singleton]; exact k3
    · rw [okDA_app, o2]
      show (true && (decide (v.natAbs < ten62) && true)) = true
      rw [decide_eq_true (by omega)]; rfl)
  refine ⟨res, W', ?_, k.mono (by omega), o⟩
  have c6 : c62 c = true := c62_of (by omega)
  simp only [eCb, aC, aN, eLc, iR1, eC, Oc.bind, c6, Oc.on, cond_true, wipeE, e, tupleD, lstOf_list, Option.map_some, Oc.of]
def tngB : FS := sIf tngT (sSeq (sAsg tngC (gN 6))
    (sExp (eLm apL (eV 3) (aC (eTup (aC (eV 4) (aC (eV 5) (aC (eCb tupleD (aC (eLc (iR1 (aC (eV 6) aN)) (gN 7) tYs (eCall F__law_draw [] (aC (eV 0) (aC (eV 1) aN))) [7]) aN)) aN)))) aN)))) sNil
theorem draws_lc' {w W : Ws} {l n : Nat} {x0 x1 x2 x3 x4 x5 x7 : Option PyData} {s c : Int} (hl : l < w.length) (h : Kept w l n W) (hn : n + 10 < 1000000) (h0 : x0 = some (rf l)) (h1 : x1 = some (.int s)) (hs : 1 ≤ s ∧ s ≤ 3) (hc : 0 ≤ c ∧ c ≤ 9) :
    ∃ res W', eCb tupleD (aC (eLc (iR1 (aC (eV 6) aN)) (gN 7) tYs (eCall F__law_draw [] (aC (eV 0) (aC (eV 1) aN))) [7]) aN) [x0, x1, x2, x3, x4, x5, some (.int c), x7] W = .ok (.tuple res) W' ∧ Kept w l (n + 9) W' ∧ okDA res = true := by
  obtain ⟨res, W', e, k, o⟩ := draws_lc (ρ := [x0, x1, x2, x3, x4, x5, some (.int c), x7]) (c := c) hl h hn (by rw [h0]; rfl) (by rw [h1]; rfl) hs hc
  refine ⟨res, W', ?_, k, o⟩
  rw [← e]
  rfl
theorem tngB_ok {w w' : Ws} {l n : Nat} {x2 x6 x7 : Option PyData} {s : Int} {a : Nat} {nm : List Nat} {ws : List (List Nat × Nat × PyData)} (hl : l < w.length) (k : Kept w l n w') (hn : n + 20 < 1000000) (hs : s = 2 ∨ s = 3) (ha : a ≤ 2) (hnm : nmL nm = true) (hw : ws.length ≤ 5) (hq : ∀ x ∈ ws, Wd x) :
    ∃ y6 y7 w'' ws', tngB [some (rf l), some (.int s), x2, some (rf w.length), some (.str (S nm)), some (.int (a : Int)), x6, x7] (w' ++ [.lst (ws.map wd)])
      = .nx [some (rf l), some (.int s), x2, some (rf w.length), some (.str (S nm)), some (.int (a : Int)), y6, y7] (w'' ++ [.lst ((ws ++ ws').map wd)]) ∧ Kept w l (n + 10) w'' ∧ ws'.length ≤ 1 ∧ (∀ x ∈ ws', Wd x) ∧ (nm = [97, 110, 100] → ∃ c, ws' = [(nm, a, c)]) := by
  have hl' : l < w'.length := by rw [k.len]; exact hl
  have kl := k.len
  obtain ⟨b, W2, e, k2o, hb⟩ := tngT_ok (w := w ++ [.lst (ws.map wd)]) (ρ := [some (rf l), some (.int s), x2, some (rf w.length), some (.str (S nm)), some (.int (a : Int)), x6, x7]) (by simp; omega) (k.up hl) (by omega) rfl rfl
  obtain ⟨w2, rfl, k2⟩ := k2o.app hl
  cases b with
  | false =>
    refine ⟨x6, x7, w2, [], ?_, k2.mono (by omega), by simp, fun x hx => (by cases hx), fun q => by have := hb q; cases this⟩
    rw [tngB, sIf, e]
    simp only [Oc.thenS, cond_false, sNil, List.append_nil]
  | true =>
    have tc := tngC_ok (W := w2 ++ [.lst (ws.map wd)]) (ρ := [some (rf l), some (.int s), x2, some (rf w.length), some (.str (S nm)), some (.int (a : Int)), x6, x7]) rfl rfl hs ha
    have c9 : 0 ≤ cV s a ∧ cV s a ≤ 9 := by
      rcases (show a = 0 ∨ a = 1 ∨ a = 2 by omega) with rfl | rfl | rfl <;> rcases hs with rfl | rfl <;> decide
    obtain ⟨res, W3, e3, k3o, o3⟩ := draws_lc' (x0 := some (rf l)) (x1 := some (.int s)) (x2 := x2) (x3 := some (rf w.length)) (x4 := some (.str (S nm))) (x5 := some (.int (a : Int))) (x7 := x7) (w := w ++ [.lst (ws.map wd)]) (n := n + 1) (by simp; omega) (k2.up hl) (by omega) rfl rfl (by omega) c9
    obtain ⟨w3, rfl, k3⟩ := k3o.app hl
    refine ⟨some (.int (cV s a)), x7, w3, [(nm, a, .tuple res)], ?_, k3, by simp, fun x hx => ?_, fun _ => ⟨_, rfl⟩⟩
    · rw [tngB, sIf, e]
      simp only [Oc.thenS, cond_true]
      rw [seq_nx (ρ1 := [some (rf l), some (.int s), x2, some (rf w.length), some (.str (S nm)), some (.int (a : Int)), some (.int (cV s a)), x7]) (w1 := w2 ++ [.lst (ws.map wd)]) (by rw [sAsg, tc]; rfl)]
      have l2 := k2.len
      have l3 := k3.len
      have g2 : (w2 ++ [Ob.lst (ws.map wd)])[w.length]? = some (.lst (ws.map wd)) := by rw [← l2]; simp
      have g3 : (w3 ++ [Ob.lst (ws.map wd)])[w.length]? = some (.lst (ws.map wd)) := by rw [← l3]; simp
      have u := upd_at (w := w3 ++ [Ob.lst (ws.map wd)]) (q := w.length) (k := fun xs => apL xs [wd (nm, a, .tuple res)]) (d := .none) (ys := ws.map wd ++ [wd (nm, a, .tuple res)]) g3 (by simp only [apL]; rw [if_pos (by rw [List.length_map, sizeLine_eq]; omega)])
      have et : eTup (aC (eV 4) (aC (eV 5) (aC (eCb tupleD (aC (eLc (iR1 (aC (eV 6) aN)) (gN 7) tYs (eCall F__law_draw [] (aC (eV 0) (aC (eV 1) aN))) [7]) aN)) aN))) [some (rf l), some (.int s), x2, some (rf w.length), some (.str (S nm)), some (.int (a : Int)), some (.int (cV s a)), x7] (w2 ++ [.lst (ws.map wd)]) = .ok (wd (nm, a, .tuple res)) (w3 ++ [.lst (ws.map wd)]) := by
        rw [eTup, aC]
        simp only [eV, List.getElem?_cons_zero, List.getElem?_cons_succ, Oc.bind]
        rw [aC]
        simp only [eV, List.getElem?_cons_zero, List.getElem?_cons_succ, Oc.bind]
        rw [aC, e3]
        simp only [aN, Oc.bind, List.length_cons, List.length_nil, Nat.zero_add, Nat.reduceAdd, szOk_of (show 3 ≤ 10000000 by omega), Oc.on, cond_true]
        rfl
      rw [sExp, eLm]
      simp only [eV, List.getElem?_cons_zero, List.getElem?_cons_succ, Oc.bind, lst_at g2, Option.isSome_some, Oc.on, cond_true]
      rw [aC, et]
      simp only [aN, Oc.bind, u, Oc.thenS]
      rw [← l3, List.set_append_right _ _ (Nat.le_refl _)]
      simp
    · rw [List.mem_singleton] at hx; subst hx
      exact ⟨hnm, ha, o3⟩
end Tk

set_option Elab.async false
set_option linter.all false
set_option maxRecDepth 100000
set_option maxHeartbeats 4000000
namespace Tk
open PySem L2 Td Tg
def tw5 : List (List Nat × Nat) := [([97, 110, 100], 2), ([110, 111], 0), ([110, 111, 116], 1), ([111, 114], 2), ([122, 122, 122, 122, 122, 122, 122, 122], 1)]
def twD (x : List Nat × Nat) : PyData := .tuple [.str (S x.1), .int (x.2 : Int)]
theorem tw5_ok : tw5.all (fun x => nmL x.1 && decide (x.2 ≤ 2)) = true := by decide +kernel
theorem tng_loop {w : Ws} {l : Nat} {x2 : Option PyData} {s : Int} (hl : l < w.length) (hs : s = 2 ∨ s = 3) : ∀ (xs : List (List Nat × Nat)) (ws : List (List Nat × Nat × PyData)) (w' : Ws) (n : Nat) (x4 x5 x6 x7 : Option PyData), Kept w l n w' → n + xs.length * 10 + 20 < 1000000 → ws.length + xs.length ≤ 5 → (∀ x ∈ ws, Wd x) → (xs.all (fun x => nmL x.1 && decide (x.2 ≤ 2)) = true) →
    ∃ (ρ' : Ev) (w'' : Ws) (ws' : List (List Nat × Nat × PyData)), forL (gT 2 (gC (gN 4) (gC (gN 5) gZ))) tngB (xs.map twD) [some (rf l), some (.int s), x2, some (rf w.length), x4, x5, x6, x7] (w' ++ [.lst (ws.map wd)]) = .nx ρ' (w'' ++ [.lst (ws'.map wd)])
      ∧ ρ'[1]? = some (some (.int s)) ∧ ρ'[2]? = some x2 ∧ ρ'[3]? = some (some (rf w.length)) ∧ Kept w l (n + xs.length * 10) w'' ∧ ws'.length ≤ 5 ∧ (∀ x ∈ ws', Wd x) ∧ (∀ x ∈ ws, x ∈ ws') ∧ (∀ a, ([97, 110, 100], a) ∈ xs → ∃ c, ([97, 110, 100], a, c) ∈ ws')
  | [], ws, w', n, x4, x5, x6, x7, k, _, hw, hq, _ => ⟨[some (rf l), some (.int s), x2, some (rf w.length), x4, x5, x6, x7], w', ws, by simp only [List.map_nil, forL], rfl, rfl, rfl, by simpa using k, by simpa using hw, hq, fun _ h => h, fun a h => by cases h⟩
  | (nm, a) :: xs, ws, w', n, x4, x5, x6, x7, k, hn, hw, hq, hx => by
    simp only [List.length_cons, Nat.add_mul, Nat.one_mul] at hn hw
    rw [List.all_cons, Bool.and_eq_true, Bool.and_eq_true] at hx
    obtain ⟨y6, y7, w2, ws2, e, k2, l2, q2, a2⟩ := tngB_ok (x2 := x2) (x6 := x6) (x7 := x7) (s := s) (a := a) (nm := nm) (ws := ws) hl k (by omega) hs (of_decide_eq_true hx.1.2) hx.1.1 (by omega) hq
    obtain ⟨ρ', w3, ws3, e3, r1, r2, r3, k3, l3, q3, s3, t3⟩ := tng_loop hl hs xs (ws ++ ws2) w2 (n + 10) (some (.str (S nm))) (some (.int (a : Int))) y6 y7 k2 (by omega) (by rw [List.length_append]; omega) (fun x hx => by
      rcases List.mem_append.mp hx with hx | hx
      · exact hq x hx
      · exact q2 x hx) hx.2
    refine ⟨ρ', w3, ws3, ?_, r1, r2, r3, ?_, l3, q3, fun x hx => s3 x (List.mem_append_left _ hx), fun b hb => ?_⟩
    · rw [List.map_cons, forL]
      have gg : (gT 2 (gC (gN 4) (gC (gN 5) gZ))) (twD (nm, a)) [some (rf l), some (.int s), x2, some (rf w.length), x4, x5, x6, x7] (w' ++ [.lst (ws.map wd)]) = .ok [some (rf l), some (.int s), x2, some (rf w.length), some (.str (S nm)), some (.int (a : Int)), x6, x7] (w' ++ [.lst (ws.map wd)]) := rfl
      rw [gg]
      simp only
      rw [e]
      exact e3
    · simp only [List.length_cons, Nat.add_mul, Nat.one_mul]
      rwa [show n + (xs.length * 10 + 10) = n + 10 + xs.length * 10 by omega]
    · rcases List.mem_cons.mp hb with hb | hb
      · cases hb
        obtain ⟨c, rfl⟩ := a2 rfl
        exact ⟨c, s3 _ (by simp)⟩
      · exact t3 b hb
def ins3 : List (List (List Nat)) := [[[120], [121]], [[120]], [[97], [120], [121]]]
theorem ins3_ok : ins3.all (fun x => decide (x ≠ []) && decide (x.length ≤ 3) && x.all nmL) = true := by decide +kernel
def insD (x : List (List Nat)) : PyData := .tuple (x.map fun n => .str (S n))
theorem lits2 : ("x" : Str) = S [120] ∧ ("y" : Str) = S [121] ∧ ("a" : Str) = S [97] ∧ ("no" : Str) = S [110, 111] ∧ ("not" : Str) = S [110, 111, 116] ∧ ("or" : Str) = S [111, 114] ∧ ("zzzzzzzz" : Str) = S [122, 122, 122, 122, 122, 122, 122, 122] := by decide +kernel
theorem tongue_ok {w w' : Ws} {l n : Nat} (hc : Cl w) (hl : l < w.length) (k : Kept w l n w') (hn : n + 100 < 1000000) : ∃ d w'', F__law_tongue [rf l] w' = .ok d w'' ∧ Tng d ∧ Kept w l (n + 60) w'' := by
  obtain ⟨t1, t2, t3, t4, t5, t6, t7⟩ := lits2
  have t8 := lit_and
  obtain ⟨v, w2, e, v0, v1, k2⟩ := draw_e (m := 4) (ρ := [some (rf l), none, none, none, none, none, none, none]) (fm := eC (.int 4)) hl k (by omega) rfl rfl (by omega) (by omega)
  obtain ⟨s, hs, es⟩ : ∃ s : Int, (s = 2 ∨ s = 3) ∧ s = 2 + (if decide (v = 0) = true then 1 else 0) := ⟨_, by split <;> simp, rfl⟩
  obtain ⟨x, w3, e3, hx, k3⟩ := choice_k (xs := ins3.map insD) hl k2 (by omega) (by simp [ins3]) (by simp [ins3])
  obtain ⟨ins, hi, rfl⟩ := List.mem_map.mp hx
  have iok := List.all_eq_true.mp ins3_ok ins hi
  rw [Bool.and_eq_true, Bool.and_eq_true] at iok
  have e3' : F__law_choice [rf l, .list [.tuple [.str "x", .str "y"], .tuple [.str "x"], .tuple [.str "a", .str "x", .str "y"]]] w2 = .ok (insD ins) w3 := by rw [t1, t2, t3]; exact e3
  have l3 := k3.len
  obtain ⟨ρ', w4, ws, e4, r1, r2, r3, k4, l4, q4, _, a4⟩ := tng_loop (x2 := some (insD ins)) (s := s) hl hs tw5 [] w3 (n + 1 + 1) none none none none k3 (by simp [tw5]; omega) (by simp [tw5]) (fun x hx => by cases hx) tw5_ok
  obtain ⟨cc, hcc⟩ := a4 2 (by simp [tw5])
  have tg : Tng (.tuple [.int s, insD ins, .tuple (ws.map wd)]) := ⟨⟨s, ins, ws, rfl, of_decide_eq_true iok.1.1, fun n hn => List.all_eq_true.mp iok.2 n hn, of_decide_eq_true iok.1.2, l4, q4, ⟨_, hcc, by simp⟩, by omega, by omega⟩⟩
  have k4' : Kept w l (n + 60) w4 := k4.mono (by simp [tw5])
  refine ⟨_, w4, ?_, tg, k4'⟩
  have b : b__law_tongue [some (rf l), none, none, none, none, none, none, none] w' = .rt (.tuple [.int s, insD ins, .tuple (ws.map wd)]) (w4 ++ [.lst (ws.map wd)]) := by
    unfold b__law_tongue
    rw [seq_nx (ρ1 := [some (rf l), some (.int s), none, none, none, none, none, none]) (w1 := w2) (by
      have e' : (eB eqD (eCall F__law_draw [] (aC (eV 0) (aC (eC (.int 4)) aN))) (eC (.int 0))) [some (rf l), none, none, none, none, none, none, none] w' = .ok (.bool (decide (v = 0))) w2 := by
        rw [eB, e]; simp only [Oc.bind, eC, Oc.of, eqD_int]
      rw [sAsg, eB, eC]
      simp only [Oc.bind]
      rw [eCb, aC, e']
      simp only [Oc.bind, aN, toInt, Oc.of, addD, Oc.thenS, gN, List.set_cons_zero, List.set_cons_succ, ← es])]
    rw [seq_nx (ρ1 := [some (rf l), some (.int s), some (insD ins), some (rf w.length), none, none, none, none]) (w1 := w3 ++ [.lst []]) (by
      have z1 : szOk 1 = true := szOk_of (by omega)
      have z3 : szOk 3 = true := szOk_of (by omega)
      simp only [sPar, aC, aN, eCall, eV, eC, eLst, eTup, eLstS, Oc.bind, List.getElem?_cons_zero, List.getElem?_cons_succ, List.length_cons, List.length_nil, Nat.zero_add, Nat.reduceAdd, sz0, sz2, z1, z3, Oc.on, cond_true, List.append_nil, e3', Oc.thenS, l3, List.set_cons_zero, List.set_cons_succ])]
    rw [seq_nx (ρ1 := ρ') (w1 := w4 ++ [.lst (ws.map wd)]) (by
      have it : (iE (eTup (aC (eTup (aC (eC (.str "and")) (aC (eC (.int 2)) aN))) (aC (eTup (aC (eC (.str "no")) (aC (eC (.int 0)) aN))) (aC (eTup (aC (eC (.str "not")) (aC (eC (.int 1)) aN))) (aC (eTup (aC (eC (.str "or")) (aC (eC (.int 2)) aN))) (aC (eTup (aC (eC (.str "zzzzzzzz")) (aC (eC (.int 1)) aN))) aN))))))) [some (rf l), some (.int s), some (insD ins), some (rf w.length), none, none, none, none] (w3 ++ [.lst []]) = .ok (tw5.map twD) (w3 ++ [.lst []]) := by
        simp only [iE, eTup, aC, aN, eC, Oc.bind, List.length_cons, List.length_nil, Nat.zero_add, Nat.reduceAdd, sz2, szOk_of (show 5 ≤ 10000000 by omega), Oc.on, cond_true, itD, Oc.of, t4, t5, t6, t7, t8]
        rfl
      rw [sFor, it]
      exact e4)]
    have g4 : (w4 ++ [Ob.lst (ws.map wd)])[w.length]? = some (.lst (ws.map wd)) := by rw [← k4.len]; simp
    have r2' : ρ'[2]? = some (some (insD ins)) := r2
    simp only [sRet, eTup, aC, aN, eV, r1, r2', r3, eCb, Oc.bind, tupleD, lst_at g4, Option.map_some, Oc.of, List.length_cons, List.length_nil, Nat.zero_add, Nat.reduceAdd, szOk_of (show 3 ≤ 10000000 by omega), Oc.on, cond_true, Oc.thenS]
  show leave w'.length (b__law_tongue [some (rf l), none, none, none, none, none, none, none] w') = _
  rw [b, show w'.length = w4.length by rw [k.len, k4.len]]
  refine leave_trim (k4.cl hc) ?_
  refine bnd_okD _ ?_
  have t62 : (3 : Nat) < ten62 := by decide +kernel
  have o1 : okD (insD ins) = true := okDA_iff.mpr fun d hd => by
    obtain ⟨n, hn, rfl⟩ := List.mem_map.mp hd
    exact asc_nm (List.all_eq_true.mp iok.2 n hn)
  have o2 : okD (.tuple (ws.map wd)) = true := okDA_iff.mpr fun d hd => by
    obtain ⟨x, hx, rfl⟩ := List.mem_map.mp hd
    have q := q4 x hx
    show (okD (.str (S x.1)) && (decide ((x.2.1 : Int).natAbs < ten62) && (okD x.2.2 && true))) = true
    rw [show okD (.str (S x.1)) = true from asc_nm q.nm, q.ok, decide_eq_true (by have := q.ar; omega)]; rfl
  show (decide (s.natAbs < ten62) && (okD (insD ins) && (okD (.tuple (ws.map wd)) && true))) = true
  rw [o1, o2, decide_eq_true (by omega)]; rfl
end Tk

set_option Elab.async false
set_option linter.all false
set_option maxRecDepth 100000
set_option maxHeartbeats 4000000
namespace Tk
open PySem L2 Td Tg
def hdsOf (ins : List (List Nat)) (ws : List (List Nat × Nat × PyData)) : List (List Nat × Nat) := ins.map (fun n => (n, 0)) ++ ws.map fun x => (x.1, x.2.1)
theorem heads_ok {w : Ws} {s : PyData} {ins : List (List Nat)} {ws : List (List Nat × Nat × PyData)} {b : Bool} (hi : ins.length ≤ 1000) (hw : ws.length ≤ 1000) :
    F__law_heads [.tuple [s, insD ins, .tuple (ws.map wd)], .bool b] w = .ok (.list (((hdsOf ins ws).filter fun x => decide (decide (0 < x.2) = b)).map twD)) w := by
  obtain ⟨T, hT⟩ : ∃ T, T = PyData.tuple [s, insD ins, .tuple (ws.map wd)] := ⟨_, rfl⟩
  have x1 : ixD w T (.int 1) = some (insD ins) := by rw [hT]; rfl
  have x2 : ixD w T (.int 2) = some (.tuple (ws.map wd)) := by rw [hT]; rfl
  rw [← hT]
  have c1 := lcL_map (gt := gN 4) (fe := eTup (aC (eV 4) (aC (eC (.int 0)) aN))) (ρ := [some T, some (.bool b), none, none, none, none]) (w := w) (fun d => .tuple [d, .int 0]) (ins.map fun n => .str (S n)) (by rw [List.length_map, sizeLine_eq]; omega) fun d hd => by
    refine ⟨[some T, some (.bool b), none, none, some d, none], rfl, ?_⟩
    simp only [eTup, aC, aN, eV, eC, Oc.bind, List.getElem?_cons_zero, List.getElem?_cons_succ, List.length_cons, List.length_nil, Nat.zero_add, Nat.reduceAdd, sz2, Oc.on, cond_true]
  have c2 := lcL_map (gt := gN 5) (fe := eTup (aC (eB ixD (eV 5) (eC (.int 0))) (aC (eB ixD (eV 5) (eC (.int 1))) aN))) (ρ := [some T, some (.bool b), none, none, none, none]) (w := w) (fun d => match d with | .tuple [x, y, _] => .tuple [x, y] | _ => .none) (ws.map wd) (by rw [List.length_map, sizeLine_eq]; omega) fun d hd => by
    obtain ⟨⟨n, a, c⟩, _, rfl⟩ := List.mem_map.mp hd
    refine ⟨[some T, some (.bool b), none, none, none, some (wd (n, a, c))], rfl, ?_⟩
    have i0 : ixD w (wd (n, a, c)) (.int 0) = some (.str (S n)) := rfl
    have i1 : ixD w (wd (n, a, c)) (.int 1) = some (.int (a : Int)) := rfl
    simp only [eTup, aC, aN, eB, eV, eC, Oc.bind, List.getElem?_cons_zero, List.getElem?_cons_succ, i0, i1, Oc.of, List.length_cons, List.length_nil, Nat.zero_add, Nat.reduceAdd, sz2, Oc.on, cond_true]
    rfl
  have f1 : (ins.map fun n => PyData.str (S n)).map (fun d => PyData.tuple [d, .int 0]) ++ (ws.map wd).map (fun d => match d with | .tuple [x, y, _] => PyData.tuple [x, y] | _ => .none) = (hdsOf ins ws).map twD := by
    unfold hdsOf
    rw [List.map_append, List.map_map, List.map_map, List.map_map, List.map_map]
    rfl
  generalize (ins.map fun n => PyData.str (S n)).map (fun d => PyData.tuple [d, .int 0]) = L1 at c1 f1
  generalize (ws.map wd).map (fun d => match d with | .tuple [x, y, _] => PyData.tuple [x, y] | _ => .none) = L2 at c2 f1
  have hl : (hdsOf ins ws).length = ins.length + ws.length := by unfold hdsOf; simp
  have l12 : L1.length + L2.length = ins.length + ws.length := by rw [← List.length_append, f1, List.length_map, hl]
  have s1 : sAsg (eB addD (eLc (iE (eB ixD (eV 0) (eC (.int 1)))) (gN 4) tYs (eTup (aC (eV 4) (aC (eC (.int 0)) aN))) [4]) (eLc (iE (eB ixD (eV 0) (eC (.int 2)))) (gN 5) tYs (eTup (aC (eB ixD (eV 5) (eC (.int 0))) (aC (eB ixD (eV 5) (eC (.int 1))) aN))) [5])) (gN 2) [some T, some (.bool b), none, none, none, none] w = .nx [some T, some (.bool b), some (.list ((hdsOf ins ws).map twD)), none, none, none] w := by
    have y1 : itD (insD ins) = some (ins.map fun n => .str (S n)) := rfl
    have z : szOk (L1.length + L2.length) = true := szOk_of (by omega)
    have i1 : iE (eB ixD (eV 0) (eC (.int 1))) [some T, some (.bool b), none, none, none, none] w = .ok (ins.map fun n => .str (S n)) w := by
      simp only [iE, eB, eV, eC, Oc.bind, List.getElem?_cons_zero, x1, Oc.of, y1]
    have i2 : iE (eB ixD (eV 0) (eC (.int 2))) [some T, some (.bool b), none, none, none, none] w = .ok (ws.map wd) w := by
      simp only [iE, eB, eV, eC, Oc.bind, List.getElem?_cons_zero, x2, Oc.of, itD]
    rw [sAsg, eB, eLc, i1]
    simp only [Oc.bind, wipeE, List.set_cons_zero, List.set_cons_succ]
    rw [c1]
    simp only [Oc.bind]
    rw [eLc, i2]
    simp only [Oc.bind, wipeE, List.set_cons_zero, List.set_cons_succ]
    rw [c2]
    simp only [Oc.bind, addD, lstOf_list, z, if_true, f1, Oc.of, Oc.thenS, gN, List.set_cons_zero, List.set_cons_succ]
  have c3 := lcL_pure (gt := gN 3) (tt := tB' (eB eqD (eB gtD (eB ixD (eV 3) (eC (.int 1))) (eC (.int 0))) (eV 1))) (fe := eV 3) (ρ := [some T, some (.bool b), some (.list ((hdsOf ins ws).map twD)), none, none, none]) (w := w) (fun d => match d with | .tuple [_, .int a] => decide (decide (0 < a) = b) | _ => false) id ((hdsOf ins ws).map twD) [] (by rw [List.length_map, sizeLine_eq, List.length_nil]; omega) fun d hd => by
    obtain ⟨⟨n, a⟩, _, rfl⟩ := List.mem_map.mp hd
    refine ⟨[some T, some (.bool b), some (.list ((hdsOf ins ws).map twD)), some (twD (n, a)), none, none], rfl, ?_, fun _ => rfl⟩
    have i1 : ixD w (twD (n, a)) (.int 1) = some (.int (a : Int)) := rfl
    simp only [tB', eB, eV, eC, Oc.bind, List.getElem?_cons_zero, List.getElem?_cons_succ, i1, Oc.of, gtD, cmpD, eqD_bool]
    rfl
  rw [List.nil_append, List.map_id, List.filter_map] at c3
  have fc : (hdsOf ins ws).filter ((fun d => match d with | .tuple [_, .int a] => decide (decide (0 < a) = b) | _ => false) ∘ twD) = (hdsOf ins ws).filter fun x => decide (decide (0 < x.2) = b) := by
    refine List.filter_congr fun x _ => ?_
    show decide (decide ((0 : Int) < (x.2 : Int)) = b) = _
    have : decide ((0 : Int) < (x.2 : Int)) = decide (0 < x.2) := by
      by_cases h : 0 < x.2
      · rw [decide_eq_true h, decide_eq_true (by omega)]
      · rw [decide_eq_false h, decide_eq_false (by omega)]
    rw [this]
  rw [fc] at c3
  have bb : b__law_heads [some T, some (.bool b), none, none, none, none] w = .rt (.list (((hdsOf ins ws).filter fun x => decide (decide (0 < x.2) = b)).map twD)) w := by
    unfold b__law_heads
    rw [seq_nx s1]
    generalize (hdsOf ins ws).map twD = HT at *
    simp only [sRet, eLc, iE, eV, Oc.bind, List.getElem?_cons_zero, List.getElem?_cons_succ, itD, Oc.of, wipeE, List.set_cons_zero, List.set_cons_succ, c3, Oc.thenS]
  show leave w.length (b__law_heads [some T, some (.bool b), none, none, none, none] w) = _
  rw [bb]
  exact leave_w
/-! ### patterns of a depth -/
mutual
def hgt : Pat → Nat
  | .var _ => 0
  | .node _ ps => hgts ps
def hgts : List Pat → Nat
  | [] => 0
  | p :: ps => max (hgt p + 1) (hgts ps)
end
mutual
theorem depth_toD : ∀ p : Pat, (toD p).depth ≤ 2 * hgt p + 2
  | .var n => by simp [toD, PyData.depth]
  | .node h ps => by
    have := depthAll_toDs ps
    simp only [toD, PyData.depth, PyData.depthAll, hgt]; omega
theorem depthAll_toDs : ∀ ps : List Pat, PyData.depthAll (toDs ps) ≤ 2 * hgts ps
  | [] => by simp [toDs, PyData.depthAll]
  | p :: ps => by
    have h1 := depth_toD p
    have h2 := depthAll_toDs ps
    simp only [toDs, PyData.depthAll, hgts]; omega
end
mutual
theorem wt_toD : ∀ p : Pat, ok p = true → wt (toD p) ≤ 12 * nn p
  | .var n, h => by
    have := (nm_len (show nmL n = true from h)).2.1
    show 1 + (S (63 :: n)).length ≤ 12 * 1
    rw [S_len, List.length_cons]; omega
  | .node hd ps, h => by
    have h : (nmL hd && oks ps) = true := h
    rw [Bool.and_eq_true] at h
    have h1 := (nm_len h.1).2.1
    have h2 := wtA_toDs ps h.2
    show 1 + (1 + (S hd).length + (1 + wtA (toDs ps) + 0)) ≤ 12 * (1 + nnA ps)
    rw [S_len]; omega
theorem wtA_toDs : ∀ ps : List Pat, oks ps = true → wtA (toDs ps) ≤ 12 * nnA ps
  | [], _ => by simp [toDs, wtA]
  | p :: ps, h => by
    have h : (ok p && oks ps) = true := h
    rw [Bool.and_eq_true] at h
    have h1 := wt_toD p h.1
    have h2 := wtA_toDs ps h.2
    simp only [toDs, wtA, nnA]; omega
end
theorem sml_of {p : Pat} (h1 : ok p = true) (h2 : nn p ≤ 20) (h3 : hgt p ≤ 9) : Sml p := ⟨h1, h2, by have := wt_toD p h1; omega, by have := depth_toD p; omega⟩
def nb : Nat → Nat
  | 0 => 1
  | d + 1 => 1 + 2 * nb d
structure Pt (d : Nat) (p : Pat) : Prop where
  ok : ok p = true
  hg : hgt p ≤ d
  nb : nn p ≤ nb d
theorem nb_mono : ∀ {a b : Nat}, a ≤ b → nb a ≤ nb b
  | a, b, h => by
    induction b with
    | zero => rw [Nat.le_zero.mp h]; exact Nat.le_refl _
    | succ b ih =>
      by_cases e : a = b + 1
      · rw [e]; exact Nat.le_refl _
      · have := ih (by omega); simp only [nb]; omega
theorem pt_mono {a b : Nat} {p : Pat} (h : Pt a p) (hb : a ≤ b) : Pt b p := ⟨h.ok, Nat.le_trans h.hg hb, Nat.le_trans h.nb (nb_mono hb)⟩
theorem pt_leaf {n : List Nat} (h : nmL n = true) (d : Nat) : Pt d (.var n) ∧ Pt d (.node n []) := by
  have : nb 0 ≤ nb d := nb_mono (Nat.zero_le d)
  exact ⟨⟨h, Nat.zero_le _, this⟩, ⟨by show (nmL n && true) = true; rw [h]; rfl, Nat.zero_le _, this⟩⟩
theorem pt_node {d : Nat} {n : List Nat} {ps : List Pat} (h : nmL n = true) (hp : ∀ p ∈ ps, Pt d p) (hl : ps.length ≤ 2) : Pt (d + 1) (.node n ps) := by
  have a : ∀ qs : List Pat, (∀ p ∈ qs, Pt d p) → oks qs = true ∧ hgts qs ≤ d + 1 ∧ nnA qs ≤ qs.length * nb d := fun qs => by
    induction qs with
    | nil => intro _; exact ⟨rfl, Nat.zero_le _, by simp [nnA]⟩
    | cons q qs ih =>
      intro hq
      obtain ⟨i1, i2, i3⟩ := ih fun p hp => hq p (List.mem_cons_of_mem _ hp)
      have g := hq q List.mem_cons_self
      refine ⟨by show (Tk.ok q && oks qs) = true; rw [g.ok, i1]; rfl, by simp only [hgts]; have := g.hg; omega, ?_⟩
      have := g.nb
      simp only [nnA, List.length_cons, Nat.add_mul, Nat.one_mul]; omega
  obtain ⟨i1, i2, i3⟩ := a ps hp
  refine ⟨by show (nmL n && oks ps) = true; rw [h, i1]; rfl, i2, ?_⟩
  have : ps.length * nb d ≤ 2 * nb d := Nat.mul_le_mul_right _ hl
  simp only [nn, Tk.nb]; omega
end Tk

set_option Elab.async false
set_option linter.all false
set_option maxRecDepth 100000
set_option maxHeartbeats 4000000
namespace Tk
open PySem L2 Td Tg
def pc : Nat → Nat
  | 0 => 3
  | d + 1 => 6 + 2 * pc d
theorem pc_min : ∀ d, 3 ≤ pc d
  | 0 => Nat.le_refl _
  | d + 1 => by simp only [pc]; omega
def lbD (n : List Nat) : PyData := .str (S (63 :: n))
structure Lbs (lbs : List (List Nat)) : Prop where
  ne : lbs ≠ []
  nm : ∀ n ∈ lbs, nmL n = true
  len : lbs.length ≤ 10
theorem ne_nil {w : Ws} {x : PyData} {xs : List PyData} (h : okD (.tuple (x :: xs)) = true) (hd : (PyData.tuple (x :: xs)).depth ≤ 64) : neD w (.tuple (x :: xs)) (.tuple []) = some (.bool true) := by
  unfold neD
  rw [if_pos (by rw [shaped_of h hd, shaped_of (d := .tuple []) rfl (by simp [PyData.depth, PyData.depthAll])]; rfl)]
  simp [PyData.eqv, PyData.eqvAll]
section
variable {w : Ws} {l : Nat} {s : Int} {ins : List (List Nat)} {ws : List (List Nat × Nat × PyData)} {lbs : List (List Nat)}
def leafS : FS := (sSeq (sIf (tAn (tB' (eB neD (eV 2) (eTup aN))) (tB' (eB gtD (eCall F__law_draw [] (aC (eV 0) (aC (eC (.int 5)) aN))) (eC (.int 0))))) (sRet (eCall F__law_choice [] (aC (eV 0) (aC (eV 2) aN)))) sNil)
    (sRet (eTup (aC (eB ixD (eCall F__law_choice [] (aC (eV 0) (aC (eCall F__law_heads [] (aC (eV 1) (aC (eC (.bool false)) aN))) aN))) (eC (.int 0))) (aC (eTup aN) aN)))))
theorem pattern_eq (g : FF) : b__law_pattern g = sSeq (sIf (tOr' (tB' (eB eqD (eV 3) (eC (.int 0)))) (tB' (eB eqD (eCall F__law_draw [] (aC (eV 0) (aC (eC (.int 4)) aN))) (eC (.int 0))))) leafS sNil)
    (sRet (eCall (FT__law_top g) [] (aC (eV 0) (aC (eV 1) (aC (eV 2) (aC (eV 3) aN)))))) := rfl
theorem leafS_ok {w' : Ws} {n : Nat} {x3 : Option PyData} (d : Nat) (hl : l < w.length) (hT : ∀ n ∈ ins, nmL n = true) (hi : ins ≠ []) (hi3 : ins.length ≤ 3) (hw5 : ws.length ≤ 5) (hq : ∀ x ∈ ws, Wd x) (hL : Lbs lbs) (k : Kept w l n w') (hn : n + 1 < 1000000) :
    ∃ p w'', leafS [some (rf l), some (.tuple [.int s, insD ins, .tuple (ws.map wd)]), some (.tuple (lbs.map lbD)), x3] w' = .rt (toD p) w'' ∧ Pt d p ∧ Kept w l (n + 2) w'' := by
  have ho : okD (.tuple (lbs.map lbD)) = true := okDA_iff.mpr fun d hd => by
    obtain ⟨n, hn, rfl⟩ := List.mem_map.mp hd
    exact asc_var (hL.nm n hn)
  have hdp : (PyData.tuple (lbs.map lbD)).depth ≤ 64 := by
    have : PyData.depthAll (lbs.map lbD) ≤ 1 := depthAll_le.mpr fun d hd => by
      obtain ⟨n, hn, rfl⟩ := List.mem_map.mp hd
      simp [lbD, PyData.depth]
    simp only [PyData.depth]; omega
  obtain ⟨TT, hTT⟩ : ∃ TT, TT = PyData.tuple [.int s, insD ins, .tuple (ws.map wd)] := ⟨_, rfl⟩
  rw [← hTT]
  obtain ⟨v, w2, e, v0, v1, k2⟩ := draw_e (m := 5) (ρ := [some (rf l), some TT, some (.tuple (lbs.map lbD)), x3]) (fm := eC (.int 5)) hl k (by omega) rfl rfl (by omega) (by omega)
  have nn0 : tB' (eB neD (eV 2) (eTup aN)) [some (rf l), some TT, some (.tuple (lbs.map lbD)), x3] w' = .ok true w' := by
    cases hlb : lbs with
    | nil => exact absurd hlb hL.ne
    | cons a r =>
      rw [hlb] at ho hdp
      have := ne_nil (w := w') (x := lbD a) (xs := r.map lbD) ho hdp
      simp only [tB', eB, eV, eTup, aN, Oc.bind, List.getElem?_cons_zero, List.getElem?_cons_succ, List.length_nil, sz0, Oc.on, cond_true, List.map_cons, this, Oc.of]
  have t : tAn (tB' (eB neD (eV 2) (eTup aN))) (tB' (eB gtD (eCall F__law_draw [] (aC (eV 0) (aC (eC (.int 5)) aN))) (eC (.int 0)))) [some (rf l), some TT, some (.tuple (lbs.map lbD)), x3] w' = .ok (decide (0 < v)) w2 := by
    rw [tAn, nn0]
    simp only [Oc.bind, cond_true]
    rw [tB', eB, e]
    simp only [Oc.bind, eC, Oc.of, gtD, cmpD]
  by_cases hv : 0 < v
  · rw [decide_eq_true hv] at t
    obtain ⟨x, w3, e3, hx, k3⟩ := choice_kt (xs := lbs.map lbD) hl k2 (by omega) (by simpa using hL.ne) (by rw [List.length_map]; have := hL.len; omega)
    obtain ⟨nm, hnm, rfl⟩ := List.mem_map.mp hx
    refine ⟨.var nm, w3, ?_, (pt_leaf (hL.nm nm hnm) d).1, k3⟩
    unfold leafS
    rw [seq_rt (d := toD (.var nm)) (w1 := w3) (by
      rw [sIf, t]
      simp only [Oc.thenS, cond_true, sRet, eCall, aC, aN, eV, Oc.bind, List.getElem?_cons_zero, List.getElem?_cons_succ, List.append_nil, e3]
      rfl)]
  · rw [decide_eq_false hv] at t
    have hd := heads_ok (w := w2) (s := .int s) (ins := ins) (ws := ws) (b := false) (by omega) (by omega)
    rw [← hTT] at hd
    have ne : ((hdsOf ins ws).filter fun x : List Nat × Nat => decide (decide (0 < x.2) = false)) ≠ [] := by
      cases hii : ins with
      | nil => exact absurd hii hi
      | cons a r => intro h; have := List.filter_eq_nil_iff.mp h (a, 0) (by simp [hdsOf]); exact this (by simp)
    have hl2 : ((hdsOf ins ws).filter fun x : List Nat × Nat => decide (decide (0 < x.2) = false)).length ≤ 10 := Nat.le_trans (List.length_filter_le ..) (by simp [hdsOf]; omega)
    obtain ⟨x, w3, e3, hx, k3⟩ := choice_k (xs := ((hdsOf ins ws).filter fun x : List Nat × Nat => decide (decide (0 < x.2) = false)).map twD) hl k2 (by omega) (by simpa using ne) (by rw [List.length_map]; omega)
    obtain ⟨⟨nm, a⟩, hnm, rfl⟩ := List.mem_map.mp hx
    have hm := (List.mem_filter.mp hnm).1
    have nmo : nmL nm = true := by
      unfold hdsOf at hm
      rcases List.mem_append.mp hm with hm | hm
      · obtain ⟨y, hy, ey⟩ := List.mem_map.mp hm
        cases ey; exact hT _ hy
      · obtain ⟨y, hy, ey⟩ := List.mem_map.mp hm
        cases ey; exact (hq y hy).nm
    refine ⟨.node nm [], w3, ?_, (pt_leaf nmo d).2, k3⟩
    unfold leafS
    rw [seq_nx (ρ1 := [some (rf l), some TT, some (.tuple (lbs.map lbD)), x3]) (w1 := w2) (by
      rw [sIf, t]
      simp only [Oc.thenS, cond_false, sNil])]
    generalize ((hdsOf ins ws).filter fun x : List Nat × Nat => decide (decide (0 < x.2) = false)).map twD = HH at *
    have i0 : ixD w3 (twD (nm, a)) (.int 0) = some (.str (S nm)) := rfl
    generalize twD (nm, a) = TW at *
    simp only [sRet, eTup, eB, eCall, aC, aN, eV, eC, Oc.bind, List.getElem?_cons_zero, List.getElem?_cons_succ, List.append_nil, List.cons_append, List.nil_append, hd, e3, i0, Oc.of, List.length_nil, List.length_cons, Nat.zero_add, Nat.reduceAdd, sz0, sz2, Oc.on, cond_true, Oc.thenS]
    rfl
end
end Tk

set_option Elab.async false
set_option linter.all false
set_option maxRecDepth 100000
set_option maxHeartbeats 4000000
namespace Tk
open PySem L2 Td Tg
theorem toDs_app (a b : List Pat) : toDs (a ++ b) = toDs a ++ toDs b := by simp [toDs_map]
theorem rg_mem {a : Nat} {d : PyData} (h : d ∈ rgD 0 (a : Int)) : ∃ i : Nat, d = .int (i : Int) := by
  unfold rgD at h
  obtain ⟨i, _, rfl⟩ := List.mem_map.mp h
  exact ⟨i, by simp⟩
section
variable {w : Ws} {l : Nat} {s : Int} {ins : List (List Nat)} {ws : List (List Nat × Nat × PyData)} {lbs : List (List Nat)}
def partE (g : FF) : FE := eCall g [] (aC (eV 0) (aC (eV 1) (aC (eV 2) (aC (eB mulD (eB subD (eV 3) (eC (.int 1))) (eCb toInt (aC (eB eqD (eV 7) (eV 4)) aN))) aN))))
theorem parts_lc {g : FF} {T L : PyData} {d c n : Nat} {W : Ws} {at_ : Int} {x5 x6 : Option PyData} {a : Nat} (hd : d ≤ 1000) (ha : a ≤ 2)
    (hg : ∀ W n e, (e = 0 ∨ e = d) → Kept w l n W → n + c < 1000000 → ∃ p W', g [rf l, T, L, .int (e : Int)] W = .ok (toD p) W' ∧ Pt d p ∧ Kept w l (n + c) W')
    (k : Kept w l n W) (hn : n + 2 * c < 1000000) :
    ∃ ps W', eCb tupleD (aC (eLc (iR1 (aC (eV 6) aN)) (gN 7) tYs (partE g) [7]) aN) [some (rf l), some T, some L, some (.int ((d + 1 : Nat) : Int)), some (.int at_), x5, some (.int (a : Int)), none] W = .ok (.tuple (toDs ps)) W' ∧ (∀ p ∈ ps, Pt d p) ∧ ps.length = a ∧ Kept w l (n + 2 * c) W' := by
  have al : a * c ≤ 2 * c := Nat.mul_le_mul_right _ ha
  obtain ⟨res, W', e, ⟨ps, rfl, hp, kk⟩, lr⟩ := lcL_all (gt := gN 7) (fe := partE g) (ρ := [some (rf l), some T, some L, some (.int ((d + 1 : Nat) : Int)), some (.int at_), x5, some (.int (a : Int)), none]) (fun acc W => ∃ ps, acc = toDs ps ∧ (∀ p ∈ ps, Pt d p) ∧ Kept w l (n + acc.length * c) W) a (rgD 0 (a : Int)) [] W (by rw [rgD_len _ (by omega)]; simp) (by rw [sizeLine_eq]; omega) ⟨[], rfl, (fun p hp => by cases hp), by simpa using k⟩ (fun x hx acc W2 hlt ⟨ps, ea, hp, k2⟩ => by
    obtain ⟨i, rfl⟩ := rg_mem hx
    have lc : (acc.length + 1) * c ≤ a * c := Nat.mul_le_mul_right _ hlt
    rw [Nat.add_mul, Nat.one_mul] at lc
    obtain ⟨ev, hev, hval⟩ : ∃ ev : Nat, (ev = 0 ∨ ev = d) ∧ (((d + 1 : Nat) : Int) - 1) * (if decide ((i : Int) = at_) = true then 1 else 0) = (ev : Int) := by
      by_cases h : (i : Int) = at_
      · exact ⟨d, .inr rfl, by rw [decide_eq_true h]; simp⟩
      · exact ⟨0, .inl rfl, by rw [decide_eq_false h]; simp⟩
    obtain ⟨p, W3, e3, hp3, k3⟩ := hg W2 (n + acc.length * c) ev hev k2 (by omega)
    refine ⟨[some (rf l), some T, some L, some (.int ((d + 1 : Nat) : Int)), some (.int at_), x5, some (.int (a : Int)), some (.int (i : Int))], W2, toD p, W3, rfl, ?_, ps ++ [p], by rw [ea, toDs_app]; rfl, fun q hq => ?_, ?_⟩
    · have m : ∀ z : Int, cMl (((d + 1 : Nat) : Int) - 1) z = true := fun z => by unfold cMl; rw [decide_eq_true (show (((d + 1 : Nat) : Int) - 1).natAbs < 2 ^ 64 by omega)]; rfl
      simp only [partE, eCall, aC, aN, eV, eB, eC, eCb, Oc.bind, List.getElem?_cons_zero, List.getElem?_cons_succ, subD, Oc.of, eqD_int, toInt, mulD, m, if_true, hval, List.append_nil, List.cons_append, List.nil_append, e3]
    · rcases List.mem_append.mp hq with hq | hq
      · exact hp q hq
      · rw [List.mem_singleton.mp hq]; exact hp3
    · rw [List.length_append, List.length_singleton, Nat.add_mul, Nat.one_mul, ← Nat.add_assoc]; exact k3)
  rw [lr] at kk
  refine ⟨ps, W', ?_, hp, by have := lr; rw [toDs_map, List.length_map] at this; exact this, kk.mono (by omega)⟩
  have c6 : c62 (a : Int) = true := c62_of (by omega)
  simp only [eCb, aC, aN, eLc, iR1, eV, Oc.bind, List.getElem?_cons_zero, List.getElem?_cons_succ, c6, Oc.on, cond_true, wipeE, List.set_cons_zero, List.set_cons_succ, e, tupleD, lstOf_list, Option.map_some, Oc.of]
theorem top_eq (g : FF) : b__law_top g = sSeq (sAsg (eCall F__law_choice [] (aC (eV 0) (aC (eCall F__law_heads [] (aC (eV 1) (aC (eC (.bool true)) aN))) aN))) (gT 2 (gC (gN 5) (gC (gN 6) gZ))))
    (sSeq (sAsg (eCall F__law_draw [] (aC (eV 0) (aC (eV 6) aN))) (gN 4))
    (sRet (eTup (aC (eV 5) (aC (eCb tupleD (aC (eLc (iR1 (aC (eV 6) aN)) (gN 7) tYs (partE g) [7]) aN)) aN))))) := rfl
theorem top_ok {g : FF} {L : PyData} {d c n : Nat} {W : Ws} (hd : d ≤ 1000) (hl : l < w.length) (hi3 : ins.length ≤ 3) (hT : ∀ n ∈ ins, nmL n = true) (hw5 : ws.length ≤ 5) (hq : ∀ x ∈ ws, Wd x) (hx : ∃ x ∈ ws, 0 < x.2.1)
    (hg : ∀ W n e, (e = 0 ∨ e = d) → Kept w l n W → n + c < 1000000 → ∃ p W', g [rf l, .tuple [.int s, insD ins, .tuple (ws.map wd)], L, .int (e : Int)] W = .ok (toD p) W' ∧ Pt d p ∧ Kept w l (n + c) W')
    (k : Kept w l n W) (hn : n + 2 + 2 * c < 1000000) :
    ∃ p W', FT__law_top g [rf l, .tuple [.int s, insD ins, .tuple (ws.map wd)], L, .int ((d + 1 : Nat) : Int)] W = .ok (toD p) W' ∧ Pt (d + 1) p ∧ Kept w l (n + 2 + 2 * c) W' := by
  have hh := heads_ok (w := W) (s := .int s) (ins := ins) (ws := ws) (b := true) (by omega) (by omega)
  obtain ⟨TT, hTT⟩ : ∃ TT, TT = PyData.tuple [.int s, insD ins, .tuple (ws.map wd)] := ⟨_, rfl⟩
  rw [← hTT] at hg hh ⊢
  obtain ⟨HF, hHF⟩ : ∃ HF : List (List Nat × Nat), HF = (hdsOf ins ws).filter fun x : List Nat × Nat => decide (decide (0 < x.2) = true) := ⟨_, rfl⟩
  rw [← hHF] at hh
  have ne : HF ≠ [] := by
    obtain ⟨x, hx1, hx2⟩ := hx
    intro h
    rw [hHF] at h
    exact List.filter_eq_nil_iff.mp h (x.1, x.2.1) (by unfold hdsOf; exact List.mem_append_right _ (List.mem_map_of_mem (f := fun x : List Nat × Nat × PyData => (x.1, x.2.1)) hx1)) (by simpa using hx2)
  have hl2 : HF.length ≤ 10 := by rw [hHF]; exact Nat.le_trans (List.length_filter_le ..) (by simp [hdsOf]; omega)
  obtain ⟨x, w3, e3, hx3, k3⟩ := choice_k (xs := HF.map twD) hl k (by omega) (by simpa using ne) (by rw [List.length_map]; omega)
  obtain ⟨⟨nm, a⟩, hnm, rfl⟩ := List.mem_map.mp hx3
  rw [hHF] at hnm
  have ha0 : 0 < a := by have := (List.mem_filter.mp hnm).2; simpa using this
  have hm := (List.mem_filter.mp hnm).1
  have nmo : nmL nm = true ∧ a ≤ 2 := by
    unfold hdsOf at hm
    rcases List.mem_append.mp hm with hm | hm
    · obtain ⟨y, hy, ey⟩ := List.mem_map.mp hm
      cases ey; omega
    · obtain ⟨y, hy, ey⟩ := List.mem_map.mp hm
      cases ey; exact ⟨(hq y hy).nm, (hq y hy).ar⟩
  obtain ⟨v, w4, e4, v0, v1, k4⟩ := draw_e (m := (a : Int)) (ρ := [some (rf l), some TT, some L, some (.int ((d + 1 : Nat) : Int)), none, some (.str (S nm)), some (.int (a : Int)), none]) (fm := eV 6) hl k3 (by omega) rfl rfl (by omega) (by omega)
  obtain ⟨ps, w5, e5, hp5, l5, k5⟩ := parts_lc (x5 := some (.str (S nm))) (x6 := none) (at_ := v) (a := a) (L := L) (T := TT) (c := c) hd nmo.2 hg k4 (by omega)
  refine ⟨.node nm ps, w5, ?_, pt_node nmo.1 hp5 (by omega), k5⟩
  show leave W.length (b__law_top g [some (rf l), some TT, some L, some (.int ((d + 1 : Nat) : Int)), none, none, none, none] W) = _
  have b : b__law_top g [some (rf l), some TT, some L, some (.int ((d + 1 : Nat) : Int)), none, none, none, none] W = .rt (toD (.node nm ps)) w5 := by
    rw [top_eq]
    rw [seq_nx (ρ1 := [some (rf l), some TT, some L, some (.int ((d + 1 : Nat) : Int)), none, some (.str (S nm)), some (.int (a : Int)), none]) (w1 := w3) (by
      simp only [sAsg, eCall, aC, aN, eV, eC, Oc.bind, List.getElem?_cons_zero, List.getElem?_cons_succ, List.append_nil, hh, e3, Oc.thenS]
      rfl)]
    rw [seq_nx (ρ1 := [some (rf l), some TT, some L, some (.int ((d + 1 : Nat) : Int)), some (.int v), some (.str (S nm)), some (.int (a : Int)), none]) (w1 := w4) (by
      rw [sAsg, e4]; rfl)]
    rw [sRet, eTup, aC]
    simp only [eV, List.getElem?_cons_zero, List.getElem?_cons_succ, Oc.bind]
    rw [aC, e5]
    simp only [aN, Oc.bind, List.length_nil, List.length_cons, Nat.zero_add, Nat.reduceAdd, sz2, Oc.on, cond_true, Oc.thenS]
    rfl
  rw [b]
  exact leave_ret (by rw [k5.len, k.len])
theorem pattern_ok (hl : l < w.length) (hi : ins ≠ []) (hi3 : ins.length ≤ 3) (hT : ∀ n ∈ ins, nmL n = true) (hw5 : ws.length ≤ 5) (hq : ∀ x ∈ ws, Wd x) (hx : ∃ x ∈ ws, 0 < x.2.1) (hL : Lbs lbs) :
    ∀ (fuel d : Nat) (W : Ws) (n : Nat), d < fuel → d ≤ 1000 → Kept w l n W → n + pc d < 1000000 →
    ∃ p W', F__law_pattern fuel [rf l, .tuple [.int s, insD ins, .tuple (ws.map wd)], .tuple (lbs.map lbD), .int (d : Int)] W = .ok (toD p) W' ∧ Pt d p ∧ Kept w l (n + pc d) W'
  | 0, _, _, _, h, _, _, _ => by omega
  | fuel + 1, d, W, n, hf, hd, k, hn => by
    have hpc := pc_min d
    obtain ⟨TT, hTT⟩ : ∃ TT, TT = PyData.tuple [.int s, insD ins, .tuple (ws.map wd)] := ⟨_, rfl⟩
    obtain ⟨LL, hLL⟩ : ∃ LL, LL = PyData.tuple (lbs.map lbD) := ⟨_, rfl⟩
    have rec_ : ∀ (e : Nat), e < fuel → e ≤ 1000 → ∀ W n, Kept w l n W → n + pc e < 1000000 → ∃ p W', F__law_pattern fuel [rf l, TT, LL, .int (e : Int)] W = .ok (toD p) W' ∧ Pt e p ∧ Kept w l (n + pc e) W' := fun e he hed W n k hn => by
      rw [hTT, hLL]; exact pattern_ok hl hi hi3 hT hw5 hq hx hL fuel e W n he hed k hn
    obtain ⟨v, w2, e, v0, v1, k2⟩ := draw_e (m := 4) (ρ := [some (rf l), some TT, some LL, some (.int (d : Int))]) (fm := eC (.int 4)) hl k (by omega) rfl rfl (by omega) (by omega)
    rw [← hTT, ← hLL]
    show ∃ p W', leave W.length (b__law_pattern (F__law_pattern fuel) [some (rf l), some TT, some LL, some (.int (d : Int))] W) = _ ∧ _
    rw [pattern_eq]
    by_cases hz : d = 0
    · subst hz
      obtain ⟨p, w3, e3, p3, k3⟩ := leafS_ok (s := s) (x3 := some (.int ((0 : Nat) : Int))) 0 hl hT hi hi3 hw5 hq hL k (by omega)
      rw [← hTT, ← hLL] at e3
      refine ⟨p, w3, ?_, p3, k3.mono (by simp only [pc]; omega)⟩
      rw [seq_rt (d := toD p) (w1 := w3) (by
        have t : (tOr' (tB' (eB eqD (eV 3) (eC (.int 0)))) (tB' (eB eqD (eCall F__law_draw [] (aC (eV 0) (aC (eC (.int 4)) aN))) (eC (.int 0))))) [some (rf l), some TT, some LL, some (.int ((0 : Nat) : Int))] W = .ok true W := by
          simp [tOr', tB', eB, eV, eC, Oc.bind, Oc.of, eqD_int]
        rw [sIf, t]
        exact e3)]
      exact leave_ret (by rw [k3.len, k.len])
    · have t : (tOr' (tB' (eB eqD (eV 3) (eC (.int 0)))) (tB' (eB eqD (eCall F__law_draw [] (aC (eV 0) (aC (eC (.int 4)) aN))) (eC (.int 0))))) [some (rf l), some TT, some LL, some (.int (d : Int))] W = .ok (decide (v = 0)) w2 := by
        have t1 : tB' (eB eqD (eV 3) (eC (.int 0))) [some (rf l), some TT, some LL, some (.int (d : Int))] W = .ok false W := by
          have : decide ((d : Int) = 0) = false := decide_eq_false (by omega)
          simp only [tB', eB, eV, eC, Oc.bind, Oc.of, eqD_int, List.getElem?_cons_zero, List.getElem?_cons_succ, this]
        rw [tOr', t1]
        simp only [Oc.bind, cond_false]
        rw [tB', eB, e]
        simp only [Oc.bind, eC, Oc.of, eqD_int]
      by_cases hv : v = 0
      · rw [decide_eq_true hv] at t
        obtain ⟨p, w3, e3, p3, k3⟩ := leafS_ok (s := s) (x3 := some (.int (d : Int))) d hl hT hi hi3 hw5 hq hL k2 (by omega)
        rw [← hTT, ← hLL] at e3
        refine ⟨p, w3, ?_, p3, k3.mono (by omega)⟩
        rw [seq_rt (d := toD p) (w1 := w3) (by rw [sIf, t]; exact e3)]
        exact leave_ret (by rw [k3.len, k.len])
      · rw [decide_eq_false hv] at t
        obtain ⟨d', rfl⟩ : ∃ d', d = d' + 1 := ⟨d - 1, by omega⟩
        simp only [pc] at hn ⊢
        have hpc' := pc_min d'
        obtain ⟨p, w3, e3, p3, k3⟩ := top_ok (g := F__law_pattern fuel) (s := s) (L := LL) (d := d') (c := pc d') (n := n + 1) (W := w2) (by omega) hl hi3 hT hw5 hq hx (by
          rw [← hTT]
          intro W n e he k hn
          rcases he with rfl | rfl
          · obtain ⟨p, W', h1, h2, h3⟩ := rec_ 0 (by omega) (by omega) W n k (by simp only [pc]; omega)
            exact ⟨p, W', h1, pt_mono h2 (Nat.zero_le _), h3.mono (by simp only [pc]; omega)⟩
          · exact rec_ _ (by omega) (by omega) W n k hn) k2 (by omega)
        rw [← hTT] at e3
        refine ⟨p, w3, ?_, p3, k3.mono (by omega)⟩
        rw [seq_nx (ρ1 := [some (rf l), some TT, some LL, some (.int ((d' + 1 : Nat) : Int))]) (w1 := w2) (by rw [sIf, t]; rfl)]
        have fin : sRet (eCall (FT__law_top (F__law_pattern fuel)) [] (aC (eV 0) (aC (eV 1) (aC (eV 2) (aC (eV 3) aN))))) [some (rf l), some TT, some LL, some (.int ((d' + 1 : Nat) : Int))] w2 = .rt (toD p) w3 := by
          simp only [sRet, eCall, aC, aN, eV, Oc.bind, List.getElem?_cons_zero, List.getElem?_cons_succ, List.append_nil, e3, Oc.thenS]
        rw [fin]
        exact leave_ret (by rw [k3.len, k.len])
end
end Tk

set_option Elab.async false
set_option linter.all false
set_option maxRecDepth 100000
set_option maxHeartbeats 4000000
namespace Tk
open PySem L2 Td Tg
/-! ### patterns with any names -/
def tb : Nat → Nat
  | 0 => 1
  | d + 1 => 1 + 3 * tb d
def cst : Nat → Nat
  | 0 => 1
  | d + 1 => 3 * cst d + 3
theorem lits3 : ("?a" : Str) = S [63, 97] ∧ ("?b" : Str) = S [63, 98] ∧ ("?zzzzzzzz" : Str) = S [63, 122, 122, 122, 122, 122, 122, 122, 122] ∧ ("x" : Str) = S [120] ∧ ("no" : Str) = S [110, 111] ∧ ("and" : Str) = S [97, 110, 100] ∧ ("f" : Str) = S [102] ∧ ("zzzzzzzz" : Str) = S [122, 122, 122, 122, 122, 122, 122, 122] := by decide +kernel
def leafs : List Pat := [.var [97], .var [98], .var [97], .var [122, 122, 122, 122, 122, 122, 122, 122], .node [120] [], .node [110, 111] []]
def heads : List (List Nat) := [[97, 110, 100], [102], [122, 122, 122, 122, 122, 122, 122, 122], [120]]
theorem leafs_ok : leafs.all (fun p => ok p && decide (hgt p = 0) && decide (nn p ≤ 1)) = true := by decide +kernel
theorem heads_nm : heads.all (fun h => nmL h) = true := by decide +kernel
theorem leafs_D : leafs.map toD = [.str "?a", .str "?b", .str "?a", .str "?zzzzzzzz", .tuple [.str "x", .tuple []], .tuple [.str "no", .tuple []]] := by
  obtain ⟨h1, h2, h3, h4, h5, _⟩ := lits3
  rw [h1, h2, h3, h4, h5]
  rfl
theorem heads_D : heads.map (fun h => PyData.str (S h)) = [.str "and", .str "f", .str "zzzzzzzz", .str "x"] := by
  obtain ⟨_, _, _, h4, _, h6, h7, h8⟩ := lits3
  rw [h4, h6, h7, h8]
  rfl
structure Gd3 (d : Nat) (p : Pat) : Prop where
  ok : ok p = true
  hg : hgt p ≤ d
  nb : nn p ≤ tb d
theorem tb_min (d : Nat) : 1 ≤ tb d := by cases d <;> simp [tb]
theorem leaf_good {p : Pat} (h : p ∈ leafs) (d : Nat) : Gd3 d p := by
  have := List.all_eq_true.mp leafs_ok p h
  rw [Bool.and_eq_true, Bool.and_eq_true] at this
  exact ⟨this.1.1, by have := of_decide_eq_true this.1.2; omega, Nat.le_trans (of_decide_eq_true this.2) (tb_min d)⟩
theorem node_good {d : Nat} {n : List Nat} {ps : List Pat} (h : nmL n = true) (hp : ∀ p ∈ ps, Gd3 d p) (hl : ps.length ≤ 3) : Gd3 (d + 1) (.node n ps) := by
  have a : ∀ qs : List Pat, (∀ p ∈ qs, Gd3 d p) → oks qs = true ∧ hgts qs ≤ d + 1 ∧ nnA qs ≤ qs.length * tb d := fun qs => by
    induction qs with
    | nil => intro _; exact ⟨rfl, Nat.zero_le _, by simp [nnA]⟩
    | cons q qs ih =>
      intro hq
      obtain ⟨i1, i2, i3⟩ := ih fun p hp => hq p (List.mem_cons_of_mem _ hp)
      have g := hq q List.mem_cons_self
      refine ⟨by show (Tk.ok q && oks qs) = true; rw [g.ok, i1]; rfl, by simp only [hgts]; have := g.hg; omega, ?_⟩
      have := g.nb
      simp only [nnA, List.length_cons, Nat.add_mul, Nat.one_mul]; omega
  obtain ⟨i1, i2, i3⟩ := a ps hp
  refine ⟨by show (nmL n && oks ps) = true; rw [h, i1]; rfl, i2, ?_⟩
  have : ps.length * tb d ≤ 3 * tb d := Nat.mul_le_mul_right _ hl
  simp only [nn, tb]; omega
theorem choice_leaf {w w' : Ws} {l n : Nat} {ρ : Ev} (hl : l < w.length) (k : Kept w l n w') (hn : n < 1000000) (h0 : ρ[0]? = some (some (rf l))) :
    ∃ p w'', (eCall F__law_choice [] (aC (eV 0) (aC (eLst (aC (eC (.str "?a")) (aC (eC (.str "?b")) (aC (eC (.str "?a")) (aC (eC (.str "?zzzzzzzz")) (aC (eTup (aC (eC (.str "x")) (aC (eTup aN) aN))) (aC (eTup (aC (eC (.str "no")) (aC (eTup aN) aN))) aN))))))) aN))) ρ w' = .ok (toD p) w'' ∧ p ∈ leafs ∧ Kept w l (n + 1) w'' := by
  obtain ⟨x, w2, e, hx, k2⟩ := choice_k (xs := leafs.map toD) hl k hn (by simp [leafs]) (by simp [leafs])
  obtain ⟨p, hp, rfl⟩ := List.mem_map.mp hx
  refine ⟨p, w2, ?_, hp, k2⟩
  rw [leafs_D] at e
  have z6 : szOk 6 = true := szOk_of (by omega)
  simp only [eCall, aC, aN, eV, eC, h0, Oc.bind, eLst, eTup, Oc.on, List.length_cons, List.length_nil, Nat.zero_add, Nat.reduceAdd, sz0, sz2, z6, cond_true, List.append_nil, e]
theorem choice_head {w w' : Ws} {l n : Nat} {ρ : Ev} (hl : l < w.length) (k : Kept w l n w') (hn : n < 1000000) (h0 : ρ[0]? = some (some (rf l))) :
    ∃ h w'', (eCall F__law_choice [] (aC (eV 0) (aC (eLst (aC (eC (.str "and")) (aC (eC (.str "f")) (aC (eC (.str "zzzzzzzz")) (aC (eC (.str "x")) aN))))) aN))) ρ w' = .ok (.str (S h)) w'' ∧ nmL h = true ∧ Kept w l (n + 1) w'' := by
  obtain ⟨x, w2, e, hx, k2⟩ := choice_k (xs := heads.map fun h => .str (S h)) hl k hn (by simp [heads]) (by simp [heads])
  obtain ⟨h, hh, rfl⟩ := List.mem_map.mp hx
  refine ⟨h, w2, ?_, List.all_eq_true.mp heads_nm h hh, k2⟩
  rw [heads_D] at e
  have z4 : szOk 4 = true := szOk_of (by omega)
  simp only [eCall, aC, aN, eV, eC, h0, Oc.bind, eLst, Oc.on, List.length_cons, List.length_nil, Nat.zero_add, Nat.reduceAdd, z4, cond_true, List.append_nil, e]
theorem free_ok {w : Ws} {l : Nat} (hl : l < w.length) : ∀ (d fuel : Nat) (w' : Ws) (n : Nat), d < fuel → Kept w l n w' → n + cst d < 1000000 →
    ∃ p w'', F__law_free fuel [rf l, .int (d : Int)] w' = .ok (toD p) w'' ∧ Gd3 d p ∧ Kept w l (n + cst d) w''
  | _, 0, _, _, h, _, _ => by omega
  | 0, fuel + 1, w', n, _, k, hn => by
    obtain ⟨p, w2, e, hp, k2⟩ := choice_leaf (ρ := [some (rf l), some (.int 0), none, none]) hl k (by simp only [cst] at hn; omega) rfl
    refine ⟨p, w2, ?_, leaf_good hp 0, k2⟩
    show leave w'.length (b__law_free (F__law_free fuel) [some (rf l), some (.int 0), none, none] w') = _
    unfold b__law_free
    rw [seq_rt (d := toD p) (w1 := w2) (by
      have t : (tOr' (tB' (eB eqD (eV 1) (eC (.int 0)))) (tB' (eB eqD (eCall F__law_draw [] (aC (eV 0) (aC (eC (.int 3)) aN))) (eC (.int 0))))) [some (rf l), some (.int 0), none, none] w' = .ok true w' := by
        simp [tOr', tB', eB, eV, eC, Oc.bind, Oc.of, eqD_int]
      rw [sIf, t]
      show sRet _ _ _ = _
      rw [sRet, e]
      rfl)]
    exact leave_ret (by rw [k2.len, k.len])
  | d + 1, fuel + 1, w', n, hf, k, hn => by
    simp only [cst] at hn
    obtain ⟨v, w2, e2, v0, v1, k2⟩ := draw_k (m := 3) hl k (by omega) (by decide) (by decide)
    have t : (tOr' (tB' (eB eqD (eV 1) (eC (.int 0)))) (tB' (eB eqD (eCall F__law_draw [] (aC (eV 0) (aC (eC (.int 3)) aN))) (eC (.int 0))))) [some (rf l), some (.int ((d + 1 : Nat) : Int)), none, none] w' = .ok (decide (v = 0)) w2 := by
      have : decide (((d + 1 : Nat) : Int) = 0) = false := decide_eq_false (by omega)
      simp only [tOr', tB', eB, eV, eC, Oc.bind, Oc.of, eqD_int, List.getElem?_cons_zero, List.getElem?_cons_succ, this, cond_false, eCall, aC, aN, List.append_nil, e2]
    show ∃ p w'', leave w'.length (b__law_free (F__law_free fuel) [some (rf l), some (.int ((d + 1 : Nat) : Int)), none, none] w') = _ ∧ _
    unfold b__law_free
    by_cases hv : v = 0
    · rw [decide_eq_true hv] at t
      obtain ⟨p, w3, e, hp, k3⟩ := choice_leaf (ρ := [some (rf l), some (.int ((d + 1 : Nat) : Int)), none, none]) hl k2 (by omega) rfl
      refine ⟨p, w3, ?_, leaf_good hp _, k3.mono (by simp only [cst]; omega)⟩
      rw [seq_rt (d := toD p) (w1 := w3) (by
        rw [sIf, t]
        show sRet _ _ _ = _
        rw [sRet, e]
        rfl)]
      exact leave_ret (by rw [k3.len, k.len])
    · rw [decide_eq_false hv] at t
      rw [seq_nx (ρ1 := [some (rf l), some (.int ((d + 1 : Nat) : Int)), none, none]) (w1 := w2) (by rw [sIf, t]; rfl)]
      obtain ⟨m, w3, e3, m0, m1, k3⟩ := draw_k (m := 4) hl k2 (by omega) (by decide) (by decide)
      obtain ⟨a, rfl⟩ : ∃ a : Nat, m = (a : Int) := ⟨m.toNat, by omega⟩
      have a3 : a ≤ 3 := by omega
      have ac : a * cst d ≤ 3 * cst d := Nat.mul_le_mul_right _ a3
      rw [seq_nx (ρ1 := [some (rf l), some (.int ((d + 1 : Nat) : Int)), some (.int (a : Int)), none]) (w1 := w3) (by
        simp only [sAsg, eCall, aC, aN, eV, eC, Oc.bind, List.getElem?_cons_zero, List.append_nil, e3, Oc.thenS, gN, List.set_cons_zero, List.set_cons_succ])]
      obtain ⟨h, w4, e4, hh, k4⟩ := choice_head (ρ := [some (rf l), some (.int ((d + 1 : Nat) : Int)), some (.int (a : Int)), none]) hl k3 (by omega) rfl
      obtain ⟨res, w5, e5, ⟨ps, rfl, hp, kk⟩, lr⟩ := lcL_all (gt := gN 3) (fe := eCall (F__law_free fuel) [] (aC (eV 0) (aC (eB subD (eV 1) (eC (.int 1))) aN))) (ρ := [some (rf l), some (.int ((d + 1 : Nat) : Int)), some (.int (a : Int)), none]) (fun acc W => ∃ ps, acc = toDs ps ∧ (∀ p ∈ ps, Gd3 d p) ∧ Kept w l (n + 1 + 1 + 1 + acc.length * cst d) W) a (rgD 0 (a : Int)) [] w4 (by rw [rgD_len _ (by omega)]; simp) (by rw [sizeLine_eq]; omega) ⟨[], rfl, (fun p hp => by cases hp), by simpa using k4⟩ (fun x hx acc W2 hlt ⟨ps, ea, hp, k2⟩ => by
        have lc : (acc.length + 1) * cst d ≤ a * cst d := Nat.mul_le_mul_right _ hlt
        rw [Nat.add_mul, Nat.one_mul] at lc
        obtain ⟨p, W3, e3, hp3, k3⟩ := free_ok hl d fuel W2 (n + 1 + 1 + 1 + acc.length * cst d) (by omega) k2 (by omega)
        refine ⟨[some (rf l), some (.int ((d + 1 : Nat) : Int)), some (.int (a : Int)), some x], W2, toD p, W3, rfl, ?_, ps ++ [p], by rw [ea, toDs_app]; rfl, fun q hq => ?_, ?_⟩
        · have ed : (((d + 1 : Nat) : Int) - 1) = (d : Int) := by omega
          simp only [eCall, aC, aN, eV, eB, eC, Oc.bind, List.getElem?_cons_zero, List.getElem?_cons_succ, subD, Oc.of, ed, List.append_nil, e3]
        · rcases List.mem_append.mp hq with hq | hq
          · exact hp q hq
          · rw [List.mem_singleton.mp hq]; exact hp3
        · rw [List.length_append, List.length_singleton, Nat.add_mul, Nat.one_mul, ← Nat.add_assoc]; exact k3)
      rw [lr] at kk
      have lp : ps.length = a := by have := lr; rw [toDs_map, List.length_map] at this; exact this
      refine ⟨.node h ps, w5, ?_, node_good hh hp (by omega), kk.mono (by simp only [cst]; omega)⟩
      have c6 : c62 (a : Int) = true := c62_of (by omega)
      have fin : (sRet (eTup (aC (eCall F__law_choice [] (aC (eV 0) (aC (eLst (aC (eC (.str "and")) (aC (eC (.str "f")) (aC (eC (.str "zzzzzzzz")) (aC (eC (.str "x")) aN))))) aN))) (aC (eCb tupleD (aC (eLc (iR1 (aC (eV 2) aN)) (gN 3) tYs (eCall (F__law_free fuel) [] (aC (eV 0) (aC (eB subD (eV 1) (eC (.int 1))) aN))) [3]) aN)) aN)))) [some (rf l), some (.int ((d + 1 : Nat) : Int)), some (.int (a : Int)), none] w3 = .rt (toD (.node h ps)) w5 := by
        rw [sRet, eTup, aC, e4]
        simp only [Oc.bind, aC, aN, eCb, eLc, iR1, eV, List.getElem?_cons_zero, List.getElem?_cons_succ, c6, Oc.on, cond_true, wipeE, List.set_cons_zero, List.set_cons_succ]
        rw [e5]
        simp only [Oc.bind, tupleD, lstOf_list, Option.map_some, Oc.of, List.length_cons, List.length_nil, Nat.zero_add, Nat.reduceAdd, sz2, cond_true, Oc.thenS, toD]
      rw [fin]
      exact leave_ret (by rw [kk.len, k.len])
end Tk

set_option Elab.async false
set_option linter.all false
set_option maxRecDepth 100000
set_option maxHeartbeats 4000000
namespace Tk
open PySem L2 Td Tg
/-! ### a walk by wishes -/
section
variable {Q : PyData → Ws → Prop} {N : Ev → Ws → Prop} {R : PyData → Ws → Prop} {ρ : Ev} {w : Ws}
theorem wS_seq {f k : FS} : wS N R (sSeq f k ρ w) = wS (fun ρ1 w1 => wS N R (k ρ1 w1)) R (f ρ w) := by
  refine propext ⟨fun h => ?_, wS_Seq⟩
  unfold sSeq at h
  cases e : f ρ w with
  | nx ρ1 w1 => rw [e] at h; exact .nx h
  | rt d w1 => rw [e] at h; cases h with | rt h => exact .rt h
  | _ => rw [e] at h; cases h
theorem wO_onE {α : Type} {Q : α → Ws → Prop} {b : Bool} {x : Oc α} : wO Q (Oc.on b x) = (b = true ∧ wO Q x) := by
  cases b with
  | true => simp only [Oc.on, cond_true, true_and]
  | false => simp only [Oc.on, cond_false, wO_no, Bool.false_eq_true, false_and]
theorem wO_ofif {α : Type} {Q : α → Ws → Prop} {b : Bool} {x : α} : wO Q (Oc.of (if b = true then some x else none) w) = (b = true ∧ Q x w) := by
  cases b with
  | true => simp only [if_true, Oc.of, wO_ok, true_and]
  | false => simp only [Bool.false_eq_true, if_false, Oc.of, wO_no, false_and]
theorem wO_oksome {α : Type} {Q : α → Ws → Prop} {o : Option α} {x : α} (h : o = some x) : wO Q (Oc.of o w) = Q x w := by rw [h]; exact wO_ok
theorem atL {w : Ws} {xs : List PyData} {v : Int} (h0 : 0 ≤ v) (h1 : v < xs.length) : ∃ x ∈ xs, ixD w (.list xs) (.int v) = some x := by
  obtain ⟨k, rfl⟩ : ∃ k : Nat, v = (k : Int) := ⟨v.toNat, by omega⟩
  have hk : k < xs.length := by omega
  exact ⟨xs[k], List.getElem_mem hk, Td.atI_nat (List.getElem?_eq_getElem hk)⟩
theorem atT {w : Ws} {xs : List PyData} {v : Int} (h0 : 0 ≤ v) (h1 : v < xs.length) : ∃ x ∈ xs, ixD w (.tuple xs) (.int v) = some x := by
  obtain ⟨k, rfl⟩ : ∃ k : Nat, v = (k : Int) := ⟨v.toNat, by omega⟩
  have hk : k < xs.length := by omega
  exact ⟨xs[k], List.getElem_mem hk, Td.atI_nat (List.getElem?_eq_getElem hk)⟩
end
theorem draw_w {w w' : Ws} {l n : Nat} {m : Int} (hl : l < w.length) (h : Kept w l n w') (hn : n < 1000000) (hm : 1 ≤ m) (hm2 : m < 1000000) :
    wO (fun d w'' => ∃ v : Nat, d = .int (v : Int) ∧ (v : Int) < m ∧ Kept w l (n + 1) w'') (F__law_draw [rf l, .int m] w') := by
  obtain ⟨v, w'', e, v0, v1, k⟩ := draw_k hl h hn hm hm2
  rw [e]
  exact .mk ⟨v.toNat, by rw [Int.toNat_of_nonneg v0], by rw [Int.toNat_of_nonneg v0]; exact v1, k⟩
theorem choice_w {w w' : Ws} {l n : Nat} {xs : List PyData} (hl : l < w.length) (h : Kept w l n w') (hn : n < 1000000) (h1 : xs ≠ []) (h2 : xs.length < 1000000) :
    wO (fun d w'' => d ∈ xs ∧ Kept w l (n + 1) w'') (F__law_choice [rf l, .list xs] w') := by
  obtain ⟨x, w'', e, hx, k⟩ := choice_k hl h hn h1 h2
  rw [e]
  exact .mk ⟨hx, k⟩
/-! ### one change -/
theorem cut_to {α : Type} (xs : List α) (k : Nat) : cutL xs none (some (k : Int)) = xs.take k := by
  unfold cutL
  rw [HT.sIx_none, HT.sIx_nat, List.drop_zero, Nat.sub_zero]
  by_cases h : k ≤ xs.length
  · rw [Nat.min_eq_left h]
  · rw [Nat.min_eq_right (by omega), List.take_of_length_le (Nat.le_refl _), List.take_of_length_le (by omega)]
theorem cut_from {α : Type} (xs : List α) (k : Nat) : cutL xs (some (k : Int)) none = xs.drop k := by
  unfold cutL
  rw [HT.sIx_none, HT.sIx_nat]
  by_cases h : k ≤ xs.length
  · rw [Nat.min_eq_left h, List.take_of_length_le (by rw [List.length_drop]; exact Nat.le_refl _)]
  · rw [Nat.min_eq_right (by omega), Nat.sub_self, List.take_zero, List.drop_eq_nil_of_le (by omega)]
theorem cut_from1 {α : Type} (xs : List α) (k : Nat) : cutL xs (some ((k : Int) + 1)) none = xs.drop (k + 1) := by
  have := cut_from xs (k + 1)
  rw [show (((k + 1 : Nat)) : Int) = (k : Int) + 1 by omega] at this
  exact this
theorem cut_sub {xs : List PyData} {a b : Option Int} {x : PyData} (h : x ∈ cutL xs a b) : x ∈ xs := List.mem_of_mem_drop (List.mem_of_mem_take h)
theorem cut_len {xs : List PyData} {a b : Option Int} : (cutL xs a b).length ≤ xs.length := by
  unfold cutL
  rw [List.length_take, List.length_drop]
  omega
theorem wtA_take : ∀ (n : Nat) (a : List PyData), wtA (a.take n) ≤ wtA a
  | 0, a => by simp [wtA]
  | n + 1, [] => by simp [wtA]
  | n + 1, x :: a => by simp only [List.take_succ_cons, wtA]; have := wtA_take n a; omega
theorem wtA_drop : ∀ (n : Nat) (a : List PyData), wtA (a.drop n) ≤ wtA a
  | 0, a => by simp
  | n + 1, [] => by simp [wtA]
  | n + 1, x :: a => by simp only [List.drop_succ_cons, wtA]; have := wtA_drop n a; omega
theorem wtA_td (a : List PyData) : ∀ n : Nat, wtA (a.take n) + wtA (a.drop n) = wtA a := fun n => by
  have := wtA_app (a.take n) (a.drop n)
  rw [List.take_append_drop] at this
  omega
theorem wtA_cut (xs : List PyData) (a b : Option Int) : wtA (cutL xs a b) ≤ wtA xs := Nat.le_trans (wtA_take _ _) (wtA_drop _ _)
theorem wtA_rev (a : List PyData) : wtA a.reverse = wtA a := by
  induction a with
  | nil => rfl
  | cons x a ih => rw [List.reverse_cons, wtA_app, ih]; simp only [wtA]; omega
/-- strings and tuples alone -/
inductive St : PyData → Prop
  | str {z : Str} (h : ascS z = true) : St (.str z)
  | tup {ds : List PyData} (h : ∀ d ∈ ds, St d) : St (.tuple ds)
mutual
theorem st_toD : ∀ p : Pat, ok p = true → St (toD p)
  | .var n, h => .str (asc_var h)
  | .node hd ps, h => by
    have h : (nmL hd && oks ps) = true := h
    rw [Bool.and_eq_true] at h
    refine .tup fun d hd' => ?_
    simp only [List.mem_cons, List.not_mem_nil, or_false] at hd'
    rcases hd' with rfl | rfl
    · exact .str (asc_nm h.1)
    · exact .tup (st_toDs ps h.2)
theorem st_toDs : ∀ ps : List Pat, oks ps = true → ∀ d ∈ toDs ps, St d
  | [], _, d, h => by cases h
  | p :: ps, h, d, hd => by
    have h : (ok p && oks ps) = true := h
    rw [Bool.and_eq_true] at h
    rcases List.mem_cons.mp hd with rfl | hd
    · exact st_toD p h.1
    · exact st_toDs ps h.2 d hd
end
theorem St.ok {d : PyData} (h : St d) : okD d = true := by
  induction h with
  | str h => exact h
  | tup h ih => exact okDA_iff.mpr ih
/-- what a change may make of it -/
structure Ch (d r : PyData) : Prop where
  ok : okD r = true
  dp : r.depth ≤ d.depth + 3
  wt : wt r ≤ 2 * wt d + 20
theorem Ch.sub {ds xs : List PyData} (hs : ∀ d ∈ ds, St d) (hx : ∀ x ∈ xs, x ∈ ds ∨ x = .str "x") (hw : wtA xs ≤ 2 * wtA ds + 10) : Ch (.tuple ds) (.tuple xs) ∧ Ch (.tuple ds) (.list xs) := by
  have ax : ascS "x" = true := by decide +kernel
  have o : okDA xs = true := okDA_iff.mpr fun x h => by
    rcases hx x h with h | rfl
    · exact (hs x h).ok
    · exact ax
  have dp : PyData.depthAll xs ≤ PyData.depthAll ds + 1 := depthAll_le.mpr fun x h => by
    rcases hx x h with h | rfl
    · have := depth_mem h; omega
    · simp [PyData.depth]
  exact ⟨⟨o, by simp only [PyData.depth]; omega, by simp only [Td.wt]; omega⟩, ⟨o, by simp only [PyData.depth]; omega, by simp only [Td.wt]; omega⟩⟩
theorem Ch.cst {d r : PyData} (h1 : okD r = true) (h2 : r.depth ≤ 3) (h3 : Td.wt r ≤ 20) : Ch d r := ⟨h1, by omega, by omega⟩
theorem repl_w {w w' : Ws} {l n : Nat} {d : PyData} (hl : l < w.length) (k : Kept w l n w') (hn : n + 2 < 1000000) (hs : St d) (hw : wt d ≤ 100000) :
    wO (fun r w'' => Ch d r ∧ Kept w l (n + 2) w'') (F__law_replacement [rf l, d] w') := by
  refine wF rfl ?_
  cases hs with
  | @str z hz =>
    show wS _ _ (b__law_replacement [some (rf l), some (.str z), none, none] w')
    unfold b__law_replacement
    simp only [sRet, sExp, sIf, sAsg, sFor, gN, gT, gC, gZ, eAn, eOr, eNo, eIf, eIsi, eV, eC, eB, eU, eCb, eCall, eSl, oN, oS, eTup, eLst, aN, aC, eLc, eCh, tAn, tOr', tNo, tB', tTr, tYs, iE, iZ, iR1, iR2, sNil, wO_bind, wO_ok, wO_onE, wO_ofif, wO_some, wS_seq, wS_then, wS_nx, wS_rt, cond_true, cond_false, List.append_nil, List.nil_append, List.cons_append, List.getElem?_cons_zero, List.getElem?_cons_succ, List.set_cons_zero, List.set_cons_succ, tyD, Option.bind_some, k_ss, k_st, truD, List.getElem?_cons_zero, List.getElem?_cons_succ, List.set_cons_zero, List.set_cons_succ]
    refine ⟨szOk_of (by simp only [List.length_cons, List.length_nil]; omega), ?_⟩
    refine wO_mono (choice_w hl k (by omega) (by simp) (by simp)) fun r w2 ⟨hr, k2⟩ => ⟨by rw [k2.len, k.len], ?_, k2.mono (by omega)⟩
    simp only [List.mem_cons, List.not_mem_nil, or_false] at hr
    have cs : ∀ z : Str, ascS z = true → z.length ≤ 10 → Ch (.str z) (.str z) := fun z h1 h2 => .cst h1 (by simp [PyData.depth]) (by simp only [Td.wt]; omega)
    rcases hr with rfl | rfl | rfl | rfl | rfl | rfl | rfl | rfl | rfl | rfl | rfl | rfl | rfl <;> exact .cst (by decide +kernel) (by decide +kernel) (by decide +kernel)
  | @tup ds hd =>
    show wS _ _ (b__law_replacement [some (rf l), some (.tuple ds), none, none] w')
    unfold b__law_replacement
    have hw : 1 + wtA ds ≤ 100000 := hw
    have hlen := len_wtA ds
    simp only [sRet, sExp, sIf, sAsg, sFor, gN, gT, gC, gZ, eAn, eOr, eNo, eIf, eIsi, eV, eC, eB, eU, eCb, eCall, eSl, oN, oS, eTup, eLst, aN, aC, eLc, eCh, tAn, tOr', tNo, tB', tTr, tYs, iE, iZ, iR1, iR2, sNil, wO_bind, wO_ok, wO_onE, wO_ofif, wO_some, wS_seq, wS_then, wS_nx, wS_rt, cond_true, cond_false, List.append_nil, List.nil_append, List.cons_append, List.getElem?_cons_zero, List.getElem?_cons_succ, List.set_cons_zero, List.set_cons_succ, tyD, Option.bind_some, k_tt, truD, List.getElem?_cons_zero, List.getElem?_cons_succ, List.set_cons_zero, List.set_cons_succ, lenD, addD]
    refine wO_mono (draw_w hl k (by omega) (by omega) (by omega)) ?_
    rintro _ w2 ⟨a, rfl, ha, k2⟩
    simp only [sRet, sExp, sIf, sAsg, sFor, gN, gT, gC, gZ, eAn, eOr, eNo, eIf, eIsi, eV, eC, eB, eU, eCb, eCall, eSl, oN, oS, eTup, eLst, aN, aC, eLc, eCh, tAn, tOr', tNo, tB', tTr, tYs, iE, iZ, iR1, iR2, sNil, wO_bind, wO_ok, wO_onE, wO_ofif, wO_some, wS_seq, wS_then, wS_nx, wS_rt, cond_true, cond_false, List.append_nil, List.nil_append, List.cons_append, List.getElem?_cons_zero, List.getElem?_cons_succ, List.set_cons_zero, List.set_cons_succ, List.getElem?_cons_zero, List.getElem?_cons_succ, List.set_cons_zero, List.set_cons_succ, cutD, addD, subD, negD, revD, listD, lstOf_list]
    have cl : ∀ a b : Option Int, (cutL ds a b).length ≤ 100000 := fun a b => Nat.le_trans cut_len (by omega)
    have sz : ∀ n : Nat, n ≤ 10000000 → szOk n = true := fun n h => szOk_of h
    have k1 := cl none (some (a : Int))
    have k2' := cl (some ((a : Int) + 1)) none
    have k3 := cl (some (-1)) none
    have k4 := cl (some (a : Int)) none
    refine ⟨sz _ (by omega), sz _ (by omega), sz _ (by simp), sz _ (by simp), sz _ (by simp), sz _ (by simp; omega), sz _ (by simp; omega), sz _ (by simp), sz _ (by simp), ?_⟩
    refine wO_mono (draw_w hl k2 (by omega) (by omega) (by omega)) ?_
    rintro _ w3 ⟨v, rfl, hv, k3⟩
    obtain ⟨x, hx, ex⟩ := atL (w := w3) (xs := [PyData.tuple (cutL ds none (some ↑a) ++ cutL ds (some (↑a + 1)) none), PyData.tuple (ds ++ cutL ds (some (-1)) none), PyData.tuple ds.reverse, PyData.list ds, PyData.tuple [], PyData.none, PyData.str "?a", PyData.tuple (cutL ds none (some ↑a) ++ [PyData.str "x"] ++ cutL ds (some ↑a) none)]) (v := (v : Int)) (by omega) (by simp; omega)
    refine (wO_oksome (w := w3) ex).mpr ⟨by rw [k3.len, k.len], ?_, k3⟩
    have td := wtA_td ds a
    simp only [List.mem_cons, List.not_mem_nil, or_false] at hx
    have lx : Td.wt (.str "x") ≤ 3 := by decide +kernel
    rcases hx with rfl | rfl | rfl | rfl | rfl | rfl | rfl | rfl
    · exact (Ch.sub hd (fun x hx => by
        rcases List.mem_append.mp hx with hx | hx <;> exact .inl (cut_sub hx)) (by
        rw [wtA_app]
        have := wtA_cut ds none (some (a : Int))
        have := wtA_cut ds (some ((a : Int) + 1)) none
        omega)).1
    · exact (Ch.sub hd (fun x hx => by
        rcases List.mem_append.mp hx with hx | hx
        · exact .inl hx
        · exact .inl (cut_sub hx)) (by
        rw [wtA_app]
        have := wtA_cut ds (some (-1)) none
        omega)).1
    · exact (Ch.sub hd (fun x hx => .inl (List.mem_reverse.mp hx)) (by rw [wtA_rev]; omega)).1
    · exact (Ch.sub hd (fun x hx => .inl hx) (by omega)).2
    · exact .cst rfl (by simp [PyData.depth, PyData.depthAll]) (by simp [Td.wt, wtA])
    · exact .cst rfl (by simp [PyData.depth, PyData.depthAll]) (by simp [Td.wt, wtA])
    · exact .cst (by decide +kernel) (by decide +kernel) (by decide +kernel)
    · exact (Ch.sub hd (fun x hx => by
        rcases List.mem_append.mp hx with hx | hx
        · rcases List.mem_append.mp hx with hx | hx
          · exact .inl (cut_sub hx)
          · exact .inr (List.mem_singleton.mp hx)
        · exact .inl (cut_sub hx)) (by
        rw [wtA_app, wtA_app]
        have := wtA_cut ds none (some (a : Int))
        have := wtA_cut ds (some (a : Int)) none
        simp only [wtA]
        omega)).1
theorem split_at {α : Type} : ∀ {ds : List α} {a : Nat} {y : α}, ds[a]? = some y → ds = ds.take a ++ y :: ds.drop (a + 1)
  | [], _, _, h => by simp at h
  | x :: xs, 0, y, h => by
    have : x = y := by simpa using h
    rw [this]; rfl
  | x :: xs, a + 1, y, h => by
    have := split_at (ds := xs) (a := a) (y := y) (by simpa using h)
    rw [List.take_succ_cons, List.drop_succ_cons, List.cons_append]
    exact congrArg (x :: ·) this
theorem Ch.at_ {ds : List PyData} {a : Nat} {y r : PyData} (hs : ∀ d ∈ ds, St d) (h : ds[a]? = some y) (c : Ch y r) : Ch (.tuple ds) (.tuple (ds.take a ++ [r] ++ ds.drop (a + 1))) := by
  have sp := split_at h
  have o1 := c.ok
  have o2 := c.dp
  have o3 := c.wt
  generalize ds.take a = L at *
  generalize ds.drop (a + 1) = R at *
  subst sp
  have hw : wtA (L ++ y :: R) = wtA L + (Td.wt y + wtA R) := wtA_app ..
  have hdp : PyData.depthAll (L ++ y :: R) = max (PyData.depthAll L) (max y.depth (PyData.depthAll R)) := depthAll_app
  refine ⟨okDA_iff.mpr fun x hx => ?_, ?_, ?_⟩
  · rcases List.mem_append.mp hx with hx | hx
    · rcases List.mem_append.mp hx with hx | hx
      · exact (hs x (List.mem_append_left _ hx)).ok
      · rw [List.mem_singleton.mp hx]; exact o1
    · exact (hs x (List.mem_append_right _ (List.mem_cons_of_mem _ hx))).ok
  · simp only [PyData.depth, depthAll_app, hdp, PyData.depthAll]; omega
  · simp only [Td.wt, wtA_app, wtA]; omega
theorem St.tup_inv {ds : List PyData} (h : St (.tuple ds)) : ∀ d ∈ ds, St d := by cases h; assumption
theorem mut_w {w : Ws} {l : Nat} (hl : l < w.length) : ∀ (f : Nat) (d : PyData) (w' : Ws) (n : Nat), d.depth < f → f ≤ 60 → Kept w l n w' → n + 2 * f + 2 < 1000000 → St d → wt d ≤ 100000 →
    wO (fun r w'' => Ch d r ∧ Kept w l (n + 2 * f + 2) w'') (F__law_mutated f [rf l, d] w')
  | 0, _, _, _, h, _, _, _, _, _ => by omega
  | f + 1, d, w', n, hf, h60, k, hn, hs, hw => by
    have rest : ∀ (m : Nat) (W : Ws), m ≤ n + 1 → Kept w l m W → wO (fun r w'' => w''.length = w'.length ∧ Ch d r ∧ Kept w l (n + 2 * (f + 1) + 2) w'') (F__law_replacement [rf l, d] W) := fun m W hm k2 =>
      wO_mono (repl_w hl k2 (by omega) hs hw) fun r w3 ⟨c, k3⟩ => ⟨by rw [k3.len, k.len], c, k3.mono (by omega)⟩
    unfold F__law_mutated
    refine wF rfl ?_
    show wS _ _ (b__law_mutated (F__law_mutated f) [some (rf l), some d, none] w')
    have ih : ∀ (x : PyData) (W : Ws) (m : Nat), x.depth < f → Kept w l m W → m + 2 * f + 2 < 1000000 → St x → wt x ≤ 100000 → wO (fun r w'' => Ch x r ∧ Kept w l (m + 2 * f + 2) w'') (F__law_mutated f [rf l, x] W) := fun x W m h1 h2 h3 h4 h5 => mut_w hl f x W m h1 (by omega) h2 h3 h4 h5
    generalize F__law_mutated f = FM at ih
    unfold b__law_mutated
    cases d with
    | str z =>
      simp only [sRet, sExp, sIf, sAsg, sFor, gN, gT, gC, gZ, eAn, eOr, eNo, eIf, eIsi, eV, eC, eB, eU, eCb, eCall, eSl, oN, oS, eTup, eLst, aN, aC, eLc, eCh, tAn, tOr', tNo, tB', tTr, tYs, iE, iZ, iR1, iR2, sNil, wO_bind, wO_ok, wO_onE, wO_ofif, wO_some, wS_seq, wS_then, wS_nx, wS_rt, cond_true, cond_false, List.append_nil, List.nil_append, List.cons_append, List.getElem?_cons_zero, List.getElem?_cons_succ, List.set_cons_zero, List.set_cons_succ, tyD, Option.bind_some, k_st, truD, List.getElem?_cons_zero, List.getElem?_cons_succ, List.set_cons_zero, List.set_cons_succ]
      exact rest n w' (by omega) k
    | tuple ds =>
      have hd := hs.tup_inv
      have ho := hs.ok
      have hw1 : 1 + wtA ds ≤ 100000 := hw
      have hdp : PyData.depthAll ds < f := by simp only [PyData.depth] at hf; omega
      simp only [sRet, sExp, sIf, sAsg, sFor, gN, gT, gC, gZ, eAn, eOr, eNo, eIf, eIsi, eV, eC, eB, eU, eCb, eCall, eSl, oN, oS, eTup, eLst, aN, aC, eLc, eCh, tAn, tOr', tNo, tB', tTr, tYs, iE, iZ, iR1, iR2, sNil, wO_bind, wO_ok, wO_onE, wO_ofif, wO_some, wS_seq, wS_then, wS_nx, wS_rt, cond_true, cond_false, List.append_nil, List.nil_append, List.cons_append, List.getElem?_cons_zero, List.getElem?_cons_succ, List.set_cons_zero, List.set_cons_succ, tyD, Option.bind_some, k_tt, truD, List.getElem?_cons_zero, List.getElem?_cons_succ, List.set_cons_zero, List.set_cons_succ, List.length_nil, sz0, true_and]
      cases ds with
      | nil =>
        have e : neD w' (.tuple []) (.tuple []) = some (.bool false) := by rfl
        simp only [e, sRet, sExp, sIf, sAsg, sFor, gN, gT, gC, gZ, eAn, eOr, eNo, eIf, eIsi, eV, eC, eB, eU, eCb, eCall, eSl, oN, oS, eTup, eLst, aN, aC, eLc, eCh, tAn, tOr', tNo, tB', tTr, tYs, iE, iZ, iR1, iR2, sNil, wO_bind, wO_ok, wO_onE, wO_ofif, wO_some, wS_seq, wS_then, wS_nx, wS_rt, cond_true, cond_false, List.append_nil, List.nil_append, List.cons_append, List.getElem?_cons_zero, List.getElem?_cons_succ, List.set_cons_zero, List.set_cons_succ]
        exact rest n w' (by omega) k
      | cons x xs =>
        have e : neD w' (.tuple (x :: xs)) (.tuple []) = some (.bool true) := ne_nil ho (by simp only [PyData.depth]; omega)
        simp only [e, sRet, sExp, sIf, sAsg, sFor, gN, gT, gC, gZ, eAn, eOr, eNo, eIf, eIsi, eV, eC, eB, eU, eCb, eCall, eSl, oN, oS, eTup, eLst, aN, aC, eLc, eCh, tAn, tOr', tNo, tB', tTr, tYs, iE, iZ, iR1, iR2, sNil, wO_bind, wO_ok, wO_onE, wO_ofif, wO_some, wS_seq, wS_then, wS_nx, wS_rt, cond_true, cond_false, List.append_nil, List.nil_append, List.cons_append, List.getElem?_cons_zero, List.getElem?_cons_succ, List.set_cons_zero, List.set_cons_succ]
        refine wO_mono (draw_w hl k (by omega) (by omega) (by omega)) ?_
        rintro _ w2 ⟨v, rfl, hv, k2⟩
        simp only [gtD, cmpD, sRet, sExp, sIf, sAsg, sFor, gN, gT, gC, gZ, eAn, eOr, eNo, eIf, eIsi, eV, eC, eB, eU, eCb, eCall, eSl, oN, oS, eTup, eLst, aN, aC, eLc, eCh, tAn, tOr', tNo, tB', tTr, tYs, iE, iZ, iR1, iR2, sNil, wO_bind, wO_ok, wO_onE, wO_ofif, wO_some, wS_seq, wS_then, wS_nx, wS_rt, cond_true, cond_false, List.append_nil, List.nil_append, List.cons_append, List.getElem?_cons_zero, List.getElem?_cons_succ, List.set_cons_zero, List.set_cons_succ]
        by_cases h0 : (0 : Int) < (v : Int)
        · rw [decide_eq_true h0]
          simp only [sRet, sExp, sIf, sAsg, sFor, gN, gT, gC, gZ, eAn, eOr, eNo, eIf, eIsi, eV, eC, eB, eU, eCb, eCall, eSl, oN, oS, eTup, eLst, aN, aC, eLc, eCh, tAn, tOr', tNo, tB', tTr, tYs, iE, iZ, iR1, iR2, sNil, wO_bind, wO_ok, wO_onE, wO_ofif, wO_some, wS_seq, wS_then, wS_nx, wS_rt, cond_true, cond_false, List.append_nil, List.nil_append, List.cons_append, List.getElem?_cons_zero, List.getElem?_cons_succ, List.set_cons_zero, List.set_cons_succ, lenD]
          have hlen := len_wtA (x :: xs)
          refine wO_mono (draw_w hl k2 (by omega) (by simp only [List.length_cons]; omega) (by omega)) ?_
          rintro _ w3 ⟨a, rfl, ha, k3⟩
          have ha' : a < (x :: xs).length := by omega
          obtain ⟨y, hy⟩ : ∃ y, (x :: xs)[a]? = some y := ⟨_, List.getElem?_eq_getElem ha'⟩
          have ix : ixD w3 (.tuple (x :: xs)) (.int (a : Int)) = some y := Td.atI_nat hy
          simp only [sRet, sExp, sIf, sAsg, sFor, gN, gT, gC, gZ, eAn, eOr, eNo, eIf, eIsi, eV, eC, eB, eU, eCb, eCall, eSl, oN, oS, eTup, eLst, aN, aC, eLc, eCh, tAn, tOr', tNo, tB', tTr, tYs, iE, iZ, iR1, iR2, sNil, wO_bind, wO_ok, wO_onE, wO_ofif, wO_some, wS_seq, wS_then, wS_nx, wS_rt, cond_true, cond_false, List.append_nil, List.nil_append, List.cons_append, List.getElem?_cons_zero, List.getElem?_cons_succ, List.set_cons_zero, List.set_cons_succ, List.getElem?_cons_zero, List.getElem?_cons_succ, List.set_cons_zero, List.set_cons_succ, cutD, ix, addD, lenD]
          have hym := List.mem_of_getElem? hy
          have hyd := depth_mem hym
          have hyw := wtA_mem hym
          refine wO_mono (ih y w3 (n + 1 + 1) (by omega) k3 (by omega) (hd y hym) (by omega)) ?_
          rintro r w4 ⟨c, k4⟩
          rw [cut_to, cut_from1]
          have n1 : ((x :: xs).take a).length ≤ (x :: xs).length := List.length_take_le' ..
          have n2 : ((x :: xs).drop (a + 1)).length ≤ (x :: xs).length := by rw [List.length_drop]; omega
          refine ⟨szOk_of (by simp), szOk_of (by simp only [List.length_cons, List.length_nil] at *; omega), szOk_of (by rw [List.length_append]; simp only [List.length_cons, List.length_nil] at *; omega), by rw [k4.len, k.len], .at_ hd hy c, k4.mono (by omega)⟩
        · rw [decide_eq_false h0]
          simp only [sRet, sExp, sIf, sAsg, sFor, gN, gT, gC, gZ, eAn, eOr, eNo, eIf, eIsi, eV, eC, eB, eU, eCb, eCall, eSl, oN, oS, eTup, eLst, aN, aC, eLc, eCh, tAn, tOr', tNo, tB', tTr, tYs, iE, iZ, iR1, iR2, sNil, wO_bind, wO_ok, wO_onE, wO_ofif, wO_some, wS_seq, wS_then, wS_nx, wS_rt, cond_true, cond_false, List.append_nil, List.nil_append, List.cons_append, List.getElem?_cons_zero, List.getElem?_cons_succ, List.set_cons_zero, List.set_cons_succ, List.getElem?_cons_zero, List.getElem?_cons_succ, List.set_cons_zero, List.set_cons_succ]
          exact rest (n + 1) w2 (by omega) k2
    | _ => cases hs
end Tk

set_option Elab.async false
set_option linter.all false
set_option maxRecDepth 100000
set_option maxHeartbeats 4000000
namespace Tk
open PySem L2 Td Tg
structure Md (d : PyData) : Prop where
  ok : okD d = true
  dp : d.depth ≤ 15
  wt : wt d ≤ 10000
def kindsB : FS := (sSeq (sAsg (eCb reprD (aC (eV 2) aN)) (gN 3))
    (sIf (tOr' (tB' (eB neD (eCb reprD (aC (eLst (aC (eCall (F_is_pattern 12) [] (aC (eV 2) aN)) (aC (eCallN 0 1 (fun as bs => arr [(1, 0)] as [] bs) (F_is_pattern 12) aN (aC (eV 2) aN)) aN))) aN)) (eCb reprD (aC (eB mulL (eLst (aC (eCall F__law_is_pattern [] (aC (eV 2) aN)) aN)) (eC (.int 2))) aN)))) (tB' (eB neD (eCb reprD (aC (eV 2) aN)) (eV 3)))) (sRet (eC (.bool false))) sNil))
theorem kinds_eq : b__law_kinds_right = sSeq (sFor (iE (eB addD (eLst (aC (eV 1) aN)) (eLc (iR1 (aC (eC (.int 6)) aN)) (gN 4) tYs (eCall (F__law_mutated 12) [] (aC (eV 0) (aC (eV 1) aN))) [4]))) (gN 2) kindsB) (sRet (eC (.bool true))) := rfl
theorem kindsB_ok {W : Ws} {d : PyData} {a b x3 x4 : Option PyData} (hc : Cl W) (h : Md d) : kindsB [a, b, some d, x3, x4] W = .nx [a, b, some d, some (.str d.shown), x4] W := by
  have h1 := h.ok
  have h2 := h.dp
  have h3 := h.wt
  have ip := is_pattern_ok W 12 d h1 (by omega) (by omega)
  have lp := law_is_pattern_ok hc h1 (by omega) (by omega)
  have rp : reprD W [d] = some (.str d.shown) := repr_of W h1 (by omega) (by omega)
  generalize isPat 12 d = q at ip lp
  have rb : reprD W [.list [.bool q, .bool q]] = some (.str (PyData.list [.bool q, .bool q]).shown) := repr_of W rfl (by simp [PyData.depth, PyData.depthAll]) (by simp [Td.wt, wtA])
  have e : arr [(1, 0)] ([] : List PyData) [] [d] = [d] := rfl
  have ml : mulL W (.list [.bool q]) (.int 2) = some (.list [.bool q, .bool q]) := by
    simp only [mulL, lstOf_list, List.length_cons, List.length_nil, Nat.zero_add]
    rw [if_pos (by decide)]
    rfl
  have z1 : szOk 1 = true := szOk_of (by omega)
  have nd : ∀ z : Str, neD W (.str z) (.str z) = some (.bool false) := fun z => by rw [neD_str]; simp
  unfold kindsB
  simp only [sSeq, sAsg, eCb, aC, aN, eV, eC, Oc.bind, List.getElem?_cons_zero, List.getElem?_cons_succ, rp, Oc.of, Oc.thenS, gN, List.set_cons_zero, List.set_cons_succ, sIf, tOr', tB', eB, eLst, eCall, eCallN, List.append_nil, List.length_cons, List.length_nil, Nat.zero_add, Nat.reduceAdd, beq_self_eq_true, Bool.and_self, Oc.on, cond_true, cond_false, e, ip, lp, z1, sz2, ml, rb, nd, sNil]
theorem Ch.md {p : Pat} {r : PyData} (h : Ch (toD p) r) (h1 : (toD p).depth ≤ 12) (h2 : Td.wt (toD p) ≤ 4000) : Md r := ⟨h.ok, by have := h.dp; omega, by have := h.wt; omega⟩
structure Kp (p : Pat) : Prop where
  ok : ok p = true
  dp : (toD p).depth ≤ 11
  wt : Td.wt (toD p) ≤ 4000
theorem Kp.md {p : Pat} (h : Kp p) : Md (toD p) := ⟨okD_toD p h.ok, by have := h.dp; omega, by have := h.wt; omega⟩
theorem add_ll {w : Ws} {a b : List PyData} : addD w (.list a) (.list b) = if szOk (a.length + b.length) = true then some (.list (a ++ b)) else none := rfl
theorem kinds_w {w w' : Ws} {l n : Nat} {p : Pat} (hc : Cl w) (hl : l < w.length) (k : Kept w l n w') (hn : n + 200 < 1000000) (h : Kp p) :
    wO (fun r w'' => r = .bool true ∧ Kept w l (n + 200) w'') (F__law_kinds_right [rf l, toD p] w') := by
  have hs := st_toD p h.ok
  have h1 := h.dp
  have h2 := h.wt
  have hmd := h.md
  generalize toD p = T at *
  refine wF rfl ?_
  show wS _ _ (b__law_kinds_right [some (rf l), some T, none, none, none] w')
  rw [kinds_eq]
  have kb := fun {W : Ws} {d : PyData} {a b x3 x4 : Option PyData} (hc : Cl W) (h : Md d) => kindsB_ok (a := a) (b := b) (x3 := x3) (x4 := x4) hc h
  have mw := fun (W : Ws) (m : Nat) (k : Kept w l m W) (hm : m + 26 < 1000000) => mut_w hl 12 T W m (by omega) (by omega) k (by omega) hs (by omega)
  generalize kindsB = KB at kb
  generalize F__law_mutated 12 = FM at mw
  simp only [wipeE, sRet, sExp, sIf, sAsg, sFor, gN, gT, gC, gZ, eAn, eOr, eNo, eIf, eIsi, eV, eC, eB, eU, eCb, eCall, eSl, oN, oS, eTup, eLst, aN, aC, eLc, eCh, tAn, tOr', tNo, tB', tTr, tYs, iE, iZ, iR1, iR2, sNil, wO_bind, wO_ok, wO_onE, wO_ofif, wO_some, wS_seq, wS_then, wS_nx, wS_rt, cond_true, cond_false, List.append_nil, List.nil_append, List.cons_append, List.getElem?_cons_zero, List.getElem?_cons_succ, List.set_cons_zero, List.set_cons_succ]
  refine ⟨szOk_of (by simp), c62_of (by decide), ?_⟩
  refine wA_lcL (fun i acc W => acc.length = i ∧ Kept w l (n + i * 26) W ∧ ∀ x ∈ acc, Md x) (rgD 0 6) 0 w' [] (by rw [sizeLine_eq]; decide) ⟨rfl, by simpa using k, fun x hx => by cases hx⟩ ?_ ?_
  · rintro j d acc W hj ⟨hla, kW, hacc⟩
    have hj6 : j < 6 := by have := (List.getElem?_eq_some_iff.mp hj).1; rwa [show (rgD 0 6).length = 6 from rfl] at this
    simp only [wipeE, sRet, sExp, sIf, sAsg, sFor, gN, gT, gC, gZ, eAn, eOr, eNo, eIf, eIsi, eV, eC, eB, eU, eCb, eCall, eSl, oN, oS, eTup, eLst, aN, aC, eLc, eCh, tAn, tOr', tNo, tB', tTr, tYs, iE, iZ, iR1, iR2, sNil, wO_bind, wO_ok, wO_onE, wO_ofif, wO_some, wS_seq, wS_then, wS_nx, wS_rt, cond_true, cond_false, List.append_nil, List.nil_append, List.cons_append, List.getElem?_cons_zero, List.getElem?_cons_succ, List.set_cons_zero, List.set_cons_succ]
    refine wO_mono (mw W (n + (0 + j) * 26) kW (by omega)) ?_
    rintro r W2 ⟨c, k2⟩
    refine ⟨by rw [List.length_append, hla]; simp, k2.mono (by omega), fun x hx => ?_⟩
    rcases List.mem_append.mp hx with hx | hx
    · exact hacc x hx
    · rw [List.mem_singleton.mp hx]; exact ⟨c.ok, by have := c.dp; omega, by have := c.wt; omega⟩
  · rintro acc W ⟨hla, kW, hacc⟩
    have r6 : (rgD 0 6).length = 6 := rfl
    rw [r6] at hla kW
    simp only [wipeE, sRet, sExp, sIf, sAsg, sFor, gN, gT, gC, gZ, eAn, eOr, eNo, eIf, eIsi, eV, eC, eB, eU, eCb, eCall, eSl, oN, oS, eTup, eLst, aN, aC, eLc, eCh, tAn, tOr', tNo, tB', tTr, tYs, iE, iZ, iR1, iR2, sNil, wO_bind, wO_ok, wO_onE, wO_ofif, wO_some, wS_seq, wS_then, wS_nx, wS_rt, cond_true, cond_false, List.append_nil, List.nil_append, List.cons_append, List.getElem?_cons_zero, List.getElem?_cons_succ, List.set_cons_zero, List.set_cons_succ, add_ll, itD]
    have kW' : Kept w l (n + 200) W := kW.mono (by omega)
    have hcW := kW'.cl hc
    refine ⟨szOk_of (by rw [hla]; simp), wS_forL (fun _ ρ W' => (∃ a b c d e, ρ = [a, b, c, d, e]) ∧ W' = W) _ 0 _ W ⟨⟨_, _, _, _, _, rfl⟩, rfl⟩ ?_ ?_⟩
    · rintro j d ρ W' hj ⟨⟨a, b, c, x3, x4, rfl⟩, rfl⟩
      have hd : Md d := by
        rcases List.mem_cons.mp (List.mem_of_getElem? hj) with rfl | hd
        · exact hmd
        · exact hacc d hd
      simp only [wipeE, sRet, sExp, sIf, sAsg, sFor, gN, gT, gC, gZ, eAn, eOr, eNo, eIf, eIsi, eV, eC, eB, eU, eCb, eCall, eSl, oN, oS, eTup, eLst, aN, aC, eLc, eCh, tAn, tOr', tNo, tB', tTr, tYs, iE, iZ, iR1, iR2, sNil, wO_bind, wO_ok, wO_onE, wO_ofif, wO_some, wS_seq, wS_then, wS_nx, wS_rt, cond_true, cond_false, List.append_nil, List.nil_append, List.cons_append, List.getElem?_cons_zero, List.getElem?_cons_succ, List.set_cons_zero, List.set_cons_succ, kb hcW hd]
      exact ⟨⟨_, _, _, _, _, rfl⟩, trivial⟩
    · rintro ρ W' ⟨_, rfl⟩
      exact ⟨by rw [kW.len, k.len], trivial, kW'⟩
end Tk

set_option Elab.async false
set_option linter.all false
set_option maxRecDepth 100000
set_option maxHeartbeats 4000000
namespace Tk
open PySem L2 Td Tg
theorem feed_ok (ns : List Int) (h : ns.length ≤ 63) : F__law_feed [intsD ns] [] = .ok (rf 0) [.lst (fdL ns 0 0 0)] := by
  have cut : cutL (ns.map PyData.int) none (some 63) = ns.map .int := by
    unfold cutL
    rw [HT.sIx_none, show (some (63 : Int)) = some (((63 : Nat)) : Int) from rfl, HT.sIx_nat, List.length_map, Nat.min_eq_right h, List.drop_zero, Nat.sub_zero, List.take_of_length_le (by simp)]
  have z4 : szOk 4 = true := szOk_of (by omega)
  have e : b__law_feed [some (intsD ns)] [] = .rt (rf 0) [.lst (fdL ns 0 0 0)] := by
    simp only [b__law_feed, sRet, eLstS, aC, aN, eCb, eSl, oN, oS, eV, eC, Oc.bind, Oc.of, List.getElem?_cons_zero, intsD, cutD, lstOf_list, cut, listD, Option.map_some, List.length_cons, List.length_nil, Nat.zero_add, Nat.reduceAdd, z4, Oc.on, cond_true, List.nil_append, Oc.thenS, fdL]
  show leave 0 (b__law_feed [some (intsD ns)] []) = _
  rw [e]
  simp [leave, bnd, bndK]
def pickS : FS := (sSeq (sAsg (eCall F__law_choice [] (aC (eV 1) (aC (eLst (aC (eTup (aC (eC (.str "?a")) aN)) (aC (eTup (aC (eC (.str "?a")) (aC (eC (.str "?zzzzzzzz")) aN))) (aC (eTup (aC (eC (.str "?b")) (aC (eC (.str "?a")) (aC (eC (.str "?c")) aN)))) aN)))) aN))) (gN 7))
    (sExp (eLm apL (eV 2) (aC (eCall (F__law_pattern 5) [] (aC (eV 1) (aC (eCall F__law_tongue [] (aC (eV 1) aN)) (aC (eV 7) (aC (eC (.int 3)) aN))))) aN))))
theorem labs3 {x : PyData} (h : x ∈ [PyData.tuple [.str "?a"], .tuple [.str "?a", .str "?zzzzzzzz"], .tuple [.str "?b", .str "?a", .str "?c"]]) : ∃ lbs, x = .tuple (lbs.map lbD) ∧ Lbs lbs := by
  obtain ⟨h1, h2, h3, _⟩ := lits3
  have h4 : ("?c" : Str) = S [63, 99] := by decide +kernel
  rw [h1, h2, h3, h4] at h
  simp only [List.mem_cons, List.not_mem_nil, or_false] at h
  have nm : nmL [97] = true ∧ nmL [98] = true ∧ nmL [99] = true ∧ nmL [122, 122, 122, 122, 122, 122, 122, 122] = true := by decide +kernel
  rcases h with rfl | rfl | rfl
  · exact ⟨[[97]], rfl, by simp, by simpa using nm.1, by simp⟩
  · exact ⟨[[97], [122, 122, 122, 122, 122, 122, 122, 122]], rfl, by simp, by simpa using ⟨nm.1, nm.2.2.2⟩, by simp⟩
  · exact ⟨[[98], [97], [99]], rfl, by simp, by simpa using ⟨nm.2.1, nm.1, nm.2.2.1⟩, by simp⟩
theorem cl_pats {w : Ws} {ps : List Pat} (hc : Cl w) (h : ∀ p ∈ ps, ok p = true) : Cl (w ++ [.lst (toDs ps)]) := hc.snoc (bndA_okD _ (okDA_iff.mpr fun d hd => by
  rw [toDs_map] at hd
  obtain ⟨p, hp, rfl⟩ := List.mem_map.mp hd
  exact okD_toD p (h p hp)))
theorem pick_w {w w' : Ws} {n : Nat} {ps : List Pat} {x0 x3 x4 x5 x6 x7 x8 x9 x10 : Option PyData} (hc : Cl w) (h1 : w.length = 1) (k : Kept w 0 n w') (hn : n + 200 < 1000000) (hl : ps.length ≤ 100) (hp : ∀ p ∈ ps, Pt 3 p) :
    ∃ p y7 w'', pickS [x0, some (rf 0), some (rf 1), x3, x4, x5, x6, x7, x8, x9, x10] (w' ++ [.lst (toDs ps)]) = .nx [x0, some (rf 0), some (rf 1), x3, x4, x5, x6, y7, x8, x9, x10] (w'' ++ [.lst (toDs (ps ++ [p]))]) ∧ Pt 3 p ∧ Kept w 0 (n + 150) w'' := by
  have z1 : szOk 1 = true := szOk_of (by omega)
  have z3 : szOk 3 = true := szOk_of (by omega)
  have hl' : 0 < (w ++ [Ob.lst (toDs ps)]).length := by simp
  have hcl := cl_pats hc fun p h => (hp p h).ok
  obtain ⟨x, w2o, e2, hx, k2o⟩ := choice_k (xs := [PyData.tuple [.str "?a"], .tuple [.str "?a", .str "?zzzzzzzz"], .tuple [.str "?b", .str "?a", .str "?c"]]) hl' (k.up (v := [.lst (toDs ps)]) (by omega)) (by omega) (by simp) (by simp)
  obtain ⟨lbs, rfl, hL⟩ := labs3 hx
  obtain ⟨d, w3o, e3, tg, k3o⟩ := tongue_ok hcl hl' k2o (by omega)
  obtain ⟨s, ins, ws, rfl, t1, t2, t3, t4, t5, t6, t7, t8⟩ := tg.ex
  obtain ⟨p, w4o, e4, p4, k4o⟩ := pattern_ok (s := s) hl' t1 t3 t2 t4 t5 t6 hL 5 3 w3o (n + 1 + 60) (by omega) (by omega) k3o (by simp only [pc]; omega)
  obtain ⟨w4, rfl, k4⟩ := k4o.app (by omega)
  refine ⟨p, some (.tuple (lbs.map lbD)), w4, ?_, p4, k4.mono (by simp only [pc]; omega)⟩
  have l4 := k4.len
  have g4 : (w4 ++ [Ob.lst (toDs ps)])[1]? = some (.lst (toDs ps)) := by rw [← h1, ← l4]; simp
  have g2 : ∃ ds, w2o[1]? = some (.lst ds) := by
    obtain ⟨w2, rfl, k2⟩ := k2o.app (by omega)
    exact ⟨toDs ps, by rw [← h1, ← k2.len]; simp⟩
  obtain ⟨ds2, g2⟩ := g2
  have lp : (toDs ps).length = ps.length := by rw [toDs_map, List.length_map]
  have u := upd_at (w := w4 ++ [Ob.lst (toDs ps)]) (q := 1) (k := fun xs => apL xs [toD p]) (d := .none) (ys := toDs ps ++ [toD p]) g4 (by simp only [apL]; rw [if_pos (by rw [lp, sizeLine_eq]; omega)])
  have e4' : F__law_pattern 5 [rf 0, .tuple [.int s, insD ins, .tuple (ws.map wd)], .tuple (lbs.map lbD), .int 3] w3o = .ok (toD p) (w4 ++ [Ob.lst (toDs ps)]) := e4
  have st : (w4 ++ [Ob.lst (toDs ps)]).set 1 (.lst (toDs ps ++ [toD p])) = w4 ++ [Ob.lst (toDs (ps ++ [p]))] := by
    rw [toDs_app, ← h1, ← l4]
    show _ = w4 ++ [Ob.lst (toDs ps ++ [toD p])]
    simp
  have e3' : F__law_tongue [rf 0] w2o = .ok (.tuple [.int s, insD ins, .tuple (ws.map wd)]) w3o := e3
  unfold pickS
  rw [seq_nx (ρ1 := [x0, some (rf 0), some (rf 1), x3, x4, x5, x6, some (.tuple (lbs.map lbD)), x8, x9, x10]) (w1 := w2o) (by
    simp only [sAsg, eCall, aC, aN, eV, eC, eLst, eTup, Oc.bind, List.getElem?_cons_zero, List.getElem?_cons_succ, List.length_cons, List.length_nil, Nat.zero_add, Nat.reduceAdd, z1, sz2, z3, Oc.on, cond_true, List.append_nil, e2, Oc.thenS, gN, List.set_cons_zero, List.set_cons_succ])]
  simp only [sExp, eLm, eCall, aC, aN, eV, eC, Oc.bind, List.getElem?_cons_zero, List.getElem?_cons_succ, lst_at g2, Option.isSome_some, Oc.on, cond_true, List.append_nil, e3', e4', u, st, Oc.thenS]
end Tk

set_option Elab.async false
set_option linter.all false
set_option maxRecDepth 100000
set_option maxHeartbeats 4000000
namespace Tk
open PySem L2 Td Tg
theorem wS_nxE {P : Ev → Ws → Prop} {o : Os} (h : wS P (fun _ _ => False) o) : ∃ ρ w, o = .nx ρ w ∧ P ρ w := by
  cases h with
  | nx h => exact ⟨_, _, rfl, h⟩
  | rt h => exact h.elim
theorem pt_sml {p : Pat} (h : Pt 3 p) : Sml p := sml_of h.ok (by have := h.nb; simp only [nb] at this; omega) (by have := h.hg; omega)
theorem kp_of {p : Pat} (h1 : ok p = true) (h2 : nn p ≤ 20) (h3 : hgt p ≤ 4) : Kp p := ⟨h1, by have := depth_toD p; omega, by have := wt_toD p h1; omega⟩
theorem pt_kp {p : Pat} (h : Pt 3 p) : Kp p := kp_of h.ok (by have := h.nb; simp only [nb] at this; omega) (by have := h.hg; omega)
theorem gd_kp {p : Pat} (h : Gd3 2 p) : Kp p := kp_of h.ok (by have := h.nb; simp only [tb] at this; omega) (by have := h.hg; omega)
def P0 : List Pat := [.var [97], .node [120] [], .node [97, 110, 100] [.var [97], .node [111, 114] [.var [97], .node [110, 111] []]]]
theorem P0_pt : ∀ p ∈ P0, Pt 3 p := by
  have h : P0.all (fun p => ok p && (decide (hgt p ≤ 3) && decide (nn p ≤ nb 3))) = true := by decide +kernel
  intro p hp
  have := List.all_eq_true.mp h p hp
  rw [Bool.and_eq_true, Bool.and_eq_true] at this
  exact ⟨this.1, of_decide_eq_true this.2.1, of_decide_eq_true this.2.2⟩
theorem P0_D : toDs P0 = [.str "?a", .tuple [.str "x", .tuple []], .tuple [.str "and", .tuple [.str "?a", .tuple [.str "or", .tuple [.str "?a", .tuple [.str "no", .tuple []]]]]]] := by
  obtain ⟨h1, _, _, h4, h5, h6, _, _⟩ := lits3
  have h7 : ("or" : Str) = S [111, 114] := lits2.2.2.2.2.2.1
  rw [h1, h4, h5, h6, h7]
  rfl
theorem loop1 {w w' : Ws} {x0 : Option PyData} (hc : Cl w) (h1 : w.length = 1) (k : Kept w 0 0 w') :
    ∃ x3 y7 ps w'', sFor (iR1 (aC (eC (.int 10)) aN)) (gN 3) pickS [x0, some (rf 0), some (rf 1), none, none, none, none, none, none, none, none] (w' ++ [.lst (toDs P0)])
      = .nx [x0, some (rf 0), some (rf 1), x3, none, none, none, y7, none, none, none] (w'' ++ [.lst (toDs ps)]) ∧ ps.length = 13 ∧ (∀ p ∈ ps, Pt 3 p) ∧ Kept w 0 1500 w'' := by
  have pk := fun {w' : Ws} {n : Nat} {ps : List Pat} {x3 x7 : Option PyData} => pick_w (w := w) (w' := w') (n := n) (ps := ps) (x0 := x0) (x3 := x3) (x4 := none) (x5 := none) (x6 := none) (x7 := x7) (x8 := none) (x9 := none) (x10 := none) hc h1
  generalize pickS = PS at pk
  have q : wS (fun ρ W => ∃ x3 y7 ps w'', ρ = [x0, some (rf 0), some (rf 1), x3, none, none, none, y7, none, none, none] ∧ W = w'' ++ [.lst (toDs ps)] ∧ ps.length = 13 ∧ (∀ p ∈ ps, Pt 3 p) ∧ Kept w 0 1500 w'') (fun _ _ => False) (sFor (iR1 (aC (eC (.int 10)) aN)) (gN 3) PS [x0, some (rf 0), some (rf 1), none, none, none, none, none, none, none, none] (w' ++ [.lst (toDs P0)])) := by
    simp only [wipeE, sRet, sExp, sIf, sAsg, sFor, gN, gT, gC, gZ, eAn, eOr, eNo, eIf, eIsi, eV, eC, eB, eU, eCb, eCall, eSl, oN, oS, eTup, eLst, aN, aC, eLc, eCh, tAn, tOr', tNo, tB', tTr, tYs, iE, iZ, iR1, iR2, sNil, wO_bind, wO_ok, wO_onE, wO_ofif, wO_some, wS_seq, wS_then, wS_nx, wS_rt, cond_true, cond_false, List.append_nil, List.nil_append, List.cons_append, List.getElem?_cons_zero, List.getElem?_cons_succ, List.set_cons_zero, List.set_cons_succ]
    refine ⟨c62_of (by decide), wS_forL (fun i ρ W => ∃ x3 y7 ps w'', ρ = [x0, some (rf 0), some (rf 1), x3, none, none, none, y7, none, none, none] ∧ W = w'' ++ [.lst (toDs ps)] ∧ ps.length = 3 + i ∧ (∀ p ∈ ps, Pt 3 p) ∧ Kept w 0 (i * 150) w'') _ 0 _ _ ⟨none, none, P0, w', rfl, rfl, rfl, P0_pt, by simpa using k⟩ ?_ ?_⟩
    · rintro j d ρ W hj ⟨x3, y7, ps, w2, rfl, rfl, hl, hp, k2⟩
      have hj10 : j < 10 := by have := (List.getElem?_eq_some_iff.mp hj).1; rwa [show (rgD 0 10).length = 10 from rfl] at this
      obtain ⟨p, z7, w3, e, hp3, k3⟩ := pk (x3 := some d) (x7 := y7) k2 (by omega) (by omega) hp
      simp only [wipeE, sRet, sExp, sIf, sAsg, sFor, gN, gT, gC, gZ, eAn, eOr, eNo, eIf, eIsi, eV, eC, eB, eU, eCb, eCall, eSl, oN, oS, eTup, eLst, aN, aC, eLc, eCh, tAn, tOr', tNo, tB', tTr, tYs, iE, iZ, iR1, iR2, sNil, wO_bind, wO_ok, wO_onE, wO_ofif, wO_some, wS_seq, wS_then, wS_nx, wS_rt, cond_true, cond_false, List.append_nil, List.nil_append, List.cons_append, List.getElem?_cons_zero, List.getElem?_cons_succ, List.set_cons_zero, List.set_cons_succ, e]
      refine ⟨some d, z7, ps ++ [p], w3, rfl, rfl, by rw [List.length_append, hl]; simp; omega, fun q hq => ?_, k3.mono (by omega)⟩
      rcases List.mem_append.mp hq with hq | hq
      · exact hp q hq
      · rw [List.mem_singleton.mp hq]; exact hp3
    · rintro ρ W ⟨x3, y7, ps, w2, rfl, rfl, hl, hp, k2⟩
      rw [show (rgD 0 10).length = 10 from rfl] at hl k2
      exact ⟨x3, y7, ps, w2, rfl, rfl, hl, hp, k2⟩
  obtain ⟨ρ, W, e, x3, y7, ps, w2, rfl, rfl, h2, h3, h4⟩ := wS_nxE q
  exact ⟨x3, y7, ps, w2, e, h2, h3, h4⟩
def agB : FS := (sSeq (sAsg (eCb reprD (aC (eV 4) aN)) (gN 8))
    (sIf (tOr' (tNo (tTr (eCall F__law_agrees [] (aC (eV 4) aN)))) (tB' (eB neD (eCb reprD (aC (eV 4) aN)) (eV 8)))) (sRet (eC (.bool false))) sNil))
theorem loop2 {W : Ws} {ps : List Pat} {x0 x1 x3 x5 x6 x7 x9 x10 : Option PyData} (hc : Cl W) (hp : ∀ p ∈ ps, Sml p) :
    ∃ x4 x8, sFor (iE (eV 2)) (gN 4) agB [x0, x1, some (.list (toDs ps)), x3, none, x5, x6, x7, none, x9, x10] W = .nx [x0, x1, some (.list (toDs ps)), x3, x4, x5, x6, x7, x8, x9, x10] W := by
  have ag : ∀ {p : Pat} {x8 : Option PyData}, Sml p → agB [x0, x1, some (.list (toDs ps)), x3, some (toD p), x5, x6, x7, x8, x9, x10] W = .nx [x0, x1, some (.list (toDs ps)), x3, some (toD p), x5, x6, x7, some (.str (toD p).shown), x9, x10] W := fun {p x8} h => by
    have e1 := agrees_ok hc h
    have rp : reprD W [toD p] = some (.str (toD p).shown) := repr_of W (okD_toD p h.ok) (by have := h.dp; omega) (by have := h.wt; omega)
    have nd : ∀ z : Str, neD W (.str z) (.str z) = some (.bool false) := fun z => by rw [neD_str]; simp
    generalize toD p = T at *
    unfold agB
    simp only [sSeq, sAsg, eCb, aC, aN, eV, eC, Oc.bind, List.getElem?_cons_zero, List.getElem?_cons_succ, rp, Oc.of, Oc.thenS, gN, List.set_cons_zero, List.set_cons_succ, sIf, tOr', tNo, tTr, truD, Bool.not_true, tB', eB, eCall, List.append_nil, e1, cond_true, cond_false, nd, sNil]
  generalize agB = AB at ag
  have q : wS (fun ρ W' => (∃ x4 x8, ρ = [x0, x1, some (.list (toDs ps)), x3, x4, x5, x6, x7, x8, x9, x10]) ∧ W' = W) (fun _ _ => False) (sFor (iE (eV 2)) (gN 4) AB [x0, x1, some (.list (toDs ps)), x3, none, x5, x6, x7, none, x9, x10] W) := by
    simp only [wipeE, sRet, sExp, sIf, sAsg, sFor, gN, gT, gC, gZ, eAn, eOr, eNo, eIf, eIsi, eV, eC, eB, eU, eCb, eCall, eSl, oN, oS, eTup, eLst, aN, aC, eLc, eCh, tAn, tOr', tNo, tB', tTr, tYs, iE, iZ, iR1, iR2, sNil, wO_bind, wO_ok, wO_onE, wO_ofif, wO_some, wS_seq, wS_then, wS_nx, wS_rt, cond_true, cond_false, List.append_nil, List.nil_append, List.cons_append, List.getElem?_cons_zero, List.getElem?_cons_succ, List.set_cons_zero, List.set_cons_succ, itD]
    refine wS_forL (fun _ ρ W' => (∃ x4 x8, ρ = [x0, x1, some (.list (toDs ps)), x3, x4, x5, x6, x7, x8, x9, x10]) ∧ W' = W) _ 0 _ W ⟨⟨_, _, rfl⟩, rfl⟩ ?_ (fun ρ W' h => h)
    rintro j d ρ W' hj ⟨⟨x4, x8, rfl⟩, rfl⟩
    have hd := List.mem_of_getElem? hj
    rw [toDs_map] at hd
    obtain ⟨p, hpp, rfl⟩ := List.mem_map.mp hd
    simp only [wipeE, sRet, sExp, sIf, sAsg, sFor, gN, gT, gC, gZ, eAn, eOr, eNo, eIf, eIsi, eV, eC, eB, eU, eCb, eCall, eSl, oN, oS, eTup, eLst, aN, aC, eLc, eCh, tAn, tOr', tNo, tB', tTr, tYs, iE, iZ, iR1, iR2, sNil, wO_bind, wO_ok, wO_onE, wO_ofif, wO_some, wS_seq, wS_then, wS_nx, wS_rt, cond_true, cond_false, List.append_nil, List.nil_append, List.cons_append, List.getElem?_cons_zero, List.getElem?_cons_succ, List.set_cons_zero, List.set_cons_succ, ag (hp p hpp)]
    exact ⟨⟨_, _, rfl⟩, trivial⟩
  obtain ⟨ρ, W', e, ⟨x4, x8, rfl⟩, rfl⟩ := wS_nxE q
  exact ⟨x4, x8, e⟩
def kdB : FS := (sIf (tNo (tTr (eCall F__law_kinds_right [] (aC (eV 1) (aC (eV 4) aN))))) (sRet (eC (.bool false))) sNil)
def wideP : Pat := .node [102] [.var [97], .var [98], .var [97], .var [98], .var [97], .var [98], .var [97], .var [98]]
def shortP : Pat := .node [102] [.var [98], .var [97], .var [98], .var [97]]
theorem wides_kp : Kp wideP ∧ Kp shortP := ⟨kp_of (by decide +kernel) (by decide +kernel) (by decide +kernel), kp_of (by decide +kernel) (by decide +kernel) (by decide +kernel)⟩
theorem wides_D : toD wideP = .tuple [.str "f", .tuple [.str "?a", .str "?b", .str "?a", .str "?b", .str "?a", .str "?b", .str "?a", .str "?b"]] ∧ toD shortP = .tuple [.str "f", .tuple [.str "?b", .str "?a", .str "?b", .str "?a"]] := by
  obtain ⟨h1, h2, _, _, _, _, h7, _⟩ := lits3
  rw [h1, h2, h7]
  exact ⟨rfl, rfl⟩
theorem mul4 {w : Ws} {a b : PyData} : mulD w (.tuple [a, b]) (.int 4) = some (.tuple [a, b, a, b, a, b, a, b]) := by
  simp only [mulD]
  have c : cMt [a, b].length 4 = true := (by decide : cMt 2 4 = true)
  rw [if_pos c]
  rfl
def loopK : FS := sFor (iE (eB addD (eB addD (eSl (eV 2) oN (oS (eC (.int 6)))) (eLst (aC (eV 5) (aC (eTup (aC (eC (.str "f")) (aC (eTup (aC (eC (.str "?b")) (aC (eC (.str "?a")) (aC (eC (.str "?b")) (aC (eC (.str "?a")) aN))))) aN))) aN)))) (eLc (iR1 (aC (eC (.int 8)) aN)) (gN 9) tYs (eCall (F__law_free 4) [] (aC (eV 1) (aC (eC (.int 2)) aN))) [9]))) (gN 4) kdB
theorem loop3 {w W : Ws} {n : Nat} {ps : List Pat} {x0 x3 x4 x6 x7 x8 x9 x10 : Option PyData} (hc : Cl w) (hl : 0 < w.length) (k : Kept w 0 n W) (hn : n + 6000 < 1000000) (hp : ∀ p ∈ ps, Kp p) (hps : ps.length ≤ 100) :
    ∃ y4 y9 W', loopK [x0, some (rf 0), some (.list (toDs ps)), x3, x4, some (toD wideP), x6, x7, x8, x9, x10] W = .nx [x0, some (rf 0), some (.list (toDs ps)), x3, y4, some (toD wideP), x6, x7, x8, y9, x10] W' ∧ Kept w 0 (n + 5000) W' := by
  have q : wS (fun ρ W' => (∃ y4 y9, ρ = [x0, some (rf 0), some (.list (toDs ps)), x3, y4, some (toD wideP), x6, x7, x8, y9, x10]) ∧ Kept w 0 (n + 5000) W') (fun _ _ => False) (loopK [x0, some (rf 0), some (.list (toDs ps)), x3, x4, some (toD wideP), x6, x7, x8, x9, x10] W) := by
    have kd : ∀ {p : Pat} {x4 x9 : Option PyData} {W : Ws} {m : Nat}, Kp p → Kept w 0 m W → m + 200 < 1000000 → wS (fun ρ W' => ρ = [x0, some (rf 0), some (.list (toDs ps)), x3, some (toD p), some (toD wideP), x6, x7, x8, x9, x10] ∧ Kept w 0 (m + 200) W') (fun _ _ => False) (kdB [x0, some (rf 0), some (.list (toDs ps)), x3, some (toD p), some (toD wideP), x6, x7, x8, x9, x10] W) := fun {p x4 x9 W m} h k hm => by
      unfold kdB
      simp only [wipeE, sRet, sExp, sIf, sAsg, sFor, gN, gT, gC, gZ, eAn, eOr, eNo, eIf, eIsi, eV, eC, eB, eU, eCb, eCall, eSl, oN, oS, eTup, eLst, aN, aC, eLc, eCh, tAn, tOr', tNo, tB', tTr, tYs, iE, iZ, iR1, iR2, sNil, wO_bind, wO_ok, wO_onE, wO_ofif, wO_some, wS_seq, wS_then, wS_nx, wS_rt, cond_true, cond_false, List.append_nil, List.nil_append, List.cons_append, List.getElem?_cons_zero, List.getElem?_cons_succ, List.set_cons_zero, List.set_cons_succ]
      refine wO_mono (kinds_w hc hl k hm h) ?_
      rintro _ W' ⟨rfl, k'⟩
      simp only [wipeE, sRet, sExp, sIf, sAsg, sFor, gN, gT, gC, gZ, eAn, eOr, eNo, eIf, eIsi, eV, eC, eB, eU, eCb, eCall, eSl, oN, oS, eTup, eLst, aN, aC, eLc, eCh, tAn, tOr', tNo, tB', tTr, tYs, iE, iZ, iR1, iR2, sNil, wO_bind, wO_ok, wO_onE, wO_ofif, wO_some, wS_seq, wS_then, wS_nx, wS_rt, cond_true, cond_false, List.append_nil, List.nil_append, List.cons_append, List.getElem?_cons_zero, List.getElem?_cons_succ, List.set_cons_zero, List.set_cons_succ, truD, Bool.not_true]
      exact ⟨trivial, k'⟩
    have fr : ∀ (W : Ws) (m : Nat), Kept w 0 m W → m + 30 < 1000000 → wO (fun d W' => (∃ p, d = toD p ∧ Gd3 2 p) ∧ Kept w 0 (m + 30) W') (F__law_free 4 [rf 0, .int 2] W) := fun W m k hm => by
      obtain ⟨p, W', e, g, k'⟩ := free_ok hl 2 4 W m (by omega) k (by simp only [cst]; omega)
      have e' : F__law_free 4 [rf 0, .int 2] W = .ok (toD p) W' := e
      rw [e']
      exact .mk ⟨⟨p, rfl, g⟩, k'.mono (by simp only [cst]; omega)⟩
    have c6 : cutL (toDs ps) none (some 6) = toDs (ps.take 6) := by
      have := cut_to (toDs ps) 6
      rw [toDs_map, toDs_map, List.map_take]
      rw [toDs_map] at this
      exact this
    obtain ⟨wd1, wd2⟩ := wides_D
    obtain ⟨wk1, wk2⟩ := wides_kp
    unfold loopK
    generalize kdB = KB at kd
    generalize F__law_free 4 = FF4 at fr
    have z4 : szOk 4 = true := szOk_of (by omega)
    simp only [wipeE, sRet, sExp, sIf, sAsg, sFor, gN, gT, gC, gZ, eAn, eOr, eNo, eIf, eIsi, eV, eC, eB, eU, eCb, eCall, eSl, oN, oS, eTup, eLst, aN, aC, eLc, eCh, tAn, tOr', tNo, tB', tTr, tYs, iE, iZ, iR1, iR2, sNil, wO_bind, wO_ok, wO_onE, wO_ofif, wO_some, wS_seq, wS_then, wS_nx, wS_rt, cond_true, cond_false, List.append_nil, List.nil_append, List.cons_append, List.getElem?_cons_zero, List.getElem?_cons_succ, List.set_cons_zero, List.set_cons_succ, cutD, lstOf_list, c6, List.length_cons, List.length_nil, Nat.zero_add, Nat.reduceAdd, sz2, z4, true_and, add_ll]
    have lps : (toDs (ps.take 6)).length ≤ 100 := by
      rw [toDs_map, List.length_map]; have := List.length_take_le' 6 ps; omega
    refine ⟨szOk_of (by omega), c62_of (by decide), ?_⟩
    refine wA_lcL (fun i acc W => acc.length = i ∧ Kept w 0 (n + i * 30) W ∧ ∀ x ∈ acc, ∃ p, x = toD p ∧ Gd3 2 p) (rgD 0 8) 0 W [] (by rw [sizeLine_eq]; decide) ⟨rfl, by simpa using k, fun x hx => by cases hx⟩ ?_ ?_
    · rintro j d acc W hj ⟨hla, kW, hacc⟩
      have hj8 : j < 8 := by have := (List.getElem?_eq_some_iff.mp hj).1; rwa [show (rgD 0 8).length = 8 from rfl] at this
      simp only [wipeE, sRet, sExp, sIf, sAsg, sFor, gN, gT, gC, gZ, eAn, eOr, eNo, eIf, eIsi, eV, eC, eB, eU, eCb, eCall, eSl, oN, oS, eTup, eLst, aN, aC, eLc, eCh, tAn, tOr', tNo, tB', tTr, tYs, iE, iZ, iR1, iR2, sNil, wO_bind, wO_ok, wO_onE, wO_ofif, wO_some, wS_seq, wS_then, wS_nx, wS_rt, cond_true, cond_false, List.append_nil, List.nil_append, List.cons_append, List.getElem?_cons_zero, List.getElem?_cons_succ, List.set_cons_zero, List.set_cons_succ]
      refine wO_mono (fr W _ kW (by omega)) ?_
      rintro r W2 ⟨c, k2⟩
      refine ⟨by rw [List.length_append, hla]; simp, k2.mono (by omega), fun x hx => ?_⟩
      rcases List.mem_append.mp hx with hx | hx
      · exact hacc x hx
      · rw [List.mem_singleton.mp hx]; exact c
    · rintro acc W ⟨hla, kW, hacc⟩
      rw [show (rgD 0 8).length = 8 from rfl] at hla kW
      simp only [wipeE, sRet, sExp, sIf, sAsg, sFor, gN, gT, gC, gZ, eAn, eOr, eNo, eIf, eIsi, eV, eC, eB, eU, eCb, eCall, eSl, oN, oS, eTup, eLst, aN, aC, eLc, eCh, tAn, tOr', tNo, tB', tTr, tYs, iE, iZ, iR1, iR2, sNil, wO_bind, wO_ok, wO_onE, wO_ofif, wO_some, wS_seq, wS_then, wS_nx, wS_rt, cond_true, cond_false, List.append_nil, List.nil_append, List.cons_append, List.getElem?_cons_zero, List.getElem?_cons_succ, List.set_cons_zero, List.set_cons_succ, add_ll, itD]
      refine ⟨szOk_of (by rw [List.length_append, hla]; simp only [List.length_cons, List.length_nil]; omega), ?_⟩
      generalize hds : toDs (ps.take 6) ++ [toD wideP, PyData.tuple [PyData.str "f", PyData.tuple [PyData.str "?b", PyData.str "?a", PyData.str "?b", PyData.str "?a"]]] ++ acc = ds
      have hd : ∀ d ∈ ds, ∃ p, d = toD p ∧ Kp p := by
        intro d hd
        rw [← hds] at hd
        rcases List.mem_append.mp hd with hd | hd
        · rcases List.mem_append.mp hd with hd | hd
          · rw [toDs_map] at hd
            obtain ⟨p, hpp, rfl⟩ := List.mem_map.mp hd
            exact ⟨p, rfl, hp p (List.mem_of_mem_take hpp)⟩
          · simp only [List.mem_cons, List.not_mem_nil, or_false] at hd
            rcases hd with rfl | rfl
            · exact ⟨_, rfl, wk1⟩
            · exact ⟨_, wd2.symm, wk2⟩
        · obtain ⟨p, rfl, g⟩ := hacc d hd
          exact ⟨p, rfl, gd_kp g⟩
      have hl16 : ds.length ≤ 16 := by
        rw [← hds, List.length_append, List.length_append, hla, toDs_map, List.length_map]; have := List.length_take_le 6 ps; simp only [List.length_cons, List.length_nil]; omega
      refine wS_forL (fun i ρ W' => (∃ y4 y9, ρ = [x0, some (rf 0), some (.list (toDs ps)), x3, y4, some (toD wideP), x6, x7, x8, y9, x10]) ∧ Kept w 0 (n + 240 + i * 200) W') _ 0 _ W ⟨⟨_, _, rfl⟩, by simpa using kW⟩ ?_ ?_
      · rintro j d ρ W' hj ⟨⟨y4, y9, rfl⟩, k'⟩
        have hj16 : j < 16 := by have := (List.getElem?_eq_some_iff.mp hj).1; omega
        obtain ⟨p, rfl, hkp⟩ := hd d (List.mem_of_getElem? hj)
        simp only [wipeE, sRet, sExp, sIf, sAsg, sFor, gN, gT, gC, gZ, eAn, eOr, eNo, eIf, eIsi, eV, eC, eB, eU, eCb, eCall, eSl, oN, oS, eTup, eLst, aN, aC, eLc, eCh, tAn, tOr', tNo, tB', tTr, tYs, iE, iZ, iR1, iR2, sNil, wO_bind, wO_ok, wO_onE, wO_ofif, wO_some, wS_seq, wS_then, wS_nx, wS_rt, cond_true, cond_false, List.append_nil, List.nil_append, List.cons_append, List.getElem?_cons_zero, List.getElem?_cons_succ, List.set_cons_zero, List.set_cons_succ]
        refine wS_mono (kd (x4 := none) (x9 := y9) hkp k' (by omega)) ?_ (fun _ _ h => h)
        rintro ρ W2 ⟨rfl, k2⟩
        exact ⟨⟨_, _, rfl⟩, k2.mono (by omega)⟩
      · rintro ρ W' ⟨h, k'⟩
        exact ⟨h, k'.mono (by omega)⟩
  obtain ⟨ρ, W', e, ⟨y4, y9, rfl⟩, k'⟩ := wS_nxE q
  exact ⟨y4, y9, W', e, k'⟩
end Tk

set_option Elab.async false
set_option linter.all false
set_option maxRecDepth 100000
set_option maxHeartbeats 4000000
namespace Tk
open PySem L2 Td Tg
def it1 : FS := (sAsg (eLst (aC (eTup (aC (eC (.str "f")) (aC (eB addD (eB mulD (eTup (aC (eC (.str "?a")) aN)) (eC (.int 7))) (eTup (aC (eC (.int 0)) aN))) aN))) (aC (eTup (aC (eC (.str "f")) (aC (eB addD (eB mulD (eTup (aC (eTup (aC (eC (.str "x")) (aC (eTup aN) aN))) aN)) (eC (.int 8))) (eTup (aC (eC (.str "a")) aN))) aN))) aN))) (gN 6))
def it2 : FS := (sAsg (eB addD (eV 6) (eLst (aC (eC .none) (aC (eC (.bool true)) (aC (eC (.int 0)) (aC (eC (.str "")) (aC (eC (.str "?")) (aC (eC (.str "?A")) (aC (eC (.str "a")) (aC (eC (.str "?zzzzzzzzz")) (aC (eC (.str "?zzzzzzzz")) (aC (eC (.str "?a ")) (aC (eC (.str "? a")) (aC (eC (.str "??a")) (aC (eTup aN) (aC (eTup (aC (eC (.str "x")) aN)) aN)))))))))))))))) (gN 6))
def it3 : FS := (sAsg (eB addD (eV 6) (eLst (aC (eTup (aC (eC (.str "x")) (aC (eLst aN) aN))) (aC (eTup (aC (eC (.str "X")) (aC (eTup aN) aN))) aN)))) (gN 6))
def it4 : FS := (sAsg (eB addD (eV 6) (eLst (aC (eLst (aC (eC (.str "x")) (aC (eTup aN) aN))) (aC (eTup (aC (eC (.str "x")) (aC (eTup aN) (aC (eTup aN) aN)))) (aC (eTup (aC (eC (.str "x")) (aC (eTup (aC (eC (.str "?a")) (aC (eC (.int 0)) aN))) aN))) (aC (eTup (aC (eTup (aC (eC (.str "x")) aN)) (aC (eTup aN) aN))) (aC (eTup (aC (eC (.str "?a")) (aC (eTup aN) aN))) (aC (eTup (aC (eC (.str "x")) (aC (eC (.str "?a")) aN))) aN)))))))) (gN 6))
def it5 : FS := (sAsg (eB addD (eV 6) (eLst (aC (eTup (aC (eC (.str "")) (aC (eTup aN) aN))) (aC (eTup (aC (eC (.str "x")) (aC (eTup (aC (eC .none) aN)) aN))) (aC (eC (.str "?a1")) (aC (eC (.str "?aB")) (aC (eC (.str "?a_")) (aC (eTup (aC (eC (.str "a1")) (aC (eTup aN) aN))) (aC (eTup (aC (eC (.str "aB")) (aC (eTup aN) aN))) (aC (eTup (aC (eC (.str "a_")) (aC (eTup aN) aN))) aN)))))))))) (gN 6))
def endS : FS := (sRet (eB eqL (eLc (iE (eV 6)) (gN 10) (tB' (eB neD (eCb reprD (aC (eCall (F_is_pattern 12) [] (aC (eV 10) aN)) aN)) (eCb reprD (aC (eCall F__law_is_pattern [] (aC (eV 10) aN)) aN)))) (eV 10) [10]) (eLst aN)))
def mdB (d : PyData) : Bool := okD d && (decide (d.depth ≤ 15) && decide (Td.wt d ≤ 10000))
theorem md_of {d : PyData} (h : mdB d = true) : Md d := by
  unfold mdB at h
  rw [Bool.and_eq_true, Bool.and_eq_true] at h
  exact ⟨h.1, of_decide_eq_true h.2.1, of_decide_eq_true h.2.2⟩
theorem mul7 {w : Ws} {a : PyData} : mulD w (.tuple [a]) (.int 7) = some (.tuple [a, a, a, a, a, a, a]) := by
  simp only [mulD]
  have c : cMt [a].length 7 = true := (by decide : cMt 1 7 = true)
  rw [if_pos c]
  rfl
theorem mul8 {w : Ws} {a : PyData} : mulD w (.tuple [a]) (.int 8) = some (.tuple [a, a, a, a, a, a, a, a]) := by
  simp only [mulD]
  have c : cMt [a].length 8 = true := (by decide : cMt 1 8 = true)
  rw [if_pos c]
  rfl
section
variable {W : Ws} {x0 x1 x2 x3 x4 x5 x6 x7 x8 x9 x10 : Option PyData}
def MdL (ds : List PyData) : Prop := ds.length ≤ 100 ∧ ∀ d ∈ ds, Md d
theorem mdL_of {ds : List PyData} (h : ds.all mdB = true) (hl : ds.length ≤ 100) : MdL ds := ⟨hl, fun d hd => md_of (List.all_eq_true.mp h d hd)⟩
theorem szs : ∀ n : Nat, n ≤ 1000 → szOk n = true := fun n h => szOk_of (by omega)
def D1 : List PyData := [.tuple [.str "f", .tuple [.str "?a", .str "?a", .str "?a", .str "?a", .str "?a", .str "?a", .str "?a", .int 0]], .tuple [.str "f", .tuple [.tuple [.str "x", .tuple []], .tuple [.str "x", .tuple []], .tuple [.str "x", .tuple []], .tuple [.str "x", .tuple []], .tuple [.str "x", .tuple []], .tuple [.str "x", .tuple []], .tuple [.str "x", .tuple []], .tuple [.str "x", .tuple []], .str "a"]]]
def D2 : List PyData := [.none, .bool true, .int 0, .str "", .str "?", .str "?A", .str "a", .str "?zzzzzzzzz", .str "?zzzzzzzz", .str "?a ", .str "? a", .str "??a", .tuple [], .tuple [.str "x"]]
def D3 : List PyData := [.tuple [.str "x", .list []], .tuple [.str "X", .tuple []]]
def D4 : List PyData := [.list [.str "x", .tuple []], .tuple [.str "x", .tuple [], .tuple []], .tuple [.str "x", .tuple [.str "?a", .int 0]], .tuple [.tuple [.str "x"], .tuple []], .tuple [.str "?a", .tuple []], .tuple [.str "x", .str "?a"]]
def D5 : List PyData := [.tuple [.str "", .tuple []], .tuple [.str "x", .tuple [.none]], .str "?a1", .str "?aB", .str "?a_", .tuple [.str "a1", .tuple []], .tuple [.str "aB", .tuple []], .tuple [.str "a_", .tuple []]]
theorem Ds_ok : MdL (D1 ++ D2 ++ D3 ++ D4 ++ D5) := mdL_of (by decide +kernel) (by decide +kernel)
theorem it1_ok : it1 [x0, x1, x2, x3, x4, x5, x6, x7, x8, x9, x10] W = .nx [x0, x1, x2, x3, x4, x5, some (.list D1), x7, x8, x9, x10] W := by
  have z : szOk 1 = true ∧ szOk 2 = true ∧ szOk (7 + 1) = true ∧ szOk (8 + 1) = true := ⟨szs _ (by omega), szs _ (by omega), szs _ (by omega), szs _ (by omega)⟩
  simp only [it1, sAsg, eLst, eTup, aC, aN, eC, eB, Oc.bind, mul7, mul8, addD, List.length_cons, List.length_nil, Nat.zero_add, Nat.reduceAdd, z, if_true, Oc.of, sz0, Oc.on, cond_true, Oc.thenS, gN, List.set_cons_zero, List.set_cons_succ, List.cons_append, List.nil_append]
  rfl
theorem add_it {ds es : List PyData} (f : FA) (hf : ∀ ρ, f ρ W = .ok es W) (h1 : ds.length ≤ 100) (h2 : es.length ≤ 100) : sAsg (eB addD (eV 6) (eLst f)) (gN 6) [x0, x1, x2, x3, x4, x5, some (.list ds), x7, x8, x9, x10] W = .nx [x0, x1, x2, x3, x4, x5, some (.list (ds ++ es)), x7, x8, x9, x10] W := by
  have z1 := szs es.length (by omega)
  have z2 := szs (ds.length + es.length) (by omega)
  simp only [sAsg, eB, eV, List.getElem?_cons_zero, List.getElem?_cons_succ, Oc.bind, eLst, hf, z1, Oc.on, cond_true, add_ll, z2, if_true, Oc.of, Oc.thenS, gN, List.set_cons_zero, List.set_cons_succ]
theorem endS_ok {ds : List PyData} (hc : Cl W) (h : MdL ds) : endS [x0, x1, x2, x3, x4, x5, some (.list ds), x7, x8, x9, x10] W = .rt (.bool true) W := by
  have c := lcL_pure (gt := gN 10) (tt := tB' (eB neD (eCb reprD (aC (eCall (F_is_pattern 12) [] (aC (eV 10) aN)) aN)) (eCb reprD (aC (eCall F__law_is_pattern [] (aC (eV 10) aN)) aN)))) (fe := eV 10) (ρ := [x0, x1, x2, x3, x4, x5, some (.list ds), x7, x8, x9, none]) (w := W) (fun _ => false) id ds [] (by have := h.1; rw [sizeLine_eq, List.length_nil]; omega) fun d hd => by
    have hm := h.2 d hd
    have h1 := hm.ok
    have h2 := hm.dp
    have h3 := hm.wt
    have ip := is_pattern_ok W 12 d h1 (by omega) (by omega)
    have lp := law_is_pattern_ok hc h1 (by omega) (by omega)
    generalize isPat 12 d = q at ip lp
    have rb : reprD W [.bool q] = some (.str (PyData.bool q).shown) := repr_of W rfl (by simp [PyData.depth]) (by simp [Td.wt])
    have nd : ∀ z : Str, neD W (.str z) (.str z) = some (.bool false) := fun z => by rw [neD_str]; simp
    refine ⟨[x0, x1, x2, x3, x4, x5, some (.list ds), x7, x8, x9, some d], rfl, ?_, fun h => by cases h⟩
    simp only [tB', eB, eCb, eCall, aC, aN, eV, Oc.bind, List.getElem?_cons_zero, List.getElem?_cons_succ, List.append_nil, ip, lp, rb, Oc.of, nd]
  rw [List.filter_eq_nil_iff.mpr (by simp)] at c
  simp only [endS, sRet, eB, eLc, iE, eV, List.getElem?_cons_zero, List.getElem?_cons_succ, Oc.bind, itD, Oc.of, wipeE, List.set_cons_zero, List.set_cons_succ]
  rw [c]
  simp only [List.map_nil, List.nil_append, Oc.bind, eLst, aN, List.length_nil, sz0, Oc.on, cond_true, eqL, lstOf_list, List.isEmpty_nil, Oc.of, Oc.thenS]
theorem its_ok (hc : Cl W) : (sSeq it1 (sSeq it2 (sSeq it3 (sSeq it4 (sSeq it5 endS))))) [x0, x1, x2, x3, x4, x5, x6, x7, x8, x9, x10] W = .rt (.bool true) W := by
  rw [seq_nx it1_ok]
  have e2 : it2 [x0, x1, x2, x3, x4, x5, some (.list D1), x7, x8, x9, x10] W = .nx [x0, x1, x2, x3, x4, x5, some (.list (D1 ++ D2)), x7, x8, x9, x10] W := add_it (es := D2) _ (fun ρ => by
    simp only [aC, aN, eC, eTup, Oc.bind, List.length_cons, List.length_nil, Nat.zero_add, Nat.reduceAdd, sz0, szs 1 (by omega), Oc.on, cond_true]; rfl) (by decide +kernel) (by decide +kernel)
  rw [seq_nx e2]
  have e3 : it3 [x0, x1, x2, x3, x4, x5, some (.list (D1 ++ D2)), x7, x8, x9, x10] W = .nx [x0, x1, x2, x3, x4, x5, some (.list (D1 ++ D2 ++ D3)), x7, x8, x9, x10] W := add_it (es := D3) _ (fun ρ => by
    simp only [aC, aN, eC, eTup, eLst, Oc.bind, List.length_cons, List.length_nil, Nat.zero_add, Nat.reduceAdd, sz0, sz2, Oc.on, cond_true]; rfl) (by decide +kernel) (by decide +kernel)
  rw [seq_nx e3]
  have e4 : it4 [x0, x1, x2, x3, x4, x5, some (.list (D1 ++ D2 ++ D3)), x7, x8, x9, x10] W = .nx [x0, x1, x2, x3, x4, x5, some (.list (D1 ++ D2 ++ D3 ++ D4)), x7, x8, x9, x10] W := add_it (es := D4) _ (fun ρ => by
    simp only [aC, aN, eC, eTup, eLst, Oc.bind, List.length_cons, List.length_nil, Nat.zero_add, Nat.reduceAdd, sz0, sz2, szs 1 (by omega), szs 3 (by omega), Oc.on, cond_true]; rfl) (by decide +kernel) (by decide +kernel)
  rw [seq_nx e4]
  have e5 : it5 [x0, x1, x2, x3, x4, x5, some (.list (D1 ++ D2 ++ D3 ++ D4)), x7, x8, x9, x10] W = .nx [x0, x1, x2, x3, x4, x5, some (.list (D1 ++ D2 ++ D3 ++ D4 ++ D5)), x7, x8, x9, x10] W := add_it (es := D5) _ (fun ρ => by
    simp only [aC, aN, eC, eTup, eLst, Oc.bind, List.length_cons, List.length_nil, Nat.zero_add, Nat.reduceAdd, sz0, sz2, szs 1 (by omega), Oc.on, cond_true]; rfl) (by decide +kernel) (by decide +kernel)
  rw [seq_nx e5]
  exact endS_ok hc Ds_ok
end
def wideS : FS := (sAsg (eTup (aC (eC (.str "f")) (aC (eB mulD (eTup (aC (eC (.str "?a")) (aC (eC (.str "?b")) aN))) (eC (.int 4))) aN))) (gN 5))
def someS : FS := (sAsg (eLstS (aC (eC (.str "?a")) (aC (eTup (aC (eC (.str "x")) (aC (eTup aN) aN))) (aC (eTup (aC (eC (.str "and")) (aC (eTup (aC (eC (.str "?a")) (aC (eTup (aC (eC (.str "or")) (aC (eTup (aC (eC (.str "?a")) (aC (eTup (aC (eC (.str "no")) (aC (eTup aN) aN))) aN))) aN))) aN))) aN))) aN)))) (gN 2))
def loop1S : FS := sFor (iR1 (aC (eC (.int 10)) aN)) (gN 3) pickS
def loop2S : FS := sFor (iE (eV 2)) (gN 4) agB
theorem law_eq : b_law = sSeq (sAsg (eCall F__law_feed [] (aC (eV 0) aN)) (gN 1)) (sSeq someS (sSeq loop1S (sSeq (sFz 2) (sSeq loop2S (sSeq wideS (sSeq loopK (sSeq it1 (sSeq it2 (sSeq it3 (sSeq it4 (sSeq it5 endS))))))))))) := rfl
theorem F_law_eq (d : PyData) : F_law [d] [] = leave 0 (b_law [some d, none, none, none, none, none, none, none, none, none, none] []) := by
  unfold F_law defF
  rw [if_pos (by rfl)]
  rfl
theorem start_ok {ns : List Int} (hns : ns.length ≤ 63) {w : Ws} (hw : w = [.lst (fdL ns 0 0 0)]) : Kept w 0 0 w ∧ Cl w ∧ w.length = 1 := by
  have bi : ∀ (n : Nat) (c : List Int), bndA n (c.map PyData.int) = true := fun n c => by
    induction c with
    | nil => rfl
    | cons x c ih => simp [bndA, bnd, ih]
  subst hw
  refine ⟨Kept.start (ob := .lst (fdL ns 0 0 0)) rfl ⟨⟨ns, 0, 0, 0, rfl, hns, by omega, by omega, by omega, by omega⟩⟩, ?_, rfl⟩
  have c0 : Cl [] := rfl
  exact c0.snoc (by show bndA _ (fdL ns 0 0 0) = true; simp [fdL, bndA, bnd, bi])
theorem someS_ok {w : Ws} {x0 : Option PyData} (h1 : w.length = 1) : someS [x0, some (rf 0), none, none, none, none, none, none, none, none, none] w = .nx [x0, some (rf 0), some (rf 1), none, none, none, none, none, none, none, none] (w ++ [.lst (toDs P0)]) := by
  rw [P0_D]
  simp only [someS, sAsg, eLstS, eTup, aC, aN, eC, Oc.bind, List.length_cons, List.length_nil, Nat.zero_add, Nat.reduceAdd, sz0, sz2, szs 3 (by omega), Oc.on, cond_true, Oc.thenS, gN, List.set_cons_zero, List.set_cons_succ, h1]
theorem wideS_ok {W : Ws} {x0 x1 x2 x3 x4 x5 x6 x7 x8 x9 x10 : Option PyData} : wideS [x0, x1, x2, x3, x4, x5, x6, x7, x8, x9, x10] W = .nx [x0, x1, x2, x3, x4, some (toD wideP), x6, x7, x8, x9, x10] W := by
  rw [wides_D.1]
  simp only [wideS, sAsg, eTup, aC, aN, eC, eB, Oc.bind, mul4, List.length_cons, List.length_nil, Nat.zero_add, Nat.reduceAdd, sz2, Oc.of, Oc.on, cond_true, Oc.thenS, gN, List.set_cons_zero, List.set_cons_succ]
theorem law_run {ns : List Int} (hns : ns.length ≤ 63) : ∃ W, b_law [some (intsD ns), none, none, none, none, none, none, none, none, none, none] [] = .rt (.bool true) W := by
  have fe := feed_ok ns hns
  obtain ⟨w, hw⟩ : ∃ w : Ws, w = [.lst (fdL ns 0 0 0)] := ⟨_, rfl⟩
  obtain ⟨k0, hc, h1⟩ := start_ok hns hw
  rw [← hw] at fe
  rw [law_eq]
  rw [seq_nx (ρ1 := [some (intsD ns), some (rf 0), none, none, none, none, none, none, none, none, none]) (w1 := w) (by
    simp only [sAsg, eCall, aC, aN, eV, Oc.bind, List.getElem?_cons_zero, List.append_nil, fe, Oc.thenS, gN, List.set_cons_zero, List.set_cons_succ])]
  rw [seq_nx (someS_ok h1)]
  obtain ⟨x3, y7, ps, w2, e1, hl, hp, k2⟩ := loop1 (x0 := some (intsD ns)) hc h1 k0
  have e1' : loop1S [some (intsD ns), some (rf 0), some (rf 1), none, none, none, none, none, none, none, none] (w ++ [.lst (toDs P0)]) = .nx [some (intsD ns), some (rf 0), some (rf 1), x3, none, none, none, y7, none, none, none] (w2 ++ [.lst (toDs ps)]) := e1
  rw [seq_nx e1']
  have l2 : w2.length = 1 := by rw [k2.len, h1]
  have fz : sFz 2 [some (intsD ns), some (rf 0), some (rf 1), x3, none, none, none, y7, none, none, none] (w2 ++ [.lst (toDs ps)]) = .nx [some (intsD ns), some (rf 0), some (.list (toDs ps)), x3, none, none, none, y7, none, none, none] (w2 ++ [.dead]) := by
    have f : fzD (w2 ++ [Ob.lst (toDs ps)]) (rf 1) = some (.list (toDs ps), w2 ++ [Ob.dead]) := by
      simp only [fzD, loc_rf]
      rw [show (w2 ++ [Ob.lst (toDs ps)])[1]? = some (Ob.lst (toDs ps)) by rw [← l2]; simp]
      simp only [Option.some.injEq, Prod.mk.injEq, true_and]
      rw [← l2]; simp
    simp only [sFz, List.getElem?_cons_zero, List.getElem?_cons_succ, f, List.set_cons_zero, List.set_cons_succ]
  rw [seq_nx fz]
  have c2 : Cl (w2 ++ [Ob.dead]) := (k2.cl hc).snoc rfl
  obtain ⟨x4, x8, e2⟩ := loop2 (x0 := some (intsD ns)) (x1 := some (rf 0)) (x3 := x3) (x5 := none) (x6 := none) (x7 := y7) (x9 := none) (x10 := none) c2 fun p h => pt_sml (hp p h)
  have e2' : loop2S [some (intsD ns), some (rf 0), some (.list (toDs ps)), x3, none, none, none, y7, none, none, none] (w2 ++ [Ob.dead]) = .nx [some (intsD ns), some (rf 0), some (.list (toDs ps)), x3, x4, none, none, y7, x8, none, none] (w2 ++ [Ob.dead]) := e2
  rw [seq_nx e2', seq_nx wideS_ok]
  have k2' := k2.up (v := [Ob.dead]) (by omega)
  obtain ⟨y4, y9, W, e3, k3⟩ := loop3 (x0 := some (intsD ns)) (x3 := x3) (x4 := x4) (x6 := none) (x7 := y7) (x8 := x8) (x9 := none) (x10 := none) (hc.snoc (ob := .dead) rfl) (by simp) k2' (by omega) (fun p h => pt_kp (hp p h)) (by omega)
  rw [seq_nx e3]
  exact ⟨W, its_ok (k3.cl (hc.snoc (ob := .dead) rfl))⟩
theorem main : ∀ ns : List Int, ns.length ≤ 63 → ∃ wf, F_law [intsD ns] [] = .ok (.bool true) wf := by
  intro ns hns
  obtain ⟨W, b⟩ := law_run hns
  have tr : trimW 0 W = true := by simp [trimW]
  have lv : leave 0 (.rt (.bool true) W) = .ok (.bool true) [] := by simp only [leave, tr, bnd, Bool.and_self, if_true, List.take_zero]
  exact ⟨[], (F_law_eq _).trans ((congrArg (leave 0) b).trans lv)⟩
end Tk

set_option Elab.async false
set_option linter.all false
set_option maxRecDepth 100000
set_option maxHeartbeats 4000000
namespace Tk
open PySem L2 PySem.Spec PyProof.Rows Td
theorem all_mk {l : PySem.W.OpenLaw} {w : World} {K : PySem.W.Frag} {h : Heap} {mg : Str → Option Value} {fa : Addr} (X : K.In h) (G : h.Ns mainGlobals mg) (hfa : mg "law" = some (.ref fa))
    {f0 : Addr} {od0 an0 : Option Addr} {sl0 : Array (Option Value)} {oc0 dc0 pm0 cd0 ct0 : Value}
    {kV0 : Value}
    (a0 : PySem.W.nsIn K mainGlobals "is_name" = some (some (.ref f0)))
    (l0 : K.lookup f0 = some ⟨oc0, od0, .func (PySem.W.fnOf "is_name" "is_name" (defArgs s_is_name) (defBody s_is_name) (defScope s_is_name) .none kV0 dc0 pm0 an0 cd0 ct0), sl0⟩)
    (c0 : PySem.W.codeIn K cd0 "is_name" = true) (k0 : PySem.W.keepIn K (.ref f0) = true)
    {f1 : Addr} {od1 an1 : Option Addr} {sl1 : Array (Option Value)} {oc1 dc1 pm1 cd1 ct1 : Value}
    {kV1 : Value}
    (a1 : PySem.W.nsIn K mainGlobals "is_variable" = some (some (.ref f1)))
    (l1 : K.lookup f1 = some ⟨oc1, od1, .func (PySem.W.fnOf "is_variable" "is_variable" (defArgs s_is_variable) (defBody s_is_variable) (defScope s_is_variable) .none kV1 dc1 pm1 an1 cd1 ct1), sl1⟩)
    (c1 : PySem.W.codeIn K cd1 "is_variable" = true) (k1 : PySem.W.keepIn K (.ref f1) = true)
    {f2 : Addr} {od2 an2 : Option Addr} {sl2 : Array (Option Value)} {oc2 dc2 pm2 cd2 ct2 : Value}
    {kV2 : Value}
    (a2 : PySem.W.nsIn K mainGlobals "is_pattern" = some (some (.ref f2)))
    (l2 : K.lookup f2 = some ⟨oc2, od2, .func (PySem.W.fnOf "is_pattern" "is_pattern" (defArgs s_is_pattern) (defBody s_is_pattern) (defScope s_is_pattern) .none kV2 dc2 pm2 an2 cd2 ct2), sl2⟩)
    (c2 : PySem.W.codeIn K cd2 "is_pattern" = true) (k2 : PySem.W.keepIn K (.ref f2) = true)
    {f3 : Addr} {od3 an3 : Option Addr} {sl3 : Array (Option Value)} {oc3 dc3 pm3 cd3 ct3 : Value}
    {kV3 : Value}
    (a3 : PySem.W.nsIn K mainGlobals "nodes_in" = some (some (.ref f3)))
    (l3 : K.lookup f3 = some ⟨oc3, od3, .func (PySem.W.fnOf "nodes_in" "nodes_in" (defArgs s_nodes_in) (defBody s_nodes_in) (defScope s_nodes_in) .none kV3 dc3 pm3 an3 cd3 ct3), sl3⟩)
    (c3 : PySem.W.codeIn K cd3 "nodes_in" = true) (k3 : PySem.W.keepIn K (.ref f3) = true)
    {f4 : Addr} {od4 an4 : Option Addr} {sl4 : Array (Option Value)} {oc4 dc4 pm4 cd4 ct4 : Value}
    {kV4 : Value}
    (a4 : PySem.W.nsIn K mainGlobals "variables_of" = some (some (.ref f4)))
    (l4 : K.lookup f4 = some ⟨oc4, od4, .func (PySem.W.fnOf "variables_of" "variables_of" (defArgs s_variables_of) (defBody s_variables_of) (defScope s_variables_of) .none kV4 dc4 pm4 an4 cd4 ct4), sl4⟩)
    (c4 : PySem.W.codeIn K cd4 "variables_of" = true) (k4 : PySem.W.keepIn K (.ref f4) = true)
    {f5 : Addr} {od5 an5 : Option Addr} {sl5 : Array (Option Value)} {oc5 dc5 pm5 cd5 ct5 : Value}
    {kV5 : Value}
    (a5 : PySem.W.nsIn K mainGlobals "own_places" = some (some (.ref f5)))
    (l5 : K.lookup f5 = some ⟨oc5, od5, .func (PySem.W.fnOf "own_places" "own_places" (defArgs s_own_places) (defBody s_own_places) (defScope s_own_places) .none kV5 dc5 pm5 an5 cd5 ct5), sl5⟩)
    (c5 : PySem.W.codeIn K cd5 "own_places" = true) (k5 : PySem.W.keepIn K (.ref f5) = true)
    {f6 : Addr} {od6 an6 : Option Addr} {sl6 : Array (Option Value)} {oc6 dc6 pm6 cd6 ct6 : Value}
    {kV6 : Value}
    (a6 : PySem.W.nsIn K mainGlobals "variable_places" = some (some (.ref f6)))
    (l6 : K.lookup f6 = some ⟨oc6, od6, .func (PySem.W.fnOf "variable_places" "variable_places" (defArgs s_variable_places) (defBody s_variable_places) (defScope s_variable_places) .none kV6 dc6 pm6 an6 cd6 ct6), sl6⟩)
    (c6 : PySem.W.codeIn K cd6 "variable_places" = true) (k6 : PySem.W.keepIn K (.ref f6) = true)
    {f7 : Addr} {od7 an7 : Option Addr} {sl7 : Array (Option Value)} {oc7 dc7 pm7 cd7 ct7 : Value}
    {kV7 : Value}
    (a7 : PySem.W.nsIn K mainGlobals "doubled_of" = some (some (.ref f7)))
    (l7 : K.lookup f7 = some ⟨oc7, od7, .func (PySem.W.fnOf "doubled_of" "doubled_of" (defArgs s_doubled_of) (defBody s_doubled_of) (defScope s_doubled_of) .none kV7 dc7 pm7 an7 cd7 ct7), sl7⟩)
    (c7 : PySem.W.codeIn K cd7 "doubled_of" = true) (k7 : PySem.W.keepIn K (.ref f7) = true)
    {f8 : Addr} {od8 an8 : Option Addr} {sl8 : Array (Option Value)} {oc8 dc8 pm8 cd8 ct8 : Value}
    {kV8 : Value}
    (a8 : PySem.W.nsIn K mainGlobals "_law_feed" = some (some (.ref f8)))
    (l8 : K.lookup f8 = some ⟨oc8, od8, .func (PySem.W.fnOf "_law_feed" "_law_feed" (defArgs s__law_feed) (defBody s__law_feed) (defScope s__law_feed) .none kV8 dc8 pm8 an8 cd8 ct8), sl8⟩)
    (c8 : PySem.W.codeIn K cd8 "_law_feed" = true) (k8 : PySem.W.keepIn K (.ref f8) = true)
    {f9 : Addr} {od9 an9 : Option Addr} {sl9 : Array (Option Value)} {oc9 dc9 pm9 cd9 ct9 : Value}
    {kV9 : Value}
    (a9 : PySem.W.nsIn K mainGlobals "_law_draw" = some (some (.ref f9)))
    (l9 : K.lookup f9 = some ⟨oc9, od9, .func (PySem.W.fnOf "_law_draw" "_law_draw" (defArgs s__law_draw) (defBody s__law_draw) (defScope s__law_draw) .none kV9 dc9 pm9 an9 cd9 ct9), sl9⟩)
    (c9 : PySem.W.codeIn K cd9 "_law_draw" = true) (k9 : PySem.W.keepIn K (.ref f9) = true)
    {f10 : Addr} {od10 an10 : Option Addr} {sl10 : Array (Option Value)} {oc10 dc10 pm10 cd10 ct10 : Value}
    {kV10 : Value}
    (a10 : PySem.W.nsIn K mainGlobals "_law_choice" = some (some (.ref f10)))
    (l10 : K.lookup f10 = some ⟨oc10, od10, .func (PySem.W.fnOf "_law_choice" "_law_choice" (defArgs s__law_choice) (defBody s__law_choice) (defScope s__law_choice) .none kV10 dc10 pm10 an10 cd10 ct10), sl10⟩)
    (c10 : PySem.W.codeIn K cd10 "_law_choice" = true) (k10 : PySem.W.keepIn K (.ref f10) = true)
    {f11 : Addr} {od11 an11 : Option Addr} {sl11 : Array (Option Value)} {oc11 dc11 pm11 cd11 ct11 : Value}
    {kV11 : Value}
    (a11 : PySem.W.nsIn K mainGlobals "_law_tongue" = some (some (.ref f11)))
    (l11 : K.lookup f11 = some ⟨oc11, od11, .func (PySem.W.fnOf "_law_tongue" "_law_tongue" (defArgs s__law_tongue) (defBody s__law_tongue) (defScope s__law_tongue) .none kV11 dc11 pm11 an11 cd11 ct11), sl11⟩)
    (c11 : PySem.W.codeIn K cd11 "_law_tongue" = true) (k11 : PySem.W.keepIn K (.ref f11) = true)
    {f12 : Addr} {od12 an12 : Option Addr} {sl12 : Array (Option Value)} {oc12 dc12 pm12 cd12 ct12 : Value}
    {kV12 : Value}
    (a12 : PySem.W.nsIn K mainGlobals "_law_heads" = some (some (.ref f12)))
    (l12 : K.lookup f12 = some ⟨oc12, od12, .func (PySem.W.fnOf "_law_heads" "_law_heads" (defArgs s__law_heads) (defBody s__law_heads) (defScope s__law_heads) .none kV12 dc12 pm12 an12 cd12 ct12), sl12⟩)
    (c12 : PySem.W.codeIn K cd12 "_law_heads" = true) (k12 : PySem.W.keepIn K (.ref f12) = true)
    {f13 : Addr} {od13 an13 : Option Addr} {sl13 : Array (Option Value)} {oc13 dc13 pm13 cd13 ct13 : Value}
    {kV13 : Value}
    (a13 : PySem.W.nsIn K mainGlobals "_law_top" = some (some (.ref f13)))
    (l13 : K.lookup f13 = some ⟨oc13, od13, .func (PySem.W.fnOf "_law_top" "_law_top" (defArgs s__law_top) (defBody s__law_top) (defScope s__law_top) .none kV13 dc13 pm13 an13 cd13 ct13), sl13⟩)
    (c13 : PySem.W.codeIn K cd13 "_law_top" = true) (k13 : PySem.W.keepIn K (.ref f13) = true)
    {f14 : Addr} {od14 an14 : Option Addr} {sl14 : Array (Option Value)} {oc14 dc14 pm14 cd14 ct14 : Value}
    {kV14 : Value}
    (a14 : PySem.W.nsIn K mainGlobals "_law_pattern" = some (some (.ref f14)))
    (l14 : K.lookup f14 = some ⟨oc14, od14, .func (PySem.W.fnOf "_law_pattern" "_law_pattern" (defArgs s__law_pattern) (defBody s__law_pattern) (defScope s__law_pattern) .none kV14 dc14 pm14 an14 cd14 ct14), sl14⟩)
    (c14 : PySem.W.codeIn K cd14 "_law_pattern" = true) (k14 : PySem.W.keepIn K (.ref f14) = true)
    {f15 : Addr} {od15 an15 : Option Addr} {sl15 : Array (Option Value)} {oc15 dc15 pm15 cd15 ct15 : Value}
    {kV15 : Value}
    (a15 : PySem.W.nsIn K mainGlobals "_law_spots" = some (some (.ref f15)))
    (l15 : K.lookup f15 = some ⟨oc15, od15, .func (PySem.W.fnOf "_law_spots" "_law_spots" (defArgs s__law_spots) (defBody s__law_spots) (defScope s__law_spots) .none kV15 dc15 pm15 an15 cd15 ct15), sl15⟩)
    (c15 : PySem.W.codeIn K cd15 "_law_spots" = true) (k15 : PySem.W.keepIn K (.ref f15) = true)
    {f16 : Addr} {od16 an16 : Option Addr} {sl16 : Array (Option Value)} {oc16 dc16 pm16 cd16 ct16 : Value}
    {kV16 : Value}
    (a16 : PySem.W.nsIn K mainGlobals "_law_is_name" = some (some (.ref f16)))
    (l16 : K.lookup f16 = some ⟨oc16, od16, .func (PySem.W.fnOf "_law_is_name" "_law_is_name" (defArgs s__law_is_name) (defBody s__law_is_name) (defScope s__law_is_name) .none kV16 dc16 pm16 an16 cd16 ct16), sl16⟩)
    (c16 : PySem.W.codeIn K cd16 "_law_is_name" = true) (k16 : PySem.W.keepIn K (.ref f16) = true)
    {f17 : Addr} {od17 an17 : Option Addr} {sl17 : Array (Option Value)} {oc17 dc17 pm17 cd17 ct17 : Value}
    {kV17 : Value}
    (a17 : PySem.W.nsIn K mainGlobals "_law_is_pattern" = some (some (.ref f17)))
    (l17 : K.lookup f17 = some ⟨oc17, od17, .func (PySem.W.fnOf "_law_is_pattern" "_law_is_pattern" (defArgs s__law_is_pattern) (defBody s__law_is_pattern) (defScope s__law_is_pattern) .none kV17 dc17 pm17 an17 cd17 ct17), sl17⟩)
    (c17 : PySem.W.codeIn K cd17 "_law_is_pattern" = true) (k17 : PySem.W.keepIn K (.ref f17) = true)
    {f18 : Addr} {od18 an18 : Option Addr} {sl18 : Array (Option Value)} {oc18 dc18 pm18 cd18 ct18 : Value}
    {kV18 : Value}
    (a18 : PySem.W.nsIn K mainGlobals "_law_replacement" = some (some (.ref f18)))
    (l18 : K.lookup f18 = some ⟨oc18, od18, .func (PySem.W.fnOf "_law_replacement" "_law_replacement" (defArgs s__law_replacement) (defBody s__law_replacement) (defScope s__law_replacement) .none kV18 dc18 pm18 an18 cd18 ct18), sl18⟩)
    (c18 : PySem.W.codeIn K cd18 "_law_replacement" = true) (k18 : PySem.W.keepIn K (.ref f18) = true)
    {f19 : Addr} {od19 an19 : Option Addr} {sl19 : Array (Option Value)} {oc19 dc19 pm19 cd19 ct19 : Value}
    {kV19 : Value}
    (a19 : PySem.W.nsIn K mainGlobals "_law_mutated" = some (some (.ref f19)))
    (l19 : K.lookup f19 = some ⟨oc19, od19, .func (PySem.W.fnOf "_law_mutated" "_law_mutated" (defArgs s__law_mutated) (defBody s__law_mutated) (defScope s__law_mutated) .none kV19 dc19 pm19 an19 cd19 ct19), sl19⟩)
    (c19 : PySem.W.codeIn K cd19 "_law_mutated" = true) (k19 : PySem.W.keepIn K (.ref f19) = true)
    {f20 : Addr} {od20 an20 : Option Addr} {sl20 : Array (Option Value)} {oc20 dc20 pm20 cd20 ct20 : Value}
    {kV20 : Value}
    (a20 : PySem.W.nsIn K mainGlobals "_law_free" = some (some (.ref f20)))
    (l20 : K.lookup f20 = some ⟨oc20, od20, .func (PySem.W.fnOf "_law_free" "_law_free" (defArgs s__law_free) (defBody s__law_free) (defScope s__law_free) .none kV20 dc20 pm20 an20 cd20 ct20), sl20⟩)
    (c20 : PySem.W.codeIn K cd20 "_law_free" = true) (k20 : PySem.W.keepIn K (.ref f20) = true)
    {f21 : Addr} {od21 an21 : Option Addr} {sl21 : Array (Option Value)} {oc21 dc21 pm21 cd21 ct21 : Value}
    {kV21 : Value}
    (a21 : PySem.W.nsIn K mainGlobals "_law_agrees" = some (some (.ref f21)))
    (l21 : K.lookup f21 = some ⟨oc21, od21, .func (PySem.W.fnOf "_law_agrees" "_law_agrees" (defArgs s__law_agrees) (defBody s__law_agrees) (defScope s__law_agrees) .none kV21 dc21 pm21 an21 cd21 ct21), sl21⟩)
    (c21 : PySem.W.codeIn K cd21 "_law_agrees" = true) (k21 : PySem.W.keepIn K (.ref f21) = true)
    {f22 : Addr} {od22 an22 : Option Addr} {sl22 : Array (Option Value)} {oc22 dc22 pm22 cd22 ct22 : Value}
    {kV22 : Value}
    (a22 : PySem.W.nsIn K mainGlobals "_law_kinds_right" = some (some (.ref f22)))
    (l22 : K.lookup f22 = some ⟨oc22, od22, .func (PySem.W.fnOf "_law_kinds_right" "_law_kinds_right" (defArgs s__law_kinds_right) (defBody s__law_kinds_right) (defScope s__law_kinds_right) .none kV22 dc22 pm22 an22 cd22 ct22), sl22⟩)
    (c22 : PySem.W.codeIn K cd22 "_law_kinds_right" = true) (k22 : PySem.W.keepIn K (.ref f22) = true)
    {f23 : Addr} {od23 an23 : Option Addr} {sl23 : Array (Option Value)} {oc23 dc23 pm23 cd23 ct23 : Value}
    {kV23 : Value}
    (a23 : PySem.W.nsIn K mainGlobals "law" = some (some (.ref f23)))
    (l23 : K.lookup f23 = some ⟨oc23, od23, .func (PySem.W.fnOf "law" "law" (defArgs s_law) (defBody s_law) (defScope s_law) .none kV23 dc23 pm23 an23 cd23 ct23), sl23⟩)
    (c23 : PySem.W.codeIn K cd23 "law" = true) (k23 : PySem.W.keepIn K (.ref f23) = true)
    (z_all : PySem.W.nsIn K mainGlobals "all" = some none)
    (z_bool : PySem.W.nsIn K mainGlobals "bool" = some none)
    (z_enumerate : PySem.W.nsIn K mainGlobals "enumerate" = some none)
    (z_int : PySem.W.nsIn K mainGlobals "int" = some none)
    (z_isinstance : PySem.W.nsIn K mainGlobals "isinstance" = some none)
    (z_len : PySem.W.nsIn K mainGlobals "len" = some none)
    (z_list : PySem.W.nsIn K mainGlobals "list" = some none)
    (z_range : PySem.W.nsIn K mainGlobals "range" = some none)
    (z_repr : PySem.W.nsIn K mainGlobals "repr" = some none)
    (z_sorted : PySem.W.nsIn K mainGlobals "sorted" = some none)
    (z_str : PySem.W.nsIn K mainGlobals "str" = some none)
    (z_tuple : PySem.W.nsIn K mainGlobals "tuple" = some none)
    {t_LETTERS : Tok} (y_LETTERS : PySem.W.nsIn K mainGlobals "LETTERS" = some (some (.str "abcdefghijklmnopqrstuvwxyz" t_LETTERS)))
    {t_LONGEST_NAME : Tok} (y_LONGEST_NAME : PySem.W.nsIn K mainGlobals "LONGEST_NAME" = some (some (.int 8 t_LONGEST_NAME)))
    {t_MARK : Tok} (y_MARK : PySem.W.nsIn K mainGlobals "MARK" = some (some (.str "?" t_MARK)))
    : ∃ fd : FuncData, (∀ (s : Shared) (v : Value), BindsTo s fd ⟨[v], []⟩ [("_law_script", v)]) ∧ ∀ base : Heap, K.In base → base.Ns mainGlobals mg → FnG l.prog w K mg base 17 fa fd ["_law_script"] F_law := by
  have e := hfa.symm.trans (PySem.W.mg_of X G a23)
  cases e
  have main : ∀ T : Tx K mg, T.d_law.f = fa → T.d_law.fd = PySem.W.fnOf "law" "law" (defArgs s_law) (defBody s_law) (defScope s_law) .none kV23 dc23 pm23 an23 cd23 ct23 → ∃ fd : FuncData, (∀ (s : Shared) (v : Value), BindsTo s fd ⟨[v], []⟩ [("_law_script", v)]) ∧ ∀ base : Heap, K.In base → base.Ns mainGlobals mg → FnG l.prog w K mg base 17 fa fd ["_law_script"] F_law := by
    intro T e1 e2
    refine ⟨T.d_law.fd, fun s v => ?_, fun base _ _ => ?_⟩
    · rw [e2]; exact .of_eq rfl
    · rw [← e1]; exact (G_law T).fn
  exact main {
    d_is_name := defAt_mk X G a0 l0 c0 k0 fun _ _ _ _ _ _ us hl => match us, hl with | [_], _ => rfl
    d_is_variable := defAt_mk X G a1 l1 c1 k1 fun _ _ _ _ _ _ us hl => match us, hl with | [_], _ => rfl
    d_is_pattern := defAt_mk X G a2 l2 c2 k2 fun _ _ _ _ _ _ us hl => match us, hl with | [_], _ => rfl
    d_nodes_in := defAt_mk X G a3 l3 c3 k3 fun _ _ _ _ _ _ us hl => match us, hl with | [_], _ => rfl
    d_variables_of := defAt_mk X G a4 l4 c4 k4 fun _ _ _ _ _ _ us hl => match us, hl with | [_], _ => rfl
    d_own_places := defAt_mk X G a5 l5 c5 k5 fun _ _ _ _ _ _ us hl => match us, hl with | [_], _ => rfl
    d_variable_places := defAt_mk X G a6 l6 c6 k6 fun _ _ _ _ _ _ us hl => match us, hl with | [_], _ => rfl
    d_doubled_of := defAt_mk X G a7 l7 c7 k7 fun _ _ _ _ _ _ us hl => match us, hl with | [_], _ => rfl
    d__law_feed := defAt_mk X G a8 l8 c8 k8 fun _ _ _ _ _ _ us hl => match us, hl with | [_], _ => rfl
    d__law_draw := defAt_mk X G a9 l9 c9 k9 fun _ _ _ _ _ _ us hl => match us, hl with | [_, _], _ => rfl
    d__law_choice := defAt_mk X G a10 l10 c10 k10 fun _ _ _ _ _ _ us hl => match us, hl with | [_, _], _ => rfl
    d__law_tongue := defAt_mk X G a11 l11 c11 k11 fun _ _ _ _ _ _ us hl => match us, hl with | [_], _ => rfl
    d__law_heads := defAt_mk X G a12 l12 c12 k12 fun _ _ _ _ _ _ us hl => match us, hl with | [_, _], _ => rfl
    d__law_top := defAt_mk X G a13 l13 c13 k13 fun _ _ _ _ _ _ us hl => match us, hl with | [_, _, _, _], _ => rfl
    d__law_pattern := defAt_mk X G a14 l14 c14 k14 fun _ _ _ _ _ _ us hl => match us, hl with | [_, _, _, _], _ => rfl
    d__law_spots := defAt_mk X G a15 l15 c15 k15 fun _ _ _ _ _ _ us hl => match us, hl with | [_], _ => rfl
    d__law_is_name := defAt_mk X G a16 l16 c16 k16 fun _ _ _ _ _ _ us hl => match us, hl with | [_], _ => rfl
    d__law_is_pattern := defAt_mk X G a17 l17 c17 k17 fun _ _ _ _ _ _ us hl => match us, hl with | [_], _ => rfl
    d__law_replacement := defAt_mk X G a18 l18 c18 k18 fun _ _ _ _ _ _ us hl => match us, hl with | [_, _], _ => rfl
    d__law_mutated := defAt_mk X G a19 l19 c19 k19 fun _ _ _ _ _ _ us hl => match us, hl with | [_, _], _ => rfl
    d__law_free := defAt_mk X G a20 l20 c20 k20 fun _ _ _ _ _ _ us hl => match us, hl with | [_, _], _ => rfl
    d__law_agrees := defAt_mk X G a21 l21 c21 k21 fun _ _ _ _ _ _ us hl => match us, hl with | [_], _ => rfl
    d__law_kinds_right := defAt_mk X G a22 l22 c22 k22 fun _ _ _ _ _ _ us hl => match us, hl with | [_, _], _ => rfl
    d_law := defAt_mk X G a23 l23 c23 k23 fun _ _ _ _ _ _ us hl => match us, hl with | [_], _ => rfl
    kb_variable_places_0_pattern := kbD_plain [(1, 0)] fun us ws h1 h2 => match us, ws, h1, h2 with | [], [_], _, _ => rfl
    kb_own_places_0_pattern := kbD_plain [(1, 0)] fun us ws h1 h2 => match us, ws, h1, h2 with | [], [_], _, _ => rfl
    kb_variables_of_0_pattern := kbD_plain [(1, 0)] fun us ws h1 h2 => match us, ws, h1, h2 with | [], [_], _, _ => rfl
    kb_doubled_of_0_pattern := kbD_plain [(1, 0)] fun us ws h1 h2 => match us, ws, h1, h2 with | [], [_], _, _ => rfl
    kb_is_pattern_0_thing := kbD_plain [(1, 0)] fun us ws h1 h2 => match us, ws, h1, h2 with | [], [_], _, _ => rfl
    b_all := PySem.W.mg_none_of X G z_all
    b_bool := PySem.W.mg_none_of X G z_bool
    b_enumerate := PySem.W.mg_none_of X G z_enumerate
    b_int := PySem.W.mg_none_of X G z_int
    b_isinstance := PySem.W.mg_none_of X G z_isinstance
    b_len := PySem.W.mg_none_of X G z_len
    b_list := PySem.W.mg_none_of X G z_list
    b_range := PySem.W.mg_none_of X G z_range
    b_repr := PySem.W.mg_none_of X G z_repr
    b_sorted := PySem.W.mg_none_of X G z_sorted
    b_str := PySem.W.mg_none_of X G z_str
    b_tuple := PySem.W.mg_none_of X G z_tuple
    c_LETTERS := ⟨_, PySem.W.mg_of X G y_LETTERS⟩
    c_LONGEST_NAME := ⟨_, PySem.W.mg_of X G y_LONGEST_NAME⟩
    c_MARK := ⟨_, PySem.W.mg_of X G y_MARK⟩
  } rfl rfl
end Tk
open PySem PySem.W PyProof.Rows
set_option maxRecDepth 100000 in
set_option maxHeartbeats 0 in
theorem PySem.Challenge.cw_tidyrules_k17_patterns_told_holds : PySem.Challenge.rw_tidyrules_k17_patterns_told.Holds := by
  w_on; o_law; k_head; (case hw => w_witness2)
  k_fill
  refine Td.walkG (l := PySem.Challenge.rw_tidyrules_k17_patterns_told) (n := 63) (k := 17) (x := "_law_script") (gf := Tk.F_law) rfl (by decide) rfl ⟨rfl, by decide, by decide⟩ (fun w h Y => PySem.W.kIn_of Y) ?F Tk.main
  case F =>
    intro w mg fa h KX G hmg
    refine' Tk.all_mk KX G hmg ?a0 ?l0 ?c0 ?k0 ?a1 ?l1 ?c1 ?k1 ?a2 ?l2 ?c2 ?k2 ?a3 ?l3 ?c3 ?k3 ?a4 ?l4 ?c4 ?k4 ?a5 ?l5 ?c5 ?k5 ?a6 ?l6 ?c6 ?k6 ?a7 ?l7 ?c7 ?k7 ?a8 ?l8 ?c8 ?k8 ?a9 ?l9 ?c9 ?k9 ?a10 ?l10 ?c10 ?k10 ?a11 ?l11 ?c11 ?k11 ?a12 ?l12 ?c12 ?k12 ?a13 ?l13 ?c13 ?k13 ?a14 ?l14 ?c14 ?k14 ?a15 ?l15 ?c15 ?k15 ?a16 ?l16 ?c16 ?k16 ?a17 ?l17 ?c17 ?k17 ?a18 ?l18 ?c18 ?k18 ?a19 ?l19 ?c19 ?k19 ?a20 ?l20 ?c20 ?k20 ?a21 ?l21 ?c21 ?k21 ?a22 ?l22 ?c22 ?k22 ?a23 ?l23 ?c23 ?k23 ?z_all ?z_bool ?z_enumerate ?z_int ?z_isinstance ?z_len ?z_list ?z_range ?z_repr ?z_sorted ?z_str ?z_tuple ?y_LETTERS ?y_LONGEST_NAME ?y_MARK
    (case a0 => k_is)
    (case l0 => k_is)
    (case c0 => k_is)
    (case k0 => k_is)
    (case a1 => k_is)
    (case l1 => k_is)
    (case c1 => k_is)
    (case k1 => k_is)
    (case a2 => k_is)
    (case l2 => k_is)
    (case c2 => k_is)
    (case k2 => k_is)
    (case a3 => k_is)
    (case l3 => k_is)
    (case c3 => k_is)
    (case k3 => k_is)
    (case a4 => k_is)
    (case l4 => k_is)
    (case c4 => k_is)
    (case k4 => k_is)
    (case a5 => k_is)
    (case l5 => k_is)
    (case c5 => k_is)
    (case k5 => k_is)
    (case a6 => k_is)
    (case l6 => k_is)
    (case c6 => k_is)
    (case k6 => k_is)
    (case a7 => k_is)
    (case l7 => k_is)
    (case c7 => k_is)
    (case k7 => k_is)
    (case a8 => k_is)
    (case l8 => k_is)
    (case c8 => k_is)
    (case k8 => k_is)
    (case a9 => k_is)
    (case l9 => k_is)
    (case c9 => k_is)
    (case k9 => k_is)
    (case a10 => k_is)
    (case l10 => k_is)
    (case c10 => k_is)
    (case k10 => k_is)
    (case a11 => k_is)
    (case l11 => k_is)
    (case c11 => k_is)
    (case k11 => k_is)
    (case a12 => k_is)
    (case l12 => k_is)
    (case c12 => k_is)
    (case k12 => k_is)
    (case a13 => k_is)
    (case l13 => k_is)
    (case c13 => k_is)
    (case k13 => k_is)
    (case a14 => k_is)
    (case l14 => k_is)
    (case c14 => k_is)
    (case k14 => k_is)
    (case a15 => k_is)
    (case l15 => k_is)
    (case c15 => k_is)
    (case k15 => k_is)
    (case a16 => k_is)
    (case l16 => k_is)
    (case c16 => k_is)
    (case k16 => k_is)
    (case a17 => k_is)
    (case l17 => k_is)
    (case c17 => k_is)
    (case k17 => k_is)
    (case a18 => k_is)
    (case l18 => k_is)
    (case c18 => k_is)
    (case k18 => k_is)
    (case a19 => k_is)
    (case l19 => k_is)
    (case c19 => k_is)
    (case k19 => k_is)
    (case a20 => k_is)
    (case l20 => k_is)
    (case c20 => k_is)
    (case k20 => k_is)
    (case a21 => k_is)
    (case l21 => k_is)
    (case c21 => k_is)
    (case k21 => k_is)
    (case a22 => k_is)
    (case l22 => k_is)
    (case c22 => k_is)
    (case k22 => k_is)
    (case a23 => k_is)
    (case l23 => k_is)
    (case c23 => k_is)
    (case k23 => k_is)
    (case z_all => k_is)
    (case z_bool => k_is)
    (case z_enumerate => k_is)
    (case z_int => k_is)
    (case z_isinstance => k_is)
    (case z_len => k_is)
    (case z_list => k_is)
    (case z_range => k_is)
    (case z_repr => k_is)
    (case z_sorted => k_is)
    (case z_str => k_is)
    (case z_tuple => k_is)
    (case y_LETTERS => k_is)
    (case y_LONGEST_NAME => k_is)
    (case y_MARK => k_is)

